import PyProof.Rows.All
import Wide.All
import OpenK.AllK
import Wide.FinOn
import HandS.ForMost
import HandS.IsInst
import HandS.Style
import HandS.Wide
import HandS.TupAny
import HandS.Defaults
import HandS.EndBits
import HandS.Flow
import HandS.RaiseMore
import HandS.Star
import KE.LtData
import HandS.Zip
import HandS.TupLen
import HandS.Conv
import KE.KIntText
import HandS.SortRule
import HandS.DictComp
import KE.KRevSl
import HandS.Small
import HandS.ListItems
import HandS.DictTup
import KE.GoesEnumKw
import HandS.TryOnly
import KE.GoesEnum
import HandS.Deep
import HandS.TupMul
import HandS.ExcInit
import HandS.ExcIs
import PyProof.ExcClass
import PyProof.RulesRaise
import PyProof.FactsTree
import PyProof.InstStoreFacts
import PyProof.ExcBaseAll.LookupError
import PyProof.ExcBaseAll.ValueError
import PyProof.ExcBaseAll.IndexError
import HandS.ExcOwn
import HandS.ExcField
import HandS.TryMany
import HandS.ClsMeth
import KE.RegKTryMore
import KE.RegKIsAll
import KE.KDictDisplayH
import PyProof.EqKinds
import PySem.Challenge.RW_thawfield_k06_field_queries
set_option Elab.async false
set_option linter.all false
set_option maxRecDepth 100000
set_option maxHeartbeats 4000000
/-! values by data, the state, pure programs -/
namespace PL
open PySem PySem.Spec PyProof.Rows L2

def kD : Key → PyData
  | .inl i => .int i
  | .inr x => .str x
/-- a tuple whose object has no dict of its own -/
def ZT (K : PySem.W.Frag) (B : Hp) (a : Addr) (xs : List V) : Prop :=
  (∃ o, B a = some (.frz o (.tup xs)) ∧ o.dict = none) ∨
    ((∃ (o : Obj) (its : Array Value) (n : Nat), K.lookup a = some o ∧ o.cls = .type "tuple" ∧ o.dict = none ∧ o.data = .seq its n ∧ its.size ≤ sizeLine ∧ Vals xs its.toList) ∨
      ∃ ks : List Key, ks ≠ [] ∧ xs = ks.map kV ∧ B a = some (.tup xs))
/-- a thing that may change -/
structure Mu (u : Option HO) : Prop where
  ne : u ≠ none
  nt : ∀ xs, u ≠ some (.tup xs)
instance {u : Option HO} : CoeFun (Mu u) fun _ => u = none → False := ⟨Mu.ne⟩
instance {u : Option HO} : Coe (Mu u) (u ≠ none) := ⟨Mu.ne⟩
theorem Mu.of {u : Option HO} {o : HO} (h : u = some o) (n : ∀ xs, o ≠ .tup xs) : Mu u := ⟨by rw [h]; exact nofun, fun xs e => by rw [h] at e; exact n xs (Option.some.inj e)⟩
/-- the class that stands under a name at the top -/
def ClsNm (K : PySem.W.Frag) (nm : Str) (C : Addr) : Prop := PySem.W.nsIn K mainGlobals nm = some (some (.ref C))

mutual
inductive Rp (K : PySem.W.Frag) (B : Hp) : V → PyData → Prop
  | non : Rp K B .non .none
  | bl (b : Bool) : Rp K B (.bl b) (.bool b)
  | int (i : Int) : Rp K B (.int i) (.int i)
  | str (x : Str) : Rp K B (.str x) (.str x)
  | lst {a : Addr} {xs : List V} {ds : List PyData} : B a = some (.lst xs) → RpAll K B xs ds → Rp K B (.ref a) (.list ds)
  | tup {a : Addr} {xs : List V} {ds : List PyData} : ZT K B a xs → RpAll K B xs ds → Rp K B (.ref a) (.tuple ds)
  | dic {a : Addr} {kvs : List (Key × V)} {es : List (PyData × PyData)} : Rd B a (.dK kvs) → RpKv K B kvs es → Rp K B (.ref a) (.dict es)
  | dct {a : Addr} {kvs : List (List Key × V)} {es : List (PyData × PyData)} : Rd B a (.dT kvs) → RpKt K B kvs es → Rp K B (.ref a) (.dict ((.bool true, .none) :: es))
  | obj {a C dx : Addr} {nm : Str} {vs : List (Str × V)} {es : List (PyData × PyData)} : ClsNm K nm C → B a = some (.ins C dx vs) → RpFs K B vs es → Rp K B (.ref a) (.dict ((.none, .str nm) :: es))
  /-- a def as a value -/
  | fn {a : Addr} {nm : Str} : ClsNm K nm a → Rp K B (.ref a) (.dict [(.bool false, .str nm)])
inductive RpAll (K : PySem.W.Frag) (B : Hp) : List V → List PyData → Prop
  | nil : RpAll K B [] []
  | cons {v : V} {vs : List V} {d : PyData} {ds : List PyData} : Rp K B v d → RpAll K B vs ds → RpAll K B (v :: vs) (d :: ds)
inductive RpKv (K : PySem.W.Frag) (B : Hp) : List (Key × V) → List (PyData × PyData) → Prop
  | nil : RpKv K B [] []
  | cons {k : Key} {v : V} {kvs : List (Key × V)} {d : PyData} {es : List (PyData × PyData)} : Rp K B v d → RpKv K B kvs es → RpKv K B ((k, v) :: kvs) ((kD k, d) :: es)
inductive RpKt (K : PySem.W.Frag) (B : Hp) : List (List Key × V) → List (PyData × PyData) → Prop
  | nil : RpKt K B [] []
  | cons {k : List Key} {v : V} {kvs : List (List Key × V)} {d : PyData} {es : List (PyData × PyData)} : Rp K B v d → RpKt K B kvs es → RpKt K B ((k, v) :: kvs) ((.tuple (k.map kD), d) :: es)
inductive RpFs (K : PySem.W.Frag) (B : Hp) : List (Str × V) → List (PyData × PyData) → Prop
  | nil : RpFs K B [] []
  | cons {k : Str} {v : V} {kvs : List (Str × V)} {d : PyData} {es : List (PyData × PyData)} : Rp K B v d → RpFs K B kvs es → RpFs K B ((k, v) :: kvs) ((.str k, d) :: es)
end

section
variable {K : PySem.W.Frag} {B B' H H' : Hp}
theorem zt_mono (e : Same B B') {a : Addr} {xs : List V} (h : ZT K B a xs) : ZT K B' a xs := by
  rcases h with ⟨o, h, z⟩ | h
  · exact .inl ⟨o, e _ _ h, z⟩
  · rcases h with h | ⟨ks, h0, h1, h2⟩
    · exact .inr (.inl h)
    · exact .inr (.inr ⟨ks, h0, h1, e _ _ h2⟩)
theorem ZT.sq {a : Addr} {xs : List V} (h : ZT K B a xs) : SqT K B a xs := by
  rcases h with ⟨o, h, z⟩ | ⟨o, its, n, h1, h2, h3, h4⟩ | ⟨ks, h0, h1, h2⟩
  · exact .inl (.inr ⟨o, h⟩)
  · exact .inr ⟨o, its, n, h1, h2, h4⟩
  · exact .inl (.inl h2)
theorem rd_mono (e : Same B B') {a : Addr} {u : HO} (h : Rd B a u) : Rd B' a u := by
  rcases h with h | ⟨o, h⟩
  · exact .inl (e _ _ h)
  · exact .inr ⟨o, e _ _ h⟩
theorem rd_uniq {a : Addr} {u u' : HO} (h : Rd B a u) (h' : Rd B a u') (n : ∀ o v, u ≠ .frz o v) (n' : ∀ o v, u' ≠ .frz o v) : u = u' := by
  rcases h with h | ⟨o, h⟩ <;> rcases h' with h' | ⟨o', h'⟩ <;> rw [h] at h'
  · exact Option.some.inj h'
  · exact absurd (Option.some.inj h') (n _ _)
  · exact absurd (Option.some.inj h').symm (n' _ _)
  · cases h'; rfl
theorem sqT_mono (e : Same B B') {a : Addr} {xs : List V} (h : SqT K B a xs) : SqT K B' a xs := by
  rcases h with h | h
  · exact .inl (rd_mono e h)
  · exact .inr h
theorem sqL_mono (e : Same B B') {a : Addr} {xs : List V} (h : SqL K B a xs) : SqL K B' a xs := by
  rcases h with h | h
  · exact .inl (rd_mono e h)
  · exact .inr h
mutual
theorem Rp.mono (e : Same B B') : ∀ {v : V} {d : PyData}, Rp K B v d → Rp K B' v d
  | _, _, .non => .non
  | _, _, .bl b => .bl b
  | _, _, .int i => .int i
  | _, _, .str x => .str x
  | _, _, .lst h r => .lst (e _ _ h) (RpAll.mono e r)
  | _, _, .tup h r => .tup (zt_mono e h) (RpAll.mono e r)
  | _, _, .dic h r => .dic (rd_mono e h) (RpKv.mono e r)
  | _, _, .dct h r => .dct (rd_mono e h) (RpKt.mono e r)
  | _, _, .obj c h r => .obj c (e _ _ h) (RpFs.mono e r)
  | _, _, .fn c => .fn c
theorem RpAll.mono (e : Same B B') : ∀ {vs : List V} {ds : List PyData}, RpAll K B vs ds → RpAll K B' vs ds
  | _, _, .nil => .nil
  | _, _, .cons h r => .cons (Rp.mono e h) (RpAll.mono e r)
theorem RpKv.mono (e : Same B B') : ∀ {kvs : List (Key × V)} {es : List (PyData × PyData)}, RpKv K B kvs es → RpKv K B' kvs es
  | _, _, .nil => .nil
  | _, _, .cons h r => .cons (Rp.mono e h) (RpKv.mono e r)
theorem RpKt.mono (e : Same B B') : ∀ {kvs : List (List Key × V)} {es : List (PyData × PyData)}, RpKt K B kvs es → RpKt K B' kvs es
  | _, _, .nil => .nil
  | _, _, .cons h r => .cons (Rp.mono e h) (RpKt.mono e r)
theorem RpFs.mono (e : Same B B') : ∀ {kvs : List (Str × V)} {es : List (PyData × PyData)}, RpFs K B kvs es → RpFs K B' kvs es
  | _, _, .nil => .nil
  | _, _, .cons h r => .cons (Rp.mono e h) (RpFs.mono e r)
end
/-- what stands there stands there; a dict, perhaps locked -/
def IsDk : HO → Prop | .dK _ => True | .dT _ => True | _ => False
structure Tr (B B' : Hp) : Prop where
  lst : ∀ a xs, B a = some (.lst xs) → B' a = some (.lst xs)
  fls : ∀ a o xs, B a = some (.frz o (.lst xs)) → B' a = some (.frz o (.lst xs))
  tup : ∀ a xs, B a = some (.tup xs) → B' a = some (.tup xs)
  ftp : ∀ a o xs, B a = some (.frz o (.tup xs)) → B' a = some (.frz o (.tup xs))
  dic : ∀ a u, IsDk u → Rd B a u → Rd B' a u
  ins : ∀ a C dx vs, B a = some (.ins C dx vs) → B' a = some (.ins C dx vs)
theorem zt_tr (e : Tr B B') {a : Addr} {xs : List V} (h : ZT K B a xs) : ZT K B' a xs := by
  rcases h with ⟨o, h, z⟩ | h
  · exact .inl ⟨o, e.ftp _ _ _ h, z⟩
  · rcases h with h | ⟨ks, h0, h1, h2⟩
    · exact .inr (.inl h)
    · exact .inr (.inr ⟨ks, h0, h1, e.tup _ _ h2⟩)
mutual
theorem Rp.tr (e : Tr B B') : ∀ {v : V} {d : PyData}, Rp K B v d → Rp K B' v d
  | _, _, .non => .non
  | _, _, .bl b => .bl b
  | _, _, .int i => .int i
  | _, _, .str x => .str x
  | _, _, .lst h r => .lst (e.lst _ _ h) (RpAll.tr e r)
  | _, _, .tup h r => .tup (zt_tr e h) (RpAll.tr e r)
  | _, _, .dic h r => .dic (e.dic _ _ trivial h) (RpKv.tr e r)
  | _, _, .dct h r => .dct (e.dic _ _ trivial h) (RpKt.tr e r)
  | _, _, .obj c h r => .obj c (e.ins _ _ _ _ h) (RpFs.tr e r)
  | _, _, .fn c => .fn c
theorem RpAll.tr (e : Tr B B') : ∀ {vs : List V} {ds : List PyData}, RpAll K B vs ds → RpAll K B' vs ds
  | _, _, .nil => .nil
  | _, _, .cons h r => .cons (Rp.tr e h) (RpAll.tr e r)
theorem RpKv.tr (e : Tr B B') : ∀ {kvs : List (Key × V)} {es : List (PyData × PyData)}, RpKv K B kvs es → RpKv K B' kvs es
  | _, _, .nil => .nil
  | _, _, .cons h r => .cons (Rp.tr e h) (RpKv.tr e r)
theorem RpKt.tr (e : Tr B B') : ∀ {kvs : List (List Key × V)} {es : List (PyData × PyData)}, RpKt K B kvs es → RpKt K B' kvs es
  | _, _, .nil => .nil
  | _, _, .cons h r => .cons (Rp.tr e h) (RpKt.tr e r)
theorem RpFs.tr (e : Tr B B') : ∀ {kvs : List (Str × V)} {es : List (PyData × PyData)}, RpFs K B kvs es → RpFs K B' kvs es
  | _, _, .nil => .nil
  | _, _, .cons h r => .cons (Rp.tr e h) (RpFs.tr e r)
end
theorem same_new {o : HO} {p : Addr} (h : H p = none) : Same H (upd H p o) := fun b x e => by
  rw [upd_ne (ne_of_none e h)]
  exact e
theorem RpAll.length : ∀ {vs : List V} {ds : List PyData}, RpAll K B vs ds → vs.length = ds.length
  | _, _, .nil => rfl
  | _, _, .cons _ t => congrArg Nat.succ (RpAll.length t)
theorem RpAll.get : ∀ {vs : List V} {ds : List PyData} {i : Nat} {d : PyData}, RpAll K B vs ds → ds[i]? = some d → ∃ v, vs[i]? = some v ∧ Rp K B v d
  | _, _, _, _, .nil, e => by simp at e
  | _, _, 0, _, .cons h _, e => by simp at e; subst e; exact ⟨_, rfl, h⟩
  | _, _, i + 1, d, .cons _ t, e => by
    obtain ⟨u, h1, h2⟩ := RpAll.get (i := i) (d := d) t (by simpa using e)
    exact ⟨u, by simpa using h1, h2⟩
theorem RpAll.app : ∀ {vs ws : List V} {ds es : List PyData}, RpAll K B vs ds → RpAll K B ws es → RpAll K B (vs ++ ws) (ds ++ es)
  | _, _, _, _, .nil, s => s
  | _, _, _, _, .cons h t, s => .cons h (RpAll.app t s)
theorem RpAll.take : ∀ {vs : List V} {ds : List PyData} (n : Nat), RpAll K B vs ds → RpAll K B (vs.take n) (ds.take n)
  | _, _, 0, _ => .nil
  | _, _, _ + 1, .nil => .nil
  | _, _, n + 1, .cons h t => .cons h (RpAll.take n t)
theorem RpAll.drop : ∀ {vs : List V} {ds : List PyData} (n : Nat), RpAll K B vs ds → RpAll K B (vs.drop n) (ds.drop n)
  | _, _, 0, h => h
  | _, _, _ + 1, .nil => .nil
  | _, _, n + 1, .cons _ t => RpAll.drop n t
theorem RpAll.rev : ∀ {vs : List V} {ds : List PyData}, RpAll K B vs ds → RpAll K B vs.reverse ds.reverse
  | _, _, .nil => .nil
  | _, _, .cons h t => by
    rw [List.reverse_cons, List.reverse_cons]
    exact RpAll.app (RpAll.rev t) (.cons h .nil)
theorem RpAll.set : ∀ {vs : List V} {ds : List PyData} (i : Nat) {v : V} {d : PyData}, RpAll K B vs ds → Rp K B v d → RpAll K B (vs.set i v) (ds.set i d)
  | _, _, _, _, _, .nil, _ => .nil
  | _, _, 0, _, _, .cons _ t, r => .cons r t
  | _, _, i + 1, _, _, .cons h t, r => .cons h (RpAll.set i t r)
theorem rpAll_ints : ∀ ns : List Int, RpAll K B (ns.map V.int) (ns.map PyData.int)
  | [] => .nil
  | n :: ns => .cons (.int n) (rpAll_ints ns)
theorem bools_of : ∀ {ns : List Bool} {vs : List V}, RpAll K B vs (ns.map PyData.bool) → vs = ns.map V.bl
  | [], _, .nil => rfl
  | n :: ns, _, .cons h t => by
    cases h
    rw [bools_of t]; rfl
theorem strs_of : ∀ {ns : List Str} {vs : List V}, RpAll K B vs (ns.map PyData.str) → vs = ns.map V.str
  | [], _, .nil => rfl
  | n :: ns, _, .cons h t => by
    cases h
    rw [strs_of t]; rfl
theorem ints_of : ∀ {ns : List Int} {vs : List V}, RpAll K B vs (ns.map PyData.int) → vs = ns.map V.int
  | [], _, .nil => rfl
  | n :: ns, _, .cons h t => by
    cases h
    rw [ints_of t]; rfl
end

/-! ### pure programs over a state -/
abbrev W (S α : Type) := S → (α → S → Prop) → Prop
section
variable {S α β γ : Type}
def wpure (a : α) : W S α := fun s Q => Q a s
def wbind (m : W S α) (k : α → W S β) : W S β := fun s Q => m s fun a s' => k a s' Q
def wfail : W S α := fun _ _ => False
def wreq (p : Prop) (a : α) : W S α := fun s Q => p ∧ Q a s
def wlift (m : W Unit α) : W S α := fun s Q => m () fun a _ => Q a s
def wcond (t : Bool) (a b : W S α) : W S α := match t with | true => a | false => b
def wite (t : W S Bool) (a b : W S α) : W S α := wbind t fun c => wcond c a b
def wand (a b : W S Bool) : W S Bool := wbind a fun c => wcond c b (wpure false)
def wor (a b : W S Bool) : W S Bool := wbind a fun c => wcond c (wpure true) b
def wnot (a : W S Bool) : W S Bool := wbind a fun c => wpure (!c)
def toB : PyData → W S Bool | .bool b => wpure b | _ => wfail
def wB (a : W S PyData) : W S Bool := wbind a toB
inductive Fl (α : Type) where
  | nx (a : α)
  | rt (d : PyData)
/-- behind a statement -/
def fbind (m : W S (Fl α)) (k : α → W S (Fl β)) : W S (Fl β) := wbind m fun x => match x with | .nx a => k a | .rt d => wpure (.rt d)
def wnx (a : α) : W S (Fl α) := wpure (.nx a)
def wret (m : W S PyData) : W S (Fl α) := wbind m fun d => wpure (.rt d)
def wfor (k : PyData → α → W S (Fl α)) : List PyData → α → W S (Fl α)
  | [], a => wnx a
  | x :: xs, a => fbind (k x a) fun a' => wfor k xs a'
def wwhileN (t : α → W S Bool) (k : α → W S (Fl α)) : Nat → α → W S (Fl α)
  | 0, _ => wfail
  | n + 1, a => wbind (t a) fun c => wcond c (fbind (k a) (wwhileN t k n)) (wnx a)
def wwhile (t : α → W S Bool) (k : α → W S (Fl α)) (a : α) : W S (Fl α) := fun s Q => ∃ n, wwhileN t k n a s Q
/-- [e for x in it if t] -/
def wlc (f : PyData → W S (Option PyData)) : List PyData → W S (List PyData)
  | [] => wpure []
  | x :: xs => wbind (f x) fun o => wbind (wlc f xs) fun r => wpure (match o with | some d => d :: r | none => r)
end

/-! ### the state -/
inductive PS where
  | un
  | dat (d : PyData)
  /-- may be read: an object that another def, or this one, may hold -/
  | vw (d : PyData)
  /-- .. at a known place -/
  | pv (p : Addr) (d : PyData)
  /-- a list or dict that this def alone holds, and may change -/
  | own (d : PyData)
  /-- the resource -/
  | dk
  /-- a dict that never changes itself; the dicts in it may -/
  | nt (p : Addr) (d : PyData)
inductive RK where | dat | own | nt | bn (p : Addr)

/-- what a def finds: the frozen part, the heap, the resource -/
structure Cf (S : Type) where
  B0 : Hp
  H0 : Hp
  ad : List Addr
  root : Addr
  pre : ∀ a ∈ ad, H0 a ≠ none ∧ B0 a = none
  bh : Same B0 H0
/-- the resource: its state, its root, its places -/
class Res (S : Type) where
  ok : S → Addr → List Addr → Hp → Hp → Prop
  loc : ∀ s r ad B B' H H', Same B B' → (∀ a ∈ ad, H' a = H a) → ok s r ad B H → ok s r ad B' H'
  nt : ∀ s r ad B H, ok s r ad B H → ∀ a ∈ ad, ∀ xs, H a ≠ some (.tup xs)
  tr : ∀ s r ad B B' H H', Tr B B' → (∀ a ∈ ad, H' a = H a) → ok s r ad B H → ok s r ad B' H'
instance : Res Unit := ⟨fun _ _ ad _ H => ∀ a ∈ ad, ∀ xs, H a ≠ some (.tup xs), fun _ _ _ _ _ _ _ _ g h a ha xs => by rw [g a ha]; exact h a ha xs, fun _ _ _ _ _ h => h, fun _ _ _ _ _ _ _ _ g h a ha xs => by rw [g a ha]; exact h a ha xs⟩
def Cf.ok {S : Type} [Res S] (C : Cf S) (s : S) (B H : Hp) : Prop := Res.ok s C.root C.ad B H
theorem Cf.loc {S : Type} [Res S] (C : Cf S) : ∀ s B B' H H', Same B B' → (∀ a ∈ C.ad, H' a = H a) → C.ok s B H → C.ok s B' H' := fun s B B' H H' e h q => Res.loc s C.root C.ad B B' H H' e h q

/-- a tuple that stood there before -/
def Old (H : Hp) (ad : List Addr) (a : Addr) (o : HO) : Prop := ∃ xs, o = .tup xs ∧ H a = some o ∧ a ∉ ad
structure Hs {S : Type} [Res S] (C : Cf S) (B H : Hp) (s : S) : Prop where
  ex : Same B H
  eb : Same C.B0 B
  nb : ∀ a o, B a = some o → C.B0 a = some o ∨ (C.H0 a = none ∨ Old C.H0 C.ad a o)
  fr : ∀ a o, C.H0 a = some o → a ∉ C.ad → H a = some o
  al : ∀ a, H a = none → C.H0 a = none
  ok : C.ok s B H
/-- what stays readable through the def -/
def Gh {S : Type} (C : Cf S) (B : Hp) : Hp := fun a => match B a with | some o => some o | none => open Classical in if a ∈ C.ad then none else C.H0 a
/-- the script as a datum -/
def scrD (ns : List Int) : PyData := .dict [(.none, .list (ns.map .int))]
def OwnOk (K : PySem.W.Frag) (B : Hp) : HO → PyData → Prop
  | .lst xs, .list ds => RpAll K B xs ds
  | .dK kvs, .dict es => RpKv K B kvs es
  | .dT kvs, .dict ((.bool true, .none) :: es) => RpKt K B kvs es
  | .ins C _ vs, .dict ((.none, .str nm) :: es) => ClsNm K nm C ∧ RpFs K B vs es
  | _, _ => False
/-- a dict of own things: its datum, its parts -/
def ntD (es : List (PyData × PyData)) : PyData := .dict ((.list [], .none) :: es)
/-- the one part of a net that is a list and stays as it is -/
def unusedK : Str := "unused"
inductive NtKv (K : PySem.W.Frag) (B H : Hp) : List (Key × V) → List (PyData × PyData) → List Addr → Prop
  | nil : NtKv K B H [] [] []
  | lst {a : Addr} {xs : List V} {ds : List PyData} {kvs : List (Key × V)} {es : List (PyData × PyData)} {qs : List Addr} : B a = some (.lst xs) → RpAll K B xs ds → NtKv K B H kvs es qs → NtKv K B H ((.inr unusedK, .ref a) :: kvs) ((.str unusedK, .list ds) :: es) qs
  | cons {x : Str} {q : Addr} {o : HO} {d : PyData} {kvs : List (Key × V)} {es : List (PyData × PyData)} {qs : List Addr} : x ≠ unusedK → H q = some o → OwnOk K B o d → NtKv K B H kvs es qs → NtKv K B H ((.inr x, .ref q) :: kvs) ((.str x, d) :: es) (q :: qs)
def NtOk (K : PySem.W.Frag) (B H : Hp) (p : Addr) (d : PyData) (qs : List Addr) : Prop := ∃ kvs es, d = ntD es ∧ Rd B p (.dK kvs) ∧ NtKv K B H kvs es qs
/-- a part of such a dict, as it is read -/
inductive SV (K : PySem.W.Frag) (B H : Hp) : V → PyData → Prop
  | rp {v : V} {d : PyData} : Rp K B v d → SV K B H v d
  | lst {a : Addr} {xs : List V} {ds : List PyData} : H a = some (.lst xs) → RpAll K B xs ds → SV K B H (.ref a) (.list ds)
  | dic {a : Addr} {kvs : List (Key × V)} {es : List (PyData × PyData)} : Rd H a (.dK kvs) → RpKv K B kvs es → SV K B H (.ref a) (.dict es)
  | dct {a : Addr} {kvs : List (List Key × V)} {es : List (PyData × PyData)} : Rd H a (.dT kvs) → RpKt K B kvs es → SV K B H (.ref a) (.dict ((.bool true, .none) :: es))
  | obj {a C dx : Addr} {nm : Str} {vs : List (Str × V)} {es : List (PyData × PyData)} : ClsNm K nm C → H a = some (.ins C dx vs) → RpFs K B vs es → SV K B H (.ref a) (.dict ((.none, .str nm) :: es))
inductive NvKv (K : PySem.W.Frag) (B H : Hp) : List (Key × V) → List (PyData × PyData) → Prop
  | nil : NvKv K B H [] []
  | cons {x : Str} {v : V} {d : PyData} {kvs : List (Key × V)} {es : List (PyData × PyData)} : SV K B H v d → NvKv K B H kvs es → NvKv K B H ((.inr x, v) :: kvs) ((.str x, d) :: es)
/-- by what stands at the place itself; its parts are frozen -/
inductive SR (K : PySem.W.Frag) (B H : Hp) : V → PyData → Prop
  | rp {v : V} {d : PyData} : Rp K B v d → SR K B H v d
  | lst {a : Addr} {xs : List V} {ds : List PyData} : H a = some (.lst xs) → RpAll K B xs ds → SR K B H (.ref a) (.list ds)
  /-- the script -/
  | scr {a : Addr} {ns : List Int} : SqL K H a (ns.map V.int) → SR K B H (.ref a) (scrD ns)
  | dic {a : Addr} {kvs : List (Key × V)} {es : List (PyData × PyData)} : Rd H a (.dK kvs) → RpKv K B kvs es → SR K B H (.ref a) (.dict es)
  | dct {a : Addr} {kvs : List (List Key × V)} {es : List (PyData × PyData)} : Rd H a (.dT kvs) → RpKt K B kvs es → SR K B H (.ref a) (.dict ((.bool true, .none) :: es))
  | obj {a C dx : Addr} {nm : Str} {vs : List (Str × V)} {es : List (PyData × PyData)} : ClsNm K nm C → H a = some (.ins C dx vs) → RpFs K B vs es → SR K B H (.ref a) (.dict ((.none, .str nm) :: es))
  | nt {p : Addr} {kvs : List (Key × V)} {es : List (PyData × PyData)} : Rd B p (.dK kvs) → NvKv K B H kvs es → SR K B H (.ref p) (.dict ((.list [], .none) :: es))
section
variable {S : Type}
inductive Sls (K : PySem.W.Frag) (C : Cf S) (B H : Hp) : List Addr → List PS → L2.St → Prop
  | nil : Sls K C B H [] [] []
  | un {A : List Addr} {ρ : List PS} {σ : L2.St} {o : Option V} : Sls K C B H A ρ σ → Sls K C B H A (.un :: ρ) (o :: σ)
  | dat {A : List Addr} {ρ : List PS} {σ : L2.St} {v : V} {d : PyData} : Rp K B v d → Sls K C B H A ρ σ → Sls K C B H A (.dat d :: ρ) (some v :: σ)
  | vw {A : List Addr} {ρ : List PS} {σ : L2.St} {v : V} {d : PyData} : SR K B (Gh C B) v d → Sls K C B H A ρ σ → Sls K C B H A (.vw d :: ρ) (some v :: σ)
  | pv {A : List Addr} {ρ : List PS} {σ : L2.St} {p : Addr} {d : PyData} : SR K B (Gh C B) (.ref p) d → Sls K C B H A ρ σ → Sls K C B H A (.pv p d :: ρ) (some (.ref p) :: σ)
  | own {A : List Addr} {ρ : List PS} {σ : L2.St} {p : Addr} {o : HO} {d : PyData} : H p = some o → OwnOk K B o d → B p = none → C.H0 p = none → p ∉ A → Sls K C B H A ρ σ → Sls K C B H (p :: A) (.own d :: ρ) (some (.ref p) :: σ)
  | dk {A : List Addr} {ρ : List PS} {σ : L2.St} : Sls K C B H A ρ σ → Sls K C B H A (.dk :: ρ) (some (.ref C.root) :: σ)
  | nt {A qs : List Addr} {ρ : List PS} {σ : L2.St} {p : Addr} {d : PyData} : NtOk K B H p d qs → qs.Nodup → (∀ q ∈ qs, B q = none ∧ C.H0 q = none ∧ q ∉ A) → Sls K C B H A ρ σ → Sls K C B H (qs ++ A) (.nt p d :: ρ) (some (.ref p) :: σ)
end
section
variable {S : Type} [Res S] {K : PySem.W.Frag} {C : Cf S} {B B' H H' G G' : Hp} {s s' : S} {A : List Addr} {ρ : List PS} {σ : L2.St} {v : V} {d : PyData} {p : Addr}
theorem OwnOk.mono (e : Same B B') {o : HO} {d : PyData} (h : OwnOk K B o d) : OwnOk K B' o d := by
  unfold OwnOk at h ⊢
  split at h
  · exact RpAll.mono e h
  · exact RpKv.mono e h
  · exact RpKt.mono e h
  · exact ⟨h.1, RpFs.mono e h.2⟩
  · exact h.elim
theorem NtKv.mono (e : Same B B') {kvs : List (Key × V)} {es : List (PyData × PyData)} {qs : List Addr} (h : NtKv K B H kvs es qs) (g : ∀ q ∈ qs, ∀ o, H q = some o → H' q = some o) : NtKv K B' H' kvs es qs := by
  induction h with
  | nil => exact .nil
  | lst h1 h2 _ ih => exact .lst (e _ _ h1) (h2.mono e) (ih g)
  | cons h0 h1 h2 _ ih => exact .cons h0 (g _ List.mem_cons_self _ h1) (h2.mono e) (ih fun q hq => g q (List.mem_cons_of_mem _ hq))
theorem NtOk.mono (e : Same B B') {qs : List Addr} (h : NtOk K B H p d qs) (g : ∀ q ∈ qs, ∀ o, H q = some o → H' q = some o) : NtOk K B' H' p d qs := by
  obtain ⟨kvs, es, e1, e2, e3⟩ := h
  exact ⟨kvs, es, e1, rd_mono e e2, e3.mono e g⟩
theorem SV.mono (e : Same B B') (g : Same H H') (h : SV K B H v d) : SV K B' H' v d := by
  cases h with
  | rp h => exact .rp (h.mono e)
  | lst h r => exact .lst (g _ _ h) (r.mono e)
  | dic h r => exact .dic (rd_mono g h) (r.mono e)
  | dct h r => exact .dct (rd_mono g h) (r.mono e)
  | obj c h r => exact .obj c (g _ _ h) (r.mono e)
theorem SV.tr (e : Tr B B') (g : Tr H H') (h : SV K B H v d) : SV K B' H' v d := by
  cases h with
  | rp h => exact .rp (h.tr e)
  | lst h r => exact .lst (g.lst _ _ h) (r.tr e)
  | dic h r => exact .dic (g.dic _ _ trivial h) (r.tr e)
  | dct h r => exact .dct (g.dic _ _ trivial h) (r.tr e)
  | obj c h r => exact .obj c (g.ins _ _ _ _ h) (r.tr e)
theorem NvKv.mono (e : Same B B') (g : Same H H') {kvs : List (Key × V)} {es : List (PyData × PyData)} (h : NvKv K B H kvs es) : NvKv K B' H' kvs es := by
  induction h with
  | nil => exact .nil
  | cons h1 _ ih => exact .cons (h1.mono e g) ih
theorem NvKv.tr (e : Tr B B') (g : Tr H H') {kvs : List (Key × V)} {es : List (PyData × PyData)} (h : NvKv K B H kvs es) : NvKv K B' H' kvs es := by
  induction h with
  | nil => exact .nil
  | cons h1 _ ih => exact .cons (h1.tr e g) ih
theorem OwnOk.sv {o : HO} (h : OwnOk K B o d) (hp : H p = some o) : SV K B H (.ref p) d := by
  unfold OwnOk at h
  split at h
  · exact .lst hp h
  · exact .dic (.inl hp) h
  · exact .dct (.inl hp) h
  · exact .obj h.1 hp h.2
  · exact h.elim
theorem NtKv.nv {kvs : List (Key × V)} {es : List (PyData × PyData)} {qs : List Addr} (h : NtKv K B H kvs es qs) : NvKv K B H kvs es := by
  induction h with
  | nil => exact .nil
  | lst h1 h2 _ ih => exact .cons (.rp (.lst h1 h2)) ih
  | cons _ h1 h2 _ ih => exact .cons (h2.sv h1) ih
theorem OwnOk.mu {o : HO} {d : PyData} (h : OwnOk K B o d) (e : H p = some o) : Mu (H p) := .of e fun xs z => by subst z; exact h.elim
theorem NtKv.in {kvs : List (Key × V)} {es : List (PyData × PyData)} {qs : List Addr} (h : NtKv K B H kvs es qs) : ∀ q ∈ qs, Mu (H q) := by
  induction h with
  | nil => intro q hq; cases hq
  | lst _ _ _ ih => exact ih
  | cons _ h1 h2 _ ih =>
    intro q hq
    rcases List.mem_cons.mp hq with rfl | hq
    · exact h2.mu h1
    · exact ih q hq
theorem NtOk.in {qs : List Addr} (h : NtOk K B H p d qs) : ∀ q ∈ qs, Mu (H q) := by
  obtain ⟨kvs, es, e1, e2, e3⟩ := h
  exact e3.in
theorem NtKv.qs_eq {kvs : List (Key × V)} {es : List (PyData × PyData)} {qs : List Addr} (h : NtKv K B H kvs es qs) : (kvs.filter fun p => !decide (p.1 = .inr unusedK)).map (·.2) = qs.map V.ref := by
  induction h with
  | nil => rfl
  | lst _ _ _ ih => rw [List.filter_cons, decide_eq_true rfl, Bool.not_true, if_neg Bool.false_ne_true]; exact ih
  | cons h0 _ _ _ ih => rw [List.filter_cons, decide_eq_false (fun e => h0 (Sum.inr.inj e)), Bool.not_false, if_pos rfl, List.map_cons, List.map_cons, ih]
theorem refs_inj : ∀ {xs ys : List Addr}, xs.map V.ref = ys.map V.ref → xs = ys
  | [], [], _ => rfl
  | [], _ :: _, h => by cases h
  | _ :: _, [], h => by cases h
  | x :: xs, y :: ys, h => by
    rw [List.map_cons, List.map_cons] at h
    injection h with h1 h2
    injection h1 with h1
    rw [h1, refs_inj h2]
/-- the parts' places stay -/
theorem NtOk.same (e : Same B B') {qs rs : List Addr} {d' : PyData} (h : NtOk K B H p d qs) (g : NtOk K B' H' p d' rs) : qs = rs := by
  obtain ⟨kvs, es, rfl, e2, e3⟩ := h
  obtain ⟨kvs', es', _, e2', e3'⟩ := g
  have eq := rd_uniq (rd_mono e e2) e2' (fun _ _ => nofun) (fun _ _ => nofun)
  injection eq with eq
  subst eq
  exact refs_inj (e3.qs_eq.symm.trans e3'.qs_eq)
theorem NtOk.sr {qs : List Addr} (h : NtOk K B H p d qs) : SR K B H (.ref p) d := by
  obtain ⟨kvs, es, rfl, e2, e3⟩ := h
  exact .nt e2 e3.nv
theorem SR.mono (e : Same B B') (g : Same H H') (h : SR K B H v d) : SR K B' H' v d := by
  cases h with
  | rp h => exact .rp (h.mono e)
  | lst h r => exact .lst (g _ _ h) (r.mono e)
  | scr h => exact .scr (sqL_mono g h)
  | dic h r => exact .dic (rd_mono g h) (r.mono e)
  | dct h r => exact .dct (rd_mono g h) (r.mono e)
  | obj c h r => exact .obj c (g _ _ h) (r.mono e)
  | nt h r => exact .nt (rd_mono e h) (r.mono e g)
theorem SR.tr (e : Tr B B') (g : Tr H H') (h : SR K B H v d) : SR K B' H' v d := by
  cases h with
  | rp h => exact .rp (h.tr e)
  | lst h r => exact .lst (g.lst _ _ h) (r.tr e)
  | scr h =>
    refine .scr ?_
    rcases h with (h | ⟨o, h⟩) | h
    · exact .inl (.inl (g.lst _ _ h))
    · exact .inl (.inr ⟨o, g.fls _ _ _ h⟩)
    · exact .inr h
  | dic h r => exact .dic (g.dic _ _ trivial h) (r.tr e)
  | dct h r => exact .dct (g.dic _ _ trivial h) (r.tr e)
  | obj c h r => exact .obj c (g.ins _ _ _ _ h) (r.tr e)
  | nt h r => exact .nt (e.dic _ _ trivial h) (r.tr e g)
theorem OwnOk.sr {o : HO} (h : OwnOk K B o d) (hp : H p = some o) : SR K B H (.ref p) d := by
  unfold OwnOk at h
  split at h
  · exact .lst hp h
  · exact .dic (.inl hp) h
  · exact .dct (.inl hp) h
  · exact .obj h.1 hp h.2
  · exact h.elim
/-- frozen -/
theorem OwnOk.rp {o : HO} (h : OwnOk K B o d) (hp : B p = some o) : Rp K B (.ref p) d := by
  unfold OwnOk at h
  split at h
  · exact .lst hp h
  · exact .dic (.inl hp) h
  · exact .dct (.inl hp) h
  · exact .obj h.1 hp h.2
  · exact h.elim
theorem Hs.gh (w : Hs C B H s) : Same (Gh C B) H := fun a o e => by
  unfold Gh at e
  split at e
  · rename_i u hu
    rw [← e]
    exact w.ex a u hu
  · split at e
    · cases e
    · rename_i hn
      exact w.fr a o e hn
theorem Hs.gh2 (w : Hs C B H s) (e : Same B B') (nb : ∀ a o, B' a = some o → C.B0 a = some o ∨ (C.H0 a = none ∨ Old C.H0 C.ad a o)) : Same (Gh C B) (Gh C B') := fun a o h => by
  unfold Gh at h ⊢
  cases e1 : B a with
  | some u => rw [e1] at h; rw [e _ _ e1]; exact h
  | none =>
    rw [e1] at h
    cases e2 : B' a with
    | none => exact h
    | some u =>
      simp only at h
      split at h
      · cases h
      · rcases nb a u e2 with q | q | ⟨xs, q1, q2, q3⟩
        · rw [w.eb _ _ q] at e1; cases e1
        · rw [q] at h; cases h
        · rw [q2] at h; exact h
theorem Hs.notAd' (w : Hs C B H s) (h : C.H0 p = none) : p ∉ C.ad := fun z => (C.pre p z).1 h
theorem Hs.freeB (w : Hs C B H s) (h : H p = none) : B p = none := by
  cases e : B p with
  | none => rfl
  | some o => rw [w.ex _ _ e] at h; cases h
theorem Hs.adB (w : Hs C B H s) {a : Addr} (h : a ∈ C.ad) : B a = none := by
  cases e : B a with
  | none => rfl
  | some o =>
    rcases w.nb a o e with q | q | ⟨xs, q1, q2, q3⟩
    · rw [(C.pre a h).2] at q; cases q
    · exact absurd q (C.pre a h).1
    · exact absurd h q3
/-- the heap has grown: new things, of which some are frozen at once -/
structure Grow (B H B' H' : Hp) : Prop where
  h : Same H H'
  b : Same B B'
  x : Same B' H'
  n : ∀ a o, B' a = some o → B a = some o ∨ (H a = none ∨ ∃ xs, o = .tup xs ∧ H a = some o)
theorem Grow.keepB (g : Grow B H B' H') (hb : B p = none) (m : Mu (H p)) : B' p = none := by
  cases e : B' p with
  | none => rfl
  | some u =>
    rcases g.n _ u e with q | q | ⟨xs, q1, q2⟩
    · rw [hb] at q; cases q
    · exact (m q).elim
    · rw [q1] at q2; exact absurd q2 (m.nt xs)
theorem Grow.refl (x : Same B H) : Grow B H B H := ⟨Same.refl H, Same.refl B, x, fun _ _ e => .inl e⟩
theorem Grow.new {o : HO} (x : Same B H) (h : H p = none) : Grow B H (upd B p o) (upd H p o) := by
  have hb : B p = none := by
    cases e : B p with
    | none => rfl
    | some u => rw [x _ _ e] at h; cases h
  refine ⟨same_new h, same_new hb, fun a u e => ?_, fun a u e => ?_⟩
  · by_cases q : a = p
    · subst q; rw [upd_same] at e ⊢; exact e
    · rw [upd_ne q] at e ⊢; exact x _ _ e
  · by_cases q : a = p
    · subst q; exact .inr (.inl h)
    · rw [upd_ne q] at e; exact .inl e
/-- a new thing that is not frozen -/
theorem Grow.newU {o : HO} (x : Same B H) (h : H p = none) : Grow B H B (upd H p o) :=
  ⟨same_new h, Same.refl B, x.trans (same_new h), fun _ _ e => .inl e⟩
theorem Grow.trans {B1 H1 B2 H2 : Hp} (a : Grow B H B1 H1) (b : Grow B1 H1 B2 H2) : Grow B H B2 H2 := by
  refine ⟨a.h.trans b.h, a.b.trans b.b, b.x, fun c o e => ?_⟩
  rcases b.n c o e with q | q | ⟨xs, q1, q2⟩
  · exact a.n c o q
  · refine .inr (.inl ?_)
    cases e2 : H c with
    | none => rfl
    | some u => rw [a.h _ _ e2] at q; cases q
  · refine .inr ?_
    cases e2 : H c with
    | none => exact .inl rfl
    | some u => rw [a.h _ _ e2] at q2; exact .inr ⟨xs, q1, q2⟩
theorem Hs.oldT (w : Hs C B H s) {a : Addr} {xs : List V} (h : H a = some (.tup xs)) : C.H0 a = none ∨ Old C.H0 C.ad a (.tup xs) := by
  have na : a ∉ C.ad := fun z => Res.nt _ _ _ _ _ w.ok a z xs h
  cases e2 : C.H0 a with
  | none => exact .inl rfl
  | some u =>
    have := w.fr a u e2 na
    rw [h] at this
    cases this
    exact .inr ⟨xs, rfl, e2, na⟩
theorem Hs.grow (w : Hs C B H s) (g : Grow B H B' H') : Hs C B' H' s := by
  refine ⟨g.x, w.eb.trans g.b, fun a o e => ?_, fun a o e n => g.h _ _ (w.fr a o e n), fun a e => w.al a ?_, ?_⟩
  · rcases g.n a o e with q | q | ⟨xs, q1, q2⟩
    · exact w.nb a o q
    · exact .inr (.inl (w.al a q))
    · refine .inr ?_
      have na : a ∉ C.ad := fun z => Res.nt _ _ _ _ _ w.ok a z xs (by rw [q2, q1])
      cases e2 : C.H0 a with
      | none => exact .inl rfl
      | some u =>
        have := w.fr a u e2 na
        rw [q2] at this
        exact .inr ⟨xs, q1, by rw [e2, this], na⟩
  · cases e2 : H a with
    | none => rfl
    | some u => rw [g.h _ _ e2] at e; cases e
  · refine C.loc s B B' H H' g.b (fun a ha => ?_) w.ok
    cases e : H a with
    | none => exact absurd (w.al a e) (C.pre a ha).1
    | some u => exact g.h _ _ e
/-- the slots live on while the heap grows -/
theorem Sls.grow (w : Hs C B H s) (g : Grow B H B' H') (h : Sls K C B H A ρ σ) : Sls K C B' H' A ρ σ := by
  induction h with
  | nil => exact .nil
  | un _ ih => exact .un ih
  | dat r _ ih => exact .dat (r.mono g.b) ih
  | vw r _ ih => exact .vw (r.mono g.b (w.gh2 g.b (w.grow g).nb)) ih
  | pv r _ ih => exact .pv (r.mono g.b (w.gh2 g.b (w.grow g).nb)) ih
  | own h1 h2 h3 h4 h5 _ ih =>
    refine .own (g.h _ _ h1) (h2.mono g.b) ?_ h4 h5 ih
    rename_i o _ _ _
    cases e : B' _ with
    | none => rfl
    | some u =>
      rcases g.n _ u e with q | q | ⟨xs, q1, q2⟩
      · rw [h3] at q; cases q
      · rw [h1] at q; cases q
      · rw [h1] at q2
        cases q2
        subst q1
        exact h2.elim
  | dk _ ih => exact .dk ih
  | nt n nd hx _ ih =>
    refine .nt (n.mono g.b fun q _ o e => g.h _ _ e) nd (fun q hq => ?_) ih
    obtain ⟨x1, x2, x3⟩ := hx q hq
    refine ⟨?_, x2, x3⟩
    cases e : B' q with
    | none => rfl
    | some u =>
      rcases g.n _ u e with y | y | ⟨xs, y1, y2⟩
      · rw [x1] at y; cases y
      · exact absurd y (n.in q hq).ne
      · rw [y1] at y2; exact absurd y2 ((n.in q hq).nt xs)
theorem Sls.len (h : Sls K C B H A ρ σ) : ρ.length = σ.length := by
  induction h with
  | nil => rfl
  | un _ ih => simp [ih]
  | dat _ _ ih => simp [ih]
  | vw _ _ ih => simp [ih]
  | pv _ _ ih => simp [ih]
  | own _ _ _ _ _ _ ih => simp [ih]
  | dk _ ih => simp [ih]
  | nt _ _ _ _ ih => simp [ih]
theorem Sls.getD (h : Sls K C B H A ρ σ) : ∀ {i : Nat} {d : PyData}, ρ[i]? = some (.dat d) → ∃ v, σ[i]? = some (some v) ∧ Rp K B v d := by
  induction h with
  | nil => intro i d e; simp at e
  | un _ ih => intro i d e; cases i with | zero => simp at e | succ i => simpa using ih (by simpa using e)
  | dat r _ ih => intro i d e; cases i with | zero => (simp at e; subst e; exact ⟨_, rfl, r⟩) | succ i => simpa using ih (by simpa using e)
  | vw r _ ih => intro i d e; cases i with | zero => simp at e | succ i => simpa using ih (by simpa using e)
  | pv r _ ih => intro i d e; cases i with | zero => simp at e | succ i => simpa using ih (by simpa using e)
  | own _ _ _ _ _ _ ih => intro i d e; cases i with | zero => simp at e | succ i => simpa using ih (by simpa using e)
  | dk _ ih => intro i d e; cases i with | zero => simp at e | succ i => simpa using ih (by simpa using e)
  | nt _ _ _ _ ih => intro i d e; cases i with | zero => simp at e | succ i => simpa using ih (by simpa using e)
theorem Sls.getV (h : Sls K C B H A ρ σ) : ∀ {i : Nat} {d : PyData}, ρ[i]? = some (.vw d) → ∃ v, σ[i]? = some (some v) ∧ SR K B (Gh C B) v d := by
  induction h with
  | nil => intro i d e; simp at e
  | un _ ih => intro i d e; cases i with | zero => simp at e | succ i => simpa using ih (by simpa using e)
  | vw r _ ih => intro i d e; cases i with | zero => (simp at e; subst e; exact ⟨_, rfl, r⟩) | succ i => simpa using ih (by simpa using e)
  | pv r _ ih => intro i d e; cases i with | zero => simp at e | succ i => simpa using ih (by simpa using e)
  | dat r _ ih => intro i d e; cases i with | zero => simp at e | succ i => simpa using ih (by simpa using e)
  | own _ _ _ _ _ _ ih => intro i d e; cases i with | zero => simp at e | succ i => simpa using ih (by simpa using e)
  | dk _ ih => intro i d e; cases i with | zero => simp at e | succ i => simpa using ih (by simpa using e)
  | nt _ _ _ _ ih => intro i d e; cases i with | zero => simp at e | succ i => simpa using ih (by simpa using e)
theorem Sls.getK (h : Sls K C B H A ρ σ) : ∀ {i : Nat}, ρ[i]? = some .dk → σ[i]? = some (some (.ref C.root)) := by
  induction h with
  | nil => intro i e; simp at e
  | un _ ih => intro i e; cases i with | zero => simp at e | succ i => simpa using ih (by simpa using e)
  | dk _ ih => intro i e; cases i with | zero => rfl | succ i => simpa using ih (by simpa using e)
  | dat r _ ih => intro i e; cases i with | zero => simp at e | succ i => simpa using ih (by simpa using e)
  | vw r _ ih => intro i e; cases i with | zero => simp at e | succ i => simpa using ih (by simpa using e)
  | pv r _ ih => intro i e; cases i with | zero => simp at e | succ i => simpa using ih (by simpa using e)
  | own _ _ _ _ _ _ ih => intro i e; cases i with | zero => simp at e | succ i => simpa using ih (by simpa using e)
  | nt _ _ _ _ ih => intro i e; cases i with | zero => simp at e | succ i => simpa using ih (by simpa using e)
theorem Sls.inA (h : Sls K C B H A ρ σ) : ∀ a ∈ A, Mu (H a) ∧ B a = none ∧ C.H0 a = none := by
  induction h with
  | nil => intro a ha; cases ha
  | un _ ih => exact ih
  | dat _ _ ih => exact ih
  | vw _ _ ih => exact ih
  | pv _ _ ih => exact ih
  | dk _ ih => exact ih
  | own h1 h2 h3 h4 h5 _ ih =>
    intro a ha
    rcases List.mem_cons.mp ha with rfl | ha
    · exact ⟨h2.mu h1, h3, h4⟩
    · exact ih a ha
  | nt n nd hx _ ih =>
    intro a ha
    rcases List.mem_append.mp ha with ha | ha
    · exact ⟨n.in a ha, (hx a ha).1, (hx a ha).2.1⟩
    · exact ih a ha
/-- an own thing: its place; it may be changed, or given up -/
theorem Sls.getO (h : Sls K C B H A ρ σ) : ∀ {i : Nat} {d : PyData}, ρ[i]? = some (.own d) → ∃ p o, σ[i]? = some (some (.ref p)) ∧ H p = some o ∧ OwnOk K B o d ∧ B p = none ∧ C.H0 p = none ∧ p ∈ A := by
  induction h with
  | nil => intro i d e; simp at e
  | un _ ih => intro i d e; cases i with | zero => simp at e | succ i => simpa using ih (by simpa using e)
  | dat _ _ ih => intro i d e; cases i with | zero => simp at e | succ i => simpa using ih (by simpa using e)
  | vw _ _ ih => intro i d e; cases i with | zero => simp at e | succ i => simpa using ih (by simpa using e)
  | pv _ _ ih => intro i d e; cases i with | zero => simp at e | succ i => simpa using ih (by simpa using e)
  | dk _ ih => intro i d e; cases i with | zero => simp at e | succ i => simpa using ih (by simpa using e)
  | own h1 h2 h3 h4 h5 _ ih =>
    intro i d e
    cases i with
    | zero => simp at e; subst e; exact ⟨_, _, rfl, h1, h2, h3, h4, List.mem_cons_self⟩
    | succ i =>
      obtain ⟨p, o, a1, a2, a3, a4, a5, a6⟩ := ih (i := i) (d := d) (by simpa using e)
      exact ⟨p, o, by simpa using a1, a2, a3, a4, a5, List.mem_cons_of_mem _ a6⟩
  | nt n nd hx _ ih =>
    intro i d e
    cases i with
    | zero => simp at e
    | succ i =>
      obtain ⟨p, o, a1, a2, a3, a4, a5, a6⟩ := ih (i := i) (d := d) (by simpa using e)
      exact ⟨p, o, by simpa using a1, a2, a3, a4, a5, List.mem_append_right _ a6⟩
/-- a change at a place that no slot holds -/
theorem Sls.other (h : Sls K C B H A ρ σ) {q : Addr} {o : HO} (hq : q ∉ A) : Sls K C B (upd H q o) A ρ σ := by
  induction h with
  | nil => exact .nil
  | un _ ih => exact .un (ih hq)
  | dat r _ ih => exact .dat r (ih hq)
  | vw r _ ih => exact .vw r (ih hq)
  | pv r _ ih => exact .pv r (ih hq)
  | dk _ ih => exact .dk (ih hq)
  | own h1 h2 h3 h4 h5 _ ih =>
    refine .own ?_ h2 h3 h4 h5 (ih fun z => hq (List.mem_cons_of_mem _ z))
    rw [upd_ne (fun z => hq (by rw [← z]; exact List.mem_cons_self))]
    exact h1
  | nt n nd hx _ ih =>
    refine .nt (n.mono (Same.refl _) fun a ha u e => ?_) nd hx (ih fun z => hq (List.mem_append_right _ z))
    rw [upd_ne (fun z => hq (by rw [← z]; exact List.mem_append_left _ ha))]
    exact e
/-- a place is frozen that no slot holds -/
theorem Sls.frz (h : Sls K C B H A ρ σ) (w : Hs C B H s) {q : Addr} {o : HO} (hq : q ∉ A) (hb : B q = none) (h0 : C.H0 q = none) : Sls K C (upd B q o) H A ρ σ := by
  have e := same_new (o := o) hb
  induction h with
  | nil => exact .nil
  | un _ ih => exact .un (ih hq)
  | dat r _ ih => exact .dat (r.mono e) (ih hq)
  | vw r _ ih =>
    refine .vw (r.mono e (w.gh2 e fun a u h => ?_)) (ih hq)
    by_cases z : a = q
    · subst z; exact .inr (.inl h0)
    · rw [upd_ne z] at h; exact w.nb a u h
  | pv r _ ih =>
    refine .pv (r.mono e (w.gh2 e fun a u h => ?_)) (ih hq)
    by_cases z : a = q
    · subst z; exact .inr (.inl h0)
    · rw [upd_ne z] at h; exact w.nb a u h
  | dk _ ih => exact .dk (ih hq)
  | own h1 h2 h3 h4 h5 _ ih =>
    refine .own h1 (h2.mono e) ?_ h4 h5 (ih fun z => hq (List.mem_cons_of_mem _ z))
    rw [upd_ne (fun z => hq (by rw [← z]; exact List.mem_cons_self))]
    exact h3
  | nt n nd hx _ ih =>
    refine .nt (n.mono e fun _ _ _ z => z) nd (fun a ha => ⟨?_, (hx a ha).2⟩) (ih fun z => hq (List.mem_append_right _ z))
    rw [upd_ne (fun z => hq (by rw [← z]; exact List.mem_append_left _ ha))]
    exact (hx a ha).1
theorem Hs.frz (w : Hs C B H s) {q : Addr} {o : HO} (hq : H q = some o) (hb : B q = none) (h0 : C.H0 q = none) : Hs C (upd B q o) H s := by
  refine ⟨fun a u h => ?_, w.eb.trans (same_new hb), fun a u h => ?_, w.fr, w.al, C.loc s B _ H H (same_new hb) (fun _ _ => rfl) w.ok⟩
  · by_cases z : a = q
    · subst z; rw [upd_same] at h; rw [← h]; exact hq
    · rw [upd_ne z] at h; exact w.ex a u h
  · by_cases z : a = q
    · subst z; exact .inr (.inl h0)
    · rw [upd_ne z] at h; exact w.nb a u h
/-- a change of an own thing -/
theorem Hs.put (w : Hs C B H s) {q : Addr} {o : HO} (hb : B q = none) (h0 : C.H0 q = none) : Hs C B (upd H q o) s := by
  refine ⟨fun a u h => ?_, w.eb, w.nb, fun a u h n => ?_, fun a h => w.al a ?_, C.loc s B B H _ (Same.refl B) (fun a ha => ?_) w.ok⟩
  · rw [upd_ne (ne_of_none h hb)]; exact w.ex a u h
  · rw [upd_ne (ne_of_none h h0)]; exact w.fr a u h n
  · by_cases z : a = q
    · subst z; rw [upd_same] at h; cases h
    · rw [upd_ne z] at h; exact h
  · rw [upd_ne fun z => w.notAd' h0 (by rw [← z]; exact ha)]
/-- stores -/
theorem Sls.setD (h : Sls K C B H A ρ σ) : ∀ (i : Nat) {v : V} {d : PyData}, Rp K B v d → ∃ A', Sls K C B H A' (ρ.set i (.dat d)) (σ.set i (some v)) ∧ ∀ a ∈ A', a ∈ A := by
  induction h with
  | nil => intro i v d r; exact ⟨[], .nil, fun _ z => z⟩
  | un t ih => intro i v d r; cases i with | zero => exact ⟨_, .dat r t, fun _ z => z⟩ | succ i => (obtain ⟨A', h1, h2⟩ := ih i r; exact ⟨A', .un h1, h2⟩)
  | dat q t ih => intro i v d r; cases i with | zero => exact ⟨_, .dat r t, fun _ z => z⟩ | succ i => (obtain ⟨A', h1, h2⟩ := ih i r; exact ⟨A', .dat q h1, h2⟩)
  | vw q t ih => intro i v d r; cases i with | zero => exact ⟨_, .dat r t, fun _ z => z⟩ | succ i => (obtain ⟨A', h1, h2⟩ := ih i r; exact ⟨A', .vw q h1, h2⟩)
  | pv q t ih => intro i v d r; cases i with | zero => exact ⟨_, .dat r t, fun _ z => z⟩ | succ i => (obtain ⟨A', h1, h2⟩ := ih i r; exact ⟨A', .pv q h1, h2⟩)
  | dk t ih => intro i v d r; cases i with | zero => exact ⟨_, .dat r t, fun _ z => z⟩ | succ i => (obtain ⟨A', h1, h2⟩ := ih i r; exact ⟨A', .dk h1, h2⟩)
  | own h1 h2 h3 h4 h5 t ih =>
    intro i v d r
    cases i with
    | zero => exact ⟨_, .dat r t, fun _ z => List.mem_cons_of_mem _ z⟩
    | succ i =>
      obtain ⟨A', q1, q2⟩ := ih i r
      exact ⟨_, .own h1 h2 h3 h4 (fun z => h5 (q2 _ z)) q1, fun a z => by
        rcases List.mem_cons.mp z with rfl | z
        · exact List.mem_cons_self
        · exact List.mem_cons_of_mem _ (q2 a z)⟩
  | nt n nd hx t ih =>
    intro i v d r
    cases i with
    | zero => exact ⟨_, .dat r t, fun _ z => List.mem_append_right _ z⟩
    | succ i =>
      obtain ⟨A', q1, q2⟩ := ih i r
      exact ⟨_, .nt n nd (fun a ha => ⟨(hx a ha).1, (hx a ha).2.1, fun z => (hx a ha).2.2 (q2 _ z)⟩) q1, fun a z => by
        rcases List.mem_append.mp z with z | z
        · exact List.mem_append_left _ z
        · exact List.mem_append_right _ (q2 a z)⟩
theorem Sls.setU (h : Sls K C B H A ρ σ) : ∀ (i : Nat) (o : Option V), ∃ A', Sls K C B H A' (ρ.set i .un) (σ.set i o) ∧ ∀ a ∈ A', a ∈ A := by
  induction h with
  | nil => intro i o; exact ⟨[], .nil, fun _ z => z⟩
  | un t ih => intro i o; cases i with | zero => exact ⟨_, .un t, fun _ z => z⟩ | succ i => (obtain ⟨A', h1, h2⟩ := ih i o; exact ⟨A', .un h1, h2⟩)
  | dat q t ih => intro i o; cases i with | zero => exact ⟨_, .un t, fun _ z => z⟩ | succ i => (obtain ⟨A', h1, h2⟩ := ih i o; exact ⟨A', .dat q h1, h2⟩)
  | vw q t ih => intro i o; cases i with | zero => exact ⟨_, .un t, fun _ z => z⟩ | succ i => (obtain ⟨A', h1, h2⟩ := ih i o; exact ⟨A', .vw q h1, h2⟩)
  | pv q t ih => intro i o; cases i with | zero => exact ⟨_, .un t, fun _ z => z⟩ | succ i => (obtain ⟨A', h1, h2⟩ := ih i o; exact ⟨A', .pv q h1, h2⟩)
  | dk t ih => intro i o; cases i with | zero => exact ⟨_, .un t, fun _ z => z⟩ | succ i => (obtain ⟨A', h1, h2⟩ := ih i o; exact ⟨A', .dk h1, h2⟩)
  | own h1 h2 h3 h4 h5 t ih =>
    intro i o
    cases i with
    | zero => exact ⟨_, .un t, fun _ z => List.mem_cons_of_mem _ z⟩
    | succ i =>
      obtain ⟨A', q1, q2⟩ := ih i o
      exact ⟨_, .own h1 h2 h3 h4 (fun z => h5 (q2 _ z)) q1, fun a z => by
        rcases List.mem_cons.mp z with rfl | z
        · exact List.mem_cons_self
        · exact List.mem_cons_of_mem _ (q2 a z)⟩
  | nt n nd hx t ih =>
    intro i o
    cases i with
    | zero => exact ⟨_, .un t, fun _ z => List.mem_append_right _ z⟩
    | succ i =>
      obtain ⟨A', q1, q2⟩ := ih i o
      exact ⟨_, .nt n nd (fun a ha => ⟨(hx a ha).1, (hx a ha).2.1, fun z => (hx a ha).2.2 (q2 _ z)⟩) q1, fun a z => by
        rcases List.mem_append.mp z with z | z
        · exact List.mem_append_left _ z
        · exact List.mem_append_right _ (q2 a z)⟩
/-- a new own thing comes to a slot -/
theorem Sls.setO (h : Sls K C B H A ρ σ) : ∀ (i : Nat) {p : Addr} {o : HO} {d : PyData}, i < ρ.length → p ∉ A → H p = some o → OwnOk K B o d → B p = none → C.H0 p = none → ∃ A', Sls K C B H A' (ρ.set i (.own d)) (σ.set i (some (.ref p))) ∧ ∀ a ∈ A', a = p ∨ a ∈ A := by
  induction h with
  | nil => intro i p o d hi; simp at hi
  | un t ih =>
    intro i p o d hi hp g1 g2 g3 g4
    cases i with
    | zero => exact ⟨_, .own g1 g2 g3 g4 hp t, fun _ z => List.mem_cons.mp z⟩
    | succ i => (obtain ⟨A', h1, h2⟩ := ih i (by simpa using hi) hp g1 g2 g3 g4; exact ⟨A', .un h1, h2⟩)
  | dat q t ih =>
    intro i p o d hi hp g1 g2 g3 g4
    cases i with
    | zero => exact ⟨_, .own g1 g2 g3 g4 hp t, fun _ z => List.mem_cons.mp z⟩
    | succ i => (obtain ⟨A', h1, h2⟩ := ih i (by simpa using hi) hp g1 g2 g3 g4; exact ⟨A', .dat q h1, h2⟩)
  | vw q t ih =>
    intro i p o d hi hp g1 g2 g3 g4
    cases i with
    | zero => exact ⟨_, .own g1 g2 g3 g4 hp t, fun _ z => List.mem_cons.mp z⟩
    | succ i => (obtain ⟨A', h1, h2⟩ := ih i (by simpa using hi) hp g1 g2 g3 g4; exact ⟨A', .vw q h1, h2⟩)
  | pv q t ih =>
    intro i p o d hi hp g1 g2 g3 g4
    cases i with
    | zero => exact ⟨_, .own g1 g2 g3 g4 hp t, fun _ z => List.mem_cons.mp z⟩
    | succ i => (obtain ⟨A', h1, h2⟩ := ih i (by simpa using hi) hp g1 g2 g3 g4; exact ⟨A', .pv q h1, h2⟩)
  | dk t ih =>
    intro i p o d hi hp g1 g2 g3 g4
    cases i with
    | zero => exact ⟨_, .own g1 g2 g3 g4 hp t, fun _ z => List.mem_cons.mp z⟩
    | succ i => (obtain ⟨A', h1, h2⟩ := ih i (by simpa using hi) hp g1 g2 g3 g4; exact ⟨A', .dk h1, h2⟩)
  | own h1 h2 h3 h4 h5 t ih =>
    intro i p o d hi hp g1 g2 g3 g4
    cases i with
    | zero =>
      exact ⟨_, .own g1 g2 g3 g4 (fun z => hp (List.mem_cons_of_mem _ z)) t, fun a z => by
        rcases List.mem_cons.mp z with z | z
        · exact .inl z
        · exact .inr (List.mem_cons_of_mem _ z)⟩
    | succ i =>
      obtain ⟨A', q1, q2⟩ := ih i (by simpa using hi) (fun z => hp (List.mem_cons_of_mem _ z)) g1 g2 g3 g4
      refine ⟨_, .own h1 h2 h3 h4 (fun z => ?_) q1, fun a z => ?_⟩
      · rcases q2 _ z with q | q
        · exact hp (by rw [← q]; exact List.mem_cons_self)
        · exact h5 q
      · rcases List.mem_cons.mp z with rfl | z
        · exact .inr List.mem_cons_self
        · rcases q2 a z with q | q
          · exact .inl q
          · exact .inr (List.mem_cons_of_mem _ q)
  | nt n nd hx t ih =>
    intro i p o d hi hp g1 g2 g3 g4
    cases i with
    | zero =>
      exact ⟨_, .own g1 g2 g3 g4 (fun z => hp (List.mem_append_right _ z)) t, fun a z => by
        rcases List.mem_cons.mp z with z | z
        · exact .inl z
        · exact .inr (List.mem_append_right _ z)⟩
    | succ i =>
      obtain ⟨A', q1, q2⟩ := ih i (by simpa using hi) (fun z => hp (List.mem_append_right _ z)) g1 g2 g3 g4
      refine ⟨_, .nt n nd (fun a ha => ⟨(hx a ha).1, (hx a ha).2.1, fun z => ?_⟩) q1, fun a z => ?_⟩
      · rcases q2 _ z with q | q
        · exact hp (by rw [← q]; exact List.mem_append_left _ ha)
        · exact (hx a ha).2.2 q
      · rcases List.mem_append.mp z with z | z
        · exact .inr (List.mem_append_left _ z)
        · rcases q2 a z with q | q
          · exact .inl q
          · exact .inr (List.mem_append_right _ q)
/-- the own thing of slot i is changed, in place -/
theorem Sls.putO (h : Sls K C B H A ρ σ) : ∀ {i : Nat} {p : Addr} {o' : HO} {d d' : PyData}, ρ[i]? = some (.own d) → σ[i]? = some (some (.ref p)) → OwnOk K B o' d' → Sls K C B (upd H p o') A (ρ.set i (.own d')) σ := by
  induction h with
  | nil => intro i p o' d d' e; simp at e
  | un t ih => intro i p o' d d' e f g; cases i with | zero => simp at e | succ i => exact .un (ih (by simpa using e) (by simpa using f) g)
  | dat q t ih => intro i p o' d d' e f g; cases i with | zero => simp at e | succ i => exact .dat q (ih (by simpa using e) (by simpa using f) g)
  | vw q t ih => intro i p o' d d' e f g; cases i with | zero => simp at e | succ i => exact .vw q (ih (by simpa using e) (by simpa using f) g)
  | pv q t ih => intro i p o' d d' e f g; cases i with | zero => simp at e | succ i => exact .pv q (ih (by simpa using e) (by simpa using f) g)
  | dk t ih => intro i p o' d d' e f g; cases i with | zero => simp at e | succ i => exact .dk (ih (by simpa using e) (by simpa using f) g)
  | own h1 h2 h3 h4 h5 t ih =>
    intro i p o' d d' e f g
    cases i with
    | zero =>
      simp at f
      subst f
      exact .own upd_same g h3 h4 h5 (t.other h5)
    | succ i =>
      have e' : _ := (List.getElem?_cons_succ.symm.trans e)
      have f' : _ := (List.getElem?_cons_succ.symm.trans f)
      obtain ⟨p2, o2, a1, a2, a3, a4, a5, a6⟩ := t.getO e'
      rw [f'] at a1
      cases a1
      refine .own ?_ h2 h3 h4 h5 (ih e' f' g)
      rw [upd_ne (fun z => h5 (by rw [z]; exact a6))]
      exact h1
  | nt n nd hx t ih =>
    intro i p o' d d' e f g
    cases i with
    | zero => simp at e
    | succ i =>
      have e' : _ := (List.getElem?_cons_succ.symm.trans e)
      have f' : _ := (List.getElem?_cons_succ.symm.trans f)
      obtain ⟨p2, o2, a1, a2, a3, a4, a5, a6⟩ := t.getO e'
      rw [f'] at a1
      cases a1
      refine .nt (n.mono (Same.refl _) fun a ha u z => ?_) nd hx (ih e' f' g)
      rw [upd_ne (fun y => (hx a ha).2.2 (by rw [y]; exact a6))]
      exact z
/-- the own thing of slot i is frozen -/
theorem Sls.frzO (h : Sls K C B H A ρ σ) (w : Hs C B H s) : ∀ {i : Nat} {p : Addr} {o : HO} {d : PyData}, ρ[i]? = some (.own d) → σ[i]? = some (some (.ref p)) → H p = some o → B p = none → C.H0 p = none → ∃ A', Sls K C (upd B p o) H A' (ρ.set i (.dat d)) σ ∧ ∀ a ∈ A', a ∈ A ∧ a ≠ p := by
  induction h with
  | nil => intro i p o d e; simp at e
  | un t ih => intro i p o d e f g1 g2 g3; cases i with | zero => simp at e | succ i => (obtain ⟨A', q1, q2⟩ := ih (by simpa using e) (by simpa using f) g1 g2 g3; exact ⟨A', .un q1, q2⟩)
  | dat q t ih => intro i p o d e f g1 g2 g3; cases i with | zero => simp at e | succ i => (obtain ⟨A', q1, q2⟩ := ih (by simpa using e) (by simpa using f) g1 g2 g3; exact ⟨A', .dat (q.mono (same_new g2)) q1, q2⟩)
  | vw q t ih =>
    intro i p o d e f g1 g2 g3
    cases i with
    | zero => simp at e
    | succ i =>
      obtain ⟨A', q1, q2⟩ := ih (by simpa using e) (by simpa using f) g1 g2 g3
      refine ⟨A', .vw (q.mono (same_new g2) (w.gh2 (same_new g2) (w.frz g1 g2 g3).nb)) q1, q2⟩
  | pv q t ih =>
    intro i p o d e f g1 g2 g3
    cases i with
    | zero => simp at e
    | succ i =>
      obtain ⟨A', q1, q2⟩ := ih (by simpa using e) (by simpa using f) g1 g2 g3
      refine ⟨A', .pv (q.mono (same_new g2) (w.gh2 (same_new g2) (w.frz g1 g2 g3).nb)) q1, q2⟩
  | dk t ih => intro i p o d e f g1 g2 g3; cases i with | zero => simp at e | succ i => (obtain ⟨A', q1, q2⟩ := ih (by simpa using e) (by simpa using f) g1 g2 g3; exact ⟨A', .dk q1, q2⟩)
  | @own A0 ρ0 σ0 p0 o0 d0 h1 h2 h3 h4 h5 t ih =>
    intro i p o d e f g1 g2 g3
    cases i with
    | zero =>
      simp at e f
      subst e
      subst f
      rw [h1] at g1
      cases g1
      exact ⟨_, .dat (OwnOk.rp (h2.mono (same_new g2)) upd_same) (t.frz w h5 g2 g3), fun a z => ⟨List.mem_cons_of_mem _ z, fun y => h5 (by rw [← y]; exact z)⟩⟩
    | succ i =>
      have e' : _ := (List.getElem?_cons_succ.symm.trans e)
      have f' : _ := (List.getElem?_cons_succ.symm.trans f)
      obtain ⟨A', q1, q2⟩ := ih e' f' g1 g2 g3
      obtain ⟨p2, o2, a1, a2, a3, a4, a5, a6⟩ := t.getO e'
      rw [f'] at a1
      cases a1
      have ne : p0 ≠ p := fun z => h5 (by rw [z]; exact a6)
      refine ⟨p0 :: A', .own h1 (h2.mono (same_new g2)) (by rw [upd_ne ne]; exact h3) h4 (fun z => h5 (q2 _ z).1) q1, fun a z => ?_⟩
      rcases List.mem_cons.mp z with rfl | z
      · exact ⟨List.mem_cons_self, ne⟩
      · exact ⟨List.mem_cons_of_mem _ (q2 a z).1, (q2 a z).2⟩
  | @nt A0 qs0 ρ0 σ0 p0 d0 n nd hx t ih =>
    intro i p o d e f g1 g2 g3
    cases i with
    | zero => simp at e
    | succ i =>
      have e' : _ := (List.getElem?_cons_succ.symm.trans e)
      have f' : _ := (List.getElem?_cons_succ.symm.trans f)
      obtain ⟨A', q1, q2⟩ := ih e' f' g1 g2 g3
      obtain ⟨p2, o2, a1, a2, a3, a4, a5, a6⟩ := t.getO e'
      rw [f'] at a1
      cases a1
      have ne : ∀ a ∈ qs0, a ≠ p := fun a ha z => (hx a ha).2.2 (by rw [z]; exact a6)
      refine ⟨qs0 ++ A', .nt (n.mono (same_new g2) fun _ _ _ z => z) nd (fun a ha => ⟨by rw [upd_ne (ne a ha)]; exact (hx a ha).1, (hx a ha).2.1, fun z => (hx a ha).2.2 (q2 _ z).1⟩) q1, fun a z => ?_⟩
      rcases List.mem_append.mp z with z | z
      · exact ⟨List.mem_append_left _ z, ne a z⟩
      · exact ⟨List.mem_append_right _ (q2 a z).1, (q2 a z).2⟩
end
end PL

namespace PL
open PySem PySem.Spec PyProof.Rows L2

/-- the kinds of what an expression gives -/
inductive EK where | dat | vw | own | dk | wk | nt (i : Nat)
/-- .. or a tuple that is new, of which its parts are frozen -/
def SW (K : PySem.W.Frag) (B H : Hp) (v : V) (d : PyData) : Prop := SR K B H v d ∨ ∃ a xs ds, v = .ref a ∧ d = .tuple ds ∧ SqT K H a xs ∧ RpAll K B xs ds
section
variable {S : Type} [Res S]
def ER (K : PySem.W.Frag) (C : Cf S) (B H : Hp) (A : List Addr) (ρ : List PS) (σ : L2.St) : EK → V → PyData → Prop
  | .dat, v, d => Rp K B v d
  | .vw, v, d => ∀ B2 H2 s2, Same B B2 → Hs C B2 H2 s2 → Sls K C B2 H2 A ρ σ → SR K B2 H2 v d
  | .own, v, d => ∃ p o, v = .ref p ∧ H p = some o ∧ OwnOk K B o d ∧ B p = none ∧ C.H0 p = none ∧ p ∉ A
  | .dk, v, _ => v = .ref C.root
  | .wk, v, d => ∀ B2 H2 s2, Same B B2 → Hs C B2 H2 s2 → Sls K C B2 H2 A ρ σ → SW K B2 H2 v d
  | .nt i, v, d => ∃ p, ρ[i]? = some (.nt p d) ∧ v = .ref p
/-- an expression by a pure program -/
def Px (K : PySem.W.Frag) (te : TE) (k : EK) (ρ : List PS) (w : W S PyData) : Prop :=
  ∀ (C : Cf S) B H s A σ, Hs C B H s → Sls K C B H A ρ σ → ∀ P, w s P → ∀ Q : VK,
    (∀ B' v H' d s', Same B B' → Hs C B' H' s' → Sls K C B' H' A ρ σ → ER K C B' H' A ρ σ k v d → P d s' → Q v H') → te σ H Q
def Pt (K : PySem.W.Frag) (tt : TT) (ρ : List PS) (w : W S Bool) : Prop :=
  ∀ (C : Cf S) B H s A σ, Hs C B H s → Sls K C B H A ρ σ → ∀ P, w s P → ∀ Q : Bool → Hp → Prop,
    (∀ B' b H' s', Same B B' → Hs C B' H' s' → Sls K C B' H' A ρ σ → P b s' → Q b H') → tt σ H Q
def Po (K : PySem.W.Frag) (to : TO) (ρ : List PS) (w : W S (Option Int)) : Prop :=
  ∀ (C : Cf S) B H s A σ, Hs C B H s → Sls K C B H A ρ σ → ∀ P, w s P → ∀ Q : Option Int → Hp → Prop,
    (∀ B' b H' s', Same B B' → Hs C B' H' s' → Sls K C B' H' A ρ σ → P b s' → Q b H') → to σ H Q
def ERs (K : PySem.W.Frag) (C : Cf S) (B H : Hp) (A : List Addr) (ρ : List PS) (σ : L2.St) : List EK → List V → List PyData → Prop
  | [], [], [] => True
  | k :: ks, v :: vs, d :: ds => ER K C B H A ρ σ k v d ∧ ERs K C B H A ρ σ ks vs ds
  | _, _, _ => False
def Pm (K : PySem.W.Frag) (t : TA) (ks : List EK) (ρ : List PS) (w : W S (List PyData)) : Prop :=
  ∀ (C : Cf S) B H s A σ, Hs C B H s → Sls K C B H A ρ σ → ∀ P, w s P → ∀ Q : List V → Hp → Prop,
    (∀ B' vs H' ds s', Same B B' → Hs C B' H' s' → Sls K C B' H' A ρ σ → ERs K C B' H' A ρ σ ks vs ds → P ds s' → Q vs H') → t σ H Q
/-- what the parts of a display, the arguments of a call give -/
def wl : List (W S PyData) → W S (List PyData)
  | [] => wpure []
  | w :: ws => wbind w fun d => wbind (wl ws) fun ds => wpure (d :: ds)
end
section
variable {S : Type} [Res S] {K : PySem.W.Frag} {C : Cf S} {B B' H H' : Hp} {s : S} {A : List Addr} {ρ : List PS} {σ : L2.St} {v : V} {d : PyData} {p : Addr}
  {te ta tb tc td : TE} {tt tu : TT} {w wa wb wc : W S PyData} {wt wu : W S Bool} {k : EK} {i : Nat}
theorem ER.later (hk : k ≠ .own) (e : Same B B') (h : ER K C B H A ρ σ k v d) : ER K C B' H' A ρ σ k v d := by
  cases k with
  | dat => exact Rp.mono e h
  | vw => exact fun B2 H2 s2 e2 w2 l2 => h B2 H2 s2 (e.trans e2) w2 l2
  | wk => exact fun B2 H2 s2 e2 w2 l2 => h B2 H2 s2 (e.trans e2) w2 l2
  | own => exact absurd rfl hk
  | dk => exact h
  | nt i => exact h
theorem Px.vw (h : Px K te .dat ρ w) : Px K te .vw ρ w := fun C B H s A σ hw hl P hp Q q =>
  h C B H s A σ hw hl P hp Q fun B' v H' d s' e w' l' r pd => q B' v H' d s' e w' l' (fun B2 H2 s2 e2 _ _ => .rp (Rp.mono e2 r)) pd
theorem Px.frz (h : Px K te .own ρ w) : Px K te .dat ρ w := fun C B H s A σ hw hl P hp Q q =>
  h C B H s A σ hw hl P hp Q fun B' v H' d s' e w' l' ⟨p, o, ev, h1, h2, h3, h4, h5⟩ pd => by
    subst ev
    exact q _ _ H' d s' (e.trans (same_new h3)) (w'.frz h1 h3 h4) (l'.frz w' h5 h3 h4) (OwnOk.rp (h2.mono (same_new h3)) upd_same) pd
theorem Same.r (B : Hp) : Same B B := Same.refl B

/-! names and constants -/
theorem px_var (h : ρ[i]? = some (.dat d)) : Px (S := S) K (tVar i) .dat ρ (wpure d) := fun C B H s A σ hw hl P hp Q q => by
  obtain ⟨v, h1, h2⟩ := hl.getD h
  exact ⟨v, h1, q B v H d s (Same.r B) hw hl h2 hp⟩
theorem px_vw (h : ρ[i]? = some (.vw d)) : Px (S := S) K (tVar i) .vw ρ (wpure d) := fun C B H s A σ hw hl P hp Q q => by
  obtain ⟨v, h1, h2⟩ := hl.getV h
  exact ⟨v, h1, q B v H d s (Same.r B) hw hl (fun B2 H2 s2 e2 w2 _ => h2.mono e2 ((hw.gh2 e2 w2.nb).trans w2.gh)) hp⟩
theorem px_dk (h : ρ[i]? = some .dk) : Px (S := S) K (tVar i) .dk ρ (wpure .none) := fun C B H s A σ hw hl P hp Q q =>
  ⟨_, hl.getK h, q B _ H _ s (Same.r B) hw hl rfl hp⟩
theorem px_c {u : V} (h : ∀ B, Rp K B u d) : Px (S := S) K (tC u) .dat ρ (wpure d) := fun C B H s A σ hw hl P hp Q q => q B u H d s (Same.r B) hw hl (h B) hp
theorem px_int {n : Int} : Px (S := S) K (tC (.int n)) .dat ρ (wpure (.int n)) := px_c fun _ => .int n
theorem px_str {n : Str} : Px (S := S) K (tC (.str n)) .dat ρ (wpure (.str n)) := px_c fun _ => .str n
theorem px_bl {n : Bool} : Px (S := S) K (tC (.bl n)) .dat ρ (wpure (.bool n)) := px_c fun _ => .bl n
theorem px_non : Px (S := S) K (tC .non) .dat ρ (wpure .none) := px_c fun _ => .non

/-! arguments -/
theorem ERs.later : ∀ {ks : List EK} {vs : List V} {ds : List PyData}, (∀ k ∈ ks, k ≠ .own) → Same B B' → ERs K C B H A ρ σ ks vs ds → ERs K C B' H' A ρ σ ks vs ds
  | [], [], [], _, _, _ => True.intro
  | _ :: _, _ :: _, _ :: _, hk, e, h => ⟨ER.later (hk _ List.mem_cons_self) e h.1, ERs.later (fun k m => hk k (List.mem_cons_of_mem _ m)) e h.2⟩
  | [], _ :: _, _, _, _, h => h.elim
  | [], [], _ :: _, _, _, h => h.elim
  | _ :: _, [], _, _, _, h => h.elim
  | _ :: _, _ :: _, [], _, _, h => h.elim
theorem ERs.len : ∀ {ks : List EK} {vs : List V} {ds : List PyData}, ERs K C B H A ρ σ ks vs ds → vs.length = ks.length ∧ ds.length = ks.length
  | [], [], [], _ => ⟨rfl, rfl⟩
  | _ :: _, _ :: _, _ :: _, h => by
    obtain ⟨a, b⟩ := ERs.len h.2
    exact ⟨congrArg Nat.succ a, congrArg Nat.succ b⟩
  | [], _ :: _, _, h => h.elim
  | [], [], _ :: _, h => h.elim
  | _ :: _, [], _, h => h.elim
  | _ :: _, _ :: _, [], h => h.elim
theorem ERs.rp : ∀ {ks : List EK} {vs : List V} {ds : List PyData}, (∀ k ∈ ks, k = .dat) → ERs K C B H A ρ σ ks vs ds → RpAll K B vs ds
  | [], [], [], _, _ => .nil
  | k :: _, _ :: _, _ :: _, hk, h => by
    have e := hk k List.mem_cons_self
    subst e
    exact .cons h.1 (ERs.rp (fun k m => hk k (List.mem_cons_of_mem _ m)) h.2)
  | [], _ :: _, _, _, h => h.elim
  | [], [], _ :: _, _, h => h.elim
  | _ :: _, [], _, _, h => h.elim
  | _ :: _, _ :: _, [], _, h => h.elim
theorem ERs.sr (hw : Hs C B H s) (hl : Sls K C B H A ρ σ) : ∀ {ks : List EK} {vs : List V} {ds : List PyData}, (∀ k ∈ ks, k = .dat ∨ k = .vw) → ERs K C B H A ρ σ ks vs ds → Paired (SR K B H) vs ds
  | [], [], [], _, _ => .nil
  | k :: _, _ :: _, _ :: _, hk, h => by
    refine .cons ?_ (ERs.sr hw hl (fun k m => hk k (List.mem_cons_of_mem _ m)) h.2)
    rcases hk k List.mem_cons_self with e | e
    · subst e; exact .rp h.1
    · subst e; exact h.1 B H s (Same.r B) hw hl
  | [], _ :: _, _, _, h => h.elim
  | [], [], _ :: _, _, h => h.elim
  | _ :: _, [], _, _, h => h.elim
  | _ :: _, _ :: _, [], _, h => h.elim
theorem pm_nil : Pm (S := S) K tNil [] ρ (wl []) := fun C B H s A σ hw hl P hp Q q => q B [] H [] s (Same.r B) hw hl True.intro hp
theorem pm_cons {t : TA} {ks : List EK} {ws : List (W S PyData)} (h : Px K te k ρ w) (h2 : Pm K t ks ρ (wl ws)) (hk : k ≠ .own := by exact nofun) : Pm K (tCons te t) (k :: ks) ρ (wl (w :: ws)) := fun C B H s A σ hw hl P hp Q q =>
  h C B H s A σ hw hl _ hp _ fun B1 v1 H1 d1 s1 e1 w1 l1 r1 p1 => h2 C B1 H1 s1 A σ w1 l1 _ p1 _ fun B2 vs H2 ds s2 e2 w2 l2 r2 p2 =>
    q B2 (v1 :: vs) H2 (d1 :: ds) s2 (e1.trans e2) w2 l2 ⟨ER.later hk e2 r1, r2⟩ p2

/-! operators -/
/-- what an operator gives: frozen, or new and not yet frozen -/
def Gv (K : PySem.W.Frag) (k : EK) (B H : Hp) (P : PyData → Unit → Prop) (Q : VK) : Prop := match k with
  | .own => ∀ p o d, H p = none → OwnOk K B o d → P d () → Q (.ref p) (upd H p o)
  | _ => ∀ B' v H' d, Grow B H B' H' → Rp K B' v d → P d () → Q v H'
def OpOk (K : PySem.W.Frag) (r : R2) (k : EK) (f : PyData → PyData → W Unit PyData) : Prop :=
  ∀ B H x y d e, Same B H → SR K B H x d → SR K B H y e → ∀ P, f d e () P → ∀ Q : VK, Gv K k B H P Q → r x y H Q
def UnOk (K : PySem.W.Frag) (r : V → Hp → VK → Prop) (k : EK) (f : PyData → W Unit PyData) : Prop :=
  ∀ B H x d, Same B H → SR K B H x d → ∀ P, f d () P → ∀ Q : VK, Gv K k B H P Q → r x H Q
def CbOk (K : PySem.W.Frag) (r : List V → Hp → VK → Prop) (k : EK) (f : List PyData → W Unit PyData) : Prop :=
  ∀ B H xs ds, Same B H → Paired (SR K B H) xs ds → ∀ P, f ds () P → ∀ Q : VK, Gv K k B H P Q → r xs H Q
/-- of what an operator gives, to what an expression gives -/
theorem gv_of (hk : k = .dat ∨ k = .own) (hw : Hs C B H s) (hl : Sls K C B H A ρ σ) {P : PyData → Unit → Prop} {Q : VK}
    (q : ∀ B' v H' d, Same B B' → Hs C B' H' s → Sls K C B' H' A ρ σ → ER K C B' H' A ρ σ k v d → P d () → Q v H') : Gv K k B H P Q := by
  rcases hk with e | e
  · subst e
    exact fun B' v H' d g r pd => q B' v H' d g.b (hw.grow g) (hl.grow hw g) r pd
  · subst e
    intro p o d hp ho pd
    have g := Grow.newU (o := o) hw.ex hp
    exact q B _ _ d (Same.r B) (hw.grow g) (hl.grow hw g) ⟨p, o, rfl, upd_same, ho, hw.freeB hp, hw.al p hp, fun z => (hl.inA p z).1 hp⟩ pd
theorem px_op {r : R2} {f : PyData → PyData → W Unit PyData} (ho : OpOk K r k f) (ha : Px K ta .vw ρ wa) (hb : Px K tb .vw ρ wb) (hk : k = .dat ∨ k = .own := by first | exact .inl rfl | exact .inr rfl) :
    Px K (tOp r ta tb) k ρ (wbind wa fun a => wbind wb fun b => wlift (f a b)) := fun C B H s A σ hw hl P hp Q q =>
  ha C B H s A σ hw hl _ hp _ fun B1 v1 H1 d1 s1 e1 w1 l1 r1 p1 => hb C B1 H1 s1 A σ w1 l1 _ p1 _ fun B2 v2 H2 d2 s2 e2 w2 l2 r2 p2 =>
    ho B2 H2 v1 v2 d1 d2 w2.ex (r1 B2 H2 s2 e2 w2 l2) (r2 B2 H2 s2 (Same.r _) w2 l2) _ p2 Q (gv_of hk w2 l2 fun B' v H' d e3 w3 l3 r3 p3 => q B' v H' d s2 ((e1.trans e2).trans e3) w3 l3 r3 p3)
theorem px_un {r : V → Hp → VK → Prop} {f : PyData → W Unit PyData} (ho : UnOk K r k f) (ha : Px K ta .vw ρ wa) (hk : k = .dat ∨ k = .own := by first | exact .inl rfl | exact .inr rfl) :
    Px K (tUn r ta) k ρ (wbind wa fun a => wlift (f a)) := fun C B H s A σ hw hl P hp Q q =>
  ha C B H s A σ hw hl _ hp _ fun B1 v1 H1 d1 s1 e1 w1 l1 r1 p1 =>
    ho B1 H1 v1 d1 w1.ex (r1 B1 H1 s1 (Same.r _) w1 l1) _ p1 Q (gv_of hk w1 l1 fun B' v H' d e3 w3 l3 r3 p3 => q B' v H' d s1 (e1.trans e3) w3 l3 r3 p3)
theorem px_cb {r : List V → Hp → VK → Prop} {f : List PyData → W Unit PyData} {t : TA} {ks : List EK} {ws : List (W S PyData)} (ho : CbOk K r k f) (ha : Pm K t ks ρ (wl ws)) (hks : ∀ k ∈ ks, k = .dat ∨ k = .vw := by simp) (hk : k = .dat ∨ k = .own := by first | exact .inl rfl | exact .inr rfl) :
    Px K (tCB r t) k ρ (wbind (wl ws) fun as => wlift (f as)) := fun C B H s A σ hw hl P hp Q q =>
  ha C B H s A σ hw hl _ hp _ fun B1 v1 H1 d1 s1 e1 w1 l1 r1 p1 =>
    ho B1 H1 v1 d1 w1.ex (r1.sr w1 l1 hks) _ p1 Q (gv_of hk w1 l1 fun B' v H' d e3 w3 l3 r3 p3 => q B' v H' d s1 (e1.trans e3) w3 l3 r3 p3)
/-- displays -/
def tTupZ (t : TA) : TE := fun σ H Q => t σ H fun xs H1 => xs.length ≤ sizeLine ∧ ∀ p o, H1 p = none → o.dict = none → Q (.ref p) (upd H1 p (.frz o (.tup xs)))
theorem px_tup {t : TA} {ks : List EK} {ws : List (W S PyData)} (ha : Pm K t ks ρ (wl ws)) (hks : ∀ k ∈ ks, k = .dat := by simp) (hn : ks.length ≤ 1000 := by decide) :
    Px K (tTupZ t) .dat ρ (wbind (wl ws) fun as => wpure (.tuple as)) := fun C B H s A σ hw hl P hp Q q =>
  ha C B H s A σ hw hl _ hp _ fun B1 v1 H1 d1 s1 e1 w1 l1 r1 p1 => by
    refine ⟨by rw [r1.len.1]; exact Nat.le_trans hn (by decide), fun p o hp ho => ?_⟩
    have g := Grow.new (o := .frz o (.tup v1)) w1.ex hp
    exact q _ _ _ _ s1 (e1.trans g.b) (w1.grow g) (l1.grow w1 g) (.tup (.inl ⟨o, upd_same, ho⟩) ((r1.rp hks).mono g.b)) p1
theorem px_lst {t : TA} {ks : List EK} {ws : List (W S PyData)} (ha : Pm K t ks ρ (wl ws)) (hks : ∀ k ∈ ks, k = .dat := by simp) (hn : ks.length ≤ 1000 := by decide) :
    Px K (tLst t) .own ρ (wbind (wl ws) fun as => wpure (.list as)) := fun C B H s A σ hw hl P hp Q q =>
  ha C B H s A σ hw hl _ hp _ fun B1 v1 H1 d1 s1 e1 w1 l1 r1 p1 => by
    refine ⟨by rw [r1.len.1]; exact Nat.le_trans hn (by decide), fun p hp => ?_⟩
    have g := Grow.newU (o := .lst v1) w1.ex hp
    exact q B1 _ _ (.list d1) s1 (e1.trans g.b) (w1.grow g) (l1.grow w1 g) ⟨p, .lst v1, rfl, upd_same, (show RpAll K B1 v1 d1 from r1.rp hks), w1.freeB hp, w1.al p hp, fun z => (l1.inA p z).1 hp⟩ p1
theorem px_dnewK : Px (S := S) K tDNewK .own ρ (wpure (.dict [])) := fun C B H s A σ hw hl P hp Q q p hp' => by
  have g := Grow.newU (o := .dK []) hw.ex hp'
  exact q B _ _ (.dict []) s g.b (hw.grow g) (hl.grow hw g) ⟨p, .dK [], rfl, upd_same, (show RpKv K B [] [] from .nil), hw.freeB hp', hw.al p hp', fun z => (hl.inA p z).1 hp'⟩ hp
/-! tests -/
theorem sr_bool {x : V} {b : Bool} (h : SR K B H x (.bool b)) : x = .bl b := by
  cases h with
  | rp h => cases h; rfl
theorem sr_int {x : V} {b : Int} (h : SR K B H x (.int b)) : x = .int b := by
  cases h with
  | rp h => cases h; rfl
theorem sr_str {x : V} {b : Str} (h : SR K B H x (.str b)) : x = .str b := by
  cases h with
  | rp h => cases h; rfl
theorem toB_inv {d : PyData} {P : Bool → S → Prop} (h : toB d s P) : ∃ b, d = .bool b ∧ P b s := by
  cases d <;> first | exact ⟨_, rfl, h⟩ | exact h.elim
theorem pt_test (h : Px K te .vw ρ w) : Pt K (tTest te) ρ (wB w) := fun C B H s A σ hw hl P hp Q q =>
  h C B H s A σ hw hl _ hp _ fun B1 v1 H1 d1 s1 e1 w1 l1 r1 p1 => by
    obtain ⟨b, rfl, p1⟩ := toB_inv p1
    exact ⟨b, sr_bool (r1 B1 H1 s1 (Same.r _) w1 l1), q B1 b H1 s1 e1 w1 l1 p1⟩
theorem pt_B (h : Px K te .vw ρ w) : Pt K (tB te) ρ (wB w) := fun C B H s A σ hw hl P hp Q q =>
  h C B H s A σ hw hl _ hp _ fun B1 v1 H1 d1 s1 e1 w1 l1 r1 p1 => by
    obtain ⟨b, rfl, p1⟩ := toB_inv p1
    exact ⟨b, sr_bool (r1 B1 H1 s1 (Same.r _) w1 l1), q B1 b H1 s1 e1 w1 l1 p1⟩
theorem pt_yes : Pt (S := S) K tYes ρ (wpure true) := fun C B H s A σ hw hl P hp Q q => q B true H s (Same.r B) hw hl hp
theorem pt_not' (h : Pt K tt ρ wt) : Pt K (tNot tt) ρ (wnot wt) := fun C B H s A σ hw hl P hp Q q =>
  h C B H s A σ hw hl _ hp _ fun B1 b H1 s1 e1 w1 l1 p1 => q B1 _ H1 s1 e1 w1 l1 p1
theorem pt_or' (h : Pt K tt ρ wt) (h2 : Pt K tu ρ wu) : Pt K (tOr tt tu) ρ (wor wt wu) := fun C B H s A σ hw hl P hp Q q =>
  h C B H s A σ hw hl _ hp _ fun B1 b H1 s1 e1 w1 l1 p1 => by
    cases b with
    | false =>
      show tu σ H1 Q
      exact h2 C B1 H1 s1 A σ w1 l1 _ p1 Q fun B2 b2 H2 s2 e2 w2 l2 p2 => q B2 b2 H2 s2 (e1.trans e2) w2 l2 p2
    | true => exact q B1 true H1 s1 e1 w1 l1 p1
def wandV (a b : W S PyData) : W S PyData := wbind a fun x => wbind (toB x) fun c => wcond c b (wpure (.bool false))
def wnotV (a : W S PyData) : W S PyData := wbind a fun x => wbind (toB x) fun c => wpure (.bool !c)
theorem px_andV (ha : Px K ta .vw ρ wa) (hb : Px K tb .dat ρ wb) : Px K (tAndV ta tb) .dat ρ (wandV wa wb) := fun C B H s A σ hw hl P hp Q q =>
  ha C B H s A σ hw hl _ hp _ fun B1 v1 H1 d1 s1 e1 w1 l1 r1 p1 => by
    obtain ⟨b, rfl, p1⟩ := toB_inv p1
    refine ⟨b, sr_bool (r1 B1 H1 s1 (Same.r _) w1 l1), ?_⟩
    cases b with
    | true =>
      show tb σ H1 Q
      exact hb C B1 H1 s1 A σ w1 l1 _ p1 Q fun B2 v2 H2 d2 s2 e2 w2 l2 r2 p2 => q B2 v2 H2 d2 s2 (e1.trans e2) w2 l2 r2 p2
    | false => exact q B1 _ H1 _ s1 e1 w1 l1 (Rp.bl false) p1
theorem px_notV (ha : Px K ta .vw ρ wa) : Px K (tNotV ta) .dat ρ (wnotV wa) := fun C B H s A σ hw hl P hp Q q =>
  ha C B H s A σ hw hl _ hp _ fun B1 v1 H1 d1 s1 e1 w1 l1 r1 p1 => by
    obtain ⟨b, rfl, p1⟩ := toB_inv p1
    exact ⟨b, sr_bool (r1 B1 H1 s1 (Same.r _) w1 l1), q B1 _ H1 _ s1 e1 w1 l1 (Rp.bl _) p1⟩
theorem px_ifE (h : Pt K tt ρ wt) (ha : Px K ta k ρ wa) (hb : Px K tb k ρ wb) : Px K (tIf tt ta tb) k ρ (wite wt wa wb) := fun C B H s A σ hw hl P hp Q q =>
  h C B H s A σ hw hl _ hp _ fun B1 b H1 s1 e1 w1 l1 p1 => by
    cases b with
    | true =>
      show ta σ H1 Q
      exact ha C B1 H1 s1 A σ w1 l1 _ p1 Q fun B2 v2 H2 d2 s2 e2 w2 l2 r2 p2 => q B2 v2 H2 d2 s2 (e1.trans e2) w2 l2 r2 p2
    | false =>
      show tb σ H1 Q
      exact hb C B1 H1 s1 A σ w1 l1 _ p1 Q fun B2 v2 H2 d2 s2 e2 w2 l2 r2 p2 => q B2 v2 H2 d2 s2 (e1.trans e2) w2 l2 r2 p2
/-- a < b < c -/
theorem px_chain {r r' : R2} {f g : PyData → PyData → W Unit PyData} (ho : OpOk K r .dat f) (ho' : OpOk K r' .dat g) (ha : Px K ta .vw ρ wa) (hb : Px K tb .vw ρ wb) (hc : Px K tc .vw ρ wc) :
    Px K (tChain r r' ta tb tc) .dat ρ (wbind wa fun a => wbind wb fun b => wbind (wlift (f a b)) fun x => wbind (toB x) fun t => wcond t (wbind wc fun c => wlift (g b c)) (wpure (.bool false))) := fun C B H s A σ hw hl P hp Q q =>
  ha C B H s A σ hw hl _ hp _ fun B1 v1 H1 d1 s1 e1 w1 l1 r1 p1 => hb C B1 H1 s1 A σ w1 l1 _ p1 _ fun B2 v2 H2 d2 s2 e2 w2 l2 r2 p2 =>
    ho B2 H2 v1 v2 d1 d2 w2.ex (r1 B2 H2 s2 e2 w2 l2) (r2 B2 H2 s2 (Same.r _) w2 l2) _ p2 _ (gv_of (.inl rfl) w2 l2 fun B3 v3 H3 d3 e3 w3 l3 r3 p3 => by
      obtain ⟨b, rfl, p3⟩ := toB_inv p3
      cases (show Rp K B3 v3 (.bool b) from r3)
      refine ⟨b, rfl, ?_⟩
      cases b with
      | true =>
        rw [if_pos rfl]
        exact hc C B3 H3 s2 A σ w3 l3 _ p3 _ fun B4 v4 H4 d4 s4 e4 w4 l4 r4 p4 =>
          ho' B4 H4 v2 v4 d2 d4 w4.ex (r2 B4 H4 s4 (e3.trans e4) w4 l4) (r4 B4 H4 s4 (Same.r _) w4 l4) _ p4 Q (gv_of (.inl rfl) w4 l4 fun B5 v5 H5 d5 e5 w5 l5 r5 p5 => q B5 v5 H5 d5 s4 ((((e1.trans e2).trans e3).trans e4).trans e5) w5 l5 r5 p5)
      | false =>
        rw [if_neg Bool.false_ne_true]
        exact q B3 _ H3 _ s2 ((e1.trans e2).trans e3) w3 l3 (Rp.bl false) p3)
/-- slices -/
def SlOk (K : PySem.W.Frag) (r : V → Option Int → Option Int → Hp → VK → Prop) (k : EK) (f : PyData → Option Int → Option Int → W Unit PyData) : Prop :=
  ∀ B H x d lo hi, Same B H → SR K B H x d → ∀ P, f d lo hi () P → ∀ Q : VK, Gv K k B H P Q → r x lo hi H Q
theorem po_n : Po (S := S) K tNoPart ρ (wpure none) := fun C B H s A σ hw hl P hp Q q => q B none H s (Same.r B) hw hl hp
def toI : PyData → W S (Option Int) | .int i => wpure (some i) | _ => wfail
theorem po_s (h : Px K te .vw ρ w) : Po K (tPart te) ρ (wbind w toI) := fun C B H s A σ hw hl P hp Q q =>
  h C B H s A σ hw hl _ hp _ fun B1 v1 H1 d1 s1 e1 w1 l1 r1 p1 => by
    cases d1 with
    | int i => exact ⟨i, sr_int (r1 B1 H1 s1 (Same.r _) w1 l1), q B1 (some i) H1 s1 e1 w1 l1 p1⟩
    | _ => exact (show False from p1).elim
theorem px_sl {r : V → Option Int → Option Int → Hp → VK → Prop} {f : PyData → Option Int → Option Int → W Unit PyData} {tl th : TO} {wlo whi : W S (Option Int)} (ho : SlOk K r k f) (ha : Px K ta .vw ρ wa) (hlo : Po K tl ρ wlo) (hhi : Po K th ρ whi) (hk : k = .dat ∨ k = .own := by first | exact .inl rfl | exact .inr rfl) :
    Px K (tSl r ta tl th) k ρ (wbind wa fun a => wbind wlo fun lo => wbind whi fun hi => wlift (f a lo hi)) := fun C B H s A σ hw hl P hp Q q =>
  ha C B H s A σ hw hl _ hp _ fun B1 v1 H1 d1 s1 e1 w1 l1 r1 p1 => hlo C B1 H1 s1 A σ w1 l1 _ p1 _ fun B2 lo H2 s2 e2 w2 l2 p2 => hhi C B2 H2 s2 A σ w2 l2 _ p2 _ fun B3 hi H3 s3 e3 w3 l3 p3 =>
    ho B3 H3 v1 d1 lo hi w3.ex (r1 B3 H3 s3 (e2.trans e3) w3 l3) _ p3 Q (gv_of hk w3 l3 fun B' v H' d e4 w4 l4 r4 p4 => q B' v H' d s3 (((e1.trans e2).trans e3).trans e4) w4 l4 r4 p4)
end
end PL

namespace PL
open PySem PySem.Spec PyProof.Rows L2

section
variable {S α β γ : Type} [Res S]
def RtOk (K : PySem.W.Frag) (C : Cf S) (B H : Hp) : RK → V → PyData → Prop
  | .dat, v, d => Rp K B v d
  | .own, v, d => ∃ p o, v = .ref p ∧ H p = some o ∧ OwnOk K B o d ∧ B p = none ∧ C.H0 p = none
  | .nt, v, d => ∃ p qs, v = .ref p ∧ NtOk K B H p d qs ∧ qs.Nodup ∧ ∀ q ∈ qs, B q = none ∧ C.H0 q = none
  | .bn p, v, d => ∃ d1 d2 qs, d = .tuple [d1, d2] ∧ Rp K B v d1 ∧ NtOk K B H p d2 qs ∧ qs.Nodup ∧ ∀ q ∈ qs, B q = none ∧ C.H0 q = none
/-- a statement, a block by a pure program -/
def Pst (K : PySem.W.Frag) (ts : TS) (r : RK) (ρ : List PS) (env : α → List PS) (m : W S (Fl α)) : Prop :=
  ∀ (C : Cf S) B H s A σ, Hs C B H s → Sls K C B H A ρ σ → ∀ P, m s P → ∀ D : Ends,
    (∀ B' H' s' A' σ' a, Same B B' → Hs C B' H' s' → Sls K C B' H' A' (env a) σ' → P (.nx a) s' → D.nx σ' H') →
    (∀ B' v H' d s', Same B B' → Hs C B' H' s' → RtOk K C B' H' r v d → P (.rt d) s' → D.rt v H') → ts D σ H
def noEnv : Empty → List PS := fun x => nomatch x
/-- .. that returns on every way; that never returns -/
abbrev Psr (K : PySem.W.Frag) (ts : TS) (r : RK) (ρ : List PS) (m : W S PyData) : Prop := Pst K ts r ρ noEnv (wret m)
abbrev Psn (K : PySem.W.Frag) (ts : TS) (r : RK) (ρ : List PS) (env : α → List PS) (m : W S α) : Prop := Pst K ts r ρ env (wbind m wnx)
end
section
variable {S α β γ : Type} [Res S] {K : PySem.W.Frag} {C : Cf S} {B B' H H' : Hp} {s : S} {A : List Addr} {ρ ρ' : List PS} {σ : L2.St} {v : V} {d : PyData} {p : Addr}
  {te ta tb tc td ty tv : TE} {tt : TT} {t u ts : TS} {w wa wb wc : W S PyData} {wt wu : W S Bool} {k : EK} {i : Nat} {r : RK} {env : α → List PS} {env2 : β → List PS}
/-! what is no longer needed -/
def keep : List Bool → List PS → List PS
  | true :: ms, x :: ρ => x :: keep ms ρ
  | false :: ms, _ :: ρ => .un :: keep ms ρ
  | _, ρ => ρ
theorem Sls.keep (h : Sls K C B H A ρ σ) : ∀ ms : List Bool, ∃ A', Sls K C B H A' (keep ms ρ) σ ∧ ∀ a ∈ A', a ∈ A := by
  induction h with
  | nil => intro ms; exact ⟨[], by (cases ms with | nil => exact .nil | cons b ms => cases b <;> exact .nil), fun _ z => z⟩
  | un t ih => intro ms; match ms with
    | [] => exact ⟨_, .un t, fun _ z => z⟩
    | true :: ms => (obtain ⟨A', h1, h2⟩ := ih ms; exact ⟨A', .un h1, h2⟩)
    | false :: ms => (obtain ⟨A', h1, h2⟩ := ih ms; exact ⟨A', .un h1, h2⟩)
  | dat q t ih => intro ms; match ms with
    | [] => exact ⟨_, .dat q t, fun _ z => z⟩
    | true :: ms => (obtain ⟨A', h1, h2⟩ := ih ms; exact ⟨A', .dat q h1, h2⟩)
    | false :: ms => (obtain ⟨A', h1, h2⟩ := ih ms; exact ⟨A', .un h1, h2⟩)
  | vw q t ih => intro ms; match ms with
    | [] => exact ⟨_, .vw q t, fun _ z => z⟩
    | true :: ms => (obtain ⟨A', h1, h2⟩ := ih ms; exact ⟨A', .vw q h1, h2⟩)
    | false :: ms => (obtain ⟨A', h1, h2⟩ := ih ms; exact ⟨A', .un h1, h2⟩)
  | pv q t ih => intro ms; match ms with
    | [] => exact ⟨_, .pv q t, fun _ z => z⟩
    | true :: ms => (obtain ⟨A', h1, h2⟩ := ih ms; exact ⟨A', .pv q h1, h2⟩)
    | false :: ms => (obtain ⟨A', h1, h2⟩ := ih ms; exact ⟨A', .un h1, h2⟩)
  | dk t ih => intro ms; match ms with
    | [] => exact ⟨_, .dk t, fun _ z => z⟩
    | true :: ms => (obtain ⟨A', h1, h2⟩ := ih ms; exact ⟨A', .dk h1, h2⟩)
    | false :: ms => (obtain ⟨A', h1, h2⟩ := ih ms; exact ⟨A', .un h1, h2⟩)
  | own h1 h2 h3 h4 h5 t ih => intro ms; match ms with
    | [] => exact ⟨_, .own h1 h2 h3 h4 h5 t, fun _ z => z⟩
    | true :: ms =>
      obtain ⟨A', q1, q2⟩ := ih ms
      exact ⟨_, .own h1 h2 h3 h4 (fun z => h5 (q2 _ z)) q1, fun a z => by
        rcases List.mem_cons.mp z with rfl | z
        · exact List.mem_cons_self
        · exact List.mem_cons_of_mem _ (q2 a z)⟩
    | false :: ms => (obtain ⟨A', q1, q2⟩ := ih ms; exact ⟨A', .un q1, fun a z => List.mem_cons_of_mem _ (q2 a z)⟩)
  | nt n nd hx t ih => intro ms; match ms with
    | [] => exact ⟨_, .nt n nd hx t, fun _ z => z⟩
    | true :: ms =>
      obtain ⟨A', q1, q2⟩ := ih ms
      exact ⟨_, .nt n nd (fun a ha => ⟨(hx a ha).1, (hx a ha).2.1, fun z => (hx a ha).2.2 (q2 _ z)⟩) q1, fun a z => by
        rcases List.mem_append.mp z with z | z
        · exact List.mem_append_left _ z
        · exact List.mem_append_right _ (q2 a z)⟩
    | false :: ms => (obtain ⟨A', q1, q2⟩ := ih ms; exact ⟨A', .un q1, fun a z => List.mem_append_right _ (q2 a z)⟩)

/-! ### statements -/
theorem pst_nil {a : α} (ms : List Bool) (h : keep ms ρ = env a := by rfl) : Pst (S := S) K tNext r ρ env (wnx a) := fun C B H s A σ hw hl P hp D nx rt => by
  obtain ⟨A', l2, _⟩ := hl.keep ms
  rw [h] at l2
  exact nx B H s A' σ a (Same.r B) hw l2 hp
theorem psn_nil {a : α} (ms : List Bool) (h : keep ms ρ = env a := by rfl) : Psn (S := S) K tNext r ρ env (wpure a) := pst_nil ms h
/-- t; rest -/
theorem pst_seq {m : W S (Fl α)} {kk : α → W S (Fl β)} (h : Pst K t r ρ env m) (h2 : ∀ a, Pst K u r (env a) env2 (kk a)) : Pst K (tSeq t u) r ρ env2 (fbind m kk) := fun C B H s A σ hw hl P hp D nx rt =>
  h C B H s A σ hw hl _ hp { D with nx := u D } (fun B1 H1 s1 A1 σ1 a e1 w1 l1 p1 => h2 a C B1 H1 s1 A1 σ1 w1 l1 P p1 D (fun B2 H2 s2 A2 σ2 a2 e2 w2 l2 p2 => nx B2 H2 s2 A2 σ2 a2 (e1.trans e2) w2 l2 p2) fun B2 v H2 d s2 e2 w2 r2 p2 => rt B2 v H2 d s2 (e1.trans e2) w2 r2 p2)
    fun B1 v H1 d s1 e1 w1 r1 p1 => rt B1 v H1 d s1 e1 w1 r1 p1
theorem psr_seqn {m : W S α} {kk : α → W S PyData} (h : Psn K t r ρ env m) (h2 : ∀ a, Psr K u r (env a) (kk a)) : Psr K (tSeq t u) r ρ (wbind m kk) := pst_seq h h2
theorem psn_seqn {m : W S α} {kk : α → W S β} (h : Psn K t r ρ env m) (h2 : ∀ a, Psn K u r (env a) env2 (kk a)) : Psn K (tSeq t u) r ρ env2 (wbind m kk) := pst_seq h h2
/-- t may return, the rest always does -/
def fthen (m : W S (Fl α)) (kk : α → W S PyData) : W S PyData := wbind m fun x => match x with | .nx a => kk a | .rt d => wpure d
theorem psr_seq {m : W S (Fl α)} {kk : α → W S PyData} (h : Pst K t r ρ env m) (h2 : ∀ a, Psr K u r (env a) (kk a)) : Psr K (tSeq t u) r ρ (fthen m kk) := fun C B H s A σ hw hl P hp D nx rt =>
  h C B H s A σ hw hl _ hp { D with nx := u D } (fun B1 H1 s1 A1 σ1 a e1 w1 l1 p1 => h2 a C B1 H1 s1 A1 σ1 w1 l1 P p1 D (fun B2 H2 s2 A2 σ2 a2 e2 w2 l2 p2 => nx B2 H2 s2 A2 σ2 a2 (e1.trans e2) w2 l2 p2) fun B2 v H2 d s2 e2 w2 r2 p2 => rt B2 v H2 d s2 (e1.trans e2) w2 r2 p2)
    fun B1 v H1 d s1 e1 w1 r1 p1 => rt B1 v H1 d s1 e1 w1 r1 p1
/-- x = e; rest -/
theorem set_of (hk : k = .dat ∨ k = .own) (hw : Hs C B H s) (hl : Sls K C B H A ρ σ) (hi : i < ρ.length) (hr : ER K C B H A ρ σ k v d) : ∃ A', Sls K C B H A' (ρ.set i (match k with | .own => .own d | _ => .dat d)) (σ.set i (some v)) := by
  rcases hk with e | e
  · subst e
    obtain ⟨A', l2, _⟩ := hl.setD i hr
    exact ⟨A', l2⟩
  · subst e
    obtain ⟨p, o, rfl, h1, h2, h3, h4, h5⟩ := hr
    obtain ⟨A', l2, _⟩ := hl.setO i hi h5 h1 h2 h3 h4
    exact ⟨A', l2⟩
theorem pst_let {kk : PyData → W S (Fl α)} {ρ' : PyData → List PS} (he : Px K te .dat ρ w) (hi : i < ρ.length) (h : ∀ d, Pst K u r (ρ' d) env (kk d)) (hρ : ∀ d, ρ.set i (.dat d) = ρ' d := by intro _; rfl) : Pst K (tSeq (tAsg te (gName i)) u) r ρ env (wbind w kk) := fun C B H s A σ hw hl P hp D nx rt =>
  he C B H s A σ hw hl _ hp _ fun B1 v1 H1 d1 s1 e1 w1 l1 r1 p1 => by
    obtain ⟨A', l2⟩ := set_of (.inl rfl) w1 l1 hi r1
    rw [hρ d1] at l2
    exact h d1 C B1 H1 s1 A' _ w1 l2 P p1 D (fun B2 H2 s2 A2 σ2 a2 e2 w2 l2 p2 => nx B2 H2 s2 A2 σ2 a2 (e1.trans e2) w2 l2 p2) fun B2 v H2 d s2 e2 w2 r2 p2 => rt B2 v H2 d s2 (e1.trans e2) w2 r2 p2
theorem pst_letO {kk : PyData → W S (Fl α)} {ρ' : PyData → List PS} (he : Px K te .own ρ w) (hi : i < ρ.length) (h : ∀ d, Pst K u r (ρ' d) env (kk d)) (hρ : ∀ d, ρ.set i (.own d) = ρ' d := by intro _; rfl) : Pst K (tSeq (tAsg te (gName i)) u) r ρ env (wbind w kk) := fun C B H s A σ hw hl P hp D nx rt =>
  he C B H s A σ hw hl _ hp _ fun B1 v1 H1 d1 s1 e1 w1 l1 r1 p1 => by
    obtain ⟨A', l2⟩ := set_of (.inr rfl) w1 l1 hi r1
    rw [hρ d1] at l2
    exact h d1 C B1 H1 s1 A' _ w1 l2 P p1 D (fun B2 H2 s2 A2 σ2 a2 e2 w2 l2 p2 => nx B2 H2 s2 A2 σ2 a2 (e1.trans e2) w2 l2 p2) fun B2 v H2 d s2 e2 w2 r2 p2 => rt B2 v H2 d s2 (e1.trans e2) w2 r2 p2
theorem psr_let {kk : PyData → W S PyData} {ρ' : PyData → List PS} (he : Px K te .dat ρ w) (hi : i < ρ.length) (h : ∀ d, Psr K u r (ρ' d) (kk d)) (hρ : ∀ d, ρ.set i (.dat d) = ρ' d := by intro _; rfl) : Psr K (tSeq (tAsg te (gName i)) u) r ρ (wbind w kk) := pst_let (w := w) (kk := fun d => wret (kk d)) he hi h hρ
theorem psr_letO {kk : PyData → W S PyData} {ρ' : PyData → List PS} (he : Px K te .own ρ w) (hi : i < ρ.length) (h : ∀ d, Psr K u r (ρ' d) (kk d)) (hρ : ∀ d, ρ.set i (.own d) = ρ' d := by intro _; rfl) : Psr K (tSeq (tAsg te (gName i)) u) r ρ (wbind w kk) := pst_letO (w := w) (kk := fun d => wret (kk d)) he hi h hρ
theorem psn_let {kk : PyData → W S α} {ρ' : PyData → List PS} (he : Px K te .dat ρ w) (hi : i < ρ.length) (h : ∀ d, Psn K u r (ρ' d) env (kk d)) (hρ : ∀ d, ρ.set i (.dat d) = ρ' d := by intro _; rfl) : Psn K (tSeq (tAsg te (gName i)) u) r ρ env (wbind w kk) := pst_let (w := w) (kk := fun d => wbind (kk d) wnx) he hi h hρ
/-- return e -/
theorem psr_ret (he : Px K te .dat ρ w) : Psr K (tRet te) .dat ρ w := fun C B H s A σ hw hl P hp D nx rt =>
  he C B H s A σ hw hl _ hp _ fun B1 v1 H1 d1 s1 e1 w1 l1 r1 p1 => rt B1 v1 H1 d1 s1 e1 w1 r1 p1
theorem psr_retFrz (h : ρ[i]? = some (.own d)) : Psr (S := S) K (tRet (tVar i)) .dat ρ (wpure d) := fun C B H s A σ hw hl P hp D nx rt => by
  obtain ⟨p, o, h1, h2, h3, h4, h5, _⟩ := hl.getO h
  exact ⟨_, h1, rt _ _ H d s (same_new h4) (hw.frz h2 h4 h5) (OwnOk.rp (h3.mono (same_new h4)) upd_same) hp⟩
/-- a return among ways that go on -/
theorem pst_ret {m : W S PyData} (h : Psr K t r ρ m) : Pst K t r ρ env (wret m) := fun C B H s A σ hw hl P hp D nx rt =>
  h C B H s A σ hw hl (fun x s' => match x with | .rt d => P (.rt d) s' | .nx a => nomatch a) hp D (fun B1 H1 s1 A1 σ1 a => nomatch a) rt
/-- if -/
theorem pst_if {m1 m2 : W S (Fl α)} (hc : Pt K tt ρ wt) (h1 : Pst K t r ρ env m1) (h2 : Pst K u r ρ env m2) : Pst K (tIfS tt t u) r ρ env (wite wt m1 m2) := fun C B H s A σ hw hl P hp D nx rt =>
  hc C B H s A σ hw hl _ hp _ fun B1 b H1 s1 e1 w1 l1 p1 => by
    cases b with
    | true =>
      show t D σ H1
      exact h1 C B1 H1 s1 A σ w1 l1 P p1 D (fun B2 H2 s2 A2 σ2 a2 e2 w2 l2 p2 => nx B2 H2 s2 A2 σ2 a2 (e1.trans e2) w2 l2 p2) fun B2 v H2 d s2 e2 w2 r2 p2 => rt B2 v H2 d s2 (e1.trans e2) w2 r2 p2
    | false =>
      show u D σ H1
      exact h2 C B1 H1 s1 A σ w1 l1 P p1 D (fun B2 H2 s2 A2 σ2 a2 e2 w2 l2 p2 => nx B2 H2 s2 A2 σ2 a2 (e1.trans e2) w2 l2 p2) fun B2 v H2 d s2 e2 w2 r2 p2 => rt B2 v H2 d s2 (e1.trans e2) w2 r2 p2
theorem wite_bind {m1 m2 : W S α} (f : α → W S β) : wbind (wite wt m1 m2) f = wite wt (wbind m1 f) (wbind m2 f) := by
  funext s P
  unfold wite wbind
  congr 1
  funext c s'
  cases c <;> rfl
theorem psn_if {m1 m2 : W S α} (hc : Pt K tt ρ wt) (h1 : Psn K t r ρ env m1) (h2 : Psn K u r ρ env m2) : Psn K (tIfS tt t u) r ρ env (wite wt m1 m2) := by
  show Pst K _ r ρ env (wbind (wite wt m1 m2) wnx)
  rw [wite_bind]
  exact pst_if hc h1 h2
/-- if c: .. return; rest -/
theorem pst_ifr {m1 : W S PyData} {m2 : W S (Fl α)} (hc : Pt K tt ρ wt) (h1 : Psr K t r ρ m1) (h2 : Pst K u r ρ env m2) : Pst K (tSeq (tIfS tt t tNext) u) r ρ env (wite wt (wret m1) m2) := fun C B H s A σ hw hl P hp D nx rt =>
  hc C B H s A σ hw hl _ hp _ fun B1 b H1 s1 e1 w1 l1 p1 => by
    cases b with
    | true =>
      show t { D with nx := u D } σ H1
      exact pst_ret (env := env) h1 C B1 H1 s1 A σ w1 l1 (fun x s' => match x with | .rt d => P (.rt d) s' | .nx a => False) p1 _ (fun B2 H2 s2 A2 σ2 a2 e2 w2 l2 p2 => p2.elim) fun B2 v H2 d s2 e2 w2 r2 p2 => rt B2 v H2 d s2 (e1.trans e2) w2 r2 p2
    | false =>
      show u D σ H1
      exact h2 C B1 H1 s1 A σ w1 l1 P p1 D (fun B2 H2 s2 A2 σ2 a2 e2 w2 l2 p2 => nx B2 H2 s2 A2 σ2 a2 (e1.trans e2) w2 l2 p2) fun B2 v H2 d s2 e2 w2 r2 p2 => rt B2 v H2 d s2 (e1.trans e2) w2 r2 p2
theorem psr_ifr {m1 m2 : W S PyData} (hc : Pt K tt ρ wt) (h1 : Psr K t r ρ m1) (h2 : Psr K u r ρ m2) : Psr K (tSeq (tIfS tt t tNext) u) r ρ (wite wt m1 m2) := by
  show Pst K _ r ρ noEnv (wbind (wite wt m1 m2) fun d => wpure (.rt d))
  rw [wite_bind]
  exact pst_ifr hc h1 h2
theorem psr_never : Psr (S := S) K tNever r ρ (wfail : W S PyData) := fun C B H s A σ hw hl P hp D nx rt => hp.elim
/-- from here on an own thing stays as it is -/
theorem pst_frz {m : W S (Fl α)} (hi : ρ[i]? = some (.own d)) (h : Pst K u r ρ' env m) (hρ : ρ.set i (.dat d) = ρ' := by rfl) : Pst K u r ρ env m := fun C B H s A σ hw hl P hp D nx rt => by
  obtain ⟨p, o, h1, h2, h3, h4, h5, _⟩ := hl.getO hi
  obtain ⟨A', l2, _⟩ := hl.frzO hw hi h1 h2 h4 h5
  have e := same_new (o := o) h4
  rw [hρ] at l2
  exact h C _ H s A' σ (hw.frz h2 h4 h5) l2 P hp D (fun B2 H2 s2 A2 σ2 a2 e2 w2 l2 p2 => nx B2 H2 s2 A2 σ2 a2 (e.trans e2) w2 l2 p2) fun B2 v H2 d s2 e2 w2 r2 p2 => rt B2 v H2 d s2 (e.trans e2) w2 r2 p2

/-! ### targets -/
def w2 (x : PyData) (k : PyData → PyData → W S α) : W S α := match x with | .tuple [a, b] => k a b | _ => wfail
def w3 (x : PyData) (k : PyData → PyData → PyData → W S α) : W S α := match x with | .tuple [a, b, c] => k a b c | _ => wfail
theorem w2_inv {x : PyData} {k : PyData → PyData → W S α} {P : α → S → Prop} (h : w2 x k s P) : ∃ a b, x = .tuple [a, b] ∧ k a b s P := by
  unfold w2 at h
  split at h
  · exact ⟨_, _, rfl, h⟩
  · exact h.elim
theorem w3_inv {x : PyData} {k : PyData → PyData → PyData → W S α} {P : α → S → Prop} (h : w3 x k s P) : ∃ a b c, x = .tuple [a, b, c] ∧ k a b c s P := by
  unfold w3 at h
  split at h
  · exact ⟨_, _, _, rfl, h⟩
  · exact h.elim
def ItR (K : PySem.W.Frag) (B H : Hp) : Bool → V → PyData → Prop
  | true, v, d => SW K B H v d
  | false, v, d => Rp K B v d
theorem ItR.sw {wk : Bool} (h : ItR K B H wk v d) : SW K B H v d := by
  cases wk with
  | true => exact h
  | false => exact .inl (.rp h)
/-- a target gets x; wk: of x only its parts are known to be frozen -/
def Pg (K : PySem.W.Frag) (g : TG) (wk : Bool) (ρ : List PS) (env : α → List PS) (m : PyData → W S α) : Prop :=
  ∀ (C : Cf S) B H s A σ v d, Hs C B H s → Sls K C B H A ρ σ → ItR K B H wk v d → ∀ P, m d s P → ∀ Q : L2.St → Hp → Prop,
    (∀ A' σ' a, Sls K C B H A' (env a) σ' → P a s → Q σ' H) → g v σ H Q
theorem pg_n {ρ' : PyData → List PS} (hρ : ∀ d, ρ.set i (.dat d) = ρ' d := by intro _; rfl) : Pg (S := S) K (gName i) false ρ ρ' wpure := fun C B H s A σ v d hw hl hr P hp Q q => by
  obtain ⟨A', l2, _⟩ := hl.setD i hr
  rw [hρ] at l2
  exact q A' _ d l2 hp
theorem sr_tup {x : V} {ds : List PyData} (e : Same B H) (h : SR K B H x (.tuple ds)) : ∃ a xs, x = .ref a ∧ SqT K H a xs ∧ RpAll K B xs ds := by
  cases h with
  | rp h => cases h with | tup h r => exact ⟨_, _, rfl, sqT_mono e h.sq, r⟩
theorem sw_tup {x : V} {ds : List PyData} (e : Same B H) (h : SW K B H x (.tuple ds)) : ∃ a xs, x = .ref a ∧ SqT K H a xs ∧ RpAll K B xs ds := by
  rcases h with h | ⟨a, xs, ds', h1, h2, h3, h4⟩
  · exact sr_tup e h
  · cases h2; exact ⟨a, xs, h1, h3, h4⟩
theorem sr_lst {x : V} {ds : List PyData} (e : Same B H) (h : SR K B H x (.list ds)) : ∃ a xs, x = .ref a ∧ H a = some (.lst xs) ∧ RpAll K B xs ds := by
  cases h with
  | rp h => cases h with | lst h r => exact ⟨_, _, rfl, e _ _ h, r⟩
  | lst h r => exact ⟨_, _, rfl, h, r⟩
theorem pg_2 {g1 g2 : TG} {wk : Bool} {env1 : α → List PS} {env2 : α → β → List PS} {m1 : PyData → W S α} {m2 : PyData → W S β} (h1 : Pg K g1 false ρ env1 m1) (h2 : ∀ a, Pg K g2 false (env1 a) (env2 a) m2) :
    Pg (α := α × β) K (gTup K 2 (gCons g1 (gCons g2 gNil))) wk ρ (fun ab => env2 ab.1 ab.2) (fun x => w2 x fun x1 x2 => wbind (m1 x1) fun a => wbind (m2 x2) fun b => wpure (a, b)) := fun C B H s A σ v d hw hl hr P hp Q q => by
  have hr : SW K B H v d := hr.sw
  obtain ⟨x1, x2, rfl, hp⟩ := w2_inv (show w2 d _ s P from hp)
  · obtain ⟨a, xs, rfl, hs, ha⟩ := sw_tup hw.ex hr
    cases ha with
    | cons r1 ha =>
      cases ha with
      | cons r2 ha =>
        cases ha
        refine ⟨a, _, rfl, hs, rfl, ?_⟩
        refine ⟨_, _, rfl, h1 C B H s A σ _ _ hw hl r1 _ hp _ fun A1 σ1 a1 l1 p1 => ?_⟩
        refine ⟨_, _, rfl, h2 a1 C B H s A1 σ1 _ _ hw l1 r2 _ p1 _ fun A2 σ2 b1 l2 p2 => ?_⟩
        exact ⟨rfl, q A2 σ2 (a1, b1) l2 p2⟩
theorem pg_3 {g1 g2 g3 : TG} {wk : Bool} {env1 : α → List PS} {env2 : α → β → List PS} {env3 : α → β → γ → List PS} {m1 : PyData → W S α} {m2 : PyData → W S β} {m3 : PyData → W S γ} (h1 : Pg K g1 false ρ env1 m1) (h2 : ∀ a, Pg K g2 false (env1 a) (env2 a) m2) (h3 : ∀ a b, Pg K g3 false (env2 a b) (env3 a b) m3) :
    Pg (α := α × β × γ) K (gTup K 3 (gCons g1 (gCons g2 (gCons g3 gNil)))) wk ρ (fun ab => env3 ab.1 ab.2.1 ab.2.2) (fun x => w3 x fun x1 x2 x3 => wbind (m1 x1) fun a => wbind (m2 x2) fun b => wbind (m3 x3) fun c => wpure (a, b, c)) := fun C B H s A σ v d hw hl hr P hp Q q => by
  have hr : SW K B H v d := hr.sw
  obtain ⟨x1, x2, x3, rfl, hp⟩ := w3_inv (show w3 d _ s P from hp)
  · obtain ⟨a, xs, rfl, hs, ha⟩ := sw_tup hw.ex hr
    cases ha with
    | cons r1 ha =>
      cases ha with
      | cons r2 ha =>
        cases ha with
        | cons r3 ha =>
          cases ha
          refine ⟨a, _, rfl, hs, rfl, ?_⟩
          refine ⟨_, _, rfl, h1 C B H s A σ _ _ hw hl r1 _ hp _ fun A1 σ1 a1 l1 p1 => ?_⟩
          refine ⟨_, _, rfl, h2 a1 C B H s A1 σ1 _ _ hw l1 r2 _ p1 _ fun A2 σ2 b1 l2 p2 => ?_⟩
          refine ⟨_, _, rfl, h3 a1 b1 C B H s A2 σ2 _ _ hw l2 r3 _ p2 _ fun A3 σ3 c1 l3 p3 => ?_⟩
          exact ⟨rfl, q A3 σ3 (a1, b1, c1) l3 p3⟩
/-- x, y = e; rest -/
theorem pst_tgt {g : TG} {env1 : α → List PS} {m : PyData → W S α} {kk : α → W S (Fl β)} {k : EK} {wk : Bool} (hk : (k = .dat ∧ wk = false) ∨ (k = .wk ∧ wk = true)) (he : Px K te k ρ w) (hg : Pg K g wk ρ env1 m) (h : ∀ a, Pst K u r (env1 a) env2 (kk a)) : Pst K (tSeq (tAsg te g) u) r ρ env2 (wbind w fun x => wbind (m x) kk) := fun C B H s A σ hw hl P hp D nx rt =>
  he C B H s A σ hw hl _ hp _ fun B1 v1 H1 d1 s1 e1 w1 l1 r1 p1 => hg C B1 H1 s1 A σ v1 d1 w1 l1 (by
      rcases hk with ⟨e, e2⟩ | ⟨e, e2⟩
      · subst e e2; exact r1
      · subst e e2; exact r1 B1 H1 s1 (Same.r _) w1 l1) _ p1 _ fun A2 σ2 a l2 p2 =>
    h a C B1 H1 s1 A2 σ2 w1 l2 P p2 D (fun B2 H2 s2 A2 σ2 a2 e2 w2 l2 p2 => nx B2 H2 s2 A2 σ2 a2 (e1.trans e2) w2 l2 p2) fun B2 v H2 d s2 e2 w2 r2 p2 => rt B2 v H2 d s2 (e1.trans e2) w2 r2 p2
theorem psr_tgt {g : TG} {env1 : α → List PS} {m : PyData → W S α} {kk : α → W S PyData} {k : EK} {wk : Bool} (hk : (k = .dat ∧ wk = false) ∨ (k = .wk ∧ wk = true)) (he : Px K te k ρ w) (hg : Pg K g wk ρ env1 m) (h : ∀ a, Psr K u r (env1 a) (kk a)) : Psr K (tSeq (tAsg te g) u) r ρ (wbind w fun x => wbind (m x) kk) := pst_tgt (w := w) (kk := fun d => wret (kk d)) hk he hg h
/-! ### what is walked -/
def ItOk (K : PySem.W.Frag) (C : Cf S) (B : Hp) (wk : Bool) (J : It) (it : List PyData) : Prop :=
  ∀ B1 H1 s1, Same B B1 → Hs C B1 H1 s1 → ∀ i, (it.length ≤ i → J.stop i H1) ∧ (∀ d, it[i]? = some d → J.go i H1 ∧ ∀ x H2, J.yld i H1 x H2 → ∃ B2, Grow B1 H1 B2 H2 ∧ ItR K B2 H2 wk x d)
def Pi (K : PySem.W.Frag) (wi : TI) (wk : Bool) (ρ : List PS) (w : W S (List PyData)) : Prop :=
  ∀ (C : Cf S) B H s A σ, Hs C B H s → Sls K C B H A ρ σ → ∀ P, w s P → ∀ R : It → Hp → Prop,
    (∀ B' J H' it s', Same B B' → Hs C B' H' s' → Sls K C B' H' A ρ σ → ItOk K C B' wk J it → P it s' → R J H') → wi σ H R
theorem pst_for {tb' : TS} {wi : TI} {g : TG} {wk : Bool} {wit : W S (List PyData)} {envg : α → β → List PS} {wg : PyData → W S β} {kb : α → β → W S (Fl α)} {a0 : α} (ms : List Bool) (hi : Pi K wi wk ρ wit)
    (hg : ∀ a, Pg K g wk (env a) (envg a) wg) (hb : ∀ a b, Pst K tb' r (envg a b) env (kb a b)) (h0 : keep ms ρ = env a0 := by rfl) :
    Pst K (tFor wi g tb') r ρ env (wbind wit fun it => wfor (fun x a => wbind (wg x) (kb a)) it a0) := fun C B H s A σ hw hl P hp D nx rt =>
  hi C B H s A σ hw hl _ hp _ fun B1 J H1 it s1 e1 w1 l1 ok p1 => by
    obtain ⟨A0, l0, _⟩ := l1.keep ms
    rw [h0] at l0
    refine ⟨fun i m σ' H' => m = it.length - i ∧ i ≤ it.length ∧ ∃ B' s' A' a, Same B1 B' ∧ Hs C B' H' s' ∧ Sls K C B' H' A' (env a) σ' ∧ wfor (fun x a => wbind (wg x) (kb a)) (it.drop i) a s' P,
      ⟨it.length, by simp, Nat.zero_le _, B1, s1, A0, a0, Same.r _, w1, l0, p1⟩, ?_⟩
    rintro i m σ' H' ⟨rfl, hi, B2, s2, A2, a, e2, w2, l2, p2⟩
    obtain ⟨stop, go⟩ := ok B2 H' s2 e2 w2 i
    by_cases hlt : i < it.length
    · have hd0 : it[i]? = some it[i] := List.getElem?_eq_getElem hlt
      obtain ⟨g1, g2⟩ := go _ hd0
      rw [List.drop_eq_getElem_cons hlt] at p2
      refine .inr ⟨g1, fun σ3 H3 => ∃ B3 s3 A3 a3, Same B1 B3 ∧ Hs C B3 H3 s3 ∧ Sls K C B3 H3 A3 (env a3) σ3 ∧ wfor (fun x a => wbind (wg x) (kb a)) (it.drop (i + 1)) a3 s3 P, ?_, ?_⟩
      · rintro σ3 H3 ⟨B3, s3, A3, a3, e3, w3, l3, p3⟩
        exact ⟨it.length - (i + 1), by omega, rfl, hlt, B3, s3, A3, a3, e3, w3, l3, p3⟩
      · intro x H3 hy
        obtain ⟨B3, gr, sx⟩ := g2 x H3 hy
        refine hg a C B3 H3 s2 A2 σ' x _ (w2.grow gr) (l2.grow w2 gr) sx _ p2 _ fun A4 σ4 b l4 p4 => ?_
        refine hb a b C B3 H3 s2 A4 σ4 (w2.grow gr) l4 _ p4 _ (fun B5 H5 s5 A5 σ5 a5 e5 w5 l5 p5 => ?_) fun B5 v H5 d s5 e5 w5 r5 p5 => ?_
        · exact ⟨B5, s5, A5, a5, (e2.trans gr.b).trans e5, w5, l5, p5⟩
        · exact rt B5 v H5 d s5 (((e1.trans e2).trans gr.b).trans e5) w5 r5 p5
    · have e : i = it.length := by omega
      subst e
      rw [List.drop_length] at p2
      exact .inl ⟨stop (Nat.le_refl _), nx B2 H' s2 A2 σ' a (e1.trans e2) w2 l2 p2⟩
/-- a loop that never returns -/
def wforn (k : PyData → α → W S α) : List PyData → α → W S α
  | [], a => wpure a
  | x :: xs, a => wbind (k x a) fun a' => wforn k xs a'
theorem wforn_eq (k : PyData → α → W S α) : ∀ (it : List PyData) (a : α), wfor (fun x a => wbind (k x a) wnx) it a = wbind (wforn k it a) wnx
  | [], a => rfl
  | x :: xs, a => by
    show fbind (wbind (k x a) wnx) (fun a' => wfor _ xs a') = wbind (wbind (k x a) fun a' => wforn k xs a') wnx
    have e : (fun a' => wfor (fun x a => wbind (k x a) wnx) xs a') = fun a' => wbind (wforn k xs a') wnx := funext fun a' => wforn_eq k xs a'
    rw [e]
    rfl
theorem psn_for {wi : TI} {g : TG} {wk : Bool} {wit : W S (List PyData)} {envg : α → β → List PS} {wg : PyData → W S β} {kb : α → β → W S α} {a0 : α} {tb' : TS} (ms : List Bool) (hi : Pi K wi wk ρ wit)
    (hg : ∀ a, Pg K g wk (env a) (envg a) wg) (hb : ∀ a b, Psn K tb' r (envg a b) env (kb a b)) (h0 : keep ms ρ = env a0 := by rfl) :
    Psn K (tFor wi g tb') r ρ env (wbind wit fun it => wforn (fun x a => wbind (wg x) (kb a)) it a0) := by
  have h := pst_for (tb' := tb') (kb := fun a b => wbind (kb a b) wnx) ms hi hg hb h0
  have e : (fun it => wfor (fun x a => wbind (wg x) fun b => wbind (kb a b) wnx) it a0) = fun it => wbind (wforn (fun x a => wbind (wg x) (kb a)) it a0) wnx :=
    funext fun it => wforn_eq (fun x a => wbind (wg x) (kb a)) it a0
  show Pst K _ r ρ env (wbind wit fun it => wbind (wforn (fun x a => wbind (wg x) (kb a)) it a0) wnx)
  rw [← e]
  exact h
theorem pst_while {kb : α → W S (Fl α)} {wt : α → W S Bool} {a0 : α} {tb' : TS} (ms : List Bool) (hc : ∀ a, Pt K tt (env a) (wt a)) (hb : ∀ a, Pst K tb' r (env a) env (kb a)) (h0 : keep ms ρ = env a0 := by rfl) :
    Pst K (tWhile tt tb') r ρ env (wwhile wt kb a0) := fun C B H s A σ hw hl P hp D nx rt => by
  obtain ⟨n0, p0⟩ := hp
  obtain ⟨A0, l0, _⟩ := hl.keep ms
  rw [h0] at l0
  refine ⟨fun m σ' H' => ∃ B' s' A' a, Same B B' ∧ Hs C B' H' s' ∧ Sls K C B' H' A' (env a) σ' ∧ wwhileN wt kb m a s' P, ⟨n0, B, s, A0, a0, Same.r _, hw, l0, p0⟩, ?_⟩
  rintro m σ' H' ⟨B2, s2, A2, a, e2, w2, l2, p2⟩
  cases m with
  | zero => exact p2.elim
  | succ m =>
    refine hc a C B2 H' s2 A2 σ' w2 l2 _ p2 _ fun B3 b H3 s3 e3 w3 l3 p3 => ?_
    cases b with
    | true =>
      rw [if_pos rfl]
      refine ⟨fun σ4 H4 => ∃ B4 s4 A4 a4, Same B B4 ∧ Hs C B4 H4 s4 ∧ Sls K C B4 H4 A4 (env a4) σ4 ∧ wwhileN wt kb m a4 s4 P, fun σ4 H4 q => ⟨m, Nat.lt_succ_self m, q⟩, ?_⟩
      refine hb a C B3 H3 s3 A2 σ' w3 l3 _ p3 _ (fun B5 H5 s5 A5 σ5 a5 e5 w5 l5 p5 => ?_) fun B5 v H5 d s5 e5 w5 r5 p5 => ?_
      · exact ⟨B5, s5, A5, a5, (e2.trans e3).trans e5, w5, l5, p5⟩
      · exact rt B5 v H5 d s5 ((e2.trans e3).trans e5) w5 r5 p5
    | false =>
      rw [if_neg Bool.false_ne_true]
      exact nx B3 H3 s3 A2 σ' a (e2.trans e3) w3 l3 p3
end
end PL

namespace PL
open PySem PySem.Spec PyProof.Rows L2

section
variable {S α β γ : Type} [Res S] {K : PySem.W.Frag} {C C' : Cf S} {B B' H H' : Hp} {s s' : S} {A : List Addr} {ρ ρ' : List PS} {σ : L2.St} {v : V} {d : PyData} {p : Addr}
  {te ta tb tc td ty tv : TE} {tt : TT} {t u ts : TS} {w wa wb wc : W S PyData} {wt wu : W S Bool} {k : EK} {i : Nat} {r : RK} {env : α → List PS} {env2 : β → List PS}
/-! ### some own things are looked at only, for a while -/
structure Frm (C C' : Cf S) (A' : List Addr) (H : Hp) : Prop where
  b : C'.B0 = C.B0
  ad : C'.ad = C.ad
  rt : C'.root = C.root
  i : ∀ a ∈ A', C'.H0 a = H a
  o : ∀ a, a ∉ A' → C'.H0 a = C.H0 a
theorem frm (hw : Hs C B H s) (A' : List Addr) (h : ∀ a ∈ A', Mu (H a) ∧ B a = none ∧ C.H0 a = none) : ∃ C' : Cf S, Frm C C' A' H ∧ Hs C' B H s := by
  classical
  have hb0 : ∀ a ∈ A', C.B0 a = none := fun a ha => by
    cases e : C.B0 a with
    | none => rfl
    | some o => have := (h a ha).2.1; rw [hw.eb _ _ e] at this; cases this
  let H0 : Hp := fun a => if a ∈ A' then H a else C.H0 a
  refine ⟨⟨C.B0, H0, C.ad, C.root, fun a ha => ⟨?_, (C.pre a ha).2⟩, fun a o e => ?_⟩, ⟨rfl, rfl, rfl, fun a ha => if_pos ha, fun a ha => if_neg ha⟩, ⟨hw.ex, hw.eb, fun a o e => ?_, fun a o e n => ?_, fun a e => ?_, hw.ok⟩⟩
  · show H0 a ≠ none
    by_cases z : a ∈ A'
    · rw [show H0 a = H a from if_pos z]; exact (h a z).1.ne
    · rw [show H0 a = C.H0 a from if_neg z]; exact (C.pre a ha).1
  · show H0 a = some o
    have z : a ∉ A' := fun z => by rw [hb0 a z] at e; cases e
    rw [show H0 a = C.H0 a from if_neg z]
    exact C.bh _ _ e
  · show C.B0 a = some o ∨ (H0 a = none ∨ Old H0 C.ad a o)
    have z : a ∉ A' := fun z => by rw [(h a z).2.1] at e; cases e
    unfold Old
    rw [show H0 a = C.H0 a from if_neg z]
    exact hw.nb a o e
  · have e : H0 a = some o := e
    by_cases z : a ∈ A'
    · rw [show H0 a = H a from if_pos z] at e; exact e
    · rw [show H0 a = C.H0 a from if_neg z] at e; exact hw.fr a o e n
  · show H0 a = none
    by_cases z : a ∈ A'
    · exact absurd e (h a z).1
    · rw [show H0 a = C.H0 a from if_neg z]; exact hw.al a e
theorem Frm.back {A' : List Addr} (f : Frm C C' A' H) (h : ∀ a ∈ A', Mu (H a) ∧ B a = none ∧ C.H0 a = none) (hw : Hs C B H s) (w' : Hs C' B' H' s') : Hs C B' H' s' ∧ ∀ a ∈ A', H' a = H a ∧ B' a = none := by
  have nad : ∀ a ∈ A', a ∉ C.ad := fun a ha z => (C.pre a z).1 (h a ha).2.2
  have hb : ∀ a ∈ A', B' a = none := fun a ha => by
    cases e : B' a with
    | none => rfl
    | some o =>
      rcases w'.nb a o e with q | q | ⟨xs, q1, q2, q3⟩
      · rw [f.b] at q
        have := (h a ha).2.1
        rw [hw.eb _ _ q] at this
        cases this
      · rw [f.i a ha] at q
        exact absurd q (h a ha).1.ne
      · rw [f.i a ha, q1] at q2
        exact absurd q2 ((h a ha).1.nt xs)
  refine ⟨⟨w'.ex, by have := w'.eb; rw [f.b] at this; exact this, fun a o e => ?_, fun a o e n => ?_, fun a e => ?_, by have := w'.ok; unfold Cf.ok at this ⊢; rw [f.rt, f.ad] at this; exact this⟩, fun a ha => ⟨?_, hb a ha⟩⟩
  · have z : a ∉ A' := fun z => by rw [hb a z] at e; cases e
    have := w'.nb a o e
    unfold Old at this
    rw [f.b, f.o a z, f.ad] at this
    exact this
  · have z : a ∉ A' := fun z => by rw [(h a z).2.2] at e; cases e
    exact w'.fr a o (by rw [f.o a z]; exact e) (by rw [f.ad]; exact n)
  · have z : a ∉ A' := fun z => by
      have := w'.al a e
      rw [f.i a z] at this
      exact (h a z).1 this
    have := w'.al a e
    rw [f.o a z] at this
    exact this
  · cases e : H a with
    | none => exact absurd e (h a ha).1
    | some o => exact w'.fr a o (by rw [f.i a ha]; exact e) (by rw [f.ad]; exact nad a ha)
theorem Frm.gh {A' : List Addr} (f : Frm C C' A' H) (h : ∀ a ∈ A', C.H0 a = none) (hw : Hs C B H s) (e : Same B B') (w' : Hs C' B' H' s') : Same (Gh C B) (Gh C' B') := fun a o q => by
  classical
  unfold Gh at q ⊢
  cases e1 : B a with
  | some u => rw [e1] at q; rw [e _ _ e1]; exact q
  | none =>
    rw [e1] at q
    simp only at q
    split at q
    · cases q
    · rename_i hn
      have z : a ∉ A' := fun z => by rw [h a z] at q; cases q
      cases e2 : B' a with
      | some u =>
        rcases w'.nb a u e2 with x | x | ⟨xs, x1, x2, x3⟩
        · rw [f.b] at x; rw [hw.eb _ _ x] at e1; cases e1
        · rw [f.o a z] at x; rw [x] at q; cases q
        · rw [f.o a z] at x2; rw [x2] at q; exact q
      | none =>
        simp only
        rw [if_neg (by rw [f.ad]; exact hn), f.o a z]
        exact q
def vwS : List PS → List PS
  | [] => []
  | .own d :: ρ => .vw d :: vwS ρ
  | .nt _ d :: ρ => .vw d :: vwS ρ
  | x :: ρ => x :: vwS ρ
def wipeS (ρ : List PS) : List Nat → List PS
  | [] => ρ
  | i :: vs => (wipeS ρ vs).set i .un
theorem Sls.toVw (h : Sls K C B H A ρ σ) {A' : List Addr} (hA : ∀ a ∈ A, a ∈ A') (f : Frm C C' A' H) (hx : ∀ a ∈ A', Mu (H a) ∧ B a = none ∧ C.H0 a = none) (hw : Hs C B H s) (w' : Hs C' B H s) : Sls K C' B H [] (vwS ρ) σ := by
  induction h with
  | nil => exact .nil
  | un _ ih => exact .un (ih hA)
  | dat r _ ih => exact .dat r (ih hA)
  | vw r _ ih => exact .vw (r.mono (Same.refl _) (f.gh (fun a z => (hx a z).2.2) hw (Same.refl B) w')) (ih hA)
  | pv r _ ih => exact .pv (r.mono (Same.refl _) (f.gh (fun a z => (hx a z).2.2) hw (Same.refl B) w')) (ih hA)
  | dk _ ih => exact (show Sls K C' B H [] (.dk :: vwS _) (some (.ref C.root) :: _) from by rw [← f.rt]; exact .dk (ih hA))
  | @own A0 ρ0 σ0 p o d h1 h2 h3 h4 h5 _ ih =>
    refine .vw ?_ (ih fun a z => hA a (List.mem_cons_of_mem _ z))
    refine h2.sr (H := Gh C' B) ?_
    unfold Gh
    rw [h3]
    have hp := hA p List.mem_cons_self
    have nad : p ∉ C'.ad := by rw [f.ad]; exact fun z => (C.pre p z).1 h4
    simp only
    rw [if_neg nad, f.i p hp]
    exact h1
  | @nt A0 qs ρ0 σ0 p d n nd hx' _ ih =>
    refine .vw ?_ (ih fun a z => hA a (List.mem_append_right _ z))
    refine (n.mono (H' := Gh C' B) (Same.refl B) fun q hq o e => ?_).sr
    unfold Gh
    obtain ⟨y1, y2, y3⟩ := hx' q hq
    rw [y1]
    have hp := hA q (List.mem_append_left _ hq)
    have nad : q ∉ C'.ad := by rw [f.ad]; exact fun z => (C.pre q z).1 y2
    simp only
    rw [if_neg nad, f.i q hp]
    exact e
/-- slots without own things live on -/
theorem Sls.move (h : Sls K C B H A ρ σ) (hA : A = []) (e : Same B B') (g : Same (Gh C B) (Gh C' B')) (hr : C'.root = C.root) : Sls K C' B' H' [] ρ σ := by
  induction h with
  | nil => exact .nil
  | un _ ih => exact .un (ih hA)
  | dat r _ ih => exact .dat (r.mono e) (ih hA)
  | vw r _ ih => exact .vw (r.mono e g) (ih hA)
  | pv r _ ih => exact .pv (r.mono e g) (ih hA)
  | dk _ ih => rw [← hr]; exact .dk (ih hA)
  | own _ _ _ _ _ _ _ => cases hA
  | nt n nd hx _ ih =>
    obtain ⟨rfl, rfl⟩ := List.append_eq_nil_iff.mp hA
    exact .nt (n.mono e fun q hq => nomatch hq) nd (fun q hq => nomatch hq) (ih rfl)
theorem Sls.agree (h : Sls K C B H A ρ σ) (e : Same B B') (g : Same (Gh C B) (Gh C B')) (q : ∀ a ∈ A, H' a = H a ∧ B' a = none) : Sls K C B' H' A ρ σ := by
  induction h with
  | nil => exact .nil
  | un _ ih => exact .un (ih q)
  | dat r _ ih => exact .dat (r.mono e) (ih q)
  | vw r _ ih => exact .vw (r.mono e g) (ih q)
  | pv r _ ih => exact .pv (r.mono e g) (ih q)
  | dk _ ih => exact .dk (ih q)
  | own h1 h2 h3 h4 h5 _ ih =>
    exact .own (by rw [(q _ List.mem_cons_self).1]; exact h1) (h2.mono e) (q _ List.mem_cons_self).2 h4 h5 (ih fun a z => q a (List.mem_cons_of_mem _ z))
  | nt n nd hx _ ih =>
    exact .nt (n.mono e fun a ha o z => by rw [(q a (List.mem_append_left _ ha)).1]; exact z) nd (fun a ha => ⟨(q a (List.mem_append_left _ ha)).2, (hx a ha).2⟩) (ih fun a z => q a (List.mem_append_right _ z))
theorem Sls.wipe (h : Sls K C B H [] ρ σ) : ∀ vs : List Nat, Sls K C B H [] (wipeS ρ vs) (wipe σ vs)
  | [] => h
  | i :: vs => by
    obtain ⟨A', q1, q2⟩ := (Sls.wipe h vs).setU i none
    have : A' = [] := by
      cases A' with
      | nil => rfl
      | cons a _ => exact absurd (q2 a List.mem_cons_self) (by simp)
    subst this
    exact q1

/-! ### comprehensions -/
theorem wipe_set {σ : L2.St} {i : Nat} {o : Option V} : ∀ {vs : List Nat}, i ∈ vs → wipe (σ.set i o) vs = wipe σ vs
  | j :: vs, h => by
    unfold wipe
    by_cases e : i = j
    · subst e
      by_cases hm : i ∈ vs
      · rw [wipe_set hm]
      · have aux : ∀ {ws : List Nat}, i ∉ ws → wipe (σ.set i o) ws = (wipe σ ws).set i o := by
          intro ws
          induction ws with
          | nil => intro _; rfl
          | cons k ws ih =>
            intro hk
            have h1 : i ≠ k := fun z => hk (by rw [z]; exact List.mem_cons_self)
            unfold wipe
            rw [ih fun z => hk (List.mem_cons_of_mem _ z), List.set_comm _ _ h1]
        rw [aux hm, List.set_set]
    · have hm : i ∈ vs := by
        rcases List.mem_cons.mp h with z | z
        · exact absurd z e
        · exact z
      rw [wipe_set hm]
theorem wipe_idem {σ : L2.St} : ∀ ws : List Nat, wipe (wipe σ ws) ws = wipe σ ws
  | [] => rfl
  | k :: ws => by
    show wipe (((wipe σ ws)).set k none) (k :: ws) = _
    rw [wipe_set List.mem_cons_self]
    unfold wipe
    rw [wipe_idem ws]
def GW (g : TG) (vs : List Nat) : Prop := ∀ v σ H Q, g v σ H Q → g v σ H fun σ2 H2 => wipe σ2 vs = wipe σ vs ∧ Q σ2 H2
def GWs (g : TGs) (vs : List Nat) : Prop := ∀ v σ H Q, g v σ H Q → g v σ H fun σ2 H2 => wipe σ2 vs = wipe σ vs ∧ Q σ2 H2
def GM (tg : TG) : Prop := ∀ v σ H (Q Q' : L2.St → Hp → Prop), (∀ σ H, Q σ H → Q' σ H) → tg v σ H Q → tg v σ H Q'
def GMs (tg : TGs) : Prop := ∀ v σ H (Q Q' : L2.St → Hp → Prop), (∀ σ H, Q σ H → Q' σ H) → tg v σ H Q → tg v σ H Q'
theorem gm_n {i : Nat} : GM (gName i) := fun _ _ _ _ _ h q => h _ _ q
theorem gms_n : GMs gNil := fun _ _ _ _ _ h q => ⟨q.1, h _ _ q.2⟩
theorem gms_c {tg : TG} {tgs : TGs} (h1 : GM tg) (h2 : GMs tgs) : GMs (gCons tg tgs) := fun _ _ _ _ _ h ⟨v, r, e, q⟩ => ⟨v, r, e, h1 _ _ _ _ _ (fun _ _ q => h2 _ _ _ _ _ h q) q⟩
theorem gm_t {n : Nat} {tg : TGs} (h1 : GMs tg) : GM (gTup K n tg) := fun _ _ _ _ _ h ⟨a, xs, e, hs, hn, q⟩ => ⟨a, xs, e, hs, hn, h1 _ _ _ _ _ h q⟩
theorem gw_n {i : Nat} {vs : List Nat} (h : i ∈ vs) : GW (gName i) vs := fun v σ H Q q => ⟨wipe_set h, q⟩
theorem gws_n {vs : List Nat} : GWs gNil vs := fun v σ H Q q => ⟨q.1, rfl, q.2⟩
theorem gws_c {tg : TG} {tgs : TGs} {vs : List Nat} (m1 : GM tg) (m2 : GMs tgs) (h1 : GW tg vs) (h2 : GWs tgs vs) : GWs (gCons tg tgs) vs := fun ws σ H Q q => by
  obtain ⟨v, r, e, q⟩ := q
  refine ⟨v, r, e, m1 _ _ _ _ _ ?_ (h1 _ _ _ _ q)⟩
  rintro σ1 H1 ⟨e1, q1⟩
  refine m2 _ _ _ _ _ ?_ (h2 _ _ _ _ q1)
  rintro σ2 H2 ⟨e2, q2⟩
  exact ⟨e2.trans e1, q2⟩
theorem gw_t {n : Nat} {tg : TGs} {vs : List Nat} (h1 : GWs tg vs) : GW (gTup K n tg) vs := fun _ _ _ _ ⟨a, xs, e, hs, hn, q⟩ => ⟨a, xs, e, hs, hn, h1 _ _ _ _ q⟩
/-- a comprehension's target: it stores its own names alone -/
structure GO (g : TG) (vs : List Nat) : Prop where
  m : GM g
  w : GW g vs
structure GOs (g : TGs) (vs : List Nat) : Prop where
  m : GMs g
  w : GWs g vs
theorem go_n {i : Nat} {vs : List Nat} (h : i ∈ vs := by simp) : GO (gName i) vs := ⟨gm_n, gw_n h⟩
theorem gos_n {vs : List Nat} : GOs gNil vs := ⟨gms_n, gws_n⟩
theorem gos_c {tg : TG} {tgs : TGs} {vs : List Nat} (a : GO tg vs) (b : GOs tgs vs) : GOs (gCons tg tgs) vs := ⟨gms_c a.m b.m, gws_c a.m b.m a.w b.w⟩
theorem go_t {n : Nat} {tg : TGs} {vs : List Nat} (a : GOs tg vs) : GO (gTup K n tg) vs := ⟨gm_t a.m, gw_t a.w⟩

def wlcE (t : W S Bool) (e : W S PyData) : W S (Option PyData) := wbind t fun c => wcond c (wbind e fun d => wpure (some d)) (wpure none)
def wlcS (f : PyData → W S (Option PyData)) (it : List PyData) : W S PyData := fun s Q => it.length < sizeLine ∧ wlc f it s fun ds s' => Q (.list ds) s'
theorem px_lc {wi : TI} {g : TG} {wk : Bool} {vs : List Nat} {ρv ρ2 : List PS} {wit : W S (List PyData)} {envg : α → List PS} {wg : PyData → W S α} {wtt : α → W S Bool} {we : α → W S PyData} (go : GO g vs)
    (hi : Pi K wi wk ρv wit) (hg : Pg K g wk ρ2 envg wg) (ht : ∀ b, Pt K tt (envg b) (wtt b)) (he : ∀ b, Px K te .dat (envg b) (we b)) (e1 : vwS ρ = ρv := by rfl) (e2 : wipeS ρv vs = ρ2 := by rfl) :
    Px K (tLc wi g tt te vs) .own ρ (wbind wit fun it => wlcS (fun x => wbind (wg x) fun b => wlcE (wtt b) (we b)) it) := fun C B H s A σ hw hl P hp Q q => by
  subst e1 e2
  have hA := hl.inA
  obtain ⟨C1, f1, w1⟩ := frm hw A hA
  have l1 := hl.toVw (fun _ z => z) f1 hA hw w1
  refine hi C1 B H s [] σ w1 l1 _ hp _ fun B1 J H1 it s1 e1 w2 l2 ok p1 L hL => ?_
  obtain ⟨hz, p1⟩ := p1
  have b1 := f1.back hA hw w2
  have hL0 : C1.H0 L = none := w2.al L hL
  have hLA : L ∉ A := fun z => by
    have := b1.2 L z
    rw [hL] at this
    exact (hA L z).1 this.1.symm
  have hC0 : C.H0 L = none := by rw [← f1.o L hLA]; exact hL0
  have fin : ∀ B' H' s' accv acc, Same B1 B' → Hs C1 B' H' s' → H' L = some (.lst accv) → RpAll K B' accv acc → B' L = none → P (.list acc) s' → Q (.ref L) H' := by
    intro B' H' s' accv acc e3 w3 h3 r3 n3 p3
    have b3 := f1.back hA hw w3
    exact q B' _ H' (.list acc) s' (e1.trans e3) b3.1 (hl.agree (e1.trans e3) (hw.gh2 (e1.trans e3) b3.1.nb) b3.2) ⟨L, .lst accv, rfl, h3, (show RpAll K B' accv acc from r3), n3, hC0, hLA⟩ p3
  refine ⟨fun i m H' => m = it.length - i ∧ i ≤ it.length ∧ ∃ B' s' accv acc, Same B1 B' ∧ Hs C1 B' H' s' ∧ H' L = some (.lst accv) ∧ RpAll K B' accv acc ∧ B' L = none ∧ acc.length ≤ i ∧
      wlc (fun x => wbind (wg x) fun b => wlcE (wtt b) (we b)) (it.drop i) s' fun r s'' => P (.list (acc ++ r)) s'',
    ⟨it.length, by simp, Nat.zero_le _, B1, s1, [], [], Same.r _, w2.grow (Grow.newU w2.ex hL), upd_same, .nil, w2.freeB hL, Nat.le_refl _, p1⟩, ?_⟩
  rintro i m H' ⟨rfl, hi, B2, s2, accv, acc, e3, w3, h3, r3, n3, z3, p3⟩
  obtain ⟨stop, gg⟩ := ok B2 H' s2 e3 w3 i
  by_cases hlt : i < it.length
  · have hd0 : it[i]? = some it[i] := List.getElem?_eq_getElem hlt
    obtain ⟨g1, g2⟩ := gg _ hd0
    rw [List.drop_eq_getElem_cons hlt] at p3
    let NX : Hp → Prop := fun H3 => ∃ B3 s3 accv acc, Same B1 B3 ∧ Hs C1 B3 H3 s3 ∧ H3 L = some (.lst accv) ∧ RpAll K B3 accv acc ∧ B3 L = none ∧ acc.length ≤ i + 1 ∧
        wlc (fun x => wbind (wg x) fun b => wlcE (wtt b) (we b)) (it.drop (i + 1)) s3 fun r s'' => P (.list (acc ++ r)) s''
    refine .inr ⟨g1, NX, ?_, ?_⟩
    · rintro H3 ⟨B3, s3, accv, acc, x⟩
      exact ⟨it.length - (i + 1), by omega, rfl, hlt, B3, s3, accv, acc, x⟩
    · intro x H3 hy
      obtain ⟨B3, gr, sx⟩ := g2 x H3 hy
      have w4 := w3.grow gr
      have h4 : H3 L = some (.lst accv) := gr.h _ _ h3
      have n4 : B3 L = none := by
        exact gr.keepB n3 (.of h3 nofun)
      have hD : ∀ a ∈ [L], Mu (H3 a) ∧ B3 a = none ∧ C1.H0 a = none := by
        intro a ha
        rw [List.mem_singleton] at ha
        subst ha
        exact ⟨.of h4 nofun, n4, hL0⟩
      obtain ⟨C2, f2, w5⟩ := frm w4 [L] hD
      have l5 : Sls K C2 B3 H3 [] (vwS ρ) σ := l2.move rfl (e3.trans gr.b) ((w2.gh2 (e3.trans gr.b) w4.nb).trans (f2.gh (fun a z => (hD a z).2.2) w4 (Same.r _) w5)) f2.rt
      refine go.m _ _ _ _ _ ?_ (go.w x (wipe σ vs) H3 (fun σ4 H4 => tt σ4 H4 fun b H3 => if b = true then te σ4 H3 fun y H4 => ∃ acc, H4 L = some (.lst acc) ∧ acc.length < sizeLine ∧ NX (upd H4 L (.lst (acc ++ [y]))) else NX H3) ?_)
      · rintro σ4 H4 ⟨ew, q4⟩
        exact ⟨by rw [ew]; exact wipe_idem vs, q4⟩
      · refine hg C2 B3 H3 s2 [] (wipe σ vs) x _ w5 (l5.wipe vs) sx _ p3 _ fun A4 σ4 b l4 p4 => ?_
        refine ht b C2 B3 H3 s2 A4 σ4 w5 l4 _ p4 _ fun B5 c H5 s5 e5 w6 l6 p5 => ?_
        cases c with
        | true =>
          rw [if_pos rfl]
          refine he b C2 B5 H5 s5 A4 σ4 w6 l6 _ p5 _ fun B6 y H6 dd s6 e6 w7 l7 r7 p6 => ?_
          obtain ⟨w8, k8⟩ := f2.back hD w4 w7
          have k9 := k8 L (List.mem_singleton.mpr rfl)
          refine ⟨accv, by rw [k9.1]; exact h4, by rw [r3.length]; omega, B6, s6, accv ++ [y], acc ++ [dd], ((e3.trans gr.b).trans e5).trans e6, w8.put k9.2 hL0, upd_same, (r3.mono (((gr.b).trans e5).trans e6)).app (.cons r7 .nil), k9.2, by rw [List.length_append, List.length_singleton]; omega, ?_⟩
          have p6 : wlc (fun x => wbind (wg x) fun b => wlcE (wtt b) (we b)) (it.drop (i + 1)) s6 fun r s'' => P (.list (acc ++ dd :: r)) s'' := p6
          refine cast ?_ p6
          congr 1
          funext r s''
          rw [List.append_assoc]
          rfl
        | false =>
          rw [if_neg Bool.false_ne_true]
          obtain ⟨w8, k8⟩ := f2.back hD w4 w6
          have k9 := k8 L (List.mem_singleton.mpr rfl)
          exact ⟨B5, s5, accv, acc, (e3.trans gr.b).trans e5, w8, by rw [k9.1]; exact h4, r3.mono (gr.b.trans e5), k9.2, by omega, p5⟩
  · have e : i = it.length := by omega
    subst e
    rw [List.drop_length] at p3
    have p3 : P (.list (acc ++ [])) s2 := p3
    rw [List.append_nil] at p3
    exact .inl ⟨stop (Nat.le_refl _), fin B2 H' s2 accv acc e3 w3 h3 r3 n3 p3⟩
/-- without a test -/
def wmap (f : PyData → W S PyData) : List PyData → W S (List PyData)
  | [] => wpure []
  | x :: xs => wbind (f x) fun d => wbind (wmap f xs) fun r => wpure (d :: r)
def wmapS (f : PyData → W S PyData) (it : List PyData) : W S PyData := fun s Q => it.length < sizeLine ∧ wmap f it s fun ds s' => Q (.list ds) s'
theorem wmap_lc (f : PyData → W S PyData) : ∀ it : List PyData, wlc (fun x => wbind (f x) fun d => wpure (some d)) it = wmap f it
  | [] => rfl
  | x :: xs => by
    show wbind (wbind (f x) fun d => wpure (some d)) _ = wbind (f x) _
    rw [← wmap_lc f xs]
    rfl
theorem px_lc1 {wi : TI} {g : TG} {wk : Bool} {vs : List Nat} {ρv ρ2 : List PS} {wit : W S (List PyData)} {envg : α → List PS} {wg : PyData → W S α} {we : α → W S PyData} (go : GO g vs)
    (hi : Pi K wi wk ρv wit) (hg : Pg K g wk ρ2 envg wg) (he : ∀ b, Px K te .dat (envg b) (we b)) (e1 : vwS ρ = ρv := by rfl) (e2 : wipeS ρv vs = ρ2 := by rfl) :
    Px K (tLc wi g tYes te vs) .own ρ (wbind wit fun it => wmapS (fun x => wbind (wg x) we) it) := by
  have h := px_lc (wtt := fun _ => wpure true) go hi hg (fun b => pt_yes) he e1 e2
  have e : (fun it => wlcS (fun x => wbind (wg x) fun b => wlcE (wpure true) (we b)) it) = fun it => wmapS (fun x => wbind (wg x) we) it := by
    funext it s Q
    unfold wmapS wlcS
    rw [← wmap_lc]
    rfl
  rw [← e]
  exact h
end
end PL

/-! calls: defs, methods, new instances (over the kit's rules) -/
namespace PL
open PySem PySem.Spec PyProof.Rows L2
theorem pr_get {α β : Type} {F : α → β → Prop} : ∀ {xs : List α} {ys : List β} {i : Nat} {x : α}, Paired F xs ys → xs[i]? = some x → ∃ y, ys[i]? = some y ∧ F x y
  | _, _, _, _, .nil, e => by simp at e
  | _, _, 0, _, .cons r _, e => by simp at e; subst e; exact ⟨_, rfl, r⟩
  | _, _, i + 1, x, .cons _ t, e => by
    obtain ⟨u, h1, h2⟩ := pr_get (i := i) (x := x) t (by simpa using e)
    exact ⟨u, by simpa using h1, h2⟩
theorem pr_app {α β : Type} {F : α → β → Prop} : ∀ {xs zs : List α} {ys ws : List β}, Paired F xs ys → Paired F zs ws → Paired F (xs ++ zs) (ys ++ ws)
  | _, _, _, _, .nil, h => h
  | _, _, _, _, .cons r t, h => .cons r (pr_app t h)
theorem pr_len {α β : Type} {F : α → β → Prop} {xs : List α} {ys : List β} (h : Paired F xs ys) : xs.length = ys.length := Paired.length h
/-! ### defs: what stands around the call is told whole -/
structure FnA (P : Program) (w : World) (K : PySem.W.Frag) (mg : Str → Option Value) (base : Heap) (CX : CXT) (A : Around) (f : Addr) (fd : FuncData) (ps : List Str) (sp : Sp) : Prop where
  len : ∀ vs H Q E, sp vs H Q E → vs.length = ps.length
  run : ∀ (outer : List Env) (s : Shared) (H : Hp) (args : Args) (us : List Value) (vs : List V) (Q : VK) (E : XK), Env0 P w K mg base A outer s H → BindsTo s fd args (ps.zip us) → Vals vs us → sp vs H Q E →
    codeAny (model P w) A (.call (.ref f) args) (CR CX outer P w H s Q E) s
/-- room, and no repr is under way -/
structure Rm (k : Nat) (A : Around) : Prop where
  r : Room k A
  g : A.guards = some []
theorem Rm.mono {j k : Nat} {A : Around} (r : Rm k A) (h : j ≤ k) : Rm j A := ⟨r.r.mono h, r.g⟩
theorem Rm.deeper {k : Nat} {A : Around} (r : Rm (k + 1) A) (env : Env) : Rm k (A.deeper env) := ⟨r.r.deeper env, r.g⟩
theorem Rm.units0 {k : Nat} {A : Around} (r : Rm k A) : A.units + 64 < cLine := by have := r.r.un; omega
theorem Rm.u1 {k : Nat} {A : Around} (r : Rm k A) : A.units + 1 < cLine := by have := r.r.un; omega
def FnG (P : Program) (w : World) (K : PySem.W.Frag) (mg : Str → Option Value) (base : Heap) (CX : CXT) (k : Nat) (f : Addr) (fd : FuncData) (ps : List Str) (sp : Sp) : Prop :=
  ∀ A : Around, Rm k A → FnA P w K mg base CX A f fd ps sp
theorem FnG.mono {P : Program} {w : World} {K : PySem.W.Frag} {mg : Str → Option Value} {base : Heap} {CX : CXT} {j k : Nat} {f : Addr} {fd : FuncData} {ps : List Str} {sp : Sp}
    (F : FnG P w K mg base CX j f fd ps sp) (h : j ≤ k) : FnG P w K mg base CX k f fd ps sp := fun A r => F A (r.mono h)

section
variable {P : Program} {w : World} {K : PySem.W.Frag} {mg : Str → Option Value} {base : Heap} {CX : CXT} {k : Nat} {f : Addr} {name qual : Str} {params : Arguments} {body : List Stmt} {scope : Scope}
/-- a def by its body -/
theorem fng_of {dV kV doc pm cdv ct oc : Value} {an od : Option Addr} {osl : Array (Option Value)} {N ps : List Str} {sp : Sp}
    (lk : K.lookup f = some ⟨oc, od, .func (PySem.W.fnOf name qual params body scope dV kV doc pm an cdv ct), osl⟩) (hcd : PySem.W.codeIn K cdv qual = true) (S : FnScope N ps scope)
    (len : ∀ vs H Q E, sp vs H Q E → vs.length = ps.length)
    (hb : ∀ (A : Around) (outer : List Env) (s : Shared) (H : Hp) (vs : List V) (Q : VK) (E : XK), Rm k (A.deeper (envOfC qual scope s.heap.objs.size f cdv)) → sp vs H Q E →
      ∃ t, PSs (cxOf CX P w K mg base N qual scope f cdv A outer s H E) body t ∧ t { nx := fun _ H' => Q .non H', rt := Q } (L2.start N vs) H) :
    FnG P w K mg base CX (k + 1) f (PySem.W.fnOf name qual params body scope dV kV doc pm an cdv ct) ps sp := by
  intro A hr
  refine ⟨len, fun outer s H args us vs Q E e0 hbi r hsp => ?_⟩
  have hl := len _ _ _ _ hsp
  have KX : K.In s.heap := e0.mod.kin.keeps fun b o e => (e0.bs b o e).1
  have lim : s.heap.NoLimit := e0.mod.nolimit.keeps fun b o e => (e0.bs b o e).1
  have hkind : ∀ y ∈ ps.zip us, scope.names.lookup y.1 = some .local ∨
      (scope.names.lookup y.1 = some .cell ∧ ((cellsFrom (s.heap.objs.size + 1) scope.names []).lookup y.1).isSome = true) := by
    rintro ⟨n, v⟩ hy
    rcases S.par n (List.of_mem_zip hy).1 with q | q
    · exact .inl q
    · exact .inr ⟨q, PySem.W.cellsFrom_some _ _ _ (.inl q)⟩
  have hdep : A.depth + 1 < recursionLimit := by have := hr.r.dp; omega
  refine codeAny_call_function (by first | exact hr.r.depth | exact hdep) (KX _ _ lk) rfl S.co S.gen rfl (PySem.W.codeRec_of KX hcd) (hbi _ _ _ _ ?_)
  refine wpAny_newFunctionEnv_cells S.kind hkind fun env he s1 x => ?_
  subst he
  refine ⟨lim.keeps x.toInCall.keep, codeAny_func ?_⟩
  obtain ⟨t, ht, hq⟩ := hb A outer s H vs Q E (hr.deeper _) hsp
  have I := inv_start (CX := CX) (N := N) (E := E) S hr.r.hd e0 hl r x
  refine wpAny_mono (ht.run [] s1 (L2.start N vs) H _ I hq) (fun fl s' hs => ?_) fun e s' hs => hs
  have fin : ∀ {σ' : L2.St} {H' : Hp} {v : V} {u : Value},
      Inv (cxOf CX P w K mg base N qual scope f cdv A outer s H E) [] σ' H' s' → RelV v u → Q v H' → CE outer P w H s Q u s' := by
    intro σ' H' v u J rv q
    exact ⟨v, H', J.os, J.bare, J.base, J.hok, rv, q⟩
  cases fl with
  | ret u => obtain ⟨v, σ', H', J, rv, q⟩ := hs; exact fin J rv q
  | next => obtain ⟨σ', H', J, q⟩ := hs; exact fin (v := V.non) (u := Value.none) J rfl q
  | brk => obtain ⟨_, _, _, q⟩ := hs; exact q.elim
  | cont => obtain ⟨_, _, _, q⟩ := hs; exact q.elim
end

/-! ### calls: n written values, keywords ks; g puts (defaults, values, keywords) into the parameters' order -/
abbrev Put := {α : Type} → List α → List α → List α → List α
structure CB (K : PySem.W.Frag) (fd : FuncData) (ps : List Str) (n : Nat) (ks : List Str) (g : Put) (dV : List V) : Prop where
  to : ∃ dU : List Value, Vals dV dU ∧ ∀ (s : Shared) (us ws : List Value), K.In s.heap → us.length = n → ws.length = ks.length → BindsTo s fd ⟨us, ks.zip ws⟩ (ps.zip (g dU us ws))
  rel : ∀ {α β : Type} (F : α → β → Prop) {a b c : List α} {a' b' c' : List β}, Paired F a a' → Paired F b b' → Paired F c c' → Paired F (g a b c) (g a' b' c')

def tCallG (sp : Sp) (g : Put) (n m : Nat) (dV : List V) (E : XK) (t tk : TA) : TE := fun σ H Q => t σ H fun vs H1 => tk σ H1 fun zs H2 => vs.length = n ∧ zs.length = m ∧ sp (g dV vs zs) H2 Q E
section
variable {X : Cx} {CX : CXT} {f : Addr} {fd : FuncData} {ps ks : List Str} {sp : Sp} {E : XK} {x : Str} {p pos : Pos} {e : Expr} {es : List Expr} {kws : List Keyword} {t tk : TA} {g : Put} {dV : List V} {n : Nat}
theorem run_G {pins : List (Addr × Obj)} {σ : L2.St} {H : Hp} {s : Shared} {Q : VK} {us ws : List Value} {vs zs : List V} (F : FnA X.prog X.w X.K X.mg X.base CX X.A f fd ps sp) (hb : CB X.K fd ps n ks g dV) (hx : Passes CX X E)
    (I : Inv X pins σ H s) (r : Vals vs us) (rz : Vals zs ws) (l1 : vs.length = n) (l2 : zs.length = ks.length) (h : sp (g dV vs zs) H Q E) : wpAny (model X.prog X.w) X.A (call (.ref f) us (ks.zip ws)) (EP X pins σ Q) X.xe s := by
  obtain ⟨dU, rd, to⟩ := hb.to
  have r2 : Vals (g dV vs zs) (g dU us ws) := hb.rel RelV rd r rz
  refine wpAny_call (codeAny_mono (F.run X.stack s H ⟨us, ks.zip ws⟩ (g dU us ws) (g dV vs zs) Q E I.env0 (to s us ws I.kIn (r.length.symm.trans l1) (rz.length.symm.trans l2)) r2 h) fun r s' hq => ?_)
  cases r with
  | error e => exact hx pins σ H s e s' I hq
  | ok fl =>
    cases fl with
    | ret u => exact I.after hq
    | next => exact hq.elim
    | brk => exact hq.elim
    | cont => exact hq.elim
theorem pe_g (F : FnA X.prog X.w X.K X.mg X.base CX X.A f fd ps sp) (hg : Gl X x) (hm : X.mg x = some (.ref f)) (hk : PySem.W.keepIn X.K (.ref f) = true) (hb : CB X.K fd ps n [] g dV) (hx : Passes CX X E) (ha : PA X (e :: es) t)
    (hdb : (x == ("__debug__" : Str)) = false := by decide) (he : starEach (e :: es) X.env = (false, eval e X.env) :: starEach es X.env := by rfl) (hpl : (backTo pos (starEach es X.env)).any (·.1) = false := by rfl) :
    PE X (.Call (.Name x p) (e :: es) [] pos) (tCallG sp g n 0 dV E t tNil) := by
  refine ⟨fun pins s σ H Q I h => ?_⟩
  refine wpAny_Call_Name_kw (ld_glob I hg hm ?_ hdb)
  refine PySem.W.callWith_K (h₀ := X.base) I.ok.mod.kin hk (thn (ha.run pos pins s σ H _ I h) ?_) he hpl
  rintro us s1 ⟨vs, H1, I1, r, l1, _, q⟩
  exact ⟨I1.kIn, run_G (ks := []) (ws := []) F hb hx I1 r .nil l1 rfl q⟩
end

section
variable {K : PySem.W.Frag} {x qual : Str} {params : Arguments} {body : List Stmt} {scope : Scope} {dvs : List V} {kws : List (Str × V)} {f : Addr} {fd : FuncData}
/-! ### how the written values come to the parameters -/
def pick {α : Type} (idx : List Nat) (l : List α) : List α := idx.filterMap fun i => l[i]?
theorem pick_rel {α β : Type} (F : α → β → Prop) {l : List α} {l' : List β} (h : Paired F l l') : ∀ idx : List Nat, Paired F (pick idx l) (pick idx l')
  | [] => .nil
  | i :: idx => by
    have ih := pick_rel F h idx
    unfold pick at ih ⊢
    rw [List.filterMap_cons, List.filterMap_cons]
    cases e : l[i]? with
    | none =>
      have e2 : l'[i]? = none := by
        have h1 := List.getElem?_eq_none_iff.mp e
        exact List.getElem?_eq_none_iff.mpr (by rw [← pr_len h]; exact h1)
      rw [e2]
      exact ih
    | some a =>
      obtain ⟨b, e2, hab⟩ := pr_get h e
      rw [e2]
      exact .cons hab ih
def putP (idx : List Nat) : Put := fun d a c => pick idx (a ++ (c ++ d))
theorem putP_rel (idx : List Nat) {α β : Type} (F : α → β → Prop) {a b c : List α} {a' b' c' : List β} (h1 : Paired F a a') (h2 : Paired F b b') (h3 : Paired F c c') : Paired F (putP idx a b c) (putP idx a' b' c') :=
  pick_rel F (pr_app h2 (pr_app h3 h1)) idx
theorem cb_of (F : FunD K x qual params body scope [] kws f fd) {ps ks : List Str} {n : Nat} (idx : List Nat)
    (h : ∀ (kV doc pm : Value) (an : Option Addr) (cdv ct : Value) (us ws : List Value), us.length = n → ws.length = ks.length →
      bindArgs (PySem.W.fnOf x qual params body scope .none kV doc pm an cdv ct) ⟨us, ks.zip ws⟩ = pure (ps.zip (pick idx (us ++ (ws ++ []))))) : CB K fd ps n ks (putP idx) [] := by
  obtain ⟨oc, od, dV, kV, doc, pm, an, cdv, ct, osl, rfl, lk, hcd, hD, hK⟩ := F.ex
  refine ⟨⟨[], .nil, fun s us ws _ h1 h2 => ?_⟩, fun F => putP_rel idx F⟩
  rcases hD with ⟨_, rfl⟩ | ⟨e, _⟩
  · exact .of_eq (h kV doc pm an cdv ct us ws h1 h2)
  · exact absurd rfl e
end

section
variable {K : PySem.W.Frag} {x qual : Str} {params : Arguments} {body : List Stmt} {scope : Scope} {f : Addr} {fd : FuncData}
theorem cb_pos (F : FunD K x qual params body scope [] [] f fd) {ps : List Str} {n : Nat}
    (h : ∀ (kV doc pm : Value) (an : Option Addr) (cdv ct : Value) (us : List Value), us.length = n → bindArgs (PySem.W.fnOf x qual params body scope .none kV doc pm an cdv ct) ⟨us, []⟩ = pure (ps.zip us)) : CB K fd ps n [] (fun _ a _ => a) [] := by
  obtain ⟨oc, od, dV, kV, doc, pm, an, cdv, ct, osl, rfl, lk, hcd, hD, hK⟩ := F.ex
  refine ⟨⟨[], .nil, fun s us ws _ h1 h2 => ?_⟩, fun F a b c a' b' c' _ h _ => h⟩
  cases ws with
  | cons _ _ => cases h2
  | nil =>
    rcases hD with ⟨_, rfl⟩ | ⟨e, _⟩
    · exact .of_eq (h kV doc pm an cdv ct us h1)
    · exact absurd rfl e
end
theorem Rm.make {k : Nat} {A : Around} (r : Rm (k + 1) A) (C : Addr) (us : List Value) (kw : List (Str × Value)) : Rm k (A.under (.builtin "type.__call__" ⟨.ref C :: us, kw⟩)) :=
  ⟨r.r.make C us kw, by simp [Around.under, Code.guards, Code.isGuard, pushGuards, r.g, show ¬ "type.__call__" ∈ guardIds by decide]⟩
section
variable {X : Cx} {CX : CXT} {k n : Nat} {f C : Addr} {fd : FuncData} {ps : List Str} {sp : Sp} {E : XK} {x m : Str} {o e : Expr} {es : List Expr} {ta : TE} {t : TA} {p apos pos : Pos} {pl : Sem Bool}
theorem run_makeG {pins : List (Addr × Obj)} {σ : L2.St} {H : Hp} {s : Shared} {Q : VK} {us : List Value} {vs : List V} (M : Mk X.K C f) (F : FnG X.prog X.w X.K X.mg X.base CX k f fd ps sp) (hr : Rm (k + 1) X.A) (hb : CB X.K fd ps (n + 1) [] (fun _ a _ => a) []) (hx : Passes CX X E) (I : Inv X pins σ H s) (r : Vals vs us) (hn : vs.length = n)
    (h : ∀ x dx, H x = Option.none → H dx = Option.none → dx ≠ x → sp (V.ref x :: vs) (upd (upd H dx (.own x)) x (.ins C dx [])) (fun v H2 => v = .non ∧ Q (.ref x) H2) E) :
    wpAny (model X.prog X.w) X.A (call (.ref C) us) (EP X pins σ Q) X.xe s := by
  have hq := h (s.heap.objs.size + 1) s.heap.objs.size (I.hok.fresh (Nat.le_succ _)) (I.hok.fresh (Nat.le_refl _)) (Nat.ne_of_lt (Nat.lt_succ_self _))
  have I2 := Inv.made (C := C) I
  have r2 : Vals (V.ref (s.heap.objs.size + 1) :: vs) (Value.ref (s.heap.objs.size + 1) :: us) := .cons rfl r
  obtain ⟨dU, rd, to⟩ := hb.to
  have hl : (Value.ref (s.heap.objs.size + 1) :: us).length = n + 1 := by rw [← r2.length, List.length_cons, hn]
  refine wpAny_call (make_map (f := f) I.kIn M.makes M.init (beq_iff_eq.mp M.fn) (codeAny_mono ((F _ (hr.make C us [])).run X.stack _ _ ⟨Value.ref (s.heap.objs.size + 1) :: us, []⟩ (Value.ref (s.heap.objs.size + 1) :: us) _ _ E (I2.env0.make C us []) (to _ (Value.ref (s.heap.objs.size + 1) :: us) [] I2.kIn hl rfl) r2 hq) fun r s' hq' => ?_))
  cases r with
  | error e => exact hx pins σ _ _ e s' I2 hq'
  | ok fl =>
    cases fl with
    | ret u =>
      obtain ⟨v, H', I3, rv, ev, q3⟩ := I2.after hq'
      subst ev
      exact ⟨rv, ⟨V.ref (s.heap.objs.size + 1), H', I3, rfl, q3⟩⟩
    | next => exact False.elim hq'
    | brk => exact False.elim hq'
    | cont => exact False.elim hq'
def tMakeG (C : Addr) (n : Nat) (sp : Sp) (E : XK) (t : TA) : TE := fun σ H Q => t σ H fun vs H1 => vs.length = n ∧ ∀ x dx, H1 x = Option.none → H1 dx = Option.none → dx ≠ x →
  sp (V.ref x :: vs) (upd (upd H1 dx (.own x)) x (.ins C dx [])) (fun v H2 => v = .non ∧ Q (.ref x) H2) E
theorem pe_makeG (M : Mk X.K C f) (F : FnG X.prog X.w X.K X.mg X.base CX k f fd ps sp) (hr : Rm (k + 1) X.A) (hg : Gl X x) (hm : X.mg x = some (.ref C)) (hb : CB X.K fd ps (n + 1) [] (fun _ a _ => a) []) (hx : Passes CX X E) (ha : PA X (e :: es) t) (hdb : (x == ("__debug__" : Str)) = false := by decide)
    (he : starEach (e :: es) X.env = (false, eval e X.env) :: starEach es X.env := by rfl) (hpl : (backTo pos (starEach es X.env)).any (·.1) = false := by rfl) : PE X (.Call (.Name x p) (e :: es) [] pos) (tMakeG C n sp E t) := by
  refine ⟨fun pins s σ H Q I h => ?_⟩
  refine wpAny_Call_Name_kw (ld_glob I hg hm ?_ hdb)
  refine PySem.W.callWith_K (h₀ := X.base) I.ok.mod.kin M.kp (thn (ha.run pos pins s σ H _ I h) fun us s1 ⟨vs, H1, I1, r, hn, q⟩ => ⟨I1.kIn, ?_⟩) he hpl
  exact run_makeG M F hr hb hx I1 r hn q
end

end PL

namespace PL
open PySem PySem.Spec PyProof.Rows L2

def rk : RK → EK | .dat => .dat | .own => .own | .nt => .wk | .bn _ => .wk
@[simp] theorem rk_dat : rk .dat = .dat := rfl
@[simp] theorem rk_own : rk .own = .own := rfl
section
variable {S : Type} [Res S]
def ArgOk (K : PySem.W.Frag) (C : Cf S) : EK → V → PyData → Prop
  | .dat, v, d => Rp K C.B0 v d
  | .vw, v, d => SR K C.B0 (Gh C C.B0) v d
  | .dk, v, _ => v = .ref C.root
  | _, _, _ => False
def ArgsOk (K : PySem.W.Frag) (C : Cf S) : List EK → List V → List PyData → Prop
  | [], [], [] => True
  | k :: ks, v :: vs, d :: ds => ArgOk K C k v d ∧ ArgsOk K C ks vs ds
  | _, _, _ => False
/-- what a def promises: its pure program -/
def spP (K : PySem.W.Frag) (r : RK) (ks : List EK) (F : List PyData → W S PyData) : Sp := fun vs H Q _ =>
  ∃ (C : Cf S) (ds : List PyData) (s : S) (P : PyData → S → Prop), C.H0 = H ∧ C.ok s C.B0 H ∧ ArgsOk K C ks vs ds ∧ F ds s P ∧ ∀ B' v H' d s', Hs C B' H' s' → RtOk K C B' H' r v d → P d s' → Q v H'
def argPS : List EK → List PyData → List PS
  | .dat :: ks, d :: ds => .dat d :: argPS ks ds
  | .vw :: ks, d :: ds => .vw d :: argPS ks ds
  | .dk :: ks, _ :: ds => .dk :: argPS ks ds
  | _, _ => []
end
section
variable {S α : Type} [Res S] {K : PySem.W.Frag} {C C' : Cf S} {B B' H H' : Hp} {s s' : S} {A : List Addr} {ρ ρ' : List PS} {σ : L2.St} {v : V} {d : PyData} {p : Addr} {r : RK} {F : List PyData → W S PyData}
theorem ArgsOk.len : ∀ {ks : List EK} {vs : List V} {ds : List PyData}, ArgsOk K C ks vs ds → vs.length = ks.length ∧ ds.length = ks.length
  | [], [], [], _ => ⟨rfl, rfl⟩
  | _ :: _, _ :: _, _ :: _, h => by
    obtain ⟨a, b⟩ := ArgsOk.len h.2
    exact ⟨congrArg Nat.succ a, congrArg Nat.succ b⟩
  | [], _ :: _, _, h => h.elim
  | [], [], _ :: _, h => h.elim
  | _ :: _, [], _, h => h.elim
  | _ :: _, _ :: _, [], h => h.elim
theorem ArgsOk.sls : ∀ {ks : List EK} {vs : List V} {ds : List PyData}, ArgsOk K C ks vs ds → Sls K C C.B0 H [] (argPS ks ds) (vs.map some)
  | [], [], [], _ => .nil
  | .dat :: _, _ :: _, _ :: _, h => .dat h.1 (ArgsOk.sls h.2)
  | .vw :: _, _ :: _, _ :: _, h => .vw h.1 (ArgsOk.sls h.2)
  | .dk :: ks, v :: vs, d :: ds, h => by
    cases (show v = .ref C.root from h.1)
    exact .dk (ArgsOk.sls h.2)
  | .own :: _, _ :: _, _ :: _, h => h.1.elim
  | .wk :: _, _ :: _, _ :: _, h => h.1.elim
  | .nt _ :: _, _ :: _, _ :: _, h => h.1.elim
  | [], _ :: _, _, h => h.elim
  | [], [], _ :: _, h => h.elim
  | _ :: _, [], _, h => h.elim
  | _ :: _, _ :: _, [], h => h.elim
theorem Sls.uns (h : Sls K C B H A ρ σ) (n : Nat) : Sls K C B H A (ρ ++ List.replicate n .un) (σ ++ List.replicate n none) := by
  induction h with
  | nil =>
    induction n with
    | zero => exact .nil
    | succ n ih => exact .un ih
  | un _ ih => exact .un ih
  | dat r _ ih => exact .dat r ih
  | vw r _ ih => exact .vw r ih
  | pv r _ ih => exact .pv r ih
  | dk _ ih => exact .dk ih
  | own h1 h2 h3 h4 h5 _ ih => exact .own h1 h2 h3 h4 h5 ih
  | nt n nd hx _ ih => exact .nt n nd hx ih
theorem start_eq {N : List Str} {vs : List V} : L2.start N vs = vs.map some ++ List.replicate (N.length - vs.length) none := rfl
theorem Hs.start (C : Cf S) {s : S} (h : C.ok s C.B0 C.H0) : Hs C C.B0 C.H0 s := ⟨C.bh, Same.refl _, fun _ _ e => .inl e, fun _ _ e _ => e, fun _ e => e, h⟩
end
section
variable {S α : Type} [Res S] {P : Program} {w : World} {K : PySem.W.Frag} {mg : Str → Option Value} {base : Heap} {x qual : Str} {params : Arguments} {body : List Stmt} {scope : Scope} {dvs : List V} {kws : List (Str × V)} {f : Addr} {fd : FuncData}
/-- a def by its pure program: it returns on every way -/
theorem okP (F : FunD K x qual params body scope dvs kws f fd) {N ps : List Str} {k : Nat} {r : RK} {ks : List EK} {Fl : List PyData → W S PyData} (Sc : FnScope N ps scope) (hl : ks.length = ps.length)
    (hb : ∀ (cdv : Value) (A : Around) (outer : List Env) (s : Shared) (H : Hp) (E : XK), Rm k (A.deeper (envOfC qual scope s.heap.objs.size f cdv)) →
      ∃ t, PSs (cxOf CX0 P w K mg base N qual scope f cdv A outer s H E).nox body t ∧ ∀ ds : List PyData, ds.length = ks.length → Psr K t r (argPS ks ds ++ List.replicate (N.length - ps.length) .un) (Fl ds)) :
    FnG P w K mg base CX0 (k + 1) f fd ps (spP K r ks Fl) := by
  obtain ⟨oc, od, dV, kV, doc, pm, an, cdv, ct, osl, rfl, lk, hcd, _, _⟩ := F.ex
  refine fng_of lk hcd Sc (fun vs H Q E h => ?_) fun A outer s H vs Q E hr hsp => ?_
  · obtain ⟨C, ds, s, P, _, _, h, _⟩ := h
    exact h.len.1.trans hl
  · obtain ⟨t, h1, h2⟩ := hb cdv A outer s H E hr
    refine ⟨t, h1.nox, ?_⟩
    obtain ⟨C, ds, s0, P0, rfl, ok, ha, hp, q⟩ := hsp
    have hn := ha.len
    refine h2 ds hn.2 C C.B0 C.H0 s0 [] _ (Hs.start C ok) ?_ (fun x s' => match x with | .rt d => P0 d s' | .nx a => nomatch a) hp _ (fun _ _ _ _ _ a => nomatch a) fun B' v H' d s' _ w' r' p' => q B' v H' d s' w' r' p'
    have hs : L2.start N vs = vs.map some ++ List.replicate (N.length - ps.length) none := by rw [start_eq, hn.1, hl]
    rw [hs]
    exact ha.sls.uns _
/-- .. or may come to its end -/
def wendA (m : W S (Fl α)) : W S PyData := wbind m fun x => match x with | .nx _ => wpure .none | .rt d => wpure d
end

/-! ### calls -/
section
variable {S α : Type} [Res S] {K : PySem.W.Frag} {C C' : Cf S} {B B' H H' : Hp} {s s' : S} {A : List Addr} {ρ ρ' : List PS} {σ : L2.St} {v : V} {d : PyData} {p : Addr} {r : RK} {ks : List EK}
theorem args_of {S' : Type} [Res S'] {C2 : Cf S'} (hB : C2.B0 = B) (hH : Same H (Gh C2 B)) (hw : Hs C B H s) (hl : Sls K C B H A ρ σ) : ∀ {ks : List EK} {vs : List V} {ds : List PyData}, (∀ k ∈ ks, k ≠ .own ∧ k ≠ .wk ∧ ∀ i, k ≠ .nt i) → (.dk ∈ ks → C2.root = C.root) → ERs K C B H A ρ σ ks vs ds → ArgsOk K C2 ks vs ds
  | [], [], [], _, _, _ => True.intro
  | k :: _, _ :: _, _ :: _, hk, hr, h => by
    refine ⟨?_, args_of hB hH hw hl (fun k m => hk k (List.mem_cons_of_mem _ m)) (fun m => hr (List.mem_cons_of_mem _ m)) h.2⟩
    have hk := hk k List.mem_cons_self
    cases k with
    | dat => subst hB; exact h.1
    | vw =>
      show SR K C2.B0 (Gh C2 C2.B0) _ _
      rw [hB]
      exact (h.1 B H s (Same.refl B) hw hl).mono (Same.refl B) hH
    | dk =>
      show _ = V.ref C2.root
      rw [hr List.mem_cons_self]
      exact h.1
    | own => exact absurd rfl hk.1
    | wk => exact absurd rfl hk.2.1
    | nt i => exact absurd rfl (hk.2.2 i)
  | [], _ :: _, _, _, _, h => h.elim
  | [], [], _ :: _, _, _, h => h.elim
  | _ :: _, [], _, _, _, h => h.elim
  | _ :: _, _ :: _, [], _, _, h => h.elim
theorem gh_all {S' : Type} [Res S'] {C2 : Cf S'} (h0 : C2.H0 = H) (hn : ∀ a ∈ C2.ad, a ∈ C.ad) (hw : Hs C B H s) (q : C2.ad = []) : Same H (Gh C2 B) := fun a o e => by
  unfold Gh
  cases e1 : B a with
  | some u => rw [hw.ex _ _ e1] at e; exact e
  | none =>
    simp only
    rw [q, if_neg (show a ∉ ([] : List Addr) from by intro z; cases z), h0]
    exact e
/-- a def without the resource -/
theorem callP {F : List PyData → W Unit PyData} {vs : List V} {ds : List PyData} {P : PyData → Unit → Prop} {Q : VK} {E : XK} (hrt : r = .dat ∨ r = .own) (hks : ∀ k ∈ ks, k = .dat ∨ k = .vw) (hw : Hs C B H s) (hl : Sls K C B H A ρ σ) (ha : ERs K C B H A ρ σ ks vs ds) (hp : F ds () P)
    (q : ∀ B' v H' d, Same B B' → Hs C B' H' s → Sls K C B' H' A ρ σ → ER K C B' H' A ρ σ (rk r) v d → P d () → Q v H') : spP K r ks F vs H Q E := by
  let C2 : Cf Unit := ⟨B, H, [], 0, fun a h => (by cases h), hw.ex⟩
  have gh : Same H (Gh C2 B) := gh_all (C := C) rfl (fun a h => by cases h) hw rfl
  refine ⟨C2, ds, (), P, rfl, fun a h => (by cases h), args_of rfl gh hw hl (fun k m => ?_) (fun m => ?_) ha, hp, fun B' v H' d s' w' r' p' => ?_⟩
  · rcases hks k m with e | e <;> (subst e; exact ⟨nofun, nofun, nofun⟩)
  · rcases hks _ m with e | e <;> cases e
  · have g : Grow B H B' H' := ⟨fun a o e => w'.fr a o e (by intro z; cases z), w'.eb, w'.ex, fun a o e => (w'.nb a o e).imp_right fun x => x.imp_right fun ⟨xs, x1, x2, _⟩ => ⟨xs, x1, x2⟩⟩
    refine q B' v H' d g.b (hw.grow g) (hl.grow hw g) ?_ p'
    cases r with
    | dat => exact r'
    | own =>
      obtain ⟨p, o, h1, h2, h3, h4, h5⟩ := r'
      exact ⟨p, o, h1, h2, h3, h4, hw.al p h5, fun z => (hl.inA p z).1 h5⟩
    | nt => rcases hrt with e | e <;> cases e
    | bn p => rcases hrt with e | e <;> cases e
/-- a def with the resource -/
theorem callD {F : List PyData → W S PyData} {vs : List V} {ds : List PyData} {P : PyData → S → Prop} {Q : VK} {E : XK} (hrt : r = .dat ∨ r = .own) (hks : ∀ k ∈ ks, k = .dat ∨ k = .dk) (hw : Hs C B H s) (hl : Sls K C B H A ρ σ) (ha : ERs K C B H A ρ σ ks vs ds) (hp : F ds s P)
    (q : ∀ B' v H' d s', Same B B' → Hs C B' H' s' → Sls K C B' H' A ρ σ → ER K C B' H' A ρ σ (rk r) v d → P d s' → Q v H') : spP K r ks F vs H Q E := by
  let C2 : Cf S := ⟨B, H, C.ad, C.root, fun a h => ⟨fun z => (C.pre a h).1 (hw.al a z), hw.adB h⟩, hw.ex⟩
  have ao : ∀ {ks : List EK} {vs : List V} {ds : List PyData}, (∀ k ∈ ks, k = .dat ∨ k = .dk) → ERs K C B H A ρ σ ks vs ds → ArgsOk K C2 ks vs ds := by
    intro ks
    induction ks with
    | nil => intro vs ds _ h; cases vs <;> cases ds <;> exact h
    | cons k ks ih =>
      intro vs ds hk h
      cases vs with
      | nil => exact h.elim
      | cons v vs =>
        cases ds with
        | nil => exact h.elim
        | cons d ds =>
          refine ⟨?_, ih (fun k m => hk k (List.mem_cons_of_mem _ m)) h.2⟩
          rcases hk k List.mem_cons_self with e | e
          · subst e; exact h.1
          · subst e; exact h.1
  refine ⟨C2, ds, s, P, rfl, hw.ok, ao hks ha, hp, fun B' v H' d s' w' r' p' => ?_⟩
  have nbn : ∀ a, Mu (H a) → B a = none → B' a = none := fun a h1 h2 => by
    cases e : B' a with
    | none => rfl
    | some o =>
      rcases w'.nb a o e with x | x | ⟨xs, x1, x2, _⟩
      · rw [show C2.B0 a = B a from rfl, h2] at x; cases x
      · exact absurd x h1.ne
      · rw [x1] at x2; exact absurd x2 (h1.nt xs)
  have w2 : Hs C B' H' s' := by
    refine ⟨w'.ex, hw.eb.trans w'.eb, fun a o e => ?_, fun a o e n => w'.fr a o (hw.fr a o e n) n, fun a e => hw.al a (w'.al a e), w'.ok⟩
    rcases w'.nb a o e with x | x | ⟨xs, x1, x2, x3⟩
    · exact hw.nb a o x
    · exact .inr (.inl (hw.al a x))
    · refine .inr ?_
      cases e2 : C.H0 a with
      | none => exact .inl rfl
      | some u =>
        have := hw.fr a u e2 x3
        rw [show H a = some o from x2] at this
        exact .inr ⟨xs, x1, by rw [e2, this], x3⟩
  have l2 : Sls K C B' H' A ρ σ := hl.agree w'.eb (hw.gh2 w'.eb w2.nb) fun a m => by
    obtain ⟨h1, h2, h3⟩ := hl.inA a m
    refine ⟨?_, nbn a h1 h2⟩
    cases e : H a with
    | none => exact absurd e h1.ne
    | some o => exact w'.fr a o e (hw.notAd' h3)
  refine q B' v H' d s' w'.eb w2 l2 ?_ p'
  cases r with
  | dat => exact r'
  | own =>
    obtain ⟨p, o, h1, h2, h3, h4, h5⟩ := r'
    exact ⟨p, o, h1, h2, h3, h4, hw.al p h5, fun z => (hl.inA p z).1 h5⟩
  | nt => rcases hrt with e | e <;> cases e
  | bn p => rcases hrt with e | e <;> cases e

variable {n : Nat} {t tk : TA} {E : XK} {ws ws2 : List (W S PyData)}
/-- f(e, ..): values by position -/
theorem px_callP {F : List PyData → W Unit PyData} (ha : Pm K t ks ρ (wl ws)) (hks : ∀ k ∈ ks, k = .dat ∨ k = .vw := by simp) (hn : ks.length = n := by rfl) (hrt : r = .dat ∨ r = .own := by first | exact .inl rfl | exact .inr rfl) :
    Px K (tCallG (spP K r ks F) (fun _ a _ => a) n 0 [] E t tNil) (rk r) ρ (wbind (wl ws) fun as => wlift (F as)) := fun C B H s A σ hw hl P hp Q q =>
  ha C B H s A σ hw hl _ hp _ fun B1 vs H1 ds s1 e1 w1 l1 r1 p1 => ⟨r1.len.1.trans hn, rfl, callP hrt hks w1 l1 r1 p1 fun B' v H' d e2 w2 l2 r2 p2 => q B' v H' d s1 (e1.trans e2) w2 l2 r2 p2⟩
theorem px_callD {F : List PyData → W S PyData} (ha : Pm K t ks ρ (wl ws)) (hks : ∀ k ∈ ks, k = .dat ∨ k = .dk := by simp) (hn : ks.length = n := by rfl) (hrt : r = .dat ∨ r = .own := by first | exact .inl rfl | exact .inr rfl) :
    Px K (tCallG (spP K r ks F) (fun _ a _ => a) n 0 [] E t tNil) (rk r) ρ (wbind (wl ws) F) := fun C B H s A σ hw hl P hp Q q =>
  ha C B H s A σ hw hl _ hp _ fun B1 vs H1 ds s1 e1 w1 l1 r1 p1 => ⟨r1.len.1.trans hn, rfl, callD hrt hks w1 l1 r1 p1 fun B' v H' d s' e2 w2 l2 r2 p2 => q B' v H' d s' (e1.trans e2) w2 l2 r2 p2⟩
/-- .. with keywords and defaults -/
theorem ers_get : ∀ {ks : List EK} {vs : List V} {ds : List PyData} {i : Nat}, ERs K C B H A ρ σ ks vs ds → (∃ k v d, ks[i]? = some k ∧ vs[i]? = some v ∧ ds[i]? = some d ∧ ER K C B H A ρ σ k v d) ∨ (ks[i]? = none ∧ vs[i]? = none ∧ ds[i]? = none)
  | [], [], [], i, _ => .inr ⟨by simp, by simp, by simp⟩
  | k :: _, v :: _, d :: _, 0, h => .inl ⟨k, v, d, rfl, rfl, rfl, h.1⟩
  | _ :: ks, _ :: vs, _ :: ds, i + 1, h => by simpa using ers_get (i := i) h.2
  | [], _ :: _, _, _, h => h.elim
  | [], [], _ :: _, _, h => h.elim
  | _ :: _, [], _, _, h => h.elim
  | _ :: _, _ :: _, [], _, h => h.elim
theorem ers_pick {ks : List EK} {vs : List V} {ds : List PyData} (h : ERs K C B H A ρ σ ks vs ds) : ∀ idx : List Nat, ERs K C B H A ρ σ (pick idx ks) (pick idx vs) (pick idx ds)
  | [] => True.intro
  | i :: idx => by
    have ih := ers_pick h idx
    unfold pick at ih ⊢
    rw [List.filterMap_cons, List.filterMap_cons, List.filterMap_cons]
    rcases ers_get (i := i) h with ⟨k, v, d, e1, e2, e3, e4⟩ | ⟨e1, e2, e3⟩
    · rw [e1, e2, e3]; exact ⟨e4, ih⟩
    · rw [e1, e2, e3]; exact ih
end
/-! a def's pure program by its arguments -/
section
variable {S : Type} [Res S]
def ap0 (F : W S PyData) : List PyData → W S PyData | [] => F | _ => wfail
def ap1 (F : PyData → W S PyData) : List PyData → W S PyData | [a] => F a | _ => wfail
def ap2 (F : PyData → PyData → W S PyData) : List PyData → W S PyData | [a, b] => F a b | _ => wfail
def ap3 (F : PyData → PyData → PyData → W S PyData) : List PyData → W S PyData | [a, b, c] => F a b c | _ => wfail
def ap4 (F : PyData → PyData → PyData → PyData → W S PyData) : List PyData → W S PyData | [a, b, c, d] => F a b c d | _ => wfail
/-- .. the first of which is the resource -/
def apD (G : List PyData → W S PyData) : List PyData → W S PyData | _ :: as => G as | [] => wfail
end
/-! ### the law's own call -/
/-- sys.modules' own place holds a dict: no list stands there; the limit of digits is the one that Python starts with -/
structure SysD (h : Heap) : Prop where
  mods : ∃ mm, h.Ns sysModules mm
  digs : h.NoDigits
theorem SysD.keeps {h h' : Heap} (S : SysD h) (hk : ∀ b o, h.get? b = some o → h'.get? b = some o) : SysD h' :=
  ⟨let ⟨mm, x⟩ := S.mods; ⟨mm, x.keeps hk⟩, S.digs.keeps hk⟩
theorem lawG {P : Program} {w : World} {K : PySem.W.Frag} {mg mb : Str → Option Value} {k : Nat} {fa a : Addr} {fd : FuncData} {x : Str} {Fl : List PyData → W Unit PyData} {s₁ : Shared} {vs : List Value} {ns : List Int}
    (KX : K.In s₁.heap) (hns : s₁.heap.Ns mainGlobals mg) (hb : s₁.heap.Ns builtinsNs mb) (hbb : ∀ x : Str, x ≠ "__name__" → mb x = bootBuiltins x) (hlim : s₁.heap.NoLimit) (hsy : SysD s₁.heap) (hg : s₁.gens = #[])
    (ha : s₁.heap.get? a = some { cls := .type "list", data := .seq vs.toArray }) (hi : IntsAre vs ns) (hl : ns.length ≤ sizeLine) (hr : Rm k callerA)
    (F : ∀ base : Heap, K.In base → base.Ns mainGlobals mg → SysD base → FnG P w K mg base CX0 k fa fd [x] (spP K .dat [.vw] Fl)) (hbind : ∀ (s : Shared) (u : Value), BindsTo s fd ⟨[u], []⟩ [(x, u)])
    (hsp : Fl [scrD ns] () fun d _ => d = .bool true) :
    codeAny (model P w) callerA (.call (.ref fa) ⟨[.ref a], []⟩) (fun r s' => r = .ok (.ret (.bool true)) ∧ OldK s₁.heap s'.heap ∧ s'.os = s₁.os ∧ AllBare s'.gens) s₁ := by
  have rv := vals_ints hi
  have lenV := hi.length
  -- H: an abstract heap that tracks the script at most
  suffices core : ∀ H : Hp, Only H → SqL K H a (ns.map V.int) → HOk P w H s₁.heap → (∀ b, H b ≠ none → b = a) → (H a ≠ none → K.lookup a = none) →
      codeAny (model P w) callerA (.call (.ref fa) ⟨[.ref a], []⟩) (fun r s' => r = .ok (.ret (.bool true)) ∧ OldK s₁.heap s'.heap ∧ s'.os = s₁.os ∧ AllBare s'.gens) s₁ by
    cases hk : K.lookup a with
    | some o =>
      have e := KX a o hk
      rw [ha] at e
      cases e
      refine core (fun _ => none) (fun _ => .inl rfl) (.inr ⟨_, vs.toArray, _, hk, rfl, rfl, rfl, by rw [List.size_toArray, lenV]; exact hl, by simpa using rv⟩) ?_ (fun b z => absurd rfl z) fun z => absurd rfl z
      intro b u z
      have z' : (none : Option HO) = some u := z
      cases z'
    | none =>
      let fo : HO := .frz { cls := .type "list", data := .seq vs.toArray } (.lst (ns.map V.int))
      refine core (fun b => if b = a then some fo else none) (fun b => ?_) (.inl (.inr ⟨{ cls := .type "list", data := .seq vs.toArray }, if_pos rfl⟩)) (fun b u z => ?_) (fun b z => ?_) fun _ => hk
      · by_cases e : b = a
        · exact .inr ⟨_, _, if_pos e⟩
        · exact .inl (if_neg e)
      · by_cases e : b = a
        · have z' := (if_pos e).symm.trans z
          cases z'
          subst e
          exact ⟨ha, by rw [List.length_map]; exact hl, vs, _, rv, ha⟩
        · have z' := (if_neg e).symm.trans z
          cases z'
      · by_cases e : b = a
        · exact e
        · exact absurd (if_neg e) z
  intro H hO hS hok hA hK
  have down : ∀ {b : Addr} {o : Obj}, s₁.heap.get? b = some o → H b = none → (hidT s₁.heap H).get? b = some o := fun e n => hidT_get e n
  have noD : ∀ {b : Addr} {o : Obj} {es : Array DictEntry} {ep : Nat}, s₁.heap.get? b = some o → o.data = .dict es ep → H b = none := by
    intro b o es ep e d
    cases q : H b with
    | none => rfl
    | some u =>
      obtain rfl : b = a := hA b (by rw [q]; simp)
      rw [ha] at e
      cases e
      cases (show Data.seq vs.toArray _ = Data.dict es ep from d)
  have nsD : ∀ {b : Addr} {m : Str → Option Value}, s₁.heap.Ns b m → (hidT s₁.heap H).Ns b m := by
    rintro b m ⟨o, es, ep, e, d, r⟩
    exact ⟨o, es, ep, down e (noD e d), d, r⟩
  have KB : K.In (hidT s₁.heap H) := by
    intro b o e
    refine down (KX b o e) ?_
    cases q : H b with
    | none => rfl
    | some u =>
      obtain rfl : b = a := hA b (by rw [q]; simp)
      rw [hK (by rw [q]; simp)] at e
      cases e
  obtain ⟨mc, hc1, hc2⟩ := hlim
  have e0 : Env0 P w K mg (hidT s₁.heap H) callerA [] s₁ H :=
    ⟨rfl, ⟨KB, nsD hns, ⟨mb, nsD hb, hbb⟩, ⟨mc, nsD hc1, hc2⟩⟩, fun b o e => of_hidT e, Nat.le_of_eq (hidT_size _ _), trivial, fun b hb => absurd (show b ∈ ([] : List Addr) from hb) (by simp), hok, .of_eq hg⟩
  have sp : spP K .dat [.vw] Fl [.ref a] H (fun v _ => v = .bl true) (fun _ _ _ => False) := by
    let C2 : Cf Unit := ⟨fun _ => none, H, [], 0, fun a h => (by cases h), fun a o e => (by cases e)⟩
    refine ⟨C2, [scrD ns], (), _, rfl, fun a h => (by cases h), ⟨.scr (sqL_mono (fun a o e => ?_) hS), True.intro⟩, hsp, fun B' v H' d s' w' r' p' => ?_⟩
    · unfold Gh
      simp only [C2]
      rw [if_neg (by intro z; cases z)]
      exact e
    · subst p'
      cases (show Rp K B' v (.bool true) from r')
      rfl
  refine codeAny_mono ((F _ KB (nsD hns) ⟨let ⟨mm, h⟩ := hsy.mods; ⟨mm, nsD h⟩, let ⟨mc, h, e⟩ := hsy.digs; ⟨mc, nsD h, e⟩⟩ callerA hr).run [] s₁ H ⟨[.ref a], []⟩ [.ref a] [.ref a] _ _ e0 (hbind s₁ (.ref a)) (.cons rfl .nil) sp) ?_
  intro r s' h
  cases r with
  | error e => exact (show False from h).elim
  | ok fl =>
    cases fl with
    | next => exact h.elim
    | brk => exact h.elim
    | cont => exact h.elim
    | ret u =>
      obtain ⟨v, H', os, bare, un, hok', r', q⟩ := h
      obtain rfl : v = .bl true := q
      obtain rfl : u = Value.bool true := r'
      refine ⟨rfl, OldK.of_keep ?_, os, bare⟩
      intro b o e
      cases q : H b with
      | none => exact un.keep b o e q (by intro z; exact absurd (show b ∈ ([] : List Addr) from z) (by simp)) (by simp)
      | some u =>
        rcases hO b with z | ⟨ob, xs, z⟩
        · rw [q] at z; cases z
        · obtain ⟨e1, _⟩ := hok b _ z
          obtain ⟨e2, _⟩ := hok' b _ (un.frzs b ob _ z)
          rw [e] at e1
          cases e1
          exact e2
theorem rm_top : Rm 200 callerA := ⟨⟨rfl, by decide, by decide⟩, rfl⟩
/-- the goal that the head leaves -/
theorem walkG {l : PySem.W.OpenLaw} {n k : Nat} {q : Program} {loose : List Str} {XP : (Str → Option Value) → Heap → Prop} {YP : World → Heap → Prop} {d : DefRec} {K : Params → PySem.W.Frag} {x : Str} {Fl : Params → List PyData → W Unit PyData}
    (hi : PyProof.Rows.importsNone q = true) (hn : l.most = some n) (hn2 : n ≤ sizeLine) (hdf : d.params.defaults = []) (hr : k ≤ 200) (hY : ∀ (w : World) (h : Heap), YP w h → (K w.params).In h)
    (F : ∀ (w : World) (mg : Str → Option Value) (fa : Addr) (h : Heap), (K w.params).In h → h.Ns mainGlobals mg → mg d.name = some (.ref fa) →
      ∃ fd : FuncData, (∀ (s : Shared) (u : Value), BindsTo s fd ⟨[u], []⟩ [(x, u)]) ∧
        ∀ base : Heap, (K w.params).In base → base.Ns mainGlobals mg → SysD base → FnG l.prog w (K w.params) mg base CX0 k fa fd [x] (spP (K w.params) .dat [.vw] (Fl w.params)))
    (hsp : ∀ (pr : Params) (ns : List Int), ns.length ≤ n → (∀ z ∈ ns, Builtin.Int.intBits z ≤ 1048576) → Fl pr [scrD ns] () fun d _ => d = .bool true) :
    PySem.W.WalkO q loose XP YP l.row.toRowW d [] (fun f vs => PySem.call f vs) := by
  refine Att.attach_callB hn hdf ?_
  intro w s₀ s₁ mg mb fa o pm cd doc a vs ns G Y ho hd hcd hmg hobj hints hlen hbits hg
  have KX := hY w _ Y
  obtain ⟨fd, hb, hF⟩ := F w mg fa _ KX G.T.g hmg
  exact lawG KX G.T.g G.T.b G.T.builtins G.T.nolimit ⟨let ⟨mm, h, _⟩ := (G.T.seer hi).mods; ⟨mm, h⟩, G.T.nodigits⟩ hg hobj hints (Nat.le_trans hlen hn2) (rm_top.mono hr) hF hb (hsp w.params ns hlen hbits)
end PL

/-! operators and built-ins by data -/
namespace PL
open PySem PySem.Spec PyProof.Rows L2

/-! ### the kit's rules in one -/
def rCatZ (K : PySem.W.Frag) : R2 := fun x y H Q => ∃ a b xs ys, x = .ref a ∧ y = .ref b ∧ SqT K H a xs ∧ SqT K H b ys ∧ xs.length + ys.length ≤ sizeLine ∧
  (xs = [] → Q (.ref b) H) ∧ (xs ≠ [] → ys = [] → Q (.ref a) H) ∧ (xs ≠ [] → ys ≠ [] → ∀ p o, H p = none → o.dict = none → Q (.ref p) (upd H p (.frz o (.tup (xs ++ ys)))))
def rSlZ (K : PySem.W.Frag) : V → Option Int → Option Int → Hp → VK → Prop := fun x lo hi H Q => ∃ a xs, x = .ref a ∧ SqT K H a xs ∧
  (HT.sIx xs.length 0 lo = 0 ∧ HT.sIx xs.length xs.length hi = xs.length → Q (.ref a) H) ∧ (¬ (HT.sIx xs.length 0 lo = 0 ∧ HT.sIx xs.length xs.length hi = xs.length) → ∀ p o, H p = none → o.dict = none → Q (.ref p) (upd H p (.frz o (.tup (cutV xs lo hi)))))
def CDivA (_ j : Int) : Prop := j ≠ 0 ∧ j.natAbs.log2 < 9000
def rAddU (K : PySem.W.Frag) : R2 := fun x y H Q => rI0 (fun i j => .int (i + j)) x y H Q ∨
  ((∃ i j, x = .str i ∧ y = .str j ∧ i.length + j.length ≤ sizeLine ∧ Q (.str (i ++ j)) H) ∨ (rCat x y H Q ∨ rCatZ K x y H Q))
def rMulS : R2 := fun x y H Q => ∃ (z : Str) (k : Int), x = .str z ∧ y = .int k ∧ 0 ≤ k ∧ k ≤ 2000 ∧ z.length ≤ 2000 ∧ Q (.str (Txt.mul z k)) H
def rMulU : R2 := fun x y H Q => rI CMulW (fun i j => .int (i * j)) x y H Q ∨ (rRep x y H Q ∨ rMulS x y H Q)
def rLtU : R2 := fun x y H Q => rI0 (fun i j => .bl (decide (i < j))) x y H Q ∨ ∃ i j, x = .str i ∧ y = .str j ∧ Q (.bl (decide (i.cps.toList < j.cps.toList))) H
def rLeU : R2 := fun x y H Q => rI0 (fun i j => .bl (decide (i ≤ j))) x y H Q ∨ ∃ i j, x = .str i ∧ y = .str j ∧ Q (.bl (!decide (j.cps.toList < i.cps.toList))) H
def rSlU (K : PySem.W.Frag) : V → Option Int → Option Int → Hp → VK → Prop := fun x lo hi H Q => rSlL K x lo hi H Q ∨ (rSlZ K x lo hi H Q ∨ rSlS x lo hi H Q)
/-- .. == (), .. == [], whatever the items are -/
def rEqE (K : PySem.W.Frag) : R2 := fun x y H Q => ∃ a b xs, x = .ref a ∧ y = .ref b ∧ ((SqT K H a xs ∧ SqT K H b []) ∨ (SqL K H a xs ∧ SqL K H b [])) ∧ Q (.bl xs.isEmpty) H
def rNeE (K : PySem.W.Frag) : R2 := fun x y H Q => ∃ a b xs, x = .ref a ∧ y = .ref b ∧ ((SqT K H a xs ∧ SqT K H b []) ∨ (SqL K H a xs ∧ SqL K H b [])) ∧ Q (.bl (!xs.isEmpty)) H
def rEqU (K : PySem.W.Frag) : R2 := fun x y H Q => rEq x y H Q ∨ rEqE K x y H Q ∨ rEqD K x y H Q
def rNeU (K : PySem.W.Frag) : R2 := fun x y H Q => rNe x y H Q ∨ rNeE K x y H Q ∨ rNeD K x y H Q
/-- .. with a tuple as the key, whatever its object is -/
def DGetS (K : PySem.W.Frag) (H : Hp) (a : Addr) (y : V) (r : Option V) : Prop := DGet H a y r ∨ ∃ kvs k b, Rd H a (.dT kvs) ∧ y = .ref b ∧ SqT K H b (k.map kV) ∧ r = valV kvs k
def rGetD (K : PySem.W.Frag) : R2 := fun x y H Q => ∃ a v, x = .ref a ∧ DGetS K H a y (some v) ∧ Q v H
def rIxU (K : PySem.W.Frag) : R2 := fun x y H Q => rIx K x y H Q ∨ rGetD K x y H Q
def rInC : R2 := fun x y H Q => ∃ (c : Nat) (z : Str), x = .str ⟨#[c]⟩ ∧ y = .str z ∧ Q (.bl (decide (c ∈ z.cps.toList))) H
def rInDk (K : PySem.W.Frag) : R2 := fun x y H Q => ∃ a o, y = V.ref a ∧ DGetS K H a x o ∧ Q (.bl o.isSome) H
def rNotInDk (K : PySem.W.Frag) : R2 := fun x y H Q => ∃ a o, y = V.ref a ∧ DGetS K H a x o ∧ Q (.bl (!o.isSome)) H
def rInU (K : PySem.W.Frag) : R2 := fun x y H Q => rInC x y H Q ∨ (rInDk K x y H Q ∨ rIn K false x y H Q)
def rNotInU (K : PySem.W.Frag) : R2 := fun x y H Q => rNotInDk K x y H Q ∨ rIn K true x y H Q
section
variable {X : Cx} {K : PySem.W.Frag}
theorem op_catZ : OpR X (binaryOp .Add) (rCatZ X.K) := by
  intro pins s σ H x y v u Q I rx ry h
  obtain ⟨a, b, xs, ys, rfl, rfl, ha, hb, hz, q0, q1, q2⟩ := h
  by_cases hx : xs = []
  · subst hx
    cases rx
    cases ry
    obtain ⟨its, r1, p1, _⟩ := I.tuple ha
    obtain ⟨its2, r2, p2, _⟩ := I.tuple hb
    cases r1
    exact cat_tup0 p1 p2 ⟨.ref b, H, I, rfl, q0 rfl⟩
  · cases rx
    cases ry
    obtain ⟨its, r1, p1, _⟩ := I.tuple ha
    obtain ⟨its2, r2, p2, _⟩ := I.tuple hb
    refine HT.cat_tup p1 p2 (fun z => hx (r1.nil_iff.mp z)) (fun z => ⟨.ref a, H, I, rfl, q1 hx (r2.nil_iff.mp z)⟩) (fun z => ?_) (by rw [← r1.length, ← r2.length]; exact hz)
    refine ⟨.ref s.heap.objs.size, _, I.laid (t' := s.toks) (o := .frz { cls := .type "tuple", data := .seq (its ++ its2).toArray } (.tup (xs ++ ys))) (fun b ob q => Heap.get?_push_of_some _ q) (Nat.le_refl _) ?_, rfl, q2 hx (fun w => z (r2.nil_iff.mpr w)) _ _ (I.hok.fresh (Nat.le_refl _)) rfl⟩
    exact ⟨Heap.get?_push_size _ rfl, by rw [List.length_append]; exact hz, _, r1.append r2, IsTup.new _ _⟩
theorem sl_tupZ : SlR X (rSlZ X.K) := by
  intro pins s σ H x v vl vu lo hi sl Q I rx hs pl pu h
  obtain ⟨a, xs, rfl, hx, q1, q2⟩ := h
  cases rx
  obtain ⟨its, r, ht, hz⟩ := I.tuple hx
  have hlen : its.toArray.size = xs.length := by rw [List.size_toArray]; exact r.length.symm
  by_cases hw : HT.sIx xs.length 0 lo = 0 ∧ HT.sIx xs.length xs.length hi = xs.length
  · refine ⟨"tuple", _, PyProof.Rows.slot_tuple_getitem.lookup, ht.typeIs, ?_⟩
    exact getItem_tuple_whole ht hs pl pu (by rw [hlen]; exact hw) ⟨.ref a, H, I, rfl, q1 hw⟩
  · refine ⟨"tuple", _, PyProof.Rows.slot_tuple_getitem.lookup, ht.typeIs, ?_⟩
    refine HT.getItem_tuple_cut ht hs pl pu (by rw [hlen]; exact hw) ?_ (by rw [hlen]; exact hz)
    rw [hlen]
    refine ⟨.ref s.heap.objs.size, _, I.laid (t' := s.toks) (o := .frz { cls := .type "tuple", data := .seq (List.take (HT.sIx xs.length xs.length hi - HT.sIx xs.length 0 lo) (List.drop (HT.sIx xs.length 0 lo) its.toArray.toList)).toArray } (.tup (cutV xs lo hi))) (fun b ob q => Heap.get?_push_of_some _ q) (Nat.le_refl _) ?_, rfl, q2 hw _ _ (I.hok.fresh (Nat.le_refl _)) rfl⟩
    · exact ⟨Heap.get?_push_size _ rfl, Nat.le_trans (cutV_length xs lo hi) hz, _, (r.drop (HT.sIx xs.length 0 lo)).take (HT.sIx xs.length xs.length hi - HT.sIx xs.length 0 lo), IsTup.new _ _⟩
theorem op_addK (hK : X.K = K) : OpR X (binaryOp .Add) (rAddU K) := by subst hK; exact OpR.or op_add (OpR.or op_add_str (OpR.or op_cat op_catZ))
theorem op_mulS : OpR X (binaryOp .Mult) rMulS := by
  intro pins s σ H x y v u Q I rx ry h
  obtain ⟨z, k, rfl, rfl, h0, h1, h2, q⟩ := h
  obtain ⟨t, rfl⟩ := rx
  obtain ⟨t', rfl⟩ := ry
  refine SB.mul ⟨by rw [decide_eq_false (by omega), decide_eq_false (by omega)]; rfl, fun hk _ hg => ?_, fun _ _ => ?_⟩ fun t' tk => ⟨.str (Txt.mul z k), H, I.tok _, ⟨_, rfl⟩, q⟩
  · have h3 : ((2 : Int) ^ 63 - 1) / 2000 ≤ (2 ^ 63 - 1) / k := by
      rw [Int.le_ediv_iff_mul_le (by omega)]
      have : ((2 : Int) ^ 63 - 1) / 2000 * k ≤ ((2 : Int) ^ 63 - 1) / 2000 * 2000 := Int.mul_le_mul_of_nonneg_left h1 (by decide)
      have h5 : ((2 : Int) ^ 63 - 1) / 2000 * 2000 ≤ 2 ^ 63 - 1 := by decide
      omega
    have h4 : (2000 : Int) ≤ ((2 : Int) ^ 63 - 1) / 2000 := by decide
    omega
  · have h3 : z.length * k.toNat ≤ 2000 * 2000 := Nat.mul_le_mul h2 (by omega)
    have h4 : (2000 * 2000 : Nat) ≤ sizeLine := by decide
    exact decide_eq_false (by omega)
theorem op_mulU : OpR X (binaryOp .Mult) rMulU := OpR.or op_mulW (OpR.or op_rep op_mulS)
theorem op_ltU : OpR X (compareOp .Lt) rLtU := OpR.or op_lt op_lt_str
/-- alike data by < -/
def rLtD (K : PySem.W.Frag) : R2 := fun x y H Q => ∃ d e, Dp K H x d ∧ Dp K H y e ∧ PySem.W.alike d e = true ∧ d ≠ .none ∧ min d.depth e.depth ≤ 60 ∧ Q (.bl (PySem.W.dataLt d e)) H
theorem op_ltD (hu : X.A.units + 64 < cLine) : OpR X (compareOp .Lt) (rLtD X.K) := by
  intro pins s σ H x y v u Q I rx ry h
  obtain ⟨d, e, hd, he, ha, hn, hz, q⟩ := h
  obtain ⟨as, r1⟩ := Dp.reads I d x v hd rx
  obtain ⟨bs, r2⟩ := Dp.reads I e y u he ry
  exact PySem.W.rcLt_alike d e X.A s v u as bs r1 r2 ha hn (by omega) _ _ _ _ ⟨.bl _, H, I, rfl, q⟩
def rLtV (K : PySem.W.Frag) : R2 := fun x y H Q => rLtU x y H Q ∨ rLtD K x y H Q
theorem op_ltK (hK : X.K = K) (hu : X.A.units + 64 < cLine) : OpR X (compareOp .Lt) (rLtV K) := by subst hK; exact OpR.or op_ltU (op_ltD hu)
theorem op_leU : OpR X (compareOp .LtE) rLeU := OpR.or op_le op_le_str
theorem op_fdivA : OpR X (binaryOp .FloorDiv) (rI CDivA fun i j => .int (i.fdiv j)) := opI fun i j _ _ _ _ _ hc q => floordiv_int hc.1 q (.inl (PyProof.noPylong_of_log2 hc.2))
theorem sl_K (hK : X.K = K) : SlR X (rSlU K) := by subst hK; exact SlR.or sl_list (SlR.or sl_tupZ sl_str)
theorem isE_size {xs : List V} {its : List Value} (r : Vals xs its) : xs.isEmpty = (its.toArray.size == 0) := by cases r <;> simp
theorem op_eqE (hu : X.A.units < cLine) : OpR X (compareOp .Eq) (rEqE X.K) := by
  intro pins s σ H x y v u Q I rx ry h
  obtain ⟨a, b, xs, rfl, rfl, h, q⟩ := h
  obtain rfl : v = Value.ref a := rx
  obtain rfl : u = Value.ref b := ry
  rcases h with ⟨ha, hb⟩ | ⟨ha, hb⟩
  · obtain ⟨its, r1, p1, _⟩ := I.tuple ha
    obtain ⟨its2, r2, p2, _⟩ := I.tuple hb
    cases r2
    refine SeqAt.eq_tupleAt (e := fun _ => true) p1 p2 hu (fun j _ h2 => absurd h2 (by simp)) ⟨.bl xs.isEmpty, H, I, ?_, q⟩
    show _ = Value.bool _
    rw [isE_size r1]
    simp
  · obtain ⟨its, r1, p1, _⟩ := I.list ha
    obtain ⟨its2, r2, p2, _⟩ := I.list hb
    cases r2
    by_cases hs : its = []
    · subst hs
      cases r1
      exact SeqAt.eq_listAt (e := fun _ => true) p1.isList p2.isList rfl hu (fun j h1 _ => absurd h1 (by simp)) ⟨.bl true, H, I, rfl, q⟩
    · refine SeqAt.eq_list_lengthsAt p1.isList p2.isList (by simpa using hs) hu ⟨.bl xs.isEmpty, H, I, ?_, q⟩
      show _ = Value.bool _
      rw [isE_size r1]
      simpa using hs
theorem op_neE (hu : X.A.units < cLine) : OpR X (compareOp .NotEq) (rNeE X.K) := by
  intro pins s σ H x y v u Q I rx ry h
  obtain ⟨a, b, xs, rfl, rfl, h, q⟩ := h
  obtain rfl : v = Value.ref a := rx
  obtain rfl : u = Value.ref b := ry
  rcases h with ⟨ha, hb⟩ | ⟨ha, hb⟩
  · obtain ⟨its, r1, p1, _⟩ := I.tuple ha
    obtain ⟨its2, r2, p2, _⟩ := I.tuple hb
    cases r2
    refine SeqAt.RcNeAt.tuples (e := fun _ => true) p1 p2 hu (fun j _ h2 => absurd h2 (by simp)) _ _ _ _ ⟨.bl (!xs.isEmpty), H, I, ?_, q⟩
    show _ = Value.bool _
    rw [isE_size r1]
    simp
  · obtain ⟨its, r1, p1, _⟩ := I.list ha
    obtain ⟨its2, r2, p2, _⟩ := I.list hb
    cases r2
    by_cases hs : its = []
    · subst hs
      cases r1
      exact SeqAt.RcNeAt.lists (e := fun _ => true) p1.isList p2.isList rfl hu (fun j h1 _ => absurd h1 (by simp)) _ _ _ _ ⟨.bl false, H, I, rfl, q⟩
    · refine SeqAt.RcNeAt.lists_lengths p1.isList p2.isList (by simpa using hs) hu _ _ _ _ ⟨.bl (!xs.isEmpty), H, I, ?_, q⟩
      show _ = Value.bool _
      rw [isE_size r1]
      simpa using hs
theorem op_eqK (hK : X.K = K) (hu : X.A.units + 64 < cLine) : OpR X (compareOp .Eq) (rEqU K) := by subst hK; exact OpR.or op_eq (OpR.or (op_eqE (by omega)) (op_eqD hu))
theorem op_neK (hK : X.K = K) (hu : X.A.units + 64 < cLine) : OpR X (compareOp .NotEq) (rNeU K) := by subst hK; exact OpR.or op_ne (OpR.or (op_neE (by omega)) (op_neD hu))
section
variable {pins : List (Addr × Obj)} {σ : L2.St} {H : Hp} {s : Shared} {a : Addr} {y v d : V} {u r : Value} {o : Option V} {A : Around} {E : Value → Shared → Prop}
theorem key_sq {ks : List Key} (I : Inv X pins σ H s) (h : SqT X.K H a (ks.map kV)) : (tupleKind (mixKind X.prog X.w)).is s.heap ks a := by
  obtain ⟨its, r, ⟨o, h1, h2, n, h3⟩, _⟩ := I.tuple h
  exact ⟨o, its.toArray, n, h1, h2, h3, by simpa using items_are r⟩
theorem getS (hu : A.units + 1 < cLine) {Q : Value → Shared → Prop} (I : Inv X pins σ H s) (g : DGetS X.K H a y (some v)) (ry : RelV y u) (h : ∀ w' s', Inv X pins σ H s' → RelV v w' → Q w' s') :
    wpAny (model X.prog X.w) A (getItem (.ref a) u) Q E s := by
  rcases g with g | ⟨kvs, k, b, e, ey, eb, l⟩
  · exact d_getItem hu I g ry h
  · subst ey
    cases (show u = Value.ref b from ry)
    obtain ⟨z, hd, xs, rel, dd⟩ := dt_rd I.hok e
    obtain ⟨w', hw, rw'⟩ := RelO.some_of (v := v) (o := (atKey xs k).map (·.2)) (by rw [l]; exact rel.val k)
    obtain ⟨p, hp, hp2⟩ := Option.map_eq_some_iff.mp hw
    refine wpAny_getItem_heap (tupleKind_room_in1 hu) (key_sq I eb) dd hp ?_
    rw [hp2]
    exact h w' _ (I.tok _) rw'
theorem inS (hu : A.units + 1 < cLine) {Q : Value → Shared → Prop} (I : Inv X pins σ H s) (g : DGetS X.K H a y o) (ry : RelV y u) (h : ∀ s', Inv X pins σ H s' → Q (.bool o.isSome) s') :
    wpAny (model X.prog X.w) A (compareOp .In u (.ref a)) Q E s := by
  rcases g with g | ⟨kvs, k, b, e, ey, eb, l⟩
  · exact d_in hu I g ry h
  · subst ey
    cases (show u = Value.ref b from ry)
    obtain ⟨z, hd, xs, rel, dd⟩ := dt_rd I.hok e
    refine wpAny_in_heap (tupleKind_room_in1 hu) (key_sq I eb) hd dd ?_
    have q := (rel.val k).isSome_eq
    rw [Option.isSome_map] at q
    rw [← q, ← l]
    exact h _ (I.tok _)
theorem notInS (hu : A.units + 1 < cLine) {Q : Value → Shared → Prop} (I : Inv X pins σ H s) (g : DGetS X.K H a y o) (ry : RelV y u) (h : ∀ s', Inv X pins σ H s' → Q (.bool (!o.isSome)) s') :
    wpAny (model X.prog X.w) A (compareOp .NotIn u (.ref a)) Q E s := by
  rcases g with g | ⟨kvs, k, b, e, ey, eb, l⟩
  · exact d_notIn hu I g ry h
  · subst ey
    cases (show u = Value.ref b from ry)
    obtain ⟨z, hd, xs, rel, dd⟩ := dt_rd I.hok e
    refine wpAny_notIn_heap (tupleKind_room_in1 hu) (key_sq I eb) hd dd ?_
    have q := (rel.val k).isSome_eq
    rw [Option.isSome_map] at q
    rw [← q, ← l]
    exact h _ (I.tok _)
theorem get2S (hu : A.units + 1 < cLine) {Q : Value → Shared → Prop} (I : Inv X pins σ H s) (g : DGetS X.K H a y o) (ry : RelV y u) (rd : RelV d r) (h : ∀ w' s', Inv X pins σ H s' → RelV (o.getD d) w' → Q w' s') :
    wpAny (model X.prog X.w) A (call (.builtin "dict.get") [.ref a, u, r]) Q E s := by
  rcases g with g | ⟨kvs, k, b, e, ey, eb, l⟩
  · exact d_get2 hu I g ry rd h
  · subst ey
    cases (show u = Value.ref b from ry)
    obtain ⟨z, hd, xs, rel, dd⟩ := dt_rd I.hok e
    refine call_meetsIn PySem.F.slot_dict_get dd.typeIs PySem.F.entry_dict_get (PySem.F.args_dict_get_3 _ _ _) (meetsH_dict_get_default (tupleKind (mixKind X.prog X.w)) a b hd r) ⟨tupleKind_room_in1 hu, k, xs, key_sq I eb, dd, h _ _ (I.tok _) ?_⟩
    rw [l]
    exact (rel.val k).getD rd
theorem DGetS.typeIs (I : Inv X pins σ H s) (g : DGetS X.K H a y o) : s.TypeIs (.ref a) "dict" := by
  rcases g with g | ⟨kvs, k, b, e, _, _, _⟩
  · exact dict_typeIs I g
  · obtain ⟨_, _, xs, _, dd⟩ := dt_rd I.hok e
    exact dd.typeIs
end
def tDGet2S (K : PySem.W.Frag) (td ty tx : TE) : TE := fun σ H Q => td σ H fun x H1 => ∃ a, x = .ref a ∧ IsD H1 a ∧ ty σ H1 fun y H2 => tx σ H2 fun z H3 => ∃ o, DGetS K H3 a y o ∧ Q (o.getD z) H3
section
variable {o e f : Expr} {apos cpos : Pos} {td ty tx : TE}
theorem pe_dget2S (hK : X.K = K) (hu : X.A.units + 1 < cLine) (ho : PE X o td) (he : PE X e ty) (hf : PE X f tx) (m : M2 X o "get" apos e f cpos) : PE X (.Call (.Attribute o "get" apos) [e, f] [] cpos) (tDGet2S K td ty tx) := by
  subst hK
  refine ⟨fun pins s σ H Q I h => ?_⟩
  refine wpAny_Call_method m.base m.few m.line PySem.F.plainAttrs_dict PySem.F.slot_dict_get PySem.F.type_dict_get (thn (ho.run pins s σ H _ I h) fun u s1 ⟨x, H1, I1, rx, a, ex, d, q1⟩ => ?_)
  subst ex
  obtain rfl : u = Value.ref a := rx
  obtain ⟨t1, t2, _⟩ := isD_at I1 d
  refine ⟨t1, t2, ?_⟩
  rw [m.trees]
  refine Calls.callWith_builtin rfl (Calls.evalArgs_plain (Calls.spliced_cons (thn (he.run pins s1 σ H1 _ I1 q1) fun iv s2 ⟨y, H2, I2, ry, q2⟩ =>
    Calls.spliced_cons (thn (hf.run pins s2 σ H2 _ I2 q2) fun fv s3 ⟨z, H3, I3, rz, ov, g, q3⟩ => Calls.spliced_nil ?_))))
  exact get2S hu I3 g ry rz fun w' s4 I4 rw' => ⟨_, H3, I4, rw', q3⟩
end
theorem ix_dK (hu : X.A.units + 1 < cLine) : IxR X (rGetD X.K) := by
  intro value slice pins s σ H x y v u Q I rx ry h hs
  obtain ⟨a, z, rfl, g, q⟩ := h
  obtain rfl : v = Value.ref a := rx
  exact tail_any (g.typeIs I) slot_dict_getitem.lookup (getS hu I g ry fun w' s3 I3 rw' => ⟨z, H, I3, rw', q⟩) hs
theorem ix_K (hK : X.K = K) (hu : X.A.units + 1 < cLine) : IxR X (rIxU K) := by subst hK; exact IxR.or ix_seq (ix_dK hu)
theorem op_inDk (hu : X.A.units + 1 < cLine) : OpR X (compareOp .In) (rInDk X.K) := by
  intro pins s σ H x y v u Q I rx ry h
  obtain ⟨a, o, rfl, g, q⟩ := h
  obtain rfl : u = Value.ref a := ry
  exact inS hu I g rx fun s3 I3 => ⟨.bl o.isSome, H, I3, rfl, q⟩
theorem op_notInDk (hu : X.A.units + 1 < cLine) : OpR X (compareOp .NotIn) (rNotInDk X.K) := by
  intro pins s σ H x y v u Q I rx ry h
  obtain ⟨a, o, rfl, g, q⟩ := h
  obtain rfl : u = Value.ref a := ry
  exact notInS hu I g rx fun s3 I3 => ⟨.bl (!o.isSome), H, I3, rfl, q⟩
theorem op_inK (hK : X.K = K) (hu : X.A.units + 1 < cLine) : OpR X (compareOp .In) (rInU K) := by subst hK; exact OpR.or op_in_sign (OpR.or (op_inDk hu) op_in_seq)
theorem op_notInK (hK : X.K = K) (hu : X.A.units + 1 < cLine) : OpR X (compareOp .NotIn) (rNotInU K) := by subst hK; exact OpR.or (op_notInDk hu) op_notIn_seq
end

/-! ### pure operators -/
def oadd : PyData → PyData → W Unit PyData
  | .int i, .int j => wpure (.int (i + j))
  | .str x, .str y => wreq (x.length + y.length ≤ sizeLine) (.str (x ++ y))
  | .list a, .list b => wreq (a.length + b.length ≤ sizeLine) (.list (a ++ b))
  | .tuple a, .tuple b => wreq (a.length + b.length ≤ sizeLine) (.tuple (a ++ b))
  | _, _ => wfail
def osub : PyData → PyData → W Unit PyData
  | .int i, .int j => wpure (.int (i - j))
  | _, _ => wfail
def omul : PyData → PyData → W Unit PyData
  | .int i, .int j => wreq (CMulW i j) (.int (i * j))
  | .list a, .int k => wreq (-(2 ^ 63) ≤ k ∧ k < 2 ^ 63 ∧ a.length * k.toNat ≤ sizeLine) (.list (List.replicate k.toNat a).flatten)
  | .str z, .int k => wreq (0 ≤ k ∧ k ≤ 2000 ∧ z.length ≤ 2000) (.str (Txt.mul z k))
  | _, _ => wfail
def ofdiv : PyData → PyData → W Unit PyData
  | .int i, .int j => wreq (CDivA i j) (.int (i.fdiv j))
  | _, _ => wfail
def omod : PyData → PyData → W Unit PyData
  | .int i, .int j => wreq (0 < j) (.int (i % j))
  | _, _ => wfail
def opow : PyData → PyData → W Unit PyData
  | .int i, .int j => wreq (CPow i j) (.int (i ^ j.toNat))
  | _, _ => wfail
def oneg : PyData → W Unit PyData
  | .int i => wpure (.int (-i))
  | _ => wfail
structure ltOk (d e : PyData) : Prop where
  a : PySem.W.alike d e = true
  d1 : d.hasDict = false
  d2 : e.hasDict = false
  z : min d.depth e.depth ≤ 60
def olt : PyData → PyData → W Unit PyData
  | .int i, .int j => wpure (.bool (decide (i < j)))
  | .str x, .str y => wpure (.bool (decide (x.cps.toList < y.cps.toList)))
  | .tuple ds, .tuple es => wreq (ltOk (.tuple ds) (.tuple es)) (.bool (PySem.W.dataLt (.tuple ds) (.tuple es)))
  | .list ds, .list es => wreq (ltOk (.list ds) (.list es)) (.bool (PySem.W.dataLt (.list ds) (.list es)))
  | _, _ => wfail
def ole : PyData → PyData → W Unit PyData
  | .int i, .int j => wpure (.bool (decide (i ≤ j)))
  | .str x, .str y => wpure (.bool (!decide (y.cps.toList < x.cps.toList)))
  | _, _ => wfail
def ogt : PyData → PyData → W Unit PyData
  | .int i, .int j => wpure (.bool (decide (j < i)))
  | _, _ => wfail
def oge : PyData → PyData → W Unit PyData
  | .int i, .int j => wpure (.bool (decide (j ≤ i)))
  | _, _ => wfail
/-- may be compared; what comes of it -/
def eqOk (d e : PyData) : Prop := SeqAt.shaped d = true ∧ SeqAt.shaped e = true
def oeq : PyData → PyData → W Unit PyData
  | .int i, .int j => wpure (.bool (decide (i = j)))
  | .str i, .str j => wpure (.bool (decide (i = j)))
  | .tuple ds, .tuple [] => wpure (.bool ds.isEmpty)
  | .list ds, .list [] => wpure (.bool ds.isEmpty)
  | d, e => wreq (eqOk d e) (.bool (PyData.eqv d e))
def one : PyData → PyData → W Unit PyData
  | .int i, .int j => wpure (.bool (!decide (i = j)))
  | .str i, .str j => wpure (.bool (!decide (i = j)))
  | .tuple ds, .tuple [] => wpure (.bool (!ds.isEmpty))
  | .list ds, .list [] => wpure (.bool (!ds.isEmpty))
  | d, e => wreq (eqOk d e) (.bool (!PyData.eqv d e))
def wopt {S α β : Type} (o : Option β) (f : β → W S α) : W S α := match o with | some b => f b | none => wfail
theorem wopt_inv {S α β : Type} {o : Option β} {f : β → W S α} {s : S} {P : α → S → Prop} (h : wopt o f s P) : ∃ b, o = some b ∧ f b s P := by
  cases o with
  | some b => exact ⟨b, rfl, h⟩
  | none => exact h.elim
def atI' (ds : List PyData) (i : Int) : W Unit PyData := wopt (atI ds i) wpure
/-- keys: ints, texts, tuples of such -/
def keyD : PyData → Option Key
  | .int i => some (.inl i)
  | .str x => some (.inr x)
  | _ => none
def keysD : List PyData → Option (List Key)
  | [] => some []
  | d :: ds => match keyD d, keysD ds with | some k, some ks => some (k :: ks) | _, _ => none
def kEq : PyData → PyData → Bool
  | .int i, .int j => decide (i = j)
  | .str x, .str y => decide (x = y)
  | .tuple a, .tuple b => match keysD a, keysD b with | some x, some y => decide (x = y) | _, _ => false
  | _, _ => false
def dGet (es : List (PyData × PyData)) (k : PyData) : Option PyData := (es.find? fun e => kEq e.1 k).map (·.2)
def dHas (es : List (PyData × PyData)) (k : PyData) : Bool := es.any fun e => kEq e.1 k
/-- put into a dict -/
def dPut (es : List (PyData × PyData)) (k v : PyData) : List (PyData × PyData) := if dHas es k then es.map (fun e => if kEq e.1 k then (e.1, v) else e) else es ++ [(k, v)]
/-- a dict of ints and texts -/
def isK (es : List (PyData × PyData)) : Prop := ∀ e ∈ es, (keyD e.1).isSome = true
def kOk (es : List (PyData × PyData)) (k : PyData) : Prop := isK es ∧ (keyD k).isSome = true
/-- tuple keys -/
def ktD (es : List (PyData × PyData)) (ks : List PyData) (f : List (PyData × PyData) → W Unit PyData) : W Unit PyData := match es with
  | (.bool true, .none) :: es => fun s Q => (keysD ks).isSome = true ∧ f es s Q
  | _ => wfail
def oix : PyData → PyData → W Unit PyData
  | .list ds, .int i => atI' ds i
  | .tuple ds, .int i => atI' ds i
  | .str z, .int i => wopt (atI z.cps.toList i) fun c => wreq (z.length ≤ sizeLine) (.str ⟨#[c]⟩)
  | .dict es, .tuple ks => ktD es ks fun es => wopt (dGet es (.tuple ks)) wpure
  | .dict es, k => wopt (dGet es k) fun d => wreq (kOk es k) d
  | _, _ => wfail
def strsOf : List PyData → Option (List Str)
  | [] => some []
  | .str x :: ds => (strsOf ds).map (x :: ·)
  | _ => none
/-- the sign of a text of one sign -/
def oneC (x : Str) : Option Nat := match x.cps.toList with | [c] => some c | _ => none
def oin : PyData → PyData → W Unit PyData
  | .str x, .str z => wopt (oneC x) fun c => wpure (.bool (decide (c ∈ z.cps.toList)))
  | .tuple ks, .dict es => ktD es ks fun es => wpure (.bool (dHas es (.tuple ks)))
  | k, .dict es => wreq (kOk es k) (.bool (dHas es k))
  | .str x, .list ds => wopt (strsOf ds) fun ys => wpure (.bool (decide (x ∈ ys)))
  | .str x, .tuple ds => wopt (strsOf ds) fun ys => wpure (.bool (decide (x ∈ ys)))
  | _, _ => wfail
def onotin : PyData → PyData → W Unit PyData
  | .tuple ks, .dict es => ktD es ks fun es => wpure (.bool (!dHas es (.tuple ks)))
  | k, .dict es => wreq (kOk es k) (.bool (!dHas es k))
  | .str x, .list ds => wopt (strsOf ds) fun ys => wpure (.bool (!decide (x ∈ ys)))
  | .str x, .tuple ds => wopt (strsOf ds) fun ys => wpure (.bool (!decide (x ∈ ys)))
  | _, _ => wfail
/-- what is cut out -/
def cutD {α : Type} (xs : List α) (lo hi : Option Int) : List α := (xs.drop (HT.sIx xs.length 0 lo)).take (HT.sIx xs.length xs.length hi - HT.sIx xs.length 0 lo)
def osl (d : PyData) (lo hi : Option Int) : W Unit PyData := match d with
  | .list ds => wpure (.list (cutD ds lo hi))
  | .tuple ds => wpure (.tuple (cutD ds lo hi))
  | .str z => wreq (z.length ≤ sizeLine) (.str (cutS z lo hi))
  | _ => wfail
def orev : PyData → W Unit PyData
  | .list ds => wpure (.list ds.reverse)
  | _ => wfail

section
variable {K : PySem.W.Frag} {B B' H H' : Hp} {x y : V} {d e : PyData}
theorem fin_dat {P : PyData → Unit → Prop} {Q : VK} (hB : Same B H) (g : Gv K .dat B H P Q) {v : V} (r : Rp K B v d) (p : P d ()) : Q v H := g B v H d (Grow.refl hB) r p
theorem fin_new {P : PyData → Unit → Prop} {Q : VK} (hB : Same B H) (g : Gv K .dat B H P Q) {p : Addr} {o : HO} (hp : H p = none) (r : ∀ B', Same B B' → B' p = some o → Rp K B' (.ref p) d) (hP : P d ()) : Q (.ref p) (upd H p o) := by
  have gr := Grow.new (o := o) hB hp
  exact g _ _ _ d gr (r _ gr.b upd_same) hP
/-- the shapes of what is read -/
theorem sr_tupS {ds : List PyData} (h : SR K B H x (.tuple ds)) : ∃ a xs, x = .ref a ∧ ZT K B a xs ∧ RpAll K B xs ds := by
  cases h with
  | rp h => cases h with | tup h r => exact ⟨_, _, rfl, h, r⟩
theorem atI_rp {xs : List V} {ds : List PyData} {i : Int} {d : PyData} (hr : RpAll K B xs ds) (h : atI ds i = some d) : ∃ v, atI xs i = some v ∧ Rp K B v d := by
  unfold atI at h ⊢
  rw [hr.length]
  cases e : ixN ds.length i with
  | none => rw [e] at h; cases h
  | some j =>
    rw [e] at h
    exact hr.get h
theorem cut_rp {xs : List V} {ds : List PyData} (h : RpAll K B xs ds) (lo hi : Option Int) : RpAll K B (cutV xs lo hi) (cutD ds lo hi) := by
  unfold cutV cutD
  rw [h.length]
  exact (h.drop _).take _
theorem cut_all {α : Type} {xs : List α} {lo hi : Option Int} (h : HT.sIx xs.length 0 lo = 0 ∧ HT.sIx xs.length xs.length hi = xs.length) : cutD xs lo hi = xs := by
  unfold cutD
  rw [h.1, h.2]
  simp
theorem rpAll_rep {vs : List V} {ds : List PyData} (h : RpAll K B vs ds) : ∀ n : Nat, RpAll K B (List.replicate n vs).flatten (List.replicate n ds).flatten
  | 0 => .nil
  | n + 1 => by
    rw [List.replicate_succ, List.replicate_succ, List.flatten_cons, List.flatten_cons]
    exact h.app (rpAll_rep h n)
theorem ok_add : OpOk K (rAddU K) .dat oadd := fun B H x y d e hB hx hy P hp Q g => by
  unfold oadd at hp
  split at hp
  · rename_i i j
    exact .inl ⟨i, j, sr_int hx, sr_int hy, fin_dat hB g (.int _) hp⟩
  · rename_i i j
    exact .inr (.inl ⟨i, j, sr_str hx, sr_str hy, hp.1, fin_dat hB g (.str _) hp.2⟩)
  · rename_i a b
    obtain ⟨p1, xs, rfl, h1, r1⟩ := sr_lst hB hx
    obtain ⟨p2, ys, rfl, h2, r2⟩ := sr_lst hB hy
    exact .inr (.inr (.inl ⟨p1, p2, xs, ys, rfl, rfl, h1, h2, by rw [r1.length, r2.length]; exact hp.1, fun p hq => fin_new hB g hq (fun B' e1 e2 => .lst e2 ((r1.app r2).mono e1)) hp.2⟩))
  · rename_i a b
    obtain ⟨p1, xs, rfl, h1, r1⟩ := sr_tupS hx
    obtain ⟨p2, ys, rfl, h2, r2⟩ := sr_tupS hy
    obtain ⟨hz, hp⟩ := hp
    refine .inr (.inr (.inr ⟨p1, p2, xs, ys, rfl, rfl, sqT_mono hB h1.sq, sqT_mono hB h2.sq, by rw [r1.length, r2.length]; exact hz, fun e => ?_, fun e1 e => ?_, fun _ _ p o hq ho => ?_⟩))
    · subst e
      cases r1
      exact fin_dat hB g (.tup h2 r2) hp
    · subst e
      cases r2
      rw [List.append_nil] at hp
      exact fin_dat hB g (.tup h1 r1) hp
    · exact fin_new hB g hq (fun B' e1 e2 => .tup (.inl ⟨o, e2, ho⟩) ((r1.app r2).mono e1)) hp
  · exact hp.elim
theorem ok_sub : OpOk K (rI0 fun i j => .int (i - j)) .dat osub := fun B H x y d e hB hx hy P hp Q g => by
  unfold osub at hp
  split at hp
  · rename_i i j
    exact ⟨i, j, sr_int hx, sr_int hy, fin_dat hB g (.int _) hp⟩
  · exact hp.elim
theorem ok_mul : OpOk K rMulU .dat omul := fun B H x y d e hB hx hy P hp Q g => by
  unfold omul at hp
  split at hp
  · rename_i i j
    exact .inl ⟨i, j, sr_int hx, sr_int hy, hp.1, fin_dat hB g (.int _) hp.2⟩
  · rename_i a k
    obtain ⟨p1, xs, rfl, h1, r1⟩ := sr_lst hB hx
    obtain ⟨⟨z1, z2, z3⟩, hp⟩ := hp
    exact .inr (.inl ⟨p1, k, xs, rfl, sr_int hy, h1, z1, z2, by rw [r1.length]; exact z3, fun p hq => fin_new hB g hq (fun B' e1 e2 => .lst e2 ((rpAll_rep r1 _).mono e1)) hp⟩)
  · rename_i z k
    obtain ⟨⟨z1, z2, z3⟩, hp⟩ := hp
    exact .inr (.inr ⟨z, k, sr_str hx, sr_int hy, z1, z2, z3, fin_dat hB g (.str _) hp⟩)
  · exact hp.elim
theorem ok_fdiv : OpOk K (rI CDivA fun i j => .int (i.fdiv j)) .dat ofdiv := fun B H x y d e hB hx hy P hp Q g => by
  unfold ofdiv at hp
  split at hp
  · rename_i i j
    exact ⟨i, j, sr_int hx, sr_int hy, hp.1, fin_dat hB g (.int _) hp.2⟩
  · exact hp.elim
theorem ok_mod : OpOk K (rI (fun _ j => 0 < j) fun i j => .int (i % j)) .dat omod := fun B H x y d e hB hx hy P hp Q g => by
  unfold omod at hp
  split at hp
  · rename_i i j
    exact ⟨i, j, sr_int hx, sr_int hy, hp.1, fin_dat hB g (.int _) hp.2⟩
  · exact hp.elim
theorem ok_pow : OpOk K (rI CPow fun i j => .int (i ^ j.toNat)) .dat opow := fun B H x y d e hB hx hy P hp Q g => by
  unfold opow at hp
  split at hp
  · rename_i i j
    exact ⟨i, j, sr_int hx, sr_int hy, hp.1, fin_dat hB g (.int _) hp.2⟩
  · exact hp.elim
theorem ok_neg : UnOk K (rU fun i => .int (-i)) .dat oneg := fun B H x d hB hx P hp Q g => by
  unfold oneg at hp
  split at hp
  · rename_i i
    exact ⟨i, sr_int hx, fin_dat hB g (.int _) hp⟩
  · exact hp.elim
theorem ok_le : OpOk K rLeU .dat ole := fun B H x y d e hB hx hy P hp Q g => by
  unfold ole at hp
  split at hp
  · rename_i i j
    exact .inl ⟨i, j, sr_int hx, sr_int hy, fin_dat hB g (.bl _) hp⟩
  · rename_i i j
    exact .inr ⟨i, j, sr_str hx, sr_str hy, fin_dat hB g (.bl _) hp⟩
  · exact hp.elim
theorem ok_gt : OpOk K (rI0 fun i j => .bl (decide (j < i))) .dat ogt := fun B H x y d e hB hx hy P hp Q g => by
  unfold ogt at hp
  split at hp
  · rename_i i j
    exact ⟨i, j, sr_int hx, sr_int hy, fin_dat hB g (.bl _) hp⟩
  · exact hp.elim
theorem ok_ge : OpOk K (rI0 fun i j => .bl (decide (j ≤ i))) .dat oge := fun B H x y d e hB hx hy P hp Q g => by
  unfold oge at hp
  split at hp
  · rename_i i j
    exact ⟨i, j, sr_int hx, sr_int hy, fin_dat hB g (.bl _) hp⟩
  · exact hp.elim
/-! ==, deep -/
mutual
theorem Rp.dp (e : Same B H) : ∀ {v : V} {d : PyData}, d.hasDict = false → Rp K B v d → Dp K H v d
  | _, _, _, .non => .non
  | _, _, _, .bl b => .bl b
  | _, _, _, .int i => .int i
  | _, _, _, .str x => .str x
  | _, _, hd, .lst h r => .lst (SqL.of (e _ _ h)) (RpAll.dp e (by simpa only [PyData.hasDict] using hd) r)
  | _, _, hd, .tup h r => .tup (sqT_mono e h.sq) (RpAll.dp e (by simpa only [PyData.hasDict] using hd) r)
  | _, _, hd, .dic h r => by simp only [PyData.hasDict] at hd; cases hd
  | _, _, hd, .dct h r => by simp only [PyData.hasDict] at hd; cases hd
  | _, _, hd, .obj c h r => by simp only [PyData.hasDict] at hd; cases hd
  | _, _, hd, .fn c => by simp only [PyData.hasDict] at hd; cases hd
theorem RpAll.dp (e : Same B H) : ∀ {vs : List V} {ds : List PyData}, PyData.hasDictAll ds = false → RpAll K B vs ds → DpAll K H vs ds
  | _, _, _, .nil => .nil
  | _, _, hd, .cons h r => by
    simp only [PyData.hasDictAll, Bool.or_eq_false_iff] at hd
    exact .cons (Rp.dp e hd.1 h) (RpAll.dp e hd.2 r)
end
theorem noDict_of {d : PyData} (h : SeqAt.shaped d = true) : d.hasDict = false := PyData.hasDict_of_canLay d (by unfold SeqAt.shaped at h; simp only [Bool.and_eq_true] at h; exact h.1)
theorem SR.dp (hB : Same B H) (hd : d.hasDict = false) (h : SR K B H x d) : Dp K H x d := by
  cases h with
  | rp h => exact Rp.dp hB hd h
  | lst h r => exact .lst (SqL.of h) (RpAll.dp hB (by simpa only [PyData.hasDict] using hd) r)
  | scr h => unfold scrD at hd; simp only [PyData.hasDict] at hd; cases hd
  | dic h r => simp only [PyData.hasDict] at hd; cases hd
  | dct h r => simp only [PyData.hasDict] at hd; cases hd
  | obj c h r => simp only [PyData.hasDict] at hd; cases hd
  | nt h r => simp only [PyData.hasDict] at hd; cases hd
theorem rpAll_nil {B : Hp} {xs : List V} (h : RpAll K B xs []) : xs = [] := by cases h; rfl
theorem rpAll_isE {B : Hp} : ∀ {xs : List V} {ds : List PyData}, RpAll K B xs ds → xs.isEmpty = ds.isEmpty
  | _, _, .nil => rfl
  | _, _, .cons _ _ => rfl
theorem ok_eq : OpOk K (rEqU K) .dat oeq := fun B H x y d e hB hx hy P hp Q g => by
  unfold oeq at hp
  split at hp
  · rename_i i j
    cases sr_int hx; cases sr_int hy
    have e : decide (V.int i = V.int j) = decide (i = j) := by simp
    exact .inl ⟨rfl, by rw [e]; exact fin_dat hB g (.bl _) hp⟩
  · rename_i i j
    cases sr_str hx; cases sr_str hy
    have e : decide (V.str i = V.str j) = decide (i = j) := by simp
    exact .inl ⟨rfl, by rw [e]; exact fin_dat hB g (.bl _) hp⟩
  · rename_i ds
    obtain ⟨a, xs, rfl, h1, r1⟩ := sr_tup hB hx
    obtain ⟨b, ys, rfl, h2, r2⟩ := sr_tup hB hy
    cases rpAll_nil r2
    exact .inr (.inl ⟨a, b, xs, rfl, rfl, .inl ⟨h1, h2⟩, by rw [rpAll_isE r1]; exact fin_dat hB g (.bl _) hp⟩)
  · rename_i ds
    obtain ⟨a, xs, rfl, h1, r1⟩ := sr_lst hB hx
    obtain ⟨b, ys, rfl, h2, r2⟩ := sr_lst hB hy
    cases rpAll_nil r2
    exact .inr (.inl ⟨a, b, xs, rfl, rfl, .inr ⟨SqL.of h1, SqL.of h2⟩, by rw [rpAll_isE r1]; exact fin_dat hB g (.bl _) hp⟩)
  · obtain ⟨⟨h1, h2⟩, hp⟩ := hp
    exact .inr (.inr ⟨_, _, hx.dp hB (noDict_of h1), hy.dp hB (noDict_of h2), h1, h2, fin_dat hB g (.bl _) hp⟩)
theorem ok_lt : OpOk K (rLtV K) .dat olt := fun B H x y d e hB hx hy P hp Q g => by
  unfold olt at hp
  split at hp
  · rename_i i j
    exact .inl (.inl ⟨i, j, sr_int hx, sr_int hy, fin_dat hB g (.bl _) hp⟩)
  · rename_i i j
    exact .inl (.inr ⟨i, j, sr_str hx, sr_str hy, fin_dat hB g (.bl _) hp⟩)
  · obtain ⟨⟨h1, h2, h3, h4⟩, hp⟩ := hp
    exact .inr ⟨_, _, hx.dp hB h2, hy.dp hB h3, h1, nofun, h4, fin_dat hB g (.bl _) hp⟩
  · obtain ⟨⟨h1, h2, h3, h4⟩, hp⟩ := hp
    exact .inr ⟨_, _, hx.dp hB h2, hy.dp hB h3, h1, nofun, h4, fin_dat hB g (.bl _) hp⟩
  · exact hp.elim
theorem ok_ne : OpOk K (rNeU K) .dat one := fun B H x y d e hB hx hy P hp Q g => by
  unfold one at hp
  split at hp
  · rename_i i j
    cases sr_int hx; cases sr_int hy
    have e : decide (V.int i = V.int j) = decide (i = j) := by simp
    exact .inl ⟨rfl, by rw [e]; exact fin_dat hB g (.bl _) hp⟩
  · rename_i i j
    cases sr_str hx; cases sr_str hy
    have e : decide (V.str i = V.str j) = decide (i = j) := by simp
    exact .inl ⟨rfl, by rw [e]; exact fin_dat hB g (.bl _) hp⟩
  · rename_i ds
    obtain ⟨a, xs, rfl, h1, r1⟩ := sr_tup hB hx
    obtain ⟨b, ys, rfl, h2, r2⟩ := sr_tup hB hy
    cases rpAll_nil r2
    exact .inr (.inl ⟨a, b, xs, rfl, rfl, .inl ⟨h1, h2⟩, by rw [rpAll_isE r1]; exact fin_dat hB g (.bl _) hp⟩)
  · rename_i ds
    obtain ⟨a, xs, rfl, h1, r1⟩ := sr_lst hB hx
    obtain ⟨b, ys, rfl, h2, r2⟩ := sr_lst hB hy
    cases rpAll_nil r2
    exact .inr (.inl ⟨a, b, xs, rfl, rfl, .inr ⟨SqL.of h1, SqL.of h2⟩, by rw [rpAll_isE r1]; exact fin_dat hB g (.bl _) hp⟩)
  · obtain ⟨⟨h1, h2⟩, hp⟩ := hp
    exact .inr (.inr ⟨_, _, hx.dp hB (noDict_of h1), hy.dp hB (noDict_of h2), h1, h2, fin_dat hB g (.bl _) hp⟩)
/-! is None -/
end
end PL

/-! subscripts, membership, dicts, own things that change -/
namespace PL
open PySem PySem.Spec PyProof.Rows L2
section
variable {K : PySem.W.Frag} {B B' H H' : Hp} {x y : V} {d e : PyData}
theorem keyD_kD (k : Key) : keyD (kD k) = some k := by cases k <;> rfl
theorem key_of_kD {d : PyData} {k : Key} (h : keyD d = some k) : d = kD k := by
  cases d <;> first | (cases h; rfl) | cases h
theorem kEq_kD (j k : Key) : kEq (kD j) (kD k) = decide (j = k) := by
  cases j <;> cases k <;> simp [kEq, kD]
theorem sr_key {k : Key} (h : SR K B H x (kD k)) : x = kV k := by
  cases k with
  | inl i => exact sr_int h
  | inr s => exact sr_str h
theorem rpKv_get {k : Key} : ∀ {kvs : List (Key × V)} {es : List (PyData × PyData)}, RpKv K B kvs es → (∀ d, dGet es (kD k) = some d → ∃ v, valV kvs k = some v ∧ Rp K B v d) ∧ (dGet es (kD k) = none → valV kvs k = none) ∧ dHas es (kD k) = (valV kvs k).isSome
  | _, _, .nil => ⟨fun _ h => by simp [dGet] at h, fun _ => rfl, rfl⟩
  | _, _, .cons (k := j) (v := v) (kvs := kvs) (d := d) (es := es) h t => by
    obtain ⟨i1, i2, i3⟩ := rpKv_get (k := k) t
    unfold dGet dHas
    rw [List.find?_cons, List.any_cons, show kEq (kD j, d).1 (kD k) = decide (j = k) from kEq_kD j k]
    by_cases e : j = k
    · rw [decide_eq_true e, valV_pos (p := (j, v)) e]
      exact ⟨fun _ h' => by cases h'; exact ⟨v, rfl, h⟩, (fun h' => by cases h'), rfl⟩
    · rw [decide_eq_false e, valV_neg (p := (j, v)) e]
      exact ⟨i1, i2, by rw [Bool.false_or]; exact i3⟩
theorem sr_dic {es : List (PyData × PyData)} (hB : Same B H) (hk : isK es) (h : SR K B H x (.dict es)) : ∃ a kvs, x = .ref a ∧ Rd H a (.dK kvs) ∧ RpKv K B kvs es := by
  cases h with
  | rp h =>
    cases h with
    | dic h r => exact ⟨_, _, rfl, rd_mono hB h, r⟩
    | dct h r => exact absurd (hk _ List.mem_cons_self) (by simp [keyD])
    | obj c h r => exact absurd (hk _ List.mem_cons_self) (by simp [keyD])
    | fn c => exact absurd (hk _ List.mem_cons_self) (by simp [keyD])
  | scr h => exact absurd (hk _ List.mem_cons_self) (by simp [keyD])
  | dic h r => exact ⟨_, _, rfl, h, r⟩
  | dct h r => exact absurd (hk _ List.mem_cons_self) (by simp [keyD])
  | obj c h r => exact absurd (hk _ List.mem_cons_self) (by simp [keyD])
  | nt h r => exact absurd (hk _ List.mem_cons_self) (by simp [keyD])
theorem DGet.kr {H : Hp} {a : Addr} {kvs : List (Key × V)} {k : Key} (e : Rd H a (.dK kvs)) : DGet H a (kV k) (valV kvs k) := .inl ⟨kvs, k, e, rfl, rfl⟩
theorem sr_dct {es : List (PyData × PyData)} (hB : Same B H) (h : SR K B H x (.dict ((.bool true, .none) :: es))) : ∃ a kvs, x = .ref a ∧ Rd H a (.dT kvs) ∧ RpKt K B kvs es := by
  have nk : ∀ {kvs : List (Key × V)} {es : List (PyData × PyData)}, RpKv K B kvs ((.bool true, .none) :: es) → False := by
    intro kvs es r
    generalize hd : (PyData.bool true, PyData.none) :: es = z at r
    cases r with
    | nil => cases hd
    | cons h t =>
      have ne : ∀ k : Key, PyData.bool true ≠ kD k := fun k => by cases k <;> exact nofun
      injection hd with hd _; injection hd with hd _; exact ne _ hd
  generalize hd : PyData.dict ((.bool true, .none) :: es) = dd at h
  cases h with
  | rp h =>
    cases h with
    | dic h r => injection hd with hd; subst hd; exact (nk r).elim
    | dct h r => injection hd with hd; injection hd with _ hd; subst hd; exact ⟨_, _, rfl, rd_mono hB h, r⟩
    | obj c h r => injection hd with hd; injection hd with hd _; injection hd with hd _; cases hd
    | fn c => injection hd with hd; injection hd with hd _; injection hd with hd _; cases hd
    | _ => cases hd
  | dic h r => injection hd with hd; subst hd; exact (nk r).elim
  | dct h r => injection hd with hd; injection hd with _ hd; subst hd; exact ⟨_, _, rfl, h, r⟩
  | lst h r => cases hd
  | scr h => injection hd with hd; injection hd with hd _; injection hd with hd _; cases hd
  | obj c h r => injection hd with hd; injection hd with hd _; injection hd with hd _; cases hd
  | nt h r => injection hd with hd; injection hd with hd _; injection hd with hd _; cases hd
theorem keysD_map : ∀ ks : List Key, keysD (ks.map kD) = some ks
  | [] => rfl
  | k :: ks => by
    show (match keyD (kD k), keysD (ks.map kD) with | some k, some ks => some (k :: ks) | _, _ => none) = _
    rw [keyD_kD, keysD_map ks]
theorem keys_of_kD : ∀ {ds : List PyData} {ks : List Key}, keysD ds = some ks → ds = ks.map kD
  | [], ks, h => by cases h; rfl
  | d :: ds, ks, h => by
    simp only [keysD] at h
    cases e1 : keyD d with
    | none => rw [e1] at h; cases h
    | some k =>
      rw [e1] at h
      cases e2 : keysD ds with
      | none => rw [e2] at h; cases h
      | some zs =>
        rw [e2] at h
        cases h
        rw [key_of_kD e1, keys_of_kD e2]; rfl
theorem kEq_kT (j k : List Key) : kEq (.tuple (j.map kD)) (.tuple (k.map kD)) = decide (j = k) := by
  show (match keysD (j.map kD), keysD (k.map kD) with | some x, some y => decide (x = y) | _, _ => false) = _
  rw [keysD_map, keysD_map]
theorem rpKt_get {k : List Key} : ∀ {kvs : List (List Key × V)} {es : List (PyData × PyData)}, RpKt K B kvs es → (∀ d, dGet es (.tuple (k.map kD)) = some d → ∃ v, valV kvs k = some v ∧ Rp K B v d) ∧ (dGet es (.tuple (k.map kD)) = none → valV kvs k = none) ∧ dHas es (.tuple (k.map kD)) = (valV kvs k).isSome
  | _, _, .nil => ⟨fun _ h => by simp [dGet] at h, fun _ => rfl, rfl⟩
  | _, _, .cons (k := j) (v := v) (kvs := kvs) (d := d) (es := es) h t => by
    obtain ⟨i1, i2, i3⟩ := rpKt_get (k := k) t
    unfold dGet dHas
    rw [List.find?_cons, List.any_cons, show kEq (.tuple (j.map kD), d).1 (.tuple (k.map kD)) = decide (j = k) from kEq_kT j k]
    by_cases e : j = k
    · rw [decide_eq_true e, valV_pos (p := (j, v)) e]
      exact ⟨fun _ h' => by cases h'; exact ⟨v, rfl, h⟩, (fun h' => by cases h'), rfl⟩
    · rw [decide_eq_false e, valV_neg (p := (j, v)) e]
      exact ⟨i1, i2, by rw [Bool.false_or]; exact i3⟩
theorem tup_keys : ∀ {ks : List Key} {xs : List V}, RpAll K B xs (ks.map kD) → xs = ks.map kV
  | [], _, .nil => rfl
  | k :: ks, _, .cons h t => by
    rw [tup_keys t, sr_key (H := B) (.rp h)]; rfl
theorem ktD_inv {es : List (PyData × PyData)} {ks : List PyData} {f : List (PyData × PyData) → W Unit PyData} {s : Unit} {P : PyData → Unit → Prop} (h : ktD es ks f s P) : ∃ (es' : List (PyData × PyData)) (k : List Key), es = (.bool true, .none) :: es' ∧ ks = k.map kD ∧ f es' s P := by
  unfold ktD at h
  split at h
  · obtain ⟨h1, h2⟩ := h
    obtain ⟨k, hk⟩ := Option.isSome_iff_exists.mp h1
    exact ⟨_, k, rfl, keys_of_kD hk, h2⟩
  · exact h.elim
/-- a dict with tuple keys, and one of the keys -/
theorem sr_kt {es : List (PyData × PyData)} {k : List Key} (hB : Same B H) (hx : SR K B H x (.dict ((.bool true, .none) :: es))) (hy : SR K B H y (.tuple (k.map kD))) : ∃ a kvs, x = .ref a ∧ RpKt K B kvs es ∧ DGetS K H a y (valV kvs k) := by
  obtain ⟨a, kvs, rfl, h1, r1⟩ := sr_dct hB hx
  cases hy with
  | rp h =>
    cases h with
    | tup h r => exact ⟨a, kvs, rfl, r1, .inr ⟨kvs, k, _, h1, rfl, by rw [← tup_keys r]; exact sqT_mono hB h.sq, rfl⟩⟩
theorem kOk.key {es : List (PyData × PyData)} {k : PyData} (h : kOk es k) : ∃ j, k = kD j := by
  cases e : keyD k with
  | none => have := h.2; rw [e] at this; cases this
  | some j => exact ⟨j, key_of_kD e⟩
theorem ok_ix : OpOk K (rIxU K) .dat oix := fun B H x y d e hB hx hy P hp Q g => by
  unfold oix at hp
  split at hp
  · rename_i ds i
    obtain ⟨p1, xs, rfl, h1, r1⟩ := sr_lst hB hx
    obtain ⟨dd, hd, hp⟩ := wopt_inv hp
    obtain ⟨v, h2, h3⟩ := atI_rp r1 hd
    exact .inl (.inl ⟨_, _, i, v, rfl, sr_int hy, SqL.of h1, h2, fin_dat hB g h3 hp⟩)
  · rename_i ds i
    obtain ⟨p1, xs, rfl, h1, r1⟩ := sr_tup hB hx
    obtain ⟨dd, hd, hp⟩ := wopt_inv hp
    obtain ⟨v, h2, h3⟩ := atI_rp r1 hd
    exact .inl (.inr (.inl ⟨_, _, i, v, rfl, sr_int hy, h1, h2, fin_dat hB g h3 hp⟩))
  · rename_i z i
    obtain ⟨c, hc, hp⟩ := wopt_inv hp
    exact .inl (.inr (.inr ⟨z, i, c, sr_str hx, sr_int hy, hp.1, hc, fin_dat hB g (.str _) hp.2⟩))
  · obtain ⟨es', k, rfl, rfl, hp⟩ := ktD_inv hp
    obtain ⟨dd, hd, hp2⟩ := wopt_inv hp
    obtain ⟨a, kvs, rfl, r1, q⟩ := sr_kt hB hx hy
    obtain ⟨v, h2, h3⟩ := (rpKt_get r1).1 _ hd
    exact .inr ⟨a, v, rfl, by rw [← h2]; exact q, fin_dat hB g h3 hp2⟩
  · rename_i es _ _
    obtain ⟨dd, hd, hk, hp2⟩ := wopt_inv hp
    obtain ⟨a, kvs, rfl, h1, r1⟩ := sr_dic hB hk.1 hx
    obtain ⟨j, rfl⟩ := hk.key
    cases sr_key hy
    obtain ⟨v, h2, h3⟩ := (rpKv_get r1).1 _ hd
    exact .inr ⟨a, v, rfl, by rw [← h2]; exact .inl (DGet.kr h1), fin_dat hB g h3 hp2⟩
  · exact hp.elim
theorem strsOf_eq : ∀ {ds : List PyData} {ys : List Str}, strsOf ds = some ys → ds = ys.map .str
  | [], ys, h => by cases h; rfl
  | .str x :: ds, ys, h => by
    simp only [strsOf] at h
    cases e : strsOf ds with
    | none => rw [e] at h; cases h
    | some zs => rw [e] at h; cases h; rw [strsOf_eq e]; rfl
  | .none :: _, _, h => by cases h
  | .bool _ :: _, _, h => by cases h
  | .int _ :: _, _, h => by cases h
  | .list _ :: _, _, h => by cases h
  | .tuple _ :: _, _, h => by cases h
  | .dict _ :: _, _, h => by cases h
theorem inV_strs {x : Str} : ∀ ys : List Str, inV (.str x) (ys.map V.str) = decide (x ∈ ys)
  | [] => rfl
  | y :: ys => by
    have ih := inV_strs (x := x) ys
    unfold inV at ih ⊢
    rw [List.map_cons, List.any_cons, ih]
    have e : eqV (V.str y) (V.str x) = decide (y = x) := rfl
    rw [e]
    by_cases h : y = x
    · subst h
      rw [decide_eq_true rfl, Bool.true_or, decide_eq_true List.mem_cons_self]
    · rw [decide_eq_false h, Bool.false_or]
      by_cases h2 : x ∈ ys
      · rw [decide_eq_true h2, decide_eq_true (List.mem_cons_of_mem _ h2)]
      · rw [decide_eq_false h2, decide_eq_false]
        intro h3
        rcases List.mem_cons.mp h3 with h3 | h3
        · exact h h3.symm
        · exact h2 h3
theorem flat_strs (ys : List Str) : (ys.map V.str).all flatV = true := by
  rw [List.all_map, List.all_eq_true]
  intro _ _
  rfl
theorem str_one {x : Str} {c : Nat} (h : oneC x = some c) : x = ⟨#[c]⟩ := by
  unfold oneC at h
  split at h <;> cases h
  rename_i h
  obtain ⟨a⟩ := x
  have : a = #[c] := by rw [← Array.toArray_toList (xs := a)]; exact congrArg List.toArray h
  rw [this]
theorem ok_in : OpOk K (rInU K) .dat oin := fun B H x y d e hB hx hy P hp Q g => by
  unfold oin at hp
  split at hp
  · rename_i i z
    obtain ⟨c, hc, hp⟩ := wopt_inv hp
    cases sr_str hx
    rw [str_one hc]
    exact .inl ⟨c, z, rfl, sr_str hy, fin_dat hB g (.bl _) hp⟩
  · obtain ⟨es', k, rfl, rfl, hp⟩ := ktD_inv hp
    obtain ⟨a, kvs, rfl, r1, q⟩ := sr_kt hB hy hx
    rw [(rpKt_get r1).2.2] at hp
    exact .inr (.inl ⟨a, _, rfl, q, fin_dat hB g (.bl _) hp⟩)
  · rename_i k es _ _
    obtain ⟨hk, hp⟩ := hp
    obtain ⟨a, kvs, rfl, h1, r1⟩ := sr_dic hB hk.1 hy
    obtain ⟨j, rfl⟩ := hk.key
    cases sr_key hx
    rw [(rpKv_get r1).2.2] at hp
    exact .inr (.inl ⟨a, _, rfl, .inl (DGet.kr h1), fin_dat hB g (.bl _) hp⟩)
  · rename_i i ds
    obtain ⟨ys, hs, hp2⟩ := wopt_inv hp
    obtain rfl := strsOf_eq hs
    obtain ⟨p1, xs, rfl, h1, r1⟩ := sr_lst hB hy
    cases sr_str hx
    rw [strs_of r1] at h1
    exact .inr (.inr ⟨p1, _, rfl, .inl (SqL.of h1), rfl, flat_strs ys, by rw [if_neg Bool.false_ne_true, inV_strs]; exact fin_dat hB g (.bl _) hp2⟩)
  · rename_i i ds
    obtain ⟨ys, hs, hp2⟩ := wopt_inv hp
    obtain rfl := strsOf_eq hs
    obtain ⟨p1, xs, rfl, h1, r1⟩ := sr_tup hB hy
    cases sr_str hx
    rw [strs_of r1] at h1
    exact .inr (.inr ⟨p1, _, rfl, .inr h1, rfl, flat_strs ys, by rw [if_neg Bool.false_ne_true, inV_strs]; exact fin_dat hB g (.bl _) hp2⟩)
  · exact hp.elim
theorem ok_notin : OpOk K (rNotInU K) .dat onotin := fun B H x y d e hB hx hy P hp Q g => by
  unfold onotin at hp
  split at hp
  · obtain ⟨es', k, rfl, rfl, hp⟩ := ktD_inv hp
    obtain ⟨a, kvs, rfl, r1, q⟩ := sr_kt hB hy hx
    rw [(rpKt_get r1).2.2] at hp
    exact .inl ⟨a, _, rfl, q, fin_dat hB g (.bl _) hp⟩
  · rename_i k es _
    obtain ⟨hk, hp⟩ := hp
    obtain ⟨a, kvs, rfl, h1, r1⟩ := sr_dic hB hk.1 hy
    obtain ⟨j, rfl⟩ := hk.key
    cases sr_key hx
    rw [(rpKv_get r1).2.2] at hp
    exact .inl ⟨a, _, rfl, .inl (DGet.kr h1), fin_dat hB g (.bl _) hp⟩
  · rename_i i ds
    obtain ⟨ys, hs, hp2⟩ := wopt_inv hp
    obtain rfl := strsOf_eq hs
    obtain ⟨p1, xs, rfl, h1, r1⟩ := sr_lst hB hy
    cases sr_str hx
    rw [strs_of r1] at h1
    exact .inr ⟨p1, _, rfl, .inl (SqL.of h1), rfl, flat_strs ys, by rw [if_pos rfl, inV_strs]; exact fin_dat hB g (.bl _) hp2⟩
  · rename_i i ds
    obtain ⟨ys, hs, hp2⟩ := wopt_inv hp
    obtain rfl := strsOf_eq hs
    obtain ⟨p1, xs, rfl, h1, r1⟩ := sr_tup hB hy
    cases sr_str hx
    rw [strs_of r1] at h1
    exact .inr ⟨p1, _, rfl, .inr h1, rfl, flat_strs ys, by rw [if_pos rfl, inV_strs]; exact fin_dat hB g (.bl _) hp2⟩
  · exact hp.elim
theorem ok_sl : SlOk K (rSlU K) .dat osl := fun B H x d lo hi hB hx P hp Q g => by
  unfold osl at hp
  split at hp
  · rename_i ds
    obtain ⟨p1, xs, rfl, h1, r1⟩ := sr_lst hB hx
    exact .inl ⟨_, _, rfl, SqL.of h1, fun p hq => fin_new hB g hq (fun B' e1 e2 => .lst e2 ((cut_rp r1 lo hi).mono e1)) hp⟩
  · rename_i ds
    obtain ⟨p1, xs, rfl, h1, r1⟩ := sr_tupS hx
    refine .inr (.inl ⟨p1, xs, rfl, sqT_mono hB h1.sq, fun e => ?_, fun _ p o hq ho => fin_new hB g hq (fun B' e1 e2 => .tup (.inl ⟨o, e2, ho⟩) ((cut_rp r1 lo hi).mono e1)) hp⟩)
    rw [r1.length] at e
    rw [cut_all e] at hp
    exact fin_dat hB g (.tup h1 r1) hp
  · rename_i z
    exact .inr (.inr ⟨z, sr_str hx, hp.1, fin_dat hB g (.str _) hp.2⟩)
  · exact hp.elim
/-- the script, cut -/
def oslScr (d : PyData) (lo hi : Option Int) : W Unit PyData := match d with
  | .dict [(.none, .list ds)] => wpure (.list (cutD ds lo hi))
  | _ => wfail
theorem kD_ne (k : Key) : kD k ≠ .none ∧ ∀ b, kD k ≠ .bool b := by cases k <;> exact ⟨nofun, nofun⟩
theorem ok_slScr : SlOk K (rSlU K) .own oslScr := fun B H x d lo hi hB hx P hp Q g => by
  unfold oslScr at hp
  split at hp
  · rename_i ds
    generalize hd : PyData.dict [(PyData.none, PyData.list ds)] = dd at hx
    have nk : ∀ {kvs : List (Key × V)} {es : List (PyData × PyData)}, RpKv K B kvs es → es ≠ [(PyData.none, PyData.list ds)] := by
      intro kvs es r e
      cases r with
      | nil => cases e
      | cons h t => injection e with e _; injection e with e _; exact (kD_ne _).1 e
    cases hx with
    | rp h =>
      cases h with
      | dic h r => injection hd with hd; exact absurd hd.symm (nk r)
      | dct h r => cases hd
      | obj c h r => cases hd
      | _ => cases hd
    | scr h =>
      unfold scrD at hd
      injection hd with hd
      injection hd with hd _
      injection hd with _ hd
      injection hd with hd
      subst hd
      exact .inl ⟨_, _, rfl, h, fun p hq => g p (.lst _) (.list _) hq (cut_rp (rpAll_ints _) lo hi) hp⟩
    | dic h r => injection hd with hd; exact absurd hd.symm (nk r)
    | lst h r => cases hd
    | dct h r => cases hd
    | obj c h r => cases hd
    | nt h r => cases hd
  · exact hp.elim
end

section
variable {S α : Type} [Res S] {K : PySem.W.Frag} {C : Cf S} {B B' H H' : Hp} {s : S} {A : List Addr} {ρ ρ' : List PS} {σ : L2.St} {v : V} {d : PyData} {p : Addr}
  {te ta tb tc td ty tv : TE} {tt : TT} {t u ts : TS} {w wa wb wc : W S PyData} {k : EK} {i : Nat} {r : RK} {env : α → List PS}
/-- xs[::-1], a new list -/
theorem px_rev (ha : Px K ta .vw ρ w) : Px K (tRevL K ta) .own ρ (wbind w fun d => wlift (orev d)) := fun C B H s A σ hw hl P hp Q q =>
  ha C B H s A σ hw hl _ hp _ fun B1 v1 H1 d1 s1 e1 w1 l1 r1 p1 => by
    cases d1 with
    | list ds =>
      obtain ⟨a, xs, rfl, h1, r2⟩ := sr_lst w1.ex (r1 B1 H1 s1 (Same.r _) w1 l1)
      refine ⟨a, xs, rfl, SqL.of h1, fun p hp => ?_⟩
      have g := Grow.newU (o := .lst xs.reverse) w1.ex hp
      exact q B1 _ _ (.list ds.reverse) s1 (e1.trans g.b) (w1.grow g) (l1.grow w1 g) ⟨p, _, rfl, upd_same, (show RpAll K B1 xs.reverse ds.reverse from r2.rev), w1.freeB hp, w1.al p hp, fun z => (l1.inA p z).1 hp⟩ p1
    | _ => exact (show False from p1).elim

/-! ### own things change -/
def wapp (d : PyData) (w : W S PyData) : W S PyData := match d with
  | .list ds => wbind w fun x => wreq (ds.length < sizeLine) (.list (ds ++ [x]))
  | _ => wfail
/-- the state behind a change of the own thing of slot i -/
theorem own_put {o' : HO} {d d' : PyData} (hw : Hs C B H s) (hl : Sls K C B H A ρ σ) (hi : ρ[i]? = some (.own d)) (hs : σ[i]? = some (some (.ref p))) (ho : OwnOk K B o' d') : Hs C B (upd H p o') s ∧ Sls K C B (upd H p o') A (ρ.set i (.own d')) σ := by
  obtain ⟨p2, o, h1, h2, h3, h4, h5, _⟩ := hl.getO hi
  rw [hs] at h1
  cases h1
  exact ⟨hw.put h4 h5, hl.putO hi hs ho⟩
theorem own_lst {o : HO} {ds : List PyData} (h : OwnOk K B o (.list ds)) : ∃ xs, o = .lst xs ∧ RpAll K B xs ds := by
  unfold OwnOk at h
  split at h <;> first | exact h.elim | (rename_i e; cases e; exact ⟨_, rfl, h⟩) | (rename_i e; cases e)
theorem own_dic {o : HO} {es : List (PyData × PyData)} (hk : isK es) (h : OwnOk K B o (.dict es)) : ∃ kvs, o = .dK kvs ∧ RpKv K B kvs es := by
  unfold OwnOk at h
  split at h
  · rename_i e; cases e
  · rename_i e; cases e; exact ⟨_, rfl, h⟩
  · rename_i e; cases e; exact absurd (hk _ List.mem_cons_self) (by simp [keyD])
  · rename_i e; cases e; exact absurd (hk _ List.mem_cons_self) (by simp [keyD])
  · exact h.elim
/-- xs.append(e) -/
theorem pst_app {kk : PyData → W S (Fl α)} {ρ' : PyData → List PS} (hi : ρ[i]? = some (.own d)) (he : Px K te .dat ρ w) (h : ∀ d', Pst K u r (ρ' d') env (kk d')) (hρ : ∀ d', ρ.set i (.own d') = ρ' d' := by intro _; rfl) :
    Pst K (tSeq (tDrop (tBM K "list" rAppend (tVar i) (tCons te tNil))) u) r ρ env (wbind (wapp d w) kk) := fun C B H s A σ hw hl P hp D nx rt => by
  obtain ⟨p, o, h1, h2, h3, h4, h5, _⟩ := hl.getO hi
  refine ⟨_, h1, ?_⟩
  cases d with
  | list ds =>
    obtain ⟨xs, rfl, h3⟩ := own_lst h3
    refine ⟨.inl ⟨rfl, _, SqL.of h2⟩, he C B H s A σ hw hl _ hp _ fun B1 v1 H1 d1 s1 e1 w1 l1 r1 p1 => ?_⟩
    obtain ⟨p2, o2, g1, g2, g3, g4, g5, _⟩ := l1.getO hi
    rw [h1] at g1
    cases g1
    obtain ⟨ys, rfl, g3⟩ := own_lst g3
    obtain ⟨hz, p1⟩ := p1
    have ho : OwnOk K B1 (.lst (ys ++ [v1])) (.list (ds ++ [d1])) := (show RpAll K B1 _ _ from g3.app (.cons r1 .nil))
    obtain ⟨w2, l2⟩ := own_put w1 l1 hi h1 ho
    rw [hρ] at l2
    exact ⟨p, ys, v1, rfl, rfl, g2, by rw [g3.length]; exact hz, h _ C B1 _ s1 A σ w2 l2 P p1 D (fun B2 H2 s2 A2 σ2 a2 e2 w2 l2 p2 => nx B2 H2 s2 A2 σ2 a2 (e1.trans e2) w2 l2 p2) fun B2 v H2 d s2 e2 w2 r2 p2 => rt B2 v H2 d s2 (e1.trans e2) w2 r2 p2⟩
  | _ => exact (show False from hp).elim
theorem psn_app {kk : PyData → W S α} {ρ' : PyData → List PS} (hi : ρ[i]? = some (.own d)) (he : Px K te .dat ρ w) (h : ∀ d', Psn K u r (ρ' d') env (kk d')) (hρ : ∀ d', ρ.set i (.own d') = ρ' d' := by intro _; rfl) :
    Psn K (tSeq (tDrop (tBM K "list" rAppend (tVar i) (tCons te tNil))) u) r ρ env (wbind (wapp d w) kk) := pst_app (w := w) (kk := fun d => wbind (kk d) wnx) hi he h hρ
/-- d[k] = v -/
theorem putMap_rel {k : Key} {v : V} {d : PyData} (hr : Rp K B v d) : ∀ {kvs : List (Key × V)} {es : List (PyData × PyData)}, RpKv K B kvs es → RpKv K B (kvs.map fun kv => if kv.1 = k then (kv.1, v) else kv) (es.map fun e => if kEq e.1 (kD k) then (e.1, d) else e)
  | _, _, .nil => .nil
  | _, _, .cons (k := j) (v := v') (kvs := kvs) (d := d') (es := es) h t => by
    rw [List.map_cons, List.map_cons, show kEq (kD j, d').1 (kD k) = decide (j = k) from kEq_kD j k]
    by_cases e : j = k
    · rw [if_pos e, if_pos (decide_eq_true e)]
      exact .cons hr (putMap_rel hr t)
    · rw [if_neg e, if_neg (by rw [decide_eq_false e]; exact Bool.false_ne_true)]
      exact .cons h (putMap_rel hr t)
theorem putNew_rel {k : Key} {v : V} {d : PyData} (hr : Rp K B v d) : ∀ {kvs : List (Key × V)} {es : List (PyData × PyData)}, RpKv K B kvs es → RpKv K B (kvs ++ [(k, v)]) (es ++ [(kD k, d)])
  | _, _, .nil => .cons hr .nil
  | _, _, .cons h t => .cons h (putNew_rel hr t)
theorem dPut_rel {k : Key} {v : V} {d : PyData} (hr : Rp K B v d) {kvs : List (Key × V)} {es : List (PyData × PyData)} (h : RpKv K B kvs es) : RpKv K B (putK kvs k v) (dPut es (kD k) d) := by
  unfold putK dPut
  have e1 := (rpKv_get (k := k) h).2.2
  have e2 : ∀ kvs : List (Key × V), (kvs.any fun kv => decide (kv.1 = k)) = (valV kvs k).isSome := by
    intro kvs
    induction kvs with
    | nil => rfl
    | cons p kvs ih =>
      rw [List.any_cons]
      by_cases e : p.1 = k
      · rw [valV_pos e, decide_eq_true e]; rfl
      · rw [valV_neg e, decide_eq_false e, Bool.false_or]; exact ih
  rw [e1, e2]
  split
  · exact putMap_rel hr h
  · exact putNew_rel hr h
def wput (d : PyData) (wv wk : W S PyData) : W S PyData := wbind wv fun v => wbind wk fun k => match d with
  | .dict es => wreq (kOk es k ∧ es.length < sizeLine) (.dict (dPut es k v))
  | _ => wfail
theorem rpKv_len : ∀ {kvs : List (Key × V)} {es : List (PyData × PyData)}, RpKv K B kvs es → kvs.length = es.length
  | _, _, .nil => rfl
  | _, _, .cons _ t => congrArg Nat.succ (rpKv_len t)
theorem pst_put {kk : PyData → W S (Fl α)} {ρ' : PyData → List PS} (hi : ρ[i]? = some (.own d)) (hv : Px K tv .dat ρ wa) (hk : Px K ty .vw ρ wb) (h : ∀ d', Pst K u r (ρ' d') env (kk d')) (hρ : ∀ d', ρ.set i (.own d') = ρ' d' := by intro _; rfl) :
    Pst K (tSeq (sDPut (tVar i) ty tv) u) r ρ env (wbind (wput d wa wb) kk) := fun C B H s A σ hw hl P hp D nx rt =>
  hv C B H s A σ hw hl _ hp _ fun B1 v1 H1 d1 s1 e1 w1 l1 r1 p1 => by
    obtain ⟨p, o, h1, _⟩ := l1.getO hi
    refine ⟨_, h1, hk C B1 H1 s1 A σ w1 l1 _ p1 _ fun B2 v2 H2 d2 s2 e2 w2 l2 r2 p2 => ?_⟩
    cases d with
    | dict es =>
      obtain ⟨⟨hk, hz⟩, p2⟩ := p2
      obtain ⟨p3, o3, g1, g2, g3, g4, g5, _⟩ := l2.getO hi
      rw [h1] at g1
      cases g1
      obtain ⟨kvs, rfl, g3⟩ := own_dic hk.1 g3
      obtain ⟨j, rfl⟩ := hk.key
      cases sr_key (r2 B2 H2 s2 (Same.r _) w2 l2)
      have ho : OwnOk K B2 (.dK (putK kvs j v1)) (.dict (dPut es (kD j) d1)) := (show RpKv K B2 _ _ from dPut_rel (r1.mono e2) g3)
      obtain ⟨w3, l3⟩ := own_put w2 l2 hi h1 ho
      rw [hρ] at l3
      exact ⟨p, _, rfl, DPut.k g2 (by rw [rpKv_len g3]; exact hz), h _ C B2 _ s2 A σ w3 l3 P p2 D (fun B2 H2 s2 A2 σ2 a2 e3 w2 l2 p2 => nx B2 H2 s2 A2 σ2 a2 ((e1.trans e2).trans e3) w2 l2 p2) fun B2 v H2 d s2 e3 w2 r2 p2 => rt B2 v H2 d s2 ((e1.trans e2).trans e3) w2 r2 p2⟩
    | _ => exact (show False from p2).elim
theorem psr_put {kk : PyData → W S PyData} {ρ' : PyData → List PS} (hi : ρ[i]? = some (.own d)) (hv : Px K tv .dat ρ wa) (hk : Px K ty .vw ρ wb) (h : ∀ d', Psr K u r (ρ' d') (kk d')) (hρ : ∀ d', ρ.set i (.own d') = ρ' d' := by intro _; rfl) :
    Psr K (tSeq (sDPut (tVar i) ty tv) u) r ρ (wbind (wput d wa wb) kk) := pst_put (wa := wa) (wb := wb) (kk := fun d => wret (kk d)) hi hv hk h hρ
end
end PL

/-! what is walked; built-ins -/
namespace PL
open PySem PySem.Spec PyProof.Rows L2
/-! what is walked: a list, a tuple or a text -/
def iSeq (K : PySem.W.Frag) (tl : TE) : TI := fun σ H R => tl σ H fun x H1 =>
  (∃ a, x = .ref a ∧ (∃ xs, SqL K H1 a xs) ∧ R (Itl K a) H1) ∨ ((∃ a, x = .ref a ∧ (∃ xs, SqT K H1 a xs) ∧ R (Itt K a) H1) ∨ ∃ z, x = .str z ∧ R (Its z) H1)
theorem pi_seq {X : Cx} {tg l : Expr} {tl : TE} (hl : PE X l tl) : PI X tg l (iSeq X.K tl) := by
  refine ⟨fun pins s σ H R I h => ?_⟩
  refine thn (hl.run pins s σ H _ I h) ?_
  rintro v s1 ⟨x, H1, I1, r1, q1⟩
  have pl : PE X l (fun _ _ Q => Q x H1) → True := fun _ => trivial
  rcases q1 with ⟨a, e, hq, q⟩ | ⟨a, e, hq, q⟩ | ⟨z, e, q⟩
  · subst e
    cases r1
    obtain ⟨xs, hq⟩ := hq
    obtain ⟨its, rv, p, hz⟩ := I1.list hq
    refine wpAny_pyIter_list p.isList ?_
    refine ⟨s1.heap.objs.size, [s1.heap.objs.size], _, _, H1, rfl, I1.kept (t' := s1.toks) fun b o e => Heap.get?_push_of_some _ e, turn_list a _, ⟨_, Heap.get?_push_size _ rfl, rfl, rfl⟩, fun b hb => ?_, q⟩
    obtain rfl : b = s1.heap.objs.size := by simpa using hb
    exact I1.fpOk (Nat.le_refl _) (I1.hok.fresh (Nat.le_refl _))
  · subst e
    cases r1
    obtain ⟨xs, hq⟩ := hq
    obtain ⟨its, rv, p, hz⟩ := I1.tuple hq
    refine wpAny_pyIter_tuple (show s1.heap.IsTuple a its.toArray from p) ?_
    refine ⟨s1.heap.objs.size, [s1.heap.objs.size], _, _, H1, rfl, I1.kept (t' := s1.toks) fun b o e => Heap.get?_push_of_some _ e, turn_tuple a _, ⟨_, Heap.get?_push_size _ rfl, rfl, rfl⟩, fun b hb => ?_, q⟩
    obtain rfl : b = s1.heap.objs.size := by simpa using hb
    exact I1.fpOk (Nat.le_refl _) (I1.hok.fresh (Nat.le_refl _))
  · subst e
    obtain ⟨t, rfl⟩ := r1
    cases ha : z.cps.all (· < 128)
    · exact wpAny_pyIter_wide ha (pi_one (tk := s1.toks) I1 _ (turn_str _ z t "str_iterator" (.inr rfl)) ⟨_, Heap.get?_push_size _ rfl, rfl, rfl⟩ q)
    · exact wpAny_pyIter_ascii ha (pi_one (tk := s1.toks) I1 _ (turn_str _ z t "str_ascii_iterator" (.inl rfl)) ⟨_, Heap.get?_push_size _ rfl, rfl, rfl⟩ q)


def chars (z : Str) : List PyData := z.cps.toList.map fun c => .str ⟨#[c]⟩
def rangeD (lo : Int) (n : Nat) : List PyData := (List.range n).map fun i : Nat => .int (lo + (i : Int))
def zipD (xs ys : List PyData) : List PyData := List.zipWith (fun x y => .tuple [x, y]) xs ys
def wseq : PyData → W Unit (List PyData)
  | .list ds => wpure ds
  | .tuple ds => wpure ds
  | .str z => wpure (chars z)
  | _ => wfail
def wrange1 : List PyData → W Unit (List PyData)
  | [.int n] => wreq (-(2 ^ 62) ≤ n ∧ n < 2 ^ 62) (rangeD 0 n.toNat)
  | _ => wfail
def wzip : List PyData → W Unit (List PyData)
  | [.list a, .list b] => wpure (zipD a b)
  | [.tuple a, .tuple b] => wpure (zipD a b)
  | _ => wfail
section
variable {S α : Type} [Res S] {K : PySem.W.Frag} {C : Cf S} {B B' H H' : Hp} {s : S} {A : List Addr} {ρ ρ' : List PS} {σ : L2.St} {v : V} {d : PyData} {p : Addr} {te : TE} {t : TA} {w : W S PyData} {ws : List (W S PyData)}
/-- by what is frozen -/
theorem it_lst {a : Addr} {xs : List V} {ds : List PyData} (hx : ∀ B2 H2 s2, Same B B2 → Hs C B2 H2 s2 → SqL K H2 a xs) (rx : RpAll K B xs ds) : ItOk K C B false (Itl K a) ds := by
  intro B2 H2 s2 e2 w2 i
  have hs : SqL K H2 a xs := hx B2 H2 s2 e2 w2
  refine ⟨fun hn => ⟨xs, hs, by rw [rx.length]; exact hn⟩, fun d hd => ?_⟩
  obtain ⟨v, h1, h2⟩ := rx.get hd
  refine ⟨⟨xs, v, hs, h1⟩, ?_⟩
  rintro x H3 ⟨rfl, hy⟩
  have := hy xs hs
  rw [h1] at this
  cases this
  exact ⟨B2, Grow.refl w2.ex, h2.mono e2⟩
theorem it_tup {a : Addr} {xs : List V} {ds : List PyData} (hx : ∀ B2 H2 s2, Same B B2 → Hs C B2 H2 s2 → SqT K H2 a xs) (rx : RpAll K B xs ds) : ItOk K C B false (Itt K a) ds := by
  intro B2 H2 s2 e2 w2 i
  have hs : SqT K H2 a xs := hx B2 H2 s2 e2 w2
  refine ⟨fun hn => ⟨xs, hs, by rw [rx.length]; exact hn⟩, fun d hd => ?_⟩
  obtain ⟨v, h1, h2⟩ := rx.get hd
  refine ⟨⟨xs, v, hs, h1⟩, ?_⟩
  rintro x H3 ⟨rfl, hy⟩
  have := hy xs hs
  rw [h1] at this
  cases this
  exact ⟨B2, Grow.refl w2.ex, h2.mono e2⟩
/-- a thing that stays readable: frozen, or looked at -/
def Sv (K : PySem.W.Frag) (C : Cf S) (B : Hp) (v : V) (d : PyData) : Prop := SR K B (Gh C B) v d
def Pf (K : PySem.W.Frag) (te : TE) (ρ : List PS) (w : W S PyData) : Prop :=
  ∀ (C : Cf S) B H s A σ, Hs C B H s → Sls K C B H A ρ σ → ∀ P, w s P → ∀ Q : VK,
    (∀ B' v H' d s', Same B B' → Hs C B' H' s' → Sls K C B' H' A ρ σ → Sv K C B' v d → P d s' → Q v H') → te σ H Q
theorem pf_dat (h : Px K te .dat ρ w) : Pf K te ρ w := fun C B H s A σ hw hl P hp Q q =>
  h C B H s A σ hw hl P hp Q fun B' v H' d s' e w' l' r p' => q B' v H' d s' e w' l' (.rp r) p'
theorem lst_at {v : V} {ds : List PyData} (hw : Hs C B H s) (h : Sv K C B v (.list ds)) : ∃ a xs, v = .ref a ∧ RpAll K B xs ds ∧ ∀ B2 H2 s2, Same B B2 → Hs C B2 H2 s2 → H2 a = some (.lst xs) := by
  generalize hd : PyData.list ds = d at h
  cases h with
  | rp h =>
    cases h with
    | lst h r => cases hd; exact ⟨_, _, rfl, r, fun B2 H2 s2 e2 w2 => w2.ex _ _ (e2 _ _ h)⟩
    | _ => cases hd
  | lst h r => cases hd; exact ⟨_, _, rfl, r, fun B2 H2 s2 e2 w2 => w2.gh _ _ (hw.gh2 e2 w2.nb _ _ h)⟩
  | scr h => cases hd
  | dic h r => cases hd
  | dct h r => cases hd
  | obj c h r => cases hd
  | nt h r => cases hd
theorem tup_at {v : V} {ds : List PyData} (h : Sv K C B v (.tuple ds)) : ∃ a xs, v = .ref a ∧ RpAll K B xs ds ∧ ∀ B2 H2 s2, Same B B2 → Hs C B2 H2 s2 → SqT K H2 a xs := by
  obtain ⟨a, xs, e, h1, h2⟩ := sr_tupS h
  exact ⟨a, xs, e, h2, fun B2 H2 s2 e2 w2 => sqT_mono w2.ex (sqT_mono e2 h1.sq)⟩
theorem pi_sq (h : Pf K te ρ w) : Pi K (iSeq K te) false ρ (wbind w fun d => wlift (wseq d)) := fun C B H s A σ hw hl P hp R q =>
  h C B H s A σ hw hl _ hp _ fun B1 v1 H1 d1 s1 e1 w1 l1 r1 p1 => by
    cases d1 with
    | list ds =>
      obtain ⟨a, xs, rfl, r, hx⟩ := lst_at w1 r1
      exact .inl ⟨a, rfl, ⟨xs, SqL.of (hx B1 H1 s1 (Same.r _) w1)⟩, q B1 _ H1 ds s1 e1 w1 l1 (it_lst (fun B2 H2 s2 e2 w2 => SqL.of (hx B2 H2 s2 e2 w2)) r) p1⟩
    | tuple ds =>
      obtain ⟨a, xs, rfl, r, hx⟩ := tup_at r1
      exact .inr (.inl ⟨a, rfl, ⟨xs, hx B1 H1 s1 (Same.r _) w1⟩, q B1 _ H1 ds s1 e1 w1 l1 (it_tup hx r) p1⟩)
    | str z =>
      cases sr_str (show SR K B1 (Gh C B1) v1 (.str z) from r1)
      refine .inr (.inr ⟨z, rfl, q B1 _ H1 _ s1 e1 w1 l1 ?_ p1⟩)
      intro B2 H2 s2 e2 w2 i
      refine ⟨fun hn => by unfold chars at hn; rw [List.length_map, Array.length_toList] at hn; exact hn, fun d hd => ?_⟩
      unfold chars at hd
      rw [List.getElem?_map] at hd
      cases ec : z.cps.toList[i]? with
      | none => rw [ec] at hd; cases hd
      | some c =>
        rw [ec] at hd
        obtain rfl : PyData.str ⟨#[c]⟩ = d := Option.some.inj hd
        have ec' : z.cps[i]? = some c := by rw [← Array.getElem?_toList]; exact ec
        refine ⟨(Array.getElem?_eq_some_iff.mp ec').1, ?_⟩
        rintro x H3 ⟨rfl, c', hc', rfl⟩
        rw [ec'] at hc'
        cases hc'
        exact ⟨B2, Grow.refl w2.ex, .str _⟩
    | _ => exact (show False from p1).elim
theorem itr_ok {lo : Int} {n : Nat} : ItOk K C B false (Itr lo n) (rangeD lo n) := by
  intro B2 H2 s2 e2 w2 i
  refine ⟨fun hn => by unfold rangeD at hn; rw [List.length_map, List.length_range] at hn; exact hn, fun d hd => ?_⟩
  unfold rangeD at hd
  rw [List.getElem?_map] at hd
  by_cases hi : i < n
  · rw [List.getElem?_range hi] at hd
    obtain rfl : PyData.int (lo + (i : Int)) = d := Option.some.inj hd
    refine ⟨hi, ?_⟩
    rintro x H3 ⟨rfl, rfl⟩
    exact ⟨B2, Grow.refl w2.ex, .int _⟩
  · rw [List.getElem?_eq_none (by rw [List.length_range]; omega)] at hd
    cases hd
theorem ers1 {k : EK} (h : ERs K C B H A ρ σ [k] vs ds) : ∃ v d, vs = [v] ∧ ds = [d] ∧ ER K C B H A ρ σ k v d := by
  obtain ⟨h1, h2⟩ := h.len
  match vs, ds, h1, h2, h with
  | [v], [d], _, _, h => exact ⟨v, d, rfl, rfl, h.1⟩
theorem ers2 {k k2 : EK} (h : ERs K C B H A ρ σ [k, k2] vs ds) : ∃ v d v2 d2, vs = [v, v2] ∧ ds = [d, d2] ∧ ER K C B H A ρ σ k v d ∧ ER K C B H A ρ σ k2 v2 d2 := by
  obtain ⟨h1, h2⟩ := h.len
  match vs, ds, h1, h2, h with
  | [v, v2], [d, d2], _, _, h => exact ⟨v, d, v2, d2, rfl, rfl, h.1, h.2.1⟩
theorem pi_rng1 (h : Pm K t [.dat] ρ (wl ws)) : Pi K (iRng1 t) false ρ (wbind (wl ws) fun as => wlift (wrange1 as)) := fun C B H s A σ hw hl P hp R q =>
  h C B H s A σ hw hl _ hp _ fun B1 vs H1 ds s1 e1 w1 l1 r1 p1 => by
    obtain ⟨v, d, rfl, rfl, r⟩ := ers1 r1
    cases d with
    | int n => cases (show Rp K B1 v (.int n) from r); exact ⟨n, rfl, p1.1.1, p1.1.2, q B1 _ H1 _ s1 e1 w1 l1 itr_ok p1.2⟩
    | _ => exact (show False from p1).elim
theorem pi_zip' (h : Pm K t [.dat, .dat] ρ (wl ws)) : Pi K (RZ.iZipA K t) true ρ (wbind (wl ws) fun as => wlift (wzip as)) := fun C B H s A σ hw hl P hp R q =>
  h C B H s A σ hw hl _ hp _ fun B1 vs H1 ds s1 e1 w1 l1 r1 p1 => by
    obtain ⟨v, d, v2, d2, rfl, rfl, r, r2⟩ := ers2 r1
    have zl : ∀ {a b : List PyData} {i : Nat} {dd : PyData}, (zipD a b)[i]? = some dd → ∃ x y, a[i]? = some x ∧ b[i]? = some y ∧ dd = .tuple [x, y] := by
      intro a b i dd hd
      unfold zipD at hd
      rw [List.getElem?_zipWith] at hd
      cases e3 : a[i]? with
      | none => rw [e3] at hd; simp at hd
      | some x =>
        cases e4 : b[i]? with
        | none => rw [e3, e4] at hd; simp at hd
        | some y => rw [e3, e4] at hd; exact ⟨x, y, rfl, rfl, by simpa using hd.symm⟩
    have zn : ∀ {a b : List PyData} {i : Nat}, (zipD a b).length ≤ i → a.length ≤ i ∨ b.length ≤ i := by
      intro a b i hn
      unfold zipD at hn
      rw [List.length_zipWith] at hn
      omega
    cases d with
    | list a =>
      cases d2 with
      | list b =>
        cases (show Rp K B1 v (.list a) from r) with
        | lst h1 ra =>
          cases (show Rp K B1 v2 (.list b) from r2) with
          | lst h2 rb =>
            rename_i p1' xs p2' ys
            refine ⟨_, _, xs, ys, rfl, .inl ⟨SqL.of (w1.ex _ _ h1), SqL.of (w1.ex _ _ h2), q B1 _ H1 _ s1 e1 w1 l1 ?_ p1⟩⟩
            intro B2 H2 s2 e2 w2 i
            have g1 : SqL K H2 p1' xs := SqL.of (w2.ex _ _ (e2 _ _ h1))
            have g2 : SqL K H2 p2' ys := SqL.of (w2.ex _ _ (e2 _ _ h2))
            refine ⟨fun hn => ⟨xs, ys, g1, g2, by rw [ra.length, rb.length]; exact zn hn⟩, fun dd hd => ?_⟩
            obtain ⟨x, y, e3, e4, rfl⟩ := zl hd
            obtain ⟨u1, a1, b1⟩ := ra.get e3
            obtain ⟨u2, a2, b2⟩ := rb.get e4
            refine ⟨⟨xs, ys, u1, u2, g1, g2, a1, a2⟩, ?_⟩
            rintro x H3 ⟨T, x1, x2, rfl, nT, rfl, f1, f2⟩
            have k1 := f1 _ g1
            have k2 := f2 _ g2
            rw [a1] at k1; rw [a2] at k2
            cases k1; cases k2
            have gr := Grow.new (o := .tup [u1, u2]) w2.ex nT
            exact ⟨_, gr, .inr ⟨T, _, _, rfl, rfl, SqT.of upd_same, .cons (b1.mono (e2.trans gr.b)) (.cons (b2.mono (e2.trans gr.b)) .nil)⟩⟩
      | _ => exact (show False from p1).elim
    | tuple a =>
      cases d2 with
      | tuple b =>
        cases (show Rp K B1 v (.tuple a) from r) with
        | tup h1 ra =>
          cases (show Rp K B1 v2 (.tuple b) from r2) with
          | tup h2 rb =>
            rename_i p1' xs p2' ys
            refine ⟨_, _, xs, ys, rfl, .inr ⟨sqT_mono w1.ex h1.sq, sqT_mono w1.ex h2.sq, q B1 _ H1 _ s1 e1 w1 l1 ?_ p1⟩⟩
            intro B2 H2 s2 e2 w2 i
            have g1 : SqT K H2 p1' xs := sqT_mono w2.ex (sqT_mono e2 h1.sq)
            have g2 : SqT K H2 p2' ys := sqT_mono w2.ex (sqT_mono e2 h2.sq)
            refine ⟨fun hn => ⟨xs, ys, g1, g2, by rw [ra.length, rb.length]; exact zn hn⟩, fun dd hd => ?_⟩
            obtain ⟨x, y, e3, e4, rfl⟩ := zl hd
            obtain ⟨u1, a1, b1⟩ := ra.get e3
            obtain ⟨u2, a2, b2⟩ := rb.get e4
            refine ⟨⟨xs, ys, u1, u2, g1, g2, a1, a2⟩, ?_⟩
            rintro x H3 ⟨T, x1, x2, rfl, nT, rfl, f1, f2⟩
            have k1 := f1 _ g1
            have k2 := f2 _ g2
            rw [a1] at k1; rw [a2] at k2
            cases k1; cases k2
            have gr := Grow.new (o := .tup [u1, u2]) w2.ex nT
            exact ⟨_, gr, .inr ⟨T, _, _, rfl, rfl, SqT.of upd_same, .cons (b1.mono (e2.trans gr.b)) (.cons (b2.mono (e2.trans gr.b)) .nil)⟩⟩
      | _ => exact (show False from p1).elim
    | _ => exact (show False from p1).elim
end
end PL

/-! built-ins -/
namespace PL
open PySem PySem.Spec PyProof.Rows L2
/-! ### repr of data -/
mutual
/-- no instances, no dict whose keys are tuples -/
def plainD : PyData → Bool
  | .none | .bool _ | .int _ | .str _ => true
  | .list xs => plainAll xs
  | .tuple xs => plainAll xs
  | .dict kvs => plainKv kvs
def plainAll : List PyData → Bool
  | [] => true
  | x :: xs => plainD x && plainAll xs
def plainKv : List (PyData × PyData) → Bool
  | [] => true
  | (k, v) :: r => (keyD k).isSome && plainD v && plainKv r
end
theorem SysD.list {h : Heap} (hS : SysD h) {a : Addr} {o : Obj} {its : Array Value} {n : Nat} (e : h.get? a = some o) (d : o.data = .seq its n) : a ≠ sysModules := fun z => by
  obtain ⟨⟨mm, o', es, ep, e', d', _⟩, _⟩ := hS
  rw [z, e'] at e
  cases e
  rw [d'] at d
  cases d
section
variable {X : Cx} {pins : List (Addr × Obj)} {σ : L2.St} {H : Hp} {s : Shared}
mutual
theorem Rp.reads (I : Inv X pins σ H s) (hS : SysD s.heap) : ∀ (d : PyData) (v : V) (u : Value), plainD d = true → Rp X.K H v d → RelV v u → ∃ as, Reads s.heap u d as ∧ sysModules ∉ as
  | .none, _, _, pl, h, r => by cases h; cases r; exact ⟨_, Reads.none, fun h => by cases h⟩
  | .bool b, _, _, pl, h, r => by cases h; cases r; exact ⟨_, Reads.bool b, fun h => by cases h⟩
  | .int i, _, _, pl, h, r => by cases h; obtain ⟨t, rfl⟩ := r; exact ⟨_, Reads.int i t, fun h => by cases h⟩
  | .str x, _, _, pl, h, r => by cases h; obtain ⟨t, rfl⟩ := r; exact ⟨_, Reads.str x t, fun h => by cases h⟩
  | .list ds, _, _, pl, h, r => by
    cases h with
    | lst hs ha =>
      cases r
      obtain ⟨its, rv, ⟨o, n, ho, hc, _, hd⟩, _⟩ := I.list (SqL.of hs)
      obtain ⟨as, hr, hn⟩ := Rp.readsAll I hS ds _ its (by simpa only [plainD] using pl) ha rv
      refine ⟨_, Reads.list ho hc hd hr, fun hm => ?_⟩
      rcases List.mem_cons.mp hm with e | hm
      · exact hS.list ho hd e.symm
      · exact hn hm
  | .tuple ds, _, _, pl, h, r => by
    cases h with
    | tup hs ha =>
      cases r
      obtain ⟨its, rv, ⟨o, ho, hc, n, hd⟩, _⟩ := I.tuple hs.sq
      obtain ⟨as, hr, hn⟩ := Rp.readsAll I hS ds _ its (by simpa only [plainD] using pl) ha rv
      exact ⟨_, Reads.tuple ho hc hd hr, hn⟩
  | .dict es, _, _, pl, h, r => by
    cases h with
    | dic hs ha =>
      cases r
      obtain ⟨_, hsys, vs, kv, o, des, ep, ho, hex, hd, hk, hp, _⟩ := dk_rd I.hok hs
      obtain ⟨as, bs, r1, r2, n1, n2⟩ := Rp.readsKv I hS es _ vs des.toList (by simpa only [plainD] using pl) ha kv hp
      refine ⟨_, Reads.dict ho hex.1 hd r1 r2, fun hm => ?_⟩
      rcases List.mem_cons.mp (by simpa only [List.cons_append] using hm) with e | hm
      · rw [← e] at hsys
        simp at hsys
      · rcases List.mem_append.mp hm with hm | hm
        · exact n1 hm
        · exact n2 hm
    | dct hs ha => simp [plainD, plainKv, keyD] at pl
    | obj c hs ha => simp [plainD, plainKv, keyD] at pl
    | fn c => simp [plainD, plainKv, keyD] at pl
theorem Rp.readsAll (I : Inv X pins σ H s) (hS : SysD s.heap) : ∀ (ds : List PyData) (vs : List V) (us : List Value), plainAll ds = true → RpAll X.K H vs ds → Vals vs us → ∃ as, ReadsAll s.heap us ds as ∧ sysModules ∉ as
  | [], _, _, _, h, r => by cases h; cases r; exact ⟨_, ReadsAll.nil, fun h => by cases h⟩
  | d :: ds, _, _, pl, h, r => by
    have pl : plainD d = true ∧ plainAll ds = true := by simpa only [plainAll, Bool.and_eq_true] using pl
    cases h with
    | cons h1 h2 =>
      cases r with
      | cons r1 r2 =>
        obtain ⟨as, q1, n1⟩ := Rp.reads I hS d _ _ pl.1 h1 r1
        obtain ⟨bs, q2, n2⟩ := Rp.readsAll I hS ds _ _ pl.2 h2 r2
        refine ⟨_, ReadsAll.cons q1 q2, fun hm => ?_⟩
        rcases List.mem_append.mp hm with hm | hm
        · exact n1 hm
        · exact n2 hm
theorem Rp.readsKv (I : Inv X pins σ H s) (hS : SysD s.heap) : ∀ (es : List (PyData × PyData)) (kvs : List (Key × V)) (vs : List (Key × Value)) (des : List DictEntry), plainKv es = true → RpKv X.K H kvs es → KV kvs vs → Pairs (mixKind X.prog X.w) des vs →
    ∃ as bs, ReadsAll s.heap (des.map (·.key)) (es.map (·.1)) as ∧ ReadsAll s.heap (des.map (·.val)) (es.map (·.2)) bs ∧ sysModules ∉ as ∧ sysModules ∉ bs
  | [], _, _, _, _, h, r, p => by
    cases h
    cases r
    cases p
    exact ⟨_, _, ReadsAll.nil, ReadsAll.nil, (fun h => by cases h), fun h => by cases h⟩
  | (k, d) :: es, _, _, _, pl, h, r, p => by
    have pl : ((keyD k).isSome = true ∧ plainD d = true) ∧ plainKv es = true := by simpa only [plainKv, Bool.and_eq_true] using pl
    cases h with
    | @cons key v kvs _ _ h1 h2 =>
      cases r with
      | @cons _ q _ vs2 r1 r2 =>
        cases p with
        | @cons de _ des2 _ p0 p1 p2 =>
          obtain ⟨as, bs, a1, a2, n1, n2⟩ := Rp.readsKv I hS es _ _ _ pl.2 h2 r2 p2
          obtain ⟨q1, q2⟩ := q
          obtain ⟨re, r1⟩ := r1
          have re : key = q1 := re
          subst re
          have p1 : de.val = q2 := p1
          obtain ⟨cs, c1, c2⟩ := Rp.reads I hS d _ _ pl.1.2 h1 r1
          have hk : ∃ t, Reads s.heap de.key (kD key) t ∧ t = [] := by
            rcases keyIs_shape (show keyIs key de.key = true from p0) with ⟨i, t, e1, e2⟩ | ⟨x, t, e1, e2⟩
            · rw [e1, e2]; exact ⟨_, Reads.int i t, rfl⟩
            · rw [e1, e2]; exact ⟨_, Reads.str x t, rfl⟩
          obtain ⟨t, ht, et⟩ := hk
          subst et
          rw [← p1] at c1
          refine ⟨_, _, ReadsAll.cons ht a1, ReadsAll.cons c1 a2, n1, fun hm => ?_⟩
          rcases List.mem_append.mp hm with hm | hm
          · exact c2 hm
          · exact n2 hm
end
/-- repr of a datum -/
theorem call_reprD (hS : SysD X.base) (hg : X.A.guards = some []) (hu : X.A.units + 64 < cLine) : CallR X (.builtin "repr") (fun xs H Q => ∃ v d, xs = [v] ∧ Rp X.K H v d ∧ plainD d = true ∧ d.showable = true ∧ d.shown.length ≤ sizeLine ∧ d.depth ≤ 60 ∧ Q (.str d.shown) H) := by
  intro pins s σ H xs us Q I r h
  obtain ⟨v, d, rfl, hr, pl, hs, hz, hd, q⟩ := h
  obtain ⟨u, rfl, ru⟩ := vals1 r
  have hS2 : SysD s.heap := hS.keeps I.bk
  obtain ⟨as, rd, hn⟩ := Rp.reads I hS2 d v u pl hr ru
  have hsm : d.hasDict = true → sysModules ∉ as := fun _ => hn
  cases hr with
  | non => cases ru; exact PySem.P.repr_of_none ⟨.str _, H, I.tok _, ⟨_, rfl⟩, by simpa only [PyData.shown] using q⟩
  | bl b => cases ru; exact PySem.P.repr_of_bool ⟨.str _, H, I.tok _, ⟨_, rfl⟩, by simpa only [PyData.shown] using q⟩
  | int i =>
    obtain ⟨t, rfl⟩ := ru
    exact PySem.P.repr_of_int (by simpa [PyData.showable] using hs) ⟨.str _, H, I.tok _, ⟨_, rfl⟩, by simpa only [PyData.shown] using q⟩
  | str x =>
    obtain ⟨t, rfl⟩ := ru
    exact PySem.P.repr_of_str ⟨.str _, H, I.tok _, ⟨_, rfl⟩, by simpa only [PyData.shown] using q⟩ (by simpa only [PyData.shown] using hz)
  | lst a b =>
    cases ru
    exact repr_of_reads' rd hs hsm hg (by omega) (fun _ _ e => e) (fun h' u tk hk => ⟨.str _, H, I.kept hk, ⟨_, rfl⟩, q⟩) hz
  | tup a b =>
    cases ru
    exact repr_of_reads' rd hs hsm hg (by omega) (fun _ _ e => e) (fun h' u tk hk => ⟨.str _, H, I.kept hk, ⟨_, rfl⟩, q⟩) hz
  | dic a b =>
    cases ru
    exact repr_of_reads' rd hs hsm hg (by omega) (fun _ _ e => e) (fun h' u tk hk => ⟨.str _, H, I.kept hk, ⟨_, rfl⟩, q⟩) hz
  | dct a b => simp [plainD, plainKv, keyD] at pl
  | obj c a b => simp [plainD, plainKv, keyD] at pl
  | fn c => simp [plainD, plainKv, keyD] at pl
end

section
variable {X : Cx} {K : PySem.W.Frag}
def rTupZ (K : PySem.W.Frag) : List V → Hp → VK → Prop := fun xs H Q => ∃ p ys, xs = [.ref p] ∧ SqL K H p ys ∧ ∀ l o, H l = none → o.dict = none → Q (.ref l) (upd H l (.frz o (.tup ys)))
theorem call_tupleZ (hK : X.K = K) : CallR X (.type "tuple") (rTupZ K) := by
  subst hK
  intro pins s σ H xs us Q I r h
  obtain ⟨p, ys, rfl, hq, q⟩ := h
  obtain ⟨u, rfl, rx⟩ := vals1 r
  cases rx
  obtain ⟨its, r', pl, hz⟩ := I.list hq
  have hlen := r'.length
  refine call_tuple_list pl.isList (fun h' kp => ?_) (by simp only [List.size_toArray] <;> omega)
  have J1 : Inv X pins σ H { s with heap := h' } := I.kept (t' := s.toks) kp
  have J2 : Inv X pins σ (upd H h'.objs.size (.frz { cls := .type "tuple", data := .seq its.toArray } (.tup ys))) { s with heap := h'.push { cls := .type "tuple", data := .seq its.toArray } } :=
    J1.laid (t' := s.toks) (fun b o e => Heap.get?_push_of_some _ e) (Nat.le_refl _) (show ObjOk X.prog X.w _ _ _ (.frz { cls := .type "tuple", data := .seq its.toArray } (.tup ys)) from ⟨Heap.get?_push_size _ rfl, hz, its, r', IsTup.new _ _⟩)
  exact ⟨.ref h'.objs.size, _, J2, rfl, q _ _ (J1.hok.fresh (Nat.le_refl _)) rfl⟩

def rReprD (K : PySem.W.Frag) : List V → Hp → VK → Prop := fun xs H Q => ∃ v d, xs = [v] ∧ Rp K H v d ∧ plainD d = true ∧ d.showable = true ∧ d.shown.length ≤ sizeLine ∧ d.depth ≤ 60 ∧ Q (.str d.shown) H
def rLenU (K : PySem.W.Frag) : List V → Hp → VK → Prop := fun xs H Q => (∃ x n, xs = [x] ∧ LenV K x H n ∧ Q (.int n) H) ∨ ((∃ a kvs, xs = [V.ref a] ∧ Rd H a (.dK kvs) ∧ Q (.int kvs.length) H) ∨ ∃ (a : Addr) (kvs : List (List Key × V)), xs = [V.ref a] ∧ Rd H a (.dT kvs) ∧ Q (.int ((kvs.length : Nat) : Int)) H)
def rAbsD : List V → Hp → VK → Prop := fun xs H Q => ∃ i, xs = [.int i] ∧ Q (.int (if i < 0 then -i else i)) H
def rIntD : List V → Hp → VK → Prop := fun xs H Q => ((∃ i, xs = [.int i] ∧ Q (.int i) H) ∨ ∃ k, xs = [.bl k] ∧ Q (.int (if k then 1 else 0)) H) ∨ ∃ (a : Str) (n : Int), xs = [.str a] ∧ PySem.intText? a = some n ∧ a.length ≤ 4300 ∧ Q (.int n) H
def rListS : List V → Hp → VK → Prop := fun xs H Q => ∃ z : Str, xs = [.str z] ∧ z.length ≤ sizeLine ∧ ∀ p, H p = none → Q (.ref p) (upd H p (.lst (z.cps.toList.map fun c => V.str ⟨#[c]⟩)))
def rListU (K : PySem.W.Frag) : List V → Hp → VK → Prop := fun xs H Q => (∃ p ys, xs = [.ref p] ∧ (SqL K H p ys ∨ SqT K H p ys) ∧ ∀ l, H l = none → Q (.ref l) (upd H l (.lst ys))) ∨ ((∃ (a : Addr) (kvs : List (Key × V)), xs = [.ref a] ∧ Rd H a (.dK kvs) ∧ ∀ p, H p = none → Q (.ref p) (upd H p (.lst (kvs.map fun kv => kV kv.1)))) ∨ rListS xs H Q)
def rTupU (K : PySem.W.Frag) : List V → Hp → VK → Prop := fun xs H Q => rTupZ K xs H Q ∨ ∃ a ys, xs = [.ref a] ∧ SqT K H a ys ∧ Q (.ref a) H
/-! int(text) of up to 4300 digits -/
open PySem.Calls PySem.NumText PySem.W in
theorem wp_textL {M : Model} {A : Around} {E : Value → Shared → Prop} {s : Shared} {Q : Value → Shared → Prop} {v : Value} {text : List Nat} {n : Int}
    (hs : ¬ (text.takeWhile (· != 0)).length ≤ 640) (hn : s.heap.NoDigits) (hr : (int_private% "readNumeral") 4300 10 (text.takeWhile (· != 0)) = (int_private% "Numeral.value") n)
    (ha : ((text.takeWhile (· != 0)).length == text.length) = true) (h : Q (.int n s.toks) { s with toks := s.toks + 1 }) :
    wpAny M A ((int_private% "intFromText") v text 10) Q E s := by
  obtain ⟨mc, hns, hnone⟩ := hn
  obtain ⟨hp, g, d, tk, os⟩ := s
  have lim : ∀ (Q' : Nat → Shared → Prop), Q' 4300 ⟨hp, g, d, tk, os⟩ → wpAny M A Builtin.intMaxStrDigits Q' E ⟨hp, g, d, tk, os⟩ := fun Q' hq => by
    unfold Builtin.intMaxStrDigits
    refine wpAny_bind (wpAny_nsGet hns ?_)
    rw [hnone]
    exact wpAny_pure hq
  repeat (any_goals (first
    | assumption
    | (with_reducible refine wpAny_ite_false (decide_eq_false hs) ?_)
    | (with_reducible refine wpAny_ite_true (decide_eq_true ha) ?_)
    | (with_reducible refine lim _ ?_)
    | wp_step))
  all_goals (try rw [hr])
  all_goals (try dsimp only)
  repeat (any_goals (first
    | assumption
    | (with_reducible refine wpAny_ite_true (decide_eq_true ha) ?_)
    | wp_step))
open PySem.Calls PySem.NumText PySem.W in
theorem gives_textL {x : PySem.Str} {u : Tok} {n : Int} (hl : x.length ≤ sizeLine) (hn : PySem.intText? x = some n) :
    Meets (Builtin.«int.__new__» ⟨[.type "int", .str x u], []⟩) (fun A R s => s.heap.NoDigits ∧ (Made.int n).post (fun v s' => R (.ok (.ret v)) s') s) := by
  by_cases h640 : x.length ≤ 640
  · exact Meets.of_imp (KIN.gives_text h640 hn).meets fun A R s h => h.2
  by_cases hsn : (numSeenOf x).length ≤ 640
  · intro prog w A R s ⟨hd, h⟩
    have f1 := F.conv_sub_int
    have f2 := F.madeHere_int
    have f3 := KIN.str_int
    have f4 := KIN.str_idx
    have f5 := KIN.str_trunc
    have f6 : typeOf (.str x u) = pure (.type "str") := rfl
    have hr : (int_private% "readNumeral") 0 10 (numSeenOf x) = (int_private% "Numeral.value") n ∧ ((numSeenOf x).length == (numTextOf x).length) = true := by
      rcases read0 x hsn with ⟨m, h1, h2, h3⟩ | ⟨h1, _⟩
      · rw [hn] at h1
        injection h1 with h1
        subst h1
        exact ⟨h3, h2⟩
      · rw [hn] at h1
        cases h1
    have hk := KIN.Hid.mk (And.intro hsn hr)
    clear hsn hr hl hn h640 hd
    obtain ⟨hp, g, d, tk, os⟩ := s
    repeat (any_goals (first
      | assumption
      | ((with_reducible show wpAny _ _ ((int_private% "intFromText") _ _ _) _ _ _); refine KIN.wp_text hk.out.1 hk.out.2.1 hk.out.2.2 ?_)
      | wp_step))
    all_goals first | exact h | skip
  intro prog w A R s ⟨hd, h⟩
  have f1 := F.conv_sub_int
  have f2 := F.madeHere_int
  have f3 := KIN.str_int
  have f4 := KIN.str_idx
  have f5 := KIN.str_trunc
  have f6 : typeOf (.str x u) = pure (.type "str") := rfl
  have hr : (int_private% "readNumeral") 4300 10 (numSeenOf x) = (int_private% "Numeral.value") n ∧ ((numSeenOf x).length == (numTextOf x).length) = true := by
    rcases read4300 x hl with ⟨m, h1, h2, h3⟩ | ⟨h1, _⟩
    · rw [hn] at h1
      injection h1 with h1
      subst h1
      exact ⟨h3, h2⟩
    · rw [hn] at h1
      cases h1
  have hk := KIN.Hid.mk (And.intro hsn (And.intro hr hd))
  clear hsn hr hl hn h640
  obtain ⟨hp, g, d, tk, os⟩ := s
  repeat (any_goals (first
    | assumption
    | ((with_reducible show wpAny _ _ ((int_private% "intFromText") _ _ _) _ _ _); refine wp_textL hk.out.1 hk.out.2.2 hk.out.2.1.1 hk.out.2.1.2 ?_)
    | wp_step))
  all_goals first | exact h | skip
theorem call_int_strL {X : Cx} (hS : SysD X.base) : CallR X (.type "int") (fun xs H Q => ∃ (a : Str) (n : Int), xs = [.str a] ∧ PySem.intText? a = some n ∧ a.length ≤ 4300 ∧ Q (.int n) H) := by
  intro pins s σ H xs us Q I rs h
  obtain ⟨a, n, rfl, hn, hl, h⟩ := h
  cases rs with
  | cons r1 rs =>
    cases rs
    obtain ⟨t, rfl⟩ := r1
    exact PySem.call_int_1 (gives_textL (by have := sizeLine_eq; omega) hn) (show _ ∧ (Made.int n).post _ s from ⟨(hS.keeps I.bk).digs, rfl, ⟨.int n, H, I.tok _, ⟨_, rfl⟩, h⟩⟩)
theorem call_listS (hc : X.calm = true) : CallR X (.type "list") rListS := by
  intro pins s σ H xs us Q I r h
  obtain ⟨z, rfl, hz, q⟩ := h
  obtain ⟨u, rfl, t, rfl⟩ := vals1 r
  have hz' : z.cps.size ≤ sizeLine := hz
  refine call_list_str (I.ok.hd hc) z t (fun h' tk acc' c' hk hS' hacc => ?_) hz'
  have hv : Vals (z.cps.toList.map fun c => V.str ⟨#[c]⟩) acc'.toList := by
    have key : ∀ (cs : List Nat) (us : List Value), us.length = cs.length → (∀ (j : Nat) (u : Value), us[j]? = some u → ∃ c t, cs[j]? = some c ∧ u = Value.str ⟨#[c]⟩ t) → Vals (cs.map fun c => V.str ⟨#[c]⟩) us := by
      intro cs
      induction cs with
      | nil => intro us h1 _; cases us with | nil => exact .nil | cons _ _ => cases h1
      | cons c cs ih =>
        intro us h1 h2
        cases us with
        | nil => cases h1
        | cons u us =>
          obtain ⟨c', t, e1, e2⟩ := h2 0 u rfl
          cases e1
          exact .cons ⟨t, e2⟩ (ih us (by simpa using h1) fun j u hj => by simpa using h2 (j + 1) u (by simpa using hj))
    refine key _ _ (by simpa using hacc.1) fun j u hj => ?_
    obtain ⟨c, u', hc, e⟩ := hacc.2 j u (by simpa using hj)
    exact ⟨c, u', by simpa using hc, e⟩
  refine ⟨.ref s.heap.objs.size, _, I.laid (t' := tk) hk (Nat.le_refl _) (show ObjOk X.prog X.w _ h' _ (.lst (z.cps.toList.map fun c => V.str ⟨#[c]⟩)) from ⟨by rw [List.length_map, Array.length_toList]; exact hz', acc'.toList, c', hv, by simpa using hS'⟩), rfl, q _ (I.hok.fresh (Nat.le_refl _))⟩
theorem call_lenDR : CallR X (.builtin "len") (fun xs H Q => ∃ a kvs, xs = [V.ref a] ∧ Rd H a (.dK kvs) ∧ Q (.int kvs.length) H) := by
  intro pins s σ H xs us Q I r h
  obtain ⟨a, kvs, rfl, ha, q⟩ := h
  obtain ⟨u, rfl, ru⟩ := vals1 r
  cases ru
  exact d_len I ha fun t s' I' => ⟨.int kvs.length, H, I', ⟨t, rfl⟩, q⟩
theorem call_lenTR : CallR X (.builtin "len") (fun xs H Q => ∃ (a : Addr) (kvs : List (List Key × V)), xs = [V.ref a] ∧ Rd H a (.dT kvs) ∧ Q (.int ((kvs.length : Nat) : Int)) H) := by
  intro pins s σ H xs us Q I r h
  obtain ⟨p, kvs, rfl, hp, q⟩ := h
  obtain ⟨u, rfl, rx⟩ := vals1 r
  obtain rfl : u = .ref p := rx
  obtain ⟨z, hd, ys, rel, dd⟩ := dt_rd I.hok hp
  have hl : kvs.length = ys.length := Paired.length rel
  refine PySem.call_len_dictH hd dd (by rw [← hl]; rw [sizeLine_eq] at z; omega) ?_
  rw [← hl]
  exact ⟨.int ((kvs.length : Nat) : Int), H, I.tok _, ⟨_, rfl⟩, q⟩
theorem call_lenK (hK : X.K = K) : CallR X (.builtin "len") (rLenU K) := by subst hK; exact CallR.or call_len (CallR.or call_lenDR call_lenTR)
theorem call_absK : CallR X (.builtin "abs") rAbsD := call_abs
theorem call_intK (hS : SysD X.base) : CallR X (.type "int") rIntD := CallR.or call_int1 (call_int_strL hS)
theorem call_listK (hK : X.K = K) (hc : X.calm = true := by rfl) : CallR X (.type "list") (rListU K) := by subst hK; exact CallR.or call_list_of (CallR.or (call_listD hc) (call_listS hc))
theorem call_tupleK (hK : X.K = K) : CallR X (.type "tuple") (rTupU K) := by subst hK; exact CallR.or (call_tupleZ rfl) call_tupleT
theorem call_reprK {k : Nat} (hK : X.K = K) (hS : SysD X.base) (hr : Rm k X.A) : CallR X (.builtin "repr") (rReprD K) := by subst hK; exact call_reprD hS hr.g hr.units0
theorem call_allK (hK : X.K = K) (hc : X.calm = true := by rfl) : CallR X (.builtin "all") (rAll K) := by subst hK; exact cr_all hc
theorem call_anyK (hK : X.K = K) (hc : X.calm = true := by rfl) : CallR X (.builtin "any") (rAny K) := by subst hK; exact cr_any hc
theorem call_isiK (hK : X.K = K) : CallR X (.builtin "isinstance") (rIsi K) := by subst hK; exact call_isi
end
end PL

/-! built-ins by data -/
namespace PL
open PySem PySem.Spec PyProof.Rows L2
def olen : List PyData → W Unit PyData
  | [.list ds] => wpure (.int ds.length)
  | [.tuple ds] => wpure (.int ds.length)
  | [.str z] => wreq (z.length ≤ sizeLine) (.int z.length)
  | [.dict ((.bool true, .none) :: es)] => wpure (.int es.length)
  | [.dict es] => wreq (isK es) (.int es.length)
  | _ => wfail
def oabs : List PyData → W Unit PyData
  | [.int i] => wpure (.int i.natAbs)
  | _ => wfail
def oint : List PyData → W Unit PyData
  | [.int i] => wpure (.int i)
  | [.bool b] => wpure (.int (if b then 1 else 0))
  | [.str z] => wopt (PySem.intText? z) fun n => wreq (z.length ≤ 4300) (.int n)
  | _ => wfail
structure Sho (d : PyData) : Prop where
  pl : plainD d = true
  s : d.showable = true
  z : d.shown.length ≤ sizeLine
  p : d.depth ≤ 60
def orepr : List PyData → W Unit PyData
  | [d] => wreq (Sho d) (.str d.shown)
  | _ => wfail
def olist : List PyData → W Unit PyData
  | [.list ds] => wpure (.list ds)
  | [.tuple ds] => wpure (.list ds)
  | [.str z] => wreq (z.length ≤ sizeLine) (.list (chars z))
  | [.dict es] => wreq (isK es) (.list (es.map (·.1)))
  | _ => wfail
def otuple : List PyData → W Unit PyData
  | [.list ds] => wpure (.tuple ds)
  | [.tuple ds] => wpure (.tuple ds)
  | _ => wfail
def boolsOf : List PyData → Option (List Bool)
  | [] => some []
  | .bool x :: ds => (boolsOf ds).map (x :: ·)
  | _ => none
def intsOf : List PyData → Option (List Int)
  | [] => some []
  | .int x :: ds => (intsOf ds).map (x :: ·)
  | _ => none
def oall : List PyData → W Unit PyData
  | [.list ds] => wopt (boolsOf ds) fun bs => wpure (.bool (bs.all id))
  | _ => wfail
def oany : List PyData → W Unit PyData
  | [.list ds] => wopt (boolsOf ds) fun bs => wpure (.bool (bs.any id))
  | _ => wfail
/-- the built-in class of a datum (none: an instance of an own class, or the script) -/
def tyN : PyData → Option String
  | .none => some "NoneType" | .bool _ => some "bool" | .int _ => some "int" | .str _ => some "str" | .list _ => some "list" | .tuple _ => some "tuple"
  | .dict ((.none, _) :: _) => none | .dict ((.bool _, _) :: _) => none | .dict ((.list _, _) :: _) => none | .dict _ => some "dict"
def isTy (n : String) (d : PyData) : W Unit PyData := wopt (tyN d) fun t => wopt (kitB t n) fun b => wpure (.bool b)
section
variable {K : PySem.W.Frag} {B B' H H' : Hp} {x y : V} {d e : PyData}
theorem one_of {xs : List V} {d : PyData} (h : Paired (SR K B H) xs [d]) : ∃ x, xs = [x] ∧ SR K B H x d := by
  cases h with
  | cons h t => cases t; exact ⟨_, rfl, h⟩
theorem rpKt_len : ∀ {kvs : List (List Key × V)} {es : List (PyData × PyData)}, RpKt K B kvs es → kvs.length = es.length
  | _, _, .nil => rfl
  | _, _, .cons _ t => congrArg Nat.succ (rpKt_len t)
theorem ok_len : CbOk K (rLenU K) .dat olen := fun B H xs ds hB hx P hp Q g => by
  unfold olen at hp
  split at hp
  · obtain ⟨x, rfl, h⟩ := one_of hx
    obtain ⟨p, xs, rfl, h1, r⟩ := sr_lst hB h
    exact .inl ⟨_, _, rfl, .inl ⟨xs, SqL.of h1, rfl⟩, by rw [r.length]; exact fin_dat hB g (.int _) hp⟩
  · obtain ⟨x, rfl, h⟩ := one_of hx
    obtain ⟨p, xs, rfl, h1, r⟩ := sr_tup hB h
    exact .inl ⟨_, _, rfl, .inr ⟨xs, h1, rfl⟩, by rw [r.length]; exact fin_dat hB g (.int _) hp⟩
  · rename_i z
    obtain ⟨x, rfl, h⟩ := one_of hx
    cases sr_str h
    exact .inl ⟨_, z.length, rfl, ⟨hp.1, rfl⟩, fin_dat hB g (.int _) hp.2⟩
  · obtain ⟨x, rfl, h⟩ := one_of hx
    obtain ⟨a, kvs, rfl, h1, r⟩ := sr_dct hB h
    exact .inr (.inr ⟨a, kvs, rfl, h1, by rw [rpKt_len r]; exact fin_dat hB g (.int _) hp⟩)
  · obtain ⟨x, rfl, h⟩ := one_of hx
    obtain ⟨a, kvs, rfl, h1, r⟩ := sr_dic hB hp.1 h
    exact .inr (.inl ⟨a, kvs, rfl, h1, by rw [rpKv_len r]; exact fin_dat hB g (.int _) hp.2⟩)
  · exact hp.elim
theorem ok_abs : CbOk K rAbsD .dat oabs := fun B H xs ds hB hx P hp Q g => by
  unfold oabs at hp
  split at hp
  · rename_i i
    obtain ⟨x, rfl, h⟩ := one_of hx
    cases sr_int h
    have e : (if i < 0 then -i else i) = (i.natAbs : Int) := by split <;> omega
    exact ⟨i, rfl, by rw [e]; exact fin_dat hB g (.int _) hp⟩
  · exact hp.elim
theorem ok_int : CbOk K rIntD .dat oint := fun B H xs ds hB hx P hp Q g => by
  unfold oint at hp
  split at hp
  · rename_i i
    obtain ⟨x, rfl, h⟩ := one_of hx
    cases sr_int h
    exact .inl (.inl ⟨i, rfl, fin_dat hB g (.int _) hp⟩)
  · rename_i i
    obtain ⟨x, rfl, h⟩ := one_of hx
    cases sr_bool h
    exact .inl (.inr ⟨i, rfl, fin_dat hB g (.int _) hp⟩)
  · rename_i z
    obtain ⟨x, rfl, h⟩ := one_of hx
    cases sr_str h
    obtain ⟨n, e, hp⟩ := wopt_inv hp
    exact .inr ⟨z, n, rfl, e, hp.1, fin_dat hB g (.int _) hp.2⟩
  · exact hp.elim
theorem ok_list : CbOk K (rListU K) .own olist := fun B H xs ds hB hx P hp Q g => by
  unfold olist at hp
  split at hp
  · obtain ⟨x, rfl, h⟩ := one_of hx
    obtain ⟨p, xs, rfl, h1, r⟩ := sr_lst hB h
    exact .inl ⟨_, _, rfl, .inl (SqL.of h1), fun l hl => g l _ (.list _) hl (show RpAll K B xs _ from r) hp⟩
  · obtain ⟨x, rfl, h⟩ := one_of hx
    obtain ⟨p, xs, rfl, h1, r⟩ := sr_tup hB h
    exact .inl ⟨_, _, rfl, .inr h1, fun l hl => g l _ (.list _) hl (show RpAll K B xs _ from r) hp⟩
  · rename_i z
    obtain ⟨x, rfl, h⟩ := one_of hx
    cases sr_str h
    refine .inr (.inr ⟨z, rfl, hp.1, fun l hl => g l _ (.list _) hl ?_ hp.2⟩)
    show RpAll K B _ (chars z)
    unfold chars
    generalize z.cps.toList = cs
    induction cs with
    | nil => exact .nil
    | cons c cs ih => exact .cons (.str _) ih
  · rename_i es
    obtain ⟨x, rfl, h⟩ := one_of hx
    obtain ⟨a, kvs, rfl, h1, r⟩ := sr_dic hB hp.1 h
    refine .inr (.inl ⟨a, kvs, rfl, h1, fun l hl => g l _ (.list _) hl ?_ hp.2⟩)
    show RpAll K B _ (es.map (·.1))
    have key : ∀ {kvs : List (Key × V)} {es : List (PyData × PyData)}, RpKv K B kvs es → RpAll K B (kvs.map fun kv => kV kv.1) (es.map (·.1)) := by
      intro kvs
      induction kvs with
      | nil => intro es r; cases r; exact .nil
      | cons kv kvs ih =>
        intro es r
        cases r with
        | cons h t =>
          rename_i k _ _ _
          refine .cons ?_ (ih t)
          cases k with
          | inl i => exact .int i
          | inr z => exact .str z
    exact key r
  · exact hp.elim
theorem ok_tuple : CbOk K (rTupU K) .dat otuple := fun B H xs ds hB hx P hp Q g => by
  unfold otuple at hp
  split at hp
  · obtain ⟨x, rfl, h⟩ := one_of hx
    obtain ⟨p, xs, rfl, h1, r⟩ := sr_lst hB h
    exact .inl ⟨_, _, rfl, SqL.of h1, fun l o hl ho => fin_new hB g hl (fun B' e1 e2 => .tup (.inl ⟨o, e2, ho⟩) (r.mono e1)) hp⟩
  · obtain ⟨x, rfl, h⟩ := one_of hx
    obtain ⟨p, xs, rfl, h1, r⟩ := sr_tupS h
    exact .inr ⟨_, _, rfl, sqT_mono hB h1.sq, fin_dat hB g (.tup h1 r) hp⟩
  · exact hp.elim
theorem boolsOf_eq : ∀ {ds : List PyData} {ys : List Bool}, boolsOf ds = some ys → ds = ys.map .bool
  | [], ys, h => by cases h; rfl
  | .bool x :: ds, ys, h => by
    simp only [boolsOf] at h
    cases e : boolsOf ds with
    | none => rw [e] at h; cases h
    | some zs => rw [e] at h; cases h; rw [boolsOf_eq e]; rfl
  | .none :: _, _, h => by cases h
  | .str _ :: _, _, h => by cases h
  | .int _ :: _, _, h => by cases h
  | .list _ :: _, _, h => by cases h
  | .tuple _ :: _, _, h => by cases h
  | .dict _ :: _, _, h => by cases h
theorem intsOf_eq : ∀ {ds : List PyData} {ys : List Int}, intsOf ds = some ys → ds = ys.map .int
  | [], ys, h => by cases h; rfl
  | .int x :: ds, ys, h => by
    simp only [intsOf] at h
    cases e : intsOf ds with
    | none => rw [e] at h; cases h
    | some zs => rw [e] at h; cases h; rw [intsOf_eq e]; rfl
  | .none :: _, _, h => by cases h
  | .str _ :: _, _, h => by cases h
  | .bool _ :: _, _, h => by cases h
  | .list _ :: _, _, h => by cases h
  | .tuple _ :: _, _, h => by cases h
  | .dict _ :: _, _, h => by cases h
theorem ok_all : CbOk K (rAll K) .dat oall := fun B H xs ds hB hx P hp Q g => by
  unfold oall at hp
  split at hp
  · obtain ⟨x, rfl, h⟩ := one_of hx
    obtain ⟨p, xs, rfl, h1, r⟩ := sr_lst hB h
    obtain ⟨bs, hb, hp2⟩ := wopt_inv hp
    rw [boolsOf_eq hb] at r
    rw [bools_of r] at h1
    exact ⟨p, bs, rfl, SqL.of h1, fin_dat hB g (.bl _) hp2⟩
  · exact hp.elim
theorem ok_any : CbOk K (rAny K) .dat oany := fun B H xs ds hB hx P hp Q g => by
  unfold oany at hp
  split at hp
  · obtain ⟨x, rfl, h⟩ := one_of hx
    obtain ⟨p, xs, rfl, h1, r⟩ := sr_lst hB h
    obtain ⟨bs, hb, hp2⟩ := wopt_inv hp
    rw [boolsOf_eq hb] at r
    rw [bools_of r] at h1
    exact ⟨p, bs, rfl, SqL.of h1, fin_dat hB g (.bl _) hp2⟩
  · exact hp.elim
end
section
variable {S α : Type} [Res S] {K : PySem.W.Frag} {C : Cf S} {B B' H H' : Hp} {s : S} {A : List Addr} {ρ ρ' : List PS} {σ : L2.St} {v : V} {d : PyData} {p : Addr} {te tf : TE} {t : TA} {w w' : W S PyData} {ws : List (W S PyData)}
/-- repr(e) -/
theorem px_repr (h : Px K te .dat ρ w) : Px K (tCB (rReprD K) (tCons te tNil)) .dat ρ (wbind (wl [w]) fun as => wlift (orepr as)) := fun C B H s A σ hw hl P hp Q q =>
  h C B H s A σ hw hl _ hp _ fun B1 v1 H1 d1 s1 e1 w1 l1 r1 p1 =>
    ⟨v1, d1, rfl, Rp.mono w1.ex r1, p1.1.pl, p1.1.s, p1.1.z, p1.1.p, q B1 _ H1 _ s1 e1 w1 l1 (.str _) p1.2⟩
theorem tyN_kv {kvs : List (Key × V)} {es : List (PyData × PyData)} (r : RpKv K B kvs es) : tyN (.dict es) = some "dict" := by
  cases r with
  | nil => rfl
  | cons h t =>
    rename_i k _ _ _ _
    cases k <;> rfl
theorem rp_ty {n : String} (e : Same B H) (hn : tyN d = some n) (h : SR K B H v d) : TyX K H v (.type n) := by
  cases h with
  | rp h =>
    cases h with
    | non => cases hn; exact .base .non
    | bl b => cases hn; exact .base (.bl b)
    | int i => cases hn; exact .base (.int i)
    | str x => cases hn; exact .base (.str x)
    | lst h r => cases hn; exact .base (.lst (e _ _ h))
    | tup h r =>
      cases hn
      rcases h with ⟨o, h, _⟩ | ⟨o, its, n, hk, hc, _⟩ | ⟨ks, _, _, h⟩
      · exact .fTuple (e _ _ h)
      · exact .kTuple hk hc
      · exact .base (.tup (e _ _ h))
    | dic h r =>
      rw [tyN_kv r] at hn
      cases hn
      rcases h with h | ⟨o, h⟩
      · exact .base (.dK (e _ _ h))
      · exact .fDict (e _ _ h)
    | dct h r => cases hn
    | obj c h r => cases hn
    | fn c => cases hn
  | lst h r => cases hn; exact .base (.lst h)
  | scr h => cases hn
  | dic h r =>
    rw [tyN_kv r] at hn
    cases hn
    rcases h with h | ⟨o, h⟩
    · exact .base (.dK h)
    · exact .fDict h
  | dct h r => cases hn
  | obj c h r => cases hn
  | nt h r => cases hn
/-- isinstance(e, T), T a built-in class -/
theorem px_isi {n : String} (h : Px K te .vw ρ w) : Px K (tCB (rIsi K) (tCons te (tCons (tC (.ty n)) tNil))) .dat ρ (wbind w fun d => wlift (isTy n d)) := fun C B H s A σ hw hl P hp Q q =>
  h C B H s A σ hw hl _ hp _ fun B1 v1 H1 d1 s1 e1 w1 l1 r1 p1 => by
    obtain ⟨t, ht, p2⟩ := wopt_inv (show wopt (tyN d1) _ _ _ from p1)
    obtain ⟨b, hb, p3⟩ := wopt_inv (show wopt (kitB t n) _ _ _ from p2)
    exact ⟨v1, .ty n, _, _, b, rfl, .ty n, rp_ty w1.ex ht (r1 B1 H1 s1 (Same.r _) w1 l1), kit_ty hb, q B1 _ H1 _ s1 e1 w1 l1 (.bl _) p3⟩
/-! methods of texts -/
theorem rpAll_strs : ∀ ns : List Str, RpAll K B (ns.map V.str) (ns.map PyData.str)
  | [] => .nil
  | n :: ns => .cons (.str n) (rpAll_strs ns)
/-! x or y by truth -/
end
end PL

/-! several values at once; own loops; the kit's rules by K -/
namespace PL
open PySem PySem.Spec PyProof.Rows L2
section
variable {S α : Type} [Res S] {K : PySem.W.Frag} {C C' : Cf S} {B B' H H' : Hp} {s s' : S} {A : List Addr} {ρ ρ' : List PS} {σ : L2.St} {v : V} {d : PyData} {p : Addr}
  {te ta tb tc : TE} {t u : TS} {tt : TT} {w wa wb wc : W S PyData} {k k1 k2 k3 : EK} {i j l : Nat} {r : RK} {env : α → List PS}
theorem Sls.stay (h : Sls K C B H A ρ σ) {G : List Addr} (f : Frm C C' G H) (hG : ∀ p ∈ G, Mu (H p) ∧ B p = none ∧ C.H0 p = none) (hA : ∀ p ∈ G, p ∉ A) (hw : Hs C B H s) (w' : Hs C' B H s) : Sls K C' B H A ρ σ := by
  induction h with
  | nil => exact .nil
  | un _ ih => exact .un (ih hA)
  | dat q _ ih => exact .dat q (ih hA)
  | vw q _ ih => exact .vw (q.mono (Same.refl _) (f.gh (fun a z => (hG a z).2.2) hw (Same.refl B) w')) (ih hA)
  | pv q _ ih => exact .pv (q.mono (Same.refl _) (f.gh (fun a z => (hG a z).2.2) hw (Same.refl B) w')) (ih hA)
  | dk _ ih => rw [← f.rt]; exact .dk (ih hA)
  | @own A0 ρ0 σ0 p0 o d h1 h2 h3 h4 h5 _ ih =>
    refine .own h1 h2 h3 ?_ h5 (ih fun p hp z => hA p hp (List.mem_cons_of_mem _ z))
    rw [f.o p0 fun z => hA p0 z List.mem_cons_self]
    exact h4
  | nt n nd hx _ ih =>
    refine .nt n nd (fun a ha => ⟨(hx a ha).1, ?_, (hx a ha).2.2⟩) (ih fun p hp z => hA p hp (List.mem_append_right _ z))
    rw [f.o a fun z => hA a z (List.mem_append_left _ ha)]
    exact (hx a ha).2.1
/-- own things as they now stand, the others as they stood -/
theorem Sls.comb (h : Sls K C B H A ρ σ) (e : Same B B') (g : Same (Gh C B) (Gh C B')) : ∀ {A' : List Addr}, Sls K C' B' H' A' ρ σ → (∀ a ∈ A, C.H0 a = none) → A' = A ∧ Sls K C B' H' A ρ σ := by
  induction h with
  | nil => intro A' n _; cases n; exact ⟨rfl, .nil⟩
  | un _ ih => intro A' n q; cases n with | un n => (obtain ⟨e1, x⟩ := ih n q; exact ⟨e1, .un x⟩)
  | dat r _ ih => intro A' n q; cases n with | dat _ n => (obtain ⟨e1, x⟩ := ih n q; exact ⟨e1, .dat (r.mono e) x⟩)
  | vw r _ ih => intro A' n q; cases n with | vw _ n => (obtain ⟨e1, x⟩ := ih n q; exact ⟨e1, .vw (r.mono e g) x⟩)
  | pv r _ ih => intro A' n q; cases n with | pv _ n => (obtain ⟨e1, x⟩ := ih n q; exact ⟨e1, .pv (r.mono e g) x⟩)
  | @dk A0 ρ0 σ0 _ ih =>
    intro A' n q
    generalize hs : some (V.ref C.root) = o at n
    cases n with
    | dk n => (obtain ⟨e1, x⟩ := ih n q; rw [← hs]; exact ⟨e1, .dk x⟩)
  | own h1 h2 h3 h4 h5 _ ih =>
    intro A' n q
    cases n with
    | own n1 n2 n3 n4 n5 n =>
      obtain ⟨e1, x⟩ := ih n fun a z => q a (List.mem_cons_of_mem _ z)
      subst e1
      exact ⟨rfl, .own n1 n2 n3 h4 n5 x⟩
  | nt h1 h2 h3 _ ih =>
    intro A' n q
    cases n with
    | nt n1 n2 n3 n =>
      have eq := h1.same e n1
      subst eq
      obtain ⟨e1, x⟩ := ih n fun a z => q a (List.mem_append_right _ z)
      subst e1
      exact ⟨rfl, .nt n1 n2 (fun a ha => ⟨(n3 a ha).1, (h3 a ha).2.1, (n3 a ha).2.2⟩) x⟩
theorem px_guard (G : List Addr) (hG : ∀ p ∈ G, Mu (H p) ∧ B p = none ∧ C.H0 p = none) (hA : ∀ p ∈ G, p ∉ A) (h : Px K te k ρ w) (hk : k = .dat ∨ k = .own) (hw : Hs C B H s) (hl : Sls K C B H A ρ σ) {P : PyData → S → Prop} (hp : w s P) {Q : VK}
    (q : ∀ B' v H' d s', Same B B' → Hs C B' H' s' → Sls K C B' H' A ρ σ → ER K C B' H' A ρ σ k v d → (∀ p ∈ G, H' p = H p ∧ B' p = none) → (∀ p ∈ G, k = .own → v ≠ .ref p) → P d s' → Q v H') : te σ H Q := by
  obtain ⟨C1, f, w1⟩ := frm hw G hG
  refine h C1 B H s A σ w1 (hl.stay f hG hA hw w1) P hp Q fun B' v H' d s' e w2 l2 r2 p2 => ?_
  obtain ⟨w3, k3⟩ := f.back hG hw w2
  obtain ⟨_, l3⟩ := hl.comb e (hw.gh2 e w3.nb) l2 fun a z => (hl.inA a z).2.2
  refine q B' v H' d s' e w3 l3 ?_ k3 (fun p hp hk' => ?_) p2
  · rcases hk with e | e
    · subst e; exact r2
    · subst e
      obtain ⟨p, o, h1, h2, h3, h4, h5, h6⟩ := r2
      refine ⟨p, o, h1, h2, h3, h4, ?_, h6⟩
      have : p ∉ G := fun z => by rw [f.i p z] at h5; exact (hG p z).1 h5
      rw [f.o p this] at h5
      exact h5
  · subst hk'
    obtain ⟨p2, o, h1, h2, h3, h4, h5, h6⟩ := r2
    rintro rfl
    cases h1
    rw [f.i p hp] at h5
    exact (hG p hp).1 h5
def psOf : EK → PyData → PS
  | .own, d => .own d
  | _, d => .dat d
def ownOf (k : EK) (v : V) : List Addr := match k, v with
  | .own, .ref p => [p]
  | _, _ => []
theorem own_mem (hk : k = .dat ∨ k = .own) (hr : ER K C B H A ρ σ k v d) : ∀ p ∈ ownOf k v, Mu (H p) ∧ B p = none ∧ C.H0 p = none := by
  rcases hk with e | e
  · subst e; intro p hp; cases v <;> cases hp
  · subst e
    obtain ⟨p, o, rfl, q2, q3, q4, q5, q6⟩ := hr
    intro a ha
    rw [show ownOf .own (.ref p) = [p] from rfl, List.mem_singleton] at ha
    subst ha
    exact ⟨q3.mu q2, q4, q5⟩
theorem own_notA (hk : k = .dat ∨ k = .own) (hr : ER K C B H A ρ σ k v d) : ∀ p ∈ ownOf k v, p ∉ A := by
  rcases hk with e | e
  · subst e; intro p hp; cases v <;> cases hp
  · subst e
    obtain ⟨p, o, rfl, q2, q3, q4, q5, q6⟩ := hr
    intro a ha
    rw [show ownOf .own (.ref p) = [p] from rfl, List.mem_singleton] at ha
    subst ha
    exact q6
/-- what stands of a value while others are computed -/
theorem er_keep (hk : k = .dat ∨ k = .own) (hr : ER K C B H A ρ σ k v d) (e : Same B B') (q : ∀ p ∈ ownOf k v, H' p = H p ∧ B' p = none) : ER K C B' H' A ρ σ k v d := by
  rcases hk with e1 | e1
  · subst e1; exact Rp.mono e hr
  · subst e1
    obtain ⟨p, o, rfl, q2, q3, q4, q5, q6⟩ := hr
    have := q p (by rw [show ownOf .own (.ref p) = [p] from rfl]; exact List.mem_singleton.mpr rfl)
    exact ⟨p, o, rfl, by rw [this.1]; exact q2, q3.mono e, this.2, q5, q6⟩
theorem set_two (hk1 : k1 = .dat ∨ k1 = .own) (hk2 : k2 = .dat ∨ k2 = .own) (hw : Hs C B H s) (hl : Sls K C B H A ρ σ) (hi : i < ρ.length) (hj : j < ρ.length) {v2 : V} {d2 : PyData} (r1 : ER K C B H A ρ σ k1 v d) (r2 : ER K C B H A ρ σ k2 v2 d2) (hn : ∀ p ∈ ownOf k1 v, k2 = .own → v2 ≠ .ref p) :
    ∃ A', Sls K C B H A' ((ρ.set i (psOf k1 d)).set j (psOf k2 d2)) ((σ.set i (some v)).set j (some v2)) := by
  have h1 : ∃ A1, Sls K C B H A1 (ρ.set i (psOf k1 d)) (σ.set i (some v)) ∧ ∀ a ∈ A1, a ∈ A ∨ a ∈ ownOf k1 v := by
    rcases hk1 with e | e
    · subst e
      obtain ⟨A', x, y⟩ := hl.setD i r1
      exact ⟨A', x, fun a z => .inl (y a z)⟩
    · subst e
      obtain ⟨p, o, rfl, q2, q3, q4, q5, q6⟩ := r1
      obtain ⟨A', x, y⟩ := hl.setO i hi q6 q2 q3 q4 q5
      refine ⟨A', x, fun a z => ?_⟩
      rcases y a z with z | z
      · exact .inr (by rw [show ownOf .own (.ref p) = [p] from rfl]; exact List.mem_singleton.mpr z)
      · exact .inl z
  obtain ⟨A1, x1, y1⟩ := h1
  rcases hk2 with e | e
  · subst e
    obtain ⟨A', x, y⟩ := x1.setD j r2
    exact ⟨A', x⟩
  · subst e
    obtain ⟨p, o, rfl, q2, q3, q4, q5, q6⟩ := r2
    obtain ⟨A', x, y⟩ := x1.setO j (by rw [List.length_set]; exact hj) (fun z => by
      rcases y1 p z with z | z
      · exact q6 z
      · exact hn p z rfl rfl) q2 q3 q4 q5
    exact ⟨A', x⟩
/-- x, y = a, b -/
theorem pst_par {kk : PyData → PyData → W S (Fl α)} {ρ' : PyData → PyData → List PS} (ha : Px K ta k1 ρ wa) (hb : Px K tb k2 ρ wb) (hi : i < ρ.length) (hj : j < ρ.length) (h : ∀ a b, Pst K u r (ρ' a b) env (kk a b))
    (hk1 : k1 = .dat ∨ k1 = .own := by first | exact .inl rfl | exact .inr rfl) (hk2 : k2 = .dat ∨ k2 = .own := by first | exact .inl rfl | exact .inr rfl) (hρ : ∀ a b, (ρ.set i (psOf k1 a)).set j (psOf k2 b) = ρ' a b := by intro _ _; rfl) :
    Pst K (tSeq (tPar i j (tCons ta (tCons tb tNil))) u) r ρ env (wbind wa fun a => wbind wb fun b => kk a b) := fun C B H s A σ hw hl P hp D nx rt =>
  ha C B H s A σ hw hl _ hp _ fun B1 v1 H1 d1 s1 e1 w1 l1 r1 p1 =>
    px_guard (ownOf k1 v1) (own_mem hk1 r1) (own_notA hk1 r1) hb hk2 w1 l1 p1 fun B2 v2 H2 d2 s2 e2 w2 l2 r2 g2 n2 p2 => by
      obtain ⟨A', x⟩ := set_two hk1 hk2 w2 l2 hi hj (er_keep hk1 r1 e2 g2) r2 n2
      rw [hρ] at x
      exact ⟨v1, v2, rfl, h d1 d2 C B2 H2 s2 A' _ w2 x P p2 D (fun B3 H3 s3 A3 σ3 a3 e3 w3 l3 p3 => nx B3 H3 s3 A3 σ3 a3 ((e1.trans e2).trans e3) w3 l3 p3) fun B3 v H3 d s3 e3 w3 r3 p3 => rt B3 v H3 d s3 ((e1.trans e2).trans e3) w3 r3 p3⟩
theorem set_three (hk1 : k1 = .dat ∨ k1 = .own) (hk2 : k2 = .dat ∨ k2 = .own) (hk3 : k3 = .dat ∨ k3 = .own) (hw : Hs C B H s) (hl : Sls K C B H A ρ σ) (hi : i < ρ.length) (hj : j < ρ.length) (hk : l < ρ.length) {v2 v3 : V} {d2 d3 : PyData}
    (r1 : ER K C B H A ρ σ k1 v d) (r2 : ER K C B H A ρ σ k2 v2 d2) (r3 : ER K C B H A ρ σ k3 v3 d3) (hn : ∀ p ∈ ownOf k1 v, k2 = .own → v2 ≠ .ref p) (hn3 : ∀ p ∈ ownOf k1 v ++ ownOf k2 v2, k3 = .own → v3 ≠ .ref p) :
    ∃ A', Sls K C B H A' (((ρ.set i (psOf k1 d)).set j (psOf k2 d2)).set l (psOf k3 d3)) (((σ.set i (some v)).set j (some v2)).set l (some v3)) := by
  have h1 : ∃ A1, Sls K C B H A1 (ρ.set i (psOf k1 d)) (σ.set i (some v)) ∧ ∀ a ∈ A1, a ∈ A ∨ a ∈ ownOf k1 v := by
    rcases hk1 with e | e
    · subst e
      obtain ⟨A', x, y⟩ := hl.setD i r1
      exact ⟨A', x, fun a z => .inl (y a z)⟩
    · subst e
      obtain ⟨p, o, rfl, q2, q3, q4, q5, q6⟩ := r1
      obtain ⟨A', x, y⟩ := hl.setO i hi q6 q2 q3 q4 q5
      refine ⟨A', x, fun a z => ?_⟩
      rcases y a z with z | z
      · exact .inr (by rw [show ownOf .own (.ref p) = [p] from rfl]; exact List.mem_singleton.mpr z)
      · exact .inl z
  obtain ⟨A1, x1, y1⟩ := h1
  have h2 : ∃ A2, Sls K C B H A2 ((ρ.set i (psOf k1 d)).set j (psOf k2 d2)) ((σ.set i (some v)).set j (some v2)) ∧ ∀ a ∈ A2, a ∈ A ∨ a ∈ ownOf k1 v ++ ownOf k2 v2 := by
    rcases hk2 with e | e
    · subst e
      obtain ⟨A', x, y⟩ := x1.setD j r2
      refine ⟨A', x, fun a z => ?_⟩
      rcases y1 a (y a z) with z | z
      · exact .inl z
      · exact .inr (List.mem_append_left _ z)
    · subst e
      obtain ⟨p, o, rfl, q2, q3, q4, q5, q6⟩ := r2
      obtain ⟨A', x, y⟩ := x1.setO j (by rw [List.length_set]; exact hj) (fun z => by
        rcases y1 p z with z | z
        · exact q6 z
        · exact hn p z rfl rfl) q2 q3 q4 q5
      refine ⟨A', x, fun a z => ?_⟩
      rcases y a z with z | z
      · exact .inr (List.mem_append_right _ (by rw [show ownOf .own (.ref p) = [p] from rfl]; exact List.mem_singleton.mpr z))
      · rcases y1 a z with z | z
        · exact .inl z
        · exact .inr (List.mem_append_left _ z)
  obtain ⟨A2, x2, y2⟩ := h2
  rcases hk3 with e | e
  · subst e
    obtain ⟨A', x, y⟩ := x2.setD l r3
    exact ⟨A', x⟩
  · subst e
    obtain ⟨p, o, rfl, q2, q3, q4, q5, q6⟩ := r3
    obtain ⟨A', x, y⟩ := x2.setO l (by rw [List.length_set, List.length_set]; exact hk) (fun z => by
      rcases y2 p z with z | z
      · exact q6 z
      · exact hn3 p z rfl rfl) q2 q3 q4 q5
    exact ⟨A', x⟩
theorem par3_core {Q : V → V → V → Hp → Prop} (hk1 : k1 = .dat ∨ k1 = .own) (hk2 : k2 = .dat ∨ k2 = .own) (hk3 : k3 = .dat ∨ k3 = .own) (ha : Px K ta k1 ρ wa) (hb : Px K tb k2 ρ wb) (hc : Px K tc k3 ρ wc) (hw : Hs C B H s) (hl : Sls K C B H A ρ σ) {P : PyData → PyData → PyData → S → Prop}
    (hp : wa s fun a s1 => wb s1 fun b s2 => wc s2 fun c s3 => P a b c s3)
    (q : ∀ B' v1 v2 v3 H' d1 d2 d3 s', Same B B' → Hs C B' H' s' → Sls K C B' H' A ρ σ → ER K C B' H' A ρ σ k1 v1 d1 → ER K C B' H' A ρ σ k2 v2 d2 → ER K C B' H' A ρ σ k3 v3 d3 → (∀ p ∈ ownOf k1 v1, k2 = .own → v2 ≠ .ref p) → (∀ p ∈ ownOf k1 v1 ++ ownOf k2 v2, k3 = .own → v3 ≠ .ref p) → P d1 d2 d3 s' → Q v1 v2 v3 H') :
    ta σ H fun v1 H1 => tb σ H1 fun v2 H2 => tc σ H2 fun v3 H3 => Q v1 v2 v3 H3 :=
  ha C B H s A σ hw hl _ hp _ fun B1 v1 H1 d1 s1 e1 w1 l1 r1 p1 =>
    px_guard (ownOf k1 v1) (own_mem hk1 r1) (own_notA hk1 r1) hb hk2 w1 l1 p1 fun B2 v2 H2 d2 s2 e2 w2 l2 r2 g2 n2 p2 => by
      have r1' := er_keep hk1 r1 e2 g2
      refine px_guard (ownOf k1 v1 ++ ownOf k2 v2) (fun p hp => ?_) (fun p hp => ?_) hc hk3 w2 l2 p2 fun B3 v3 H3 d3 s3 e3 w3 l3 r3 g3 n3 p3 => ?_
      · rcases List.mem_append.mp hp with z | z
        · exact own_mem hk1 r1' p z
        · exact own_mem hk2 r2 p z
      · rcases List.mem_append.mp hp with z | z
        · exact own_notA hk1 r1' p z
        · exact own_notA hk2 r2 p z
      · exact q B3 v1 v2 v3 H3 d1 d2 d3 s3 ((e1.trans e2).trans e3) w3 l3 (er_keep hk1 r1' e3 fun p z => g3 p (List.mem_append_left _ z)) (er_keep hk2 r2 e3 fun p z => g3 p (List.mem_append_right _ z)) r3 n2 n3 p3
theorem pst_par3 {kk : PyData → PyData → PyData → W S (Fl α)} {ρ' : PyData → PyData → PyData → List PS} (ha : Px K ta k1 ρ wa) (hb : Px K tb k2 ρ wb) (hc : Px K tc k3 ρ wc) (hi : i < ρ.length) (hj : j < ρ.length) (hl' : l < ρ.length) (h : ∀ a b c, Pst K u r (ρ' a b c) env (kk a b c))
    (hk1 : k1 = .dat ∨ k1 = .own := by first | exact .inl rfl | exact .inr rfl) (hk2 : k2 = .dat ∨ k2 = .own := by first | exact .inl rfl | exact .inr rfl) (hk3 : k3 = .dat ∨ k3 = .own := by first | exact .inl rfl | exact .inr rfl)
    (hρ : ∀ a b c, ((ρ.set i (psOf k1 a)).set j (psOf k2 b)).set l (psOf k3 c) = ρ' a b c := by intro _ _ _; rfl) :
    Pst K (tSeq (tPar3 i j l (tCons ta (tCons tb (tCons tc tNil)))) u) r ρ env (wbind wa fun a => wbind wb fun b => wbind wc fun c => kk a b c) := fun C B H s A σ hw hl P hp D nx rt => by
  refine par3_core (Q := fun v1 v2 v3 H3 => ∃ u' v w', [v1, v2, v3] = [u', v, w'] ∧ u { nx := D.nx, rt := D.rt, bk := D.bk, ct := D.ct } (((σ.set i (some u')).set j (some v)).set l (some w')) H3) hk1 hk2 hk3 ha hb hc hw hl hp fun B3 v1 v2 v3 H3 d1 d2 d3 s3 e3 w3 l3 r1 r2 r3 n2 n3 p3 => ?_
  obtain ⟨A', x⟩ := set_three hk1 hk2 hk3 w3 l3 hi hj hl' r1 r2 r3 n2 n3
  rw [hρ] at x
  exact ⟨v1, v2, v3, rfl, h d1 d2 d3 C B3 H3 s3 A' _ w3 x P p3 D (fun B3 H3 s3 A3 σ3 a3 e4 w3 l3 p3 => nx B3 H3 s3 A3 σ3 a3 (e3.trans e4) w3 l3 p3) fun B3 v H3 d s3 e4 w3 r3 p3 => rt B3 v H3 d s3 (e3.trans e4) w3 r3 p3⟩
/-- while, without returns -/
def wwhilen (t : α → W S Bool) (k : α → W S α) (a : α) : W S α := fun s Q => ∃ n, wwhileN t (fun a => wbind (k a) wnx) n a s fun x s' => match x with | .nx a => Q a s' | .rt _ => False
theorem psn_while {tt : TT} {kb : α → W S α} {wt : α → W S Bool} {a0 : α} {tb' : TS} (ms : List Bool) (hc : ∀ a, Pt K tt (env a) (wt a)) (hb : ∀ a, Psn K tb' r (env a) env (kb a)) (h0 : keep ms ρ = env a0 := by rfl) :
    Psn K (tWhile tt tb') r ρ env (wwhilen wt kb a0) := fun C B H s A σ hw hl P hp D nx rt =>
  pst_while ms hc hb h0 C B H s A σ hw hl (fun x s' => match x with | .nx a => P (.nx a) s' | .rt _ => False) hp D (fun B' H' s' A' σ' a e w l p => nx B' H' s' A' σ' a e w l p) fun B' v H' d s' e w r p => p.elim
end
/-! the kit's rules with K named -/
section
variable {X : Cx} {K : PySem.W.Frag}
theorem pe_tupZ {es : List Expr} {n : Nat} {pos : Pos} {t : TA} (h : PA X es t) : PE X (.Tuple es n pos) (tTupZ t) := by
  refine ⟨fun pins s σ H Q I hq => ?_⟩
  refine wpAny_Tuple_spliced (thn (h.run pos pins s σ H _ I hq) fun us s1 ⟨xs, H1, I1, r, z, q⟩ => ⟨by rw [← r.length]; exact z, ?_⟩)
  have free : H1 s1.heap.objs.size = none := I1.hok.fresh (Nat.le_refl _)
  refine ⟨.ref s1.heap.objs.size, upd H1 s1.heap.objs.size (.frz { cls := .type "tuple", data := .seq us.toArray } (.tup xs)), I1.laid (t' := s1.toks) (fun b u e => Heap.get?_push_of_some _ e) (Nat.le_refl _) ?_, rfl, q _ _ free rfl⟩
  exact ⟨Heap.get?_push_size _ rfl, z, us, r, ⟨_, Heap.get?_push_size _ rfl, rfl, _, rfl⟩⟩
theorem pi_seqK (hK : X.K = K) {tg l : Expr} {tl : TE} (hl : PE X l tl) : PI X tg l (iSeq K tl) := by subst hK; exact pi_seq hl
theorem pi_zipK (hK : X.K = K) {e e2 : Expr} {ta : TA} {p pos tpos : Pos} {elts : List Expr} {kk : Nat} (hg : Gl X "zip") (hm : X.mg "zip" = none) (ha : PA X [e, e2] ta)
    (hs : starEach [e, e2] X.env = (false, eval e X.env) :: starEach [e2] X.env := by rfl) (hpl : (backTo pos (starEach [e2] X.env)).any (·.1) = false := by rfl) :
    PI X (.Tuple elts kk tpos) (.Call (.Name "zip" p) [e, e2] [] pos) (RZ.iZipA K ta) := by subst hK; exact RZ.pi_zipA hg hm ha hs hpl
theorem pg_tupK (hK : X.K = K) {es : List Expr} {k : Nat} {pos : Pos} {n : Nat} {t : TGs} (hc : X.calm = true) (h : PGs X es t) (hn : (assignEach es X.env).length = n := by rfl) (hst : (assignEach es X.env).findIdx? (·.1) = none := by rfl) :
    PG X (.Tuple es k pos) (gTup K n t) := by subst hK; exact pg_tup hc h hn hst
theorem pe_revLK (hK : X.K = K) {e : Expr} {te : TE} {k : Nat} {p1 p2 p3 pos : Pos} (he : PE X e te) : PE X (.Subscript e (.Slice none none (some (.UnaryOp .USub (.Constant (.int 1) k p1) p2)) p3) pos) (tRevL K te) := by subst hK; exact pe_revL he
theorem pe_popK (hK : X.K = K) {o : Expr} {to : TE} {apos cpos : Pos} (ho : PE X o to) (hbase : attributeBase o "pop" X.env (eval o X.env) = eval o X.env := by rfl) (hline : (apos.endLine == cpos.line) = true := by rfl) :
    PE X (.Call (.Attribute o "pop" apos) [] [] cpos) (tBM0 K "list" rPop to) := by subst hK; exact pe_bm0 PySem.F.plainAttrs_list PySem.F.slot_list_pop PySem.F.type_list_pop mt_pop ho hbase hline
theorem pe_appendK (hK : X.K = K) {o e : Expr} {to te : TE} {apos cpos : Pos} (ho : PE X o to) (he : PE X e te) (hbase : attributeBase o "append" X.env (eval o X.env) = eval o X.env := by rfl)
    (hfew : ((backTo cpos (starEach [e] X.env)).all (fun x => !x.1) && (backToKw cpos (keywordEach [] X.env)).all (fun x => x.1.isSome) && decide (([e] : List Expr).length + ([] : List Keyword).length + (if ([] : List Keyword).isEmpty then 0 else 1) < 30)) = true := by rfl)
    (hline : (apos.endLine == cpos.line) = true := by rfl) (hs : starEach [e] X.env = (false, eval e X.env) :: starEach [] X.env := by rfl) (hpl : (backTo cpos (starEach [] X.env)).any (·.1) = false := by rfl) :
    PE X (.Call (.Attribute o "append" apos) [e] [] cpos) (tBM K "list" rAppend to (tCons te tNil)) := by
  subst hK
  exact pe_bm PySem.F.plainAttrs_list PySem.F.slot_list_append PySem.F.type_list_append mt_append ho (pa_cons he pa_nil hs) hbase hfew hline hs hpl
end
end PL

/-! sorted; dict(..) -/
namespace PL
open PySem PySem.Spec PyProof.Rows L2
def ltSt (x y : Str) : Bool := decide (x.cps.toList < y.cps.toList)
theorem str_ext {x y : Str} (h : x.cps.toList = y.cps.toList) : x = y := by
  cases x; cases y
  exact congrArg Str.mk (Array.toList_inj.mp h)
theorem ltSt_irr (x : Str) : ltSt x x = false := decide_eq_false (List.lt_irrefl _)
theorem ltSt_asym {x y : Str} (h : ltSt x y = true) : ltSt y x = false := decide_eq_false (List.lt_asymm (of_decide_eq_true h))
theorem ltSt_trans {x y z : Str} (h1 : ltSt x y = true) (h2 : ltSt y z = true) : ltSt x z = true := decide_eq_true (List.lt_trans (of_decide_eq_true h1) (of_decide_eq_true h2))
theorem ltSt_tri {x y : Str} (h : x ≠ y) (h1 : ltSt x y = false) : ltSt y x = true := by
  refine decide_eq_true ?_
  have h1 : ¬ x.cps.toList < y.cps.toList := of_decide_eq_false h1
  have h2 : y.cps.toList ≤ x.cps.toList := List.not_lt.mp h1
  refine Classical.byContradiction fun h3 => h (str_ext ?_)
  exact List.le_antisymm (List.not_lt.mp h3) h2
def lexS : List Str → List Str → Bool
  | [], [] => false
  | [], _ :: _ => true
  | _ :: _, [] => false
  | x :: xs, y :: ys => if x = y then lexS xs ys else ltSt x y
theorem lexS_asym : ∀ xs ys : List Str, lexS xs ys = true → lexS ys xs = false
  | [], [], h => by cases h
  | [], _ :: _, _ => rfl
  | _ :: _, [], h => by cases h
  | x :: xs, y :: ys, h => by
    unfold lexS at h ⊢
    by_cases e : x = y
    · rw [if_pos e] at h; rw [if_pos e.symm]; exact lexS_asym xs ys h
    · rw [if_neg e] at h; rw [if_neg (Ne.symm e)]; exact ltSt_asym h
theorem lexS_tr : ∀ a b c : List Str, lexS b a = false → lexS c b = false → lexS c a = false
  | [], _, [], _, _ => rfl
  | [], _, _ :: _, _, _ => rfl
  | _ :: _, [], _, h, _ => by cases h
  | _ :: _, _ :: _, [], _, h => by cases h
  | x :: a, y :: b, z :: c, h1, h2 => by
    unfold lexS at h1 h2 ⊢
    by_cases e1 : y = x
    · subst e1
      rw [if_pos rfl] at h1
      by_cases e2 : z = y
      · subst e2
        rw [if_pos rfl] at h2 ⊢
        exact lexS_tr a b c h1 h2
      · rw [if_neg e2] at h2 ⊢; exact h2
    · rw [if_neg e1] at h1
      by_cases e2 : z = y
      · subst e2
        rw [if_neg e1]; exact h1
      · rw [if_neg e2] at h2
        have a1 := ltSt_tri e1 h1
        have a2 := ltSt_tri e2 h2
        have a3 := ltSt_trans a1 a2
        have ne : z ≠ x := fun q => by rw [q, ltSt_irr] at a3; cases a3
        rw [if_neg ne]
        exact ltSt_asym a3
theorem lexS_irr : ∀ xs : List Str, lexS xs xs = false
  | [] => rfl
  | x :: xs => by unfold lexS; rw [if_pos rfl]; exact lexS_irr xs
theorem swo_lexS {α : Type} (k : α → List Str) : SrtO.Swo fun v u => lexS (k v) (k u) := ⟨fun x y => lexS_asym _ _, fun x y z => lexS_tr _ _ _⟩

/-- at v: a tuple that begins with the texts ks -/
def IsTS (h : Heap) (v : Value) (ks : List Str) : Prop := ∃ a o ts rest n, v = Value.ref a ∧ h.get? a = some o ∧ o.cls = .type "tuple" ∧ o.data = .seq (ts ++ rest).toArray n ∧ Vals (ks.map V.str) ts
theorem IsTS.keeps {h h' : Heap} {v : Value} {ks : List Str} (p : IsTS h v ks) (k : ∀ b o, h.get? b = some o → o.cls = .type "tuple" → h'.get? b = some o) : IsTS h' v ks := by
  obtain ⟨a, o, ts, rest, n, e, ho, hc, hd, hv⟩ := p
  exact ⟨a, o, ts, rest, n, e, k _ _ ho hc, hc, hd, hv⟩
section
variable {prog : Program} {w : World} {A : Around} {E : Value → Shared → Prop} {s : Shared}
theorem kat_same {fin : Bool} {Q : Bool → Shared → Prop} (h : Q fin s) : ∀ (l : List Value) (i : Nat), PySem.W.KatLex prog w A true fin Q (l.zip l) i s
  | [], _ => PySem.W.kat_nil h
  | v :: l, i => PySem.W.kat_cons (SeqAt.EqAt.same v prog w _ _ (PySem.W.kat_yes (kat_same h l (i + 1))))
theorem kat_strs {fin : Bool} {Q : Bool → Shared → Prop} : ∀ (xs ys : List Str) (us vs r1 r2 : List Value) (i : Nat), xs.length = ys.length → Vals (xs.map V.str) us → Vals (ys.map V.str) vs → (xs = ys → PySem.W.KatLex prog w A true fin Q (r1.zip r2) (i + xs.length) s) → (xs ≠ ys → Q (lexS xs ys) s) →
    PySem.W.KatLex prog w A true fin Q ((us ++ r1).zip (vs ++ r2)) i s
  | [], [], _, _, r1, r2, i, _, .nil, .nil, h, _ => h rfl
  | x :: xs, y :: ys, _, _, r1, r2, i, hl, .cons hx tx, .cons hy ty, h1, h2 => by
    obtain ⟨t, rfl⟩ := hx
    obtain ⟨u, rfl⟩ := hy
    refine PySem.W.kat_cons (SeqAt.EqAt.str_str x t y u prog w _ _ ?_)
    refine PySem.W.kat_go (fun e1 => ?_) (fun e1 => ?_)
    · have ex : x = y := by simpa using e1
      subst ex
      refine PySem.W.kat_yes (kat_strs xs ys _ _ r1 r2 (i + 1) (Nat.succ.inj hl) tx ty (fun e => ?_) fun ne => ?_)
      · rw [Nat.add_assoc, Nat.add_comm 1]; exact h1 (by rw [e])
      · have := h2 (fun e => ne (List.cons.inj e).2)
        unfold lexS at this
        rw [if_pos rfl] at this
        exact this
    · have ex : ¬ x = y := by simpa using e1
      have q := h2 (fun e => ex (List.cons.inj e).1)
      unfold lexS at q
      rw [if_neg ex] at q
      refine PySem.W.kat_no ?_
      cases i with
      | zero => exact PyProof.Rows.oneLt_str q
      | succ i =>
        have e : (true && (i + 1 == 0)) = false := by simp
        rw [e]
        exact PySem.W.kat_one _ _ (PyProof.Rows.lt_str q)
  | [], _ :: _, _, _, _, _, _, hl, _, _, _, _ => by cases hl
  | _ :: _, [], _, _, _, _, _, hl, _, _, _, _ => by cases hl
theorem strs_cmp {vs : List Value} {m : Nat} {k : Value → List Str} (hp : ∀ v ∈ vs, IsTS s.heap v (k v) ∧ (k v).length = m) (hinj : ∀ v ∈ vs, ∀ u ∈ vs, k v = k u → v = u) : SrtO.Cmp prog w A s (tuples' true) (fun p => p.1 ∈ vs) (SrtO.lt2 fun v u => lexS (k v) (k u)) := by
  intro p q hm hm'
  obtain ⟨h1, l1⟩ := hp _ hm
  obtain ⟨h2, l2⟩ := hp _ hm'
  show wpAny (model prog w) A (keyLt' (tuples' true) p.1 q.1) (fun r s' => s' = s ∧ r = lexS (k p.1) (k q.1)) (fun _ _ => False) s
  by_cases e : k p.1 = k q.1
  · have e' := hinj _ hm _ hm' e
    rw [← e', lexS_irr]
    obtain ⟨a, o, ts, rest, n, ev, ho, hc, hd, hv⟩ := h1
    rw [ev]
    refine PySem.W.kat_lt ho hd ho hd ?_
    exact kat_same ⟨rfl, decide_eq_false (Nat.lt_irrefl _)⟩ _ 0
  · obtain ⟨a, o, ts, rest, n, ev, ho, hc, hd, hv⟩ := h1
    obtain ⟨a', o', ts', rest', n', ev', ho', hc', hd', hv'⟩ := h2
    generalize hx : k p.1 = xs at *
    generalize hy : k q.1 = ys at *
    rw [ev, ev']
    refine PySem.W.kat_lt ho hd ho' hd' ?_
    exact kat_strs xs ys ts ts' rest rest' 0 (l1.trans l2.symm) hv hv' (fun z => absurd z e) fun _ => ⟨rfl, rfl⟩
theorem firstsS : ∀ {vs : List Value} {m : Nat} {k : Value → List Str}, 0 < m → (∀ v ∈ vs, IsTS s.heap v (k v) ∧ (k v).length = m) → ∃ fs : List Value, PySem.W.KatTups s.heap vs fs ∧ fs.length = vs.length ∧ ∀ f ∈ fs, ∃ (x : Str) (t : Tok), f = Value.str x t
  | [], _, _, _, _ => ⟨[], PySem.W.KatTups.nil, rfl, fun _ hm => by simp at hm⟩
  | v :: vs, m, k, h0, hp => by
    obtain ⟨fs, h1, h2, h3⟩ := firstsS (vs := vs) h0 fun v' hm => hp v' (List.mem_cons_of_mem _ hm)
    obtain ⟨⟨a, o, ts, rest, n, e, ho, hc, hd, hv⟩, hl⟩ := hp v List.mem_cons_self
    generalize hk : k v = ks at hv hl
    match ks, ts, hv, hl with
    | x :: ks, _ :: ts, .cons hx tx, _ =>
      obtain ⟨t, rfl⟩ := hx
      refine ⟨.str x t :: fs, ?_, by rw [List.length_cons, List.length_cons, h2], fun f hf => ?_⟩
      · rw [e]
        exact PySem.W.KatTups.cons ho hc hd (by simp) h1
      · rcases List.mem_cons.mp hf with rfl | hf
        · exact ⟨x, t, rfl⟩
        · exact h3 f hf
    | [], _, _, hl => exact absurd hl (by simp; omega)
theorem strs_sortableO {a : Addr} {vs : List Value} {m : Nat} {k : Value → List Str} (hm0 : 0 < m) (h0 : 0 < vs.length) (hp : ∀ v ∈ vs, IsTS s.heap v (k v) ∧ (k v).length = m) (hinj : ∀ v ∈ vs, ∀ u ∈ vs, k v = k u → v = u) (ha : ∀ o, s.heap.get? a = some o → o.cls ≠ .type "tuple") : SrtO.SortableO prog w A s a vs fun v u => lexS (k v) (k u) := by
  intro h' keep
  have hp' : ∀ v ∈ vs, IsTS h' v (k v) ∧ (k v).length = m := fun v hm => ⟨(hp v hm).1.keeps fun b o e c => keep b o (fun z => by subst z; exact ha o e c) e, (hp v hm).2⟩
  obtain ⟨fs, h1, h2, h3⟩ := firstsS (s := { s with heap := h' }) hm0 hp'
  refine ⟨tuples' true, fun Q E hq => ?_, strs_cmp (s := { s with heap := h' }) hp' hinj⟩
  refine PySem.W.kat_kind (T := .type "str") h1 (by omega) (fun f hm => ?_) (by rfl) ?_
  · obtain ⟨x, t, rfl⟩ := h3 f hm
    exact PySem.W.Looks.now
  · have e : (Value.type "str" != Value.type "tuple") = true := by first | decide +kernel | rfl | decide
    rw [e]
    exact hq
theorem sorted_strsO {l : Addr} {vs : List Value} {m : Nat} {k : Value → List Str} {Q : Value → Shared → Prop} (hm0 : 0 < m) (hl : s.heap.IsList l vs.toArray) (hz : vs.length ≤ sizeLine) (hp : ∀ v ∈ vs, IsTS s.heap v (k v) ∧ (k v).length = m) (hinj : ∀ v ∈ vs, ∀ u ∈ vs, k v = k u → v = u)
    (h : ∀ (h' : Heap) (d : Addr) (out : List Value), SrtO.Srtd (fun v u => lexS (k v) (k u)) out → SrtO.Stb (fun v u => lexS (k v) (k u)) out vs → (∀ b o, s.heap.get? b = some o → h'.get? b = some o) → s.heap.objs.size ≤ d → (∃ n, h'.get? d = some (seqObj "list" out.toArray n)) → Q (.ref d) { s with heap := h' }) :
    wpAny (model prog w) A (call (.builtin "sorted") [.ref l]) Q E s := by
  refine SrtO.sorted_ord (swo_lexS k) hl hz (fun h2 h₁ a ha kk => ?_) fun out hs hb => ?_
  · refine strs_sortableO (s := { s with heap := h₁ }) hm0 (by omega) (fun v hm => ⟨(hp v hm).1.keeps fun b o e _ => (kk b o e).2, (hp v hm).2⟩) hinj fun o e => ?_
    have e' : some o = some (seqObj "list" vs.toArray 0) := e.symm.trans ha
    cases e'
    intro c
    exact absurd (Value.type.inj c) (by decide)
  · exact h _ _ out hs hb (fun b o e => PyProof.Rows.sortedAll_old e) (Nat.le_succ _) (PyProof.Rows.sortedAll_at s.heap vs out.toArray)
end
/-- sorted(xs): tuples that begin with m texts each, no two with the same -/
def rSortTS (K : PySem.W.Frag) : List V → Hp → VK → Prop := fun vs H Q => ∃ (a : Addr) (xs : List V) (m : Nat) (k : V → List Str), vs = [V.ref a] ∧ SqL K H a xs ∧ 0 < m ∧ (∀ x ∈ xs, ∃ t rest, x = V.ref t ∧ SqT K H t ((k x).map V.str ++ rest) ∧ (k x).length = m) ∧
  (∀ x ∈ xs, ∀ y ∈ xs, k x = k y → x = y) ∧ ∀ ys p, SrtO.Srtd (fun x y => lexS (k x) (k y)) ys → ys.Perm xs → (∀ t (ks : List Str) rest, V.ref t ∈ xs → ks.length = m → SqT K H t (ks.map V.str ++ rest) → ks = k (.ref t)) → H p = none → Q (.ref p) (upd H p (.lst ys))
theorem vals_split : ∀ {xs ys : List V} {us : List Value}, Vals (xs ++ ys) us → ∃ u1 u2, us = u1 ++ u2 ∧ Vals xs u1 ∧ Vals ys u2
  | [], _, us, h => ⟨[], us, rfl, .nil, h⟩
  | _ :: xs, _, _, .cons h t => by
    obtain ⟨u1, u2, e, h1, h2⟩ := vals_split (xs := xs) t
    exact ⟨_ :: u1, u2, by rw [e]; rfl, .cons h h1, h2⟩
theorem strs_det : ∀ {xs ys : List Str} {us : List Value}, Vals (xs.map V.str) us → Vals (ys.map V.str) us → xs = ys
  | [], [], _, _, _ => rfl
  | x :: xs, y :: ys, _, .cons h1 t1, .cons h2 t2 => by
    obtain ⟨a, rfl⟩ := h1
    obtain ⟨b, e⟩ := h2
    cases e
    rw [strs_det t1 t2]
  | [], _ :: _, _, h1, h2 => by cases h1; cases h2
  | _ :: _, [], _, h1, h2 => by cases h2; cases h1
theorem cr_sortTS {X : Cx} : CallR X (.builtin "sorted") (rSortTS X.K) := by
  intro pins s σ H vs us Q I r h
  obtain ⟨a, xs, m, k, rfl, hs, hm0, hx, hinj, q⟩ := h
  obtain ⟨its, rv, hl, hz⟩ := I.list hs
  obtain ⟨u, rfl, ru⟩ := vals1 r
  obtain rfl : u = Value.ref a := ru
  obtain ⟨e1, e2⟩ := refs_back rv fun x m => by
    obtain ⟨t, rest, e, _⟩ := hx x m
    exact ⟨t, e⟩
  refine sorted_strsO (k := fun u => k (backV u)) hm0 hl.isList (by rw [← rv.length]; exact hz) (fun v hv => ?_) (fun v hv u hu e => ?_) fun h' d out h1 h2 kp hd hn => ?_
  · obtain ⟨t, rfl⟩ := e2 v hv
    have hm : V.ref t ∈ xs := by rw [e1]; exact List.mem_map.mpr ⟨_, hv, rfl⟩
    obtain ⟨t', rest, e, ht, hlen⟩ := hx _ hm
    cases e
    obtain ⟨its2, r2, ⟨o, ho, hc, n, hd⟩, _⟩ := I.tuple ht
    obtain ⟨u1, u2, e3, h3, h4⟩ := vals_split r2
    exact ⟨⟨t, o, u1, u2, n, rfl, ho, hc, by rw [← e3]; exact hd, h3⟩, hlen⟩
  · obtain ⟨t, rfl⟩ := e2 v hv
    obtain ⟨t2, rfl⟩ := e2 u hu
    have hm : V.ref t ∈ xs := by rw [e1]; exact List.mem_map.mpr ⟨_, hv, rfl⟩
    have hm2 : V.ref t2 ∈ xs := by rw [e1]; exact List.mem_map.mpr ⟨_, hu, rfl⟩
    have := hinj _ hm _ hm2 e
    cases this
    rfl
  · have h3 : ∀ u ∈ out, ∃ a, u = Value.ref a := fun u hu => e2 u (h2.perm.mem_iff.mp hu)
    obtain ⟨n, hn⟩ := hn
    have hb : (out.map backV).Perm xs := by
      rw [e1]
      exact h2.perm.map backV
    refine ⟨.ref d, upd H d (.lst (out.map backV)), I.laid (t' := s.toks) kp hd ⟨?_, out, n, vals_back h3, hn⟩, rfl, q _ d ?_ hb ?_ (I.hok.fresh hd)⟩
    · rw [hb.length_eq]
      exact hz
    · exact List.pairwise_map.mpr h1
    · intro t ks rest hm hlen ht
      obtain ⟨t', rest', e, ht', hlen'⟩ := hx _ hm
      cases e
      obtain ⟨i1, r1, ⟨o1, ho1, _, n1, hd1⟩, _⟩ := I.tuple ht
      obtain ⟨i2, r2, ⟨o2, ho2, _, n2, hd2⟩, _⟩ := I.tuple ht'
      rw [ho1] at ho2
      cases ho2
      rw [hd1] at hd2
      cases hd2
      obtain ⟨a1, a2, e3, h3, _⟩ := vals_split r1
      obtain ⟨b1, b2, e4, h4, _⟩ := vals_split r2
      have l1 : a1.length = b1.length := by rw [← h3.length, ← h4.length, List.length_map, List.length_map, hlen, hlen']
      have e5 : a1 = b1 := (List.append_inj (e3.symm.trans e4) l1).1
      subst e5
      exact strs_det h3 h4
/-! the same, at the level of data -/
/-- the texts that a tuple begins with -/
def tkey (m : Nat) : PyData → List Str
  | .tuple ds => (ds.take m).filterMap fun d => match d with
    | .str x => some x
    | _ => none
  | _ => []
section
variable {K : PySem.W.Frag} {B : Hp}
theorem strs_len : ∀ {ds : List PyData} {m : Nat}, ((ds.take m).filterMap fun d => match d with | .str x => some x | _ => none).length = m → ∃ xs rest, ds = (xs : List Str).map .str ++ rest ∧ ((ds.take m).filterMap fun d => match d with | .str x => some x | _ => none) = xs
  | _, 0, _ => ⟨[], _, rfl, rfl⟩
  | [], m + 1, h => by simp at h
  | d :: ds, m + 1, h => by
    rw [List.take_succ_cons, List.filterMap_cons] at h ⊢
    have hle : ∀ l : List PyData, ((l.take m).filterMap fun d => match d with | .str x => some x | _ => none).length ≤ m := fun l => Nat.le_trans (List.length_filterMap_le _ _) (by rw [List.length_take]; omega)
    cases d with
    | str x =>
      obtain ⟨xs, rest, e1, e2⟩ := strs_len (ds := ds) (m := m) (by simpa using h)
      refine ⟨x :: xs, rest, ?_, ?_⟩
      · conv => lhs; rw [e1]
        rfl
      · show x :: _ = x :: xs
        rw [e2]
    | _ => exact absurd h (by have := hle ds; show ¬ (List.filterMap _ (List.take m ds)).length = m + 1; omega)
theorem rp_strs : ∀ {xs : List Str} {rest : List PyData} {vs : List V}, RpAll K B vs (xs.map .str ++ rest) → ∃ r, vs = xs.map V.str ++ r
  | [], _, vs, _ => ⟨vs, rfl⟩
  | x :: xs, rest, _, .cons h t => by
    obtain ⟨r, e⟩ := rp_strs (xs := xs) t
    cases h
    exact ⟨r, by rw [e]; rfl⟩
theorem rp_perm : ∀ {xs ys : List V}, ys.Perm xs → ∀ {ds : List PyData}, RpAll K B xs ds → ∃ es, es.Perm ds ∧ RpAll K B ys es := by
  intro xs ys h
  induction h with
  | nil => intro ds h; cases h; exact ⟨[], .refl _, .nil⟩
  | cons x _ ih =>
    intro ds h
    cases h with
    | cons h t =>
      obtain ⟨es, p, r⟩ := ih t
      exact ⟨_ :: es, p.cons _, .cons h r⟩
  | swap x y l =>
    intro ds h
    cases h with
    | cons h t =>
      cases t with
      | cons h2 t => exact ⟨_ :: _ :: _, .swap _ _ _, .cons h2 (.cons h t)⟩
  | trans _ _ ih1 ih2 =>
    intro ds h
    obtain ⟨es, p, r⟩ := ih2 h
    obtain ⟨fs, p2, r2⟩ := ih1 r
    exact ⟨fs, p2.trans p, r2⟩
/-- the key of the datum that stands at x's first place -/
def kof (m : Nat) : List V → List PyData → V → List Str
  | v :: vs, d :: ds, x => if v = x then tkey m d else kof m vs ds x
  | _, _, _ => []
theorem kof_mem {m : Nat} : ∀ {vs : List V} {ds : List PyData}, RpAll K B vs ds → ∀ x ∈ vs, ∃ (i : Nat) (d : PyData), vs[i]? = some x ∧ ds[i]? = some d ∧ Rp K B x d ∧ kof m vs ds x = tkey m d
  | _, _, .nil, _, h => by cases h
  | v :: vs, d :: ds, .cons h t, x, hm => by
    by_cases e : v = x
    · subst e
      exact ⟨0, d, rfl, rfl, h, by unfold kof; rw [if_pos rfl]⟩
    · have hm : x ∈ vs := by
        rcases List.mem_cons.mp hm with q | q
        · exact absurd q.symm e
        · exact q
      obtain ⟨i, d', h1, h2, h3, h4⟩ := kof_mem (m := m) t x hm
      exact ⟨i + 1, d', h1, h2, h3, by unfold kof; rw [if_neg e]; exact h4⟩
theorem tup_strs {m : Nat} {d : PyData} {x : V} (h0 : 0 < m) (h : (tkey m d).length = m) (hr : Rp K B x d) : ∃ t rest, x = V.ref t ∧ SqT K B t ((tkey m d).map V.str ++ rest) := by
  cases hr with
  | tup hs ha =>
    obtain ⟨xs, rest, e1, e2⟩ := strs_len h
    have e3 : tkey m (.tuple _) = xs := e2
    rw [e3]
    rw [e1] at ha
    obtain ⟨r, e⟩ := rp_strs ha
    exact ⟨_, r, rfl, by rw [← e]; exact hs.sq⟩
  | _ => exact absurd h (by show ¬ 0 = m; omega)
theorem rpAll_get_mem' : ∀ {vs : List V} {ds : List PyData}, RpAll K B vs ds → ∀ d ∈ ds, ∃ v ∈ vs, Rp K B v d
  | _, _, .nil, _, h => by cases h
  | _, _, .cons h t, d, hm => by
    rcases List.mem_cons.mp hm with rfl | hm
    · exact ⟨_, List.mem_cons_self, h⟩
    · obtain ⟨v, h1, h2⟩ := rpAll_get_mem' t d hm
      exact ⟨v, List.mem_cons_of_mem _ h1, h2⟩
def srtD (m : Nat) (es : List PyData) : Prop := es.Pairwise fun x y => lexS (tkey m y) (tkey m x) = false
theorem srt_rel {m : Nat} {k : V → List Str} : ∀ {ys : List V} {es : List PyData}, RpAll K B ys es → (∀ y e, e ∈ es → Rp K B y e → y ∈ ys → tkey m e = k y) → SrtO.Srtd (fun x y => lexS (k x) (k y)) ys → srtD m es
  | _, _, .nil, _, _ => List.Pairwise.nil
  | y :: ys, e :: es, .cons h t, hk, hs => by
    have hs' := List.pairwise_cons.mp hs
    refine List.pairwise_cons.mpr ⟨fun e' he' => ?_, srt_rel t (fun y' e' he' hr hy => hk y' e' (List.mem_cons_of_mem _ he') hr (List.mem_cons_of_mem _ hy)) hs'.2⟩
    have get := rpAll_get_mem' t e' he'
    obtain ⟨y', hy', hr⟩ := get
    rw [hk y e List.mem_cons_self h List.mem_cons_self, hk y' e' (List.mem_cons_of_mem _ he') hr (List.mem_cons_of_mem _ hy')]
    exact hs'.1 y' hy'

/-- sorted of: tuples that begin with m texts, no two alike; texts; a dict's texts -/
def rSortU (K : PySem.W.Frag) : List V → Hp → VK → Prop := fun xs H Q => rSortTS K xs H Q ∨ (rSortedS K xs H Q ∨ ∃ (a : Addr) (kvs : List (Key × V)) (ks : List Str), xs = [.ref a] ∧ Rd H a (.dK kvs) ∧ kvs.map (·.1) = ks.map Sum.inr ∧ ks.length < 64 ∧
    ∀ ys p, ys.Perm ks → sortedS ys = true → H p = none → Q (.ref p) (upd H p (.lst (ys.map V.str))))
theorem call_sortK {X : Cx} (hK : X.K = K) (hc : X.calm = true) : CallR X (.builtin "sorted") (rSortU K) := by
  subst hK
  exact CallR.or cr_sortTS (CallR.or cr_sortedS (call_sortedD hc))
def osorted : List PyData → W Unit PyData
  | [.list ds] => fun s Q => (∃ xs : List Str, ds = xs.map .str ∧ xs.length < 64 ∧ ∀ ys : List Str, ys.Perm xs → sortedS ys = true → Q (.list (ys.map .str)) s) ∨
      ∃ m, 0 < m ∧ (∀ d ∈ ds, (tkey m d).length = m) ∧ (ds.map (tkey m)).Nodup ∧ ∀ es : List PyData, es.Perm ds → srtD m es → Q (.list es) s
  | [.dict es] => fun s Q => ∃ xs : List Str, es.map (·.1) = xs.map .str ∧ xs.length < 64 ∧ ∀ ys : List Str, ys.Perm xs → sortedS ys = true → Q (.list (ys.map .str)) s
  | _ => wfail
theorem ok_sorted : CbOk K (rSortU K) .own osorted := fun B H xs ds hB hx P hp Q g => by
  unfold osorted at hp
  split at hp
  · rename_i ds
    obtain ⟨x, rfl, h⟩ := one_of hx
    obtain ⟨a, xs, rfl, h1, rx⟩ := sr_lst hB h
    rcases hp with ⟨zs, rfl, h64, hp⟩ | ⟨m, hm0, hk, hn, hp⟩
    · rw [strs_of rx] at h1
      exact .inr (.inl ⟨_, zs, rfl, SqL.of h1, h64, fun ys p hpm hs hf => g p _ (.list _) hf (show RpAll K B _ _ from rpAll_strs ys) (hp ys hpm hs)⟩)
    · left
      refine ⟨a, xs, m, kof m xs ds, rfl, SqL.of h1, hm0, fun x hxm => ?_, fun x hxm y hym e => ?_, fun ys p hs hpm hu hpn => ?_⟩
      · obtain ⟨i, d, h1, h2, h3, h4⟩ := kof_mem (m := m) rx x hxm
        obtain ⟨t, rest, e, ht⟩ := tup_strs hm0 (hk d (List.mem_of_getElem? h2)) h3
        rw [h4]
        exact ⟨t, rest, e, sqT_mono hB ht, hk d (List.mem_of_getElem? h2)⟩
      · obtain ⟨i, d, h1, h2, h3, h4⟩ := kof_mem (m := m) rx x hxm
        obtain ⟨j, d', h1', h2', h3', h4'⟩ := kof_mem (m := m) rx y hym
        rw [h4, h4'] at e
        have hi : (ds.map (tkey m))[i]? = some (tkey m d) := by rw [List.getElem?_map, h2]; rfl
        have hj : (ds.map (tkey m))[j]? = some (tkey m d') := by rw [List.getElem?_map, h2']; rfl
        obtain ⟨li, ei⟩ := List.getElem?_eq_some_iff.mp hi
        obtain ⟨lj, ej⟩ := List.getElem?_eq_some_iff.mp hj
        have hij : i = j := (List.getElem_inj hn).mp (by rw [ei, ej, e])
        subst hij
        rw [h1] at h1'
        exact Option.some.inj h1'
      · obtain ⟨es, pe, re⟩ := rp_perm hpm rx
        refine g p (.lst ys) (.list es) hpn (show RpAll K B ys es from re) (hp es pe ?_)
        refine srt_rel re (fun y e he hr hy => ?_) hs
        have hd : e ∈ ds := pe.mem_iff.mp he
        obtain ⟨t, rest, ey, ht⟩ := tup_strs hm0 (hk e hd) hr
        subst ey
        exact hu t _ rest (hpm.mem_iff.mp hy) (hk e hd) (sqT_mono hB ht)
  · rename_i es
    obtain ⟨zs, hk, h64, hp⟩ := hp
    obtain ⟨x, rfl, h⟩ := one_of hx
    have ik : isK es := fun e he => by
      have : e.1 ∈ es.map (·.1) := List.mem_map.mpr ⟨e, he, rfl⟩
      rw [hk] at this
      obtain ⟨z, _, e2⟩ := List.mem_map.mp this
      rw [← e2]
      rfl
    obtain ⟨a, kvs, rfl, h1, r⟩ := sr_dic hB ik h
    have key : ∀ {kvs : List (Key × V)} {es : List (PyData × PyData)} {zs : List Str}, RpKv K B kvs es → es.map (·.1) = zs.map .str → kvs.map (·.1) = zs.map Sum.inr := by
      intro kvs
      induction kvs with
      | nil => intro es zs r e; cases r; cases zs with | nil => rfl | cons _ _ => cases e
      | cons kv kvs ih =>
        intro es zs r e
        cases r with
        | cons h t =>
          rename_i k _ _ _
          cases zs with
          | nil => cases e
          | cons z zs =>
            rw [List.map_cons, List.map_cons] at e
            injection e with e1 e2
            rw [List.map_cons, List.map_cons, ih t e2]
            cases k with
            | inl i => cases e1
            | inr s => cases e1; rfl
    exact .inr (.inr ⟨a, kvs, zs, rfl, h1, key r hk, h64, fun ys p hpm hs hf => g p _ (.list _) hf (show RpAll K B _ _ from rpAll_strs ys) (hp ys hpm hs)⟩)
  · exact hp.elim
end

section
variable {S α : Type} [Res S] {K : PySem.W.Frag} {ρ : List PS} {ta tb tc te : TE} {u : TS} {wa wb wc w : W S PyData} {k1 k2 k3 : EK} {i j l : Nat} {r : RK} {env : α → List PS}
theorem psr_par {kk : PyData → PyData → W S PyData} {ρ' : PyData → PyData → List PS} (ha : Px K ta k1 ρ wa) (hb : Px K tb k2 ρ wb) (hi0 : i < ρ.length) (hi1 : j < ρ.length) (h : ∀ a b, Psr K u r (ρ' a b) (kk a b)) (hk1 : k1 = .dat ∨ k1 = .own := by first | exact .inl rfl | exact .inr rfl) (hk2 : k2 = .dat ∨ k2 = .own := by first | exact .inl rfl | exact .inr rfl) (hρ : ∀ a b, ((ρ.set i (psOf k1 a)).set j (psOf k2 b)) = ρ' a b := by intro _ _; rfl) : Psr K (tSeq (tPar i j (tCons ta (tCons tb tNil))) u) r ρ (wbind wa fun a => wbind wb fun b => kk a b) := pst_par (kk := fun a b => wret (kk a b)) ha hb hi0 hi1 h hk1 hk2 hρ
theorem psn_par {kk : PyData → PyData → W S α} {ρ' : PyData → PyData → List PS} (ha : Px K ta k1 ρ wa) (hb : Px K tb k2 ρ wb) (hi0 : i < ρ.length) (hi1 : j < ρ.length) (h : ∀ a b, Psn K u r (ρ' a b) env (kk a b)) (hk1 : k1 = .dat ∨ k1 = .own := by first | exact .inl rfl | exact .inr rfl) (hk2 : k2 = .dat ∨ k2 = .own := by first | exact .inl rfl | exact .inr rfl) (hρ : ∀ a b, ((ρ.set i (psOf k1 a)).set j (psOf k2 b)) = ρ' a b := by intro _ _; rfl) : Psn K (tSeq (tPar i j (tCons ta (tCons tb tNil))) u) r ρ env (wbind wa fun a => wbind wb fun b => kk a b) := pst_par (kk := fun a b => wbind (kk a b) wnx) ha hb hi0 hi1 h hk1 hk2 hρ
theorem psr_par3 {kk : PyData → PyData → PyData → W S PyData} {ρ' : PyData → PyData → PyData → List PS} (ha : Px K ta k1 ρ wa) (hb : Px K tb k2 ρ wb) (hc : Px K tc k3 ρ wc) (hi0 : i < ρ.length) (hi1 : j < ρ.length) (hi2 : l < ρ.length) (h : ∀ a b c, Psr K u r (ρ' a b c) (kk a b c)) (hk1 : k1 = .dat ∨ k1 = .own := by first | exact .inl rfl | exact .inr rfl) (hk2 : k2 = .dat ∨ k2 = .own := by first | exact .inl rfl | exact .inr rfl) (hk3 : k3 = .dat ∨ k3 = .own := by first | exact .inl rfl | exact .inr rfl) (hρ : ∀ a b c, (((ρ.set i (psOf k1 a)).set j (psOf k2 b)).set l (psOf k3 c)) = ρ' a b c := by intro _ _ _; rfl) : Psr K (tSeq (tPar3 i j l (tCons ta (tCons tb (tCons tc tNil)))) u) r ρ (wbind wa fun a => wbind wb fun b => wbind wc fun c => kk a b c) := pst_par3 (kk := fun a b c => wret (kk a b c)) ha hb hc hi0 hi1 hi2 h hk1 hk2 hk3 hρ
theorem psr_frz {d : PyData} {ρ' : List PS} {m : W S PyData} (hi : ρ[i]? = some (.own d)) (h : Psr K u r ρ' m) (hρ : ρ.set i (.dat d) = ρ' := by rfl) : Psr K u r ρ m := pst_frz hi h hρ
end
end PL

/-! the deck of draws as a list: [cells, mixed, count] -/
namespace PL
open PySem PySem.Spec PyProof.Rows L2
structure DL3 where
  cells : List Int
  mix : Int
  cnt : Int
/-- at p: [the list at l, mix, cnt] -/
def deckAt (s : DL3) (p l : Addr) (H : Hp) : Prop := H p = some (.lst [.ref l, .int s.mix, .int s.cnt]) ∧ H l = some (.lst (s.cells.map V.int)) ∧ p ≠ l
instance : Res DL3 where
  ok := fun s r ad _ H => ∃ l, ad = [r, l] ∧ deckAt s r l H
  loc := fun s r ad B B' H H' _ h q => by
    obtain ⟨l, rfl, h1, h2, h3⟩ := q
    exact ⟨l, rfl, by rw [h r (by simp)]; exact h1, by rw [h l (by simp)]; exact h2, h3⟩
  nt := fun s r ad B H q a ha xs e => by
    obtain ⟨l, rfl, h1, h2, h3⟩ := q
    rcases List.mem_cons.mp ha with rfl | ha
    · rw [h1] at e; cases e
    · rw [List.mem_singleton] at ha; subst ha; rw [h2] at e; cases e
  tr := fun s r ad B B' H H' _ h q => by
    obtain ⟨l, rfl, h1, h2, h3⟩ := q
    exact ⟨l, rfl, by rw [h r (by simp)]; exact h1, by rw [h l (by simp)]; exact h2, h3⟩
section
variable {α : Type} {K : PySem.W.Frag} {C : Cf DL3} {B B' H H' : Hp} {s s' : DL3} {A : List Addr} {ρ ρ' : List PS} {σ : L2.St} {v : V} {d : PyData} {p a : Addr}
  {te : TE} {t u : TS} {tt : TT} {w : W DL3 PyData} {i j : Nat} {r : RK} {env : α → List PS}
def dkMix : W DL3 PyData := fun s Q => Q (.int s.mix) s
def dkCnt : W DL3 PyData := fun s Q => Q (.int s.cnt) s
def dkPop : W DL3 PyData := fun s Q => ∃ z, s.cells.getLast? = some z ∧ Q (.int z) { s with cells := s.cells.dropLast }
def dkNe : W DL3 Bool := fun s Q => s.cells.length ≤ 1000000 ∧ Q (!s.cells.isEmpty) s
def dkSetCnt (w : W DL3 PyData) : W DL3 Unit := wbind w fun d s Q => match d with | .int c => Q () { s with cnt := c } | _ => False
def dkApp (w : W DL3 PyData) : W DL3 Unit := fun s Q => w s fun d s' => match d with | .int z => s'.cells.length < sizeLine ∧ Q () { s' with cells := s'.cells ++ [z] } | _ => False
theorem ints_shaped (ns : List Int) : SeqAt.shaped (.list (ns.map .int)) = true := by
  unfold SeqAt.shaped
  have e1 : PyData.canLayAll0 (ns.map .int) = true := by
    induction ns with
    | nil => rfl
    | cons n ns ih => simp only [List.map_cons, PyData.canLayAll0, PyData.canLay0, ih, Bool.and_self]
  have e2 : PyData.depthAll (ns.map .int) ≤ 0 := by
    clear e1
    induction ns with
    | nil => exact Nat.le_refl _
    | cons n ns ih => simp only [List.map_cons, PyData.depthAll, PyData.depth]; exact Nat.max_le.mpr ⟨Nat.le_refl _, ih⟩
  simp only [PyData.canLay0, e1, PyData.depth, Bool.true_and]
  exact decide_eq_true (by omega)
theorem eqv_nil (ds : List PyData) : PyData.eqv (.list ds) (.list []) = ds.isEmpty := by
  cases ds with
  | nil => simp only [PyData.eqv, PyData.eqvAll]; rfl
  | cons d ds => simp only [PyData.eqv, PyData.eqvAll]; rfl
theorem dp_ints {l : Addr} {ns : List Int} (h : H l = some (.lst (ns.map V.int))) : Dp K H (.ref l) (.list (ns.map .int)) := by
  refine .lst (SqL.of h) ?_
  clear h
  induction ns with
  | nil => exact .nil
  | cons n ns ih => exact .cons (.int n) ih
end
/-! ### the deck is made -/
def mkDk (a b c : PyData) : W Unit DL3 := match a, b, c with
  | .list ds, .int m, .int n => wopt (intsOf ds) fun ns => wpure ⟨ns, m, n⟩
  | _, _, _ => wfail
theorem mkDk_inv {a b c : PyData} {s : Unit} {P : DL3 → Unit → Prop} (h : mkDk a b c s P) : ∃ ds m n, a = .list ds ∧ b = .int m ∧ c = .int n ∧ wopt (intsOf ds) (fun ns => wpure (S := Unit) (⟨ns, m, n⟩ : DL3)) s P := by
  unfold mkDk at h
  split at h
  · exact ⟨_, _, _, rfl, rfl, rfl, h⟩
  · exact h.elim
def noRes : List PS → Bool
  | [] => true
  | .un :: ρ => noRes ρ
  | .dat _ :: ρ => noRes ρ
  | .vw _ :: ρ => noRes ρ
  | .pv _ _ :: ρ => noRes ρ
  | _ :: _ => false
section
variable {α : Type} {K : PySem.W.Frag} {C : Cf Unit} {B B' H H' : Hp} {s s' : Unit} {A : List Addr} {ρ ρ' : List PS} {σ : L2.St} {v : V} {d : PyData} {p a : Addr}
  {ta tb tc : TE} {u ts : TS} {wa wb wc w : W Unit PyData} {i j : Nat} {r : RK} {t : TA}
theorem Sls.plain {S S' : Type} [Res S] [Res S'] {C : Cf S} {C' : Cf S'} {B H H' : Hp} (h : Sls K C B H A ρ σ) (g : Same (Gh C B) (Gh C' B)) (hr : noRes ρ = true) : Sls K C' B H' [] ρ σ := by
  induction h with
  | nil => exact .nil
  | un _ ih => exact .un (ih hr)
  | dat r _ ih => exact .dat r (ih hr)
  | vw r _ ih => exact .vw (r.mono (Same.refl _) g) (ih hr)
  | pv r _ ih => exact .pv (r.mono (Same.refl _) g) (ih hr)
  | dk _ ih => cases hr
  | own _ _ _ _ _ _ _ => cases hr
  | nt _ _ _ _ _ => cases hr
end
section
variable {P : Program} {w : World} {K : PySem.W.Frag} {mg : Str → Option Value} {base : Heap} {x qual : Str} {params : Arguments} {body : List Stmt} {scope : Scope} {dvs : List V} {kws : List (Str × V)} {f : Addr} {fd : FuncData}
end
end PL

/-! instances: attributes, methods, new ones; defs as values -/
namespace PL
open PySem PySem.Spec PyProof.Rows L2
theorem ClsNm.uniq {K : PySem.W.Frag} {nm : Str} {C D : Addr} (h : ClsNm K nm C) (g : ClsNm K nm D) : C = D := by
  have e := h.symm.trans g
  cases e
  rfl
/-- an attribute by its name -/
def fGet (f : Str) : List (PyData × PyData) → Option PyData
  | [] => none
  | (.str g, d) :: es => if f = g then some d else fGet f es
  | _ :: es => fGet f es
def fPut (f : Str) (d : PyData) : List (PyData × PyData) → List (PyData × PyData)
  | [] => [(.str f, d)]
  | (.str g, x) :: es => if g = f then (.str g, d) :: es else (.str g, x) :: fPut f d es
  | e :: es => e :: fPut f d es
/-- o.f, o of the class nm -/
def wfld {S : Type} (nm f : Str) : PyData → W S PyData
  | .dict ((.none, .str n) :: es) => wopt (fGet f es) fun d => wreq (n = nm) d
  | _ => wfail
theorem wfld_inv {S : Type} {nm f : Str} {d : PyData} {s : S} {P : PyData → S → Prop} (h : wfld nm f d s P) : ∃ es x, d = .dict ((.none, .str nm) :: es) ∧ fGet f es = some x ∧ P x s := by
  unfold wfld at h
  split at h
  · obtain ⟨x, h1, h2, h3⟩ := wopt_inv h
    subst h2
    exact ⟨_, x, rfl, h1, h3⟩
  · exact h.elim
section
variable {K : PySem.W.Frag} {B B' H H' : Hp} {x : V}
theorem rpFs_get {f : Str} : ∀ {vs : List (Str × V)} {es : List (PyData × PyData)}, RpFs K B vs es → (∀ d, fGet f es = some d → ∃ v, vs.lookup f = some v ∧ Rp K B v d) ∧ (fGet f es = none → vs.lookup f = none)
  | _, _, .nil => ⟨fun _ h => by simp [fGet] at h, fun _ => rfl⟩
  | _, _, .cons (k := g) (v := v) (kvs := vs) (d := d) (es := es) h t => by
    obtain ⟨i1, i2⟩ := rpFs_get (f := f) t
    by_cases e : f = g
    · have hb : (f == g) = true := beq_iff_eq.mpr e
      simp only [fGet, List.lookup, hb, if_pos e]
      exact ⟨fun _ h' => by cases h'; exact ⟨v, rfl, h⟩, fun h' => by cases h'⟩
    · have hb : (f == g) = false := beq_eq_false_iff_ne.mpr e
      simp only [fGet, List.lookup, hb, if_neg e]
      exact ⟨i1, i2⟩
theorem rpFs_put {f : Str} {v : V} {d : PyData} (r : Rp K B v d) : ∀ {vs : List (Str × V)} {es : List (PyData × PyData)}, RpFs K B vs es → RpFs K B (putF f v vs) (fPut f d es)
  | _, _, .nil => .cons r .nil
  | _, _, .cons (k := g) (v := u) (kvs := vs) (d := e) (es := es) h t => by
    have ih := rpFs_put (f := f) r t
    by_cases e : g = f
    · simp only [fPut, putF, if_pos e]
      exact .cons r t
    · simp only [fPut, putF, if_neg e]
      exact .cons h ih
theorem rpFs_len : ∀ {vs : List (Str × V)} {es : List (PyData × PyData)}, RpFs K B vs es → vs.length = es.length
  | _, _, .nil => rfl
  | _, _, .cons _ t => congrArg Nat.succ (rpFs_len t)
theorem rpKv_none {x : PyData} : ∀ {kvs : List (Key × V)} {es : List (PyData × PyData)}, RpKv K B kvs es → ∀ y es', es = (.none, y) :: es' → False
  | _, _, .nil, _, _, e => by cases e
  | _, _, .cons (k := k) _ _, _, _, e => by
    have e2 := congrArg Prod.fst (List.cons.inj e).1
    cases k <;> cases e2
theorem rpKv_hd : ∀ {kvs : List (Key × V)} {es : List (PyData × PyData)}, RpKv K B kvs es → ∀ x y es', es = (x, y) :: es' → ∃ k, x = kD k
  | _, _, .nil, _, _, _, e => by cases e
  | _, _, .cons (k := k) _ _, _, _, _, e => ⟨k, (congrArg Prod.fst (List.cons.inj e).1).symm⟩
theorem sr_obj {nm : Str} {es : List (PyData × PyData)} (e : Same B H) (h : SR K B H x (.dict ((.none, .str nm) :: es))) : ∃ a C dx vs, x = .ref a ∧ H a = some (.ins C dx vs) ∧ ClsNm K nm C ∧ RpFs K B vs es := by
  cases h with
  | rp h =>
    cases h with
    | dic h r => exact (rpKv_none (x := .none) r _ _ rfl).elim
    | obj c h r => exact ⟨_, _, _, _, rfl, e _ _ h, c, r⟩
  | dic h r => exact (rpKv_none (x := .none) r _ _ rfl).elim
  | obj c h r => exact ⟨_, _, _, _, rfl, h, c, r⟩
end
/-! ### an instance that is being made -/
structure SelfD where
  nm : Str
  es : List (PyData × PyData)
def SelfS (K : PySem.W.Frag) : Type := SelfD
instance (K : PySem.W.Frag) : Res (SelfS K) where
  ok := fun s r ad B H => ad = [r] ∧ ∃ C dx vs, H r = some (.ins C dx vs) ∧ ClsNm K s.nm C ∧ RpFs K B vs s.es
  loc := fun s r ad B B' H H' e h q => by
    obtain ⟨rfl, C, dx, vs, h1, h2, h3⟩ := q
    exact ⟨rfl, C, dx, vs, by rw [h r (by simp)]; exact h1, h2, RpFs.mono e h3⟩
  nt := fun s r ad B H q a ha xs e => by
    obtain ⟨rfl, C, dx, vs, h1, h2, h3⟩ := q
    rw [List.mem_singleton] at ha; subst ha; rw [h1] at e; cases e
  tr := fun s r ad B B' H H' e h q => by
    obtain ⟨rfl, C, dx, vs, h1, h2, h3⟩ := q
    exact ⟨rfl, C, dx, vs, by rw [h r (by simp)]; exact h1, h2, RpFs.tr e h3⟩
/-- self.f = e -/
def wfset (nm f : Str) (w : W SelfD PyData) : W SelfD Unit := wbind w fun d s Q => s.nm = nm ∧ s.es.length < 1000 ∧ Q () { s with es := fPut f d s.es }
section
variable {α : Type} {K : PySem.W.Frag} {B B' H H' : Hp} {A : List Addr} {ρ ρ' : List PS} {σ : L2.St} {v : V} {d : PyData} {p a : Addr}
  {te to : TE} {t u : TS} {i j : Nat} {r : RK} {env : α → List PS}
/-- a change of the instance itself -/
theorem self_put {C : Cf (SelfS K)} {s s' : SelfS K} {o : HO} (hw : Hs C B H s) (hl : Sls K C B H A ρ σ) (ok : C.ok s' B (upd H C.root o)) : Hs C B (upd H C.root o) s' ∧ Sls K C B (upd H C.root o) A ρ σ := by
  have ha : C.root ∈ C.ad := by rw [(show C.ad = [C.root] from hw.ok.1)]; simp
  have hb := hw.adB ha
  refine ⟨⟨fun b u h => ?_, hw.eb, hw.nb, fun b u h n => ?_, fun b h => hw.al b ?_, ok⟩, hl.other fun z => (C.pre _ ha).1 (hl.inA _ z).2.2⟩
  · rw [upd_ne (ne_of_none h hb)]; exact hw.ex b u h
  · rw [upd_ne fun z => n (by rw [z]; exact ha)]; exact hw.fr b u h n
  · by_cases z : b = C.root
    · subst z; rw [upd_same] at h; cases h
    · rw [upd_ne z] at h; exact h
theorem pst_fset {nm f : Str} {w : W SelfD PyData} {kk : W SelfD (Fl α)} (hj : ρ[j]? = some .dk) (hc : ∀ C, ClsNm K nm C → Cls K C ∧ NoAttr K C f) (he : Px (S := SelfS K) K te .dat ρ w) (h : Pst (S := SelfS K) K u r ρ env kk) :
    Pst (S := SelfS K) K (tSeq (sFld K (tVar j) te f) u) r ρ env (wbind (wfset nm f w) fun _ => kk) := fun C B H s A σ hw hl P hp D nx rt => by
  refine he C B H s A σ hw hl _ hp _ fun B1 v1 H1 d1 s1 e1 w1 l1 r1 p1 => ?_
  obtain ⟨p1, p2, p3⟩ := p1
  refine ⟨_, l1.getK hj, ?_⟩
  obtain ⟨had, Cl, dx, vs, h1, h2, h3⟩ := w1.ok
  rw [p1] at h2
  obtain ⟨c1, c2⟩ := hc Cl h2
  refine ⟨C.root, Cl, dx, vs, rfl, h1, c1, c2, by rw [rpFs_len h3]; exact p2, ?_⟩
  have ok : C.ok (S := SelfS K) { s1 with es := fPut f d1 s1.es } B1 (upd H1 C.root (.ins Cl dx (putF f v1 vs))) := ⟨had, Cl, dx, _, upd_same, by rw [p1]; exact h2, rpFs_put r1 h3⟩
  obtain ⟨w2, l2⟩ := self_put w1 l1 ok
  exact h C B1 _ _ A σ w2 l2 P p3 D (fun B2 H2 s2 A2 σ2 a2 e2 w2 l2 p2 => nx B2 H2 s2 A2 σ2 a2 (e1.trans e2) w2 l2 p2) fun B2 v H2 d s2 e2 w2 r2 p2 => rt B2 v H2 d s2 (e1.trans e2) w2 r2 p2
end
/-! ### attributes and methods -/
section
variable {S : Type} [Res S] {K : PySem.W.Frag} {C : Cf S} {B B' H H' : Hp} {s s' : S} {A : List Addr} {ρ ρ' : List PS} {σ : L2.St} {v : V} {d : PyData} {p : Addr}
  {te to : TE} {t : TA} {r : RK} {ks : List EK} {w wo : W S PyData} {ws : List (W S PyData)} {E : XK} {nm f m : Str} {n : Nat} {Cl : Addr}
theorem px_fld (hc : ∀ C, ClsNm K nm C → Cls K C ∧ NoAttr K C f) (he : Px K te .vw ρ w) : Px K (tFld K te f) .dat ρ (wbind w (wfld nm f)) := fun C B H s A σ hw hl P hp Q q =>
  he C B H s A σ hw hl _ hp _ fun B1 v1 H1 d1 s1 e1 w1 l1 r1 p1 => by
    obtain ⟨es, x, rfl, g1, g2⟩ := wfld_inv (show wfld nm f d1 s1 P from p1)
    obtain ⟨a, Cl, dx, vs, rfl, h1, h2, h3⟩ := sr_obj w1.ex (r1 B1 H1 s1 (Same.r _) w1 l1)
    obtain ⟨y, y1, y2⟩ := (rpFs_get h3).1 _ g1
    exact ⟨a, Cl, dx, vs, y, rfl, h1, (hc Cl h2).1, (hc Cl h2).2, y1, q B1 y H1 x s1 e1 w1 l1 y2 g2⟩
/-- o.m(..): o of the class nm, without an attribute of that name -/
def isObj (nm m : Str) : PyData → Prop
  | .dict ((.none, .str n) :: es) => n = nm ∧ fGet m es = none
  | _ => False
theorem isObj_inv (h : isObj nm m d) : ∃ es, d = .dict ((.none, .str nm) :: es) ∧ fGet m es = none := by
  unfold isObj at h
  split at h
  · exact ⟨_, by rw [h.1], h.2⟩
  · exact h.elim
/-- .. before the arguments are asked for -/
def wobj (nm m : Str) (o : PyData) (k : W S PyData) : W S PyData := fun s Q => isObj nm m o ∧ k s Q
theorem meth_core {v : V} {d : PyData} (hC : ClsNm K nm Cl) (hw : Same B H) (hs : SR K B H v d) (h : isObj nm m d) : ∃ a dx vs, v = .ref a ∧ H a = some (.ins Cl dx vs) ∧ vs.lookup m = none := by
  obtain ⟨es, rfl, g⟩ := isObj_inv h
  obtain ⟨a, Cl', dx, vs, rfl, h1, h2, h3⟩ := sr_obj hw hs
  rw [ClsNm.uniq h2 hC] at h1
  exact ⟨a, dx, vs, rfl, h1, (rpFs_get h3).2 g⟩
/-- nm(..): a new instance; F: its __init__ -/
def wmake (nm : Str) (F : List PyData → W SelfD PyData) (as : List PyData) : W S PyData := fun s Q => F (.none :: as) ⟨nm, []⟩ fun d s' => d = .none ∧ Q (.dict ((.none, .str s'.nm) :: s'.es)) s
theorem px_make {F : List PyData → W SelfD PyData} (hC : ClsNm K nm Cl) (ha : Pm K t ks ρ (wl ws)) (hks : ∀ k ∈ ks, k = .dat ∨ k = .vw := by simp) (hn : ks.length = n := by rfl) :
    Px K (tMakeG Cl n (spP (S := SelfS K) K .dat (.dk :: ks) F) E t) .own ρ (wbind (wl ws) fun as => wmake nm F as) := fun C B H s A σ hw hl P hp Q q =>
  ha C B H s A σ hw hl _ hp _ fun B1 vs H1 ds s1 e1 w1 l1 r1 p1 => by
    refine ⟨r1.len.1.trans hn, fun x dx hx hdx ne => ?_⟩
    let H2 : Hp := upd (upd H1 dx (.own x)) x (.ins Cl dx [])
    have h2x : H2 x = some (.ins Cl dx []) := upd_same
    have h2o : ∀ b o, H1 b = some o → H2 b = some o := fun b o e => by
      show upd (upd H1 dx (.own x)) x (.ins Cl dx []) b = some o
      rw [upd_ne (ne_of_none e hx), upd_ne (ne_of_none e hdx)]; exact e
    have hBx : B1 x = none := w1.freeB hx
    let C2 : Cf (SelfS K) := ⟨B1, H2, [x], x, fun a h => by
      have e : a = x := by simpa using h
      subst e
      exact ⟨by rw [h2x]; exact nofun, hBx⟩, fun a o e => h2o _ _ (w1.ex _ _ e)⟩
    have ok2 : C2.ok (S := SelfS K) ⟨nm, []⟩ C2.B0 H2 := ⟨rfl, Cl, dx, [], h2x, hC, .nil⟩
    have hh : Same H1 (Gh C2 B1) := fun a o e => by
      unfold Gh
      cases e1 : B1 a with
      | some u => rw [w1.ex _ _ e1] at e; exact e
      | none =>
        simp only
        rw [if_neg (show a ∉ C2.ad from fun z => by
          have z : a = x := by simpa using (show a ∈ [x] from z)
          rw [z, hx] at e; cases e)]
        exact h2o _ _ e
    refine ⟨C2, .none :: ds, ⟨nm, []⟩, _, rfl, ok2, ⟨rfl, args_of (C2 := C2) rfl hh w1 l1 (fun k m => by rcases hks k m with e | e <;> (subst e; exact ⟨nofun, nofun, nofun⟩)) (fun m => by rcases hks _ m with e | e <;> cases e) r1⟩, p1, fun B' v H' d s' w' r' p' => ?_⟩
    obtain ⟨rfl, p'⟩ := p'
    cases (show Rp K B' v .none from r')
    refine ⟨rfl, ?_⟩
    obtain ⟨_, C', dx', vs', g1, g2, g3⟩ := w'.ok
    have keep : ∀ a o, H1 a = some o → H' a = some o := fun a o e => w'.fr a o (h2o _ _ e) fun z => by
      have z : a = x := by simpa using (show a ∈ [x] from z)
      rw [z, hx] at e; cases e
    have al2 : ∀ a, H2 a = none → H1 a = none := fun a e => by
      cases e1 : H1 a with
      | none => rfl
      | some o => rw [h2o _ _ e1] at e; cases e
    have w3 : Hs C B' H' s1 := by
      refine ⟨w'.ex, w1.eb.trans w'.eb, fun a o e => ?_, fun a o e n => keep a o (w1.fr a o e n), fun a e => w1.al a (al2 a (w'.al a e)), C.loc s1 B1 B' H1 H' w'.eb (fun a ha => ?_) w1.ok⟩
      · rcases w'.nb a o e with z | z | ⟨xs, z1, z2, z3⟩
        · exact w1.nb a o z
        · exact .inr (.inl (w1.al a (al2 a z)))
        · refine .inr ?_
          subst z1
          cases e1 : H1 a with
          | none => exact .inl (w1.al a e1)
          | some u =>
            have z4 := h2o a u e1
            rw [show H2 a = some (.tup xs) from z2] at z4
            cases z4
            exact w1.oldT e1
      · cases e1 : H1 a with
        | none => exact absurd (w1.al a e1) (C.pre a ha).1
        | some o => exact keep a o e1
    have hxB : B' x = none := w'.adB (show x ∈ [x] by simp)
    have l3 : Sls K C B' H' A ρ σ := l1.agree w'.eb (w1.gh2 w'.eb w3.nb) fun a m => by
      obtain ⟨h1, h2, h3⟩ := l1.inA a m
      refine ⟨?_, ?_⟩
      · cases e : H1 a with
        | none => exact absurd e h1.ne
        | some o => exact keep a o e
      · cases e : B' a with
        | none => rfl
        | some o =>
          rcases w'.nb a o e with z | z | ⟨xs, z1, z2, z3⟩
          · rw [show C2.B0 a = B1 a from rfl, h2] at z; cases z
          · exact absurd (al2 a z) h1.ne
          · cases e1 : H1 a with
            | none => exact absurd e1 h1.ne
            | some u =>
              have z4 := h2o a u e1
              rw [show H2 a = some o from z2, z1] at z4
              cases z4
              exact absurd e1 (h1.nt xs)
    exact q B' _ H' (.dict ((.none, .str s'.nm) :: s'.es)) s1 (e1.trans w'.eb) w3 l3 ⟨x, _, rfl, g1, ⟨g2, g3⟩, hxB, w1.al x hx, fun z => (l1.inA x z).1 hx⟩ p'
end
/-! ### a def as a value -/
def fnD (nm : Str) : PyData := .dict [(.bool false, .str nm)]
section
variable {S : Type} [Res S] {K : PySem.W.Frag} {ρ : List PS} {nm : Str} {a : Addr}
theorem px_fnv (h : ClsNm K nm a) : Px (S := S) K (tC (.ref a)) .dat ρ (wpure (fnD nm)) := px_c fun _ => .fn h
end
/-- f(..), f a local name that holds a def -/
def tCallF (i n : Nat) (Sf : Addr → Sp → Prop) (E : XK) (t : TA) : TE := fun σ H Q => ∃ f sp, σ[i]? = some (some (.ref f)) ∧ Sf f sp ∧ t σ H fun vs H1 => vs.length = n ∧ sp vs H1 Q E
section
variable {X : Cx} {CX : CXT} {n i : Nat} {E : XK} {x : Str} {p pos : Pos} {e : Expr} {es : List Expr} {t : TA} {Sf : Addr → Sp → Prop}
theorem pe_callF (hN : X.N[i]? = some x) (hv : Vis X.env.scope x) (hF : ∀ f sp, Sf f sp → ∃ fd ps, FnA X.prog X.w X.K X.mg X.base CX X.A f fd ps sp ∧ PySem.W.keepIn X.K (.ref f) = true ∧ CB X.K fd ps n [] (fun _ a _ => a) []) (hx : Passes CX X E) (ha : PA X (e :: es) t)
    (hdb : (x == ("__debug__" : Str)) = false := by decide) (hcd : (x == ("__classdict__" : Str)) = false := by decide)
    (he : starEach (e :: es) X.env = (false, eval e X.env) :: starEach es X.env := by rfl) (hpl : (backTo pos (starEach es X.env)).any (·.1) = false := by rfl) : PE X (.Call (.Name x p) (e :: es) [] pos) (tCallF i n Sf E t) := by
  refine ⟨fun pins s σ H Q I h => ?_⟩
  obtain ⟨f, sp, hs, hS, ht⟩ := h
  obtain ⟨fd, ps, F, hk, hb⟩ := hF f sp hS
  refine wpAny_Call_Name_kw (thn ((pe_var (pos := p) hN hv hdb hcd).run pins s σ H (fun v H1 => v = .ref f ∧ H1 = H) I ⟨.ref f, hs, rfl, rfl⟩) fun u s1 ⟨v, H1, I1, r1, q1⟩ => ?_)
  obtain ⟨rfl, rfl⟩ := q1
  cases r1
  refine PySem.W.callWith_K (h₀ := X.base) I.ok.mod.kin hk (thn (ha.run pos pins s1 σ _ _ I1 ht) fun us s2 ⟨vs, H2, I2, r, l1, q⟩ => ⟨I2.kIn, ?_⟩) he hpl
  exact run_G (ks := []) (ws := []) F hb hx I2 r .nil l1 rfl q
end
section
variable {S : Type} [Res S] {K : PySem.W.Frag} {ρ : List PS} {i n : Nat} {d : PyData} {ks : List EK} {t : TA} {ws : List (W S PyData)} {E : XK}
abbrev FTab := Str → Option (List PyData → W Unit PyData)
def wfnc (T : FTab) (k : (List PyData → W Unit PyData) → W S PyData) : PyData → W S PyData
  | .dict [(.bool false, .str nm)] => wopt (T nm) k
  | _ => wfail
theorem wfnc_inv {T : FTab} {k : (List PyData → W Unit PyData) → W S PyData} {d : PyData} {s : S} {P : PyData → S → Prop} (h : wfnc T k d s P) : ∃ nm G, d = fnD nm ∧ T nm = some G ∧ k G s P := by
  unfold wfnc at h
  split at h
  · obtain ⟨G, h1, h2⟩ := wopt_inv h
    exact ⟨_, G, rfl, h1, h2⟩
  · exact h.elim
theorem px_callF {T : FTab} (hi : ρ[i]? = some (.dat d)) (ha : Pm K t ks ρ (wl ws)) (hks : ∀ k ∈ ks, k = .dat ∨ k = .vw := by simp) (hn : ks.length = n := by rfl) :
    Px K (tCallF i n (fun f sp => ∃ nm G, T nm = some G ∧ ClsNm K nm f ∧ sp = spP K .dat ks G) E t) .dat ρ (wfnc T (fun G => wbind (wl ws) fun as => wlift (G as)) d) := fun C B H s A σ hw hl P hp Q q => by
  obtain ⟨nm, G, rfl, h1, h2⟩ := wfnc_inv hp
  obtain ⟨v, g1, g2⟩ := hl.getD hi
  generalize hd : fnD nm = dd at g2
  cases g2 with
  | fn c =>
    cases hd
    refine ⟨_, _, g1, ⟨nm, G, h1, c, rfl⟩, ?_⟩
    exact ha C B H s A σ hw hl _ h2 _ fun B1 vs H1 ds s1 e1 w1 l1 r1 p1 => ⟨r1.len.1.trans hn, callP (r := .dat) (.inl rfl) hks w1 l1 r1 p1 fun B' v H' d e2 w2 l2 r2 p2 => q B' v H' d s1 (e1.trans e2) w2 l2 r2 p2⟩
  | dic h r =>
    obtain ⟨k, z⟩ := rpKv_hd r _ _ _ (PyData.dict.inj hd).symm
    cases k <;> cases z
  | dct h r => cases hd
  | obj c h r => cases hd
  | _ => cases hd
def tab2 (n1 : Str) (G1 : List PyData → W Unit PyData) (n2 : Str) (G2 : List PyData → W Unit PyData) : FTab := fun nm => if nm = n1 then some G1 else if nm = n2 then some G2 else none
theorem tab2_ok {P : Program} {w : World} {K : PySem.W.Frag} {mg : Str → Option Value} {base : Heap} {A : Around} {n1 n2 : Str} {G1 G2 : List PyData → W Unit PyData} {f1 f2 : Addr} {fd1 fd2 : FuncData} {ps1 ps2 : List Str}
    (c1 : ClsNm K n1 f1) (o1 : FnA P w K mg base CX0 A f1 fd1 ps1 (spP K .dat ks G1)) (k1 : PySem.W.keepIn K (.ref f1) = true) (b1 : CB K fd1 ps1 n [] (fun _ a _ => a) [])
    (c2 : ClsNm K n2 f2) (o2 : FnA P w K mg base CX0 A f2 fd2 ps2 (spP K .dat ks G2)) (k2 : PySem.W.keepIn K (.ref f2) = true) (b2 : CB K fd2 ps2 n [] (fun _ a _ => a) []) :
    ∀ f sp, (∃ nm G, tab2 n1 G1 n2 G2 nm = some G ∧ ClsNm K nm f ∧ sp = spP K .dat ks G) → ∃ fd ps, FnA P w K mg base CX0 A f fd ps sp ∧ PySem.W.keepIn K (.ref f) = true ∧ CB K fd ps n [] (fun _ a _ => a) [] := by
  rintro f sp ⟨nm, G, h, c, rfl⟩
  unfold tab2 at h
  by_cases e1 : nm = n1
  · rw [if_pos e1] at h
    cases h
    subst e1
    cases ClsNm.uniq c c1
    exact ⟨_, _, o1, k1, b1⟩
  · rw [if_neg e1] at h
    by_cases e2 : nm = n2
    · rw [if_pos e2] at h
      cases h
      subst e2
      cases ClsNm.uniq c c2
      exact ⟨_, _, o2, k2, b2⟩
    · rw [if_neg e2] at h
      cases h
end
end PL

/-! dict(..) of a tuple or list of pairs, of a dict; d.get -/
namespace PL
open PySem PySem.Spec PyProof.Rows L2
theorem tup_keys_none : typeLookup (.type "tuple") "keys" = pure none := am_miss_of_fast (by first | rfl | decide +kernel)
section
variable {prog : Program} {w : World} {A : Around} {E : Value → Shared → Prop}
/-- a tuple has no attribute 'keys' either -/
theorem tup_miss {s : Shared} {tp : Addr} {ob : Obj} {zs : Array Value} {nz : Nat} {Q : Option Value → Shared → Prop} (g0 : s.heap.get? tp = some ob) (g1 : ob.cls = .type "tuple") (g2 : ob.data = .seq zs nz) (g3 : ob.dict = none) (g4 : A.handled = none)
    (fin : ∀ hp2 tk2, (∀ b u, s.heap.get? b = some u → hp2.get? b = some u) → Q none { s with heap := hp2, toks := tk2 }) : wpAny (model prog w) A (getAttr? (.ref tp) "keys") Q E s := by
  obtain ⟨oc, od, oda, osl⟩ := ob
  simp only at g1 g2 g3
  subst g1 g2 g3
  obtain ⟨hp0, gn, dr, tk0, os0⟩ := s
  have tyT : ∀ z, (⟨hp0, gn, dr, z, os0⟩ : Shared).TypeIs (.ref tp) "tuple" := fun _ => ⟨_, g0, rfl⟩
  have miss := tup_keys_none
  have nm : (["__module__", "__name__", "__qualname__", "__doc__", "__annotations__"] : List PySem.Str).contains "keys" = false := by decide +kernel
  have fits : ("keys" : PySem.Str).length + 100 ≤ sizeLine := by first | decide +kernel | size_fits
  have w1 := sub_AttributeError
  have w2 := PySem.F.slot_tuple_getattribute.lookup
  have w3 := PySem.F.slot_tuple_getattribute.bind (.ref tp)
  have w4 := am_tuple_getattr_none
  unfold getAttr? getAttrBy? getAttrBy
  repeat (any_goals (first | assumption | exact tyT _ | ((with_reducible show wpAny _ _ (call (Value.builtin "tuple.__getattribute__") _ _) _ _ _); refine call_meets PySem.F.slot_tuple_getattribute (tyT _) am_entry_tuple_getattribute (PySem.F.args_tuple_getattribute_2 _ _) (meets_getattribute_miss_tuple tp zs nz osl "keys" _ miss nm fits) ⟨g0, g4, fun h' tk' e hx' => ?_⟩) | wp_step))
  obtain ⟨t2, u2, hraised⟩ := hx'.there
  show wpAny _ _ (getattributeRaised _ _ _ _ _ _ _) _ _ _
  unfold getattributeRaised
  repeat (any_goals (first | wp_step | assumption))
  all_goals first | exact fin _ _ hx'.keeps | (dsimp only; repeat (any_goals (first | exact fin _ _ hx'.keeps | assumption | wp_step)))
theorem tup_walk {R : Result → Shared → Prop} {D J tp : Addr} {els : Array Value} {back : Value} (g4 : A.handled = none) (n1 : tp ≠ J) (n2 : D ≠ J) (n3 : D ≠ tp) :
    ∀ (todo : List (Key × Value)) (j : Nat) (done : List (Key × Value)) (cnt : Int) (tk : Tok) (s : Shared), els.size = j + todo.length → done.length + todo.length ≤ sizeLine →
      (∀ (m : Nat) (p : Key × Value), todo[m]? = some p → ∃ (b : Addr) (u : Value), els[j + m]? = some (.ref b) ∧ b ≠ D ∧ b ≠ J ∧ IsTup s.heap b #[u, p.2] ∧ keyIs p.1 u = true) →
      s.heap.IsTupleIter J tp j → s.heap.IsTuple tp els → s.heap.DictOf (mixKind prog w) D done →
      (∀ h2 tk2, h2.DictOf (mixKind prog w) D (merged done todo) → (∀ b o, b ≠ D → b ≠ J → s.heap.get? b = some o → h2.get? b = some o) → R (.ok (.ret back)) { s with heap := h2, toks := tk2 }) →
      codeAny (model prog w) A (.builtin "dict.update.loop" ⟨[.ref D, .ref J, .int cnt tk, back], []⟩) R s
  | [], j, done, cnt, tk, s, z1, z2, hpr, hJ, hT, hD, fin => by
    refine codeAny_builtin ud_entry ?_
    rw [Around.under_plainId ud_plain _]
    show wpAny _ A.in1 (pyNext (.ref J) >>= _) _ _ s
    refine wpAny_bind (wpAny_pyNext_tuple_end (A := A.in1) g4 hJ hT (by first | exact Array.getElem?_eq_none (Nat.le_of_eq z1) | (simp at z1; simp; omega)) fun h2 ex => ?_)
    show wpAny _ A.in1 (Builtin.Dict.addKeywords D [] >>= _) _ _ _
    exact wpAny_bind (wpAny_pure (wpAny_pure (fin h2 s.toks (hD.extBut ex n2) fun b o _ hb e => ex b o hb e)))
  | p :: todo, j, done, cnt, tk, s, z1, z2, hpr, hJ, hT, hD, fin => by
    obtain ⟨b, u, e1, e2, e3, e4, e5⟩ := hpr 0 p rfl
    rw [List.length_cons] at z1 z2
    refine codeAny_builtin ud_entry ?_
    rw [Around.under_plainId ud_plain _]
    show wpAny _ A.in1 (pyNext (.ref J) >>= _) _ _ s
    refine wpAny_bind (wpAny_pyNext_tuple_item (x := .ref b) hJ hT (by simpa using e1) fun h1 hJ1 sb1 => ?_)
    have q1 : IsTup h1 b #[u, p.2] := e4.extBut sb1.extBut e3
    have hT1 : h1.IsTuple tp els := hT.extBut sb1.extBut n1
    have hD1 : h1.DictOf (mixKind prog w) D done := hD.extBut sb1.extBut n2
    obtain ⟨ob, ho, hc, nb, hdt⟩ := id q1
    show wpAny _ A.in1 (holding [Value.ref b] _ >>= _) _ _ _
    refine wpAny_bind (wpAny_holding (wpAny_bind (wpAny_tryCatch ?_)))
    unfold Builtin.Dict.pairItems
    refine wpAny_bind (wpAny_typeOf (T := "tuple") ⟨ob, ho, hc⟩ ?_)
    rw [if_pos (by first | rfl | decide | simp)]
    refine wpAny_bind (wpAny_seqItems ho hdt (wpAny_pure ?_))
    show wpAny _ A.in1 (holding [u, p.2] (dictSet D u p.2)) _ _ _
    refine wpAny_holding (wpAny_dictSet_pairs (knd := mixKind prog w) (k := p.1) e5 hD1 (fun h2 hD2 sb2 => ?_) (by omega))
    refine wpAny_pure ⟨plainId_quiet ud_plain _, tup_walk (els := els) g4 n1 n2 n3 todo (j + 1) (stored done p.1 p.2) (cnt + 1) 0 _ (show els.size = j + 1 + todo.length by omega) ?_ (fun m p' e => ?_) ?_ ?_ hD2 fun h' tk' hd' k => ?_⟩
    · have := stored_length_le done p.1 p.2
      omega
    · obtain ⟨b', u', a1, a2, a3, a4, a5⟩ := hpr (m + 1) p' (by simpa using e)
      refine ⟨b', u', ?_, a2, a3, (a4.extBut sb1.extBut a3).extBut sb2.extBut a2, a5⟩
      rw [show j + 1 + m = j + (m + 1) by omega]
      exact a1
    · exact hJ1.extBut sb2.extBut (Ne.symm n2)
    · exact hT1.extBut sb2.extBut (Ne.symm n3)
    · exact fin h' tk' hd' fun c oc h3 h4 e => k c oc h3 h4 (sb2.extBut c oc h3 (sb1.extBut c oc h4 e))
theorem dict_of_tup {s : Shared} {tp : Addr} {ot : Obj} {els : Array Value} {n : Nat} {prs : List (Key × Value)} {Q : Value → Shared → Prop} (g4 : A.handled = none) (g0 : s.heap.get? tp = some ot) (g1 : ot.cls = .type "tuple") (g3 : ot.dict = none)
    (g2 : ot.data = .seq els n) (z1 : els.size = prs.length) (z2 : prs.length ≤ sizeLine)
    (hpr : ∀ (m : Nat) (p : Key × Value), prs[m]? = some p → ∃ (b : Addr) (u : Value), els[m]? = some (.ref b) ∧ IsTup s.heap b #[u, p.2] ∧ keyIs p.1 u = true)
    (fin : ∀ h2 tk2, h2.DictOf (mixKind prog w) s.heap.objs.size (merged [] prs) → (∀ b o, s.heap.get? b = some o → h2.get? b = some o) → Q (.ref s.heap.objs.size) { s with heap := h2, toks := tk2 }) :
    wpAny (model prog w) A (call (.type "dict") [.ref tp]) Q E s := by
  refine callType_codes (Q₁ := fun v s₁ => v = .ref s.heap.objs.size ∧ s₁ = { s with heap := s.heap.push { cls := .type "dict", data := .dict #[] } }) PySem.F.kt_called_dict (PySem.F.kt_typeCall_dict_1 _) PySem.F.entry_dict_init (kt_code_dict_new _ ⟨rfl, rfl⟩) ?_
  rintro v s₁ ⟨rfl, rfl⟩
  have dnew : (s.heap.push { cls := .type "dict", data := .dict #[] }).DictOf (mixKind prog w) s.heap.objs.size [] := Heap.DictOf.new s.heap
  have up0 : ∀ b o, s.heap.get? b = some o → (s.heap.push { cls := .type "dict", data := .dict #[] }).get? b = some o := fun b o e => Heap.get?_push_of_some _ e
  refine ⟨dnew.typeIs, PySem.F.args_dict_init_2 _ _, ?_⟩
  unfold Builtin.«dict.__init__»
  refine wpAny_bind ?_
  unfold Builtin.Dict.selfAndRest
  refine wpAny_bind (wpAny_notOrdered_dict dnew.typeIs ?_)
  show wpAny _ _ (pure (s.heap.objs.size, [Value.ref tp])) _ _ _
  refine wpAny_pure ?_
  show wpAny _ _ (Builtin.Dict.updateFrom "dict.__init__" s.heap.objs.size (.ref tp) [] .none) _ _ _
  unfold Builtin.Dict.updateFrom
  refine wpAny_bind (wpAny_typeOf (T := "tuple") ⟨ot, up0 _ _ g0, g1⟩ ?_)
  rw [if_pos (by first | rfl | decide | simp)]
  refine wpAny_bind (tup_miss (up0 _ _ g0) g1 g2 g3 g4 fun h1 tk1 up1 => ?_)
  rw [if_pos (show (none : Option Value).isNone = true from rfl)]
  refine wpAny_bind (wpAny_rule ?_)
  have hT1 : h1.IsTuple tp els := ⟨ot, up1 _ _ (up0 _ _ g0), g1, n, g2⟩
  have lt1 : s.heap.objs.size < h1.objs.size := by
    have e : (s.heap.push { cls := .type "dict", data := .dict #[] }).get? s.heap.objs.size = some { cls := .type "dict", data := .dict #[] } := Heap.get?_push_size _ rfl
    exact Heap.lt_size (up1 _ _ e)
  refine wpAny_bind (wpAny_pyIter_tuple hT1 ?_)
  have up2 : ∀ b o, h1.get? b = some o → (h1.push { cls := .type "tuple_iterator", data := .fields #[.ref tp, .int 0 0] }).get? b = some o := fun b o e => Heap.get?_push_of_some _ e
  have lt0 : tp < s.heap.objs.size := Heap.lt_size g0
  have main := tup_walk (prog := prog) (w := w) (A := A.in1) (R := wants (fun r s₂ => r = .none ∧ Q (.ref s.heap.objs.size) s₂) E) (D := s.heap.objs.size) (J := h1.objs.size) (tp := tp) (els := els) (back := Value.none) g4
    (Nat.ne_of_lt (Nat.lt_trans lt0 lt1)) (Nat.ne_of_lt lt1) (Nat.ne_of_gt lt0) prs 0 [] 0 0
    { s with heap := h1.push { cls := .type "tuple_iterator", data := .fields #[.ref tp, .int 0 0] }, toks := tk1 } (by rw [z1, Nat.zero_add]) (by rw [List.length_nil, Nat.zero_add]; exact z2)
    (fun m p e => by
      obtain ⟨b, u, a1, a2, a3⟩ := hpr m p e
      have hb : b < s.heap.objs.size := a2.lt
      exact ⟨b, u, by rw [Nat.zero_add]; exact a1, Nat.ne_of_lt hb, Nat.ne_of_lt (Nat.lt_trans hb lt1), a2.keeps fun c o z => up2 _ _ (up1 _ _ (up0 _ _ z)), a3⟩)
    ⟨_, Heap.get?_push_size _ rfl, rfl, rfl⟩ (hT1.push _) ((dnew.at fun o e => up1 _ _ e).at fun o e => up2 _ _ e)
    (fun h' tk hd' k => ⟨rfl, fin h' tk hd' fun b o e => k b o (Nat.ne_of_lt (Heap.lt_size e)) (Nat.ne_of_lt (Nat.lt_trans (Heap.lt_size e) lt1)) (up2 _ _ (up1 _ _ (up0 _ _ e)))⟩)
  first
    | exact wpAny_pure ⟨plainId_quiet ud_plain _, main⟩
    | exact wpAny_bind (wpAny_pure (wpAny_pure ⟨plainId_quiet ud_plain _, main⟩))
end

section
variable {X : Cx} {K : PySem.W.Frag}
/-- dict(t), t a tuple of pairs whose object is known -/
def rDictZ (K : PySem.W.Frag) : List V → Hp → VK → Prop := fun xs H Q => ∃ (a : Addr) (ps : List Addr) (kvs : List (Key × V)), xs = [.ref a] ∧ ZT K H a (ps.map V.ref) ∧ Paired (fun p kv => SqT K H p [kV kv.1, kv.2]) ps kvs ∧
    ∀ p, H p = none → Q (.ref p) (upd H p (.dK (mergeK [] kvs)))
theorem call_dictZ (hK : X.K = K) (hc : X.calm = true) : CallR X (.type "dict") (rDictZ K) := by
  subst hK
  intro pins s σ H xs us Q I r q
  obtain ⟨a, ps, kvs, ex, hH, hp, q⟩ := q
  subst ex
  obtain ⟨u, eu, rx⟩ := vals1 r
  subst eu
  cases rx
  have core : ∃ (o : Obj) (its : List Value) (n : Nat), s.heap.get? a = some o ∧ o.cls = .type "tuple" ∧ o.dict = none ∧ o.data = .seq its.toArray n ∧ Vals (ps.map V.ref) its ∧ (ps.map V.ref).length ≤ sizeLine := by
    rcases hH with ⟨o, h1, h2⟩ | ⟨o, its, n, h1, h2, h3, h4, h5, h6⟩ | ⟨ks, k0, k1, k2⟩
    · obtain ⟨ho, hz, its, rv, o2, ho2, hcls, n, hdat⟩ : s.heap.get? a = some o ∧ (ps.map V.ref).length ≤ sizeLine ∧ ∃ its : List Value, Vals (ps.map V.ref) its ∧ IsTup s.heap a its.toArray := I.hok a _ h1
      rw [ho] at ho2
      cases ho2
      exact ⟨o, its, n, ho, hcls, h2, hdat, rv, hz⟩
    · exact ⟨o, its.toList, n, I.kIn _ _ h1, h2, h3, by rw [h4], h6, by rw [h6.length]; simpa using h5⟩
    · cases ks with
      | nil => exact absurd rfl k0
      | cons k ks =>
        cases ps with
        | nil => cases k1
        | cons p ps =>
          rw [List.map_cons, List.map_cons] at k1
          injection k1 with k1 _
          cases k <;> cases k1
  obtain ⟨o, its, n, ho, hcls, hd, hdat, rv, hz⟩ := core
  have ei := refs_at rv
  subst ei
  rw [List.length_map] at hz
  obtain ⟨prs, rel, hl, hpr⟩ := pairs_of I hp
  refine dict_of_tup (prs := prs) (I.ok.hd hc) ho hcls hd hdat (by simp [hl]) (by rw [hl]; exact hz) (fun j q' e => ?_) fun h' tk hd' k => ?_
  · obtain ⟨b, u, e1, e2, e3⟩ := hpr j q' e
    exact ⟨b, u, by simp [e1], e2, e3⟩
  · have hm : (s.heap.objs.size == sysModules) = false := beq_eq_false_iff_ne.mpr (Nat.ne_of_gt I.big)
    have hlen : (mergeK [] kvs).length ≤ sizeLine := by
      refine Nat.le_trans (length_mergeK kvs []) ?_
      rw [List.length_nil, Nat.zero_add, rel.length, hl]
      exact hz
    exact ⟨.ref s.heap.objs.size, upd H s.heap.objs.size (.dK (mergeK [] kvs)), I.laid (t' := tk) k (Nat.le_refl _) (show ObjOk X.prog X.w _ _ _ (.dK (mergeK [] kvs)) from ⟨hlen, hm, merged [] prs, KV.merge rel .nil, hd'⟩), rfl, q _ (I.hok.fresh (Nat.le_refl _))⟩
def rDictP (K : PySem.W.Frag) : List V → Hp → VK → Prop := fun xs H Q => ∃ (a : Addr) (ps : List Addr) (kvs : List (Key × V)), xs = [.ref a] ∧ SqL K H a (ps.map V.ref) ∧ Paired (fun p kv => SqT K H p [kV kv.1, kv.2]) ps kvs ∧
    ∀ p, H p = none → Q (.ref p) (upd H p (.dK (mergeK [] kvs)))
def rDictC : List V → Hp → VK → Prop := fun xs H Q => ∃ a kvs, xs = [.ref a] ∧ Rd H a (.dK kvs) ∧ ∀ p, H p = none → Q (.ref p) (upd H p (.dK kvs))
theorem call_dictC : CallR X (.type "dict") rDictC := by
  intro pins s σ H xs us Q I r q
  obtain ⟨a, kvs, ex, hH, q⟩ := q
  subst ex
  obtain ⟨u, eu, rx⟩ := vals1 r
  subst eu
  cases rx
  exact d_copyOf I hH fun p s' hp I' => ⟨.ref p, _, I', rfl, q p hp⟩
def rDictU (K : PySem.W.Frag) : List V → Hp → VK → Prop := fun xs H Q => rDictZ K xs H Q ∨ rDictP K xs H Q ∨ rDictC xs H Q
theorem call_dictK (hK : X.K = K) (hc : X.calm = true := by rfl) : CallR X (.type "dict") (rDictU K) := by
  subst hK
  exact CallR.or (call_dictZ rfl hc) (CallR.or (call_dictP hc) call_dictC)
end
/-! by data -/
def pairD (e : Key × PyData) : PyData := .tuple [kD e.1, e.2]
def pairsOf : List PyData → Option (List (Key × PyData))
  | [] => some []
  | .tuple [k, d] :: ds => match keyD k, pairsOf ds with
    | some j, some r => some ((j, d) :: r)
    | _, _ => none
  | _ => none
/-- put in one after the other -/
def mergeD (es : List (PyData × PyData)) (ps : List (Key × PyData)) : List (PyData × PyData) := ps.foldl (fun acc e => dPut acc (kD e.1) e.2) es
def odict : List PyData → W Unit PyData
  | [.tuple ds] => wopt (pairsOf ds) fun ps => wpure (.dict (mergeD [] ps))
  | [.list ds] => wopt (pairsOf ds) fun ps => wpure (.dict (mergeD [] ps))
  | [.dict es] => wreq (isK es) (.dict es)
  | _ => wfail
section
variable {K : PySem.W.Frag} {B B' H H' : Hp}
theorem pairsOf_eq : ∀ {ds : List PyData} {ps : List (Key × PyData)}, pairsOf ds = some ps → ds = ps.map pairD
  | [], _, h => by cases h; rfl
  | .tuple [k, d] :: ds, ps, h => by
    simp only [pairsOf] at h
    cases e1 : keyD k with
    | none => rw [e1] at h; cases h
    | some j =>
      cases e2 : pairsOf ds with
      | none => rw [e1, e2] at h; cases h
      | some r =>
        rw [e1, e2] at h
        cases h
        rw [pairsOf_eq e2, key_of_kD e1]
        rfl
  | .tuple [] :: _, _, h => by cases h
  | .tuple [_] :: _, _, h => by cases h
  | .tuple (_ :: _ :: _ :: _) :: _, _, h => by cases h
  | .none :: _, _, h => by cases h
  | .bool _ :: _, _, h => by cases h
  | .int _ :: _, _, h => by cases h
  | .str _ :: _, _, h => by cases h
  | .list _ :: _, _, h => by cases h
  | .dict _ :: _, _, h => by cases h
theorem rp_kD {v : V} {k : Key} (h : Rp K B v (kD k)) : v = kV k := by
  cases k with
  | inl i => cases (show Rp K B v (.int i) from h); rfl
  | inr x => cases (show Rp K B v (.str x) from h); rfl
theorem pairs_rel {H : Hp} (ex : Same B H) : ∀ {xs : List V} {kes : List (Key × PyData)}, RpAll K B xs (kes.map pairD) → ∃ (ps : List Addr) (kvs : List (Key × V)), xs = ps.map V.ref ∧ Paired (fun p kv => SqT K H p [kV kv.1, kv.2]) ps kvs ∧ Paired (fun p q => p.1 = q.1 ∧ Rp K B q.2 p.2) kes kvs
  | _, [], h => by
    rw [List.map_nil] at h
    cases h
    exact ⟨[], [], rfl, .nil, .nil⟩
  | _, (k, d) :: kes, h => by
    rw [List.map_cons] at h
    generalize hp : pairD (k, d) = pd at h
    cases h with
    | cons h t =>
      obtain ⟨ps, kvs, e1, e2, e3⟩ := pairs_rel ex t
      subst hp
      cases h with
      | tup hs ha =>
        cases ha with
        | cons h1 ha =>
          cases ha with
          | cons h2 ha =>
            cases ha
            have ek := rp_kD h1
            subst ek
            exact ⟨_ :: ps, (k, _) :: kvs, by rw [e1]; rfl, .cons (sqT_mono ex hs.sq) e2, .cons ⟨rfl, h2⟩ e3⟩
theorem merge_rel : ∀ {kes : List (Key × PyData)} {kvs : List (Key × V)} {a : List (Key × V)} {b : List (PyData × PyData)}, Paired (fun p q => p.1 = q.1 ∧ Rp K B q.2 p.2) kes kvs → RpKv K B a b → RpKv K B (mergeK a kvs) (mergeD b kes)
  | _, _, _, _, .nil, r => r
  | (k, d) :: kes, (k', v) :: kvs, a, b, .cons h t, r => by
    obtain ⟨h1, h2⟩ := h
    have h1 : k = k' := h1
    subst h1
    exact merge_rel (kes := kes) (kvs := kvs) (a := putK a k v) (b := dPut b (kD k) d) t (dPut_rel h2 r)
theorem ok_dict : CbOk K (rDictU K) .own odict := fun B H xs ds hB hp P hq Q g => by
  unfold odict at hq
  split at hq
  · cases hp with
    | cons hx t =>
      cases t
      obtain ⟨kes, he, hq2⟩ := wopt_inv hq
      obtain rfl := pairsOf_eq he
      obtain ⟨a, ys, rfl, h1, h2⟩ := sr_tupS hx
      obtain ⟨ps, kvs, rfl, e2, e3⟩ := pairs_rel hB h2
      exact .inl ⟨a, ps, kvs, rfl, zt_mono hB h1, e2, fun p hp => g p _ (.dict (mergeD [] kes)) hp (show RpKv K B _ _ from merge_rel e3 .nil) hq2⟩
  · cases hp with
    | cons hx t =>
      cases t
      obtain ⟨kes, he, hq2⟩ := wopt_inv hq
      obtain rfl := pairsOf_eq he
      obtain ⟨a, ys, rfl, h1, h2⟩ := sr_lst hB hx
      obtain ⟨ps, kvs, rfl, e2, e3⟩ := pairs_rel hB h2
      exact .inr (.inl ⟨a, ps, kvs, rfl, SqL.of h1, e2, fun p hp => g p _ (.dict (mergeD [] kes)) hp (show RpKv K B _ _ from merge_rel e3 .nil) hq2⟩)
  · cases hp with
    | cons hx t =>
      cases t
      obtain ⟨hk, hq⟩ := hq
      obtain ⟨a, kvs, rfl, h1, h2⟩ := sr_dic hB hk hx
      exact .inr (.inr ⟨a, kvs, rfl, h1, fun p hp => g p _ (.dict _) hp (show RpKv K B _ _ from h2) hq⟩)
  · exact hq.elim
end
/-! d.get -/
def wget2 (o k x : PyData) : W Unit PyData := match o, k with
  | .dict es, .tuple ks => ktD es ks fun es => wpure ((dGet es (.tuple ks)).getD x)
  | .dict es, k => wreq (kOk es k) ((dGet es k).getD x)
  | _, _ => wfail
section
variable {S : Type} [Res S] {K : PySem.W.Frag} {C : Cf S} {B B' H H' : Hp} {s s' : S} {A : List Addr} {ρ ρ' : List PS} {σ : L2.St} {v y : V} {d k : PyData} {p : Addr}
  {ta tb tc : TE} {w wa wb wc : W S PyData}
/-- o is a dict of ints and texts, or one with tuple keys -/
def isDct : PyData → Prop
  | .dict es => isK es ∨ ∃ es', es = (.bool true, .none) :: es'
  | _ => False
def wdct (o : PyData) (k : W S PyData) : W S PyData := fun s Q => isDct o ∧ k s Q
theorem isDct_sr {o : PyData} (h : isDct o) (hB : Same B H) (hv : SR K B H v o) : ∃ a, v = .ref a ∧ IsD H a := by
  unfold isDct at h
  split at h
  · rcases h with hk | ⟨es', rfl⟩
    · obtain ⟨a, kvs, rfl, h1, _⟩ := sr_dic hB hk hv
      exact ⟨a, rfl, .inl ⟨kvs, h1⟩⟩
    · obtain ⟨a, kvs, rfl, h1, _⟩ := sr_dct hB hv
      exact ⟨a, rfl, .inr ⟨kvs, h1⟩⟩
  · exact h.elim
theorem rpKv_opt {k : Key} {kvs : List (Key × V)} {es : List (PyData × PyData)} {z : V} {x : PyData} (h : RpKv K B kvs es) (r : Rp K B z x) : Rp K B ((valV kvs k).getD z) ((dGet es (kD k)).getD x) := by
  obtain ⟨i1, i2, _⟩ := rpKv_get (k := k) h
  cases e : dGet es (kD k) with
  | none => rw [i2 e]; exact r
  | some d => obtain ⟨v, h1, h2⟩ := i1 d e; rw [h1]; exact h2
theorem rpKt_opt {k : List Key} {kvs : List (List Key × V)} {es : List (PyData × PyData)} {z : V} {x : PyData} (h : RpKt K B kvs es) (r : Rp K B z x) : Rp K B ((valV kvs k).getD z) ((dGet es (.tuple (k.map kD))).getD x) := by
  obtain ⟨i1, i2, _⟩ := rpKt_get (k := k) h
  cases e : dGet es (.tuple (k.map kD)) with
  | none => rw [i2 e]; exact r
  | some d => obtain ⟨v, h1, h2⟩ := i1 d e; rw [h1]; exact h2
theorem wget2_sr {a : Addr} {o x : PyData} {z : V} {s : Unit} {P : PyData → Unit → Prop} (h : wget2 o k x s P) (hB : Same B H) (ho : SR K B H (.ref a) o) (hk : SR K B H y k) (hz : Rp K B z x) : ∃ o d, DGetS K H a y o ∧ Rp K B (o.getD z) d ∧ P d s := by
  unfold wget2 at h
  split at h
  · obtain ⟨es', k, rfl, rfl, h2⟩ := ktD_inv h
    obtain ⟨a', kvs, e, r1, q⟩ := sr_kt hB ho hk
    cases e
    exact ⟨_, _, q, rpKt_opt r1 hz, h2⟩
  · obtain ⟨h1, h2⟩ := h
    obtain ⟨j, rfl⟩ := h1.key
    obtain ⟨a', kvs, e, g1, g2⟩ := sr_dic hB h1.1 ho
    cases e
    cases sr_key hk
    exact ⟨_, _, .inl (DGet.kr g1), rpKv_opt g2 hz, h2⟩
  · exact h.elim
theorem px_get2 (ha : Px K ta .vw ρ wa) (hb : Px K tb .vw ρ wb) (hc : Px K tc .dat ρ wc) : Px K (tDGet2S K ta tb tc) .dat ρ (wbind wa fun o => wdct o (wbind wb fun k => wbind wc fun x => wlift (wget2 o k x))) := fun C B H s A σ hw hl P hp Q q =>
  ha C B H s A σ hw hl _ hp _ fun B1 v1 H1 d1 s1 e1 w1 l1 r1 p1 => by
    obtain ⟨hd, p1⟩ := p1
    obtain ⟨a, rfl, h1⟩ := isDct_sr hd w1.ex (r1 B1 H1 s1 (Same.r _) w1 l1)
    refine ⟨a, rfl, h1, hb C B1 H1 s1 A σ w1 l1 _ p1 _ fun B2 v2 H2 d2 s2 e2 w2 l2 r2 p2 => hc C B2 H2 s2 A σ w2 l2 _ p2 _ fun B3 v3 H3 d3 s3 e3 w3 l3 r3 p3 => ?_⟩
    obtain ⟨o, d, g1, g2, p3⟩ := wget2_sr p3 w3.ex (r1 B3 H3 s3 (e2.trans e3) w3 l3) (r2 B3 H3 s3 e3 w3 l3) r3
    exact ⟨_, g1, q B3 _ H3 _ s3 ((e1.trans e2).trans e3) w3 l3 g2 p3⟩
end
end PL

/-! the end of a field's __init__: a dict by node of dicts by neighbour -/
namespace PL
open PySem PySem.Spec PyProof.Rows L2
/-- what a node's dict holds -/
def adjStep (x : Str) (acc : List (PyData × PyData)) (c : Str × Str × PyData) : List (PyData × PyData) :=
  let acc := if x = c.1 then dPut acc (.str c.2.1) c.2.2 else acc
  if x = c.2.1 then dPut acc (.str c.1) c.2.2 else acc
def adj (cs : List (Str × Str × PyData)) (x : Str) : List (PyData × PyData) := cs.foldl (adjStep x) []
def chD (c : Str × Str × PyData) : PyData := .tuple [.str c.1, .str c.2.1, c.2.2]
def netD (xs : List Str) (f : Str → List (PyData × PyData)) : List (PyData × PyData) := xs.map fun x => (.str x, .dict (f x))
/-- the end: nodes xs, channels cs -/
def wnets (nm f : Str) (nodes channels : PyData) : W SelfD (Fl Unit) := fun s Q => ∃ (xs : List Str) (cs : List (Str × Str × PyData)), nodes = .list (xs.map .str) ∧ xs.Nodup ∧ xs.length < 2000 ∧ channels = .tuple (cs.map chD) ∧ cs.length < 2000 ∧ (∀ c ∈ cs, c.1 ∈ xs ∧ c.2.1 ∈ xs) ∧
  s.nm = nm ∧ s.es.length < 1000 ∧ Q (.nx ()) { s with es := fPut f (.dict (netD xs (adj cs))) s.es }
def noOwn : List PS → Bool
  | [] => true
  | .own _ :: _ => false
  | .nt _ _ :: _ => false
  | _ :: ρ => noOwn ρ
section
variable {S S' : Type} [Res S] [Res S'] {K : PySem.W.Frag} {B B' H H' : Hp} {A : List Addr} {ρ ρ' ρ0 : List PS} {σ : L2.St} {v : V} {d : PyData}
theorem Sls.noOwnA {C : Cf S} (h : Sls K C B H A ρ σ) (hn : noOwn ρ = true) : A = [] := by
  induction h with
  | nil => rfl
  | un _ ih => exact ih hn
  | dat _ _ ih => exact ih hn
  | vw _ _ ih => exact ih hn
  | pv _ _ ih => exact ih hn
  | dk _ ih => exact ih hn
  | own _ _ _ _ _ _ _ => cases hn
  | nt _ _ _ _ _ => cases hn
theorem Sls.toC {C : Cf S} {C' : Cf S'} (h : Sls K C B H A ρ σ) (hn : noOwn ρ = true) (g : Same (Gh C B) (Gh C' B)) (hr : C'.root = C.root) : Sls K C' B H' [] ρ σ := by
  induction h with
  | nil => exact .nil
  | un _ ih => exact .un (ih hn)
  | dat r _ ih => exact .dat r (ih hn)
  | vw r _ ih => exact .vw (r.mono (Same.refl _) g) (ih hn)
  | pv r _ ih => exact .pv (r.mono (Same.refl _) g) (ih hn)
  | dk _ ih => rw [← hr]; exact .dk (ih hn)
  | own _ _ _ _ _ _ _ => cases hn
  | nt _ _ _ _ _ => cases hn
end
/-- the dicts as they stand -/
structure Nets (K : PySem.W.Frag) {S : Type} (C : Cf S) (B H : Hp) (q : Addr) (ad : Str → Addr) (xs : List Str) (f : Str → List (PyData × PyData)) : Prop where
  top : H q = some (.dK (xs.map fun x => (.inr x, .ref (ad x))))
  bq : B q = none
  hq : C.H0 q = none
  inj : ∀ x ∈ xs, ∀ y ∈ xs, ad x = ad y → x = y
  ne : ∀ x ∈ xs, ad x ≠ q
  bx : ∀ x ∈ xs, B (ad x) = none
  hx : ∀ x ∈ xs, C.H0 (ad x) = none
  at_ : ∀ x ∈ xs, ∃ kvs, H (ad x) = some (.dK kvs) ∧ RpKv K B kvs (f x)
theorem valV_names (ad : Str → Addr) {a : Str} : ∀ {xs : List Str}, a ∈ xs → valV (xs.map fun x => ((.inr x : Key), V.ref (ad x))) (.inr a) = some (.ref (ad a))
  | x :: xs, h => by
    by_cases e : x = a
    · rw [List.map_cons, valV_pos (by show (Sum.inr x : Key) = Sum.inr a; rw [e]), e]
    · rw [List.map_cons, valV_neg (by show ¬ (Sum.inr x : Key) = Sum.inr a; intro z; exact e (Sum.inr.inj z))]
      rcases List.mem_cons.mp h with z | z
      · exact absurd z.symm e
      · exact valV_names ad z
theorem putK_names (ad : Str → Addr) {a : Str} {v : V} {xs : List Str} (h : a ∉ xs) : putK (xs.map fun x => ((.inr x : Key), V.ref (ad x))) (.inr a) v = (xs.map fun x => ((.inr x : Key), V.ref (ad x))) ++ [(.inr a, v)] := by
  unfold putK
  rw [if_neg]
  rw [List.any_map, Bool.not_eq_true, List.any_eq_false]
  intro x hx
  simp only [Function.comp, decide_eq_true_eq]
  intro z
  exact h (by rw [← Sum.inr.inj z]; exact hx)
theorem dPut_len (es : List (PyData × PyData)) (k v : PyData) : (dPut es k v).length ≤ es.length + 1 := by
  unfold dPut
  split
  · rw [List.length_map]; omega
  · rw [List.length_append, List.length_singleton]; omega
section
variable {S : Type} [Res S] {K : PySem.W.Frag} {C : Cf S} {B B' H H' : Hp} {s : S} {A : List Addr} {ρ ρ' ρ0 : List PS} {σ : L2.St} {v : V} {d w : PyData} {q : Addr} {ad : Str → Addr} {xs : List Str} {f : Str → List (PyData × PyData)} {a b : Str}
theorem Nets.put (n : Nets K C B H q ad xs f) (ha : a ∈ xs) (r : Rp K B v w) : ∃ kvs, H (ad a) = some (.dK kvs) ∧ kvs.length = (f a).length ∧ Nets K C B (upd H (ad a) (.dK (putK kvs (.inr b) v))) q ad xs (fun x => if x = a then dPut (f a) (.str b) w else f x) := by
  obtain ⟨kvs, h1, h2⟩ := n.at_ a ha
  refine ⟨kvs, h1, rpKv_len h2, ?_, n.bq, n.hq, n.inj, n.ne, n.bx, n.hx, fun x hx => ?_⟩
  · rw [upd_ne (Ne.symm (n.ne a ha))]; exact n.top
  · by_cases e : x = a
    · subst e
      exact ⟨_, upd_same, by simp only [if_pos]; exact dPut_rel (k := .inr b) r h2⟩
    · obtain ⟨kvs', g1, g2⟩ := n.at_ x hx
      exact ⟨kvs', by rw [upd_ne fun z => e (n.inj x hx a ha z)]; exact g1, by simp only [if_neg e]; exact g2⟩
theorem Nets.grow (hw : Hs C B H s) (n : Nets K C B H q ad xs f) (g : Grow B H B' H') : Nets K C B' H' q ad xs f := by
  have nb : ∀ p o, H p = some o → B p = none → (∀ xs, o ≠ .tup xs) → B' p = none := fun p o h1 h2 h3 => by
    cases e : B' p with
    | none => rfl
    | some u =>
      rcases g.n p u e with z | z | ⟨xs, z1, z2⟩
      · rw [h2] at z; cases z
      · rw [h1] at z; cases z
      · rw [z1, h1] at z2; exact absurd (Option.some.inj z2) (h3 xs)
  refine ⟨g.h _ _ n.top, nb _ _ n.top n.bq nofun, n.hq, n.inj, n.ne, fun x hx => ?_, n.hx, fun x hx => ?_⟩
  · obtain ⟨kvs, h1, _⟩ := n.at_ x hx
    exact nb _ _ h1 (n.bx x hx) nofun
  · obtain ⟨kvs, h1, h2⟩ := n.at_ x hx
    exact ⟨kvs, g.h _ _ h1, RpKv.mono g.b h2⟩
/-- all frozen at once -/
theorem Nets.frz (hw : Hs C B H s) (hl : Sls K C B H [] ρ σ) (n : Nets K C B H q ad xs f) : ∃ B', Same B B' ∧ Hs C B' H s ∧ Sls K C B' H [] ρ σ ∧ Rp K B' (.ref q) (.dict (netD xs f)) := by
  classical
  let sp : Addr → Prop := fun a => a = q ∨ ∃ x ∈ xs, a = ad x
  let B' : Hp := fun a => if sp a then H a else B a
  have spN : ∀ a, sp a → B a = none ∧ C.H0 a = none := by
    rintro a (rfl | ⟨x, hx, rfl⟩)
    · exact ⟨n.bq, n.hq⟩
    · exact ⟨n.bx x hx, n.hx x hx⟩
  have hs : Same B B' := fun a o e => by
    show (if sp a then H a else B a) = some o
    rw [if_neg fun z => by rw [(spN a z).1] at e; cases e]
    exact e
  have ex : Same B' H := fun a o e => by
    have e : (if sp a then H a else B a) = some o := e
    by_cases z : sp a
    · rw [if_pos z] at e; exact e
    · rw [if_neg z] at e; exact hw.ex _ _ e
  have nb : ∀ a o, B' a = some o → C.B0 a = some o ∨ (C.H0 a = none ∨ Old C.H0 C.ad a o) := fun a o e => by
    have e : (if sp a then H a else B a) = some o := e
    by_cases z : sp a
    · exact .inr (.inl (spN a z).2)
    · rw [if_neg z] at e; exact hw.nb a o e
  have w2 : Hs C B' H s := ⟨ex, hw.eb.trans hs, nb, hw.fr, hw.al, C.loc s B B' H H hs (fun _ _ => rfl) hw.ok⟩
  refine ⟨B', hs, w2, hl.agree hs (hw.gh2 hs nb) (fun a z => by cases z), .dic (kvs := xs.map fun x => (.inr x, .ref (ad x))) (by refine .inl ?_; show (if sp q then H q else B q) = _; rw [if_pos (.inl rfl)]; exact n.top) ?_⟩
  have core : ∀ ys : List Str, (∀ y ∈ ys, y ∈ xs) → RpKv K B' (ys.map fun x => (.inr x, .ref (ad x))) (netD ys f) := by
    intro ys
    induction ys with
    | nil => intro _; exact .nil
    | cons y ys ih =>
      intro h
      obtain ⟨kvs, h1, h2⟩ := n.at_ y (h y List.mem_cons_self)
      refine RpKv.cons (k := .inr y) (.dic (kvs := kvs) ?_ (h2.mono hs)) (ih fun z hz => h z (List.mem_cons_of_mem _ hz))
      refine .inl ?_
      show (if sp (ad y) then H (ad y) else B (ad y)) = _
      rw [if_pos (.inr ⟨y, h y List.mem_cons_self, rfl⟩)]
      exact h1
  exact core xs fun _ z => z
/-- one store -/
theorem nets_store {D : Ends} {fN : Str} {ia ib iw j : Nat} {Cl dx : Addr} {fs : List (Str × V)} {root : Addr} (n : Nets K C B H q ad xs f) (ha : a ∈ xs) (hz : (f a).length < sizeLine) (r : Rp K B v w) (s0 : σ[j]? = some (some (.ref root))) (s1 : σ[ia]? = some (some (.str a))) (s2 : σ[ib]? = some (some (.str b))) (s3 : σ[iw]? = some (some v))
    (hr : H root = some (.ins Cl dx fs)) (hc : Cls K Cl ∧ NoAttr K Cl fN) (hf : fs.lookup fN = some (.ref q)) (hnr : C.H0 root ≠ none)
    (k : ∀ kvs, H (ad a) = some (.dK kvs) → Nets K C B (upd H (ad a) (.dK (putK kvs (.inr b) v))) q ad xs (fun x => if x = a then dPut (f a) (.str b) w else f x) → D.nx σ (upd H (ad a) (.dK (putK kvs (.inr b) v)))) :
    sDPut (tDGet (tFld K (tVar j) fN) (tVar ia)) (tVar ib) (tVar iw) D σ H := by
  obtain ⟨kvs, h1, h2, h3⟩ := n.put (b := b) ha r
  refine ⟨v, s3, _, s0, root, Cl, dx, fs, .ref q, rfl, hr, hc.1, hc.2, hf, _, s1, q, .ref (ad a), rfl, ?_, _, s2, ad a, _, rfl, DPut.k (k := .inr b) h1 (by rw [h2]; exact hz), k kvs h1 h3⟩
  have := DGet.k (k := .inr a) n.top
  rw [valV_names ad ha] at this
  exact this

variable {Cs : Cf (SelfS K)} {ss : SelfS K}
def adjA (c : Str × Str × PyData) (f : Str → List (PyData × PyData)) : Str → List (PyData × PyData) := fun x => if x = c.1 then dPut (f c.1) (.str c.2.1) c.2.2 else f x
def adjB (c : Str × Str × PyData) (f : Str → List (PyData × PyData)) : Str → List (PyData × PyData) := fun x => if x = c.2.1 then dPut (f c.2.1) (.str c.1) c.2.2 else f x
theorem adj_snoc (cs : List (Str × Str × PyData)) (c : Str × Str × PyData) : adj (cs ++ [c]) = adjB c (adjA c (adj cs)) := by
  funext x
  unfold adj adjB adjA
  rw [List.foldl_append]
  show adjStep x (cs.foldl (adjStep x) []) c = _
  unfold adjStep
  by_cases e1 : x = c.1
  · by_cases e2 : x = c.2.1
    · simp only [if_pos e1, if_pos e2, ← e2, ← e1]
    · simp only [if_pos e1, if_neg e2, ← e1]
  · by_cases e2 : x = c.2.1
    · simp only [if_neg e1, if_pos e2, ← e2]
    · simp only [if_neg e1, if_neg e2]
theorem adj_len (x : Str) : ∀ cs : List (Str × Str × PyData), (adj cs x).length ≤ 2 * cs.length := by
  intro cs
  unfold adj
  suffices h : ∀ (cs : List (Str × Str × PyData)) (acc : List (PyData × PyData)), (cs.foldl (adjStep x) acc).length ≤ acc.length + 2 * cs.length by
    have := h cs []
    simpa using this
  intro cs
  induction cs with
  | nil => intro acc; simp
  | cons c cs ih =>
    intro acc
    rw [List.foldl_cons, List.length_cons]
    have h1 := ih (adjStep x acc c)
    have h2 : (adjStep x acc c).length ≤ acc.length + 2 := by
      have a1 := dPut_len acc (.str c.2.1) c.2.2
      have a2 := dPut_len acc (.str c.1) c.2.2
      have a3 := dPut_len (dPut acc (.str c.2.1) c.2.2) (.str c.1) c.2.2
      by_cases e1 : x = c.1
      · by_cases e2 : x = c.2.1
        · rw [show adjStep x acc c = dPut (dPut acc (.str c.2.1) c.2.2) (.str c.1) c.2.2 by unfold adjStep; rw [if_pos e1, if_pos e2]]; omega
        · rw [show adjStep x acc c = dPut acc (.str c.2.1) c.2.2 by unfold adjStep; rw [if_pos e1, if_neg e2]]; omega
      · by_cases e2 : x = c.2.1
        · rw [show adjStep x acc c = dPut acc (.str c.1) c.2.2 by unfold adjStep; rw [if_neg e1, if_pos e2]]; omega
        · rw [show adjStep x acc c = acc by unfold adjStep; rw [if_neg e1, if_neg e2]]; omega
    omega
/-- the dict of empty dicts -/
theorem dc_nets {S : Type} [Res S] {C : Cf S} {s : S} {i jn : Nat} {Q : VK} {xs : List Str} (nd : xs.Nodup) (zx : xs.length < 2000) (hw : Hs C B H s) (hl : Sls K C B H [] ρ σ) (hi : ρ[i]? = some (.dat (.list (xs.map .str)))) (hjn : jn < ρ.length)
    (q0 : ∀ B' q ad H', Same B B' → Hs C B' H' s → Sls K C B' H' [] ρ σ → Nets K C B' H' q ad xs (fun _ => []) → Q (.ref q) H') :
    tDc (iSeq K (tVar i)) (gName jn) tYes (tVar jn) tDNewK [jn] σ H Q := by
  have hlen : σ.length = ρ.length := hl.len.symm
  refine pi_sq (pf_dat (px_var hi)) C B H s [] σ hw hl (fun it s' => it = xs.map .str ∧ s' = s) ⟨rfl, rfl⟩ _ fun B1 J H1 it s1 e1 w1 l1 ok p1 => ?_
  obtain ⟨rfl, rfl⟩ := p1
  intro q hq
  have gq := Grow.newU (o := .dK []) w1.ex hq
  refine ⟨fun i m H => m = xs.length - i ∧ i ≤ xs.length ∧ ∃ B' ad, Same B1 B' ∧ Hs C B' H s1 ∧ Sls K C B' H [] ρ σ ∧ Nets K C B' H q ad (xs.take i) (fun _ => []), ⟨xs.length, by simp, Nat.zero_le _, B1, fun _ => 0, Same.refl _, w1.grow gq, l1.grow w1 gq, ⟨upd_same, w1.freeB hq, w1.al q hq, by simp, by simp, by simp, by simp, by simp⟩⟩, ?_⟩
  rintro i m H2 ⟨rfl, hi2, B2, ad, e2, w2, l2, n2⟩
  obtain ⟨stop, go⟩ := ok B2 H2 s1 e2 w2 i
  by_cases hlt : i < xs.length
  · have hd0 : (xs.map PyData.str)[i]? = some (.str xs[i]) := by simp [hlt]
    obtain ⟨g1, g2⟩ := go _ hd0
    have hnotin : xs[i] ∉ xs.take i := by
      intro hm
      have nd2 := nd
      rw [← List.take_append_drop i xs, List.nodup_append] at nd2
      refine nd2.2.2 _ hm xs[i] ?_ rfl
      rw [List.drop_eq_getElem_cons hlt]
      exact List.mem_cons_self
    refine .inr ⟨g1, fun H' => ∃ B' ad, Same B1 B' ∧ Hs C B' H' s1 ∧ Sls K C B' H' [] ρ σ ∧ Nets K C B' H' q ad (xs.take (i + 1)) (fun _ => []), ?_, ?_⟩
    · rintro H' ⟨B', ad', z⟩
      exact ⟨xs.length - (i + 1), by omega, rfl, hlt, B', ad', z⟩
    · intro x H3 hy
      obtain ⟨B3, gr, sx⟩ := g2 x H3 hy
      cases (show Rp K B3 x (.str xs[i]) from sx)
      have w3 := w2.grow gr
      have l3 := l2.grow w2 gr
      have n3 := n2.grow w2 gr
      refine ⟨?_, ?_⟩
      · show wipe ((wipe σ [jn]).set jn _) [jn] = wipe σ [jn]
        rw [wipe_set (by simp), wipe_idem]
      · unfold tYes
        dsimp only
        rw [if_pos rfl]
        refine ⟨.str xs[i], by show ((σ.set jn none).set jn _)[jn]? = _; simp [hlen, hjn], ?_⟩
        intro p hp'
        have hpq : p ≠ q := fun z => by rw [z, n3.top] at hp'; cases hp'
        have gp := Grow.newU (o := .dK []) w3.ex hp'
        refine ⟨_, .inr xs[i], rfl, by rw [upd_ne (Ne.symm hpq)]; exact n3.top, by rw [List.length_map, List.length_take]; have : (2000 : Nat) ≤ sizeLine := (by decide); omega, ?_⟩
        rw [putK_names ad hnotin]
        have w4 := w3.grow gp
        have n4 := n3.grow w3 gp
        let ad2 : Str → Addr := fun y => if y = xs[i] then p else ad y
        have hne : ∀ y ∈ xs.take i, y ≠ xs[i] := fun y hy z => hnotin (by rw [← z]; exact hy)
        have hpn : ∀ y ∈ xs.take i, ad y ≠ p := fun y hy z => by
          obtain ⟨kvs, h1, _⟩ := n3.at_ y hy
          rw [z, hp'] at h1; cases h1
        have hpB : B3 p = none := w3.freeB hp'
        have hp0 : C.H0 p = none := w3.al p hp'
        have w5 : Hs C B3 (upd (upd H3 p (.dK [])) q (.dK (((xs.take i).map fun x => (.inr x, V.ref (ad x))) ++ [(.inr xs[i], .ref p)]))) s1 := w4.put n4.bq n4.hq
        refine ⟨B3, ad2, e2.trans gr.b, w5, (l3.grow w3 gp).other (by simp), ?_⟩
        have htk : xs.take (i + 1) = xs.take i ++ [xs[i]] := (List.take_append_getElem hlt).symm
        rw [htk]
        have had : ∀ y ∈ xs.take i, ad2 y = ad y := fun y hy => if_neg (hne y hy)
        have hadi : ad2 xs[i] = p := if_pos rfl
        refine ⟨?_, n4.bq, n4.hq, fun x hx y hy z => ?_, fun x hx => ?_, fun x hx => ?_, fun x hx => ?_, fun x hx => ?_⟩
        · rw [upd_same, List.map_append]
          congr 3
          · refine List.map_congr_left fun y hy => ?_
            rw [had y hy]
          · show [(Sum.inr xs[i], V.ref p)] = [(Sum.inr xs[i], V.ref (ad2 xs[i]))]
            rw [hadi]
        · rcases List.mem_append.mp hx with hx | hx <;> rcases List.mem_append.mp hy with hy | hy
          · rw [had x hx, had y hy] at z; exact n4.inj x hx y hy z
          · rw [List.mem_singleton.mp hy, hadi, had x hx] at z; exact absurd z (hpn x hx)
          · rw [List.mem_singleton.mp hx, hadi, had y hy] at z; exact absurd z.symm (hpn y hy)
          · rw [List.mem_singleton.mp hx, List.mem_singleton.mp hy]
        · rcases List.mem_append.mp hx with hx | hx
          · rw [had x hx]; exact n4.ne x hx
          · rw [List.mem_singleton.mp hx, hadi]; exact hpq
        · rcases List.mem_append.mp hx with hx | hx
          · rw [had x hx]; exact n4.bx x hx
          · rw [List.mem_singleton.mp hx, hadi]; exact hpB
        · rcases List.mem_append.mp hx with hx | hx
          · rw [had x hx]; exact n4.hx x hx
          · rw [List.mem_singleton.mp hx, hadi]; exact hp0
        · rcases List.mem_append.mp hx with hx | hx
          · rw [had x hx]
            obtain ⟨kvs, h1, h2⟩ := n4.at_ x hx
            exact ⟨kvs, by rw [upd_ne (n4.ne x hx)]; exact h1, h2⟩
          · rw [List.mem_singleton.mp hx, hadi]
            exact ⟨[], by rw [upd_ne hpq]; exact upd_same, .nil⟩
  · have e : i = xs.length := by omega
    subst e
    rw [List.take_length] at n2
    exact .inl ⟨stop (by simp), q0 B2 q ad H2 (e1.trans e2) w2 l2 n2⟩
theorem noOwn_set {x : PyData} : ∀ {ρ : List PS} {i : Nat}, noOwn ρ = true → noOwn (ρ.set i (.dat x)) = true
  | [], _, h => h
  | p :: ρ, 0, h => by cases p <;> first | exact h | cases h
  | p :: ρ, i + 1, h => by
    cases p with
    | own _ => cases h
    | nt _ _ => cases h
    | _ => exact noOwn_set (ρ := ρ) (i := i) h
theorem nets_for {C : Cf Unit} {c ia ib iw : Nat} {fN : Str} {cs : List (Str × Str × PyData)} {D : Ends} {Cl dx : Addr} {fs : List (Str × V)} {ms : List Bool}
    (hne : ia ≠ ib ∧ ib ≠ iw ∧ ia ≠ iw ∧ ia ≠ 0 ∧ ib ≠ 0 ∧ iw ≠ 0 ∧ ia < ρ.length ∧ ib < ρ.length ∧ iw < ρ.length) (hno : noOwn ρ = true)
    (hk : ∀ x y z, keep ms (((ρ.set ia (.dat x)).set ib (.dat y)).set iw (.dat z)) = ρ) (hj : ρ[0]? = some .dk) (hc : ρ[c]? = some (.dat (.tuple (cs.map chD)))) (hcc : Cls K Cl ∧ NoAttr K Cl fN)
    (zc : cs.length < 2000) (hcs : ∀ c ∈ cs, c.1 ∈ xs ∧ c.2.1 ∈ xs) (hw : Hs C B H ()) (hl : Sls K C B H [] ρ σ) (hr : H C.root = some (.ins Cl dx fs)) (hB : B C.root = none) (h0 : C.H0 C.root ≠ none) (hf : fs.lookup fN = some (.ref q)) (n : Nets K C B H q ad xs (adj []))
    (q0 : ∀ B' H' σ', Same B B' → Hs C B' H' () → Sls K C B' H' [] ρ σ' → H' C.root = some (.ins Cl dx fs) → Nets K C B' H' q ad xs (adj cs) → D.nx σ' H') :
    tFor (iSeq K (tVar c)) (gTup K 3 (gCons (gName ia) (gCons (gName ib) (gCons (gName iw) gNil))))
        (tSeq (sDPut (tDGet (tFld K (tVar 0) fN) (tVar ia)) (tVar ib) (tVar iw)) (tSeq (sDPut (tDGet (tFld K (tVar 0) fN) (tVar ib)) (tVar ia) (tVar iw)) tNext)) D σ H := by
  have nead : ∀ x ∈ xs, ad x ≠ C.root := fun x hx z => h0 (by rw [← z]; exact n.hx x hx)
  obtain ⟨v, hv, rv⟩ := hl.getD hc
  obtain ⟨a, xsv, rfl, r, hx⟩ := tup_at (C := C) (show Sv K C B v (.tuple (cs.map chD)) from .rp rv)
  have ok := it_tup (C := C) hx r
  refine ⟨_, hv, .inr (.inl ⟨a, rfl, ⟨xsv, hx B H () (Same.refl _) hw⟩, ?_⟩)⟩
  refine ⟨fun i m σ' H' => m = cs.length - i ∧ i ≤ cs.length ∧ ∃ B', Same B B' ∧ Hs C B' H' () ∧ Sls K C B' H' [] ρ σ' ∧ H' C.root = some (.ins Cl dx fs) ∧ Nets K C B' H' q ad xs (adj (cs.take i)), ⟨cs.length, by simp, Nat.zero_le _, B, Same.refl _, hw, hl, hr, n⟩, ?_⟩
  rintro i m σ1 H1 ⟨rfl, hi, B1, e1, w1, l1, r1, n1⟩
  obtain ⟨stop, go⟩ := ok B1 H1 () e1 w1 i
  by_cases hlt : i < cs.length
  · have hd0 : (cs.map chD)[i]? = some (chD cs[i]) := by simp [hlt]
    obtain ⟨g1, g2⟩ := go _ hd0
    refine .inr ⟨g1, fun σ' H' => ∃ B', Same B B' ∧ Hs C B' H' () ∧ Sls K C B' H' [] ρ σ' ∧ H' C.root = some (.ins Cl dx fs) ∧ Nets K C B' H' q ad xs (adj (cs.take (i + 1))), ?_, ?_⟩
    · rintro σ' H' ⟨B', z⟩
      exact ⟨cs.length - (i + 1), by omega, rfl, hlt, B', z⟩
    · intro x H3 hy
      obtain ⟨B3, gr, sx⟩ := g2 x H3 hy
      have w3 := w1.grow gr
      have l3 := l1.grow w1 gr
      have n3 := n1.grow w1 gr
      have hr3 := gr.h _ _ r1
      have pg := pg_3 (S := Unit) (K := K) (wk := false) (pg_n (ρ := ρ) (i := ia) (ρ' := fun x => ρ.set ia (.dat x)) fun _ => rfl) (fun x => pg_n (ρ := ρ.set ia (.dat x)) (i := ib) (ρ' := fun y => (ρ.set ia (.dat x)).set ib (.dat y)) fun _ => rfl)
        (fun x y => pg_n (ρ := (ρ.set ia (.dat x)).set ib (.dat y)) (i := iw) (ρ' := fun z => ((ρ.set ia (.dat x)).set ib (.dat y)).set iw (.dat z)) fun _ => rfl)
      refine pg C B3 H3 () [] σ1 x (chD cs[i]) w3 l3 sx (fun abc _ => abc = (.str cs[i].1, .str cs[i].2.1, cs[i].2.2)) rfl _ fun A4 σ4 abc l4 p4 => ?_
      subst p4
      obtain rfl := l4.noOwnA (noOwn_set (noOwn_set (noOwn_set hno)))
      obtain ⟨d1, d2, d3, d4, d5, d6, d7, d8, d9⟩ := hne
      obtain ⟨va, sa, ra⟩ := l4.getD (i := ia) (d := .str cs[i].1) (by simp [d1, d3, d7, Ne.symm d1, Ne.symm d3])
      obtain ⟨vb, sb, rb⟩ := l4.getD (i := ib) (d := .str cs[i].2.1) (by simp [d2, d8, Ne.symm d2])
      obtain ⟨vw, sw, rw'⟩ := l4.getD (i := iw) (d := cs[i].2.2) (by simp [d9])
      cases ra
      cases rb
      have s0 := l4.getK (i := 0) (by simp [d4, d5, d6, hj])
      obtain ⟨m1, m2⟩ := hcs cs[i] (List.getElem_mem hlt)
      have zl : ∀ x, (adj (cs.take i) x).length < 4000 := fun x => by
        have := adj_len x (cs.take i)
        rw [List.length_take] at this
        omega
      have z4 : (5000 : Nat) ≤ sizeLine := by decide
      refine nets_store n3 m1 (Nat.lt_of_lt_of_le (Nat.lt_trans (zl _) (by decide)) z4) rw' s0 sa sb sw hr3 hcc hf h0 fun kvs k1 n4 => ?_
      have w4 := w3.put (o := .dK (putK kvs (.inr cs[i].2.1) vw)) (n3.bx _ m1) (n3.hx _ m1)
      have hr4 : (upd H3 (ad cs[i].1) (.dK (putK kvs (.inr cs[i].2.1) vw))) C.root = some (.ins Cl dx fs) := by rw [upd_ne (Ne.symm (nead _ m1))]; exact hr3
      refine nets_store n4 m2 ?_ rw' s0 sb sa sw hr4 hcc hf h0 fun kvs' k2 n5 => ?_
      · have a1 := zl cs[i].2.1
        have a2 := zl cs[i].1
        have a3 := dPut_len (adj (cs.take i) cs[i].1) (.str cs[i].2.1) cs[i].2.2
        show (if cs[i].2.1 = cs[i].1 then _ else _ : List (PyData × PyData)).length < sizeLine
        split <;> omega
      · have w5 := w4.put (o := .dK (putK kvs' (.inr cs[i].1) vw)) (n3.bx _ m2) (n3.hx _ m2)
        obtain ⟨A6, l6, q6⟩ := ((l4.other (by simp)).other (by simp)).keep ms (H := upd (upd H3 (ad cs[i].1) (.dK (putK kvs (.inr cs[i].2.1) vw))) (ad cs[i].2.1) (.dK (putK kvs' (.inr cs[i].1) vw)))
        rw [hk] at l6
        obtain rfl := l6.noOwnA hno
        refine ⟨B3, e1.trans gr.b, w5, l6, by rw [upd_ne (Ne.symm (nead _ m2))]; exact hr4, ?_⟩
        have htk : cs.take (i + 1) = cs.take i ++ [cs[i]] := (List.take_append_getElem hlt).symm
        rw [htk, adj_snoc]
        exact n5
  · have e : i = cs.length := by omega
    subst e
    rw [List.take_length] at n1
    exact .inl ⟨stop (by simp), q0 B1 H1 σ1 e1 w1 l1 r1 n1⟩
theorem pst_nets {r : RK} {ms : List Bool} {nmC fN : Str} {i c ia ib iw jn : Nat} {nodes channels : PyData} {env env2 : Unit → List PS} {ms2 : List Bool} (hj : ρ[0]? = some .dk) (hi : ρ[i]? = some (.dat nodes)) (hcn : ρ[c]? = some (.dat channels)) (hjn : jn < ρ.length) (hno : noOwn ρ = true)
    (hcc : ∀ C, ClsNm K nmC C → Cls K C ∧ NoAttr K C fN) (hne : ia ≠ ib ∧ ib ≠ iw ∧ ia ≠ iw ∧ ia ≠ 0 ∧ ib ≠ 0 ∧ iw ≠ 0 ∧ ia < ρ.length ∧ ib < ρ.length ∧ iw < ρ.length)
    (h0 : ∀ x y z, keep ms (((ρ.set ia (.dat x)).set ib (.dat y)).set iw (.dat z)) = env ()) (h1 : keep ms ρ = env ()) (h2 : (env ())[0]? = some .dk) (h3 : noOwn (env ()) = true)
    (h4 : ∀ x y z, keep ms ((((env ()).set ia (.dat x)).set ib (.dat y)).set iw (.dat z)) = env ()) (h5 : (env ()).length = ρ.length) (hc2 : (env ())[c]? = some (.dat channels)) (h6 : keep ms2 (env ()) = env2 ()) :
    Pst (S := SelfS K) K (tSeq (sFld K (tVar 0) (tDc (iSeq K (tVar i)) (gName jn) tYes (tVar jn) tDNewK [jn]) fN)
      (tSeq (tFor (iSeq K (tVar c)) (gTup K 3 (gCons (gName ia) (gCons (gName ib) (gCons (gName iw) gNil))))
        (tSeq (sDPut (tDGet (tFld K (tVar 0) fN) (tVar ia)) (tVar ib) (tVar iw)) (tSeq (sDPut (tDGet (tFld K (tVar 0) fN) (tVar ib)) (tVar ia) (tVar iw)) tNext))) tNext)) r ρ env2 (wnets nmC fN nodes channels) := fun C B H s A σ hw hl P hp D nx rt => by
  obtain ⟨xs, cs, rfl, nd, zx, rfl, zc, hcs, hnm, hes, hp⟩ := hp
  obtain rfl := hl.noOwnA hno
  have hlen : σ.length = ρ.length := hl.len.symm
  have r0 := hl.getK hj
  unfold tSeq sFld
  refine dc_nets nd zx hw hl hi hjn fun B1 q ad H1 e1 w1 l1 n1 => ?_
  refine ⟨_, r0, ?_⟩
  obtain ⟨had, Cl, dx, vs, g1, g2, g3⟩ := w1.ok
  rw [hnm] at g2
  have hroot : C.H0 C.root ≠ none := (C.pre C.root (by rw [show C.ad = [C.root] from had]; simp)).1
  refine ⟨C.root, Cl, dx, vs, rfl, g1, (hcc Cl g2).1, (hcc Cl g2).2, by rw [rpFs_len g3]; exact hes, ?_⟩
  -- the instance is looked at as a place like others
  let C2 : Cf Unit := ⟨C.B0, C.H0, C.ad, C.root, C.pre, C.bh⟩
  have neq : q ≠ C.root := fun z => hroot (by rw [← z]; exact n1.hq)
  have nead : ∀ x ∈ xs, ad x ≠ C.root := fun x hx z => hroot (by rw [← z]; exact n1.hx x hx)
  let H2 : Hp := upd H1 C.root (.ins Cl dx (putF fN (.ref q) vs))
  have hroot2 : H2 C.root = some (.ins Cl dx (putF fN (.ref q) vs)) := upd_same
  have hBr : B1 C.root = none := w1.adB (by rw [show C.ad = [C.root] from had]; simp)
  have w2 : Hs C2 B1 H2 () := by
    refine ⟨fun a o e => ?_, w1.eb, w1.nb, fun a o e n => ?_, fun a e => w1.al a ?_, fun a ha xs => ?_⟩
    · show upd H1 C.root _ a = some o
      rw [upd_ne (ne_of_none e hBr)]; exact w1.ex _ _ e
    · show upd H1 C.root _ a = some o
      rw [upd_ne fun z => n (by rw [show C2.ad = [C.root] from had, z]; simp)]; exact w1.fr a o e n
    · by_cases z : a = C.root
      · rw [z] at e; rw [hroot2] at e; cases e
      · have e : upd H1 C.root _ a = none := e
        rw [upd_ne z] at e; exact e
    · rw [show C2.ad = [C.root] from had, List.mem_singleton] at ha
      rw [ha, hroot2]
      exact nofun
  have n2 : Nets K C2 B1 H2 q ad xs (adj []) := by
    refine ⟨?_, n1.bq, n1.hq, n1.inj, n1.ne, n1.bx, n1.hx, fun x hx => ?_⟩
    · show upd H1 C.root _ q = _
      rw [upd_ne neq]; exact n1.top
    · obtain ⟨kvs, k1, k2⟩ := n1.at_ x hx
      refine ⟨kvs, ?_, k2⟩
      show upd H1 C.root _ (ad x) = _
      rw [upd_ne (nead x hx)]; exact k1
  obtain ⟨A2, lk, _⟩ := l1.keep ms
  rw [h1] at lk
  have l2 : Sls K C2 B1 H2 [] (env ()) σ := lk.toC h3 (Same.refl _) rfl
  have hf2 : (putF fN (V.ref q) vs).lookup fN = some (.ref q) := by rw [lookup_putF, if_pos rfl]
  obtain ⟨hne1, hne2, hne3, hne4, hne5, hne6, hne7, hne8, hne9⟩ := hne
  refine nets_for ⟨hne1, hne2, hne3, hne4, hne5, hne6, by rw [h5]; exact hne7, by rw [h5]; exact hne8, by rw [h5]; exact hne9⟩ h3 h4 h2 hc2 (hcc Cl g2) zc hcs w2 l2 hroot2 hBr hroot hf2 n2 fun B3 H3 σ3 e3 w3 l3 r3 n3 => ?_
  obtain ⟨B4, e4, w4, l4, rp4⟩ := n3.frz w3 l3
  let s' : SelfS K := ({ nm := s.nm, es := fPut fN (.dict (netD xs (adj cs))) s.es } : SelfD)
  have w5 : Hs C B4 H3 s' := by
    refine ⟨w4.ex, w4.eb, w4.nb, w4.fr, w4.al, had, Cl, dx, _, r3, ?_, rpFs_put rp4 (g3.mono (e3.trans e4))⟩
    rw [show s'.nm = s.nm from rfl, hnm]
    exact g2
  have l5 : Sls K C B4 H3 [] (env ()) σ3 := l4.toC h3 (Same.refl _) rfl
  obtain ⟨A6, l6, _⟩ := l5.keep ms2
  rw [h6] at l6
  exact nx B4 H3 s' A6 σ3 () ((e1.trans e3).trans e4) w5 l6 hp
end
end PL

/-! expressions that change an own thing: xs.pop(e) -/
namespace PL
open PySem PySem.Spec PyProof.Rows L2
section
variable {S α β : Type} [Res S] {K : PySem.W.Frag} {C C2 : Cf S} {B B' H H' : Hp} {s s' : S} {A : List Addr} {ρ ρ' : List PS} {σ : L2.St} {v : V} {d : PyData} {p : Addr}
  {te tb : TE} {ts u : TS} {w wb : W S PyData} {wx : W S (PyData × PyData)} {k : EK} {i j : Nat} {r : RK} {env : β → List PS}
theorem RpAll.erase : ∀ {vs : List V} {ds : List PyData} (n : Nat), RpAll K B vs ds → RpAll K B (vs.eraseIdx n) (ds.eraseIdx n)
  | _, _, _, .nil => .nil
  | _, _, 0, .cons _ t => t
  | _, _, n + 1, .cons h t => .cons h (RpAll.erase n t)
/-- an expression that changes the own thing of slot i, d before -/
def Pxo (K : PySem.W.Frag) (te : TE) (k : EK) (i : Nat) (ρ : List PS) (w : W S (PyData × PyData)) : Prop :=
  ∀ (C : Cf S) B H s A σ, Hs C B H s → Sls K C B H A ρ σ → ∀ P, w s P → ∀ Q : VK,
    (∀ B' v H' x d' s', Same B B' → Hs C B' H' s' → Sls K C B' H' A (ρ.set i (.own d')) σ → ER K C B' H' A (ρ.set i (.own d')) σ k v x → P (x, d') s' → Q v H') → te σ H Q
theorem Pxo.frz (h : Pxo K te .own i ρ wx) : Pxo K te .dat i ρ wx := fun C B H s A σ hw hl P hp Q q =>
  h C B H s A σ hw hl P hp Q fun B' v H' x d' s' e w' l' ⟨p, o, ev, h1, h2, h3, h4, h5⟩ pd => by
    subst ev
    exact q _ _ H' x d' s' (e.trans (same_new h3)) (w'.frz h1 h3 h4) (l'.frz w' h5 h3 h4) (OwnOk.rp (h2.mono (same_new h3)) upd_same) pd
end
/-! [own.pop(e) for target in it] -/
section
variable {S α β : Type} [Res S] {K : PySem.W.Frag} {C C2 : Cf S} {B B' H H' : Hp} {s s' : S} {A : List Addr} {ρ ρ' : List PS} {σ : L2.St} {v : V} {d : PyData} {p : Addr}
  {te tb : TE} {ts u : TS} {w wb : W S PyData} {wx : W S (PyData × PyData)} {k : EK} {i j : Nat} {r : RK} {env : β → List PS}
end
end PL

/-! variants that the printed derivations use -/
namespace PL
open PySem PySem.Spec PyProof.Rows L2
section
variable {X : Cx} {K : PySem.W.Frag} {o e value : Expr} {f : Str} {pos pos' tpos : Pos} {ta tv : TE}
theorem pe_fldK (hK : X.K = K) (he : PE X e ta) (hb : attributeBase e f X.env (eval e X.env) = eval e X.env := by rfl) : PE X (.Attribute e f pos) (tFld K ta f) := by subst hK; exact pe_fld he hb
theorem ps_fldK (hK : X.K = K) (ha : PE X o ta) (hv : PE X value tv) (hs : swapsWith value (some (.Attribute o f pos')) pos.line X.env = pure false := by rfl) : L2.PS X (.Assign [.Attribute o f pos'] value pos) (sFld K ta tv f) := by subst hK; exact ps_fld ha hv hs
end
theorem na_of {K : PySem.W.Frag} {nm f : Str} {C : Addr} (h : ClsNm K nm C) (c : Cls K C) (n : NoAttr K C f) : ∀ D, ClsNm K nm D → Cls K D ∧ NoAttr K D f := fun D g => by
  cases ClsNm.uniq h g
  exact ⟨c, n⟩
section
variable {S α : Type} [Res S] {P : Program} {w : World} {K : PySem.W.Frag} {mg : Str → Option Value} {base : Heap} {x qual : Str} {params : Arguments} {body : List Stmt} {scope : Scope} {dvs : List V} {kws : List (Str × V)} {f : Addr} {fd : FuncData}
/-- a def that may come to its end -/
theorem okPn2 (F : FunD K x qual params body scope dvs kws f fd) {N ps : List Str} {k : Nat} {ks : List EK} {env : α → List PS} {G : List PyData → W S PyData} (Sc : FnScope N ps scope) (hl : ks.length = ps.length)
    (hb : ∀ (cdv : Value) (A : Around) (outer : List Env) (s : Shared) (H : Hp) (E : XK), Rm k (A.deeper (envOfC qual scope s.heap.objs.size f cdv)) →
      ∃ t, PSs (cxOf CX0 P w K mg base N qual scope f cdv A outer s H E).nox body t ∧ ∀ ds : List PyData, ds.length = ks.length → ∃ m : W S (Fl α), G ds = wendA m ∧ Pst K t .dat (argPS ks ds ++ List.replicate (N.length - ps.length) .un) env m) :
    FnG P w K mg base CX0 (k + 1) f fd ps (spP K .dat ks G) := by
  obtain ⟨oc, od, dV, kV, doc, pm, an, cdv, ct, osl, rfl, lk, hcd, _, _⟩ := F.ex
  refine fng_of lk hcd Sc (fun vs H Q E h => ?_) fun A outer s H vs Q E hr hsp => ?_
  · obtain ⟨C, ds, s, P, _, _, h, _⟩ := h
    exact h.len.1.trans hl
  · obtain ⟨t, h1, h2⟩ := hb cdv A outer s H E hr
    refine ⟨t, h1.nox, ?_⟩
    obtain ⟨C, ds, s0, P0, rfl, ok, ha, hp, q⟩ := hsp
    have hn := ha.len
    obtain ⟨m, em, h3⟩ := h2 ds hn.2
    rw [em] at hp
    refine h3 C C.B0 C.H0 s0 [] _ (Hs.start C ok) ?_ _ hp _ (fun B' H' s' A' σ' a _ w' _ p' => q B' .non H' .none s' w' .non p') fun B' v H' d s' _ w' r' p' => q B' v H' d s' w' r' p'
    have hs : L2.start N vs = vs.map some ++ List.replicate (N.length - ps.length) none := by rw [start_eq, hn.1, hl]
    rw [hs]
    exact ha.sls.uns _
end
end PL
namespace PL
open PySem PySem.Spec PyProof.Rows L2
/-- the def that makes the deck, over a list -/
def apN (F : PyData → W Unit DL3) : List PyData → W Unit DL3 | [a] => F a | _ => wfail
/-- deck = F(x); m -/
def wnew (F : List PyData → W Unit DL3) (x : PyData) (m : W DL3 PyData) : W Unit PyData := fun s Q => F [x] () fun dk _ => m dk fun d _ => Q d ()
section
variable {S : Type} [Res S] {P : Program} {w : World} {K : PySem.W.Frag} {mg : Str → Option Value} {base : Heap} {f : Addr} {fd : FuncData}
end
end PL

/-! xs[::-1] of tuples, of texts -/
namespace PL
open PySem PySem.Spec PyProof.Rows L2
section
variable {prog : Program} {w : World} {A : Around} {E : Value → Shared → Prop} {s : Shared}
end
section
variable {X : Cx} {K : PySem.W.Frag}
end
section
variable {S : Type} [Res S] {K : PySem.W.Frag} {ρ : List PS} {ta : TE} {w : W S PyData}
end
end PL

/-! the deck of draws as a dict: {a: cells, b: mixed, c: count} -/
namespace PL
open PySem PySem.Spec PyProof.Rows L2
structure DKey where
  a : Str
  b : Str
  c : Str
  ab : a ≠ b
  ac : a ≠ c
  bc : b ≠ c
def DDs (_ : DKey) : Type := DL3
def kvD (k : DKey) (l : Addr) (m n : Int) : List (Key × V) := [(.inr k.a, .ref l), (.inr k.b, .int m), (.inr k.c, .int n)]
/-- at p: {a: the list at l, b: mix, c: cnt} -/
def deckAtD (k : DKey) (s : DL3) (p l : Addr) (H : Hp) : Prop := H p = some (.dK (kvD k l s.mix s.cnt)) ∧ H l = some (.lst (s.cells.map V.int)) ∧ p ≠ l
instance (k : DKey) : Res (DDs k) where
  ok := fun s r ad _ H => ∃ l, ad = [r, l] ∧ deckAtD k s r l H
  loc := fun s r ad B B' H H' _ h q => by
    obtain ⟨l, rfl, h1, h2, h3⟩ := q
    exact ⟨l, rfl, by rw [h r (by simp)]; exact h1, by rw [h l (by simp)]; exact h2, h3⟩
  nt := fun s r ad B H q a ha xs e => by
    obtain ⟨l, rfl, h1, h2, h3⟩ := q
    rcases List.mem_cons.mp ha with rfl | ha
    · rw [h1] at e; cases e
    · rw [List.mem_singleton] at ha; subst ha; rw [h2] at e; cases e
  tr := fun s r ad B B' H H' _ h q => by
    obtain ⟨l, rfl, h1, h2, h3⟩ := q
    exact ⟨l, rfl, by rw [h r (by simp)]; exact h1, by rw [h l (by simp)]; exact h2, h3⟩
theorem inr_ne {x y : Str} (h : x ≠ y) : (Sum.inr x : Key) ≠ Sum.inr y := fun e => h (Sum.inr.inj e)
theorem kvD_a {k : DKey} {l : Addr} {m n : Int} : valV (kvD k l m n) (.inr k.a) = some (.ref l) := valV_pos rfl
theorem kvD_b {k : DKey} {l : Addr} {m n : Int} : valV (kvD k l m n) (.inr k.b) = some (.int m) := (valV_neg (inr_ne k.ab)).trans (valV_pos rfl)
theorem kvD_c {k : DKey} {l : Addr} {m n : Int} : valV (kvD k l m n) (.inr k.c) = some (.int n) := (valV_neg (inr_ne k.ac)).trans ((valV_neg (inr_ne k.bc)).trans (valV_pos rfl))
theorem kvD_put {k : DKey} {l : Addr} {m n c : Int} : putK (kvD k l m n) (.inr k.c) (.int c) = kvD k l m c := by
  unfold putK kvD
  rw [if_pos (by simp)]
  simp [inr_ne k.ac, inr_ne k.bc, k.ac, k.bc]
theorem kvD_merge {k : DKey} {l : Addr} {m n : Int} : mergeK [] (kvD k l m n) = kvD k l m n := by
  unfold kvD mergeK
  simp [putK, k.ab, k.ac, k.bc, Ne.symm k.ab, Ne.symm k.ac, Ne.symm k.bc]
section
variable {α : Type} {K : PySem.W.Frag} {k : DKey} {C : Cf (DDs k)} {B B' H H' : Hp} {s s' : DDs k} {A : List Addr} {ρ ρ' : List PS} {σ : L2.St} {v : V} {d : PyData} {p a : Addr}
  {te : TE} {t u : TS} {tt : TT} {w : W (DDs k) PyData} {i j : Nat} {r : RK} {env : α → List PS}
theorem deck_ofD (hw : Hs C B H s) : ∃ l, C.ad = [C.root, l] ∧ deckAtD k s C.root l H := hw.ok
/-- a change at a place of the deck -/
theorem deck_putD {o : HO} (hw : Hs C B H s) (hl : Sls K C B H A ρ σ) (ha : a ∈ C.ad) (ok : C.ok s' B (upd H a o)) : Hs C B (upd H a o) s' ∧ Sls K C B (upd H a o) A ρ σ := by
  have hb := hw.adB ha
  refine ⟨⟨fun b u h => ?_, hw.eb, hw.nb, fun b u h n => ?_, fun b h => hw.al b ?_, ok⟩, hl.other fun z => (C.pre a ha).1 (hl.inA a z).2.2⟩
  · rw [upd_ne (ne_of_none h hb)]; exact hw.ex b u h
  · rw [upd_ne fun z => n (by rw [z]; exact ha)]; exact hw.fr b u h n
  · by_cases z : b = a
    · subst z; rw [upd_same] at h; cases h
    · rw [upd_ne z] at h; exact h
theorem get_D {key : Str} {v : V} {l : Addr} {m n : Int} (h1 : H a = some (.dK (kvD k l m n))) (e : valV (kvD k l m n) (.inr key) = some v) {Q : VK} (q : Q v H) : rIxU K (.ref a) (.str key) H Q :=
  .inr ⟨a, v, rfl, by rw [← e]; exact .inl (DGet.k (k := .inr key) h1), q⟩
theorem px_ddMix (hj : ρ[j]? = some .dk) : Px (S := DDs k) K (tOp (rIxU K) (tVar j) (tC (.str k.b))) .dat ρ (dkMix : W DL3 PyData) := fun C B H s A σ hw hl P hp Q q => by
  obtain ⟨l, e, h1, h2, h3⟩ := deck_ofD hw
  exact ⟨_, hl.getK hj, get_D h1 kvD_b (q B _ H _ s (Same.r B) hw hl (.int _) hp)⟩
theorem px_ddCnt (hj : ρ[j]? = some .dk) : Px (S := DDs k) K (tOp (rIxU K) (tVar j) (tC (.str k.c))) .dat ρ (dkCnt : W DL3 PyData) := fun C B H s A σ hw hl P hp Q q => by
  obtain ⟨l, e, h1, h2, h3⟩ := deck_ofD hw
  exact ⟨_, hl.getK hj, get_D h1 kvD_c (q B _ H _ s (Same.r B) hw hl (.int _) hp)⟩
theorem pt_ddNe (hj : ρ[j]? = some .dk) : Pt (S := DDs k) K (tTest (tOp (rNeU K) (tOp (rIxU K) (tVar j) (tC (.str k.a))) (tLst tNil))) ρ (dkNe : W DL3 Bool) := fun C B H s A σ hw hl P hp Q q => by
  obtain ⟨l, e, h1, h2, h3⟩ := deck_ofD hw
  refine ⟨_, hl.getK hj, get_D h1 kvD_a ⟨Nat.zero_le _, fun x hx => ?_⟩⟩
  have g := Grow.newU (o := .lst []) hw.ex hx
  have hl2 : upd H x (.lst []) l = some (.lst (s.cells.map V.int)) := by rw [upd_ne (ne_of_none h2 hx)]; exact h2
  refine .inr (.inr ⟨.list (s.cells.map .int), .list [], dp_ints hl2, .lst (SqL.of upd_same) .nil, ints_shaped _, by decide, ?_⟩)
  refine ⟨_, rfl, ?_⟩
  rw [eqv_nil]
  have : (s.cells.map PyData.int).isEmpty = s.cells.isEmpty := by cases s.cells <;> rfl
  rw [this]
  exact q B _ _ s (Same.r B) (hw.grow g) (hl.grow hw g) hp.2
theorem px_ddPop (hj : ρ[j]? = some .dk) : Px (S := DDs k) K (tBM0 K "list" rPop (tOp (rIxU K) (tVar j) (tC (.str k.a)))) .dat ρ (dkPop : W DL3 PyData) := fun C B H s A σ hw hl P hp Q q => by
  obtain ⟨l, e, h1, h2, h3⟩ := deck_ofD hw
  obtain ⟨z, hz, hp⟩ := hp
  refine ⟨_, hl.getK hj, get_D h1 kvD_a ⟨.inl ⟨rfl, _, SqL.of h2⟩, ?_⟩⟩
  obtain ⟨ys, hy⟩ : ∃ ys, s.cells = ys ++ [z] := by
    have hne : s.cells ≠ [] := by intro h; rw [h] at hz; cases hz
    refine ⟨s.cells.dropLast, ?_⟩
    have := List.dropLast_concat_getLast hne
    rw [List.getLast?_eq_some_getLast hne] at hz
    cases hz
    exact this.symm
  have ok : C.ok (show DDs k from { cells := s.cells.dropLast, mix := s.mix, cnt := s.cnt }) B (upd H l (.lst (s.cells.map V.int).dropLast)) := ⟨l, e, by rw [upd_ne h3]; exact h1, by rw [upd_same, ← List.map_dropLast], h3⟩
  obtain ⟨w2, l2⟩ := deck_putD hw hl (by rw [e]; simp) ok
  refine ⟨l, _, .int z, rfl, rfl, h2, ?_, q B _ _ _ _ (Same.r B) w2 l2 (.int _) hp⟩
  rw [hy]
  simp
/-- deck[2] = e -/
theorem pst_ddSet {w : W (DDs k) PyData} {kk : W (DDs k) (Fl α)} (hj : ρ[j]? = some .dk) (he : Px K te .dat ρ w) (h : Pst K u r ρ env kk) : Pst (S := DDs k) K (tSeq (tAsg te (gSub (tVar j) (tC (.str k.c)) rSetD)) u) r ρ env (wbind (S := DDs k) (dkSetCnt w) fun _ => kk) := fun C B H s A σ hw hl P hp D nx rt =>
  he C B H s A σ hw hl _ hp _ fun B1 v1 H1 d1 s1 e1 w1 l1 r1 p1 => by
    obtain ⟨l, e, h1, h2, h3⟩ := deck_ofD w1
    cases d1 with
    | int c =>
      cases (show Rp K B1 v1 (.int c) from r1)
      have ok : C.ok (show DDs k from { cells := s1.cells, mix := s1.mix, cnt := c }) B1 (upd H1 C.root (.dK (kvD k l s1.mix c))) := ⟨l, e, upd_same, by rw [upd_ne (Ne.symm h3)]; exact h2, h3⟩
      obtain ⟨w2, l2⟩ := deck_putD w1 l1 (by rw [e]; simp) ok
      refine ⟨_, l1.getK hj, ?_⟩
      show rSetD (V.ref C.root) (V.str k.c) (.int c) H1 _
      unfold rSetD
      refine ⟨C.root, upd H1 C.root (.dK (kvD k l s1.mix c)), rfl, ?_, ?_⟩
      · have := DPut.k (k := .inr k.c) (v := .int c) h1 (show 3 < sizeLine by decide)
        rw [kvD_put] at this
        exact this
      exact h C B1 _ _ A σ w2 l2 P p1 D (fun B2 H2 s2 A2 σ2 a2 e2 w2 l2 p2 => nx B2 H2 s2 A2 σ2 a2 (e1.trans e2) w2 l2 p2) fun B2 v H2 d s2 e2 w2 r2 p2 => rt B2 v H2 d s2 (e1.trans e2) w2 r2 p2
    | _ => exact (show False from p1).elim
/-- deck[0].append(e) -/
theorem pst_ddApp {w : W (DDs k) PyData} {kk : W (DDs k) (Fl α)} (hj : ρ[j]? = some .dk) (he : Px K te .dat ρ w) (h : Pst K u r ρ env kk) : Pst (S := DDs k) K (tSeq (tDrop (tBM K "list" rAppend (tOp (rIxU K) (tVar j) (tC (.str k.a))) (tCons te tNil))) u) r ρ env (wbind (S := DDs k) (dkApp w) fun _ => kk) := fun C B H s A σ hw hl P hp D nx rt => by
  obtain ⟨l, e, h1, h2, h3⟩ := deck_ofD hw
  refine ⟨_, hl.getK hj, get_D h1 kvD_a ⟨.inl ⟨rfl, _, SqL.of h2⟩, ?_⟩⟩
  refine he C B H s A σ hw hl _ hp _ fun B1 v1 H1 d1 s1 e1 w1 l1 r1 p1 => ?_
  obtain ⟨l', e', g1, g2, g3⟩ := deck_ofD w1
  rw [e] at e'
  cases e'
  cases d1 with
  | int c =>
    cases (show Rp K B1 v1 (.int c) from r1)
    have ok : C.ok (show DDs k from { cells := s1.cells ++ [c], mix := s1.mix, cnt := s1.cnt }) B1 (upd H1 l (.lst (s1.cells.map V.int ++ [.int c]))) := ⟨l, e, by rw [upd_ne g3]; exact g1, by rw [upd_same, List.map_append]; rfl, g3⟩
    obtain ⟨w2, l2⟩ := deck_putD w1 l1 (by rw [e]; simp) ok
    refine ⟨l, _, .int c, rfl, rfl, g2, by rw [List.length_map]; exact p1.1, ?_⟩
    exact h C B1 _ _ A σ w2 l2 P p1.2 D (fun B2 H2 s2 A2 σ2 a2 e2 w2 l2 p2 => nx B2 H2 s2 A2 σ2 a2 (e1.trans e2) w2 l2 p2) fun B2 v H2 d s2 e2 w2 r2 p2 => rt B2 v H2 d s2 (e1.trans e2) w2 r2 p2
  | _ => exact (show False from p1).elim
theorem psr_ddSet {w kk : W (DDs k) PyData} (hj : ρ[j]? = some .dk) (he : Px K te .dat ρ w) (h : Psr K u r ρ kk) : Psr (S := DDs k) K (tSeq (tAsg te (gSub (tVar j) (tC (.str k.c)) rSetD)) u) r ρ (wbind (S := DDs k) (dkSetCnt w) fun _ => kk) := pst_ddSet (kk := wret kk) hj he h
theorem psr_ddApp {w kk : W (DDs k) PyData} (hj : ρ[j]? = some .dk) (he : Px K te .dat ρ w) (h : Psr K u r ρ kk) : Psr (S := DDs k) K (tSeq (tDrop (tBM K "list" rAppend (tOp (rIxU K) (tVar j) (tC (.str k.a))) (tCons te tNil))) u) r ρ (wbind (S := DDs k) (dkApp w) fun _ => kk) := pst_ddApp (kk := wret kk) hj he h
end
/-! ### the deck is made -/
def DkNewD (k : DKey) (K : PySem.W.Frag) {S : Type} [Res S] (C : Cf S) (B H : Hp) (v : V) (s : DL3) : Prop := ∃ p l, v = .ref p ∧ deckAtD k s p l H ∧ B p = none ∧ B l = none ∧ C.H0 p = none ∧ C.H0 l = none
/-- the promise of the def that makes it -/
def spNewD (k : DKey) (K : PySem.W.Frag) (F : List PyData → W Unit DL3) : Sp := fun vs H Q _ =>
  ∃ (C : Cf Unit) (ds : List PyData) (P : DL3 → Unit → Prop), C.H0 = H ∧ C.ad = [] ∧ ArgsOk K C [.vw] vs ds ∧ F ds () P ∧ ∀ B' v H' d, Hs C B' H' () → DkNewD k K C B' H' v d → P d () → Q v H'
section
variable {α : Type} {K : PySem.W.Frag} {k : DKey} {C : Cf Unit} {B B' H H' : Hp} {s s' : Unit} {A : List Addr} {ρ ρ' : List PS} {σ : L2.St} {v : V} {d : PyData} {p a : Addr}
  {ta tb tc : TE} {u ts : TS} {wa wb wc w : W Unit PyData} {i j : Nat} {r : RK} {t : TA}
/-- a block that returns the new deck -/
def PskD (k : DKey) (K : PySem.W.Frag) (ts : TS) (ρ : List PS) (m : W Unit DL3) : Prop :=
  ∀ (C : Cf Unit) B H s A σ, Hs C B H s → Sls K C B H A ρ σ → ∀ P, m s P → ∀ D : Ends, (∀ B' v H' d, Same B B' → Hs C B' H' () → DkNewD k K C B' H' v d → P d () → D.rt v H') → ts D σ H
theorem psk_letD {kk : PyData → W Unit DL3} {ρ' : PyData → List PS} (he : Px K ta .dat ρ wa) (hi : i < ρ.length) (h : ∀ d, PskD k K u (ρ' d) (kk d)) (hρ : ∀ d, ρ.set i (.dat d) = ρ' d := by intro _; rfl) : PskD k K (tSeq (tAsg ta (gName i)) u) ρ (wbind wa kk) := fun C B H s A σ hw hl P hp D rt =>
  he C B H s A σ hw hl _ hp _ fun B1 v1 H1 d1 s1 e1 w1 l1 r1 p1 => by
    obtain ⟨A', l2⟩ := set_of (.inl rfl) w1 l1 hi r1
    rw [hρ d1] at l2
    exact h d1 C B1 H1 s1 A' _ w1 l2 P p1 D fun B2 v H2 d e2 w2 r2 p2 => rt B2 v H2 d (e1.trans e2) w2 r2 p2
theorem psk_seqnD {env : α → List PS} {m : W Unit α} {kk : α → W Unit DL3} {ts : TS} (h : Psn K ts .dat ρ env m) (h2 : ∀ a, PskD k K u (env a) (kk a)) : PskD k K (tSeq ts u) ρ (wbind m kk) := fun C B H s A σ hw hl P hp D rt =>
  h C B H s A σ hw hl (fun x s' => match x with | .nx a => kk a s' P | .rt _ => False) hp { D with nx := u D } (fun B1 H1 s1 A1 σ1 a e1 w1 l1 p1 => h2 a C B1 H1 s1 A1 σ1 w1 l1 P p1 D fun B2 v H2 d e2 w2 r2 p2 => rt B2 v H2 d (e1.trans e2) w2 r2 p2)
    fun B1 v H1 d s1 e1 w1 r1 p1 => p1.elim
theorem psk_retD (ha : Px K ta .own ρ wa) (hb : Px K tb .dat ρ wb) (hc : Px K tc .dat ρ wc) : PskD k K (tRet (tDisp [(tC (.str k.a), ta), (tC (.str k.b), tb), (tC (.str k.c), tc)])) ρ (wbind wa fun a => wbind wb fun b => wbind wc fun c => mkDk a b c) := fun C B H s A σ hw hl P hp D rt => by
  intro q hq
  have gr := Grow.newU (o := .dK []) hw.ex hq
  have w0 := hw.grow gr
  have l0 := hl.grow hw gr
  have hqn : Mu (upd H q (.dK []) q) := .of upd_same nofun
  have hqB : B q = none := hw.freeB hq
  have hq0 : C.H0 q = none := hw.al q hq
  have hqA : q ∉ A := fun z => (hl.inA q z).1 hq
  show ta σ (upd H q (.dK [])) _
  refine px_guard [q] (fun p hp => by rw [List.mem_singleton.mp hp]; exact ⟨hqn, hqB, hq0⟩) (fun p hp => by rw [List.mem_singleton.mp hp]; exact hqA) ha (.inr rfl) w0 l0 hp fun B1 v1 H1 d1 s1 e1 w1 l1 r1 g1 n1 p1 => ?_
  obtain ⟨g1h, g1b⟩ := g1 q List.mem_cons_self
  have gg : ∀ p ∈ q :: ownOf .own v1, Mu (H1 p) ∧ B1 p = none ∧ C.H0 p = none := fun p hp => by
    rcases List.mem_cons.mp hp with z | z
    · rw [z]; exact ⟨by rw [g1h]; exact hqn, g1b, hq0⟩
    · exact own_mem (.inr rfl) r1 p z
  have gA : ∀ p ∈ q :: ownOf .own v1, p ∉ A := fun p hp => by
    rcases List.mem_cons.mp hp with z | z
    · rw [z]; exact hqA
    · exact own_notA (.inr rfl) r1 p z
  show tb σ H1 _
  refine px_guard (q :: ownOf .own v1) gg gA hb (.inl rfl) w1 l1 p1 fun B2 v2 H2 d2 s2 e2 w2 l2 r2 g2 n2 p2 => ?_
  have r1' := er_keep (.inr rfl) r1 e2 fun p z => g2 p (List.mem_cons_of_mem _ z)
  obtain ⟨g2h, g2b⟩ := g2 q List.mem_cons_self
  have gg2 : ∀ p ∈ q :: ownOf .own v1, Mu (H2 p) ∧ B2 p = none ∧ C.H0 p = none := fun p hp => by
    rcases List.mem_cons.mp hp with z | z
    · rw [z]; exact ⟨by rw [g2h, g1h]; exact hqn, g2b, hq0⟩
    · exact own_mem (.inr rfl) r1' p z
  show tc σ H2 _
  refine px_guard (q :: ownOf .own v1) gg2 gA hc (.inl rfl) w2 l2 p2 fun B3 v3 H3 d3 s3 e3 w3 l3 r3 g3 n3 p3 => ?_
  have r1'' := er_keep (.inr rfl) r1' e3 fun p z => g3 p (List.mem_cons_of_mem _ z)
  have r2' := Rp.mono e3 (show Rp K B2 v2 d2 from r2)
  obtain ⟨g3h, g3b⟩ := g3 q List.mem_cons_self
  have hq3 : H3 q = some (.dK []) := by rw [g3h, g2h, g1h, upd_same]
  obtain ⟨ds, m, n, rfl, rfl, rfl, p3⟩ := mkDk_inv (show mkDk d1 d2 d3 s3 P from p3)
  obtain ⟨ns, hns, p3⟩ := wopt_inv p3
  obtain ⟨p, o, rfl, g1', g2', g3', g4', _⟩ := r1''
  obtain ⟨xs, rfl, g2'⟩ := own_lst g2'
  rw [intsOf_eq hns] at g2'
  rw [ints_of g2'] at g1'
  cases (show Rp K B3 v2 (.int m) from r2')
  cases (show Rp K B3 v3 (.int n) from r3)
  refine ⟨hq3, kvD k p m n, rfl, (show 3 ≤ 15 by decide), ?_⟩
  rw [kvD_merge]
  have ne : q ≠ p := fun z => n1 q List.mem_cons_self rfl (by rw [z])
  have w4 : Hs C B3 (upd H3 q (.dK (kvD k p m n))) s3 := w3.put g3b hq0
  exact rt B3 _ _ _ ((e1.trans e2).trans e3) w4 ⟨q, p, rfl, ⟨upd_same, by rw [upd_ne (Ne.symm ne)]; exact g1', ne⟩, g3b, g3', hq0, g4'⟩ p3
theorem Sls.setKD {C : Cf (DDs k)} {B H : Hp} (h : Sls K C B H A ρ σ) : ∀ (i : Nat), ∃ A', Sls K C B H A' (ρ.set i .dk) (σ.set i (some (.ref C.root))) := by
  induction h with
  | nil => intro i; exact ⟨[], .nil⟩
  | un t ih => intro i; cases i with | zero => exact ⟨_, .dk t⟩ | succ i => (obtain ⟨A', h1⟩ := ih i; exact ⟨A', .un h1⟩)
  | dat q t ih => intro i; cases i with | zero => exact ⟨_, .dk t⟩ | succ i => (obtain ⟨A', h1⟩ := ih i; exact ⟨A', .dat q h1⟩)
  | vw q t ih => intro i; cases i with | zero => exact ⟨_, .dk t⟩ | succ i => (obtain ⟨A', h1⟩ := ih i; exact ⟨A', .vw q h1⟩)
  | pv q t ih => intro i; cases i with | zero => exact ⟨_, .dk t⟩ | succ i => (obtain ⟨A', h1⟩ := ih i; exact ⟨A', .pv q h1⟩)
  | dk t ih => intro i; cases i with | zero => exact ⟨_, .dk t⟩ | succ i => (obtain ⟨A', h1⟩ := ih i; exact ⟨A', .dk h1⟩)
  | @own A0 ρ0 σ0 p0 o d h1 h2 h3 h4 h5 t ih =>
    intro i
    cases i with
    | zero => exact ⟨_, .dk t⟩
    | succ i =>
      have key : ∀ (j : Nat) {A : List Addr} {ρ : List PS} {σ : L2.St}, Sls K C B H A ρ σ → ∃ A', Sls K C B H A' (ρ.set j .dk) (σ.set j (some (.ref C.root))) ∧ ∀ a ∈ A', a ∈ A := by
        intro j A ρ σ h
        clear t ih h1 h2 h3 h4 h5
        induction h generalizing j with
        | nil => exact ⟨[], .nil, fun _ z => z⟩
        | un t ih => cases j with | zero => exact ⟨_, .dk t, fun _ z => z⟩ | succ j => (obtain ⟨A', q1, q2⟩ := ih j; exact ⟨A', .un q1, q2⟩)
        | dat q t ih => cases j with | zero => exact ⟨_, .dk t, fun _ z => z⟩ | succ j => (obtain ⟨A', q1, q2⟩ := ih j; exact ⟨A', .dat q q1, q2⟩)
        | vw q t ih => cases j with | zero => exact ⟨_, .dk t, fun _ z => z⟩ | succ j => (obtain ⟨A', q1, q2⟩ := ih j; exact ⟨A', .vw q q1, q2⟩)
        | pv q t ih => cases j with | zero => exact ⟨_, .dk t, fun _ z => z⟩ | succ j => (obtain ⟨A', q1, q2⟩ := ih j; exact ⟨A', .pv q q1, q2⟩)
        | dk t ih => cases j with | zero => exact ⟨_, .dk t, fun _ z => z⟩ | succ j => (obtain ⟨A', q1, q2⟩ := ih j; exact ⟨A', .dk q1, q2⟩)
        | own h1 h2 h3 h4 h5 t ih =>
          cases j with
          | zero => exact ⟨_, .dk t, fun _ z => List.mem_cons_of_mem _ z⟩
          | succ j =>
            obtain ⟨A', q1, q2⟩ := ih j
            exact ⟨_, .own h1 h2 h3 h4 (fun z => h5 (q2 _ z)) q1, fun a z => by
              rcases List.mem_cons.mp z with rfl | z
              · exact List.mem_cons_self
              · exact List.mem_cons_of_mem _ (q2 a z)⟩
        | nt n nd hx t ih =>
          cases j with
          | zero => exact ⟨_, .dk t, fun _ z => List.mem_append_right _ z⟩
          | succ j =>
            obtain ⟨A', q1, q2⟩ := ih j
            exact ⟨_, .nt n nd (fun a ha => ⟨(hx a ha).1, (hx a ha).2.1, fun z => (hx a ha).2.2 (q2 _ z)⟩) q1, fun a z => by
              rcases List.mem_append.mp z with z | z
              · exact List.mem_append_left _ z
              · exact List.mem_append_right _ (q2 a z)⟩
      obtain ⟨A', q1, q2⟩ := key i t
      exact ⟨_, .own h1 h2 h3 h4 (fun z => h5 (q2 _ z)) q1⟩
  | @nt A0 qs0 ρ0 σ0 p0 d n nd hx t ih =>
    intro i
    cases i with
    | zero => exact ⟨_, .dk t⟩
    | succ i =>
      have key : ∀ (j : Nat) {A : List Addr} {ρ : List PS} {σ : L2.St}, Sls K C B H A ρ σ → ∃ A', Sls K C B H A' (ρ.set j .dk) (σ.set j (some (.ref C.root))) ∧ ∀ a ∈ A', a ∈ A := by
        intro j A ρ σ h
        clear t ih n nd hx
        induction h generalizing j with
        | nil => exact ⟨[], .nil, fun _ z => z⟩
        | un t ih => cases j with | zero => exact ⟨_, .dk t, fun _ z => z⟩ | succ j => (obtain ⟨A', q1, q2⟩ := ih j; exact ⟨A', .un q1, q2⟩)
        | dat q t ih => cases j with | zero => exact ⟨_, .dk t, fun _ z => z⟩ | succ j => (obtain ⟨A', q1, q2⟩ := ih j; exact ⟨A', .dat q q1, q2⟩)
        | vw q t ih => cases j with | zero => exact ⟨_, .dk t, fun _ z => z⟩ | succ j => (obtain ⟨A', q1, q2⟩ := ih j; exact ⟨A', .vw q q1, q2⟩)
        | pv q t ih => cases j with | zero => exact ⟨_, .dk t, fun _ z => z⟩ | succ j => (obtain ⟨A', q1, q2⟩ := ih j; exact ⟨A', .pv q q1, q2⟩)
        | dk t ih => cases j with | zero => exact ⟨_, .dk t, fun _ z => z⟩ | succ j => (obtain ⟨A', q1, q2⟩ := ih j; exact ⟨A', .dk q1, q2⟩)
        | own h1 h2 h3 h4 h5 t ih =>
          cases j with
          | zero => exact ⟨_, .dk t, fun _ z => List.mem_cons_of_mem _ z⟩
          | succ j =>
            obtain ⟨A', q1, q2⟩ := ih j
            exact ⟨_, .own h1 h2 h3 h4 (fun z => h5 (q2 _ z)) q1, fun a z => by
              rcases List.mem_cons.mp z with rfl | z
              · exact List.mem_cons_self
              · exact List.mem_cons_of_mem _ (q2 a z)⟩
        | nt n nd hx t ih =>
          cases j with
          | zero => exact ⟨_, .dk t, fun _ z => List.mem_append_right _ z⟩
          | succ j =>
            obtain ⟨A', q1, q2⟩ := ih j
            exact ⟨_, .nt n nd (fun a ha => ⟨(hx a ha).1, (hx a ha).2.1, fun z => (hx a ha).2.2 (q2 _ z)⟩) q1, fun a z => by
              rcases List.mem_append.mp z with z | z
              · exact List.mem_append_left _ z
              · exact List.mem_append_right _ (q2 a z)⟩
      obtain ⟨A', q1, q2⟩ := key i t
      exact ⟨_, .nt n nd (fun a ha => ⟨(hx a ha).1, (hx a ha).2.1, fun z => (hx a ha).2.2 (q2 _ z)⟩) q1⟩
/-- deck = source(script); rest -/
theorem psr_newDD {F : List PyData → W Unit DL3} {m : W DL3 PyData} {E : XK} {x : PyData} (hs : ρ[j]? = some (.vw x)) (h : Psr (S := DDs k) K u .dat ρ' m) (hn : noRes ρ = true := by rfl) (hρ : ρ.set i .dk = ρ' := by rfl) :
    Psr (S := Unit) K (tSeq (tAsg (tCallG (spNewD k K F) (fun _ a _ => a) 1 0 [] E (tCons (tVar j) tNil) tNil) (gName i)) u) .dat ρ (fun s Q => F [x] () fun dk _ => m dk fun d _ => Q d ()) := fun C B H s A σ hw hl P hp D nx rt => by
  obtain ⟨vv, h1, h2⟩ := hl.getV hs
  refine ⟨vv, h1, rfl, rfl, ?_⟩
  let C2 : Cf Unit := ⟨B, H, [], 0, fun a h => (by cases h), hw.ex⟩
  have gh : Same H (Gh C2 B) := gh_all (C := C) rfl (fun a h => by cases h) hw rfl
  refine ⟨C2, [x], _, rfl, rfl, ⟨h2.mono (Same.refl B) (hw.gh.trans gh), True.intro⟩, hp, fun B' v H' dk w' hd p' => ?_⟩
  have g : Grow B H B' H' := ⟨fun a o e => w'.fr a o e (by intro z; cases z), w'.eb, w'.ex, fun a o e => (w'.nb a o e).imp_right fun x => x.imp_right fun ⟨xs, x1, x2, _⟩ => ⟨xs, x1, x2⟩⟩
  have w1 := hw.grow g
  have l1 := hl.grow hw g
  obtain ⟨p, l, rfl, da, b1, b2, h01, h02⟩ := hd
  have hp0 : C.H0 p = none := hw.al p h01
  have hl0 : C.H0 l = none := hw.al l h02
  have hCp : C.B0 p = none := by
    cases e : C.B0 p with
    | none => rfl
    | some o => rw [C.bh _ _ e] at hp0; cases hp0
  have hCl : C.B0 l = none := by
    cases e : C.B0 l with
    | none => rfl
    | some o => rw [C.bh _ _ e] at hl0; cases hl0
  classical
  let sp : Addr → Prop := fun a => a = p ∨ a = l ∨ a ∈ C.ad
  let H0 : Hp := fun a => if sp a then H' a else C.H0 a
  have spH : ∀ a, sp a → H' a ≠ none ∧ B' a = none ∧ C.B0 a = none := by
    rintro a (z | z | z)
    · rw [z]; exact ⟨by rw [da.1]; exact nofun, b1, hCp⟩
    · rw [z]; exact ⟨by rw [da.2.1]; exact nofun, b2, hCl⟩
    · exact ⟨fun y => (C.pre a z).1 (w1.al a y), w1.adB z, (C.pre a z).2⟩
  have h0p : ∀ a, sp a → H0 a = H' a := fun a z => if_pos z
  have h0n : ∀ a, ¬ sp a → H0 a = C.H0 a := fun a z => if_neg z
  let C3 : Cf (DDs k) := ⟨C.B0, H0, [p, l], p, fun a ha => by
    have z : sp a := by
      have : a = p ∨ a = l := by simpa using ha
      rcases this with z | z
      · exact .inl z
      · exact .inr (.inl z)
    exact ⟨by rw [h0p a z]; exact (spH a z).1, (spH a z).2.2⟩, fun a o e => by
    have z : ¬ sp a := fun z => by rw [(spH a z).2.2] at e; cases e
    rw [h0n a z]
    exact C.bh _ _ e⟩
  have w3 : Hs C3 B' H' dk := by
    refine ⟨w1.ex, w1.eb, fun a o e => ?_, fun a o e n => ?_, fun a e => ?_, ⟨l, rfl, da⟩⟩
    · have z : ¬ sp a := fun z => by rw [(spH a z).2.1] at e; cases e
      rcases w1.nb a o e with q | q | ⟨xs, q1, q2, q3⟩
      · exact .inl q
      · exact .inr (.inl (by show H0 a = none; rw [h0n a z]; exact q))
      · exact .inr (.inr ⟨xs, q1, by show H0 a = some o; rw [h0n a z]; exact q2, fun y => by
          have : a = p ∨ a = l := by simpa using (show a ∈ [p, l] from y)
          rcases this with y | y
          · exact z (.inl y)
          · exact z (.inr (.inl y))⟩)
    · have e : H0 a = some o := e
      by_cases z : sp a
      · rw [h0p a z] at e; exact e
      · rw [h0n a z] at e
        exact w1.fr a o e fun y => z (.inr (.inr y))
    · show H0 a = none
      have z : ¬ sp a := fun z => (spH a z).1 e
      rw [h0n a z]
      exact w1.al a e
  have gg : Same (Gh C B') (Gh C3 B') := fun a o q => by
    unfold Gh at q ⊢
    cases e1 : B' a with
    | some u' => rw [e1] at q; exact q
    | none =>
      rw [e1] at q
      simp only at q ⊢
      split at q
      · cases q
      · rename_i hna
        have z : ¬ sp a := by
          rintro (z | z | z)
          · rw [z, hp0] at q; cases q
          · rw [z, hl0] at q; cases q
          · exact hna z
        rw [if_neg (show a ∉ C3.ad from fun y => z (by
          have : a = p ∨ a = l := by simpa using (show a ∈ [p, l] from y)
          rcases this with z | z
          · exact .inl z
          · exact .inr (.inl z)))]
        show H0 a = some o
        rw [h0n a z]
        exact q
  obtain ⟨A', l3⟩ := Sls.setKD (C := C3) (l1.plain (C' := C3) (H' := H') gg hn) i
  rw [hρ] at l3
  refine h C3 B' H' dk A' _ w3 l3 (fun x s' => match x with | .rt d => P (.rt d) () | .nx a => nomatch a) p' D (fun _ _ _ _ _ a => nomatch a) fun B2 v H2 d s2 e2 w2 r2 p2 => ?_
  have nad : ∀ a, a ∈ [p, l] → B2 a = none := fun a ha => w2.adB ha
  refine rt B2 v H2 d () (g.b.trans e2) ⟨w2.ex, w2.eb, fun a o e => ?_, fun a o e n => ?_, fun a e => ?_, fun a ha xs e => ?_⟩ r2 p2
  · rcases w2.nb a o e with q | q | ⟨xs, q1, q2, q3⟩
    · exact .inl q
    · by_cases z : sp a
      · exfalso
        rw [show C3.H0 a = H0 a from rfl, h0p a z] at q
        exact (spH a z).1 q
      · refine .inr (.inl ?_)
        rw [show C3.H0 a = H0 a from rfl, h0n a z] at q
        exact q
    · have z : ¬ sp a := by
        rintro (z | z | z)
        · exact q3 (by rw [z]; exact List.mem_cons_self)
        · exact q3 (by rw [z]; exact List.mem_cons_of_mem _ List.mem_cons_self)
        · rw [show C3.H0 a = H0 a from rfl, h0p a (.inr (.inr z)), q1] at q2
          exact w1.ok a z xs q2
      rw [show C3.H0 a = H0 a from rfl, h0n a z] at q2
      exact .inr (.inr ⟨xs, q1, q2, fun y => z (.inr (.inr y))⟩)
  · have z : ¬ sp a := by
      rintro (z | z | z)
      · rw [z, hp0] at e; cases e
      · rw [z, hl0] at e; cases e
      · exact n z
    refine w2.fr a o (by show H0 a = some o; rw [h0n a z]; exact e) fun y => z (by
      have : a = p ∨ a = l := by simpa using (show a ∈ [p, l] from y)
      rcases this with z | z
      · exact .inl z
      · exact .inr (.inl z))
  · have q := w2.al a e
    have q : H0 a = none := q
    by_cases z : sp a
    · rw [h0p a z] at q; exact absurd q (spH a z).1
    · rw [h0n a z] at q; exact q
  · have nap : a ∉ [p, l] := fun y => by
      have : a = p ∨ a = l := by simpa using y
      rcases this with y | y
      · exact (C.pre a ha).1 (by rw [y]; exact hp0)
      · exact (C.pre a ha).1 (by rw [y]; exact hl0)
    cases e1 : H' a with
    | none => exact absurd e1 (spH a (.inr (.inr ha))).1
    | some u =>
      have e2 := w2.fr a u (by show H0 a = some u; rw [h0p a (.inr (.inr ha))]; exact e1) nap
      rw [e] at e2
      cases e2
      exact w1.ok a ha xs e1
end
section
variable {P : Program} {w : World} {K : PySem.W.Frag} {mg : Str → Option Value} {base : Heap} {x qual : Str} {params : Arguments} {body : List Stmt} {scope : Scope} {dvs : List V} {kws : List (Str × V)} {f : Addr} {fd : FuncData}
theorem okNewD (F : FunD K x qual params body scope dvs kws f fd) {N ps : List Str} {lv : Nat} {k : DKey} {Fl : List PyData → W Unit DL3} (Sc : FnScope N ps scope) (hl : ps.length = 1)
    (hb : ∀ (cdv : Value) (A : Around) (outer : List Env) (s : Shared) (H : Hp) (E : XK), Rm lv (A.deeper (envOfC qual scope s.heap.objs.size f cdv)) →
      ∃ t, PSs (cxOf CX0 P w K mg base N qual scope f cdv A outer s H E).nox body t ∧ ∀ d : PyData, PskD k K t (.vw d :: List.replicate (N.length - 1) .un) (Fl [d])) :
    FnG P w K mg base CX0 (lv + 1) f fd ps (spNewD k K Fl) := by
  obtain ⟨oc, od, dV, kV, doc, pm, an, cdv, ct, osl, rfl, lk, hcd, _, _⟩ := F.ex
  refine fng_of lk hcd Sc (fun vs H Q E h => ?_) fun A outer s H vs Q E hr hsp => ?_
  · obtain ⟨C, ds, P, _, _, h, _⟩ := h
    exact h.len.1.trans hl.symm
  · obtain ⟨t, h1, h2⟩ := hb cdv A outer s H E hr
    refine ⟨t, h1.nox, ?_⟩
    obtain ⟨C, ds, P0, rfl, had, ha, hp, q⟩ := hsp
    have hn := ha.len
    match ds, hn.2, ha, hp with
    | [d], _, ha, hp =>
      refine h2 d C C.B0 C.H0 () [] _ (Hs.start C (fun a h => by rw [had] at h; cases h)) ?_ _ hp _ fun B' v H' d s' w' r' p' => q B' v H' d w' r' p'
      have hs : L2.start N vs = vs.map some ++ List.replicate (N.length - 1) none := by rw [start_eq, hn.1]; rfl
      rw [hs]
      exact ha.sls.uns _
end
section
variable {K : PySem.W.Frag} {k : DKey} {ρ : List PS} {ta tb : TE} {u : TS} {wa wb : W Unit PyData} {i j : Nat} {k1 k2 : EK}
end
theorem psr_newDW {K : PySem.W.Frag} {k : DKey} {ρ ρ' : List PS} {u : TS} {i j : Nat} {F : List PyData → W Unit DL3} {m : W DL3 PyData} {E : XK} {x : PyData} (hs : ρ[j]? = some (.vw x)) (h : Psr (S := DDs k) K u .dat ρ' m) (hn : noRes ρ = true := by rfl) (hρ : ρ.set i .dk = ρ' := by rfl) :
    Psr (S := Unit) K (tSeq (tAsg (tCallG (spNewD k K F) (fun _ a _ => a) 1 0 [] E (tCons (tVar j) tNil) tNil) (gName i)) u) .dat ρ (wnew F x m) := psr_newDD (m := m) hs h hn hρ
end PL

/-! a, b, c, d = w, x, y, z -/
namespace PL
open PySem PySem.Spec PyProof.Rows L2
section
variable {S α : Type} [Res S] {K : PySem.W.Frag} {C : Cf S} {B B' H H' : Hp} {s s' : S} {A A1 : List Addr} {ρ ρ1 ρ' : List PS} {σ σ1 : L2.St} {v : V} {d : PyData} {p : Addr}
  {ta tb tc td : TE} {u : TS} {wa wb wc wd : W S PyData} {k k1 k2 k3 k4 : EK} {i j l m : Nat} {r : RK} {env : α → List PS} {G : List Addr}
end
end PL

/-! min and max of two texts -/
namespace PL
open PySem PySem.Spec PyProof.Rows L2
section
variable {prog : Program} {w : World} {A : Around} {E : Value → Shared → Prop} {s : Shared}
end
section
variable {X : Cx} {K : PySem.W.Frag}
end
section
variable {K : PySem.W.Frag} {B H : Hp}
end
end PL

/-! a dict is locked while it is walked -/
namespace PL
open PySem PySem.Spec PyProof.Rows L2
/-- X' is X, with d locked -/
structure Lk (d : Addr) (o : Obj) (u : HO) (X X' : Hp) : Prop where
  off : ∀ a, a ≠ d → X' a = X a
  on : (X d = none ∧ X' d = none) ∨ (X d = some u ∧ X' d = some (.frz o u))
section
variable {d : Addr} {o : Obj} {u v : HO} {X X' : Hp} {a : Addr}
theorem Lk.fwd (l : Lk d o u X X') (h : X a = some v) : (a ≠ d ∧ X' a = some v) ∨ (a = d ∧ v = u ∧ X' a = some (.frz o u)) := by
  by_cases e : a = d
  · subst e
    rcases l.on with ⟨x, _⟩ | ⟨x, y⟩
    · rw [x] at h; cases h
    · rw [x] at h; cases h; exact .inr ⟨rfl, rfl, y⟩
  · exact .inl ⟨e, by rw [l.off a e]; exact h⟩
theorem Lk.bwd (l : Lk d o u X X') (h : X' a = some v) : (a ≠ d ∧ X a = some v) ∨ (a = d ∧ v = .frz o u ∧ X a = some u) := by
  by_cases e : a = d
  · subst e
    rcases l.on with ⟨_, x⟩ | ⟨y, x⟩
    · rw [x] at h; cases h
    · rw [x] at h; cases h; exact .inr ⟨rfl, rfl, y⟩
  · exact .inl ⟨e, by rw [← l.off a e]; exact h⟩
theorem Lk.no (l : Lk d o u X X') : X a = none ↔ X' a = none := by
  by_cases e : a = d
  · subst e
    rcases l.on with ⟨x, y⟩ | ⟨x, y⟩
    · rw [x, y]
    · rw [x, y]; exact ⟨nofun, nofun⟩
  · rw [l.off a e]
theorem Lk.tr (l : Lk d o u X X') (hu : IsDk u) : Tr X X' := by
  have no : ∀ {v : HO} {a : Addr}, X a = some v → ¬ IsDk v → X' a = some v := fun h n => by
    rcases l.fwd h with ⟨_, z⟩ | ⟨_, e, _⟩
    · exact z
    · subst e; exact absurd hu n
  refine ⟨fun a xs h => no h id, fun a o xs h => no h id, fun a xs h => no h id, fun a o xs h => no h id, fun a v hv h => ?_, fun a C dx vs h => no h id⟩
  rcases h with h | ⟨o', h⟩
  · rcases l.fwd h with ⟨_, z⟩ | ⟨_, e, z⟩
    · exact .inl z
    · subst e; exact .inr ⟨o, z⟩
  · exact .inr ⟨o', no h id⟩
theorem Lk.rt (l : Lk d o u X X') (hu : IsDk u) : Tr X' X := by
  have no : ∀ {v : HO} {a : Addr}, X' a = some v → (∀ o' , v ≠ .frz o' u) → X a = some v := fun h n => by
    rcases l.bwd h with ⟨_, z⟩ | ⟨_, e, _⟩
    · exact z
    · exact absurd e (n _)
  refine ⟨fun a xs h => no h (fun _ e => HO.noConfusion e), fun a o' xs h => no h fun o'' e => ?_, fun a xs h => no h (fun _ e => HO.noConfusion e), fun a o' xs h => no h fun o'' e => ?_, fun a v hv h => ?_, fun a C dx vs h => no h (fun _ e => HO.noConfusion e)⟩
  · injection e with _ e; subst e; exact hu
  · injection e with _ e; subst e; exact hu
  · rcases h with h | ⟨o', h⟩
    · exact .inl (no h fun o'' e => by subst e; exact hv)
    · rcases l.bwd h with ⟨_, z⟩ | ⟨_, e, z⟩
      · exact .inr ⟨o', z⟩
      · injection e with _ e; subst e; exact .inl z
end
section
variable {S α : Type} [Res S] {K : PySem.W.Frag} {C C' : Cf S} {B B' H H' : Hp} {s s' : S} {A A' : List Addr} {ρ ρ' : List PS} {σ σ' : L2.St} {v : V} {x : PyData} {p d : Addr} {o : Obj} {u : HO}
theorem OwnOk.nofrz {w : HO} (h : OwnOk K B (.frz o w) x) : False := h
theorem Lk.own (l : Lk d o u H H') {q : Addr} {w : HO} (hu : IsDk u) (hb : B q = none ∨ True) (h : H' q = some w) (ok : OwnOk K B w x) : q ≠ d ∧ H q = some w := by
  rcases l.bwd h with z | ⟨_, e, _⟩
  · exact z
  · subst e; exact ok.nofrz.elim
theorem Sls.lk (rt : C'.root = C.root) (lb : Lk d o u B B') (lh0 : Lk d o u C.H0 C'.H0) (lg : Lk d o u (Gh C B) (Gh C' B')) (hu : IsDk u) (noA : d ∉ A) (hl : Sls K C B H A ρ σ) : Sls K C' B' (upd H d (.frz o u)) A ρ σ := by
  induction hl with
  | nil => exact .nil
  | un _ ih => exact .un (ih noA)
  | dat r _ ih => exact .dat (r.tr (lb.tr hu)) (ih noA)
  | vw r _ ih => exact .vw (r.tr (lb.tr hu) (lg.tr hu)) (ih noA)
  | pv r _ ih => exact .pv (r.tr (lb.tr hu) (lg.tr hu)) (ih noA)
  | dk _ ih => rw [← rt]; exact .dk (ih noA)
  | own h1 h2 h3 h4 h5 _ ih =>
    have ne : _ ≠ d := fun z => noA (by rw [← z]; exact List.mem_cons_self)
    refine .own (by rw [upd_ne ne]; exact h1) ?_ (lb.no.mp h3) (lh0.no.mp h4) h5 (ih fun z => noA (List.mem_cons_of_mem _ z))
    unfold OwnOk at h2 ⊢
    split at h2
    · exact RpAll.tr (lb.tr hu) h2
    · exact RpKv.tr (lb.tr hu) h2
    · exact RpKt.tr (lb.tr hu) h2
    · exact ⟨h2.1, RpFs.tr (lb.tr hu) h2.2⟩
    · exact h2.elim
  | nt n nd hx _ ih =>
    obtain ⟨kvs, es, e1, e2, e3⟩ := n
    have key : ∀ {kvs : List (Key × V)} {es : List (PyData × PyData)} {qs : List Addr}, NtKv K B H kvs es qs → (∀ q ∈ qs, q ≠ d) → NtKv K (B') (upd H d (.frz o u)) kvs es qs := by
      intro kvs es qs h
      induction h with
      | nil => intro _; exact .nil
      | lst g1 g2 _ ih =>
        intro hq
        exact .lst ((lb.tr hu).lst _ _ g1) (RpAll.tr (lb.tr hu) g2) (ih hq)
      | cons g0 g1 g2 _ ih =>
        intro hq
        refine .cons g0 (by rw [upd_ne (hq _ List.mem_cons_self)]; exact g1) ?_ (ih fun q z => hq q (List.mem_cons_of_mem _ z))
        unfold OwnOk at g2 ⊢
        split at g2
        · exact RpAll.tr (lb.tr hu) g2
        · exact RpKv.tr (lb.tr hu) g2
        · exact RpKt.tr (lb.tr hu) g2
        · exact ⟨g2.1, RpFs.tr (lb.tr hu) g2.2⟩
        · exact g2.elim
    refine .nt ⟨kvs, es, e1, (lb.tr hu).dic _ _ trivial e2, key e3 fun q z e => noA (by rw [← e]; exact List.mem_append_left _ z)⟩ nd (fun q hq => ⟨lb.no.mp (hx q hq).1, lh0.no.mp (hx q hq).2.1, (hx q hq).2.2⟩) (ih fun z => noA (List.mem_append_right _ z))
end
end PL

/-! dicts walked; dict comprehensions -/
namespace PL
open PySem PySem.Spec PyProof.Rows L2
section
variable {S α β : Type} [Res S] {K : PySem.W.Frag} {C C' : Cf S} {B B' H H' : Hp} {s s' : S} {A A' : List Addr} {ρ ρ' : List PS} {σ σ' : L2.St} {v : V} {x : PyData} {p d : Addr} {o : Obj} {u : HO}
  {te tk tv : TE} {tt : TT} {r : RK} {env : α → List PS}
/-! ### a dict that is walked -/
theorem SV.sr {B H : Hp} {v : V} {d : PyData} (h : SV K B H v d) : SR K B H v d := by
  cases h with
  | rp h => exact .rp h
  | lst h r => exact .lst h r
  | dic h r => exact .dic h r
  | dct h r => exact .dct h r
  | obj c h r => exact .obj c h r
end
end PL

/-! dicts walked, under a lock -/
namespace PL
open PySem PySem.Spec PyProof.Rows L2
section
variable {K : PySem.W.Frag} {B H : Hp}
end
section
variable {S α β : Type} [Res S] {K : PySem.W.Frag} {C C' : Cf S} {B B' H H' : Hp} {s s' : S} {A A' : List Addr} {ρ ρ' : List PS} {σ σ' : L2.St} {v : V} {x : PyData} {p d : Addr} {o : Obj} {u : HO}
  {te tk tv : TE} {tt : TT} {r : RK} {env : α → List PS}
theorem later {w : HO} (hw : Hs C B H s) (hg : Gh C B d = some w) {B2 H2 : Hp} {s2 : S} (e : Same B B2) (w2 : Hs C B2 H2 s2) : H2 d = some w := ((hw.gh2 e w2.nb).trans w2.gh) _ _ hg
/-! an own dict is lent: read only, at its place -/
end
end PL

/-! nets: a dict of own things -/
namespace PL
open PySem PySem.Spec PyProof.Rows L2
section
variable {S α β : Type} [Res S] {K : PySem.W.Frag} {C C' : Cf S} {B B' H H' : Hp} {s s' : S} {A A' : List Addr} {ρ ρ' : List PS} {σ σ' : L2.St} {v : V} {x d : PyData} {p : Addr} {o : Obj} {u : TS}
  {te tk tv : TE} {tt : TT} {r : RK} {env : α → List PS} {i : Nat}
/-! net["k"][y] = v -/
end
end PL

/-! nets: frozen, given, lent to a def that changes them -/
namespace PL
open PySem PySem.Spec PyProof.Rows L2
section
variable {S α β : Type} [Res S] {K : PySem.W.Frag} {C C' : Cf S} {B B' H H' : Hp} {s s' : S} {A A' : List Addr} {ρ ρ' : List PS} {σ σ' : L2.St} {v : V} {x d : PyData} {p : Addr} {o : Obj} {u : TS}
  {te tk tv : TE} {tt : TT} {r : RK} {env : α → List PS} {i : Nat}
/-! ### a def that gives a net -/
variable {n : Nat} {t tk' : TA} {E : XK} {ws : List (W S PyData)} {ks : List EK}
/-! ### a def that changes a net -/
/-- the arguments: one is a net that is lent -/
def ArgN (K : PySem.W.Frag) (C : Cf S) (H : Hp) (p : Addr) (x : PyData) (qs : List Addr) : EK → V → PyData → Prop
  | .dat, v, d => Rp K C.B0 v d
  | .dk, v, _ => v = .ref C.root
  | .nt _, v, d => v = .ref p ∧ d = x ∧ NtOk K C.B0 H p x qs ∧ qs.Nodup ∧ ∀ q ∈ qs, C.B0 q = none ∧ C.H0 q = none
  | _, _, _ => False
def ArgsN (K : PySem.W.Frag) (C : Cf S) (H : Hp) (p : Addr) (x : PyData) (qs : List Addr) : List EK → List V → List PyData → Prop
  | [], [], [] => True
  | k :: ks, v :: vs, d :: ds => ArgN K C H p x qs k v d ∧ ArgsN K C H p x qs ks vs ds
  | _, _, _ => False
def one_nt : List EK → Bool
  | [] => true
  | .nt _ :: ks => !(ks.any fun k => match k with | .nt _ => true | _ => false)
  | _ :: ks => one_nt ks
def argPN (p : Addr) : List EK → List PyData → List PS
  | .dat :: ks, d :: ds => .dat d :: argPN p ks ds
  | .dk :: ks, _ :: ds => .dk :: argPN p ks ds
  | .nt _ :: ks, d :: ds => .nt p d :: argPN p ks ds
  | _, _ => []
/-- the heap without some places -/
noncomputable def offH (H : Hp) (qs : List Addr) : Hp := fun a => open Classical in if a ∈ qs then none else H a
def spN (K : PySem.W.Frag) (ks : List EK) (F : List PyData → W S PyData) : Sp := fun vs H Q _ =>
  ∃ (C : Cf S) (ds : List PyData) (s : S) (P : PyData → S → Prop) (p : Addr) (x : PyData) (qs : List Addr), C.H0 = offH H qs ∧ (∀ a ∈ qs, H a ≠ none) ∧ C.ok s C.B0 H ∧ ArgsN K C H p x qs ks vs ds ∧ F ds s P ∧ ∀ B' v H' d s', Hs C B' H' s' → RtOk K C B' H' (.bn p) v d → P d s' → Q v H'
theorem ArgsN.len {H : Hp} {p : Addr} {x : PyData} {qs : List Addr} : ∀ {ks : List EK} {vs : List V} {ds : List PyData}, ArgsN K C H p x qs ks vs ds → vs.length = ks.length ∧ ds.length = ks.length
  | [], [], [], _ => ⟨rfl, rfl⟩
  | _ :: _, _ :: _, _ :: _, h => by
    obtain ⟨a, b⟩ := ArgsN.len h.2
    exact ⟨congrArg Nat.succ a, congrArg Nat.succ b⟩
  | [], _ :: _, _, h => h.elim
  | [], [], _ :: _, h => h.elim
  | _ :: _, [], _, h => h.elim
  | _ :: _, _ :: _, [], h => h.elim
theorem ArgsN.sls0 {H : Hp} {p : Addr} {x : PyData} {qs : List Addr} : ∀ {ks : List EK} {vs : List V} {ds : List PyData}, (ks.any fun k => match k with | .nt _ => true | _ => false) = false → ArgsN K C H p x qs ks vs ds → Sls K C C.B0 H [] (argPN p ks ds) (vs.map some)
  | [], [], [], _, _ => .nil
  | .dat :: _, _ :: _, _ :: _, a, h => .dat h.1 (ArgsN.sls0 (by simpa using a) h.2)
  | .dk :: ks, v :: vs, d :: ds, a, h => by
    cases (show v = .ref C.root from h.1)
    exact .dk (ArgsN.sls0 (by simpa using a) h.2)
  | .vw :: _, _ :: _, _ :: _, _, h => h.1.elim
  | .own :: _, _ :: _, _ :: _, _, h => h.1.elim
  | .wk :: _, _ :: _, _ :: _, _, h => h.1.elim
  | .nt _ :: _, _ :: _, _ :: _, a, h => by simp at a
  | [], _ :: _, _, _, h => h.elim
  | [], [], _ :: _, _, h => h.elim
  | _ :: _, [], _, _, h => h.elim
  | _ :: _, _ :: _, [], _, h => h.elim
theorem ArgsN.sls {H : Hp} {p : Addr} {x : PyData} {qs : List Addr} : ∀ {ks : List EK} {vs : List V} {ds : List PyData}, one_nt ks = true → ArgsN K C H p x qs ks vs ds → ∃ A, Sls K C C.B0 H A (argPN p ks ds) (vs.map some)
  | [], [], [], _, _ => ⟨[], .nil⟩
  | .dat :: _, _ :: _, _ :: _, a, h => by
    obtain ⟨A, l⟩ := ArgsN.sls (by simpa [one_nt] using a) h.2
    exact ⟨A, .dat h.1 l⟩
  | .dk :: ks, v :: vs, d :: ds, a, h => by
    cases (show v = .ref C.root from h.1)
    obtain ⟨A, l⟩ := ArgsN.sls (by simpa [one_nt] using a) h.2
    exact ⟨A, .dk l⟩
  | .vw :: _, _ :: _, _ :: _, _, h => h.1.elim
  | .own :: _, _ :: _, _ :: _, _, h => h.1.elim
  | .wk :: _, _ :: _, _ :: _, _, h => h.1.elim
  | .nt _ :: ks, v :: vs, d :: ds, a, h => by
    obtain ⟨⟨rfl, rfl, n, nd, hx⟩, h2⟩ := h
    have a : (!(ks.any fun k => match k with | .nt _ => true | _ => false)) = true := a
    exact ⟨_, .nt n nd (fun q hq => ⟨(hx q hq).1, (hx q hq).2, fun z => by cases z⟩) (ArgsN.sls0 (by simpa using a) h2)⟩
  | [], _ :: _, _, _, h => h.elim
  | [], [], _ :: _, _, h => h.elim
  | _ :: _, [], _, _, h => h.elim
  | _ :: _, _ :: _, [], _, h => h.elim
end
section
variable {S α : Type} [Res S] {P : Program} {w : World} {K : PySem.W.Frag} {mg : Str → Option Value} {base : Heap} {x qual : Str} {params : Arguments} {body : List Stmt} {scope : Scope} {dvs : List V} {kws : List (Str × V)} {f : Addr} {fd : FuncData}
end
section
variable {S α β : Type} [Res S] {K : PySem.W.Frag} {C C' : Cf S} {B B' H H' : Hp} {s s' : S} {A A' : List Addr} {ρ ρ' : List PS} {σ σ' : L2.St} {v : V} {x d : PyData} {p : Addr} {o : Obj} {u : TS}
  {r : RK} {env : α → List PS} {i : Nat}
variable {n : Nat} {t tk' : TA} {E : XK} {ws : List (W S PyData)} {ks : List EK}
end
end PL

/-! sorted of a dict with tuple keys, of a dict's items -/
namespace PL
open PySem PySem.Spec PyProof.Rows L2
section
variable {prog : Program} {w : World} {A : Around} {E : Value → Shared → Prop} {s : Shared}
end
/-! ### sorted(d), tuple keys -/
end PL
namespace PL
open PySem PySem.Spec PyProof.Rows L2
/-! ### new own things beside others that are new -/
section
variable {S α : Type} [Res S] {K : PySem.W.Frag} {C : Cf S} {B B' H H' : Hp} {s s' : S} {A : List Addr} {ρ ρ' : List PS} {σ : L2.St} {v : V} {x d : PyData} {p : Addr} {te : TE} {w : W S PyData}
end
end PL

namespace PL
open PySem PySem.Spec PyProof.Rows L2
/-! ### sorted(d.items()) -/
def t2 (e : PyData × PyData) : PyData := .tuple [e.1, e.2]
/-- tuples of two, tracked at their places -/
def putF (h' : Heap) : Hp → List (Addr × Key × V) → Hp
  | H, t :: ts => putF h' (upd H t.1 (.frz ((h'.get? t.1).getD { cls := .type "tuple", data := .seq #[] }) (.tup [kV t.2.1, t.2.2]))) ts
  | H, [] => H
section
variable {X : Cx} {e : Expr} {te : TE} {p apos cpos pos : Pos}
end
end PL

namespace PL
open PySem PySem.Spec PyProof.Rows L2
section
variable {X : Cx} {e : Expr} {te : TE} {p apos cpos pos : Pos}
end
/-! ### the pure reading -/
section
variable {S α : Type} [Res S] {K : PySem.W.Frag} {C : Cf S} {B B' H H' : Hp} {s s' : S} {A : List Addr} {ρ ρ' : List PS} {σ : L2.St} {v : V} {x d : PyData} {p : Addr} {te : TE} {w : W S PyData}
end
end PL

namespace PL
open PySem PySem.Spec PyProof.Rows L2
section
variable {S α β : Type} [Res S] {K : PySem.W.Frag} {C C' : Cf S} {B B' H H' : Hp} {s s' : S} {A A' : List Addr} {ρ ρ' : List PS} {σ σ' : L2.St} {v : V} {x d : PyData} {p : Addr} {o : Obj} {u : TS}
  {te tk tv ty : TE} {tt : TT} {r : RK} {env : α → List PS} {i : Nat}
/-! d.pop(k, None) -/
end
section
variable {S α : Type} [Res S] {P : Program} {w : World} {K : PySem.W.Frag} {mg : Str → Option Value} {base : Heap} {x qual : Str} {params : Arguments} {body : List Stmt} {scope : Scope} {dvs : List V} {kws : List (Str × V)} {f : Addr} {fd : FuncData}
end
end PL

/-! own.pop(), a call whose last argument changes an own thing, a loop over it -/
namespace PL
open PySem PySem.Spec PyProof.Rows L2
section
variable {S α β : Type} [Res S] {K : PySem.W.Frag} {C C2 : Cf S} {B B' H H' : Hp} {s s' : S} {A : List Addr} {ρ ρ' : List PS} {σ : L2.St} {v : V} {d : PyData} {p : Addr}
  {te tb : TE} {ts u : TS} {ta t : TA} {w wb : W S PyData} {wx : W S (PyData × PyData)} {k : EK} {i j n : Nat} {r : RK} {env : α → List PS} {E : XK} {ws : List (W S PyData)} {ks : List EK}
theorem RpAll.dropLast : ∀ {vs : List V} {ds : List PyData}, RpAll K B vs ds → RpAll K B vs.dropLast ds.dropLast
  | _, _, .nil => .nil
  | _, _, .cons h .nil => .nil
  | _, _, .cons h (.cons h2 t) => .cons h (RpAll.dropLast (.cons h2 t))
end
end PL

namespace PL
open PySem PySem.Spec PyProof.Rows L2
section
variable {S α β : Type} [Res S] {K : PySem.W.Frag} {ρ ρ' : List PS} {d : PyData} {p : Addr} {u : TS} {te tk tv ty ta tb : TE} {r : RK} {env : α → List PS} {i : Nat} {wa wb wv : W S PyData} {k : Str}
end
end PL
namespace PL
open PySem PySem.Spec PyProof.Rows L2
section
variable {S α β : Type} [Res S] {K : PySem.W.Frag} {ρ ρ' : List PS} {d : PyData} {t : TS} {r : RK} {env : α → List PS} {i : Nat}
end
end PL

/-! d.update(e), e a dict -/
namespace PL
open PySem PySem.Spec PyProof.Rows L2
section
variable {X : Cx} {pins : List (Addr × Obj)} {σ : L2.St} {H : Hp} {s : Shared} {a b : Addr} {kvs more : List (Key × V)} {A : Around} {E : Value → Shared → Prop}
variable {o e : Expr} {apos cpos : Pos} {td ty : TE}
end
section
variable {S α β : Type} [Res S] {K : PySem.W.Frag} {C C' : Cf S} {B B' H H' : Hp} {s s' : S} {A A' : List Addr} {ρ ρ' : List PS} {σ σ' : L2.St} {v : V} {x d : PyData} {p : Addr} {o : Obj} {u : TS}
  {te tk tv ty : TE} {tt : TT} {r : RK} {env : α → List PS} {i : Nat}
/-! d.pop(k), k there -/
end
end PL

/-! zip(xs, ys, strict=True) over two lists, two tuples -/
namespace PL
open PySem PySem.Spec PyProof.Rows L2 RZ
open PySem.Sem (wp)
section
variable {prog : Program} {w : World} {A : Around} {E : Value → Shared → Prop} {s : Shared}
end
end PL

/-! zip(.., strict=True) as what is walked -/
namespace PL
open PySem PySem.Spec PyProof.Rows L2 RZ
section
variable {X : Cx} {K : PySem.W.Frag}
end
section
variable {S : Type} [Res S] {K : PySem.W.Frag} {ρ : List PS} {t : TA} {ws : List (W S PyData)}
end
end PL

/-! == and != of instances by the class's own __eq__; isinstance of an own class -/
namespace PL
open PySem PySem.Spec PyProof.Rows L2
section
variable {M : Model} {prog : Program} {w : World} {A : Around} {E : Value → Shared → Prop} {s : Shared} {K : PySem.W.Frag} {x y C f : Addr} {ox oy : Obj} {od od2 : Option Obj}
end
section
variable {X : Cx} {CX : CXT} {C f : Addr} {fd : FuncData} {ps : List Str} {sp : Sp} {E : XK} {k : Nat}
/-- the own == of two instances; t: what it answers -/
def rOwn (C : Addr) (sp : Sp) (E : XK) (neg : Bool) : R2 := fun x y H Q => ∃ a b dx vs dy ws, x = .ref a ∧ y = .ref b ∧ H a = some (.ins C dx vs) ∧ H b = some (.ins C dy ws) ∧ sp [x, y] H (fun v H' => ∃ t, v = .bl t ∧ Q (.bl (if neg then !t else t)) H') E
end

/-- the text's own class as what isinstance is asked for -/
structure IsiO (K : PySem.W.Frag) (C : Addr) : Prop where
  cl : Cls K C
  ca : PySem.W.findIn K (.ref C) "__class__" = some (some (.builtin "object.__class__"))
  gt : PySem.W.specialIn K (.builtin "object.__class__") "__get__" = some (some (.builtin "getset_descriptor.__get__"))
  tk : PySem.W.takesIn K (.builtin "object.__class__") = some true
  ob : PySem.W.mroIn K C (.type "object") = some true
  me : PySem.W.kitOne K (.ref C) (.ref C) = some true
def rIsiO (K : PySem.W.Frag) (C : Addr) : List V → Hp → VK → Prop := fun xs H Q => ∃ a dx vs, xs = [.ref a, .ref C] ∧ H a = some (.ins C dx vs) ∧ IsiO K C ∧ Q (.bl true) H
theorem call_isiO {X : Cx} {K : PySem.W.Frag} (hK : X.K = K) (C : Addr) : CallR X (.builtin "isinstance") (rIsiO K C) := by
  subst hK
  intro pins s σ H xs us Q I r h
  obtain ⟨a, dx, vs, rfl, ha, i, q⟩ := h
  cases r with
  | cons rx rr =>
    cases rr with
    | cons rt rr =>
      cases rr
      cases rt
      exact isinst_ok I rx (.ins ha i.cl i.ca i.gt i.tk i.ob) i.me fun tk => ⟨.bl true, H, I.kept (t' := tk) fun _ _ z => z, rfl, q⟩
section
variable {S : Type} [Res S] {K : PySem.W.Frag} {ρ : List PS} {ta tb te : TE} {wa wb w : W S PyData} {nm : Str} {Cl : Addr} {E : XK} {B H : Hp}
end
end PL

/-! `is True`, `is not True`; the deck made beside another thing -/
namespace PL
open PySem PySem.Spec PyProof.Rows L2
section
variable {K : PySem.W.Frag}
end
end PL

/-! [f, g][k](..): a call of what an expression gives -/
namespace PL
open PySem PySem.Spec PyProof.Rows L2
section
variable {X : Cx} {CX : CXT} {n : Nat} {E : XK} {v sl : Expr} {p pos : Pos} {e : Expr} {es : List Expr} {tf : TE} {t : TA} {Sf : Addr → Sp → Prop}
end
section
variable {S : Type} [Res S] {K : PySem.W.Frag} {ρ : List PS} {n : Nat} {wf : W S PyData} {ks : List EK} {tf : TE} {t : TA} {ws : List (W S PyData)} {E : XK}
end
end PL

/-! deck, x = make(script), e : where x is a cell: by the tuple itself -/
namespace PL
open PySem PySem.Spec PyProof.Rows L2
end PL

/-! an int in a tuple of ints -/
namespace PL
open PySem PySem.Spec PyProof.Rows L2
section
variable {K : PySem.W.Frag}
end
end PL

/-! [e for x in xs for y in ys] -/
namespace PL
open PySem PySem.Spec PyProof.Rows L2
section
variable {S : Type}
end
section
variable {S α β : Type} [Res S] {K : PySem.W.Frag} {ρ : List PS} {te : TE}
end
end PL

/-! a local gets a dict comprehension that stands on its line -/
namespace PL
open PySem PySem.Spec PyProof.Rows L2
section
variable {X : Cx}
end
/-! a list of two is taken apart -/
section
variable {S α β γ : Type} [Res S] {K : PySem.W.Frag} {B H : Hp} {s : S} {ρ : List PS} {X : Cx}
end
/-! xs[i] = v for an own list -/
section
variable {S α β : Type} [Res S] {K : PySem.W.Frag} {X : Cx} {ρ ρ' : List PS} {i : Nat} {d : PyData} {tv ty : TE} {wa wb : W S PyData} {u : TS} {r : RK} {env : α → List PS}
end
end PL

/-! dicts compared; d.pop(k) as a value; stores and parallel assignments that change an own thing on their way -/
namespace PL
open PySem PySem.Spec PyProof.Rows L2
/-! ### == of dicts whose keys are ints and texts -/
/-- the values are data that may be compared -/
inductive DpKv (K : PySem.W.Frag) (H : Hp) : List (Key × V) → List (PyData × PyData) → Prop
  | nil : DpKv K H [] []
  | cons {k : Key} {v : V} {kvs : List (Key × V)} {d : PyData} {es : List (PyData × PyData)} : Dp K H v d → (SeqAt.shaped d = true ∧ d.depth ≤ 60) → DpKv K H kvs es → DpKv K H ((k, v) :: kvs) ((kD k, d) :: es)
section
variable {X : Cx} {pins : List (Addr × Obj)} {σ : L2.St} {H : Hp} {s : Shared} {A : Around}
end
/-! the pure programs -/
def shKv (es : List (PyData × PyData)) : Prop := ∀ e ∈ es, SeqAt.shaped e.2 = true ∧ e.2.depth ≤ 60
section
variable {K : PySem.W.Frag} {B H : Hp}
theorem RpKv.dp (e : Same B H) : ∀ {kvs : List (Key × V)} {es : List (PyData × PyData)}, shKv es → RpKv K B kvs es → DpKv K H kvs es
  | _, _, _, .nil => .nil
  | _, _, h, .cons h1 t => .cons (Rp.dp e (noDict_of (h _ List.mem_cons_self).1) h1) (h _ List.mem_cons_self) (RpKv.dp e (fun x hx => h x (List.mem_cons_of_mem _ hx)) t)
end
/-! ### d.pop(k) as a value -/
section
variable {S α β : Type} [Res S] {K : PySem.W.Frag} {C C2 : Cf S} {B B' H H' : Hp} {s s' : S} {A : List Addr} {ρ ρ' : List PS} {σ : L2.St} {v : V} {d : PyData} {p : Addr}
  {te ta tb tv ty : TE} {ts u : TS} {w wa wb : W S PyData} {wx : W S (PyData × PyData)} {k k2 : EK} {i j l : Nat} {r : RK} {env : α → List PS}
/-! ### own[key] = value, the key an expression that changes another own thing -/
/-! ### a, b = own.pop(k), e -/
end
end PL

/-! a dict display of two entries -/
namespace PL
open PySem PySem.Spec PyProof.Rows L2
section
variable {S : Type} [Res S] {K : PySem.W.Frag} {C : Cf S} {B H : Hp} {s : S} {A : List Addr} {ρ : List PS} {σ : L2.St} {ta tb : TE} {wa wb : W S PyData}
end
end PL

/-! {(a, b): v for .. in .. for .. in ..}: the turns of both loops -/
namespace PL
open PySem PySem.Spec PyProof.Rows L2
section
variable {prog : Program} {w : World} {A : Around} {R : Result → Shared → Prop} {s : Shared} {kx vx t0 i0 t1 i1 : Expr} {scope : Scope} {pos : Pos} {it : Value} {D : Addr} {env : Env}
end
end PL

/-! {(a, b): v for .. in .. for .. in ..} -/
namespace PL
open PySem PySem.Spec PyProof.Rows L2
section
variable {X : Cx} {pins : List (Addr × Obj)} {σ : L2.St} {H H' : Hp} {s : Shared} {y v : V} {u r : Value} {D : Addr}
end
end PL

/-! {(a, b): v for x in xs for y in ys}, as a pure program -/
namespace PL
open PySem PySem.Spec PyProof.Rows L2
section
variable {S : Type}
end
section
variable {S α β : Type} [Res S] {K : PySem.W.Frag} {ρ : List PS} {ta tb tv : TE}
end
end PL

/-! zip(xs, ys, zs, strict=True) over three tuples -/
namespace PL
open PySem PySem.Spec PyProof.Rows L2 RZ
open PySem.Sem (wp)
section
variable {prog : Program} {w : World} {A : Around} {E : Value → Shared → Prop} {s : Shared}
variable {n l1 l2 l3 : Nat}
end
end PL

/-! zip(xs, ys, zs, strict=True) as what is walked -/
namespace PL
open PySem PySem.Spec PyProof.Rows L2 RZ
open PySem.Sem (wp)
section
variable {prog : Program} {w : World} {A : Around} {E : Value → Shared → Prop} {s : Shared} {n l1 l2 l3 : Nat}
end
section
variable {X : Cx} {K : PySem.W.Frag}
end
section
variable {S : Type} [Res S] {K : PySem.W.Frag} {ρ : List PS} {t : TA} {ws : List (W S PyData)}
end
end PL

/-! nets with a list that stays; parts named by a local -/
namespace PL
open PySem PySem.Spec PyProof.Rows L2
section
variable {S α β : Type} [Res S] {K : PySem.W.Frag} {C C' : Cf S} {B B' H H' : Hp} {s s' : S} {A A' : List Addr} {ρ ρ' : List PS} {σ σ' : L2.St} {v : V} {x d : PyData} {p : Addr} {u : TS}
  {te tk tv ty : TE} {r : RK} {env : α → List PS} {i j : Nat}
end
end PL

/-! parts of a net named by a local -/
namespace PL
open PySem PySem.Spec PyProof.Rows L2
section
variable {S α β : Type} [Res S] {K : PySem.W.Frag} {C C' : Cf S} {B B' H H' : Hp} {s s' : S} {A A' : List Addr} {ρ ρ' : List PS} {σ σ' : L2.St} {v : V} {x d : PyData} {p : Addr} {u t : TS}
  {te tk tv ty : TE} {r : RK} {env : α → List PS} {i j : Nat} {k k1 k2 : Str}
end
end PL

/-! enumerate over a tuple -/
namespace PL
open PySem PySem.Spec PyProof.Rows L2 RZ
open PySem.Sem (wp)
section
variable {prog : Program} {w : World} {A : Around} {E : Value → Shared → Prop} {s : Shared}
end
end PL

/-! enumerate over a list or a tuple -/
namespace PL
open PySem PySem.Spec PyProof.Rows L2 RZ
open PySem.Sem (wp)
end PL

/-! enumerate over a list or a tuple, in the pure layer -/
namespace PL
open PySem PySem.Spec PyProof.Rows L2 RZ
open PySem.Sem (wp)
section
variable {S α : Type} [Res S] {K : PySem.W.Frag} {C : Cf S} {B B' H H' : Hp} {s : S} {A : List Addr} {ρ ρ' : List PS} {σ : L2.St} {v : V} {d : PyData} {p : Addr} {te : TE} {t : TA} {w : W S PyData} {ws : List (W S PyData)}
end
section
variable {X : Cx} {K : PySem.W.Frag}
end
end PL

/-! x not in l, items of any depth -/
namespace PL
open PySem PySem.Spec PyProof.Rows L2 RZ
theorem Rm.u65 {k : Nat} {A : Around} (r : Rm k A) : A.units + 65 < cLine := by have := r.r.un; omega
def onotinQ : PyData → PyData → W Unit PyData
  | d, .list ds => wreq (SeqAt.shaped d = true ∧ SeqAt.shaped (.list ds) = true) (.bool (!ds.any fun z => PyData.eqv z d))
  | _, _ => wfail
section
variable {K : PySem.W.Frag}
theorem ok_notinQ : OpOk K (rNotInD K) .dat onotinQ := fun B H x y d e hB hx hy P hp Q g => by
  unfold onotinQ at hp
  split at hp
  · obtain ⟨⟨h1, h2⟩, hp⟩ := hp
    exact ⟨_, _, hx.dp hB (noDict_of h1), hy.dp hB (noDict_of h2), h1, h2, fin_dat hB g (.bl _) hp⟩
  · exact hp.elim
end
section
variable {X : Cx} {K : PySem.W.Frag}
theorem op_notInQK (hK : X.K = K) (hu : X.A.units + 65 < cLine) : OpR X (compareOp .NotIn) (rNotInD K) := by subst hK; exact op_notInD hu
end
end PL

/-! a new dict, that a call gives, is walked: it is locked for good -/
namespace PL
open PySem PySem.Spec PyProof.Rows L2 RZ
section
variable {S α : Type} [Res S] {K : PySem.W.Frag} {C : Cf S} {B B' H H' : Hp} {s : S} {A : List Addr} {ρ : List PS} {σ : L2.St} {v : V} {d : PyData} {p : Addr} {te : TE} {w : W S PyData}
end
end PL

/-! a tuple, not empty, times 0 or 1 -/
namespace PL
open PySem PySem.Spec PyProof.Rows L2 RZ
section
variable {X : Cx}
end
section
variable {K : PySem.W.Frag}
end
end PL

/-! sorted of a tuple of tuples that begin with texts -/
namespace PL
open PySem PySem.Spec PyProof.Rows L2 RZ
section
variable {K : PySem.W.Frag}
end
end PL

/-! own exception classes over a built-in one: made, and their fields stored -/
namespace PLX
open PySem PySem.W PySem.Calls PyProof.Rows PySem.HandSPX
open Builtin Builtin.ObjectAttr
/-- B.__init__ -/
structure XI (B initId : String) : Prop where
  slot : Slot B "__init__" initId
  ent : entryFor table initId = some Builtin.«BaseException.__init__»
  spl : splitId initId = some (B, "__init__")
  knd : builtinKind initId = some .slot
  row : Manifest.signature? initId = some ⟨.positional, "*", B, .self, [⟨"args", .varPos, false⟩]⟩
  star : (B != "*") = true
theorem xi_of {B n i : String} (F : ExcCallFacts B n i) : XI B i := ⟨F.init, F.initEntry, F.initSplit, F.initKind, F.initRow, F.noStar⟩
theorem xi_key : XI "KeyError" "KeyError.__init__" where
  slot := .of (owner := "KeyError") (n := "__init__") (by rw [typeLookup_type, builtinLookup_eq_fast]; kernel_rfl) (by decide +kernel) (by decide +kernel) (by decide +kernel) (by first | exact .inl (by decide +kernel) | exact .inr (by decide +kernel)) (by rw [isSubtype_type]; kernel_rfl)
  ent := entryFor_alias (id' := "BaseException.__init__") (by rw [fastTable_eq_tree]; kernel_rfl) (by first | rfl | decide +kernel) (by decide +kernel) (by rw [fastTable_eq_tree]; kernel_rfl)
  spl := by kernel_rfl
  knd := by kernel_rfl
  row := by kernel_rfl
  star := by decide +kernel
/-- what follows a class in its mro: own classes, then the built-in ones tl -/
def tailIs (tl : List Value) : List Value → Bool
  | .ref _ :: r => tailIs tl r
  | l => l == tl
theorem tailIs_cases {tl : List Value} : ∀ l : List Value, tailIs tl l = true → (∃ c r, l = .ref c :: r ∧ tailIs tl r = true) ∨ l = tl
  | [], e => .inr (beq_iff_eq.mp e)
  | .ref c :: r, e => .inl ⟨c, r, rfl, e⟩
  | .none :: _, e => .inr (beq_iff_eq.mp e)
  | .ellipsis :: _, e => .inr (beq_iff_eq.mp e)
  | .notImplemented :: _, e => .inr (beq_iff_eq.mp e)
  | .bool _ :: _, e => .inr (beq_iff_eq.mp e)
  | .int _ _ :: _, e => .inr (beq_iff_eq.mp e)
  | .float _ _ :: _, e => .inr (beq_iff_eq.mp e)
  | .str _ _ :: _, e => .inr (beq_iff_eq.mp e)
  | .bytes _ _ :: _, e => .inr (beq_iff_eq.mp e)
  | .type _ :: _, e => .inr (beq_iff_eq.mp e)
  | .builtin _ :: _, e => .inr (beq_iff_eq.mp e)
/-- a built-in exception class as a base: by whom instances are made and initialised, its mro -/
structure XBase (nB nId iB iId : String) (tl : List Value) : Prop where
  new : ∃ (x : String) (bmB : List Value), ExcBaseFacts nB nId x bmB
  ini : XI iB iId
  pas : ∀ self : Value, refuseLoop self "__setattr__" tl = pure ()
  hn : tl.contains (.type nB) = true
  hi : tl.contains (.type iB) = true
  ha : tl.contains (.type "AttributeError") = false
  he : tl.contains (.type "NameError") = false
  ho : tl.contains (.type "object") = true
  h0 : ∀ c r, tl ≠ .ref c :: r
  ne : tl ≠ []
abbrev tlVE : List Value := [.type "ValueError", .type "Exception", .type "BaseException", .type "object"]
abbrev tlKE : List Value := [.type "KeyError", .type "LookupError", .type "Exception", .type "BaseException", .type "object"]
abbrev tlIE : List Value := [.type "IndexError", .type "LookupError", .type "Exception", .type "BaseException", .type "object"]
theorem xb_VE : XBase "ValueError" "ValueError.__new__" "ValueError" "ValueError.__init__" tlVE := ⟨⟨_, _, F.excBase_ValueError⟩, xi_of F.excBase_ValueError.toExcCallFacts, F.store_ValueError.passes, by decide +kernel, by decide +kernel, by decide +kernel, by decide +kernel, by decide +kernel, nofun, nofun⟩
theorem xb_KE : XBase "LookupError" "LookupError.__new__" "KeyError" "KeyError.__init__" tlKE := ⟨⟨_, _, F.excBase_LookupError⟩, xi_key, fun self => by kernel_rfl, by decide +kernel, by decide +kernel, by decide +kernel, by decide +kernel, by decide +kernel, nofun, nofun⟩
theorem xb_IE : XBase "IndexError" "IndexError.__new__" "IndexError" "IndexError.__init__" tlIE := ⟨⟨_, _, F.excBase_IndexError⟩, xi_of F.excBase_IndexError.toExcCallFacts, fun self => by kernel_rfl, by decide +kernel, by decide +kernel, by decide +kernel, by decide +kernel, by decide +kernel, nofun, nofun⟩
section
variable {nB nId iB iId : String} {tl : List Value}
theorem tail_pass (F : XBase nB nId iB iId tl) (self : Value) : ∀ l : List Value, tailIs tl l = true → refuseLoop self "__setattr__" l = pure () := by
  intro l
  induction l with
  | nil =>
    intro e
    rcases tailIs_cases [] e with ⟨c, r', q, _⟩ | q
    · cases q
    · exact absurd q.symm F.ne
  | cons a r ih =>
    intro e
    rcases tailIs_cases (a :: r) e with ⟨c, r', q, hr⟩ | q
    · obtain ⟨rfl, rfl⟩ := List.cons.inj q
      rw [refuseLoop_ref]
      exact ih hr
    · rw [q]
      exact F.pas self
theorem tail_has (X : String) : ∀ l : List Value, tailIs tl l = true → l.contains (.type X) = tl.contains (.type X) := by
  intro l
  induction l with
  | nil =>
    intro e
    rcases tailIs_cases [] e with ⟨c, r', q, _⟩ | q
    · cases q
    · rw [q]
  | cons a r ih =>
    intro e
    rcases tailIs_cases (a :: r) e with ⟨c, r', q, hr⟩ | q
    · obtain ⟨rfl, rfl⟩ := List.cons.inj q
      rw [List.contains_cons, ih hr]
      rfl
    · rw [q]
end
section
variable {M : Model} {A : Around} {E : Value → Shared → Prop} {hp : Heap} {gs : Array GenState} {dr : Drawn} {tk : Nat} {os : OsState}
variable {nm q : Str} {C N : Addr} {bs bm : List Value} {hdct : Bool} {sn : List Str} {sub : List Value} {ab : Bool} {col : Option Bool} {dd : Option Addr} {k0 k1 k2 k3 k5 : Option Value} {nB nId iB iId : String} {tl : List Value}
theorem x_checkNew (F : XBase nB nId iB iId tl) (ht : tailIs tl bm = true) {us : List Value} {Q : Unit → Shared → Prop} (hC : hp.get? C = some (excClassObj nm q C N bs bm hdct sn sub ab col dd k0 k1 k2 k3 k5 nId)) (hq : Q () ⟨hp, gs, dr, tk, os⟩) :
    wpAny M A (checkBuiltinCall nId ⟨.ref C :: us, []⟩) Q E ⟨hp, gs, dr, tk, os⟩ := by
  obtain ⟨_, _, F'⟩ := F.new
  have hcc : (Value.ref C :: bm).contains (.type nB) = true := by rw [List.contains_cons, tail_has nB bm ht, F.hn, Bool.or_true]
  have hst := F'.noStar
  simp only [checkBuiltinCall, F'.newKind, F'.newSplit, F'.newRow]
  repeat (first | refine wpAny_loadPart_at hC ?_ | (refine wpAny_isSubtype_exc hC ?_; rw [hcc]) | refine wpAny_staticBase_exc hC ?_ | refine wpAny_madeBy_exc hC ?_ | simp only [bne_self_eq_false, Bool.false_eq_true, if_false] | wp_step)
  exact hq
theorem x_checkInit (F : XBase nB nId iB iId tl) (ht : tailIs tl bm = true) {x : Addr} {ox : Obj} {us : List Value} {Q : Unit → Shared → Prop} (hC : hp.get? C = some (excClassObj nm q C N bs bm hdct sn sub ab col dd k0 k1 k2 k3 k5 nId)) (hx : hp.get? x = some ox) (hcls : ox.cls = .ref C) (hq : Q () ⟨hp, gs, dr, tk, os⟩) :
    wpAny M A (checkBuiltinCall iId ⟨.ref x :: us, []⟩) Q E ⟨hp, gs, dr, tk, os⟩ := by
  have hcc : (Value.ref C :: bm).contains (.type iB) = true := by rw [List.contains_cons, tail_has iB bm ht, F.hi, Bool.or_true]
  have hsh := F.ini.star
  simp only [checkBuiltinCall, F.ini.knd, F.ini.spl, F.ini.row]
  repeat (first | (with_reducible refine wpAny_loadPart_at hx ?_; rw [hcls]) | with_reducible refine wpAny_loadPart_at hC ?_ | (with_reducible refine wpAny_isSubtype_exc hC ?_; rw [hcc]) | wp_step)
  refine wpAny_onRaise ?_
  rw [show ∀ (a b : String) (n : Nat), Bind.check ⟨.positional, "*", iB, .self, [⟨"args", .varPos, false⟩]⟩ a b n (List.map (fun x => x.fst) ({ pos := Value.ref x :: us } : Args).kw) = pure () from fun a b n => check_star_args _ _ _ _ _ _]
  exact wpAny_pure hq
end
section
variable {prog : Program} {w : World} {A : Around} {E : Value → Shared → Prop} {R : Result → Shared → Prop} {hp : Heap} {gs : Array GenState} {dr : Drawn} {tk : Nat} {os : OsState}
variable {nm q : Str} {C N : Addr} {bs bm : List Value} {hdct : Bool} {sn : List Str} {sub : List Value} {ab : Bool} {col : Option Bool} {dd : Option Addr} {k0 k1 k2 k3 k5 : Option Value} {nB nId iB iId : String} {tl : List Value}
theorem x_new (F : XBase nB nId iB iId tl) (ht : tailIs tl bm = true) {us : List Value} (hC : hp.get? C = some (excClassObj nm q C N bs bm hdct sn sub ab col dd k0 k1 k2 k3 k5 nId)) (hl : us.length ≤ sizeLine)
    (hq : R (.ok (.ret (.ref (hp.objs.size + 1)))) ⟨(hp.push (W.kdv_tup us)).push (excO C hp.objs.size), gs, dr, tk, os⟩) : codeAny (model prog w) A (.builtin nId ⟨.ref C :: us, []⟩) R ⟨hp, gs, dr, tk, os⟩ := by
  obtain ⟨_, _, F'⟩ := F.new
  have h1 := F'.ends
  have hcB : (Value.ref C :: bm).contains (.type nB) = true := by rw [List.contains_cons, tail_has nB bm ht, F.hn, Bool.or_true]
  have hcA : (Value.ref C :: bm).contains (.type "AttributeError") = false := by rw [List.contains_cons, tail_has _ bm ht, F.ha]; rfl
  have hcN : (Value.ref C :: bm).contains (.type "NameError") = false := by rw [List.contains_cons, tail_has _ bm ht, F.he]; rfl
  refine codeAny_builtinAt F'.entry ?_
  unfold Builtin.«BaseException.__new__»
  refine PySem.wpAt_bind ?_
  show PySem.wpAt _ _ _ (stack >>= _) _ _ _
  refine PySem.wpAt_bind (PySem.wpAt_stack fun p below => PySem.wpAt_of_wpAny ?_)
  wp_walk
  refine PySem.wpAt_of_wpAny ?_
  rw [F'.owner]
  repeat (first | with_reducible refine wpAny_madeHere_exc F'.canon hC ?_ | with_reducible refine wpAny_loadPart_at hC ?_ | (with_reducible refine wpAny_isSubtype_exc hC ?_; first | rw [hcB] | rw [hcA] | rw [hcN]) | wp_step)
  show R _ _
  rw [Heap.size_push]
  exact hq
theorem x_typeCall (F : XBase nB nId iB iId tl) (ht : tailIs tl bm = true) {us : List Value} {fI : Addr} {Q : Fin → Shared → Prop} (hC : hp.get? C = some (excClassObj nm q C N bs bm hdct sn sub ab col dd k0 k1 k2 k3 k5 nId)) (hi : W.Looks (model prog w) hp (typeLookup (.ref C) "__init__") (some (.ref fI)))
    (hb : ∀ self, W.Looks (model prog w) hp (bindSpecial (.ref fI) self) (.ref fI, [self])) (hl : us.length ≤ sizeLine)
    (hq : codeAny (model prog w) A (.call (.ref fI) ⟨.ref (hp.objs.size + 1) :: us, []⟩) (fun r s' => match r with | .ok (.ret v) => v = .none ∧ Q (.done (.ret (.ref (hp.objs.size + 1)))) s' | .ok _ => False | .error e => E e s') ⟨(hp.push (W.kdv_tup us)).push (excO C hp.objs.size), gs, dr, tk, os⟩) :
    wpAny (model prog w) A (Builtin.«type.__call__» ⟨.ref C :: us, []⟩) Q E ⟨hp, gs, dr, tk, os⟩ := by
  obtain ⟨_, _, F'⟩ := F.new
  repeat (first | with_reducible refine wpAny_loadPart_at hC ?_ | with_reducible refine wpAny_madeBy_exc hC ?_ | wp_step)
  refine codeAny_call_builtin_code (Code.quiet_builtin _ F'.quiet) (x_checkNew F ht hC ?_)
  refine x_new F ht hC hl ?_
  show wpAny _ _ _ _ _ _
  have up : ∀ b o, hp.get? b = some o → ((hp.push (W.kdv_tup us)).push (excO C hp.objs.size)).get? b = some o := fun b o e => Heap.get?_push_of_some _ (Heap.get?_push_of_some _ e)
  have hC1 := up _ _ hC
  have hg : ((hp.push (W.kdv_tup us)).push (excO C hp.objs.size)).get? (hp.objs.size + 1) = some (excO C hp.objs.size) := by heap_get
  have hcC : (Value.ref C :: bm).contains (.ref C) = true := by simp
  have i1 := hi.keeps up
  have b1 := (hb (.ref (hp.objs.size + 1))).keeps up
  unfold isInstance
  repeat (first | with_reducible refine wpAny_loadPart_at hg ?_ | (with_reducible refine wpAny_isSubtype_exc hC1 ?_; rw [hcC]) | wp_step)
  show wpAny _ _ (typeLookup (.ref C) _) _ _ _
  refine i1.at ?_
  refine wpAny_holding (wpAny_bind (b1.at ?_))
  refine wpAny_bind (wpAny_call (codeAny_mono hq fun r s' z => ?_))
  rcases r with e | (v | _ | _ | _) <;> first | exact z | exact z.elim | skip
  obtain ⟨rfl, z⟩ := z
  first
    | exact wpAny_pure (wpAny_pure z)
    | (wp_walk; exact z)
theorem x_call (F : XBase nB nId iB iId tl) (ht : tailIs tl bm = true) {us : List Value} {fI : Addr} (hC : hp.get? C = some (excClassObj nm q C N bs bm hdct sn sub ab col dd k0 k1 k2 k3 k5 nId)) (hi : W.Looks (model prog w) hp (typeLookup (.ref C) "__init__") (some (.ref fI)))
    (hb : ∀ self, W.Looks (model prog w) hp (bindSpecial (.ref fI) self) (.ref fI, [self])) (hl : us.length ≤ sizeLine)
    (hq : codeAny (model prog w) (A.under (.builtin "type.__call__" ⟨.ref C :: us, []⟩)) (.call (.ref fI) ⟨.ref (hp.objs.size + 1) :: us, []⟩) (W.InitBack (hp.objs.size + 1) R) ⟨(hp.push (W.kdv_tup us)).push (excO C hp.objs.size), gs, dr, tk, os⟩) :
    codeAny (model prog w) A (.call (.ref C) ⟨us, []⟩) R ⟨hp, gs, dr, tk, os⟩ := by
  have t1 := tc_lookup
  have t2 := tc_bind (.ref C)
  have hTy : (⟨hp, gs, dr, tk, os⟩ : Shared).TypeIs (.ref C) "type" := ⟨_, hC, rfl⟩
  refine codeAny_of_tree ?_
  show wpAny _ _ (callAny (.ref C) _) _ _ _
  repeat (any_goals (first | assumption | with_reducible refine wpAny_loadPart_at hC ?_ | wp_step))
  refine ⟨rfl, ?_⟩
  refine codeAny_call_builtin_at (Code.quiet_builtin _ (by decide +kernel)) entry_typeCall (wpAny_check_type_call_sub hC (x_typeCall F ht hC hi hb hl ?_))
  refine codeAny_mono hq fun r s' z => ?_
  rcases r with e | (v | _ | _ | _) <;> exact z
theorem x_init (F : XBase nB nId iB iId tl) (ht : tailIs tl bm = true) {x t0 : Addr} {us : List Value} (hC : hp.get? C = some (excClassObj nm q C N bs bm hdct sn sub ab col dd k0 k1 k2 k3 k5 nId)) (hx : hp.get? x = some (excO C t0)) (hl : us.length ≤ sizeLine)
    (hq : ∀ h' t1, (∀ b o, b ≠ x → hp.get? b = some o → h'.get? b = some o) → h'.get? x = some (excO C t1) → R (.ok (.ret .none)) ⟨h', gs, dr, tk, os⟩) : codeAny (model prog w) A (.call (.builtin iId) ⟨.ref x :: us, []⟩) R ⟨hp, gs, dr, tk, os⟩ := by
  refine codeAny_call_builtin F.ini.slot.plain F.ini.ent (x_checkInit F ht hC hx rfl ?_)
  wp_walk
  refine hq _ hp.objs.size (fun b o hb ho => ?_) ?_
  · rw [Heap.get?_update_other _ _ (Ne.symm hb)]
    exact Heap.get?_push_of_some _ ho
  · rw [Heap.get?_update_self _ (Heap.get?_push_of_some _ hx) rfl]
    rfl
/-- self.name = v on an exception without a dict -/
theorem x_store1 {K : W.Frag} {name : Str} {tok : Tok} {v : Value} {x : Addr} {fv : Array Value} {cd : ClassData} (F : XBase nB nId iB iId tl) (X : K.In hp) (hx : hp.get? x = some { cls := .ref C, data := .fields fv }) (hcd : W.clsIn K C = some cd) (hmro : cd.mro = .ref C :: bm) (ht : tailIs tl bm = true) (hh : cd.hasDict = true) (hno : W.findIn K (.ref C) name = some none)
    (hq : ∀ h' tk' dx, (∀ b o, b ≠ x → hp.get? b = some o → h'.get? b = some o) → hp.objs.size ≤ dx → dx ≠ x → h'.get? x = some { cls := .ref C, dict := some dx, data := .fields fv } → h'.Ns1 dx (fun y => if y = name then some v else none) → R (.ok (.ret .none)) ⟨h', gs, dr, tk', os⟩) :
    codeAny (model prog w) A (.call (.builtin "object.__setattr__") ⟨[.ref x, .str name tok, v], []⟩) R ⟨hp, gs, dr, tk, os⟩ := by
  have I : W.InstAt hp x { cls := .ref C, data := .fields fv } C none := ⟨hx, rfl, rfl, trivial⟩
  have SF := PySem.F.store_object
  have hm : tailIs tl cd.mro = true := by rw [hmro]; exact ht
  have hob : cd.mro.contains (.type "object") = true := (tail_has "object" _ hm).trans F.ho
  have hne : cd.mro.isEmpty = false := by rw [hmro]; rfl
  have hxs : x ≠ hp.objs.size := Nat.ne_of_lt (Heap.lt_size hx)
  have isO : W.Looks (model prog w) hp (isInstance (.ref x) (.type "object")) true := I.type.andThen (W.looks_mroIn X (by unfold W.mroIn; rw [hcd, Option.bind_some, if_neg (by rw [hne]; decide), hob]))
  refine codeAny_call_builtin SF.slot.plain SF.entry (@W.check_slot (model prog w) _ _ ⟨hp, gs, dr, tk, os⟩ "object.__setattr__" "object" "__setattr__" (.ref x) [.str name tok, v] [] _ SF.kind SF.split isO (SF.args (.ref x) (.str name tok) v) ?_)
  have hmr : W.Looks (model prog w) hp (mroOf (.ref C)) cd.mro := (W.looks_clsIn X hcd).andThen .now
  have hst : W.Looks (model prog w) hp (storeTaker? none) none := .now
  have hcl : W.Looks (model prog w) hp (classData C) cd := W.looks_clsIn X hcd
  rw [W.osa_eq, refuse_eq]
  refine wpAny_bind (wpAny_bind (I.type.at (wpAny_bind (hmr.at ?_))))
  rw [tail_pass F _ _ hm]
  refine wpAny_pure (wpAny_bind (I.type.at (wpAny_bind ((W.looks_findIn X hno).at (wpAny_bind (hst.at ?_))))))
  show wpAny _ _ (storeInOwnDict (.ref x) (.ref C) (.str name tok) name v false) _ _ _
  obtain ⟨nm, bs, mro, ns, qn, hd, sn, sb, ab, col, del⟩ := cd
  dsimp only at hh
  subst hh
  unfold storeInOwnDict ownDictForStores
  repeat (first | with_reducible refine store_in_new ?_ ?_ | with_reducible refine wpAny_loadPart_at hx ?_ | with_reducible refine hcl.at ?_ | wp_step)
  · exact ⟨_, #[], _, (Heap.get?_update_ne _ _ _ _ hxs.symm).trans (Heap.get?_push_at rfl rfl), rfl, fun e he => absurd he (by simp), fun _ => rfl⟩
  · intro h' tk' hn' hs
    have hx1 : (hp.push { cls := .type "dict", data := .dict #[] }).get? x = some { cls := .ref C, data := .fields fv } := Heap.get?_push_of_some _ hx
    refine hq h' tk' hp.objs.size (fun b o hb ho => ?_) (Nat.le_refl _) hxs.symm ?_ hn'
    · exact (hs.2 b (Nat.ne_of_lt (Heap.lt_size ho))).trans ((Heap.get?_update_ne _ _ _ _ hb).trans (Heap.get?_push_of_some _ ho))
    · exact (hs.2 x hxs).trans (Heap.get?_update_self _ hx1 rfl)
/-- .. a further field -/
theorem x_store2 {K : W.Frag} {name : Str} {tok : Tok} {v : Value} {x dx : Addr} {fv : Array Value} {cd : ClassData} {m0 : Str → Option Value} {nl : List Str} (F : XBase nB nId iB iId tl) (X : K.In hp) (hx : hp.get? x = some { cls := .ref C, dict := some dx, data := .fields fv }) (hns : hp.Ns1 dx m0) (hw : Within m0 nl) (hz : nl.length ≤ 1000)
    (hcd : W.clsIn K C = some cd) (hmro : cd.mro = .ref C :: bm) (ht : tailIs tl bm = true) (hh : cd.hasDict = true) (hno : W.findIn K (.ref C) name = some none)
    (hq : ∀ h' tk', (∀ b o, b ≠ dx → hp.get? b = some o → h'.get? b = some o) → h'.Ns1 dx (fun y => if y = name then some v else m0 y) → R (.ok (.ret .none)) ⟨h', gs, dr, tk', os⟩) :
    codeAny (model prog w) A (.call (.builtin "object.__setattr__") ⟨[.ref x, .str name tok, v], []⟩) R ⟨hp, gs, dr, tk, os⟩ := by
  obtain ⟨oD, esD, epD, hoD, hdD, _⟩ := hns.count hw
  have I : W.InstAt hp x { cls := .ref C, dict := some dx, data := .fields fv } C (some oD) := ⟨hx, rfl, rfl, hoD⟩
  have SF := PySem.F.store_object
  have hm : tailIs tl cd.mro = true := by rw [hmro]; exact ht
  have hob : cd.mro.contains (.type "object") = true := (tail_has "object" _ hm).trans F.ho
  have hne : cd.mro.isEmpty = false := by rw [hmro]; rfl
  have isO : W.Looks (model prog w) hp (isInstance (.ref x) (.type "object")) true := I.type.andThen (W.looks_mroIn X (by unfold W.mroIn; rw [hcd, Option.bind_some, if_neg (by rw [hne]; decide), hob]))
  refine codeAny_call_builtin SF.slot.plain SF.entry (@W.check_slot (model prog w) _ _ ⟨hp, gs, dr, tk, os⟩ "object.__setattr__" "object" "__setattr__" (.ref x) [.str name tok, v] [] _ SF.kind SF.split isO (SF.args (.ref x) (.str name tok) v) ?_)
  have hmr : W.Looks (model prog w) hp (mroOf (.ref C)) cd.mro := (W.looks_clsIn X hcd).andThen .now
  have hst : W.Looks (model prog w) hp (storeTaker? none) none := .now
  have hcl : W.Looks (model prog w) hp (classData C) cd := W.looks_clsIn X hcd
  rw [W.osa_eq, refuse_eq]
  refine wpAny_bind (wpAny_bind (I.type.at (wpAny_bind (hmr.at ?_))))
  rw [tail_pass F _ _ hm]
  refine wpAny_pure (wpAny_bind (I.type.at (wpAny_bind ((W.looks_findIn X hno).at (wpAny_bind (hst.at ?_))))))
  show wpAny _ _ (storeInOwnDict (.ref x) (.ref C) (.str name tok) name v false) _ _ _
  obtain ⟨nm, bs, mro, ns, qn, hd, sn, sb, ab, col, del⟩ := cd
  dsimp only at hh
  subst hh
  unfold storeInOwnDict ownDictForStores
  repeat (first | with_reducible refine PySem.OEX.store_in_old hns hw hz ?_ | with_reducible refine wpAny_loadPart_at hx ?_ | with_reducible refine hcl.at ?_ | wp_step)
  intro h' tk' hn' hs
  exact hq h' tk' (fun b o hb ho => (hs.2 b hb).trans ho) hn'
end
end PLX

/-! own exception classes: __init__, raise -/
namespace PL
open PySem PySem.Spec PyProof.Rows L2 PLX

/-- what the written part tells of an own exception class -/
def ownB (K : PySem.W.Frag) (C : Addr) (tl : List Value) (nId : String) : Bool := match K.lookup C with
  | some ⟨.type "type", _, .cls r, z⟩ => (match r.mro, z.toList with
    | .ref D :: l, [_, _, _, _, some (.builtin i), _] => D == C && (i == nId && (!r.hasDel && (r.hasDict && tailIs tl l)))
    | _, _ => false)
  | _ => false
theorem ownB_ex {K : PySem.W.Frag} {C : Addr} {tl : List Value} {nId : String} (q : ownB K C tl nId = true) :
    ∃ nm qn N bs bm sn sub ab col dd k0 k1 k2 k3 k5, K.lookup C = some (PySem.excClassObj nm qn C N bs bm true sn sub ab col dd k0 k1 k2 k3 k5 nId) ∧ tailIs tl bm = true := by
  unfold ownB at q
  split at q
  · rename_i dd r z ho
    split at q
    · rename_i D l k0 k1 k2 k3 i k5 hm hs
      simp only [Bool.and_eq_true, beq_iff_eq, Bool.not_eq_true'] at q
      obtain ⟨rfl, rfl, h3, h4, h5⟩ := q
      obtain ⟨nm, bs, mro, ns, qn, hd, sn, sub, ab, col, dl⟩ := r
      dsimp only at hm h3 h4
      subst hm h3 h4
      have hz : z = #[k0, k1, k2, k3, some (.builtin i), k5] := by
        obtain ⟨l⟩ := z
        simp only at hs
        rw [hs]
      subst hz
      exact ⟨nm, qn, ns, bs, l, sn, sub, ab, col, dd, k0, k1, k2, k3, k5, ho, h5⟩
    · cases q
  · cases q
/-- an own exception class; iId initialises what it is built on -/
structure OwnX (K : PySem.W.Frag) (C : Addr) (iId : String) : Prop where
  ex : ∃ nB nId iB tl, XBase nB nId iB iId tl ∧ ownB K C tl nId = true
  sa : PySem.W.findIn K (.ref C) "__setattr__" = some (some (.builtin "object.__setattr__"))
  be : PySem.W.subIn K (.ref C) (.type "BaseException") = some true
  ty : PySem.W.typeIn K (.ref C) = some (.type "type")
  kp : PySem.W.keepIn K (.ref C) = true

section
variable {X : Cx} {pins : List (Addr × Obj)} {σ : L2.St} {H : Hp} {s : Shared} {a C dx : Addr} {f : Str} {y : V} {u : Value} {fs : List (Str × V)} {Q : Unit → Shared → Prop} {E : Value → Shared → Prop} {A : Around} {iId : String}
theorem stX_new (T : OwnX X.K C iId) (I : Inv X pins σ H s) (ea : H a = some (exo a C none)) (hno : PySem.W.findIn X.K (.ref C) f = some none) (ry : RelV y u)
    (q : ∀ dn st, H dn = none → dn ≠ a → Inv X pins σ (upd (upd H dn (exd dn [(f, y)])) a (exo a C (some dn))) st → Q () st) : wpAny (model X.prog X.w) A (setAttr (.ref a) f u) Q E s := by
  obtain ⟨nB, nId, iB, tl, FB, ow⟩ := T.ex
  obtain ⟨nm, qn, N, bs, bm, sn, sub, ab, col, dd, k0, k1, k2, k3, k5, hC, hbm⟩ := ownB_ex ow
  have hcl : PySem.W.clsIn X.K C = some ⟨nm, bs, .ref C :: bm, N, qn, true, sn, sub, ab, col, false⟩ := by
    unfold PySem.W.clsIn
    rw [hC] <;> rfl
  obtain ⟨t1, ho⟩ := exo_at I.hok ea
  obtain ⟨h0, gs, dr, tk, os⟩ := s
  refine PySem.W.set_plain I.kIn (od := none) ⟨ho, rfl, rfl, trivial⟩ T.sa ?_
  refine x_store1 FB I.kIn ho hcl rfl hbm rfl hno fun h1 tk1 dn kp dnew dna hx hn => ?_
  have nH : H dn = none := I.hok.fresh dnew
  have ned : ∀ {c : Addr} {o : Obj}, h0.get? c = some o → c ≠ dn := fun {c o} z => Nat.ne_of_lt (Nat.lt_of_lt_of_le (Heap.lt_size z) dnew)
  have nea : ∀ {c : Addr}, H c = none → c ≠ a := fun {c} n z => by
    rw [z, ea] at n
    cases n
  have UU : Un X.fs [] H (upd (upd H dn (exd dn [(f, y)])) a (exo a C (some dn))) h0 h1 := by
    constructor
    · exact fun c o z n _ _ => kp c o (nea n) z
    · exact fun c o z n _ _ => ⟨o.slots, kp c o (nea n) z⟩
    · exact fun c o z n _ => by rw [upd_ne (nea n), upd_ne (ned z)]; exact n
    · intro c o z _
      by_cases e : c = a
      · exact ⟨_, by rw [e]; exact hx⟩
      · exact ⟨o, kp c o e z⟩
    · exact fun c xs z => by rw [upd_ne (at_ne ea z exo_tup), upd_ne (ne_of_none z nH)]; exact z
    · exact fun c o v z => by rw [upd_ne (at_ne ea z exo_frz), upd_ne (ne_of_none z nH)]; exact z
    · exact fun c ps z => ⟨#[], by rw [upd_ne (at_ne ea z exo_tbl), upd_ne (ne_of_none z nH), z]; simp⟩
  refine q dn _ nH dna (I.un (t' := tk1) UU fun c o z => ?_)
  by_cases ec : c = a
  · subst ec
    rw [upd_same] at z
    cases z
    exact exo_ok hx
  · rw [upd_ne ec] at z
    by_cases ed : c = dn
    · subst ed
      rw [upd_same] at z
      cases z
      exact exd_ok hn (relO_put (fs := []) ry fun g => True.intro)
    · rw [upd_ne ed] at z
      refine (I.hok c o z).stay (fun c2 v hc z2 => kp c2 v ?_ z2) (fun c2 hc => ?_) fun c2 xs hc => ?_
      · rcases hc with hc | hc
        · rw [hc]
          exact ec
        · exact at_ne ea hc exo_own
      · rw [upd_ne (at_ne ea hc exo_own), upd_ne (ne_of_none hc nH)]
        exact hc
      · rw [upd_ne (at_ne ea hc exo_tup), upd_ne (ne_of_none hc nH)]
        exact hc
theorem stX_old (T : OwnX X.K C iId) (I : Inv X pins σ H s) (ea : H a = some (exo a C (some dx))) (ed : H dx = some (exd dx fs)) (hl : fs.length ≤ 900) (hno : PySem.W.findIn X.K (.ref C) f = some none) (ry : RelV y u)
    (q : ∀ st, Inv X pins σ (upd H dx (exd dx ((f, y) :: fs))) st → Q () st) : wpAny (model X.prog X.w) A (setAttr (.ref a) f u) Q E s := by
  obtain ⟨nB, nId, iB, tl, FB, ow⟩ := T.ex
  obtain ⟨nm, qn, N, bs, bm, sn, sub, ab, col, dd, k0, k1, k2, k3, k5, hC, hbm⟩ := ownB_ex ow
  have hcl : PySem.W.clsIn X.K C = some ⟨nm, bs, .ref C :: bm, N, qn, true, sn, sub, ab, col, false⟩ := by
    unfold PySem.W.clsIn
    rw [hC] <;> rfl
  obtain ⟨t1, ho⟩ := exo_at I.hok ea
  obtain ⟨mA, hns, rel⟩ := exd_at I.hok ed
  have wi := within_of rel
  obtain ⟨h0, gs, dr, tk, os⟩ := s
  obtain ⟨oD, _, _, hoD, _, _⟩ := hns.count wi
  refine PySem.W.set_plain I.kIn (od := some oD) ⟨ho, rfl, rfl, hoD⟩ T.sa ?_
  refine x_store2 FB I.kIn ho hns wi (by rw [List.length_map]; omega) hcl rfl hbm rfl hno fun h1 tk1 kp hn => ?_
  have there : ∃ o, h1.get? dx = some o := by
    obtain ⟨o, _, _, z, _⟩ := hn
    exact ⟨o, z⟩
  exact q _ (I.write (t' := tk1) (x := dx) (e := dx) (o := exd dx ((f, y) :: fs)) (by rw [ed]; exact True.intro) (.inl rfl) kp there (exd_ok hn (relO_put ry rel)))
theorem initX {us : List Value} {Q : Value → Shared → Prop} (T : OwnX X.K C iId) (I : Inv X pins σ H s) (ea : H a = some (exo a C none)) (hl : us.length ≤ sizeLine) (q : ∀ st, Inv X pins σ H st → Q .none st) :
    wpAny (model X.prog X.w) A (call (.builtin iId) (.ref a :: us)) Q E s := by
  obtain ⟨nB, nId, iB, tl, FB, ow⟩ := T.ex
  obtain ⟨nm, qn, N, bs, bm, sn, sub, ab, col, dd, k0, k1, k2, k3, k5, hC, hbm⟩ := ownB_ex ow
  obtain ⟨t1, ho⟩ := exo_at I.hok ea
  obtain ⟨h0, gs, dr, tk, os⟩ := s
  refine wpAny_call (x_init FB hbm (I.kIn _ _ hC) ho hl fun h1 t2 kp hx => ?_)
  have J := I.write (t' := tk) (x := a) (e := a) (o := exo a C none) (by rw [ea]; exact True.intro) (.inl rfl) kp ⟨_, hx⟩ (exo_ok hx)
  have eu : upd H a (exo a C none) = H := by
    funext c
    by_cases z : c = a
    · rw [z, upd_same, ea]
    · rw [upd_ne z]
  rw [eu] at J
  exact q _ J
end

/-! readings -/
def tIniX (K : PySem.W.Frag) (iId : String) (ta : TA) : TE := fun σ H Q => ta σ H fun vs H1 => ∃ (a C : Addr) (ws : List V), vs = .ref a :: ws ∧ ws.length ≤ 1000 ∧ OwnX K C iId ∧ H1 a = some (exo a C none) ∧ Q .non H1
def tStX (K : PySem.W.Frag) (f : Str) (to te : TE) : TS := fun D σ H => te σ H fun y H1 => to σ H1 fun x H2 => ∃ (a C : Addr) (iId : String), x = .ref a ∧ OwnX K C iId ∧ PySem.W.findIn K (.ref C) f = some none ∧
  ((H2 a = some (exo a C none) ∧ ∀ dn, H2 dn = none → dn ≠ a → D.nx σ (upd (upd H2 dn (exd dn [(f, y)])) a (exo a C (some dn)))) ∨
    ∃ (dn : Addr) (fs : List (Str × V)), H2 a = some (exo a C (some dn)) ∧ H2 dn = some (exd dn fs) ∧ fs.length ≤ 900 ∧ D.nx σ (upd H2 dn (exd dn ((f, y) :: fs))))
section
variable {X : Cx} {o e : Expr} {es : List Expr} {to te : TE} {ta : TA} {f B : Str} {p p' p1 p2 pos : Pos} {iId : String}
theorem run_iniX (ha : PA X (e :: es) ta) {pins : List (Addr × Obj)} {s : Shared} {σ : L2.St} {H : Hp} {Q : VK} (I : Inv X pins σ H s) (h : tIniX X.K iId ta σ H Q)
    (he : starEach (e :: es) X.env = (false, eval e X.env) :: starEach es X.env) (hpl : (backTo pos (starEach es X.env)).any (·.1) = false) :
    wpAny (model X.prog X.w) X.A (callWith pos (Value.builtin iId) [] (backTo pos (starEach (e :: es) X.env)) []) (EP X pins σ Q) X.xe s := by
  refine PyProof.Rows.callWith_method1 (thn (ha.run pos pins _ σ H _ I h) fun us s1 ⟨vs, H1, I1, r1, a, C, ws, ev, hl, T, ea, q⟩ => ?_) he hpl
  subst ev
  cases r1 with
  | @cons _ u0 _ ur ra rw' =>
    obtain rfl : u0 = Value.ref a := ra
    refine initX T I1 ea ?_ fun st J => ⟨.non, H1, J, rfl, q⟩
    rw [← Paired.length rw', sizeLine_eq]
    omega
/-- B.__init__(self, ..), B a built-in class -/
theorem pe_iniB {T : String} {pl : Sem Bool} (hg : Gl X B) (hm : X.mg B = none) (hv : bootBuiltins B = some (.type T)) (hT : typeOf (.type T) = pure (.type "type")) (hS : Manifest.isStub T = false)
    (hF : PySem.W.findCls X.K (.type T) (.type "type") "__init__" = some (.val (.builtin iId))) (hh : PySem.W.handedIn (.builtin iId) = true) (hn : B ≠ "__name__") (hdb : (B == ("__debug__" : Str)) = false) (ha : PA X (e :: es) ta)
    (hc : eval (.Call (.Attribute (.Name B p1) "__init__" p2) (e :: es) [] pos) X.env = (do
      let t ← eval (.Name B p1) X.env
      standAt p2.atName
      let (g, first) ← holding [t] (getMethod t "__init__" pl)
      callWith pos g first (backTo pos (starEach (e :: es) X.env)) (backToKw pos (keywordEach [] X.env))) := by rfl)
    (he : starEach (e :: es) X.env = (false, eval e X.env) :: starEach es X.env := by rfl) (hpl : (backTo pos (starEach es X.env)).any (·.1) = false := by rfl) :
    PE X (.Call (.Attribute (.Name B p1) "__init__" p2) (e :: es) [] pos) (tIniX X.K iId ta) := by
  refine ⟨fun pins s σ H Q I h => ?_⟩
  refine PySem.W.methodCall_KW (ld_blt I hg hm hv ?_ hn hdb) hc
  obtain ⟨m, fr⟩ := I.fr
  refine PySem.W.method_type fr I.ok.mod.kin hT hS hF hh ?_
  exact run_iniX ha (I.tok _) h he hpl
theorem ps_stX (ho : PE X o to) (he : PE X e te) (hs : swapsWith e (some (.Attribute o f p')) pos.line X.env = pure false := by rfl) : L2.PS X (.Assign [.Attribute o f p'] e pos) (tStX X.K f to te) := by
  refine ⟨fun pins s σ H D I h => ?_⟩
  refine plainObj_wpAny_Assign_Attribute (thn (he.run pins s σ H _ I h) fun v s1 ⟨y, H1, I1, r1, q1⟩ => thn (ho.run pins s1 σ H1 _ I1 q1) fun u s2 ⟨x, H2, I2, r2, a, C, iId, ex, T, hno, q⟩ => ?_) hs
  subst ex
  obtain rfl : u = Value.ref a := r2
  rcases q with ⟨ea, q⟩ | ⟨dx, fs, ea, ed, hl, q⟩
  · exact stX_new T I2 ea hno r1 fun dn st n ne J => ⟨σ, _, J, q dn n ne⟩
  · exact stX_old T I2 ea ed hl hno r1 fun st J => ⟨σ, _, J, q⟩
end
/-- what the __init__ of an own class promises: fl gives the fields -/
def spIni (C : Addr) (n : Nat) (fl : List V → List (Str × V)) : Sp := fun vs H Q _ => ∃ (a : Addr) (xs : List V), vs = .ref a :: xs ∧ xs.length = n ∧ H a = some (exo a C none) ∧
  ∀ d H', H d = none → d ≠ a → H' a = some (exo a C (some d)) → H' d = some (exd d (fl xs)) → (∀ c, c ≠ a → c ≠ d → H' c = H c) → Q .non H'
section
variable {P : Program} {w : World} {K : PySem.W.Frag} {mg : Str → Option Value} {base : Heap} {x qual : Str} {params : Arguments} {body : List Stmt} {scope : Scope} {f C : Addr} {fd : FuncData} {iId : String} {f1 f2 m p0 p1 p2 : Str} {k : Nat}
theorem okIni1 (F : FunD K x qual params body scope [] [] f fd) (Sc : FnScope [p0, p1] [p0, p1] scope) (T : OwnX K C iId) (n1 : PySem.W.findIn K (.ref C) f1 = some none)
    (hb : ∀ (cdv : Value) (A : Around) (outer : List Env) (s : Shared) (H : Hp) (E : XK), Rm k (A.deeper (envOfC qual scope s.heap.objs.size f cdv)) →
      PSs (cxOf CX0 P w K mg base [p0, p1] qual scope f cdv A outer s H E).nox body (tSeq (tDrop (tIniX K iId (tCons (tVar 0) (tCons (tC (.str m)) tNil)))) (tStX K f1 (tVar 0) (tVar 1)))) :
    FnG P w K mg base CX0 (k + 1) f fd [p0, p1] (spIni C 1 fun xs => [(f1, xs.headD .non)]) := by
  obtain ⟨oc, od, dV, kV, doc, pm, an, cdv, ct, osl, rfl, lk, hcd, _, _⟩ := F.ex
  refine fng_of lk hcd Sc (fun vs H Q E h => ?_) fun A outer s H vs Q E hr hsp => ?_
  · obtain ⟨a, xs, rfl, h, _⟩ := h
    rw [List.length_cons, h]
    rfl
  · refine ⟨_, (hb cdv A outer s H E hr).nox, ?_⟩
    obtain ⟨a, xs, rfl, hl, ea, q⟩ := hsp
    match xs, hl with
    | [y], _ =>
      refine ⟨_, rfl, ?_⟩
      refine ⟨a, C, [.str m], rfl, by simp, T, ea, ?_⟩
      refine ⟨y, rfl, .ref a, rfl, a, C, iId, rfl, T, n1, .inl ⟨ea, fun dn n ne => ?_⟩⟩
      refine q dn _ n ne upd_same ?_ fun c ca cd => ?_
      · rw [upd_ne ne]
        exact upd_same
      · rw [upd_ne ca, upd_ne cd]
end
/-! raise C(e, ..) -/
def tMkX (C : Addr) (n : Nat) (fl : List V → List (Str × V)) (ta : TA) : L2.St → Hp → XK → Prop := fun σ H Q => ta σ H fun vs H1 => vs.length = n ∧ n ≤ 100 ∧ ∀ d H', H1 d = none → H' d = some (.xd (fl vs)) → (∀ c, c ≠ d → H' c = H1 c) → Q (.ref C) (some d) H'
theorem pmkX {X : Cx} {x : Str} {C fI : Addr} {k n : Nat} {fd : FuncData} {ps : List Str} {fl : List V → List (Str × V)} {iId : String} {e : Expr} {es : List Expr} {ta : TA} {p pos : Pos} (T : OwnX X.K C iId) (iC : PySem.W.findIn X.K (.ref C) "__init__" = some (some (.ref fI))) (tI : PySem.W.typeIn X.K (.ref fI) = some (.type "function"))
    (F1 : FnG X.prog X.w X.K X.mg X.base CX0 k fI fd ps (spIni C n fl)) (hr : Rm (k + 1) X.A) (hb : CB X.K fd ps (n + 1) [] (fun _ a _ => a) []) (hg : Gl X x) (hm : X.mg x = some (.ref C)) (ha : PA X (e :: es) ta)
    (hdb : (x == ("__debug__" : Str)) = false := by decide) (he : starEach (e :: es) X.env = (false, eval e X.env) :: starEach es X.env := by rfl) (hpl : (backTo pos (starEach es X.env)).any (·.1) = false := by rfl) :
    PMk X (.Call (.Name x p) (e :: es) [] pos) (tMkX C n fl ta) := by
  intro pins s σ H Q I h
  obtain ⟨nB, nId, iB, tl, FB, ow⟩ := T.ex
  obtain ⟨nm, qn, N, bs, bm, sn, sub, ab, col, dd, k0, k1, k2, k3, k5, hC, hbm⟩ := ownB_ex ow
  refine wpAny_Call_Name_kw (ld_glob I hg hm ?_ hdb)
  refine PySem.W.callWith_K (h₀ := X.base) I.ok.mod.kin T.kp (thn (ha.run pos pins s σ H _ I h) fun us s1 ⟨vs, H1, I1, r1, hz, hn, q1⟩ => ⟨I1.kIn, ?_⟩) he hpl
  show wpAny _ _ (call (.ref C) us) _ _ _
  obtain ⟨h0, gs, dr, tk, os⟩ := s1
  have hsz : h0.objs.size ≤ h0.objs.size + 1 := Nat.le_succ _
  have nH : H1 (h0.objs.size + 1) = none := I1.hok.fresh hsz
  have kk : ∀ c o, h0.get? c = some o → ((h0.push (PySem.W.kdv_tup us)).push (PySem.HandSPX.excO C h0.objs.size)).get? c = some o := fun c o z => Heap.get?_push_of_some _ (Heap.get?_push_of_some _ z)
  have hget : ((h0.push (PySem.W.kdv_tup us)).push (PySem.HandSPX.excO C h0.objs.size)).get? (h0.objs.size + 1) = some (PySem.HandSPX.excO C h0.objs.size) := by heap_get
  have I2 := I1.laid (t' := tk) (a := h0.objs.size + 1) (o := exo (h0.objs.size + 1) C none) (h' := (h0.push (PySem.W.kdv_tup us)).push (PySem.HandSPX.excO C h0.objs.size)) kk hsz (exo_ok hget)
  have r2 : Vals (V.ref (h0.objs.size + 1) :: vs) (Value.ref (h0.objs.size + 1) :: us) := .cons rfl r1
  have hl : (Value.ref (h0.objs.size + 1) :: us).length = n + 1 := by rw [← r2.length, List.length_cons, hz]
  have hus : us.length ≤ sizeLine := by
    rw [← Paired.length r1, sizeLine_eq]
    omega
  obtain ⟨dU, rd, to⟩ := hb.to
  have hq : spIni C n fl (V.ref (h0.objs.size + 1) :: vs) (upd H1 (h0.objs.size + 1) (exo (h0.objs.size + 1) C none))
      (fun v H2 => v = .non ∧ ∃ (d : Addr) (fs : List (Str × V)), H2 (h0.objs.size + 1) = some (exo (h0.objs.size + 1) C (some d)) ∧ H2 d = some (exd d fs) ∧ H1 d = none ∧ Q (.ref C) (some d) (upd (L2.del H2 (h0.objs.size + 1)) d (.xd fs))) (fun _ _ _ => False) := by
    refine ⟨_, vs, rfl, hz, upd_same, fun d H' hd ne e1 e2 e3 => ⟨rfl, d, fl vs, e1, e2, ?_, ?_⟩⟩
    · rw [upd_ne ne] at hd
      exact hd
    · rw [upd_ne ne] at hd
      refine q1 d _ hd upd_same fun c hc => ?_
      rw [upd_ne hc]
      by_cases ec : c = h0.objs.size + 1
      · rw [ec, del_same, nH]
      · rw [del_ne ec, e3 c ec hc, upd_ne ec]
  refine wpAny_call (x_call FB hbm (I1.kIn _ _ hC) (PySem.W.looks_findIn I1.kIn iC) (fun self => PySem.W.bind_fn I1.kIn self tI) hus
    (codeAny_mono ((F1 _ (hr.make C us [])).run X.stack _ _ ⟨Value.ref (h0.objs.size + 1) :: us, []⟩ (Value.ref (h0.objs.size + 1) :: us) _ _ (fun _ _ _ => False) (I2.env0.make C us []) (to _ (Value.ref (h0.objs.size + 1) :: us) [] I2.kIn hl rfl) r2 hq) fun r s' hq' => ?_))
  cases r with
  | error er => exact False.elim hq'
  | ok fl2 =>
    cases fl2 with
    | ret u =>
      obtain ⟨v, H2, os2, bare2, un2, hok2, rv, ev, d, fs, ea, ed, hd1, q2⟩ := hq'
      subst ev
      obtain ⟨h2, g2, d2, t2, os'⟩ := s'
      exact ⟨rv, mk_end (raises_own T.be T.ty) I1 hsz kk un2 hok2 os2 bare2 ea ed hd1 q2⟩
    | next => exact False.elim hq'
    | brk => exact False.elim hq'
    | cont => exact False.elim hq'
end PL

/-! errors in pure programs -/
namespace PL
open PySem PySem.Spec PyProof.Rows L2 PLX

/-- an error, told as data -/
def errD (nm : Str) (es : List (PyData × PyData)) : PyData := .dict [(.bool false, .bool false), (.str nm, .dict es)]
def isErr : PyData → Bool
  | .dict ((.bool false, .bool false) :: _) => true
  | _ => false
@[simp] theorem isErr_errD (nm : Str) (es : List (PyData × PyData)) : isErr (errD nm es) = true := rfl
theorem rp_noErr {K : PySem.W.Frag} {B : Hp} {v : V} {d : PyData} (h : Rp K B v d) : isErr d = false := by
  cases h with
  | non => rfl
  | bl b => rfl
  | int i => rfl
  | str x => rfl
  | lst _ _ => rfl
  | tup _ _ => rfl
  | dic _ r =>
    cases r with
    | nil => rfl
    | @cons k _ _ _ _ _ _ => cases k <;> rfl
  | dct _ _ => rfl
  | obj _ _ _ => rfl
  | fn _ => rfl
/-- an error of an own class: its dict stands -/
def XcOk (K : PySem.W.Frag) (B : Hp) (cls : Value) (dd : Option Addr) (d : PyData) : Prop :=
  ∃ (D a : Addr) (nm : Str) (vs : List (Str × V)) (es : List (PyData × PyData)), cls = .ref D ∧ dd = some a ∧ ClsNm K nm D ∧ d = errD nm es ∧ B a = some (.xd vs) ∧ RpFs K B vs es
theorem XcOk.err {K : PySem.W.Frag} {B : Hp} {cls : Value} {dd : Option Addr} {d : PyData} (h : XcOk K B cls dd d) : isErr d = true := by
  obtain ⟨D, a, nm, vs, es, _, _, _, rfl, _⟩ := h
  rfl
section
variable {S α β : Type} [Res S]
/-- an expression that may raise -/
def PxX (K : PySem.W.Frag) (Wx : WX) (te : TE) (k : EK) (ρ : List PS) (w : W S PyData) : Prop :=
  ∀ (C : Cf S) B H s A σ, Hs C B H s → Sls K C B H A ρ σ → ∀ P, w s P → ∀ Q : VK,
    (∀ B' v H' d s', Same B B' → Hs C B' H' s' → Sls K C B' H' A ρ σ → ER K C B' H' A ρ σ k v d → P d s' → Q v H') →
    (∀ B' H' s' cls dd d, Same B B' → Hs C B' H' s' → Sls K C B' H' A ρ σ → XcOk K B' cls dd d → P d s' → Wx cls dd σ H') → te σ H Q
/-- parts of a display -/
def PmX (K : PySem.W.Frag) (Wx : WX) (t : TA) (ks : List EK) (ρ : List PS) (w : W S PyData) : Prop :=
  ∀ (C : Cf S) B H s A σ, Hs C B H s → Sls K C B H A ρ σ → ∀ P, w s P → ∀ Q : List V → Hp → Prop,
    (∀ B' vs H' ds s', Same B B' → Hs C B' H' s' → Sls K C B' H' A ρ σ → ERs K C B' H' A ρ σ ks vs ds → P (.tuple ds) s' → Q vs H') →
    (∀ B' H' s' cls dd d, Same B B' → Hs C B' H' s' → Sls K C B' H' A ρ σ → XcOk K B' cls dd d → P d s' → Wx cls dd σ H') → t σ H Q
/-- a block that may raise -/
def PstX (K : PySem.W.Frag) (E : XK) (ts : TS) (r : RK) (ρ : List PS) (env : α → List PS) (m : W S (Fl α)) : Prop :=
  ∀ (C : Cf S) B H s A σ, Hs C B H s → Sls K C B H A ρ σ → ∀ P, m s P → ∀ D : Ends,
    (∀ B' H' s' A' σ' a, Same B B' → Hs C B' H' s' → Sls K C B' H' A' (env a) σ' → P (.nx a) s' → D.nx σ' H') →
    (∀ B' v H' d s', Same B B' → Hs C B' H' s' → RtOk K C B' H' r v d → P (.rt d) s' → D.rt v H') →
    (∀ B' H' s' cls dd d, Same B B' → Hs C B' H' s' → XcOk K B' cls dd d → P (.rt d) s' → E cls dd H') → ts D σ H
/-- a value, or an error that goes on -/
def wxt (w : W S PyData) (kk : PyData → W S (Fl α)) : W S (Fl α) := wbind w fun d => wcond (isErr d) (wpure (.rt d)) (kk d)
def wxd (w : W S PyData) (kk : PyData → W S PyData) : W S PyData := wbind w fun d => wcond (isErr d) (wpure d) (kk d)
/-- the wish of a def about errors -/
def WX0 (E : XK) : WX := fun cls dd _ H => E cls dd H
end
section
variable {S α β γ : Type} [Res S] {K : PySem.W.Frag} {C : Cf S} {B B' H H' : Hp} {s : S} {A : List Addr} {ρ ρ' : List PS} {σ : L2.St} {v : V} {d : PyData} {p : Addr} {E : XK} {Wx : WX}
  {te : TE} {tt : TT} {t u ts : TS} {ta : TA} {w wa wb wc : W S PyData} {wt : W S Bool} {k : EK} {ks : List EK} {i : Nat} {r : RK} {env : α → List PS} {env2 : β → List PS}
theorem wcX_t (a b : W S α) : wcond true a b = a := rfl
theorem wcX_f (a b : W S α) : wcond false a b = b := rfl
/-- the last part may raise -/
theorem pmxx_last (h : PxX K Wx te .dat ρ w) : PmX K Wx (tCons te tNil) [.dat] ρ (wxd w fun d => wpure (.tuple [d])) := fun C B H s A σ hw hl P hp Q q x =>
  h C B H s A σ hw hl _ hp _ (fun B1 v1 H1 d1 s1 e1 w1 l1 r1 p1 => by
    have n := rp_noErr (show Rp K B1 v1 d1 from r1)
    simp only [n, wcX_f] at p1
    exact q B1 [v1] H1 [d1] s1 e1 w1 l1 ⟨r1, True.intro⟩ p1) fun B1 H1 s1 cls dd d1 e1 w1 l1 xc p1 => by
    simp only [xc.err, wcX_t] at p1
    exact x B1 H1 s1 cls dd d1 e1 w1 l1 xc p1
/-- parts ahead of it -/
def wtl (d : PyData) : PyData → W S PyData
  | .tuple ds => wpure (.tuple (d :: ds))
  | _ => wfail
theorem pmxx_cons {t : TA} (h : Px K te .dat ρ w) (h2 : PmX K Wx t ks ρ wb) : PmX K Wx (tCons te t) (.dat :: ks) ρ (wbind w fun d => wxd wb (wtl d)) := fun C B H s A σ hw hl P hp Q q x =>
  h C B H s A σ hw hl _ hp _ fun B1 v1 H1 d1 s1 e1 w1 l1 r1 p1 => h2 C B1 H1 s1 A σ w1 l1 _ p1 _ (fun B2 vs H2 ds s2 e2 w2 l2 r2 p2 =>
    q B2 (v1 :: vs) H2 (d1 :: ds) s2 (e1.trans e2) w2 l2 ⟨ER.later (nofun) e2 r1, r2⟩ p2) fun B2 H2 s2 cls dd d2 e2 w2 l2 xc p2 => by
    simp only [xc.err, wcX_t] at p2
    exact x B2 H2 s2 cls dd d2 (e1.trans e2) w2 l2 xc p2
/-- (a, .., e) -/
theorem pxx_tup (ha : PmX K Wx ta ks ρ w) (hks : ∀ k ∈ ks, k = .dat := by simp) (hn : ks.length ≤ 1000 := by decide) : PxX K Wx (tTupZ ta) .dat ρ w := fun C B H s A σ hw hl P hp Q q x =>
  ha C B H s A σ hw hl _ hp _ (fun B1 v1 H1 d1 s1 e1 w1 l1 r1 p1 => by
    refine ⟨by rw [r1.len.1]; exact Nat.le_trans hn (by decide), fun p o hp ho => ?_⟩
    have g := Grow.new (o := .frz o (.tup v1)) w1.ex hp
    exact q _ _ _ _ s1 (e1.trans g.b) (w1.grow g) (l1.grow w1 g) (.tup (.inl ⟨o, upd_same, ho⟩) ((r1.rp hks).mono g.b)) p1) x

/-! statements -/
theorem pstx_of {m : W S (Fl α)} (h : Pst K ts r ρ env m) : PstX K E ts r ρ env m := fun C B H s A σ hw hl P hp D nx rt _ => h C B H s A σ hw hl P hp D nx rt
theorem pstx_sq {m : W S (Fl α)} {kk : α → W S (Fl β)} (h1 : PstX K E t r ρ env m) (h2 : ∀ a, PstX K E u r (env a) env2 (kk a)) : PstX K E (tSeq t u) r ρ env2 (fbind m kk) := fun C B H s A σ hw hl P hp D nx rt ex =>
  h1 C B H s A σ hw hl _ hp { D with nx := u D } (fun B1 H1 s1 A1 σ1 a e1 w1 l1 p1 =>
    h2 a C B1 H1 s1 A1 σ1 w1 l1 P p1 D (fun B2 H2 s2 A2 σ2 a2 e2 w2 l2 p2 => nx B2 H2 s2 A2 σ2 a2 (e1.trans e2) w2 l2 p2) (fun B2 v H2 d s2 e2 w2 r2 p2 => rt B2 v H2 d s2 (e1.trans e2) w2 r2 p2)
      fun B2 H2 s2 cls dd d e2 w2 xc p2 => ex B2 H2 s2 cls dd d (e1.trans e2) w2 xc p2) rt ex
theorem pstx_if {m1 m2 : W S (Fl α)} (hc : Pt K tt ρ wt) (h1 : PstX K E t r ρ env m1) (h2 : PstX K E u r ρ env m2) : PstX K E (tIfS tt t u) r ρ env (wite wt m1 m2) := fun C B H s A σ hw hl P hp D nx rt ex =>
  hc C B H s A σ hw hl _ hp _ fun B1 b H1 s1 e1 w1 l1 p1 => by
    cases b with
    | true =>
      show t D σ H1
      exact h1 C B1 H1 s1 A σ w1 l1 P p1 D (fun B2 H2 s2 A2 σ2 a2 e2 w2 l2 p2 => nx B2 H2 s2 A2 σ2 a2 (e1.trans e2) w2 l2 p2) (fun B2 v H2 d s2 e2 w2 r2 p2 => rt B2 v H2 d s2 (e1.trans e2) w2 r2 p2) fun B2 H2 s2 cls dd d e2 w2 xc p2 => ex B2 H2 s2 cls dd d (e1.trans e2) w2 xc p2
    | false =>
      show u D σ H1
      exact h2 C B1 H1 s1 A σ w1 l1 P p1 D (fun B2 H2 s2 A2 σ2 a2 e2 w2 l2 p2 => nx B2 H2 s2 A2 σ2 a2 (e1.trans e2) w2 l2 p2) (fun B2 v H2 d s2 e2 w2 r2 p2 => rt B2 v H2 d s2 (e1.trans e2) w2 r2 p2) fun B2 H2 s2 cls dd d e2 w2 xc p2 => ex B2 H2 s2 cls dd d (e1.trans e2) w2 xc p2
/-- a call as a statement -/
theorem pstx_drop {a : α} (he : PxX K (WX0 E) te .dat ρ w) (h : ρ = env a := by rfl) : PstX K E (tDrop te) r ρ env (wxt w fun _ => wnx a) := fun C B H s A σ hw hl P hp D nx rt ex =>
  he C B H s A σ hw hl _ hp _ (fun B1 v1 H1 d1 s1 e1 w1 l1 r1 p1 => by
    have n := rp_noErr (show Rp K B1 v1 d1 from r1)
    simp only [n, wcX_f] at p1
    rw [h] at l1
    exact nx B1 H1 s1 A σ a e1 w1 l1 p1) fun B1 H1 s1 cls dd d e1 w1 l1 xc p1 => by
    simp only [xc.err, wcX_t] at p1
    exact ex B1 H1 s1 cls dd d e1 w1 xc p1
theorem pstx_ret (he : PxX K (WX0 E) te .dat ρ w) : PstX K E (tRet te) .dat ρ env (wret w) := fun C B H s A σ hw hl P hp D nx rt ex =>
  he C B H s A σ hw hl _ hp _ (fun B1 v1 H1 d1 s1 e1 w1 l1 r1 p1 => rt B1 v1 H1 d1 s1 e1 w1 r1 p1) fun B1 H1 s1 cls dd d e1 w1 l1 xc p1 => ex B1 H1 s1 cls dd d e1 w1 xc p1
/-- raise C(e, ..) -/
theorem pstx_raise {D : Addr} {nm : Str} {n : Nat} {fl : List V → List (Str × V)} {fe : List PyData → List (PyData × PyData)} {ws : List (W S PyData)} (cn : ClsNm K nm D) (ha : Pm K ta ks ρ (wl ws)) (hf : ∀ B vs ds, RpAll K B vs ds → RpFs K B (fl vs) (fe ds))
    (hks : ∀ k ∈ ks, k = .dat := by simp) (hn : ks.length = n := by rfl) (h100 : n ≤ 100 := by decide) :
    PstX K E (fun _ σ H => tMkX D n fl ta σ H fun cls d H' => WX0 E cls d σ H') r ρ env (wbind (wl ws) fun ds => wpure (.rt (errD nm (fe ds)))) := fun C B H s A σ hw hl P hp D' nx rt ex =>
  ha C B H s A σ hw hl _ hp _ fun B1 vs H1 ds s1 e1 w1 l1 r1 p1 => by
    refine ⟨r1.len.1.trans hn, h100, fun a H' na ea eo => ?_⟩
    have hH : H' = upd H1 a (.xd (fl vs)) := by
      funext c
      by_cases z : c = a
      · rw [z, ea, upd_same]
      · rw [eo c z, upd_ne z]
    rw [hH]
    have g := Grow.newU (o := .xd (fl vs)) w1.ex na
    have w2 := w1.grow g
    have nb : B1 a = none := w1.freeB na
    have w3 := w2.frz upd_same nb (w1.al a na)
    have e3 := same_new (o := HO.xd (fl vs)) nb
    exact ex _ _ s1 _ _ _ (e1.trans e3) w3 ⟨D, a, nm, fl vs, fe ds, rfl, rfl, cn, rfl, upd_same, hf _ vs ds ((r1.rp hks).mono e3)⟩ p1
end

/-! ### defs that may raise -/
section
variable {S α : Type} [Res S]
def spX (K : PySem.W.Frag) (ks : List EK) (F : List PyData → W S PyData) : Sp := fun vs H Q E =>
  ∃ (C : Cf S) (ds : List PyData) (s : S) (P : PyData → S → Prop), C.H0 = H ∧ C.ok s C.B0 H ∧ ArgsOk K C ks vs ds ∧ F ds s P ∧ (∀ B' v H' d s', Hs C B' H' s' → Rp K B' v d → P d s' → Q v H') ∧ ∀ B' H' s' cls dd d, Hs C B' H' s' → XcOk K B' cls dd d → P d s' → E cls dd H'
/-- what leaves the frame is what the def lets out -/
theorem takesX {P : Program} {w : World} {K : PySem.W.Frag} {mg : Str → Option Value} {base : Heap} {N : List Str} {qual : Str} {scope : Scope} {f : Addr} {cd : Value} {A : Around} {outer : List Env} {s : Shared} {H : Hp} {E : XK} : Takes (cxOf (L2.CX P w) P w K mg base N qual scope f cd A outer s H E) (WX0 E) :=
  takes_of (E := E) rfl rfl rfl rfl
end
/-! ### calls of them -/
def tCallX (sp : Sp) (n : Nat) (Wx : WX) (t : TA) : TE := fun σ H Q => t σ H fun vs H1 => vs.length = n ∧ sp vs H1 Q fun cls d H' => Wx cls d σ H'
section
variable {X : Cx} {f : Addr} {fd : FuncData} {ps ks : List Str} {sp : Sp} {Wx : WX} {x : Str} {p pos : Pos} {e : Expr} {es : List Expr} {kws : List Keyword} {t tk : TA} {n : Nat}
theorem pe_gX (F : FnA X.prog X.w X.K X.mg X.base (L2.CX X.prog X.w) X.A f fd ps sp) (hg : Gl X x) (hm : X.mg x = some (.ref f)) (hk : PySem.W.keepIn X.K (.ref f) = true) (hb : CB X.K fd ps n [] (fun _ a _ => a) []) (tk : Takes X Wx) (ha : PA X (e :: es) t)
    (hdb : (x == ("__debug__" : Str)) = false := by decide) (he : starEach (e :: es) X.env = (false, eval e X.env) :: starEach es X.env := by rfl) (hpl : (backTo pos (starEach es X.env)).any (·.1) = false := by rfl) :
    PE X (.Call (.Name x p) (e :: es) [] pos) (tCallX sp n Wx t) := by
  refine ⟨fun pins s σ H Q I h => ?_⟩
  refine wpAny_Call_Name_kw (ld_glob I hg hm ?_ hdb)
  refine PySem.W.callWith_K (h₀ := X.base) I.ok.mod.kin hk (thn (ha.run pos pins s σ H _ I h) ?_) he hpl
  rintro us s1 ⟨vs, H1, I1, r, l1, q⟩
  refine ⟨I1.kIn, ?_⟩
  obtain ⟨dU, rd, to⟩ := hb.to
  refine wpAny_call (codeAny_mono (F.run X.stack s1 H1 ⟨us, []⟩ us vs Q _ I1.env0 (to s1 us [] I1.kIn (r.length.symm.trans l1) rfl) r q) fun r s' hq => ?_)
  cases r with
  | error er => exact tk er s' (XE.of_call I1 (fun _ _ _ z => z) hq)
  | ok fl =>
    cases fl with
    | ret u => exact I1.after hq
    | next => exact hq.elim
    | brk => exact hq.elim
    | cont => exact hq.elim
end
section
variable {S : Type} [Res S] {K : PySem.W.Frag} {Wx : WX} {ρ : List PS} {ks : List EK} {t : TA} {n : Nat} {ws : List (W S PyData)}
theorem pxx_call {F : List PyData → W Unit PyData} (ha : Pm K t ks ρ (wl ws)) (hks : ∀ k ∈ ks, k = .dat ∨ k = .vw := by simp) (hn : ks.length = n := by rfl) :
    PxX K Wx (tCallX (spX K ks F) n Wx t) .dat ρ (wbind (wl ws) fun as => wlift (F as)) := fun C B H s A σ hw hl P hp Q q x =>
  ha C B H s A σ hw hl _ hp _ fun B1 vs H1 ds s1 e1 w1 l1 r1 p1 => by
    refine ⟨r1.len.1.trans hn, ?_⟩
    let C2 : Cf Unit := ⟨B1, H1, [], 0, fun a h => (by cases h), w1.ex⟩
    have gh : Same H1 (Gh C2 B1) := gh_all (C := C) rfl (fun a h => by cases h) w1 rfl
    have gr : ∀ {B' H' : Hp} {u : Unit}, Hs C2 B' H' u → Grow B1 H1 B' H' := fun {B' H' u} w' =>
      ⟨fun a o e => w'.fr a o e (by intro z; cases z), w'.eb, w'.ex, fun a o e => (w'.nb a o e).imp_right fun x => x.imp_right fun ⟨xs, x1, x2, _⟩ => ⟨xs, x1, x2⟩⟩
    refine ⟨C2, ds, (), fun d _ => P d s1, rfl, fun a h => (by cases h), args_of rfl gh w1 l1 (fun k m => ?_) (fun m => ?_) r1, p1, fun B' v H' d s' w' r' p' => ?_, fun B' H' s' cls dd d w' xc p' => ?_⟩
    · rcases hks k m with e | e <;> (subst e; exact ⟨nofun, nofun, nofun⟩)
    · rcases hks _ m with e | e <;> cases e
    · have g := gr w'
      exact q B' v H' d s1 (e1.trans g.b) (w1.grow g) (l1.grow w1 g) r' p'
    · have g := gr w'
      exact x B' H' s1 cls dd d (e1.trans g.b) (w1.grow g) (l1.grow w1 g) xc p'
end
end PL

/-! isinstance(e, T), e a caught error that has a dict -/
namespace PLX
open PySem PySem.W PySem.Spec PySem.Calls PyProof.Rows
section
variable {prog : Program} {w : World} {A : Around} {E : Value → Shared → Prop} {s : Shared} {K : Frag} {x D : Addr} {ox : Obj} {od : Option Obj}
theorem findAny {C : Addr} {nm : Str} {c g : Value} (h1 : (clsIn K C).isSome = true) (h2 : findIn K (.ref C) nm = some (some c)) (h3 : specialIn K c "__get__" = some (some g)) (h4 : takesIn K c = some true) : findObj K C od nm = some (.bind g c) := by
  obtain ⟨cd, h1⟩ := Option.isSome_iff_exists.mp h1
  unfold findObj
  rw [h1, Option.bind_some, h2, Option.bind_some]
  simp only [h3, h4, Option.bind_some]
theorem clsX {Q : Option Value → Shared → Prop} (T : L2.ExcC K D) (X : K.In s.heap) (I : InstAt s.heap x ox D od) (q : Q (some (.ref D)) { s with toks := s.toks + 1 }) : wpAny (model prog w) A (getAttr? (.ref x) "__class__") Q E s := by
  have hF : findObj K D od "__class__" = some (.bind (.builtin "getset_descriptor.__get__") (.builtin "object.__class__")) := findAny (by obtain ⟨cd, z, _⟩ := any_some T.hd; rw [z]; rfl) T.ha T.hn T.ht
  obtain ⟨h0, gs, dr, tk, os⟩ := s
  have ty := I.type (M := model prog w)
  have g1 := looks_findIn (M := model prog w) X T.hg
  have g2 := looks_findIn (M := model prog w) X T.hk
  have g3 := looks_find (M := model prog w) X I hF
  have isB : Looks (model prog w) h0 (isInstance (.ref x) (.type "BaseException")) true := ty.andThen (looks_subIn X T.hs)
  have z0 : (false && onTheHeap (Value.builtin "BaseException.__getattribute__")) = false := rfl
  have z2 : (Value.builtin "BaseException.__getattribute__" == Value.builtin "object.__getattribute__") = false := by decide +kernel
  have z1 : (onTheHeap (Value.ref D) && Value.builtin "BaseException.__getattribute__" == Value.builtin "object.__getattribute__") = false := by rw [z2]; rfl
  unfold getAttr? getAttrBy?; unfold getAttrBy
  refine wpAny_bind (wpAny_mkText (wpAny_bind (wpAny_attempt (wpAny_holding (wpAny_bind (ty.at (wpAny_bind (g1.at ?_))))))))
  show wpAny _ _ (if (onTheHeap (Value.ref D) && Value.builtin "BaseException.__getattribute__" == Value.builtin "object.__getattribute__") = true then _ else _) _ _ _; rw [z1, if_neg Bool.false_ne_true]
  unfold getAttrByItsOwn; unfold hookBefore; refine wpAny_bind ?_
  rw [if_pos (show onTheHeap (Value.ref D) = true from rfl)]; refine g2.at ?_
  refine wpAny_bind (wpAny_attempt (wpAny_holding ?_)); unfold callGetattribute
  rw [z0, if_neg Bool.false_ne_true]; unfold boundAndCalled
  rw [PySem.F.excAttr_ValueError.ga.bind (.ref x)]; refine wpAny_bind (wpAny_pure ?_)
  show wpAny _ _ (call (.builtin "BaseException.__getattribute__") [.ref x, .str "__class__" tk]) _ _ _
  refine wpAny_call (codeAny_call_builtin PySem.F.excAttr_ValueError.ga.plain PySem.F.entry_bexc_ga ?_); refine @check_slot (model prog w) _ _ ⟨h0, gs, dr, tk + 1, os⟩ "BaseException.__getattribute__" "BaseException" "__getattribute__" (.ref x) [.str "__class__" tk] [] _ (by decide +kernel) (by decide +kernel) isB (PySem.F.args_bexc_ga (.ref x) (.str "__class__" tk)) ?_
  unfold Builtin.«object.__getattribute__»; refine wpAny_bind (wpAny_of_eq (a := ((Value.ref x : Value), [Value.str "__class__" tk])) (by first | rfl | (simp only [slotArgs]; rfl)) ?_)
  refine wpAny_bind (wpAny_pure (wpAny_bind (ty.at (wpAny_bind (g3.at ?_)))))
  show wpAny _ _ (holding [Value.builtin "object.__class__"] (call (.builtin "getset_descriptor.__get__") [.builtin "object.__class__", .ref x, .ref D]) >>= ret) _ _ _; refine wpAny_bind (wpAny_holding (wpAny_call (class_get (s := ⟨h0, gs, dr, tk + 1, os⟩) (ox := ox) (od := od) X I T.hm ?_)))
  refine wpAny_pure ?_
  show wpAny _ _ (handedOut (.ref D)) _ _ _
  rw [handedOut_of (v := .ref D) rfl]
  first
    | exact wpAny_pure (wpAny_pure q)
    | exact wpAny_pure q
    | exact wpAny_pure (wpAny_bind (wpAny_pure (wpAny_pure q)))
theorem kitX_of (T : L2.ExcC K D) : KitX K (.ref x) (.ref D) (fun h => InstAt h x ox D od) := by
  refine ⟨fun _ _ _ I => I.type, fun _ _ X _ => ?_, fun h tp dd its n sl X htp => ?_, fun X I q => clsX T X I q⟩
  · obtain ⟨cd, z, _⟩ := any_some T.hd
    unfold clsIn at z
    split at z
    · rename_i ho
      intro A2 Q2 E2 s2 k q2
      unfold isType; unfold loadHead
      exact wpAny_bind (wpAny_loadPart (k _ _ (X _ _ ho)) (wpAny_pure q2))
    · cases z
  · obtain ⟨cd, z, _⟩ := any_some T.hd
    refine Bool.eq_false_iff.mpr fun y => ?_
    have e2 : D = tp := Value.ref.inj (beq_iff_eq.mp y)
    subst e2
    unfold clsIn at z
    split at z
    · rename_i ho
      have y2 := (X _ _ ho).symm.trans htp
      cases y2
    · cases z
end
end PLX
namespace PL
open PySem PySem.Spec PyProof.Rows L2 PLX
/-- isinstance(e, c), e the error at a, of the class at D, with its dict -/
def rIsX (K : PySem.W.Frag) (D a : Addr) (cls : Value) (d : Option Addr) : List V → Hp → VK → Prop := fun xs H Q => ∃ (c : V) (cv : Value) (b : Bool) (dd : Addr) (fs : List (Str × V)),
  xs = [.ref a, c] ∧ cls = .ref D ∧ d = some dd ∧ H dd = some (.xd fs) ∧ (∀ u, RelV c u → u = cv) ∧ PySem.W.kitOne K (.ref D) cv = some b ∧ Q (.bl b) H
theorem call_isX {X : Cx} {a D : Addr} {oe : Obj} {cls : Value} {d : Option Addr} {pn : List (Addr × Obj)} (T : ExcC X.K D) (hz : Zc cls d oe) (hf : ∃ vs, oe.data = .fields vs) : CallR (X.suite a ((a, oe) :: pn)) (.builtin "isinstance") (rIsX X.K D a cls d) := by
  intro pins s σ H xs us Q I r h
  obtain ⟨c, cv, b, dd, fs, rfl, rfl, rfl, ea, hcv, e, q⟩ := h
  cases r with
  | cons rx rr =>
    cases rr with
    | cons rt rr =>
      cases rr
      cases rx
      have ec := hcv _ rt
      subst ec
      obtain ⟨hget, _⟩ := I.pin (a, oe) (List.mem_append.mpr (.inl List.mem_cons_self))
      obtain ⟨vs, hv⟩ := hf
      have hx : ObjOk X.prog X.w H s.heap dd (.xd fs) := I.hok dd _ ea
      obtain ⟨mA, hns, _⟩ := hx
      obtain ⟨oD, ho, _⟩ := lookIn_ns hns
      have J : PySem.W.InstAt s.heap a oe D (some oD) := ⟨hget, hz.1, by unfold PySem.W.notCls; rw [hv] <;> rfl, by rw [hz.2]; exact ho⟩
      exact PySem.W.kia_one (kitX_of T) I.kIn J e (fun z => nomatch z) fun tk => ⟨.bl b, H, I.kept (t' := tk) fun _ _ z => z, rfl, q⟩
end PL

/-! try with several clauses, each with a name -/
namespace PL
open PySem PySem.Spec PyProof.Rows L2 PLX
abbrev TSx := Addr → Value → Option Addr → TS
/-- behind a clause the name is gone -/
def goneE (i : Nat) (D : Ends) : Ends := ⟨fun τ H' => D.nx (τ.set i none) H', D.rt, fun τ H' => D.bk (τ.set i none) H', fun τ H' => D.ct (τ.set i none) H'⟩
def wHds (K : PySem.W.Frag) (i : Nat) (Wo : WX) (D : Ends) : List (Value × TSx) → WX
  | [] => Wo
  | (c, ts) :: l => fun cls d τ H => ∃ b, PySem.W.exmOne K cls c = some b ∧ (b = true → ∀ a, H a = none → ts a cls d (goneE i D) (τ.set i (some (.ref a))) H) ∧ (b = false → wHds K i Wo D l cls d τ H)
inductive HdsA (X : Cx) (n : Str) : List ExceptHandler → List (Value × TSx) → Prop
  | nil : HdsA X n [] []
  | cons {x : Str} {c : Value} {ts : TSx} {s0 : Stmt} {ss : List Stmt} {p1 p2 : Pos} {hds : List ExceptHandler} {l : List (Value × TSx)} (hc : Names X x c)
      (hS : ∀ (a : Addr) (oe : Obj) (cls : Value) (d : Option Addr) (pn : List (Addr × Obj)), Zc cls d oe → (∃ vs, oe.data = .fields vs) → PSs (X.suite a ((a, oe) :: pn)) (s0 :: ss) (ts a cls d)) (rest : HdsA X n hds l) :
      HdsA X n (.ExceptHandler (some (.Name x p1)) (some n) (s0 :: ss) p2 :: hds) ((c, ts) :: l)
section
variable {X : Cx} {n : Str} {i : Nat} {body : List Stmt} {hd0 : ExceptHandler} {hds : List ExceptHandler} {l : List (Value × TSx)} {pos : Pos} {tb : WX → TS} {Wo : WX}
theorem ps_tryA (eS : X.stack = X.env :: X.outer) (eF : X.env.frame = some X.env.locals) (hN : X.N.Nodup) (hi : X.N[i]? = some n) (hln : X.env.kindOf n = some .local) (tk : Takes X Wo)
    (hb : ∀ (Wx : WX) (pn : List (Addr × Obj)) (xe : Value → Shared → Prop), Takes (X.tr pn xe) Wx → PassesOwn (model X.prog X.w) X.A X.env xe → PSs (X.tr pn xe) body (tb Wx))
    (hh : HdsA X n (hd0 :: hds) l) : L2.PS X (.Try body (hd0 :: hds) [] [] pos) (fun D τ H => tb (wHds X.K i Wo D l) D τ H) := by
  refine ⟨fun pins s τ H D I h => ?_⟩
  have ok := I.ok
  have eA : X.A.frames = some (X.env :: X.outer) := by rw [ok.frames, eS]
  have hL : Loc X.env.scope n := .inl hln
  refine wpAny_Try_except (wpAny_mono ((hb (wHds X.K i Wo D l) (X.pn ++ pins) (fun e t1 => wpAny (model X.prog X.w) X.A (noteFrame e X.env) (fun _ t2 => wpAny (model X.prog X.w) X.A (setFlight e none) (fun _ t3 =>
    wpAny (model X.prog X.w) X.A (handleBy e X.env (hd0 :: hds)) (SP X pins D) X.xe t3) X.xe t2) X.xe t1) (fun u s' xx => ?_) PassesOwn.looking).run [] s τ H D (I.toTry _) h) (fun f s1 z => ?_) (fun e s1 z => z))
  · obtain ⟨a, B, sI, pins', τ', H', cls, d, rfl, J', nb, up, sky, na, os, ag, wi⟩ := xx
    have J : Inv X pins τ' H' sI := J'.ofTry ok
    have sky2 : Sky B (X.env :: X.outer) a (Zc cls d) X.env.locals s'.heap := by rw [← eS]; exact sky
    show wpAny (model X.prog X.w) X.A (noteFrame (.ref a) X.env) _ _ _; refine Sky.land Zc.steady eA eF sky2 fun h3 f3 u3 => ?_
    have J3 : Inv X pins τ' H' { s' with heap := h3 } := J.landed nb f3.1 (up.trans u3) os ag
    obtain ⟨o3, v3, g3, z3, d3⟩ := f3.there
    have off : ∀ {h : Heap} {o : Obj} {vs : Array Value}, h.FunFrames B (X.env :: X.outer) → h.get? a = some o → o.data = .fields vs → a ∉ frs (X.env :: X.outer) := by
      intro h o vs ff e dd m
      obtain ⟨_, o2, e2, nn⟩ := ff.mem m
      rw [e] at e2; cases e2; exact nn _ dd
    have nfr := off f3.2.2.1 g3 d3
    have nL : a ≠ X.env.locals := fun z => nfr (List.mem_filterMap.mpr ⟨X.env, List.mem_cons_self, by rw [eF, z]⟩)
    have nF : a ∉ X.fs := fun m => let ⟨e, he, q⟩ := List.mem_filterMap.mp m; nfr (List.mem_filterMap.mpr ⟨e, List.mem_cons_of_mem _ he, q⟩)
    have S3 := J3.suite g3 d3 na nL nF
    have go : ∀ {hs2 : List ExceptHandler} {l2 : List (Value × TSx)}, HdsA X n hs2 l2 → wHds X.K i Wo D l2 cls d τ' H' → wpAny (model X.prog X.w) X.A (handleBy (.ref a) X.env hs2) (SP X pins D) X.xe { s' with heap := h3 } := by
      intro hs2 l2 hk
      induction hk with
      | nil =>
        intro wi
        refine wpAny_handleBy_nil ?_
        obtain ⟨k1, k2, k3, oe, vs, T, oT, _, he, hz, hd, h1, hr⟩ := id f3
        unfold PySem.passOn
        refine wpAny_bind (wpAny_field he hd h1 ?_); rw [if_neg (show ¬ ((Value.ref T == Value.none) = true) from by simp)]
        have fin : wpAny (model X.prog X.w) X.A (setFlight (.ref a) X.env.frame) (fun _ t4 => wpAny (model X.prog X.w) X.A (throw (.ref a) : Sem Flow) (SP X pins D) X.xe t4) X.xe { s' with heap := h3 } := by
          rw [eF]; refine HandSPX.setFlight_upZ f3 fun h4 hh4 u4 => wpAny_throw (tk _ _ ?_)
          exact ⟨a, B, sI, pins, τ', H', cls, d, rfl, J, nb, (up.trans u3).trans u4, .inr (.inr (by rw [eS]; exact hh4)), na, os, ag, wi⟩
        first
          | exact wpAny_bind (wpAny_pure (wpAny_bind fin))
          | exact wpAny_bind fin
      | @cons x c ts s0 ss p1 p2 hs3 l3 hc hS rest ih =>
        intro wi
        obtain ⟨b, hb1, yes, no⟩ := wi
        refine wpAny_handleBy_cons (codeAny_handlers_test ?_) (by intro q; cases q)
        have LT : PySem.W.Looks (model X.prog X.w) h3 (typeOf (.ref a)) cls := fun _ _ _ _ k q => wpAny_typeOf_ref (k _ _ g3) (by rw [z3.1]; exact q)
        have LM := PySem.W.exm_one (M := model X.prog X.w) J3.kIn LT hb1
        have test : ∀ {Q : Value → Shared → Prop} {E : Value → Shared → Prop}, Q c { s' with heap := h3 } → wpAny (model X.prog X.w) (X.A.mark (some (.ref a))) (eval (.Name x p1) X.env) Q E { s' with heap := h3 } := by
          intro Q E q
          obtain ⟨y1, y2, y3 | ⟨y3, y4, y5⟩⟩ := hc
          · exact ld_glob (X := X.suite a ((a, o3) :: (X.pn ++ pins))) S3 y1 y3 q y2
          · exact ld_blt (X := X.suite a ((a, o3) :: (X.pn ++ pins))) S3 y1 y3 y4 q y5 y2
        refine test (LM.here ?_)
        cases b with
        | true =>
          refine codeAny_handlers_suite_as (HandSPX.lands_againZ f3 fun h4 f4 u4 => ?_)
          have J4 : Inv X pins τ' H' { s' with heap := h4 } := J.landed nb f4.1 ((up.trans u3).trans u4) os ag
          obtain ⟨o4, v4, g4, z4, d4⟩ := f4.there
          have S4 := J4.suite g4 d4 na nL nF
          refine store_ok (X := X.suite a ((a, o4) :: (X.pn ++ pins))) (v := .ref a) S4 hN hi hL rfl (fun s5 S5 => ?_) (.inr hln)
          refine wpAny_mono ((hS a o4 cls d (X.pn ++ pins) z4 ⟨_, d4⟩).run [] s5 _ H' (goneE i D) S5 (yes rfl a na)) (fun f s6 z => ?_) (fun _ _ z => False.elim z)
          have bye : ∀ {τ6 : L2.St} {H6 : Hp} {Q : Shared → Prop}, Inv (X.suite a ((a, o4) :: (X.pn ++ pins))) [] τ6 H6 s6 → (∀ s7, Inv X pins (τ6.set i none) H6 s7 → Q s7) → wpAny (model X.prog X.w) X.A (do bindName X.env n .none; unbindBehindTheSuite X.env n p2) (fun _ s7 => Q s7) X.xe s6 := fun S6 q => gone_ok (S6.unsuite ok) hN hi hln q
          cases f with
          | next => obtain ⟨τ6, H6, S6, q6⟩ := z; exact bye S6 fun s7 J7 => ⟨_, _, J7, q6⟩
          | brk => obtain ⟨τ6, H6, S6, q6⟩ := z; exact bye S6 fun s7 J7 => ⟨_, _, J7, q6⟩
          | cont => obtain ⟨τ6, H6, S6, q6⟩ := z; exact bye S6 fun s7 J7 => ⟨_, _, J7, q6⟩
          | ret u => obtain ⟨v6, τ6, H6, S6, r6, q6⟩ := z; exact bye S6 fun s7 J7 => ⟨_, _, _, J7, r6, q6⟩
        | false =>
          show wpAny _ X.A (handleBy (.ref a) X.env hs3) _ _ _
          exact ih (no rfl)
    exact go hh wi
  · cases f with
    | next => obtain ⟨τ', H', J', q⟩ := z; exact wpAny_execs_nil ⟨τ', H', J'.ofTry ok, q⟩
    | brk => obtain ⟨τ', H', J', q⟩ := z; exact ⟨τ', H', J'.ofTry ok, q⟩
    | cont => obtain ⟨τ', H', J', q⟩ := z; exact ⟨τ', H', J'.ofTry ok, q⟩
    | ret u => obtain ⟨v, τ', H', J', r, q⟩ := z; exact ⟨v, τ', H', J'.ofTry ok, r, q⟩
end
end PL

/-! try / except .. as e, by pure programs -/
namespace PL
open PySem PySem.Spec PyProof.Rows L2 PLX
/-- slot j holds the caught error, at a; its dict, at dd, has the fields es -/
def InX (K : PySem.W.Frag) (B : Hp) (σ : L2.St) (j : Nat) (a dd : Addr) (es : List (PyData × PyData)) : Prop := σ[j]? = some (some (.ref a)) ∧ ∃ vs, B dd = some (.xd vs) ∧ RpFs K B vs es
section
variable {S : Type} [Res S]
def PxS (K : PySem.W.Frag) (j : Nat) (a dd : Addr) (es : List (PyData × PyData)) (te : TE) (ρ : List PS) (w : W S PyData) : Prop :=
  ∀ (C : Cf S) B H s A σ, Hs C B H s → Sls K C B H A ρ σ → InX K B σ j a dd es → ∀ P, w s P → ∀ Q : VK,
    (∀ B' v H' d s', Same B B' → Hs C B' H' s' → Sls K C B' H' A ρ σ → InX K B' σ j a dd es → Rp K B' v d → P d s' → Q v H') → te σ H Q
def PmS (K : PySem.W.Frag) (n j : Nat) (a dd : Addr) (es : List (PyData × PyData)) (t : TA) (ρ : List PS) (w : W S (List PyData)) : Prop :=
  ∀ (C : Cf S) B H s A σ, Hs C B H s → Sls K C B H A ρ σ → InX K B σ j a dd es → ∀ P, w s P → ∀ Q : List V → Hp → Prop,
    (∀ B' vs H' ds s', Same B B' → Hs C B' H' s' → Sls K C B' H' A ρ σ → InX K B' σ j a dd es → vs.length = n ∧ RpAll K B' vs ds → P ds s' → Q vs H') → t σ H Q
def PtS (K : PySem.W.Frag) (j : Nat) (a dd : Addr) (es : List (PyData × PyData)) (tt : TT) (ρ : List PS) (w : W S Bool) : Prop :=
  ∀ (C : Cf S) B H s A σ, Hs C B H s → Sls K C B H A ρ σ → InX K B σ j a dd es → ∀ P, w s P → ∀ Q : Bool → Hp → Prop,
    (∀ B' b H' s', Same B B' → Hs C B' H' s' → Sls K C B' H' A ρ σ → InX K B' σ j a dd es → P b s' → Q b H') → tt σ H Q
/-- a clause's statements: slot i gets a value -/
def PsE (K : PySem.W.Frag) (j i : Nat) (a dd : Addr) (es : List (PyData × PyData)) (ts : TS) (ρ : List PS) (w : W S PyData) : Prop :=
  ∀ (C : Cf S) B H s A σ, Hs C B H s → Sls K C B H A ρ σ → InX K B σ j a dd es → ∀ P, w s P → ∀ D : Ends,
    (∀ B' H' s' A' σ' d, Same B B' → Hs C B' H' s' → Sls K C B' H' A' (ρ.set i (.dat d)) σ' → P d s' → D.nx σ' H') → ts D σ H
end
/-- e.f -/
def wfe (es : List (PyData × PyData)) (f : Str) {S : Type} : W S PyData := match fGet f es with | some d => wpure d | none => wfail
section
variable {S : Type} [Res S] {K : PySem.W.Frag} {C : Cf S} {B B' H H' : Hp} {s : S} {A : List Addr} {ρ ρ' : List PS} {σ : L2.St} {v : V} {d : PyData} {j i : Nat} {a dd D : Addr} {es : List (PyData × PyData)}
  {te : TE} {tt tu : TT} {ts t u : TS} {ta : TA} {w wa wb : W S PyData} {wt wu : W S Bool} {ws : List (W S PyData)}
theorem InX.mono (e : Same B B') (h : InX K B σ j a dd es) : InX K B' σ j a dd es := by
  obtain ⟨h1, vs, h2, h3⟩ := h
  exact ⟨h1, vs, e _ _ h2, RpFs.mono e h3⟩
theorem pxs_of (h : Px K te .dat ρ w) : PxS K j a dd es te ρ w := fun C B H s A σ hw hl hx P hp Q q => h C B H s A σ hw hl P hp Q fun B' v H' d s' e w' l' r p' => q B' v H' d s' e w' l' (hx.mono e) r p'
theorem pxs_fld {f : Str} : PxS (S := S) K j a dd es (tXf a (.ref D) (some dd) D f (tVar j)) ρ (wfe es f) := fun C B H s A σ hw hl hx P hp Q q => by
  obtain ⟨h1, vs, h2, h3⟩ := id hx
  unfold wfe at hp
  cases hd : fGet f es with
  | none => rw [hd] at hp; exact hp.elim
  | some d =>
    rw [hd] at hp
    obtain ⟨v, g1, g2⟩ := (rpFs_get h3).1 d hd
    exact ⟨_, h1, rfl, rfl, dd, vs, v, rfl, hw.ex _ _ h2, g1, q B v H d s (Same.refl B) hw hl hx g2 hp⟩
theorem pxs_isi {c : V} {cv : Value} {b : Bool} (hc : ∀ u, RelV c u → u = cv) (hk : PySem.W.kitOne K (.ref D) cv = some b) : PxS (S := S) K j a dd es (tCB (rIsX K D a (.ref D) (some dd)) (tCons (tVar j) (tCons (tC c) tNil))) ρ (wpure (.bool b)) := fun C B H s A σ hw hl hx P hp Q q => by
  obtain ⟨h1, vs, h2, h3⟩ := id hx
  exact ⟨_, h1, c, cv, b, dd, vs, rfl, rfl, rfl, hw.ex _ _ h2, hc, hk, q B _ H _ s (Same.refl B) hw hl hx (.bl b) hp⟩
theorem isc_ty {n : String} : ∀ u, RelV (V.ty n) u → u = Value.type n := fun _ h => h
theorem pms_nil : PmS (S := S) K 0 j a dd es tNil ρ (wl []) := fun C B H s A σ hw hl hx P hp Q q => q B [] H [] s (Same.refl B) hw hl hx ⟨rfl, .nil⟩ hp
theorem pms_cons {n : Nat} (h : PxS K j a dd es te ρ w) (h2 : PmS K n j a dd es ta ρ (wl ws)) : PmS K (n + 1) j a dd es (tCons te ta) ρ (wl (w :: ws)) := fun C B H s A σ hw hl hx P hp Q q =>
  h C B H s A σ hw hl hx _ hp _ fun B1 v1 H1 d1 s1 e1 w1 l1 x1 r1 p1 => h2 C B1 H1 s1 A σ w1 l1 x1 _ p1 _ fun B2 vs H2 ds s2 e2 w2 l2 x2 r2 p2 =>
    q B2 (v1 :: vs) H2 (d1 :: ds) s2 (e1.trans e2) w2 l2 x2 ⟨congrArg Nat.succ r2.1, .cons (r1.mono e2) r2.2⟩ p2
theorem pxs_tup {n : Nat} (ha : PmS K n j a dd es ta ρ (wl ws)) (h1 : n ≤ 1000 := by decide) : PxS K j a dd es (tTupZ ta) ρ (wbind (wl ws) fun as => wpure (.tuple as)) := fun C B H s A σ hw hl hx P hp Q q =>
  ha C B H s A σ hw hl hx _ hp _ fun B1 vs H1 ds s1 e1 w1 l1 x1 r1 p1 => by
    refine ⟨by rw [r1.1]; exact Nat.le_trans h1 (by decide), fun p o hp ho => ?_⟩
    have g := Grow.new (o := .frz o (.tup vs)) w1.ex hp
    exact q _ _ _ _ s1 (e1.trans g.b) (w1.grow g) (l1.grow w1 g) (x1.mono g.b) (.tup (.inl ⟨o, upd_same, ho⟩) (RpAll.mono g.b r1.2)) p1
theorem pts_B (h : PxS K j a dd es te ρ w) : PtS K j a dd es (tB te) ρ (wB w) := fun C B H s A σ hw hl hx P hp Q q =>
  h C B H s A σ hw hl hx _ hp _ fun B1 v1 H1 d1 s1 e1 w1 l1 x1 r1 p1 => by
    obtain ⟨b, rfl, p1⟩ := toB_inv p1
    cases r1
    exact ⟨b, rfl, q B1 b H1 s1 e1 w1 l1 x1 p1⟩
theorem pts_not (h : PtS K j a dd es tt ρ wt) : PtS K j a dd es (tNot tt) ρ (wnot wt) := fun C B H s A σ hw hl hx P hp Q q =>
  h C B H s A σ hw hl hx _ hp _ fun B1 b H1 s1 e1 w1 l1 x1 p1 => q B1 _ H1 s1 e1 w1 l1 x1 p1
theorem pts_and (h : PtS K j a dd es tt ρ wt) (h2 : PtS K j a dd es tu ρ wu) : PtS K j a dd es (tAnd tt tu) ρ (wand wt wu) := fun C B H s A σ hw hl hx P hp Q q =>
  h C B H s A σ hw hl hx _ hp _ fun B1 b H1 s1 e1 w1 l1 x1 p1 => by
    cases b with
    | true =>
      show tu σ H1 Q
      exact h2 C B1 H1 s1 A σ w1 l1 x1 P p1 Q fun B2 b H2 s2 e2 w2 l2 x2 p2 => q B2 b H2 s2 (e1.trans e2) w2 l2 x2 p2
    | false =>
      show Q false H1
      exact q B1 false H1 s1 e1 w1 l1 x1 p1
/-- x = e in a clause -/
theorem pse_let (he : PxS K j a dd es te ρ w) (hi : i < ρ.length) : PsE K j i a dd es (tAsg te (gName i)) ρ w := fun C B H s A σ hw hl hx P hp D' nx =>
  he C B H s A σ hw hl hx _ hp _ fun B1 v1 H1 d1 s1 e1 w1 l1 x1 r1 p1 => by
    obtain ⟨A', l2⟩ := set_of (.inl rfl) w1 l1 hi (show ER K C B1 H1 A ρ σ .dat v1 d1 from r1)
    exact nx B1 H1 s1 A' _ d1 e1 w1 l2 p1
/-- if c: x = e -/
theorem pse_if {d0 : PyData} (hc : PtS K j a dd es tt ρ wt) (h : PsE K j i a dd es t ρ w) (h0 : ρ.set i (.dat d0) = ρ := by rfl) : PsE K j i a dd es (tIfS tt t tNext) ρ (wite wt w (wpure d0)) := fun C B H s A σ hw hl hx P hp D' nx =>
  hc C B H s A σ hw hl hx _ hp _ fun B1 b H1 s1 e1 w1 l1 x1 p1 => by
    cases b with
    | true =>
      show t D' σ H1
      exact h C B1 H1 s1 A σ w1 l1 x1 P p1 D' fun B2 H2 s2 A2 σ2 d e2 w2 l2 p2 => nx B2 H2 s2 A2 σ2 d (e1.trans e2) w2 l2 p2
    | false =>
      show D'.nx σ H1
      refine nx B1 H1 s1 A σ d0 e1 w1 ?_ p1
      rw [h0]
      exact l1

/-! ### the clauses -/
def HitK (K : PySem.W.Frag) (D : Addr) : List (Value × TSx) → TSx → Prop
  | [], _ => False
  | (c, ts) :: l, t => (PySem.W.exmOne K (.ref D) c = some true ∧ t = ts) ∨ (PySem.W.exmOne K (.ref D) c = some false ∧ HitK K D l t)
theorem hit_w {Wo : WX} {E : Ends} {d : Option Addr} {τ : L2.St} {H : Hp} {t : TSx} : ∀ {l : List (Value × TSx)}, HitK K D l t → (∀ a, H a = none → t a (.ref D) d (goneE i E) (τ.set i (some (.ref a))) H) → wHds K i Wo E l (.ref D) d τ H
  | [], h, _ => h.elim
  | (c, ts) :: l, h, q => by
    rcases h with ⟨h1, rfl⟩ | ⟨h1, h2⟩
    · exact ⟨true, h1, fun _ => q, (fun z => nomatch z)⟩
    · exact ⟨false, h1, (fun z => nomatch z), fun _ => hit_w h2 q⟩
/-- what the clauses do, by the error's class -/
def HdOk (K : PySem.W.Frag) (j i : Nat) (l : List (Value × TSx)) (ρ : List PS) (hd : Str → List (PyData × PyData) → W S PyData) : Prop :=
  ∀ nm es s P, hd nm es s P → ∀ D, ClsNm K nm D → ∃ ts, HitK K D l ts ∧ ∀ a dd, PsE K j i a dd es (ts a (.ref D) (some dd)) ρ (hd nm es)
def wno : Str → List (PyData × PyData) → W S PyData := fun _ _ => wfail
def wnm (n0 : Str) (f : List (PyData × PyData) → W S PyData) (g : Str → List (PyData × PyData) → W S PyData) : Str → List (PyData × PyData) → W S PyData := fun nm es => if nm = n0 then f es else g nm es
theorem hd_no {l : List (Value × TSx)} : HdOk (S := S) K j i l ρ wno := fun nm es s P h => h.elim
theorem hd_nm {l : List (Value × TSx)} {ts : TSx} {n0 : Str} {f : List (PyData × PyData) → W S PyData} {g : Str → List (PyData × PyData) → W S PyData} (cn : ClsNm K n0 D) (hit : HitK K D l ts) (hs : ∀ es a dd, PsE K j i a dd es (ts a (.ref D) (some dd)) ρ (f es)) (rest : HdOk K j i l ρ g) :
    HdOk K j i l ρ (wnm n0 f g) := fun nm es s P h D2 c2 => by
  by_cases z : nm = n0
  · have e : D2 = D := by
      rw [z] at c2
      have y := c2.symm.trans cn
      cases y
      rfl
    subst e
    refine ⟨ts, hit, fun a dd => ?_⟩
    have y : wnm n0 f g nm es = f es := if_pos z
    rw [y]
    exact hs es a dd
  · have y : wnm n0 f g nm es = g nm es := if_neg z
    rw [y] at h ⊢
    exact rest nm es s P h D2 c2
def whd (hd : Str → List (PyData × PyData) → W S PyData) : PyData → W S PyData
  | .dict [_, (.str nm, .dict es)] => hd nm es
  | _ => wfail
def wtry (w : W S PyData) (hd : Str → List (PyData × PyData) → W S PyData) : W S PyData := wbind w fun d => wcond (isErr d) (whd hd d) (wpure d)
/-- x = .. : try: x = e / except .. as e: .. -/
theorem pst_try {α : Type} {r : RK} {env : α → List PS} {l : List (Value × TSx)} {hd : Str → List (PyData × PyData) → W S PyData} {tx : WX → TE} {kk : PyData → W S (Fl α)} {ρ' : PyData → List PS} (he : ∀ Wx, PxX K Wx (tx Wx) .dat ρ w) (hh : HdOk K j i l ρ hd) (hi : i < ρ.length) (hj : j < ρ.length)
    (h : ∀ d, Pst K u r (ρ' d) env (kk d)) (hρ : ∀ d, ρ.set i (.dat d) = ρ' d := by intro _; rfl) (h1 : ρ.set j .un = ρ := by rfl) (h2 : ∀ d, (ρ.set i (.dat d)).set j .un = ρ.set i (.dat d) := by intro _; rfl) :
    Pst K (tSeq (fun D τ H => tAsg (tx (wHds K j (fun _ _ _ _ => False) D l)) (gName i) D τ H) u) r ρ env (wbind (wtry w hd) kk) := fun C B H s A σ hw hl P hp D nx rt =>
  he _ C B H s A σ hw hl _ hp _ (fun B1 v1 H1 d1 s1 e1 w1 l1 r1 p1 => by
    have n := rp_noErr (show Rp K B1 v1 d1 from r1)
    simp only [n, wcX_f] at p1
    obtain ⟨A', l2⟩ := set_of (.inl rfl) w1 l1 hi r1
    rw [hρ d1] at l2
    exact h d1 C B1 H1 s1 A' _ w1 l2 P p1 D (fun B2 H2 s2 A2 σ2 a2 e2 w2 l2 p2 => nx B2 H2 s2 A2 σ2 a2 (e1.trans e2) w2 l2 p2) fun B2 v H2 d s2 e2 w2 r2 p2 => rt B2 v H2 d s2 (e1.trans e2) w2 r2 p2) fun B1 H1 s1 cls dd d1 e1 w1 l1 xc p1 => by
    simp only [xc.err, wcX_t] at p1
    obtain ⟨D1, ad, nm, vs, es, rfl, rfl, cn, rfl, hB, hR⟩ := xc
    obtain ⟨ts, hit, hs⟩ := hh nm es s1 _ p1 D1 cn
    refine hit_w hit fun a ha => ?_
    obtain ⟨A1, l2, _⟩ := l1.setU j (some (.ref a))
    rw [h1] at l2
    have hx : InX K B1 (σ.set j (some (.ref a))) j a ad es := by
      refine ⟨?_, vs, hB, hR⟩
      rw [List.getElem?_set_self]
      rw [← l1.len]
      exact hj
    refine hs a ad C B1 H1 s1 A1 _ w1 l2 hx _ p1 _ fun B2 H2 s2 A2 σ2 d2 e2 w2 l3 p2 => ?_
    obtain ⟨A3, l4, _⟩ := l3.setU j none
    rw [h2, hρ] at l4
    exact h d2 C B2 H2 s2 A3 _ w2 l4 P p2 D (fun B3 H3 s3 A3 σ3 a3 e3 w3 l3 p3 => nx B3 H3 s3 A3 σ3 a3 ((e1.trans e2).trans e3) w3 l3 p3) fun B3 v H3 d s3 e3 w3 r3 p3 => rt B3 v H3 d s3 ((e1.trans e2).trans e3) w3 r3 p3
end
end PL

/-! forms that the printer uses -/
namespace PL
open PySem PySem.Spec PyProof.Rows L2 PLX
theorem ps_nox {X : Cx} {st : Stmt} {t : TS} (h : L2.PS X.nox st t) : L2.PS X st t := ⟨fun pins s σ H D I q =>
  wpAny_mono (h.run pins s σ H D (I.wish _) q) (fun _ _ z => z.unwish) fun _ _ z => False.elim z⟩
/-- try: the readings of the body and of the clauses -/
def tTry (K : PySem.W.Frag) (i : Nat) (tb : WX → TS) (l : List (Value × TSx)) : TS := fun D τ H => tb (wHds K i (fun _ _ _ _ => False) D l) D τ H
theorem ps_tryP {X : Cx} {n : Str} {i : Nat} {body : List Stmt} {hd0 : ExceptHandler} {hds : List ExceptHandler} {l : List (Value × TSx)} {pos : Pos} {tb : WX → TS} (eS : X.stack = X.env :: X.outer) (eF : X.env.frame = some X.env.locals) (hN : X.N.Nodup) (hi : X.N[i]? = some n) (hln : X.env.kindOf n = some .local)
    (hb : ∀ (Wx : WX) (pn : List (Addr × Obj)) (xe : Value → Shared → Prop), Takes (X.tr pn xe) Wx → PassesOwn (model X.prog X.w) X.A X.env xe → PSs (X.tr pn xe) body (tb Wx))
    (hh : HdsA X n (hd0 :: hds) l) : L2.PS X (.Try body (hd0 :: hds) [] [] pos) (tTry X.K i tb l) := ps_tryA eS eF hN hi hln takes_none5 hb hh
section
variable {S α β : Type} [Res S] {K : PySem.W.Frag} {ρ ρ2 : List PS} {i j : Nat} {u t : TS} {tb : WX → TS} {tx : WX → TE} {w : W S PyData} {r : RK} {env : α → List PS} {env2 : β → List PS} {E : XK}
theorem pst_tryP {l : List (Value × TSx)} {hd : Str → List (PyData × PyData) → W S PyData} {kk : PyData → W S (Fl α)} {ρ' : PyData → List PS} (ht : ∀ Wx, tb Wx = tAsg (tx Wx) (gName i)) (he : ∀ Wx, PxX K Wx (tx Wx) .dat ρ w) (hh : HdOk K j i l ρ hd) (hi : i < ρ.length) (hj : j < ρ.length)
    (h : ∀ d, Pst K u r (ρ' d) env (kk d)) (hρ : ∀ d, ρ.set i (.dat d) = ρ' d := by intro _; rfl) (h1 : ρ.set j .un = ρ := by rfl) (h2 : ∀ d, (ρ.set i (.dat d)).set j .un = ρ.set i (.dat d) := by intro _; rfl) :
    Pst K (tSeq (tTry K j tb l) u) r ρ env (wbind (wtry w hd) kk) := by
  have e : tTry K j tb l = fun D τ H => tAsg (tx (wHds K j (fun _ _ _ _ => False) D l)) (gName i) D τ H := by
    funext D τ H
    unfold tTry
    rw [ht]
  rw [e]
  exact pst_try he hh hi hj h hρ h1 h2
theorem psr_tryP {l : List (Value × TSx)} {hd : Str → List (PyData × PyData) → W S PyData} {kk : PyData → W S PyData} {ρ' : PyData → List PS} (ht : ∀ Wx, tb Wx = tAsg (tx Wx) (gName i)) (he : ∀ Wx, PxX K Wx (tx Wx) .dat ρ w) (hh : HdOk K j i l ρ hd) (hi : i < ρ.length) (hj : j < ρ.length)
    (h : ∀ d, Psr K u r (ρ' d) (kk d)) (hρ : ∀ d, ρ.set i (.dat d) = ρ' d := by intro _; rfl) (h1 : ρ.set j .un = ρ := by rfl) (h2 : ∀ d, (ρ.set i (.dat d)).set j .un = ρ.set i (.dat d) := by intro _; rfl) :
    Psr K (tSeq (tTry K j tb l) u) r ρ (wbind (wtry w hd) kk) := pst_tryP (kk := fun d => wret (kk d)) ht he hh hi hj h hρ h1 h2
theorem pstx_seg {m : W S (Fl α)} {kk : α → W S (Fl β)} (h1 : Pst K (tSeq t tNext) r ρ env m) (h2 : ∀ a, PstX K E u r (env a) env2 (kk a)) : PstX K E (tSeq t u) r ρ env2 (fbind m kk) := pstx_sq (t := t) (pstx_of h1) h2
theorem pstx_nil {a : α} (ms : List Bool) (h : keep ms ρ = env a := by rfl) : PstX (S := S) K E tNext r ρ env (wnx a) := pstx_of (pst_nil ms h)
theorem pstx_rt {m : W S PyData} (h : Psr K t r ρ m) : PstX K E t r ρ env (wret m) := pstx_of (pst_ret h)
end
def flI1 (f : Str) (xs : List V) : List (Str × V) := [(f, xs.headD .non)]
def feI1 (f : Str) (ds : List PyData) : List (PyData × PyData) := [(.str f, ds.headD .none)]
theorem rp_headD {K : PySem.W.Frag} {B : Hp} : ∀ {vs : List V} {ds : List PyData}, RpAll K B vs ds → Rp K B (vs.headD .non) (ds.headD .none)
  | _, _, .nil => .non
  | _, _, .cons h _ => h
theorem rpI1 {K : PySem.W.Frag} {f : Str} : ∀ (B : Hp) (vs : List V) (ds : List PyData), RpAll K B vs ds → RpFs K B (flI1 f vs) (feI1 f ds) := fun _ _ _ h => .cons (rp_headD h) .nil
/-- okX, the def's program told -/
theorem okX2 {S α : Type} [Res S] {P : Program} {w : World} {K : PySem.W.Frag} {mg : Str → Option Value} {base : Heap} {x qual : Str} {params : Arguments} {body : List Stmt} {scope : Scope} {dvs : List V} {kws : List (Str × V)} {f : Addr} {fd : FuncData} (F : FunD K x qual params body scope dvs kws f fd) {N ps : List Str} {k : Nat} {ks : List EK} {env : α → List PS} {G : List PyData → W S PyData} (Sc : FnScope N ps scope) (hl : ks.length = ps.length)
    (hb : ∀ (cdv : Value) (A : Around) (outer : List Env) (s : Shared) (H : Hp) (E : XK), Rm k (A.deeper (envOfC qual scope s.heap.objs.size f cdv)) →
      ∃ t, PSs (cxOf (L2.CX P w) P w K mg base N qual scope f cdv A outer s H E) body t ∧ ∀ ds : List PyData, ds.length = ks.length → ∃ m : W S (Fl α), G ds = wendA m ∧ PstX K E t .dat (argPS ks ds ++ List.replicate (N.length - ps.length) .un) env m) :
    FnG P w K mg base (L2.CX P w) (k + 1) f fd ps (spX K ks G) := by
  obtain ⟨oc, od, dV, kV, doc, pm, an, cdv, ct, osl, rfl, lk, hcd, _, _⟩ := F.ex
  refine fng_of lk hcd Sc (fun vs H Q E h => ?_) fun A outer s H vs Q E hr hsp => ?_
  · obtain ⟨C, ds, s, P, _, _, h, _⟩ := h
    exact h.len.1.trans hl
  · obtain ⟨t, h1, h2⟩ := hb cdv A outer s H E hr
    refine ⟨t, h1, ?_⟩
    obtain ⟨C, ds, s0, P0, rfl, ok, ha, hp, q, x⟩ := hsp
    have hn := ha.len
    obtain ⟨m, em, h3⟩ := h2 ds hn.2
    rw [em] at hp
    refine h3 C C.B0 C.H0 s0 [] _ (Hs.start C ok) ?_ _ hp _ (fun B' H' s' A' σ' a _ w' _ p' => q B' .non H' .none s' w' .non p') (fun B' v H' d s' _ w' r' p' => q B' v H' d s' w' r' p') fun B' H' s' cls dd d _ w' xc p' => x B' H' s' cls dd d w' xc p'
    have hs : L2.start N vs = vs.map some ++ List.replicate (N.length - ps.length) none := by rw [start_eq, hn.1, hl]
    rw [hs]
    exact ha.sls.uns _
end PL

/-! len of an instance whose class has its own __len__ -/
namespace PL
open PySem PySem.Spec PyProof.Rows L2 PLX
section
variable {X : Cx} {CX : CXT} {k : Nat} {f C : Addr} {fd : FuncData} {ps : List Str} {sp : Sp} {E : XK}
end
section
variable {S : Type} [Res S] {K : PySem.W.Frag} {ρ : List PS} {te : TE} {w : W S PyData} {nm : Str} {Cl : Addr} {E : XK}
end
end PL

/-! own[a, b] = v, in loops and at the end -/
namespace PL
open PySem PySem.Spec PyProof.Rows L2
section
variable {S α : Type} [Res S] {K : PySem.W.Frag} {ρ : List PS} {d : PyData} {tv : TE} {u : TS} {r : RK} {env : α → List PS} {i : Nat}
end
end PL

/-! what the written part tells of an own exception class, by its object -/
namespace PL
open PySem PySem.Spec PyProof.Rows L2 PLX
def ownO (o : Obj) (C : Addr) (tl : List Value) (nId : String) : Bool := match some o with
  | some ⟨.type "type", _, .cls r, z⟩ => (match r.mro, z.toList with
    | .ref D :: l, [_, _, _, _, some (.builtin i), _] => D == C && (i == nId && (!r.hasDel && (r.hasDict && tailIs tl l)))
    | _, _ => false)
  | _ => false
theorem ownB_of {K : PySem.W.Frag} {C : Addr} {tl : List Value} {nId : String} {o : Obj} (h : K.lookup C = some o) (q : ownO o C tl nId = true) : ownB K C tl nId = true := by
  unfold ownB
  rw [h]
  exact q
end PL

/-! dict displays: three texts as keys; one key; two pairs as keys -/
namespace PL
open PySem PySem.Spec PyProof.Rows L2
end PL

/-! dict displays as own things -/
namespace PL
open PySem PySem.Spec PyProof.Rows L2
def wkey1 (k v : PyData) {S : Type} : W S PyData := wreq ((keyD k).isSome = true) (.dict [(k, v)])
section
variable {S : Type} [Res S] {K : PySem.W.Frag} {C : Cf S} {B H : Hp} {s : S} {A : List Addr} {ρ : List PS} {σ : L2.St} {ta tb tc tk : TE} {wa wb wc wk : W S PyData}
theorem key_back {k : PyData} (h : (keyD k).isSome = true) : ∃ j, k = kD j := by
  cases k with
  | int i => exact ⟨.inl i, rfl⟩
  | str x => exact ⟨.inr x, rfl⟩
  | _ => cases h
theorem px_disp1 (hk : Px K tk .dat ρ wk) (ha : Px K ta .dat ρ wa) : Px K (tDisp [(tk, ta)]) .own ρ (wbind wk fun k => wbind wa fun a => wkey1 k a) := fun C B H s A σ hw hl P hp Q g => by
  intro q hq
  have gr := Grow.newU (o := .dK []) hw.ex hq
  have w0 := hw.grow gr
  have l0 := hl.grow hw gr
  have hqn : Mu (upd H q (.dK []) q) := .of upd_same nofun
  have hqB : B q = none := hw.freeB hq
  have hq0 : C.H0 q = none := hw.al q hq
  have hqA : q ∉ A := fun z => (hl.inA q z).1 hq
  show tk σ (upd H q (.dK [])) _
  refine px_guard [q] (fun p hp => by rw [List.mem_singleton.mp hp]; exact ⟨hqn, hqB, hq0⟩) (fun p hp => by rw [List.mem_singleton.mp hp]; exact hqA) hk (.inl rfl) w0 l0 hp fun B1 v1 H1 d1 s1 e1 w1 l1 r1 g1 n1 p1 => ?_
  obtain ⟨g1h, g1b⟩ := g1 q List.mem_cons_self
  show ta σ H1 _
  refine px_guard [q] (fun p hp => by rw [List.mem_singleton.mp hp]; exact ⟨by rw [g1h]; exact hqn, g1b, hq0⟩) (fun p hp => by rw [List.mem_singleton.mp hp]; exact hqA) ha (.inl rfl) w1 l1 p1 fun B2 v2 H2 d2 s2 e2 w2 l2 r2 g2 n2 p2 => ?_
  obtain ⟨g2h, g2b⟩ := g2 q List.mem_cons_self
  obtain ⟨hj, p2⟩ := (show ((keyD d1).isSome = true) ∧ P (.dict [(d1, d2)]) s2 from p2)
  obtain ⟨j, rfl⟩ := key_back hj
  have ev : v1 = kV j := sr_key (B := B1) (H := H1) (.rp (show Rp K B1 v1 (kD j) from r1))
  have hq2 : H2 q = some (.dK []) := by rw [g2h, g1h, upd_same]
  refine ⟨hq2, [(j, v2)], by rw [ev]; rfl, (show 1 ≤ 15 by decide), ?_⟩
  have w4 : Hs C B2 (upd H2 q (.dK [(j, v2)])) s2 := w2.put g2b hq0
  exact g B2 (.ref q) _ (.dict [(kD j, d2)]) s2 (e1.trans e2) w4 (l2.other hqA) ⟨q, _, rfl, upd_same, (show RpKv K B2 _ [(kD j, d2)] from .cons (show Rp K B2 v2 d2 from r2) .nil), g2b, hq0, hqA⟩ p2
end
end PL

/-! a list comprehension over a call that may raise -/
namespace PL
open PySem PySem.Spec PyProof.Rows L2 PLX
section
variable {S α β : Type} [Res S] {K : PySem.W.Frag} {te : TE} {tt : TT} {Wx : WX} {ρ : List PS}
theorem PxX.frz {w : W S PyData} (h : PxX K Wx te .own ρ w) : PxX K Wx te .dat ρ w := fun C B H s A σ hw hl P hp Q q x =>
  h C B H s A σ hw hl P hp Q (fun B' v H' d s' e w' l' ⟨p, o, ev, h1, h2, h3, h4, h5⟩ pd => by
    subst ev
    exact q _ _ H' d s' (e.trans (same_new h3)) (w'.frz h1 h3 h4) (l'.frz w' h5 h3 h4) (OwnOk.rp (h2.mono (same_new h3)) upd_same) pd) x
end
end PL

/-! sorted of a tuple of texts -/
namespace PL
open PySem PySem.Spec PyProof.Rows L2 RZ
section
variable {K : PySem.W.Frag}
end
end PL

/-! a text beside a dict: ==, in -/
namespace PLX
open PySem PySem.W PySem.Calls PyProof.Rows PySem.SeqAt
theorem str_eq_declines_ref (b : Str) (u : Tok) (l : Addr) (c : Value) (es : Array DictEntry) (ep : Nat) (dd : Option Addr) (sl : Array (Option Value)) :
    Meets (Builtin.«str.__eq__» ⟨[.str b u, .ref l], []⟩) (fun _ R s => s.heap.get? l = some { cls := c, dict := dd, data := .dict es ep, slots := sl } ∧ R (.ok (.ret .notImplemented)) s) :=
  .of_wp fun prog w A R s h => by obtain ⟨hp, g, d, tk, os⟩ := s; obtain ⟨hl, h⟩ := h; wp_walk using wpAny_loadPart' hl, wpAny_load hl; exact ⟨_, rfl, h⟩
/-- a plain dict stands at a -/
def DAt (s : Shared) (a : Addr) : Prop := s.TypeIs (.ref a) "dict" ∧ ∃ c es ep dd sl, s.heap.get? a = some { cls := c, dict := dd, data := .dict es ep, slots := sl }
theorem DAt.of {K : Type} [DecidableEq K] {prog : Program} {w : World} {knd : KeyKind prog w K} {s : Shared} {a : Addr} {kvs : List (K × Value)} (h : s.heap.DictOf knd a kvs) : DAt s a := by
  refine ⟨h.typeIs, ?_⟩
  obtain ⟨⟨c, dd, dt, sl⟩, es, ep, ho, _, hd, _⟩ := h
  simp only at hd
  subst hd
  exact ⟨_, _, _, _, _, ho⟩
section
variable {A : Around} {s : Shared}
theorem rc_str_dict {a : Addr} (b : Str) (u : Tok) (hd : DAt s a) (hu : A.units < cLine) : RcAt A s (.str b u) (.ref a) false := fun prog w E Q h => by
  obtain ⟨ha, c, es, ep, dd, sl, ho⟩ := hd
  refine rc_eq_decline_or (k := false) (typeIs_str s b u) ha (by decide) PySem.F.sub_dict_str PySem.F.slot_str_eq PySem.F.slot_dict_eq_refl
    (fun _ hq => call_meets PySem.F.slot_str_eq (typeIs_str s b u) PySem.F.entry_str_eq (PySem.F.args_str_eq_2 _ _) (str_eq_declines_ref b u a c es ep dd sl) ⟨ho, hq⟩)
    (fun Q' hq => wpAny_call_entry PySem.F.slot_dict_eq_refl ha PySem.F.entry_dict_eq ?_ (PySem.F.args_dict_eq_2 _ _))
    (fun _ hq => wpAny_of_eq (rfl : isSame (.str b u) (.ref a) = pure false) hq) (.inr hu) h
  show wpAny _ _ (Builtin.Dict.dictSlotArgs "__eq__" ⟨[.ref a, .str b u], []⟩ >>= _) _ _ s
  refine wpAny_bind ?_
  unfold Builtin.Dict.dictSlotArgs
  refine wpAny_bind (wpAny_notOrdered_dict ha ?_)
  show wpAny _ _ (pure (Value.ref a, Value.str b u)) _ _ s
  refine wpAny_pure ?_
  refine wpAny_bind (wpAny_isInstance (T := "str") (typeIs_str s b u) PySem.F.sub_str_dict ?_)
  simp only [Bool.not_false, if_true]
  exact wpAny_bind (wpAny_rule (wpAny_pure ⟨_, rfl, hq⟩))
theorem eqAt_str_dict {a : Addr} (b : Str) (u : Tok) (hd : DAt s a) (hu : A.units < cLine) : EqAt A s (.str b u) (.ref a) false := fun prog w E Q h => by
  unfold eqBool
  refine wpAny_holding ?_
  refine wpAny_ite_split (fun hab => absurd (eq_of_beq hab) nofun) (fun _ => ?_)
  exact wpAny_bind (rc_str_dict b u hd hu prog w E _ (wpAny_truthy_bool h))
end
end PLX
namespace PL
open PySem PySem.Spec PyProof.Rows L2 RZ
def rEqSD (K : PySem.W.Frag) : R2 := fun x y H Q => ∃ (z : Str) (b : Addr) (kb : List (Key × V)), x = .str z ∧ y = .ref b ∧ Rd H b (.dK kb) ∧ Q (.bl false) H
def rNotInSD (K : PySem.W.Frag) : R2 := fun x y H Q => ∃ (a b : Addr) (kb : List (Key × V)) (zs : List Str), x = .ref a ∧ y = .ref b ∧ Rd H a (.dK kb) ∧ SqL K H b (zs.map V.str) ∧ Q (.bl true) H
theorem vals_strs : ∀ {zs : List Str} {us : List Value}, Vals (zs.map V.str) us → ∀ u ∈ us, ∃ z t, u = .str z t
  | [], _, h, u, hu => by cases h; cases hu
  | z :: zs, _, h, u, hu => by
    cases h with
    | cons a b =>
      rcases List.mem_cons.mp hu with e | e
      · subst e
        obtain ⟨t, rfl⟩ := a
        exact ⟨z, t, rfl⟩
      · exact vals_strs b u e
section
variable {X : Cx} {K : PySem.W.Frag}
theorem op_eqSD (hK : X.K = K) (hu : X.A.units + 64 < cLine) : OpR X (compareOp .Eq) (rEqSD K) := by
  subst hK
  intro pins s σ H x y v u Q I rx ry h
  obtain ⟨z, b, kb, rfl, rfl, eb, q⟩ := h
  obtain ⟨t, rfl⟩ := rx
  obtain rfl : u = Value.ref b := ry
  obtain ⟨_, yb, vb, rb, ob⟩ := dk_rd I.hok eb
  exact PLX.rc_str_dict z t (PLX.DAt.of ob) (by omega) _ _ _ _ ⟨.bl false, H, I, rfl, q⟩
theorem op_notInSD (hK : X.K = K) (hu : X.A.units + 65 < cLine) : OpR X (compareOp .NotIn) (rNotInSD K) := by
  subst hK
  intro pins s σ H x y v u Q I rx ry h
  obtain ⟨a, b, kb, zs, rfl, rfl, ea, hl, q⟩ := h
  obtain rfl : v = Value.ref a := rx
  obtain rfl : u = Value.ref b := ry
  obtain ⟨_, ya, va, ra, oa⟩ := dk_rd I.hok ea
  obtain ⟨its, r1, p1, _⟩ := I.list hl
  refine SeqAt.notIn_listAt (fun _ => false) p1.isList (fun y hy => ?_) ⟨.bl true, H, I, ?_, q⟩
  · obtain ⟨z, t, rfl⟩ := vals_strs r1 y (by simpa using hy)
    exact PLX.eqAt_str_dict z t (PLX.DAt.of oa) (show X.A.units + 1 < cLine by omega)
  · show _ = Value.bool true
    simp
def rEqA (K : PySem.W.Frag) : R2 := fun x y H Q => rEqSD K x y H Q ∨ rEqU K x y H Q
def rNotInA (K : PySem.W.Frag) : R2 := fun x y H Q => rNotInSD K x y H Q ∨ rNotInD K x y H Q
theorem op_eqAK (hK : X.K = K) (hu : X.A.units + 64 < cLine) : OpR X (compareOp .Eq) (rEqA K) := OpR.or (op_eqSD hK hu) (op_eqK hK hu)
theorem op_notInAK (hK : X.K = K) (hu : X.A.units + 65 < cLine) : OpR X (compareOp .NotIn) (rNotInA K) := OpR.or (op_notInSD hK hu) (op_notInQK hK hu)
end
/-- x == d, x a text, d any -/
def oeqA : PyData → PyData → W Unit PyData
  | .str x, .dict es => wreq (isK es) (.bool false)
  | d, e => oeq d e
/-- x not in l, l a list of texts, x any -/
def onotinA : PyData → PyData → W Unit PyData
  | .dict es, .list ds => wopt (strsOf ds) fun _ => wreq (isK es) (.bool true)
  | d, e => onotinQ d e
section
variable {K : PySem.W.Frag}
theorem ok_eqA : OpOk K (rEqA K) .dat oeqA := fun B H x y d e hB hx hy P hp Q g => by
  unfold oeqA at hp
  split at hp
  · obtain ⟨hk, hp⟩ := hp
    obtain ⟨b, kb, rfl, h2, r2⟩ := sr_dic hB hk hy
    cases sr_str hx
    exact .inl ⟨_, b, kb, rfl, rfl, h2, fin_dat hB g (.bl _) hp⟩
  · exact .inr (ok_eq B H x y _ _ hB hx hy P hp Q g)
theorem ok_notinA : OpOk K (rNotInA K) .dat onotinA := fun B H x y d e hB hx hy P hp Q g => by
  unfold onotinA at hp
  split at hp
  · rename_i es ds
    obtain ⟨ys, hs, hk, hp2⟩ := wopt_inv hp
    obtain rfl := strsOf_eq hs
    obtain ⟨p1, xs, rfl, h1, r1⟩ := sr_lst hB hy
    obtain ⟨a, ka, rfl, h2, r2⟩ := sr_dic hB hk hx
    rw [strs_of r1] at h1
    exact .inl ⟨a, p1, ka, ys, rfl, rfl, h2, SqL.of h1, fin_dat hB g (.bl _) hp2⟩
  · exact .inr (ok_notinQ B H x y _ _ hB hx hy P hp Q g)
end
end PL

/-! methods that may raise; isinstance(e, (c1, c2)) in a clause -/
namespace PL
open PySem PySem.Spec PyProof.Rows L2 PLX
def rIsXT (K : PySem.W.Frag) (D a : Addr) (cls : Value) (d : Option Addr) : List V → Hp → VK → Prop := fun xs H Q => ∃ (tp : Addr) (cs : List V) (us : List Value) (b : Bool) (dd : Addr) (fs : List (Str × V)),
  xs = [.ref a, .ref tp] ∧ cls = .ref D ∧ d = some dd ∧ H dd = some (.xd fs) ∧ H tp = some (.tup cs) ∧ Paired ClsV cs us ∧ PySem.W.kitAny K (.ref D) us = some b ∧ Q (.bl b) H
theorem call_isXT {X : Cx} {a D : Addr} {oe : Obj} {cls : Value} {d : Option Addr} {pn : List (Addr × Obj)} (T : ExcC X.K D) (hz : Zc cls d oe) (hf : ∃ vs, oe.data = .fields vs) : CallR (X.suite a ((a, oe) :: pn)) (.builtin "isinstance") (rIsXT X.K D a cls d) := by
  intro pins s σ H xs us Q I r h
  obtain ⟨tp, cs, ws, b, dd, fs, rfl, rfl, rfl, ea, hT, k, e, q⟩ := h
  cases r with
  | cons rx rr =>
    cases rr with
    | cons rt rr =>
      cases rr
      cases rx
      cases (show _ = Value.ref tp from rt)
      obtain ⟨hget, _⟩ := I.pin (a, oe) (List.mem_append.mpr (.inl List.mem_cons_self))
      obtain ⟨vs, hv⟩ := hf
      have hx : ObjOk X.prog X.w H s.heap dd (.xd fs) := I.hok dd _ ea
      obtain ⟨mA, hns, _⟩ := hx
      obtain ⟨oD, ho, _⟩ := lookIn_ns hns
      have J : PySem.W.InstAt s.heap a oe D (some oD) := ⟨hget, hz.1, by unfold PySem.W.notCls; rw [hv] <;> rfl, by rw [hz.2]; exact ho⟩
      obtain ⟨_, its, rv, o, h1, h2, n, h3⟩ := (show ObjOk X.prog X.w H s.heap tp (.tup cs) from I.hok tp _ hT)
      have e3 := ClsV.all k rv
      subst e3
      obtain ⟨oc, od, dt, sl⟩ := o
      simp only at h2 h3
      subst h2 h3
      exact PySem.W.kia_tup (kitX_of T) I.kIn J h1 e (fun z => nomatch z) fun tk => ⟨.bl b, H, I.kept (t' := tk) fun _ _ z => z, rfl, q⟩
theorem kitAny2 {K : PySem.W.Frag} {t c1 c2 : Value} {b1 b2 : Bool} (h1 : PySem.W.kitOne K t c1 = some b1) (h2 : PySem.W.kitOne K t c2 = some b2) : PySem.W.kitAny K t [c1, c2] = some (b1 || b2) := by
  cases b1 with
  | true => exact kitAny_cons h1 (fun z => nomatch z) fun _ => rfl
  | false =>
    refine kitAny_cons h1 (fun _ => ?_) fun z => nomatch z
    cases b2 with
    | true => exact kitAny_cons h2 (fun z => nomatch z) fun _ => rfl
    | false => exact kitAny_cons h2 (fun _ => kitAny_nil) fun z => nomatch z
section
variable {S : Type} [Res S] {K : PySem.W.Frag} {C : Cf S} {B B' H H' : Hp} {s s' : S} {A : List Addr} {ρ ρ' : List PS} {σ : L2.St} {v : V} {d : PyData} {p : Addr} {Wx : WX}
  {te to ta tb : TE} {t tk : TA} {r : RK} {ks : List EK} {w wo wa wb : W S PyData} {wt : W S Bool} {ws : List (W S PyData)} {E : XK} {nm f m : Str} {n i j : Nat} {Cl D a dd : Addr} {es : List (PyData × PyData)}
theorem pxs_isiT {c1 c2 : V} {u1 u2 : Value} {b1 b2 : Bool} (k1 : ClsV c1 u1) (k2 : ClsV c2 u2) (h1 : PySem.W.kitOne K (.ref D) u1 = some b1) (h2 : PySem.W.kitOne K (.ref D) u2 = some b2) :
    PxS (S := S) K j a dd es (tCB (rIsXT K D a (.ref D) (some dd)) (tCons (tVar j) (tCons (tTup (tCons (tC c1) (tCons (tC c2) tNil))) tNil))) ρ (wpure (.bool (b1 || b2))) := fun C B H s A σ hw hl hx P hp Q q => by
  obtain ⟨g1, vs, g2, g3⟩ := id hx
  refine ⟨_, g1, (show 2 ≤ sizeLine by decide), fun p hp0 => ?_⟩
  have g := Grow.new (o := .tup [c1, c2]) hw.ex hp0
  refine ⟨p, [c1, c2], [u1, u2], b1 || b2, dd, vs, rfl, rfl, rfl, ?_, upd_same, .cons k1 (.cons k2 .nil), kitAny2 h1 h2, ?_⟩
  · rw [upd_ne]
    · exact hw.ex _ _ g2
    · intro z
      rw [z] at g2
      have := hw.ex _ _ g2
      rw [hp0] at this
      cases this
  · exact q _ _ _ _ s g.b (hw.grow g) (hl.grow hw g) (hx.mono g.b) (.bl _) hp
/-! ### A if c else B, a part of which may raise -/
theorem pxx_if {k : EK} {tt : L2.TT} (hc : Pt K tt ρ wt) (h1 : PxX K Wx ta k ρ wa) (h2 : PxX K Wx tb k ρ wb) : PxX K Wx (tIf tt ta tb) k ρ (wite wt wa wb) := fun C B H s A σ hw hl P hp Q q x =>
  hc C B H s A σ hw hl _ hp _ fun B1 b H1 s1 e1 w1 l1 p1 => by
    cases b with
    | true =>
      show ta σ H1 Q
      exact h1 C B1 H1 s1 A σ w1 l1 P p1 Q (fun B2 v H2 d s2 e2 w2 l2 r2 p2 => q B2 v H2 d s2 (e1.trans e2) w2 l2 r2 p2) fun B2 H2 s2 cls dd d e2 w2 l2 xc p2 => x B2 H2 s2 cls dd d (e1.trans e2) w2 l2 xc p2
    | false =>
      show tb σ H1 Q
      exact h2 C B1 H1 s1 A σ w1 l1 P p1 Q (fun B2 v H2 d s2 e2 w2 l2 r2 p2 => q B2 v H2 d s2 (e1.trans e2) w2 l2 r2 p2) fun B2 H2 s2 cls dd d e2 w2 l2 xc p2 => x B2 H2 s2 cls dd d (e1.trans e2) w2 l2 xc p2
/-! ### calls of methods that may raise -/
theorem callX {F : List PyData → W Unit PyData} {B1 H1 : Hp} {s1 : S} {vs : List V} {ds : List PyData} {P : PyData → Prop} {Q : VK} (hks : ∀ k ∈ ks, k = .dat ∨ k = .vw) (w1 : Hs C B1 H1 s1) (l1 : Sls K C B1 H1 A ρ σ) (r1 : ERs K C B1 H1 A ρ σ ks vs ds) (p1 : F ds () fun d _ => P d)
    (q : ∀ B' v H' d, Same B1 B' → Hs C B' H' s1 → Sls K C B' H' A ρ σ → Rp K B' v d → P d → Q v H')
    (x : ∀ B' H' cls dd d, Same B1 B' → Hs C B' H' s1 → Sls K C B' H' A ρ σ → XcOk K B' cls dd d → P d → Wx cls dd σ H') : spX K ks F vs H1 Q fun cls d H' => Wx cls d σ H' := by
  let C2 : Cf Unit := ⟨B1, H1, [], 0, fun a h => (by cases h), w1.ex⟩
  have gh : Same H1 (Gh C2 B1) := gh_all (C := C) rfl (fun a h => by cases h) w1 rfl
  have gr : ∀ {B' H' : Hp} {u : Unit}, Hs C2 B' H' u → Grow B1 H1 B' H' := fun {B' H' u} w' =>
    ⟨fun a o e => w'.fr a o e (by intro z; cases z), w'.eb, w'.ex, fun a o e => (w'.nb a o e).imp_right fun x => x.imp_right fun ⟨xs, x1, x2, _⟩ => ⟨xs, x1, x2⟩⟩
  refine ⟨C2, ds, (), fun d _ => P d, rfl, fun a h => (by cases h), args_of rfl gh w1 l1 (fun k m => ?_) (fun m => ?_) r1, p1, fun B' v H' d s' w' r' p' => ?_, fun B' H' s' cls dd d w' xc p' => ?_⟩
  · rcases hks k m with e | e <;> (subst e; exact ⟨nofun, nofun, nofun⟩)
  · rcases hks _ m with e | e <;> cases e
  · have g := gr w'
    exact q B' v H' d g.b (w1.grow g) (l1.grow w1 g) r' p'
  · have g := gr w'
    exact x B' H' cls dd d g.b (w1.grow g) (l1.grow w1 g) xc p'
def tMethX (C : Addr) (m : Str) (n : Nat) (sp : Sp) (Wx : WX) (to : TE) (t : TA) : TE := fun σ H Q => to σ H fun x H1 => ∃ a dx fs, x = .ref a ∧ H1 a = some (.ins C dx fs) ∧ fs.lookup m = none ∧ t σ H1 fun vs H2 => vs.length = n ∧ sp (.ref a :: vs) H2 Q fun cls d H' => Wx cls d σ H'
def tMethXK (C : Addr) (m : Str) (n : Nat) (idx : List Nat) (sp : Sp) (Wx : WX) (to : TE) (t : TA) : TE := fun σ H Q => to σ H fun x H1 => ∃ a dx fs, x = .ref a ∧ H1 a = some (.ins C dx fs) ∧ fs.lookup m = none ∧ t σ H1 fun zs H2 => zs.length = n ∧ sp (putP idx [] [.ref a] zs) H2 Q fun cls d H' => Wx cls d σ H'
theorem pxx_meth {F : List PyData → W Unit PyData} {k : EK} (hC : ClsNm K nm Cl) (hk : k = .dat ∨ k = .vw) (ho : Px K to k ρ wo) (ha : Pm K t ks ρ (wl ws)) (hks : ∀ k ∈ ks, k = .dat ∨ k = .vw := by simp) (hn : ks.length = n := by rfl) :
    PxX K Wx (tMethX Cl m n (spX K (k :: ks) F) Wx to t) .dat ρ (wbind wo fun o => wobj nm m o (wbind (wl ws) fun as => wlift (F (o :: as)))) := fun C B H s A σ hw hl P hp Q q x =>
  ho C B H s A σ hw hl _ hp _ fun B1 v1 H1 d1 s1 e1 w1 l1 r1 p1 => by
    have sr1 : SR K B1 H1 v1 d1 := by
      rcases hk with e | e
      · subst e; exact .rp r1
      · subst e; exact r1 B1 H1 s1 (Same.r _) w1 l1
    obtain ⟨a, dx, vs, rfl, h1, h2⟩ := meth_core hC w1.ex sr1 p1.1
    refine ⟨a, dx, vs, rfl, h1, h2, ?_⟩
    refine ha C B1 H1 s1 A σ w1 l1 _ p1.2 _ fun B2 vs2 H2 ds s2 e2 w2 l2 r2 p2 => ?_
    have r3 : ERs K C B2 H2 A ρ σ (k :: ks) (.ref a :: vs2) (d1 :: ds) := ⟨ER.later (by rcases hk with e | e <;> (subst e; exact nofun)) e2 r1, r2⟩
    refine ⟨by rw [r2.len.1, hn], callX (by
      intro k' hk'
      rcases List.mem_cons.mp hk' with e | e
      · rw [e]; exact hk
      · exact hks k' e) w2 l2 r3 p2 (fun B' v H' d e3 w3 l3 r3 p3 => q B' v H' d s2 ((e1.trans e2).trans e3) w3 l3 r3 p3) fun B' H' cls dd d e3 w3 l3 xc p3 => x B' H' s2 cls dd d ((e1.trans e2).trans e3) w3 l3 xc p3⟩
theorem pxx_methK {F : List PyData → W Unit PyData} {k : EK} {ks2 : List EK} {idx : List Nat} (hC : ClsNm K nm Cl) (hk : k = .dat ∨ k = .vw) (ho : Px K to k ρ wo) (ha : Pm K t ks2 ρ (wl ws)) (hi : pick idx (k :: ks2) = ks := by rfl) (hks : ∀ k ∈ ks, k = .dat ∨ k = .vw := by simp) (hn : ks2.length = n := by rfl) :
    PxX K Wx (tMethXK Cl m n idx (spX K ks F) Wx to t) .dat ρ (wbind wo fun o => wobj nm m o (wbind (wl ws) fun as => wlift (F (pick idx (o :: as))))) := fun C B H s A σ hw hl P hp Q q x =>
  ho C B H s A σ hw hl _ hp _ fun B1 v1 H1 d1 s1 e1 w1 l1 r1 p1 => by
    have sr1 : SR K B1 H1 v1 d1 := by
      rcases hk with e | e
      · subst e; exact .rp r1
      · subst e; exact r1 B1 H1 s1 (Same.r _) w1 l1
    obtain ⟨a, dx, vs, rfl, h1, h2⟩ := meth_core hC w1.ex sr1 p1.1
    refine ⟨a, dx, vs, rfl, h1, h2, ?_⟩
    refine ha C B1 H1 s1 A σ w1 l1 _ p1.2 _ fun B2 vs2 H2 ds s2 e2 w2 l2 r2 p2 => ?_
    have r3 : ERs K C B2 H2 A ρ σ (k :: ks2) (.ref a :: vs2) (d1 :: ds) := ⟨ER.later (by rcases hk with e | e <;> (subst e; exact nofun)) e2 r1, r2⟩
    have r4 := ers_pick r3 idx
    rw [hi] at r4
    have ev : putP idx [] [V.ref a] vs2 = pick idx (.ref a :: vs2) := by simp [putP]
    refine ⟨by rw [r2.len.1, hn], ?_⟩
    rw [ev]
    exact callX hks w2 l2 r4 p2 (fun B' v H' d e3 w3 l3 r3 p3 => q B' v H' d s2 ((e1.trans e2).trans e3) w3 l3 r3 p3) fun B' H' cls dd d e3 w3 l3 xc p3 => x B' H' s2 cls dd d ((e1.trans e2).trans e3) w3 l3 xc p3
end
section
variable {X : Cx} {C f : Addr} {fd : FuncData} {ps ks : List Str} {sp : Sp} {Wx : WX} {m : Str} {o e : Expr} {es : List Expr} {kws : List Keyword} {ta : TE} {t tk : TA} {apos pos : Pos} {pl : Sem Bool} {n : Nat} {g : Put}
theorem run_GX {pins : List (Addr × Obj)} {σ : L2.St} {H : Hp} {s : Shared} {Q : VK} {us ws : List Value} {vs zs : List V} (F : FnA X.prog X.w X.K X.mg X.base (L2.CX X.prog X.w) X.A f fd ps sp) (hb : CB X.K fd ps n ks g []) (tk : Takes X Wx) (I : Inv X pins σ H s) (r : Vals vs us) (rz : Vals zs ws) (l1 : vs.length = n) (l2 : zs.length = ks.length)
    (h : sp (g [] vs zs) H Q fun cls d H' => Wx cls d σ H') : wpAny (model X.prog X.w) X.A (call (.ref f) us (ks.zip ws)) (EP X pins σ Q) X.xe s := by
  obtain ⟨dU, rd, to⟩ := hb.to
  have r2 : Vals (g [] vs zs) (g dU us ws) := hb.rel RelV rd r rz
  refine wpAny_call (codeAny_mono (F.run X.stack s H ⟨us, ks.zip ws⟩ (g dU us ws) (g [] vs zs) Q _ I.env0 (to s us ws I.kIn (r.length.symm.trans l1) (rz.length.symm.trans l2)) r2 h) fun r s' hq => ?_)
  cases r with
  | error er => exact tk er s' (XE.of_call I (fun _ _ _ z => z) hq)
  | ok fl =>
    cases fl with
    | ret u => exact I.after hq
    | next => exact hq.elim
    | brk => exact hq.elim
    | cont => exact hq.elim
theorem pe_methX (he : PE X o ta) (c : Cls X.K C) (hm : Meth X.K C m f) (F : FnA X.prog X.w X.K X.mg X.base (L2.CX X.prog X.w) X.A f fd ps sp) (hb : CB X.K fd ps (n + 1) [] (fun _ a _ => a) []) (tk : Takes X Wx) (ha : PA X (e :: es) t)
    (hst : starEach (e :: es) X.env = (false, eval e X.env) :: starEach es X.env := by rfl) (hpl : (backTo pos (starEach es X.env)).any (·.1) = false := by rfl)
    (ht : eval (.Call (.Attribute o m apos) (e :: es) [] pos) X.env = (do
      let ov ← eval o X.env
      standAt apos.atName
      let (f, first) ← holding [ov] (getMethod ov m pl)
      callWith pos f first (backTo pos (starEach (e :: es) X.env)) (backToKw pos (keywordEach [] X.env))) := by rfl) :
    PE X (.Call (.Attribute o m apos) (e :: es) [] pos) (tMethX C m n sp Wx ta t) := by
  refine ⟨fun pins s σ H Q I h => ?_⟩
  refine PySem.W.methodCall_KW (pl := pl) (thn (he.run pins s σ H _ I h) fun u s1 ⟨x, H1, I1, rx, a, dx, fs, ex, ea, l, q⟩ => ?_) ht
  subst ex
  obtain rfl : u = Value.ref a := rx
  refine getmeth_ok I1 ea c hm l ?_
  refine PySem.W.callWith_K (first := [.ref a]) (h₀ := X.base) I.ok.mod.kin hm.kp (thn (ha.run pos pins s1 σ H1 _ I1 q) fun us s2 ⟨vs, H2, I2, r, q1, q2⟩ => ⟨I2.kIn, ?_⟩) hst hpl
  exact run_GX (ks := []) (us := .ref a :: us) (vs := .ref a :: vs) (ws := []) F hb tk I2 (.cons rfl r) .nil (by rw [List.length_cons, q1]) rfl q2
theorem pe_methXK {idx : List Nat} (he : PE X o ta) (c : Cls X.K C) (hm : Meth X.K C m f) (F : FnA X.prog X.w X.K X.mg X.base (L2.CX X.prog X.w) X.A f fd ps sp) (hb : CB X.K fd ps 1 ks (putP idx) []) (tk : Takes X Wx) (hkw : PK X kws t)
    (hall : (backToKw pos (keywordEach kws X.env)).all (·.1.isSome) = true := by rfl) (hks : (backToKw pos (keywordEach kws X.env)).filterMap (·.1) = ks := by rfl)
    (hpl : ((backTo pos (starEach [] X.env)).any (·.1) || (backToKw pos (keywordEach kws X.env)).any (·.1.isNone)) = false := by rfl)
    (ht : eval (.Call (.Attribute o m apos) [] kws pos) X.env = (do
      let ov ← eval o X.env
      standAt apos.atName
      let (f, first) ← holding [ov] (getMethod ov m pl)
      callWith pos f first (backTo pos (starEach [] X.env)) (backToKw pos (keywordEach kws X.env))) := by rfl) :
    PE X (.Call (.Attribute o m apos) [] kws pos) (tMethXK C m ks.length idx sp Wx ta t) := by
  refine ⟨fun pins s σ H Q I h => ?_⟩
  refine PySem.W.methodCall_KW (pl := pl) (thn (he.run pins s σ H _ I h) fun u s1 ⟨x, H1, I1, rx, a, dx, fs, ex, ea, l, q⟩ => ?_) ht
  subst ex
  obtain rfl : u = Value.ref a := rx
  refine getmeth_ok I1 ea c hm l ?_
  refine PySem.W.callWith_KW0 (first := [.ref a]) (h₀ := X.base) I.ok.mod.kin hm.kp hall (thn (hkw.run pos pins s1 σ H1 _ I1 q) fun ws s2 ⟨zs, H2, I2, rz, l2, q2⟩ => ⟨I2.kIn, ?_⟩) hpl
  rw [hks]
  exact run_GX (us := [.ref a]) (vs := [.ref a]) F hb tk I2 (.cons rfl .nil) rz rfl l2 q2
end
end PL

/-! tools for the plain laws: pure programs simplified; programs that draw -/
namespace PL
open PySem PySem.Spec PyProof.Rows L2
section
variable {S α β γ : Type} {m : W S α} {k : α → W S β} {h : β → W S γ} {a : α} {p : Prop}
/-- a condition, then m -/
def wgd (p : Prop) (m : W S α) : W S α := fun s Q => p ∧ m s Q
@[simp] theorem wbind_pure : wbind (wpure a) k = k a := (rfl)
@[simp] theorem wbind_bind : wbind (wbind m k) h = wbind m fun a => wbind (k a) h := (rfl)
@[simp] theorem wbind_fail : wbind (wfail : W S α) k = wfail := (rfl)
@[simp] theorem wbind_ret : wbind m wpure = m := (rfl)
@[simp] theorem wbind_gd : wbind (wgd p m) k = wgd p (wbind m k) := (rfl)
@[simp] theorem wcond_t {b : W S α} : wcond true m b = m := (rfl)
@[simp] theorem wcond_f {b : W S α} : wcond false b m = m := (rfl)
@[simp] theorem wreq_gd : wreq (S := S) p a = wgd p (wpure a) := (rfl)
theorem wgd_t (hp : p) : wgd p m = m := by
  funext s Q
  exact propext ⟨fun x => x.2, fun x => ⟨hp, x⟩⟩
@[simp] theorem wgd_true : wgd True m = m := wgd_t trivial
@[simp] theorem wlift_pure : wlift (S := S) (wpure a) = wpure a := (rfl)
@[simp] theorem wlift_fail : wlift (S := S) (wfail : W Unit α) = wfail := (rfl)
@[simp] theorem wlift_gd {m : W Unit α} : wlift (S := S) (wgd p m) = wgd p (wlift m) := (rfl)
@[simp] theorem wlift_bind {m : W Unit α} {k : α → W Unit β} : wlift (S := S) (wbind m k) = wbind (wlift m) fun a => wlift (k a) := (rfl)
@[simp] theorem wlift_lift {m : W Unit α} : wlift (S := S) (wlift (S := Unit) m) = wlift m := (rfl)
@[simp] theorem wlift_cond {c : Bool} {x y : W Unit α} : wlift (S := S) (wcond c x y) = wcond c (wlift x) (wlift y) := by cases c <;> rfl
@[simp] theorem wbind_cond {c : Bool} {x y : W S α} : wbind (wcond c x y) k = wcond c (wbind x k) (wbind y k) := by cases c <;> rfl
@[simp] theorem wopt_some {b : β} {f : β → W S α} : wopt (some b) f = f b := (rfl)
@[simp] theorem wopt_none {f : β → W S α} : wopt none f = wfail := (rfl)
@[simp] theorem toB_bool {b : Bool} : toB (S := S) (.bool b) = wpure b := (rfl)
@[simp] theorem wl_nil : wl (S := S) [] = wpure [] := (rfl)
@[simp] theorem wl_cons {w : W S PyData} {ws : List (W S PyData)} : wl (w :: ws) = wbind w fun d => wbind (wl ws) fun ds => wpure (d :: ds) := (rfl)
@[simp] theorem wite_eq {t : W S Bool} {x y : W S α} : wite t x y = wbind t fun c => wcond c x y := (rfl)
@[simp] theorem wand_eq {x y : W S Bool} : wand x y = wbind x fun c => wcond c y (wpure false) := (rfl)
@[simp] theorem wor_eq {x y : W S Bool} : wor x y = wbind x fun c => wcond c (wpure true) y := (rfl)
@[simp] theorem wnot_eq {x : W S Bool} : wnot x = wbind x fun c => wpure (!c) := (rfl)
@[simp] theorem wB_eq {x : W S PyData} : wB x = wbind x toB := (rfl)
@[simp] theorem wret_eq {x : W S PyData} : wret (α := α) x = wbind x fun d => wpure (.rt d) := (rfl)
@[simp] theorem wnx_eq : wnx (S := S) a = wpure (.nx a) := (rfl)
@[simp] theorem fthen_nx {k : α → W S PyData} : fthen (wpure (.nx a)) k = k a := (rfl)
@[simp] theorem fthen_rt {k : α → W S PyData} {d : PyData} : fthen (wpure (.rt d)) k = wpure d := (rfl)
@[simp] theorem fthen_bind {m : W S β} {g : β → W S (Fl α)} {k : α → W S PyData} : fthen (wbind m g) k = wbind m fun b => fthen (g b) k := (rfl)
@[simp] theorem fthen_gd {m : W S (Fl α)} {k : α → W S PyData} : fthen (wgd p m) k = wgd p (fthen m k) := (rfl)
@[simp] theorem fthen_fail {k : α → W S PyData} : fthen (wfail : W S (Fl α)) k = wfail := (rfl)
@[simp] theorem fthen_cond {c : Bool} {x y : W S (Fl α)} {k : α → W S PyData} : fthen (wcond c x y) k = wcond c (fthen x k) (fthen y k) := by cases c <;> rfl
@[simp] theorem fbind_nx {k : α → W S (Fl β)} : fbind (wpure (.nx a)) k = k a := (rfl)
@[simp] theorem fbind_rt {k : α → W S (Fl β)} {d : PyData} : fbind (wpure (.rt d)) k = wpure (.rt d) := (rfl)
@[simp] theorem fbind_bind {m : W S γ} {g : γ → W S (Fl α)} {k : α → W S (Fl β)} : fbind (wbind m g) k = wbind m fun b => fbind (g b) k := (rfl)
@[simp] theorem fbind_gd {m : W S (Fl α)} {k : α → W S (Fl β)} : fbind (wgd p m) k = wgd p (fbind m k) := (rfl)
@[simp] theorem fbind_fail {k : α → W S (Fl β)} : fbind (wfail : W S (Fl α)) k = wfail := (rfl)
@[simp] theorem fbind_cond {c : Bool} {x y : W S (Fl α)} {k : α → W S (Fl β)} : fbind (wcond c x y) k = wcond c (fbind x k) (fbind y k) := by cases c <;> rfl
theorem wcond_ite {c : Prop} [Decidable c] {x y : W S α} : wcond (decide c) x y = if c then x else y := by
  by_cases h : c
  · rw [if_pos h, decide_eq_true h]; rfl
  · rw [if_neg h, decide_eq_false h]; rfl
end
/-! ### programs that draw from the list deck -/
def Dk (n : Nat) (s : DL3) : Prop := 0 ≤ s.cnt ∧ s.cnt + n ≤ 1000000 ∧ s.cells.length ≤ 63
/-- at most n draws; what comes of it satisfies P -/
def Sp {α : Type} (n : Nat) (F : W DL3 α) (P : α → Prop) : Prop :=
  ∀ s, Dk n s → ∀ Q : α → DL3 → Prop, (∀ a s', P a → Dk 0 s' → s'.cnt ≤ s.cnt + n → Q a s') → F s Q
section
variable {α β : Type} {n m : Nat} {F : W DL3 α} {P : α → Prop} {R : β → Prop} {G : α → W DL3 β}
theorem Dk.mono {s : DL3} (h : Dk n s) (hm : m ≤ n) : Dk m s := ⟨h.1, by have := h.2.1; omega, h.2.2⟩
theorem Sp.pure {a : α} (h : P a) : Sp 0 (wpure a) P := fun s hs Q q => q a s h hs (by simp)
theorem Sp.bind (hF : Sp n F P) (hG : ∀ a, P a → Sp m (G a) R) : Sp (n + m) (wbind F G) R := fun s hs Q q =>
  hF s (hs.mono (Nat.le_add_right n m)) _ fun a s1 pa h1 c1 => hG a pa s1 ⟨h1.1, by have := hs.2.1; omega, h1.2.2⟩ Q fun b s2 rb h2 c2 => q b s2 rb h2 (by omega)
theorem Sp.mono {P' : α → Prop} (h : Sp n F P) (hn : n ≤ m) (hp : ∀ a, P a → P' a) : Sp m F P' := fun s hs Q q =>
  h s (hs.mono hn) Q fun a s' pa h' c' => q a s' (hp a pa) h' (by omega)
theorem Sp.gd {p : Prop} (hp : p) (h : Sp n F P) : Sp n (wgd p F) P := by rw [wgd_t hp]; exact h
theorem Sp.cond {c : Bool} {F' : W DL3 α} (h1 : c = true → Sp n F P) (h2 : c = false → Sp n F' P) : Sp n (wcond c F F') P := by
  cases c with
  | true => exact h1 rfl
  | false => exact h2 rfl
/-- a loop that never returns -/
theorem Sp.forn {f : PyData → α → W DL3 α} {I : α → Prop} : ∀ (it : List PyData) (a : α), I a → (∀ x ∈ it, ∀ a, I a → Sp n (f x a) I) → Sp (it.length * n) (wforn f it a) I
  | [], a, h, _ => (Sp.pure h).mono (by simp) fun _ z => z
  | x :: xs, a, h, hf => by
    have h1 := hf x List.mem_cons_self a h
    have h2 : ∀ a', I a' → Sp (xs.length * n) (wforn f xs a') I := fun a' ha' => Sp.forn xs a' ha' fun y hy => hf y (List.mem_cons_of_mem _ hy)
    exact (h1.bind h2).mono (by rw [List.length_cons, Nat.add_mul]; omega) fun _ z => z
/-- a comprehension -/
theorem Sp.map {f : PyData → W DL3 PyData} {R : PyData → PyData → Prop} : ∀ (it : List PyData), (∀ x ∈ it, Sp n (f x) (R x)) → Sp (it.length * n) (wmap f it) (fun ds => Paired R it ds)
  | [], _ => (Sp.pure .nil).mono (by simp) fun _ z => z
  | x :: xs, hf => by
    refine Sp.mono (Sp.bind (hf x List.mem_cons_self) fun d hd => Sp.bind (Sp.map xs fun y hy => hf y (List.mem_cons_of_mem _ hy)) fun ds hds => Sp.pure (P := fun es => Paired R (x :: xs) es) (.cons hd hds)) (by rw [List.length_cons, Nat.add_mul]; omega) fun _ z => z
theorem Sp.mapS {f : PyData → W DL3 PyData} {R : PyData → PyData → Prop} {it : List PyData} (hz : it.length < sizeLine) (hf : ∀ x ∈ it, Sp n (f x) (R x)) : Sp (it.length * n) (wmapS f it) (fun d => ∃ ds, d = .list ds ∧ Paired R it ds) := fun s hs Q q =>
  ⟨hz, Sp.map it hf s hs _ fun ds s' h1 h2 h3 => q _ s' ⟨ds, rfl, h1⟩ h2 h3⟩
/-- a comprehension with a test -/
theorem Sp.lc {f : PyData → W DL3 (Option PyData)} {R : PyData → Prop} : ∀ (it : List PyData), (∀ x ∈ it, Sp n (f x) (fun o => ∀ d, o = some d → R d)) → Sp (it.length * n) (wlc f it) (fun ds => ∀ d ∈ ds, R d)
  | [], _ => (Sp.pure (by simp)).mono (by simp) fun _ z => z
  | x :: xs, hf => by
    refine Sp.mono (Sp.bind (hf x List.mem_cons_self) fun o ho => Sp.bind (Sp.lc xs fun y hy => hf y (List.mem_cons_of_mem _ hy)) fun r hr => Sp.pure (P := fun ds => ∀ d ∈ ds, R d) ?_) (by rw [List.length_cons, Nat.add_mul]; omega) fun _ z => z
    cases o with
    | none => exact hr
    | some d =>
      intro e he
      rcases List.mem_cons.mp he with z | z
      · rw [z]; exact ho d rfl
      · exact hr e z
/-- a program without draws -/
theorem Sp.lift {F : W Unit α} (h : ∀ Q : α → Unit → Prop, (∀ a, P a → Q a ()) → F () Q) : Sp 0 (wlift F) P := fun s hs Q q => h _ fun a pa => q a s pa hs (by simp)
end
/-! the deck's own steps -/
theorem log2_of {i : Int} (h0 : 0 ≤ i) (h : i < 2 ^ 100) : i.natAbs.log2 < 1000 := by
  have h1 : i.natAbs < 2 ^ 100 := by omega
  have h2 : i.natAbs.log2 < 100 ∨ i.natAbs = 0 := by
    by_cases z : i.natAbs = 0
    · exact .inr z
    · exact .inl ((Nat.log2_lt z).mpr h1)
  rcases h2 with h2 | h2
  · omega
  · rw [h2]; decide
theorem mulOk {i j : Int} (h0 : 0 ≤ i) (h1 : i < 2 ^ 100) (h2 : 0 ≤ j) (h3 : j < 2 ^ 100) : CMulW i j := by
  have a := log2_of h0 h1
  have b := log2_of h2 h3
  unfold CMulW
  omega
theorem divOk {i j : Int} (h : 0 < j) (h1 : j < 2 ^ 100) : CDivA i j := ⟨by omega, by have := log2_of (Int.le_of_lt h) h1; omega⟩
/-! operators at what they meet -/
section
variable {i j : Int} {x y : Str} {ds es : List PyData}
theorem oadd_i : oadd (.int i) (.int j) = wpure (.int (i + j)) := (rfl)
theorem oadd_s : oadd (.str x) (.str y) = wgd (x.length + y.length ≤ sizeLine) (wpure (.str (x ++ y))) := (rfl)
theorem oadd_l : oadd (.list ds) (.list es) = wgd (ds.length + es.length ≤ sizeLine) (wpure (.list (ds ++ es))) := (rfl)
theorem oadd_t : oadd (.tuple ds) (.tuple es) = wgd (ds.length + es.length ≤ sizeLine) (wpure (.tuple (ds ++ es))) := (rfl)
theorem osub_i : osub (.int i) (.int j) = wpure (.int (i - j)) := (rfl)
theorem omul_i : omul (.int i) (.int j) = wgd (CMulW i j) (wpure (.int (i * j))) := (rfl)
theorem ofdiv_i : ofdiv (.int i) (.int j) = wgd (CDivA i j) (wpure (.int (i.fdiv j))) := (rfl)
theorem omod_i : omod (.int i) (.int j) = wgd (0 < j) (wpure (.int (i % j))) := (rfl)
theorem opow_i : opow (.int i) (.int j) = wgd (CPow i j) (wpure (.int (i ^ j.toNat))) := (rfl)
theorem oneg_i : oneg (.int i) = wpure (.int (-i)) := (rfl)
theorem olt_i : olt (.int i) (.int j) = wpure (.bool (decide (i < j))) := (rfl)
theorem olt_s : olt (.str x) (.str y) = wpure (.bool (decide (x.cps.toList < y.cps.toList))) := (rfl)
theorem ole_i : ole (.int i) (.int j) = wpure (.bool (decide (i ≤ j))) := (rfl)
theorem ogt_i : ogt (.int i) (.int j) = wpure (.bool (decide (j < i))) := (rfl)
theorem oge_i : oge (.int i) (.int j) = wpure (.bool (decide (j ≤ i))) := (rfl)
theorem oeq_i : oeq (.int i) (.int j) = wpure (.bool (decide (i = j))) := (rfl)
theorem oeq_s : oeq (.str x) (.str y) = wpure (.bool (decide (x = y))) := (rfl)
theorem one_s : one (.str x) (.str y) = wpure (.bool (!decide (x = y))) := (rfl)
theorem one_l0 : one (.list ds) (.list []) = wpure (.bool (!ds.isEmpty)) := (rfl)
theorem wrange1_i : wrange1 [.int i] = wgd (-(2 ^ 62) ≤ i ∧ i < 2 ^ 62) (wpure (rangeD 0 i.toNat)) := (rfl)
theorem oix_s : oix (.str x) (.int i) = wopt (atI x.cps.toList i) fun c => wgd (x.length ≤ sizeLine) (wpure (.str ⟨#[c]⟩)) := (rfl)
theorem osl_s {lo hi : Option Int} : osl (.str x) lo hi = wgd (x.length ≤ sizeLine) (wpure (.str (cutS x lo hi))) := (rfl)
theorem oix_l : oix (.list ds) (.int i) = wopt (atI ds i) wpure := (rfl)
end
/-! at a state -/
section
variable {α β : Type} {s : DL3} {Q : β → DL3 → Prop}
theorem at_cnt {k : PyData → W DL3 β} : wbind dkCnt k s Q = k (.int s.cnt) s Q := (rfl)
theorem at_mix {k : PyData → W DL3 β} : wbind dkMix k s Q = k (.int s.mix) s Q := (rfl)
theorem at_ne {k : Bool → W DL3 β} : wbind dkNe k s Q = (s.cells.length ≤ 1000000 ∧ k (!s.cells.isEmpty) s Q) := (rfl)
theorem at_pop {k : PyData → W DL3 β} : wbind dkPop k s Q = ∃ z, s.cells.getLast? = some z ∧ k (.int z) { s with cells := s.cells.dropLast } Q := (rfl)
theorem at_seti {c : Int} {k : Unit → W DL3 β} : wbind (dkSetCnt (wpure (.int c))) k s Q = k () { s with cnt := c } Q := (rfl)
theorem at_appi {z : Int} {k : Unit → W DL3 β} : wbind (dkApp (wpure (.int z))) k s Q = (s.cells.length < sizeLine ∧ k () { s with cells := s.cells ++ [z] } Q) := (rfl)
theorem dkApp_gd {p : Prop} {m : W DL3 PyData} {k : Unit → W DL3 β} (hp : p) : wbind (dkApp (wgd p m)) k = wbind (dkApp m) k := by rw [wgd_t hp]
theorem at_pure {a : β} : wpure a s Q = Q a s := (rfl)
theorem at_gd {p : Prop} {m : W DL3 β} : wgd p m s Q = (p ∧ m s Q) := (rfl)
end
/-! while -/
section
variable {S α : Type} {t : α → W S Bool} {k : α → W S α} {a a' : α}
theorem wwhilen_f (h : t a = wpure false) : wwhilen t k a = wpure a := by
  funext s Q
  refine propext ⟨fun ⟨n, hn⟩ => ?_, fun hq => ⟨1, ?_⟩⟩
  · cases n with
    | zero => exact hn.elim
    | succ n =>
      unfold wwhileN at hn
      rw [h] at hn
      exact hn
  · unfold wwhileN
    rw [h]
    exact hq
theorem wwhilen_t (h : t a = wpure true) (hk : k a = wpure a') : wwhilen t k a = wwhilen t k a' := by
  funext s Q
  have e : ∀ n, wwhileN t (fun a => wbind (k a) wnx) (n + 1) a = wwhileN t (fun a => wbind (k a) wnx) n a' := fun n => by
    show wbind (t a) (fun c => wcond c (fbind (wbind (k a) wnx) (wwhileN t (fun a => wbind (k a) wnx) n)) (wnx a)) = _
    rw [h, hk]
    rfl
  refine propext ⟨fun ⟨n, hn⟩ => ?_, fun ⟨n, hn⟩ => ⟨n + 1, by rw [e]; exact hn⟩⟩
  cases n with
  | zero => exact hn.elim
  | succ n => rw [e] at hn; exact ⟨n, hn⟩
end
/-- Euclid's loop on a pair of ints -/
theorem gcd_loop {S : Type} {t : PyData × PyData → W S Bool} {k : PyData × PyData → W S (PyData × PyData)} (ht : ∀ a b : Int, t (.int a, .int b) = wpure (decide (0 < b))) (hk : ∀ a b : Int, 0 < b → k (.int a, .int b) = wpure (.int b, .int (a % b))) :
    ∀ (b a : Nat), wwhilen t k (.int a, .int b) = wpure (.int (Nat.gcd a b), .int 0) := by
  intro b
  induction b using Nat.strongRecOn with
  | ind b ih =>
    intro a
    by_cases hb : b = 0
    · subst hb
      rw [wwhilen_f (by rw [ht]; rfl), Nat.gcd_zero_right]
      rfl
    · have h0 : (0 : Int) < b := by omega
      rw [wwhilen_t (a' := (.int b, .int ((a % b : Nat) : Int))) (by rw [ht, decide_eq_true h0]) (by rw [hk _ _ h0]; rfl)]
      rw [ih (a % b) (Nat.mod_lt _ (by omega)) b, Nat.gcd_comm a b, Nat.gcd_rec b a, Nat.gcd_comm]
end PL

/-! more tools for the plain laws -/
namespace PL
open PySem PySem.Spec PyProof.Rows L2
/-- F keeps the state; what comes of it satisfies P -/
def Ev {S α : Type} (F : W S α) (P : α → Prop) : Prop := ∀ s (Q : α → S → Prop), (∀ a, P a → Q a s) → F s Q
section
variable {S α β γ : Type} {F F' : W S α} {P P' : α → Prop} {R : β → Prop} {G : α → W S β} {a : α} {p : Prop} {c : Bool}
theorem Ev.pure (h : P a) : Ev (wpure (S := S) a) P := fun s Q q => q a h
theorem Ev.bind (hF : Ev F P) (hG : ∀ a, P a → Ev (G a) R) : Ev (wbind F G) R := fun s Q q => hF s _ fun a pa => hG a pa s Q q
theorem Ev.mono (h : Ev F P) (hp : ∀ a, P a → P' a) : Ev F P' := fun s Q q => h s Q fun a pa => q a (hp a pa)
theorem Ev.gd (hp : p) (h : Ev F P) : Ev (wgd p F) P := by rw [wgd_t hp]; exact h
theorem Ev.cond (h1 : c = true → Ev F P) (h2 : c = false → Ev F' P) : Ev (wcond c F F') P := by
  cases c with
  | true => exact h1 rfl
  | false => exact h2 rfl
theorem Ev.lift {F : W Unit α} (h : Ev F P) : Ev (wlift (S := S) F) P := fun s Q q => h () _ fun a pa => q a pa
theorem Ev.sp {F : W DL3 α} (h : Ev F P) : Sp 0 F P := fun s hs Q q => h s Q fun a pa => q a s pa hs (by simp)
theorem Ev.spl {F : W Unit α} (h : Ev F P) : Sp 0 (wlift F) P := Ev.sp (Ev.lift h)
/-- F comes to a -/
def Is {S α : Type} (F : W S α) (a : α) : Prop := Ev F (· = a)
theorem Is.pure : Is (wpure (S := S) a) a := Ev.pure rfl
theorem Is.bind {b : β} (hF : Is F a) (hG : Is (G a) b) : Is (wbind F G) b := Ev.bind hF fun _ e => by rw [e]; exact hG
theorem Is.lift {F : W Unit α} (h : Is F a) : Is (wlift (S := S) F) a := Ev.lift h
theorem Is.then (hF : Is F a) (hG : Ev (G a) R) : Ev (wbind F G) R := Ev.bind hF fun _ e => by rw [e]; exact hG
theorem Ev.map {f : PyData → W S PyData} {R : PyData → PyData → Prop} : ∀ (it : List PyData), (∀ x ∈ it, Ev (f x) (R x)) → Ev (wmap f it) (fun ds => Paired R it ds)
  | [], _ => Ev.pure .nil
  | x :: xs, hf => Ev.bind (hf x List.mem_cons_self) fun d hd => Ev.bind (Ev.map xs fun y hy => hf y (List.mem_cons_of_mem _ hy)) fun ds hds => Ev.pure (.cons hd hds)
theorem Is.map {ι : Type} {f : PyData → W S PyData} {e v : ι → PyData} : ∀ (xs : List ι), (∀ x ∈ xs, Is (f (e x)) (v x)) → Is (wmap f (xs.map e)) (xs.map v)
  | [], _ => Is.pure
  | x :: xs, h => Is.bind (h x List.mem_cons_self) (Is.bind (Is.map xs fun y hy => h y (List.mem_cons_of_mem _ hy)) Is.pure)
theorem Is.mapS {ι : Type} {f : PyData → W S PyData} {e v : ι → PyData} {xs : List ι} (hz : xs.length < sizeLine) (h : ∀ x ∈ xs, Is (f (e x)) (v x)) : Is (wmapS f (xs.map e)) (.list (xs.map v)) := fun s Q q =>
  ⟨by rw [List.length_map]; exact hz, Is.map xs h s _ fun _ z => by rw [z]; exact q _ rfl⟩
theorem Is.lc {ι : Type} {f : PyData → W S (Option PyData)} {e : ι → PyData} {v : ι → Option PyData} : ∀ (xs : List ι), (∀ x ∈ xs, Is (f (e x)) (v x)) → Is (wlc f (xs.map e)) (xs.filterMap v)
  | [], _ => Is.pure
  | x :: xs, h => by
    refine Is.bind (h x List.mem_cons_self) (Is.bind (Is.lc xs fun y hy => h y (List.mem_cons_of_mem _ hy)) ?_)
    rw [List.filterMap_cons]
    cases v x <;> exact Is.pure
theorem Is.lcS {ι : Type} {f : PyData → W S (Option PyData)} {e : ι → PyData} {v : ι → Option PyData} {xs : List ι} (hz : xs.length < sizeLine) (h : ∀ x ∈ xs, Is (f (e x)) (v x)) : Is (wlcS f (xs.map e)) (.list (xs.filterMap v)) := fun s Q q =>
  ⟨by rw [List.length_map]; exact hz, Is.lc xs h s _ fun _ z => by rw [z]; exact q _ rfl⟩
/-- a loop that passes -/
theorem Is.for_nx {ι : Type} {f : PyData → α → W S (Fl α)} {e : ι → PyData} {a : α} : ∀ (xs : List ι), (∀ x ∈ xs, Is (f (e x) a) (.nx a)) → Is (wfor f (xs.map e) a) (.nx a)
  | [], _ => Is.pure
  | x :: xs, h => by
    show Is (wbind (f (e x) a) _) _
    exact Is.bind (h x List.mem_cons_self) (Is.for_nx xs fun y hy => h y (List.mem_cons_of_mem _ hy))
theorem Is.lcSD {f : PyData → W S (Option PyData)} {v : PyData → Option PyData} {xs : List PyData} (hz : xs.length < sizeLine) (h : ∀ x ∈ xs, Is (f x) (v x)) : Is (wlcS f xs) (.list (xs.filterMap v)) := by
  have := Is.lcS (e := id) hz h
  rwa [List.map_id] at this
/-- a loop that appends for some -/
theorem Is.forn {ι : Type} {f : PyData → PyData → W S PyData} {e : ι → PyData} {v : ι → Option PyData} : ∀ (xs : List ι) (ds : List PyData), (∀ x ∈ xs, ∀ ds : List PyData, ds.length < sizeLine → Is (f (e x) (.list ds)) (.list (ds ++ (v x).toList))) → ds.length + xs.length ≤ sizeLine → Is (wforn f (xs.map e) (.list ds)) (.list (ds ++ xs.filterMap v))
  | [], ds, _, _ => by rw [List.filterMap_nil, List.append_nil]; exact Is.pure
  | x :: xs, ds, h, hz => by
    rw [List.length_cons] at hz
    refine Is.bind (h x List.mem_cons_self ds (by omega)) ?_
    have hl : (ds ++ (v x).toList).length ≤ ds.length + 1 := by
      rw [List.length_append]
      cases v x <;> simp
    have := Is.forn xs (ds ++ (v x).toList) (fun y hy => h y (List.mem_cons_of_mem _ hy)) (by omega)
    rw [List.append_assoc] at this
    rw [List.filterMap_cons]
    cases hv : v x with
    | none => rw [hv] at this; exact this
    | some d => rw [hv] at this; exact this
end
/-! programs that draw, once more -/
section
variable {α β : Type} {n m : Nat}
theorem Sp.is {F : W DL3 α} {a : α} {G : α → W DL3 β} {R : β → Prop} (hF : Is F a) (hG : Sp m (G a) R) : Sp m (wbind F G) R :=
  ((Sp.bind (Ev.sp hF) fun _ e => by rw [e]; exact hG)).mono (by omega) fun _ z => z
theorem Sp.ev {F : W DL3 α} {P : α → Prop} {G : α → W DL3 β} {R : β → Prop} (hF : Ev F P) (hG : ∀ a, P a → Sp m (G a) R) : Sp m (wbind F G) R :=
  (Sp.bind (Ev.sp hF) hG).mono (by omega) fun _ z => z
/-- a loop that appends one for each -/
theorem Sp.app {f : PyData → PyData → W DL3 PyData} {R : PyData → PyData → Prop} : ∀ (it : List PyData) (ds : List PyData), (∀ x ∈ it, ∀ ds : List PyData, ds.length < sizeLine → Sp n (f x (.list ds)) (fun d => ∃ e, d = .list (ds ++ [e]) ∧ R x e)) → ds.length + it.length ≤ sizeLine →
    Sp (it.length * n) (wforn f it (.list ds)) (fun d => ∃ es, d = .list (ds ++ es) ∧ Paired R it es)
  | [], ds, _, _ => (Sp.pure ⟨[], by rw [List.append_nil], .nil⟩).mono (by simp) fun _ z => z
  | x :: xs, ds, h, hz => by
    rw [List.length_cons] at hz
    refine Sp.mono (Sp.bind (h x List.mem_cons_self ds (by omega)) fun d hd => ?_) (show n + xs.length * n ≤ (x :: xs).length * n by rw [List.length_cons, Nat.add_mul]; omega) fun _ z => z
    obtain ⟨e, rfl, he⟩ := hd
    refine Sp.mono (Sp.app xs (ds ++ [e]) (fun y hy => h y (List.mem_cons_of_mem _ hy)) (by rw [List.length_append, List.length_singleton]; omega)) (Nat.le_refl _) fun d hd => ?_
    obtain ⟨es, rfl, hes⟩ := hd
    exact ⟨e :: es, by rw [List.append_assoc]; rfl, .cons he hes⟩
end
/-! places -/
theorem ixN_nat {n k : Nat} : ixN n (k : Int) = if k < n then some k else none := by
  unfold ixN
  rw [if_pos (by omega)]
  by_cases h : k < n
  · rw [if_pos (by omega), if_pos h]; rfl
  · rw [if_neg (by omega), if_neg h]
theorem atI_nat {α : Type} (xs : List α) (k : Nat) : atI xs (k : Int) = xs[k]? := by
  unfold atI
  rw [ixN_nat]
  by_cases h : k < xs.length
  · rw [if_pos h]; rfl
  · rw [if_neg h, List.getElem?_eq_none (by omega)]; rfl
theorem atI_zero {α : Type} (xs : List α) : atI xs 0 = xs[0]? := atI_nat xs 0
theorem cutD_to {α : Type} (xs : List α) (k : Nat) : cutD xs none (some (k : Int)) = xs.take k := by
  unfold cutD
  rw [HT.sIx_none, HT.sIx_nat, List.drop_zero, Nat.sub_zero]
  by_cases h : k ≤ xs.length
  · rw [Nat.min_eq_left h]
  · rw [Nat.min_eq_right (by omega), List.take_length, List.take_of_length_le (by omega)]
theorem cutD_from {α : Type} (xs : List α) (k : Nat) : cutD xs (some (k : Int)) none = xs.drop k := by
  unfold cutD
  rw [HT.sIx_none, HT.sIx_nat]
  by_cases h : k ≤ xs.length
  · rw [Nat.min_eq_left h, List.take_of_length_le (by rw [List.length_drop]; omega)]
  · rw [Nat.min_eq_right (by omega), List.drop_length, List.drop_of_length_le (by omega), List.take_nil]
theorem cutD_last {α : Type} (xs : List α) : cutD xs none (some (-1)) = xs.dropLast := by
  unfold cutD
  rw [HT.sIx_none, List.drop_zero, Nat.sub_zero]
  have e : HT.sIx xs.length xs.length (some (-1)) = xs.length - 1 := by
    simp only [HT.sIx]
    split <;> omega
  rw [e]
  rw [List.dropLast_eq_take]
theorem cutD_mem {α : Type} {xs : List α} {lo hi : Option Int} : ∀ x ∈ cutD xs lo hi, x ∈ xs := fun x h => List.mem_of_mem_drop (List.mem_of_mem_take h)
/-! neighbours in a row -/
def nxt {α : Type} : List α → List (α × α)
  | x :: y :: r => (x, y) :: nxt (y :: r)
  | _ => []
theorem zip_both {α : Type} : ∀ (xs : List α), List.zip xs.dropLast (xs.drop 1) = nxt xs
  | [] => rfl
  | [_] => rfl
  | x :: y :: r => by
    have := zip_both (y :: r)
    show (x, y) :: List.zip (y :: r).dropLast r = (x, y) :: nxt (y :: r)
    rw [← this]
    rfl
def pr2 (p : PyData × PyData) : PyData := .tuple [p.1, p.2]
theorem zipD_eq (xs ys : List PyData) : zipD xs ys = (List.zip xs ys).map pr2 := by
  unfold zipD pr2
  rw [List.zip, List.map_zipWith]
theorem nxt_map {α β : Type} (f : α → β) : ∀ xs : List α, nxt (xs.map f) = (nxt xs).map fun p => (f p.1, f p.2)
  | [] => rfl
  | [_] => rfl
  | x :: y :: r => by
    show (f x, f y) :: nxt ((y :: r).map f) = _
    rw [nxt_map f (y :: r)]
    rfl
theorem nxt_len {α : Type} : ∀ xs : List α, (nxt xs).length ≤ xs.length
  | [] => by simp [nxt]
  | [_] => by simp [nxt]
  | x :: y :: r => by
    have := nxt_len (y :: r)
    show (nxt (y :: r)).length + 1 ≤ (y :: r).length + 1
    omega
theorem nxt_pair {α : Type} {r : α → α → Prop} : ∀ {xs : List α}, xs.Pairwise r → ∀ p ∈ nxt xs, r p.1 p.2
  | [], _, _, h => by cases h
  | [_], _, _, h => by cases h
  | x :: y :: t, hp, p, h => by
    have hp := List.pairwise_cons.mp hp
    rcases List.mem_cons.mp h with e | h
    · rw [e]; exact hp.1 y List.mem_cons_self
    · exact nxt_pair hp.2 p h
theorem boolsOf_map : ∀ bs : List Bool, boolsOf (bs.map .bool) = some bs
  | [] => rfl
  | b :: bs => by
    show (boolsOf (bs.map .bool)).map (b :: ·) = _
    rw [boolsOf_map bs]; rfl
theorem strsOf_map : ∀ bs : List Str, strsOf (bs.map .str) = some bs
  | [] => rfl
  | b :: bs => by
    show (strsOf (bs.map .str)).map (b :: ·) = _
    rw [strsOf_map bs]; rfl
theorem oin_sl {x : Str} {ys : List Str} : oin (.str x) (.list (ys.map .str)) = wpure (.bool (decide (x ∈ ys))) := by
  show wopt (strsOf _) _ = _
  rw [strsOf_map]; rfl
theorem oin_s2 {x y z : Str} : oin (.str x) (.tuple [.str y, .str z]) = wpure (.bool (decide (x ∈ [y, z]))) := (rfl)
theorem oni_sl {x : Str} {ys : List Str} : onotin (.str x) (.list (ys.map .str)) = wpure (.bool (!decide (x ∈ ys))) := by
  show wopt (strsOf _) _ = _
  rw [strsOf_map]; rfl
theorem oall_b {bs : List Bool} : oall [.list (bs.map .bool)] = wpure (.bool (bs.all id)) := by
  show wopt (boolsOf _) _ = _
  rw [boolsOf_map]; rfl
theorem oany_b {bs : List Bool} : oany [.list (bs.map .bool)] = wpure (.bool (bs.any id)) := by
  show wopt (boolsOf _) _ = _
  rw [boolsOf_map]; rfl
theorem wseq_l {ds : List PyData} : wseq (.list ds) = wpure ds := (rfl)
theorem wseq_t {ds : List PyData} : wseq (.tuple ds) = wpure ds := (rfl)
theorem olen_l {ds : List PyData} : olen [.list ds] = wpure (.int ds.length) := (rfl)
theorem olen_t {ds : List PyData} : olen [.tuple ds] = wpure (.int ds.length) := (rfl)
theorem olen_s {z : Str} : olen [.str z] = wgd (z.length ≤ sizeLine) (wpure (.int z.length)) := (rfl)
theorem osl_l {ds : List PyData} {lo hi : Option Int} : osl (.list ds) lo hi = wpure (.list (cutD ds lo hi)) := (rfl)
theorem osl_t {ds : List PyData} {lo hi : Option Int} : osl (.tuple ds) lo hi = wpure (.tuple (cutD ds lo hi)) := (rfl)
theorem toI_g {S : Type} {i : Int} : toI (S := S) (.int i) = wpure (some i) := (rfl)
theorem wzip_l {a b : List PyData} : wzip [.list a, .list b] = wpure (zipD a b) := (rfl)
theorem wzip_t {a b : List PyData} : wzip [.tuple a, .tuple b] = wpure (zipD a b) := (rfl)
theorem otuple_l {a : List PyData} : otuple [.list a] = wpure (.tuple a) := (rfl)
theorem olist_l {a : List PyData} : olist [.list a] = wpure (.list a) := (rfl)
theorem w2_t {S α : Type} {a b : PyData} {k : PyData → PyData → W S α} : w2 (.tuple [a, b]) k = k a b := (rfl)
theorem w3_t {S α : Type} {a b c : PyData} {k : PyData → PyData → PyData → W S α} : w3 (.tuple [a, b, c]) k = k a b c := (rfl)
theorem rangeD_z (n : Nat) : rangeD 0 n = (List.range n).map fun k => .int (k : Int) := by
  unfold rangeD
  exact List.map_congr_left fun i _ => by rw [Int.zero_add]
theorem paired_map_left {α β γ : Type} {R : β → γ → Prop} {e : α → β} : ∀ {xs : List α} {ys : List γ}, Paired R (xs.map e) ys → Paired (fun x y => R (e x) y) xs ys
  | [], _, h => by cases h; exact .nil
  | x :: xs, _, h => by
    cases h with
    | cons h t => exact .cons h (paired_map_left t)
/-- each has a form -/
theorem paired_form {α β γ : Type} {f : α → γ → β} {P : α → γ → Prop} : ∀ {xs : List α} {ds : List β}, Paired (fun x d => ∃ v, d = f x v ∧ P x v) xs ds → ∃ ps : List (α × γ), ps.map (·.1) = xs ∧ ds = ps.map (fun p => f p.1 p.2) ∧ ∀ p ∈ ps, P p.1 p.2
  | [], _, h => by cases h; exact ⟨[], rfl, rfl, by simp⟩
  | x :: xs, _, h => by
    cases h with
    | cons h t =>
      obtain ⟨v, rfl, hv⟩ := h
      obtain ⟨ps, e1, rfl, h3⟩ := paired_form t
      refine ⟨(x, v) :: ps, by rw [List.map_cons, e1], rfl, fun p hp => ?_⟩
      rcases List.mem_cons.mp hp with e | hp
      · rw [e]; exact hv
      · exact h3 p hp
end PL

namespace Lw
open PySem PySem.Spec PyProof.Rows L2 PL
abbrev DS := DL3
def dkK : DKey := ⟨"items", "seed", "draws", by decide +kernel, by decide +kernel, by decide +kernel⟩
abbrev DR := DDs dkK

def topS (i : Nat) : Stmt := PySem.Challenge.pw_thawfield_k06_field_queries.main.body.getD i (.Pass ⟨0, 0, 0, 0⟩)
def tx_abc : Str := "abcdefghijklmnopqrstuvwxyz"
def tx_ice : Str := "ice"
def tx_spring : Str := "spring"
def tx_channel : Str := "channel"
def tx_never : Str := "never"
def tx_h334c4a : Str := "none"
def tx_field : Str := "field"
def tx_start : Str := "start"
def tx_width : Str := "width"
def tx_cell : Str := "cell"
def tx_at : Str := "at"
def tx_least : Str := "least"
def tx_most : Str := "most"
def tx_exactly : Str := "exactly"
def tx_remove : Str := "remove"
def tx_drop : Str := "drop"
def tx_undo : Str := "undo"
def tx_show : Str := "show"
def tx_count : Str := "count"
def tx_channels : Str := "channels"
def tx_name : Str := "name"
def tx_thickness : Str := "thickness"
def tx_unexpected : Str := "unexpected"
def tx_returned : Str := "returned"
def tx_h99a8e6 : Str := "UnknownName"
def tx_unknown : Str := "unknown"
def tx_neighbors : Str := "neighbors"
def tx_none : Str := ""
def tx_u41 : Str := "A"
def tx_zzzzzzzz : Str := "zzzzzzzz"
def tx_h3f7346 : Str := "ice a"
def tx_a : Str := "a"
abbrev s_is_name : Stmt := topS 9
abbrev s_is_integer : Stmt := topS 11
abbrev s_common_divisor : Stmt := topS 12
abbrev s_is_ascending : Stmt := topS 17
abbrev s_law_deck : Stmt := topS 23
abbrev s_law_draw : Stmt := topS 24
abbrev s_law_lowest : Stmt := topS 26
abbrev s_law_neighbors : Stmt := topS 30
abbrev s_is_rational : Stmt := topS 13
abbrev s_law_names : Stmt := topS 27
abbrev s_law_rational : Stmt := topS 28
abbrev s_law_breadth : Stmt := topS 31
abbrev s_is_positive : Stmt := topS 14
abbrev s_is_nonnegative : Stmt := topS 15
abbrev s_law_parts : Stmt := topS 29
abbrev s_are_nodes : Stmt := topS 18
abbrev s_is_channel : Stmt := topS 19
abbrev s_are_channels : Stmt := topS 20
abbrev s_InvalidNumber___init__ : Stmt := inClass (topS 5) 0
abbrev s_UnknownName___init__ : Stmt := inClass (topS 4) 0
abbrev s_Field_require_node : Stmt := inClass (topS 21) 3
abbrev s_Field_thickness : Stmt := inClass (topS 21) 4
abbrev s_Field_start : Stmt := inClass (topS 21) 5
abbrev s_Field_neighbors : Stmt := inClass (topS 21) 6
abbrev s_Field_width : Stmt := inClass (topS 21) 7
abbrev s_law_called : Stmt := topS 32
abbrev s_law_width_outcome : Stmt := topS 34
abbrev s_law_outcome : Stmt := topS 33
abbrev s_law_widths_correct : Stmt := topS 36
abbrev s_law_one_correct : Stmt := topS 35
abbrev s_InvalidField___init__ : Stmt := inClass (topS 3) 0
abbrev s_Field___init__ : Stmt := inClass (topS 21) 0
abbrev s_law : Stmt := topS 37
theorem sc_is_name : FnScope ["value", "letter"] ["value"] (defScope s_is_name) := ⟨rfl, rfl, rfl, by decide +kernel, rfl, by decide +kernel, by decide +kernel⟩
theorem sc_is_integer : FnScope ["value"] ["value"] (defScope s_is_integer) := ⟨rfl, rfl, rfl, by decide +kernel, rfl, by decide +kernel, by decide +kernel⟩
theorem sc_common_divisor : FnScope ["a", "b"] ["a", "b"] (defScope s_common_divisor) := ⟨rfl, rfl, rfl, by decide +kernel, rfl, by decide +kernel, by decide +kernel⟩
theorem sc_is_ascending : FnScope ["items", "previous", "current"] ["items"] (defScope s_is_ascending) := ⟨rfl, rfl, rfl, by decide +kernel, rfl, by decide +kernel, by decide +kernel⟩
theorem sc_law_deck : FnScope ["_law_script", "_law_given", "_law_seed", "_law_item"] ["_law_script"] (defScope s_law_deck) := ⟨rfl, rfl, rfl, by decide +kernel, rfl, by decide +kernel, by decide +kernel⟩
theorem sc_law_draw : FnScope ["_law_deck_here", "_law_count", "_law_mixed", "_law_turn", "_law_item"] ["_law_deck_here", "_law_count"] (defScope s_law_draw) := ⟨rfl, rfl, rfl, by decide +kernel, rfl, by decide +kernel, by decide +kernel⟩
theorem sc_law_lowest : FnScope ["_law_top", "_law_bottom", "_law_x", "_law_y"] ["_law_top", "_law_bottom"] (defScope s_law_lowest) := ⟨rfl, rfl, rfl, by decide +kernel, rfl, by decide +kernel, by decide +kernel⟩
theorem sc_law_neighbors : FnScope ["_law_parts_here", "_law_name", "_law_result", "_law_x", "_law_y", "_law_breadth_here"] ["_law_parts_here", "_law_name"] (defScope s_law_neighbors) := ⟨rfl, rfl, rfl, by decide +kernel, rfl, by decide +kernel, by decide +kernel⟩
theorem sc_is_rational : FnScope ["value", "numerator", "denominator"] ["value"] (defScope s_is_rational) := ⟨rfl, rfl, rfl, by decide +kernel, rfl, by decide +kernel, by decide +kernel⟩
theorem sc_law_names : FnScope ["_law_deck_here", "_law_count", "_law_letters", "_law_words", "_law_result", "_law_k", "_law_style", "_law_offset", "_law_place", "_law_letter", "_law_options", "_law_repeated"] ["_law_deck_here", "_law_count"] (defScope s_law_names) := ⟨rfl, rfl, rfl, by decide +kernel, rfl, by decide +kernel, by decide +kernel⟩
theorem sc_law_rational : FnScope ["_law_deck_here", "_law_minimum", "_law_options", "_law_style", "_law_small", "_law_large"] ["_law_deck_here", "_law_minimum"] (defScope s_law_rational) := ⟨rfl, rfl, rfl, by decide +kernel, rfl, by decide +kernel, by decide +kernel⟩
theorem sc_law_breadth : FnScope ["_law_parts_here", "_law_x", "_law_y", "_law_found", "_law_other", "_law_breadth_here"] ["_law_parts_here", "_law_x", "_law_y"] (defScope s_law_breadth) := ⟨rfl, rfl, rfl, by decide +kernel, rfl, by decide +kernel, by decide +kernel⟩
theorem sc_is_positive : FnScope ["value"] ["value"] (defScope s_is_positive) := ⟨rfl, rfl, rfl, by decide +kernel, rfl, by decide +kernel, by decide +kernel⟩
theorem sc_is_nonnegative : FnScope ["value"] ["value"] (defScope s_is_nonnegative) := ⟨rfl, rfl, rfl, by decide +kernel, rfl, by decide +kernel, by decide +kernel⟩
theorem sc_law_parts : FnScope ["_law_deck_here", "_law_names_here", "_law_ice", "_law_sources", "_law_k", "_law_ice_count", "_law_spring_count", "_law_density", "_law_links", "_law_name"] ["_law_deck_here"] (defScope s_law_parts) := ⟨rfl, rfl, rfl, by decide +kernel, rfl, by decide +kernel, by decide +kernel⟩
theorem sc_are_nodes : FnScope ["value", "is_allowed", "entry", "name", "number"] ["value", "is_allowed"] (defScope s_are_nodes) := ⟨rfl, rfl, rfl, by decide +kernel, rfl, by decide +kernel, by decide +kernel⟩
theorem sc_is_channel : FnScope ["value", "nodes", "a", "b", "width"] ["value", "nodes"] (defScope s_is_channel) := ⟨rfl, rfl, rfl, by decide +kernel, rfl, by decide +kernel, by decide +kernel⟩
theorem sc_are_channels : FnScope ["value", "nodes", "entry"] ["value", "nodes"] (defScope s_are_channels) := ⟨rfl, rfl, rfl, by decide +kernel, rfl, by decide +kernel, by decide +kernel⟩
theorem sc_UnknownName___init__ : FnScope ["self", "name"] ["self", "name"] (defScope s_UnknownName___init__) := ⟨rfl, rfl, rfl, by decide +kernel, rfl, by decide +kernel, by decide +kernel⟩
theorem sc_Field_require_node : FnScope ["self", "node"] ["self", "node"] (defScope s_Field_require_node) := ⟨rfl, rfl, rfl, by decide +kernel, rfl, by decide +kernel, by decide +kernel⟩
theorem sc_Field_thickness : FnScope ["self", "cell"] ["self", "cell"] (defScope s_Field_thickness) := ⟨rfl, rfl, rfl, by decide +kernel, rfl, by decide +kernel, by decide +kernel⟩
theorem sc_Field_start : FnScope ["self", "spring"] ["self", "spring"] (defScope s_Field_start) := ⟨rfl, rfl, rfl, by decide +kernel, rfl, by decide +kernel, by decide +kernel⟩
theorem sc_Field_neighbors : FnScope ["self", "node", "widths", "other"] ["self", "node"] (defScope s_Field_neighbors) := ⟨rfl, rfl, rfl, by decide +kernel, rfl, by decide +kernel, by decide +kernel⟩
theorem sc_Field_width : FnScope ["self", "a", "b"] ["self", "a", "b"] (defScope s_Field_width) := ⟨rfl, rfl, rfl, by decide +kernel, rfl, by decide +kernel, by decide +kernel⟩
theorem sc_law_called : FnScope ["_law_network", "_law_method", "_law_item", "_law_by_keyword"] ["_law_network", "_law_method", "_law_item", "_law_by_keyword"] (defScope s_law_called) := ⟨rfl, rfl, rfl, by decide +kernel, rfl, by decide +kernel, by decide +kernel⟩
theorem sc_law_width_outcome : FnScope ["_law_network", "_law_x", "_law_y", "_law_by_keyword", "_law_result", "e"] ["_law_network", "_law_x", "_law_y", "_law_by_keyword"] (defScope s_law_width_outcome) := ⟨rfl, rfl, rfl, by decide +kernel, rfl, by decide +kernel, by decide +kernel⟩
theorem sc_law_outcome : FnScope ["_law_network", "_law_method", "_law_item", "_law_by_keyword", "_law_result", "e"] ["_law_network", "_law_method", "_law_item", "_law_by_keyword"] (defScope s_law_outcome) := ⟨rfl, rfl, rfl, by decide +kernel, rfl, by decide +kernel, by decide +kernel⟩
theorem sc_law_widths_correct : FnScope ["_law_network", "_law_parts_here", "_law_items", "_law_names_here", "_law_x", "_law_y", "_law_missing", "_law_expected", "_law_item"] ["_law_network", "_law_parts_here", "_law_items", "_law_names_here"] (defScope s_law_widths_correct) := ⟨rfl, rfl, rfl, by decide +kernel, rfl, by decide +kernel, by decide +kernel⟩
theorem sc_law_one_correct : FnScope ["_law_network", "_law_parts_here", "_law_item", "_law_thicknesses", "_law_starts", "_law_unknown", "_law_expected", "_law_method", "_law_by_keyword", "_law_name", "_law_amount"] ["_law_network", "_law_parts_here", "_law_item"] (defScope s_law_one_correct) := ⟨rfl, rfl, rfl, by decide +kernel, rfl, by decide +kernel, by decide +kernel⟩
theorem sc_Field___init__ : FnScope ["self", "cells", "springs", "channels", "cell_names", "nodes", "a", "b", "width", "name", "thickness", "start"] ["self", "cells", "springs", "channels"] (defScope s_Field___init__) := ⟨rfl, rfl, rfl, by decide +kernel, rfl, by decide +kernel, by decide +kernel⟩
theorem sc_law : FnScope ["_law_script", "_law_deck_here", "_law_odd", "_law_built", "_law_turn", "_law_parts_here", "_law_network", "_law_names_here", "_law_near", "_law_items", "_law_before", "_law_row", "_law_name", "_law_item"] ["_law_script"] (defScope s_law) := ⟨rfl, rfl, rfl, by decide +kernel, rfl, by decide +kernel, by decide +kernel⟩
/-- what the top leaves -/
structure Env (K : PySem.W.Frag) (mg : Str → Option Value) (base : Heap) where
  sys : SysD base
  a_is_name : Addr
  fd_is_name : FuncData
  F_is_name : FunD K "is_name" "is_name" (defArgs s_is_name) (defBody s_is_name) (defScope s_is_name) [] [] a_is_name fd_is_name
  m_is_name : mg "is_name" = some (.ref a_is_name)
  a_is_integer : Addr
  fd_is_integer : FuncData
  F_is_integer : FunD K "is_integer" "is_integer" (defArgs s_is_integer) (defBody s_is_integer) (defScope s_is_integer) [] [] a_is_integer fd_is_integer
  m_is_integer : mg "is_integer" = some (.ref a_is_integer)
  a_common_divisor : Addr
  fd_common_divisor : FuncData
  F_common_divisor : FunD K "common_divisor" "common_divisor" (defArgs s_common_divisor) (defBody s_common_divisor) (defScope s_common_divisor) [] [] a_common_divisor fd_common_divisor
  m_common_divisor : mg "common_divisor" = some (.ref a_common_divisor)
  a_is_ascending : Addr
  fd_is_ascending : FuncData
  F_is_ascending : FunD K "is_ascending" "is_ascending" (defArgs s_is_ascending) (defBody s_is_ascending) (defScope s_is_ascending) [] [] a_is_ascending fd_is_ascending
  m_is_ascending : mg "is_ascending" = some (.ref a_is_ascending)
  a_law_deck : Addr
  fd_law_deck : FuncData
  F_law_deck : FunD K "_law_deck" "_law_deck" (defArgs s_law_deck) (defBody s_law_deck) (defScope s_law_deck) [] [] a_law_deck fd_law_deck
  m_law_deck : mg "_law_deck" = some (.ref a_law_deck)
  a_law_draw : Addr
  fd_law_draw : FuncData
  F_law_draw : FunD K "_law_draw" "_law_draw" (defArgs s_law_draw) (defBody s_law_draw) (defScope s_law_draw) [] [] a_law_draw fd_law_draw
  m_law_draw : mg "_law_draw" = some (.ref a_law_draw)
  a_law_lowest : Addr
  fd_law_lowest : FuncData
  F_law_lowest : FunD K "_law_lowest" "_law_lowest" (defArgs s_law_lowest) (defBody s_law_lowest) (defScope s_law_lowest) [] [] a_law_lowest fd_law_lowest
  m_law_lowest : mg "_law_lowest" = some (.ref a_law_lowest)
  a_law_neighbors : Addr
  fd_law_neighbors : FuncData
  F_law_neighbors : FunD K "_law_neighbors" "_law_neighbors" (defArgs s_law_neighbors) (defBody s_law_neighbors) (defScope s_law_neighbors) [] [] a_law_neighbors fd_law_neighbors
  m_law_neighbors : mg "_law_neighbors" = some (.ref a_law_neighbors)
  a_is_rational : Addr
  fd_is_rational : FuncData
  F_is_rational : FunD K "is_rational" "is_rational" (defArgs s_is_rational) (defBody s_is_rational) (defScope s_is_rational) [] [] a_is_rational fd_is_rational
  m_is_rational : mg "is_rational" = some (.ref a_is_rational)
  a_law_names : Addr
  fd_law_names : FuncData
  F_law_names : FunD K "_law_names" "_law_names" (defArgs s_law_names) (defBody s_law_names) (defScope s_law_names) [] [] a_law_names fd_law_names
  m_law_names : mg "_law_names" = some (.ref a_law_names)
  a_law_rational : Addr
  fd_law_rational : FuncData
  F_law_rational : FunD K "_law_rational" "_law_rational" (defArgs s_law_rational) (defBody s_law_rational) (defScope s_law_rational) [] [] a_law_rational fd_law_rational
  m_law_rational : mg "_law_rational" = some (.ref a_law_rational)
  a_law_breadth : Addr
  fd_law_breadth : FuncData
  F_law_breadth : FunD K "_law_breadth" "_law_breadth" (defArgs s_law_breadth) (defBody s_law_breadth) (defScope s_law_breadth) [] [] a_law_breadth fd_law_breadth
  m_law_breadth : mg "_law_breadth" = some (.ref a_law_breadth)
  a_is_positive : Addr
  fd_is_positive : FuncData
  F_is_positive : FunD K "is_positive" "is_positive" (defArgs s_is_positive) (defBody s_is_positive) (defScope s_is_positive) [] [] a_is_positive fd_is_positive
  m_is_positive : mg "is_positive" = some (.ref a_is_positive)
  a_is_nonnegative : Addr
  fd_is_nonnegative : FuncData
  F_is_nonnegative : FunD K "is_nonnegative" "is_nonnegative" (defArgs s_is_nonnegative) (defBody s_is_nonnegative) (defScope s_is_nonnegative) [] [] a_is_nonnegative fd_is_nonnegative
  m_is_nonnegative : mg "is_nonnegative" = some (.ref a_is_nonnegative)
  a_law_parts : Addr
  fd_law_parts : FuncData
  F_law_parts : FunD K "_law_parts" "_law_parts" (defArgs s_law_parts) (defBody s_law_parts) (defScope s_law_parts) [] [] a_law_parts fd_law_parts
  m_law_parts : mg "_law_parts" = some (.ref a_law_parts)
  a_are_nodes : Addr
  fd_are_nodes : FuncData
  F_are_nodes : FunD K "are_nodes" "are_nodes" (defArgs s_are_nodes) (defBody s_are_nodes) (defScope s_are_nodes) [] [] a_are_nodes fd_are_nodes
  m_are_nodes : mg "are_nodes" = some (.ref a_are_nodes)
  a_is_channel : Addr
  fd_is_channel : FuncData
  F_is_channel : FunD K "is_channel" "is_channel" (defArgs s_is_channel) (defBody s_is_channel) (defScope s_is_channel) [] [] a_is_channel fd_is_channel
  m_is_channel : mg "is_channel" = some (.ref a_is_channel)
  a_are_channels : Addr
  fd_are_channels : FuncData
  F_are_channels : FunD K "are_channels" "are_channels" (defArgs s_are_channels) (defBody s_are_channels) (defScope s_are_channels) [] [] a_are_channels fd_are_channels
  m_are_channels : mg "are_channels" = some (.ref a_are_channels)
  a_InvalidNumber___init__ : Addr
  fd_InvalidNumber___init__ : FuncData
  F_InvalidNumber___init__ : FunD K "__init__" "InvalidNumber.__init__" (defArgs s_InvalidNumber___init__) (defBody s_InvalidNumber___init__) (defScope s_InvalidNumber___init__) [] [] a_InvalidNumber___init__ fd_InvalidNumber___init__
  a_UnknownName___init__ : Addr
  fd_UnknownName___init__ : FuncData
  F_UnknownName___init__ : FunD K "__init__" "UnknownName.__init__" (defArgs s_UnknownName___init__) (defBody s_UnknownName___init__) (defScope s_UnknownName___init__) [] [] a_UnknownName___init__ fd_UnknownName___init__
  a_Field_require_node : Addr
  fd_Field_require_node : FuncData
  F_Field_require_node : FunD K "require_node" "Field.require_node" (defArgs s_Field_require_node) (defBody s_Field_require_node) (defScope s_Field_require_node) [] [] a_Field_require_node fd_Field_require_node
  a_Field_thickness : Addr
  fd_Field_thickness : FuncData
  F_Field_thickness : FunD K "thickness" "Field.thickness" (defArgs s_Field_thickness) (defBody s_Field_thickness) (defScope s_Field_thickness) [] [] a_Field_thickness fd_Field_thickness
  a_Field_start : Addr
  fd_Field_start : FuncData
  F_Field_start : FunD K "start" "Field.start" (defArgs s_Field_start) (defBody s_Field_start) (defScope s_Field_start) [] [] a_Field_start fd_Field_start
  a_Field_neighbors : Addr
  fd_Field_neighbors : FuncData
  F_Field_neighbors : FunD K "neighbors" "Field.neighbors" (defArgs s_Field_neighbors) (defBody s_Field_neighbors) (defScope s_Field_neighbors) [] [] a_Field_neighbors fd_Field_neighbors
  a_Field_width : Addr
  fd_Field_width : FuncData
  F_Field_width : FunD K "width" "Field.width" (defArgs s_Field_width) (defBody s_Field_width) (defScope s_Field_width) [] [] a_Field_width fd_Field_width
  a_law_called : Addr
  fd_law_called : FuncData
  F_law_called : FunD K "_law_called" "_law_called" (defArgs s_law_called) (defBody s_law_called) (defScope s_law_called) [] [] a_law_called fd_law_called
  m_law_called : mg "_law_called" = some (.ref a_law_called)
  a_law_width_outcome : Addr
  fd_law_width_outcome : FuncData
  F_law_width_outcome : FunD K "_law_width_outcome" "_law_width_outcome" (defArgs s_law_width_outcome) (defBody s_law_width_outcome) (defScope s_law_width_outcome) [] [] a_law_width_outcome fd_law_width_outcome
  m_law_width_outcome : mg "_law_width_outcome" = some (.ref a_law_width_outcome)
  a_law_outcome : Addr
  fd_law_outcome : FuncData
  F_law_outcome : FunD K "_law_outcome" "_law_outcome" (defArgs s_law_outcome) (defBody s_law_outcome) (defScope s_law_outcome) [] [] a_law_outcome fd_law_outcome
  m_law_outcome : mg "_law_outcome" = some (.ref a_law_outcome)
  a_law_widths_correct : Addr
  fd_law_widths_correct : FuncData
  F_law_widths_correct : FunD K "_law_widths_correct" "_law_widths_correct" (defArgs s_law_widths_correct) (defBody s_law_widths_correct) (defScope s_law_widths_correct) [] [] a_law_widths_correct fd_law_widths_correct
  m_law_widths_correct : mg "_law_widths_correct" = some (.ref a_law_widths_correct)
  a_law_one_correct : Addr
  fd_law_one_correct : FuncData
  F_law_one_correct : FunD K "_law_one_correct" "_law_one_correct" (defArgs s_law_one_correct) (defBody s_law_one_correct) (defScope s_law_one_correct) [] [] a_law_one_correct fd_law_one_correct
  m_law_one_correct : mg "_law_one_correct" = some (.ref a_law_one_correct)
  a_InvalidField___init__ : Addr
  fd_InvalidField___init__ : FuncData
  F_InvalidField___init__ : FunD K "__init__" "InvalidField.__init__" (defArgs s_InvalidField___init__) (defBody s_InvalidField___init__) (defScope s_InvalidField___init__) [] [] a_InvalidField___init__ fd_InvalidField___init__
  a_Field___init__ : Addr
  fd_Field___init__ : FuncData
  F_Field___init__ : FunD K "__init__" "Field.__init__" (defArgs s_Field___init__) (defBody s_Field___init__) (defScope s_Field___init__) [] [] a_Field___init__ fd_Field___init__
  a_law : Addr
  fd_law : FuncData
  F_law : FunD K "law" "law" (defArgs s_law) (defBody s_law) (defScope s_law) [] [] a_law fd_law
  m_law : mg "law" = some (.ref a_law)
  a_ZERO : Addr
  m_ZERO : mg "ZERO" = some (.ref a_ZERO)
  z_ZERO : ∀ B, Rp K B (.ref a_ZERO) (.tuple [.int 0, .int 1])
  t_LETTERS : Tok
  m_LETTERS : mg "LETTERS" = some (.str "abcdefghijklmnopqrstuvwxyz" t_LETTERS)
  t_MAX_LENGTH : Tok
  m_MAX_LENGTH : mg "MAX_LENGTH" = some (.int 8 t_MAX_LENGTH)
  cn_is_positive : ClsNm K "is_positive" a_is_positive
  cn_is_nonnegative : ClsNm K "is_nonnegative" a_is_nonnegative
  c_Field : Addr
  m_Field : mg "Field" = some (.ref c_Field)
  cn_Field : ClsNm K "Field" c_Field
  cls_Field : Cls K c_Field
  mk_Field : Mk K c_Field a_Field___init__
  na_Field_cells : NoAttr K c_Field "cells"
  na_Field_channels : NoAttr K c_Field "channels"
  na_Field_springs : NoAttr K c_Field "springs"
  na_Field_start_by_spring : NoAttr K c_Field "start_by_spring"
  na_Field_thickness_by_cell : NoAttr K c_Field "thickness_by_cell"
  na_Field_widths_by_node : NoAttr K c_Field "widths_by_node"
  me_Field_neighbors : Meth K c_Field "neighbors" a_Field_neighbors
  me_Field_require_node : Meth K c_Field "require_node" a_Field_require_node
  me_Field_start : Meth K c_Field "start" a_Field_start
  me_Field_thickness : Meth K c_Field "thickness" a_Field_thickness
  me_Field_width : Meth K c_Field "width" a_Field_width
  c_InvalidField : Addr
  m_InvalidField : mg "InvalidField" = some (.ref c_InvalidField)
  cn_InvalidField : ClsNm K "InvalidField" c_InvalidField
  ow_InvalidField : OwnX K c_InvalidField "ValueError.__init__"
  ii_InvalidField : PySem.W.findIn K (.ref c_InvalidField) "__init__" = some (some (.ref a_InvalidField___init__))
  ti_InvalidField : PySem.W.typeIn K (.ref a_InvalidField___init__) = some (.type "function")
  xf_InvalidField : XfC K c_InvalidField
  ec_InvalidField : ExcC K c_InvalidField
  c_InvalidNumber : Addr
  m_InvalidNumber : mg "InvalidNumber" = some (.ref c_InvalidNumber)
  cn_InvalidNumber : ClsNm K "InvalidNumber" c_InvalidNumber
  ow_InvalidNumber : OwnX K c_InvalidNumber "IndexError.__init__"
  ii_InvalidNumber : PySem.W.findIn K (.ref c_InvalidNumber) "__init__" = some (some (.ref a_InvalidNumber___init__))
  ti_InvalidNumber : PySem.W.typeIn K (.ref a_InvalidNumber___init__) = some (.type "function")
  xf_InvalidNumber : XfC K c_InvalidNumber
  ec_InvalidNumber : ExcC K c_InvalidNumber
  c_ThawError : Addr
  m_ThawError : mg "ThawError" = some (.ref c_ThawError)
  cn_ThawError : ClsNm K "ThawError" c_ThawError
  cr_ThawError : ClX.CRead K c_ThawError (.type "type")
  vi_ThawError : PySem.W.findCls K (.ref c_ThawError) (.type "type") "__init__" = some (.val (.builtin "ValueError.__init__"))
  c_UnknownName : Addr
  m_UnknownName : mg "UnknownName" = some (.ref c_UnknownName)
  cn_UnknownName : ClsNm K "UnknownName" c_UnknownName
  ow_UnknownName : OwnX K c_UnknownName "KeyError.__init__"
  ii_UnknownName : PySem.W.findIn K (.ref c_UnknownName) "__init__" = some (some (.ref a_UnknownName___init__))
  ti_UnknownName : PySem.W.typeIn K (.ref a_UnknownName___init__) = some (.type "function")
  xf_UnknownName : XfC K c_UnknownName
  ec_UnknownName : ExcC K c_UnknownName
  vi_IndexError : PySem.W.findCls K (.type "IndexError") (.type "type") "__init__" = some (.val (.builtin "IndexError.__init__"))
  vi_KeyError : PySem.W.findCls K (.type "KeyError") (.type "type") "__init__" = some (.val (.builtin "KeyError.__init__"))
  nf_InvalidField_part : PySem.W.findIn K (.ref c_InvalidField) "part" = some none
  nf_InvalidNumber_number : PySem.W.findIn K (.ref c_InvalidNumber) "number" = some none
  nf_UnknownName_name : PySem.W.findIn K (.ref c_UnknownName) "name" = some none
  ht_UnknownName_UnknownName : PySem.W.exmOne K (.ref c_UnknownName) (.ref c_UnknownName) = some true
  ko_UnknownName_InvalidNumber : PySem.W.kitOne K (.ref c_UnknownName) (.ref c_InvalidNumber) = some false
  ko_UnknownName_KeyError : PySem.W.kitOne K (.ref c_UnknownName) (.type "KeyError") = some true
  ko_UnknownName_ThawError : PySem.W.kitOne K (.ref c_UnknownName) (.ref c_ThawError) = some false
  b_IndexError : mg "IndexError" = none
  b_KeyError : mg "KeyError" = none
  b_abs : mg "abs" = none
  b_all : mg "all" = none
  b_any : mg "any" = none
  b_bool : mg "bool" = none
  b_dict : mg "dict" = none
  b_int : mg "int" = none
  b_isinstance : mg "isinstance" = none
  b_len : mg "len" = none
  b_list : mg "list" = none
  b_range : mg "range" = none
  b_repr : mg "repr" = none
  b_sorted : mg "sorted" = none
  b_str : mg "str" = none
  b_tuple : mg "tuple" = none
  b_zip : mg "zip" = none

section
variable {P : Program} {w : World} {K : PySem.W.Frag} {mg : Str → Option Value} {base : Heap}

def F_is_name (value : PyData) : W Unit PyData := (wite (wor (wnot (wB (wbind (wpure value) fun d => wlift (isTy "str" d)))) (wnot (wB (wbind (wpure (.int 1)) fun a => wbind (wbind (wl [(wpure value)]) fun as => wlift (olen as)) fun b => wbind (wlift (ole a b)) fun x => wbind (toB x) fun t => wcond t (wbind (wpure (.int 8)) fun c => wlift (ole b c)) (wpure (.bool false)))))) (wpure (.bool false)) (wbind (wl [(wbind (wbind (wpure value) fun d => wlift (wseq d)) fun it => wmapS (fun x => wbind (wpure x) fun letter_1 => (wbind (wpure letter_1) fun a => wbind (wpure (.str tx_abc)) fun b => wlift (oin a b))) it)]) fun as => wlift (oall as)))
theorem ok_is_name (T : Env K mg base) : FnG P w K mg base CX0 1 T.a_is_name T.fd_is_name ["value"] (spP K (S := Unit) .dat [.dat] (ap1 F_is_name)) := by
  refine okP T.F_is_name sc_is_name rfl fun cdv A outer s H E hr => ⟨_, (pss_cons (ps_if (PW.pt (pw_or (pt_not (pt_val (pe_callB (id := "isinstance") (call_isiK (K := K) rfl) (by rfl) T.b_isinstance (by decide +kernel) (pa_cons (pv 0) (pa_cons (pe_bltn (v := .ty "str") (by rfl) T.b_str (by decide +kernel) rfl) pa_nil))))) (pw_or1 (pt_not (pt_chain op_leU op_leU pe_int (pe_callB (id := "len") (call_lenK (K := K) rfl) (by rfl) T.b_len (by decide +kernel) (pa_cons (pv 0) pa_nil)) (pe_glob (v := .int 8) rfl T.m_MAX_LENGTH ⟨_, rfl⟩)))))) (pss_one (ps_ret pe_bl)) pss_nil) (pss_one (ps_ret (pe_callB (id := "all") (call_allK (K := K) rfl) (by rfl) T.b_all (by decide +kernel) (pa_cons (pe_lc (own := [("letter", 1)]) (g := (gName 1)) rfl sc_is_name.nd (pi_seqK (K := K) rfl (pv 0)) (blkOk_by (own := [("letter", 1)]) (N := ["value", "letter"]) (sc := defScope s_is_name) (by decide +kernel)) (fun _ _ _ _ _ => (pg_name (i := 1) sc_is_name.nd rfl (.inl rfl))) (fun _ _ _ _ _ => pts_nil) (fun _ _ _ _ _ => (pe_cmpR (op_inK (K := K) rfl hr.u1) (pv 1) (pe_glob (v := .str "abcdefghijklmnopqrstuvwxyz") rfl T.m_LETTERS ⟨_, rfl⟩) (by rfl)))) pa_nil))))), fun ds hl => ?_⟩
  match ds, hl with
  | [value], _ =>
    show Psr (S := Unit) K _ .dat [.dat value, .un] (F_is_name value)
    exact (psr_ifr (pt_or' (pt_not' (pt_B (Px.vw (px_isi (Px.vw (px_var rfl)))))) (pt_not' (pt_test (Px.vw (px_chain ok_le ok_le (Px.vw px_int) (Px.vw (px_cb ok_len (pm_cons (Px.vw (px_var rfl)) pm_nil))) (Px.vw px_int)))))) (psr_ret px_bl) (psr_ret (px_cb ok_all (pm_cons (Px.vw (Px.frz (px_lc1 (ρv := [.dat value, .un]) (ρ2 := [.dat value, .un]) (vs := [1]) go_n (pi_sq (pf_dat (px_var rfl))) (pg_n (ρ' := fun d => [.dat value, .dat d])) (fun letter_1 => (px_op ok_in (Px.vw (px_var rfl)) (Px.vw px_str)))))) pm_nil))))
def F_is_integer (value : PyData) : W Unit PyData := (wandV (wbind (wpure value) fun d => wlift (isTy "int" d)) (wnotV (wbind (wpure value) fun d => wlift (isTy "bool" d))))
theorem ok_is_integer (T : Env K mg base) : FnG P w K mg base CX0 1 T.a_is_integer T.fd_is_integer ["value"] (spP K (S := Unit) .dat [.dat] (ap1 F_is_integer)) := by
  refine okP T.F_is_integer sc_is_integer rfl fun cdv A outer s H E hr => ⟨_, (pss_one (ps_ret (pe_and (pe_callB (id := "isinstance") (call_isiK (K := K) rfl) (by rfl) T.b_isinstance (by decide +kernel) (pa_cons (pv 0) (pa_cons (pe_bltn (v := .ty "int") (by rfl) T.b_int (by decide +kernel) rfl) pa_nil))) (pe_one (pe_not (pe_callB (id := "isinstance") (call_isiK (K := K) rfl) (by rfl) T.b_isinstance (by decide +kernel) (pa_cons (pv 0) (pa_cons (pe_bltn (v := .ty "bool") (by rfl) T.b_bool (by decide +kernel) rfl) pa_nil)))))))), fun ds hl => ?_⟩
  match ds, hl with
  | [value], _ =>
    show Psr (S := Unit) K _ .dat [.dat value] (F_is_integer value)
    exact (psr_ret (px_andV (Px.vw (px_isi (Px.vw (px_var rfl)))) (px_notV (Px.vw (px_isi (Px.vw (px_var rfl)))))))
def F_common_divisor (a0 : PyData) (b0 : PyData) : W Unit PyData := (wbind (wwhilen (fun a_1 => (wB (wbind (wpure a_1.2) fun a => wbind (wpure (.int 0)) fun b => wlift (ogt a b)))) (fun a_1 => (wbind (wpure a_1.2) fun a_2 => (wbind (wbind (wpure a_1.1) fun a => wbind (wpure a_1.2) fun b => wlift (omod a b)) fun b_3 => (wpure (a_2, b_3))))) (a0, b0)) fun r_4 => (wpure r_4.1))
theorem ok_common_divisor (T : Env K mg base) : FnG P w K mg base CX0 1 T.a_common_divisor T.fd_common_divisor ["a", "b"] (spP K (S := Unit) .dat [.dat, .dat] (ap2 F_common_divisor)) := by
  refine okP T.F_common_divisor sc_common_divisor rfl fun cdv A outer s H E hr => ⟨_, (pss_cons (ps_while PassesOwn.never (pt_cmpR op_gt (pv 1) pe_int (nomark _)) (pss_cons (ps_par (i := 0) (j := 1) (by rfl) sc_common_divisor.nd rfl rfl (by decide) rfl rfl (pa_cons (pv 1) (pa_cons (pe_op op_mod (pv 0) (pv 1)) pa_nil)) (by rfl)) pss_nil)) (pss_one (ps_ret (pv 0)))), fun ds hl => ?_⟩
  match ds, hl with
  | [a0, b0], _ =>
    show Psr (S := Unit) K _ .dat [.dat a0, .dat b0] (F_common_divisor a0 b0)
    exact (psr_seqn (α := PyData × PyData) (env := fun a => [.dat a.1, .dat a.2]) (psn_while (α := PyData × PyData) (env := fun a => [.dat a.1, .dat a.2]) [true, true] (fun a_1 => (pt_test (Px.vw (px_op ok_gt (Px.vw (px_var rfl)) (Px.vw px_int))))) (fun a_1 => (psn_par (k1 := .dat) (k2 := .dat) (i := 0) (j := 1) (ρ' := fun a_2 b_3 => [.dat a_2, .dat b_3]) (px_var rfl) (px_op ok_mod (Px.vw (px_var rfl)) (Px.vw (px_var rfl))) (Nat.le_of_ble_eq_true rfl) (Nat.le_of_ble_eq_true rfl) (fun a_2 b_3 => (psn_nil [true, true]))))) (fun r_4 => (psr_ret (px_var rfl))))
def F_is_ascending (items : PyData) : W Unit PyData := (wbind (wl [(wbind (wbind (wl [(wbind (wpure items) fun a => wbind (wpure none) fun lo => wbind (wbind (wbind (wpure (.int 1)) fun a => wlift (oneg a)) toI) fun hi => wlift (osl a lo hi)), (wbind (wpure items) fun a => wbind (wbind (wpure (.int 1)) toI) fun lo => wbind (wpure none) fun hi => wlift (osl a lo hi))]) fun as => wlift (wzip as)) fun it => wmapS (fun x => wbind ((fun x => w2 x fun x1 x2 => wbind (wpure x1) fun a => wbind (wpure x2) fun b => wpure (a, b)) x) fun p_1 => (wbind (wpure p_1.1) fun a => wbind (wpure p_1.2) fun b => wlift (olt a b))) it)]) fun as => wlift (oall as))
theorem ok_is_ascending (T : Env K mg base) : FnG P w K mg base CX0 1 T.a_is_ascending T.fd_is_ascending ["items"] (spP K (S := Unit) .dat [.dat] (ap1 F_is_ascending)) := by
  refine okP T.F_is_ascending sc_is_ascending rfl fun cdv A outer s H E hr => ⟨_, (pss_one (ps_ret (pe_callB (id := "all") (call_allK (K := K) rfl) (by rfl) T.b_all (by decide +kernel) (pa_cons (pe_lc (own := [("previous", 1), ("current", 2)]) (g := (gTup K 2 (gCons (gName 1) (gCons (gName 2) gNil)))) rfl sc_is_ascending.nd (pi_zipK (K := K) rfl (by rfl) T.b_zip (pa_cons (pe_slice (sl_K (K := K) rfl) (pv 0) po_none (po_some (pe_un un_neg pe_int))) (pa_cons (pe_slice (sl_K (K := K) rfl) (pv 0) (po_some pe_int) po_none) pa_nil))) (blkOk_by (own := [("previous", 1), ("current", 2)]) (N := ["items", "previous", "current"]) (sc := defScope s_is_ascending) (by decide +kernel)) (fun _ _ _ _ _ => (pg_tupK (K := K) (n := 2) rfl rfl (pgs_cons (pg_name (i := 1) sc_is_ascending.nd rfl (.inl rfl)) (pgs_cons (pg_name (i := 2) sc_is_ascending.nd rfl (.inl rfl)) pgs_nil)) rfl rfl)) (fun _ _ _ _ _ => pts_nil) (fun _ _ _ _ _ => (pe_cmpR (op_ltK (K := K) rfl hr.units0) (pv 1) (pv 2) (nomark _)))) pa_nil)))), fun ds hl => ?_⟩
  match ds, hl with
  | [items], _ =>
    show Psr (S := Unit) K _ .dat [.dat items, .un, .un] (F_is_ascending items)
    exact (psr_ret (px_cb ok_all (pm_cons (Px.vw (Px.frz (px_lc1 (ρv := [.dat items, .un, .un]) (ρ2 := [.dat items, .un, .un]) (vs := [1, 2]) (go_t (gos_c go_n (gos_c go_n gos_n))) (pi_zip' (pm_cons (px_sl ok_sl (Px.vw (px_var rfl)) po_n (po_s (Px.vw (px_un ok_neg (Px.vw px_int))))) (pm_cons (px_sl ok_sl (Px.vw (px_var rfl)) (po_s (Px.vw px_int)) po_n) pm_nil))) (pg_2 (pg_n (ρ' := fun d => [.dat items, .dat d, .un])) (fun g0_3 => (pg_n (ρ' := fun d => [.dat items, .dat g0_3, .dat d])))) (fun p_1 => (px_op ok_lt (Px.vw (px_var rfl)) (Px.vw (px_var rfl))))))) pm_nil)))
def F_law_deck (script : PyData) : W Unit DL3 := (wbind (wbind (wl [(wbind (wpure script) fun a => wbind (wpure none) fun lo => wbind (wbind (wpure (.int 63)) toI) fun hi => wlift (oslScr a lo hi))]) fun as => wlift (olist as)) fun given_1 => (wbind (wbind (wpure (.int 37)) fun a => wbind (wbind (wl [(wpure given_1)]) fun as => wlift (olen as)) fun b => wlift (oadd a b)) fun seed_2 => (wbind (wbind (wbind (wpure given_1) fun d => wlift (wseq d)) fun it => wforn (fun x a_3 => wbind (wpure x) fun item_4 => (wbind (wbind (wbind (wbind (wbind (wpure a_3) fun a => wbind (wpure (.int 69621)) fun b => wlift (omul a b)) fun a => wbind (wbind (wpure item_4) fun a => wbind (wpure (.int 2147483587)) fun b => wlift (omod a b)) fun b => wlift (oadd a b)) fun a => wbind (wpure (.int 11)) fun b => wlift (oadd a b)) fun a => wbind (wpure (.int 2147483629)) fun b => wlift (omod a b)) fun seed_5 => (wpure seed_5))) it seed_2) fun r_6 => (wbind (wbind (wpure given_1) fun a => wlift (orev a)) fun a => wbind (wpure r_6) fun b => wbind (wpure (.int 0)) fun c => mkDk a b c))))
theorem ok_law_deck (T : Env K mg base) : FnG P w K mg base CX0 1 T.a_law_deck T.fd_law_deck ["_law_script"] (spNewD dkK K (apN F_law_deck)) := by
  exact okNewD (k := dkK) T.F_law_deck sc_law_deck rfl fun cdv A outer s H E hr => ⟨_, (pss_cons (ps_set (i := 1) sc_law_deck.nd rfl (.inl rfl) (pe_callTy (T := "list") (call_listK (K := K) rfl) (by rfl) T.b_list (by decide +kernel) (pa_cons (pe_slice (sl_K (K := K) rfl) (pv 0) po_none (po_some pe_int)) pa_nil))) (pss_cons (ps_set (i := 2) sc_law_deck.nd rfl (.inl rfl) (pe_op (op_addK (K := K) rfl) pe_int (pe_callB (id := "len") (call_lenK (K := K) rfl) (by rfl) T.b_len (by decide +kernel) (pa_cons (pv 1) pa_nil)))) (pss_cons (ps_for PassesOwn.never rfl (pi_seqK (K := K) rfl (pv 1)) (pg_name (i := 3) sc_law_deck.nd rfl (.inl rfl)) (pss_cons (ps_set (i := 2) sc_law_deck.nd rfl (.inl rfl) (pe_op op_mod (pe_op (op_addK (K := K) rfl) (pe_op (op_addK (K := K) rfl) (pe_op op_mulU (pv 2) pe_int) (pe_op op_mod (pv 3) pe_int)) pe_int) pe_int)) pss_nil)) (pss_one (ps_ret (pe_disp (pps_cons pe_str (pe_revLK (K := K) rfl (pv 1)) (pps_cons pe_str (pv 2) (pps_cons pe_str pe_int pps_nil))) rfl rfl (fun h => nomatch h) (by decide))))))), fun script => (show PskD dkK K _ [.vw script, .un, .un, .un] (F_law_deck script) from (psk_letD (i := 1) (ρ' := fun given_1 => [.vw script, .dat given_1, .un, .un]) (Px.frz (px_cb ok_list (pm_cons (Px.vw (Px.frz (px_sl ok_slScr (px_vw rfl) po_n (po_s (Px.vw px_int))))) pm_nil))) (Nat.le_of_ble_eq_true rfl) (fun given_1 => (psk_letD (i := 2) (ρ' := fun seed_2 => [.vw script, .dat given_1, .dat seed_2, .un]) (px_op ok_add (Px.vw px_int) (Px.vw (px_cb ok_len (pm_cons (Px.vw (px_var rfl)) pm_nil)))) (Nat.le_of_ble_eq_true rfl) (fun seed_2 => (psk_seqnD (α := PyData) (env := fun a => [.vw script, .dat given_1, .dat a, .un]) (psn_for (α := PyData) (env := fun a => [.vw script, .dat given_1, .dat a, .un]) [true, true, true, false] (pi_sq (pf_dat (px_var rfl))) (fun a_3 => (pg_n (ρ' := fun d => [.vw script, .dat given_1, .dat a_3, .dat d]))) (fun a_3 item_4 => (psn_let (i := 2) (ρ' := fun seed_5 => [.vw script, .dat given_1, .dat seed_5, .dat item_4]) (px_op ok_mod (Px.vw (px_op ok_add (Px.vw (px_op ok_add (Px.vw (px_op ok_mul (Px.vw (px_var rfl)) (Px.vw px_int))) (Px.vw (px_op ok_mod (Px.vw (px_var rfl)) (Px.vw px_int))))) (Px.vw px_int))) (Px.vw px_int)) (Nat.le_of_ble_eq_true rfl) (fun seed_5 => (psn_nil [true, true, true, false]))))) (fun r_6 => (psk_retD (k := dkK) (px_rev (Px.vw (px_var rfl))) (px_var rfl) px_int))))))))⟩

def F_law_draw (count : PyData) : W DS PyData := (wbind (dkSetCnt (wbind dkCnt fun a => wbind (wpure (.int 1)) fun b => wlift (oadd a b))) fun _ => (wbind dkCnt fun turn_1 => (wbind dkMix fun item_2 => (fthen (wite dkNe (wbind dkPop fun item_4 => (wite (wB (wbind (wpure item_4) fun a => wbind (wbind (wpure (.int 10)) fun a => wbind (wpure (.int 18)) fun b => wlift (opow a b)) fun b => wlift (oge a b))) (wret (wbind (dkApp (wbind (wpure item_4) fun a => wbind (wpure count) fun b => wlift (ofdiv a b))) fun _ => (wbind (wpure item_4) fun a => wbind (wpure count) fun b => wlift (omod a b)))) (wbind (wbind (wpure item_4) fun a => wbind dkMix fun b => wlift (oadd a b)) fun item_5 => (wnx item_5)))) (wnx item_2)) fun item_3 => (wbind (wbind (wbind (wbind (wbind (wbind (wpure item_3) fun a => wbind (wpure (.int 2147483579)) fun b => wlift (omod a b)) fun a => wbind (wbind (wbind (wpure (.int 48271)) fun a => wbind (wpure turn_1) fun b => wlift (omul a b)) fun a => wbind (wpure turn_1) fun b => wlift (omul a b)) fun b => wlift (oadd a b)) fun a => wbind (wpure (.int 29)) fun b => wlift (oadd a b)) fun a => wbind (wpure (.int 40692)) fun b => wlift (omul a b)) fun a => wbind (wpure (.int 2147483647)) fun b => wlift (omod a b)) fun mixed_6 => (wbind (wbind (wbind (wbind (wbind (wpure mixed_6) fun a => wbind (wpure mixed_6) fun b => wlift (omul a b)) fun a => wbind (wbind (wpure (.int 104729)) fun a => wbind (wpure turn_1) fun b => wlift (omul a b)) fun b => wlift (oadd a b)) fun a => wbind (wpure (.int 13)) fun b => wlift (oadd a b)) fun a => wbind (wpure (.int 2147483587)) fun b => wlift (omod a b)) fun mixed_7 => (wbind (wbind (wbind (wbind (wbind (wpure mixed_7) fun a => wbind (wpure (.int 39373)) fun b => wlift (omul a b)) fun a => wbind (wbind (wpure mixed_7) fun a => wbind (wpure (.int 11)) fun b => wlift (ofdiv a b)) fun b => wlift (oadd a b)) fun a => wbind (wpure (.int 2147483563)) fun b => wlift (omod a b)) fun a => wbind (wpure (.int 64)) fun b => wlift (ofdiv a b)) fun a => wbind (wpure count) fun b => wlift (omod a b))))))))
theorem ok_law_draw (T : Env K mg base) : FnG P w K mg base CX0 1 T.a_law_draw T.fd_law_draw ["_law_deck_here", "_law_count"] (spP K (S := DR) .dat [.dk, .dat] (apD (ap1 F_law_draw))) := by
  refine okP T.F_law_draw sc_law_draw rfl fun cdv A outer s H E hr => ⟨_, (pss_cons (ps_asg (pe_op (op_addK (K := K) rfl) (pe_ix (ix_K (K := K) rfl hr.u1) (pv 0) pe_str (fun _ _ => rfl)) pe_int) (pg_sub (pv 0) pe_str (set_dict hr.u1))) (pss_cons (ps_par (i := 3) (j := 4) (by rfl) sc_law_draw.nd rfl rfl (by decide) rfl rfl (pa_cons (pe_ix (ix_K (K := K) rfl hr.u1) (pv 0) pe_str (fun _ _ => rfl)) (pa_cons (pe_ix (ix_K (K := K) rfl hr.u1) (pv 0) pe_str (fun _ _ => rfl)) pa_nil)) (by rfl)) (pss_cons (ps_if (pt_cmpR (op_neK (K := K) rfl hr.units0) (pe_ix (ix_K (K := K) rfl hr.u1) (pv 0) pe_str (fun _ _ => rfl)) (pe_lst pa_nil) (nomark _)) (pss_cons (ps_set (i := 4) sc_law_draw.nd rfl (.inl rfl) (pe_popK (K := K) rfl (pe_ix (ix_K (K := K) rfl hr.u1) (pv 0) pe_str (fun _ _ => rfl)))) (pss_cons (ps_if (pt_cmpR op_ge (pv 4) (pe_op op_pow pe_int pe_int) (nomark _)) (pss_cons (ps_expr (pe_appendK (K := K) rfl (pe_ix (ix_K (K := K) rfl hr.u1) (pv 0) pe_str (fun _ _ => rfl)) (pe_op op_fdivA (pv 4) (pv 1)))) (pss_one (ps_ret (pe_op op_mod (pv 4) (pv 1))))) pss_nil) (pss_cons (ps_set (i := 4) sc_law_draw.nd rfl (.inl rfl) (pe_op (op_addK (K := K) rfl) (pv 4) (pe_ix (ix_K (K := K) rfl hr.u1) (pv 0) pe_str (fun _ _ => rfl)))) pss_nil))) pss_nil) (pss_cons (ps_set (i := 2) sc_law_draw.nd rfl (.inl rfl) (pe_op op_mod (pe_op op_mulU (pe_op (op_addK (K := K) rfl) (pe_op (op_addK (K := K) rfl) (pe_op op_mod (pv 4) pe_int) (pe_op op_mulU (pe_op op_mulU pe_int (pv 3)) (pv 3))) pe_int) pe_int) pe_int)) (pss_cons (ps_set (i := 2) sc_law_draw.nd rfl (.inl rfl) (pe_op op_mod (pe_op (op_addK (K := K) rfl) (pe_op (op_addK (K := K) rfl) (pe_op op_mulU (pv 2) (pv 2)) (pe_op op_mulU pe_int (pv 3))) pe_int) pe_int)) (pss_one (ps_ret (pe_op op_mod (pe_op op_fdivA (pe_op op_mod (pe_op (op_addK (K := K) rfl) (pe_op op_mulU (pv 2) pe_int) (pe_op op_fdivA (pv 2) pe_int)) pe_int) pe_int) (pv 1))))))))), fun ds hl => ?_⟩
  match ds, hl with
  | [_, count], _ =>
    show Psr (S := DR) K _ .dat [.dk, .dat count, .un, .un, .un] (F_law_draw count)
    exact (psr_ddSet (k := dkK) rfl (px_op ok_add (Px.vw (px_ddCnt (k := dkK) rfl)) (Px.vw px_int)) (psr_par (k1 := .dat) (k2 := .dat) (i := 3) (j := 4) (ρ' := fun turn_1 item_2 => [.dk, .dat count, .un, .dat turn_1, .dat item_2]) (px_ddCnt (k := dkK) rfl) (px_ddMix (k := dkK) rfl) (Nat.le_of_ble_eq_true rfl) (Nat.le_of_ble_eq_true rfl) (fun turn_1 item_2 => (psr_seq (α := PyData) (env := fun a => [.dk, .dat count, .un, .dat turn_1, .dat a]) (pst_if (pt_ddNe (k := dkK) rfl) (pst_let (i := 4) (ρ' := fun item_4 => [.dk, .dat count, .un, .dat turn_1, .dat item_4]) (px_ddPop (k := dkK) rfl) (Nat.le_of_ble_eq_true rfl) (fun item_4 => (pst_ifr (pt_test (Px.vw (px_op ok_ge (Px.vw (px_var rfl)) (Px.vw (px_op ok_pow (Px.vw px_int) (Px.vw px_int)))))) (psr_ddApp (k := dkK) rfl (px_op ok_fdiv (Px.vw (px_var rfl)) (Px.vw (px_var rfl))) (psr_ret (px_op ok_mod (Px.vw (px_var rfl)) (Px.vw (px_var rfl))))) (pst_let (i := 4) (ρ' := fun item_5 => [.dk, .dat count, .un, .dat turn_1, .dat item_5]) (px_op ok_add (Px.vw (px_var rfl)) (Px.vw (px_ddMix (k := dkK) rfl))) (Nat.le_of_ble_eq_true rfl) (fun item_5 => (pst_nil [true, true, false, true, true])))))) (pst_nil [true, true, false, true, true])) (fun item_3 => (psr_let (i := 2) (ρ' := fun mixed_6 => [.dk, .dat count, .dat mixed_6, .dat turn_1, .dat item_3]) (px_op ok_mod (Px.vw (px_op ok_mul (Px.vw (px_op ok_add (Px.vw (px_op ok_add (Px.vw (px_op ok_mod (Px.vw (px_var rfl)) (Px.vw px_int))) (Px.vw (px_op ok_mul (Px.vw (px_op ok_mul (Px.vw px_int) (Px.vw (px_var rfl)))) (Px.vw (px_var rfl)))))) (Px.vw px_int))) (Px.vw px_int))) (Px.vw px_int)) (Nat.le_of_ble_eq_true rfl) (fun mixed_6 => (psr_let (i := 2) (ρ' := fun mixed_7 => [.dk, .dat count, .dat mixed_7, .dat turn_1, .dat item_3]) (px_op ok_mod (Px.vw (px_op ok_add (Px.vw (px_op ok_add (Px.vw (px_op ok_mul (Px.vw (px_var rfl)) (Px.vw (px_var rfl)))) (Px.vw (px_op ok_mul (Px.vw px_int) (Px.vw (px_var rfl)))))) (Px.vw px_int))) (Px.vw px_int)) (Nat.le_of_ble_eq_true rfl) (fun mixed_7 => (psr_ret (px_op ok_mod (Px.vw (px_op ok_fdiv (Px.vw (px_op ok_mod (Px.vw (px_op ok_add (Px.vw (px_op ok_mul (Px.vw (px_var rfl)) (Px.vw px_int))) (Px.vw (px_op ok_fdiv (Px.vw (px_var rfl)) (Px.vw px_int))))) (Px.vw px_int))) (Px.vw px_int))) (Px.vw (px_var rfl)))))))))))))
def F_law_lowest (top : PyData) (bottom : PyData) : W Unit PyData := (wbind (wbind (wl [(wpure top)]) fun as => wlift (oabs as)) fun x_1 => (wbind (wpure bottom) fun y_2 => (wbind (wwhilen (fun a_3 => (wB (wbind (wpure a_3.2) fun a => wbind (wpure (.int 0)) fun b => wlift (ogt a b)))) (fun a_3 => (wbind (wpure a_3.2) fun x_4 => (wbind (wbind (wpure a_3.1) fun a => wbind (wpure a_3.2) fun b => wlift (omod a b)) fun y_5 => (wpure (x_4, y_5))))) (x_1, y_2)) fun r_6 => (wbind (wl [(wbind (wpure top) fun a => wbind (wpure r_6.1) fun b => wlift (ofdiv a b)), (wbind (wpure bottom) fun a => wbind (wpure r_6.1) fun b => wlift (ofdiv a b))]) fun as => wpure (PyData.tuple as)))))
theorem ok_law_lowest (T : Env K mg base) : FnG P w K mg base CX0 1 T.a_law_lowest T.fd_law_lowest ["_law_top", "_law_bottom"] (spP K (S := Unit) .dat [.dat, .dat] (ap2 F_law_lowest)) := by
  refine okP T.F_law_lowest sc_law_lowest rfl fun cdv A outer s H E hr => ⟨_, (pss_cons (ps_par (i := 2) (j := 3) (by rfl) sc_law_lowest.nd rfl rfl (by decide) rfl rfl (pa_cons (pe_callB (id := "abs") call_absK (by rfl) T.b_abs (by decide +kernel) (pa_cons (pv 0) pa_nil)) (pa_cons (pv 1) pa_nil)) (by rfl)) (pss_cons (ps_while PassesOwn.never (pt_cmpR op_gt (pv 3) pe_int (nomark _)) (pss_cons (ps_par (i := 2) (j := 3) (by rfl) sc_law_lowest.nd rfl rfl (by decide) rfl rfl (pa_cons (pv 3) (pa_cons (pe_op op_mod (pv 2) (pv 3)) pa_nil)) (by rfl)) pss_nil)) (pss_one (ps_ret (pe_tupZ (pa_cons (pe_op op_fdivA (pv 0) (pv 2)) (pa_cons (pe_op op_fdivA (pv 1) (pv 2)) pa_nil))))))), fun ds hl => ?_⟩
  match ds, hl with
  | [top, bottom], _ =>
    show Psr (S := Unit) K _ .dat [.dat top, .dat bottom, .un, .un] (F_law_lowest top bottom)
    exact (psr_par (k1 := .dat) (k2 := .dat) (i := 2) (j := 3) (ρ' := fun x_1 y_2 => [.dat top, .dat bottom, .dat x_1, .dat y_2]) (px_cb ok_abs (pm_cons (Px.vw (px_var rfl)) pm_nil)) (px_var rfl) (Nat.le_of_ble_eq_true rfl) (Nat.le_of_ble_eq_true rfl) (fun x_1 y_2 => (psr_seqn (α := PyData × PyData) (env := fun a => [.dat top, .dat bottom, .dat a.1, .dat a.2]) (psn_while (α := PyData × PyData) (env := fun a => [.dat top, .dat bottom, .dat a.1, .dat a.2]) [true, true, true, true] (fun a_3 => (pt_test (Px.vw (px_op ok_gt (Px.vw (px_var rfl)) (Px.vw px_int))))) (fun a_3 => (psn_par (k1 := .dat) (k2 := .dat) (i := 2) (j := 3) (ρ' := fun x_4 y_5 => [.dat top, .dat bottom, .dat x_4, .dat y_5]) (px_var rfl) (px_op ok_mod (Px.vw (px_var rfl)) (Px.vw (px_var rfl))) (Nat.le_of_ble_eq_true rfl) (Nat.le_of_ble_eq_true rfl) (fun x_4 y_5 => (psn_nil [true, true, true, true]))))) (fun r_6 => (psr_ret (px_tup (pm_cons (px_op ok_fdiv (Px.vw (px_var rfl)) (Px.vw (px_var rfl))) (pm_cons (px_op ok_fdiv (Px.vw (px_var rfl)) (Px.vw (px_var rfl))) pm_nil))))))))
def F_law_neighbors (parts : PyData) (name : PyData) : W Unit PyData := (wbind (wbind (wl []) fun as => wpure (.list as)) fun result_1 => (wbind (wbind (wbind (wbind (wpure parts) fun a => wbind (wpure (.int 2)) fun b => wlift (oix a b)) fun d => wlift (wseq d)) fun it => wforn (fun x a_2 => wbind ((fun x => w3 x fun x1 x2 x3 => wbind (wpure x1) fun a => wbind (wpure x2) fun b => wbind (wpure x3) fun c => wpure (a, b, c)) x) fun p_3 => (wbind (wite (wB (wbind (wpure name) fun a => wbind (wbind (wl [(wpure p_3.1), (wpure p_3.2.1)]) fun as => wpure (PyData.tuple as)) fun b => wlift (oin a b))) (wbind (wapp a_2 (wbind (wl [(wbind (wbind (wl [(wpure p_3.1), (wpure p_3.2.1)]) fun as => wpure (.list as)) fun a => wbind (wbind (wl [(wbind (wpure p_3.1) fun a => wbind (wpure name) fun b => wlift (oeq a b))]) fun as => wlift (oint as)) fun b => wlift (oix a b)), (wpure p_3.2.2)]) fun as => wpure (PyData.tuple as))) fun result_5 => (wpure result_5)) (wpure a_2)) fun result_4 => (wpure result_4))) it result_1) fun r_6 => (wbind (wl [(wbind (wl [(wpure r_6)]) fun as => wlift (osorted as))]) fun as => wlift (otuple as))))
theorem ok_law_neighbors (T : Env K mg base) : FnG P w K mg base CX0 1 T.a_law_neighbors T.fd_law_neighbors ["_law_parts_here", "_law_name"] (spP K (S := Unit) .dat [.dat, .dat] (ap2 F_law_neighbors)) := by
  refine okP T.F_law_neighbors sc_law_neighbors rfl fun cdv A outer s H E hr => ⟨_, (pss_cons (ps_set (i := 2) sc_law_neighbors.nd rfl (.inl rfl) (pe_lst pa_nil)) (pss_cons (ps_for PassesOwn.never rfl (pi_seqK (K := K) rfl (pe_ix (ix_K (K := K) rfl hr.u1) (pv 0) pe_int (fun _ _ => rfl))) (pg_tupK (K := K) (n := 3) rfl rfl (pgs_cons (pg_name (i := 3) sc_law_neighbors.nd rfl (.inl rfl)) (pgs_cons (pg_name (i := 4) sc_law_neighbors.nd rfl (.inl rfl)) (pgs_cons (pg_name (i := 5) sc_law_neighbors.nd rfl (.inl rfl)) pgs_nil))) rfl rfl) (pss_cons (ps_if (pt_cmpR (op_inK (K := K) rfl hr.u1) (pv 1) (pe_tupZ (pa_cons (pv 3) (pa_cons (pv 4) pa_nil))) (by rfl)) (pss_cons (ps_expr (pe_appendK (K := K) rfl (pv 2) (pe_tupZ (pa_cons (pe_ix (ix_K (K := K) rfl hr.u1) (pe_lst (pa_cons (pv 3) (pa_cons (pv 4) pa_nil))) (pe_callTy (T := "int") (call_intK T.sys) (by rfl) T.b_int (by decide +kernel) (pa_cons (pe_cmpR (op_eqK (K := K) rfl hr.units0) (pv 3) (pv 1) (nomark _)) pa_nil)) (fun _ _ => rfl)) (pa_cons (pv 5) pa_nil))))) pss_nil) pss_nil) pss_nil)) (pss_one (ps_ret (pe_callTy (T := "tuple") (call_tupleK (K := K) rfl) (by rfl) T.b_tuple (by decide +kernel) (pa_cons (pe_callB (id := "sorted") (call_sortK (K := K) rfl rfl) (by rfl) T.b_sorted (by decide +kernel) (pa_cons (pv 2) pa_nil)) pa_nil)))))), fun ds hl => ?_⟩
  match ds, hl with
  | [parts, name], _ =>
    show Psr (S := Unit) K _ .dat [.dat parts, .dat name, .un, .un, .un, .un] (F_law_neighbors parts name)
    exact (psr_letO (i := 2) (ρ' := fun result_1 => [.dat parts, .dat name, .own result_1, .un, .un, .un]) (px_lst pm_nil) (Nat.le_of_ble_eq_true rfl) (fun result_1 => (psr_seqn (α := PyData) (env := fun a => [.dat parts, .dat name, .own a, .un, .un, .un]) (psn_for (α := PyData) (env := fun a => [.dat parts, .dat name, .own a, .un, .un, .un]) [true, true, true, false, false, false] (pi_sq (pf_dat (px_op ok_ix (Px.vw (px_var rfl)) (Px.vw px_int)))) (fun a_2 => (pg_3 (pg_n (ρ' := fun d => [.dat parts, .dat name, .own a_2, .dat d, .un, .un])) (fun g0_3 => (pg_n (ρ' := fun d => [.dat parts, .dat name, .own a_2, .dat g0_3, .dat d, .un]))) (fun g0_3 g1_3 => (pg_n (ρ' := fun d => [.dat parts, .dat name, .own a_2, .dat g0_3, .dat g1_3, .dat d]))))) (fun a_2 p_3 => (psn_seqn (α := PyData) (env := fun a => [.dat parts, .dat name, .own a, .dat p_3.1, .dat p_3.2.1, .dat p_3.2.2]) (psn_if (pt_test (Px.vw (px_op ok_in (Px.vw (px_var rfl)) (Px.vw (px_tup (pm_cons (px_var rfl) (pm_cons (px_var rfl) pm_nil))))))) (psn_app (ρ' := fun result_5 => [.dat parts, .dat name, .own result_5, .dat p_3.1, .dat p_3.2.1, .dat p_3.2.2]) rfl (px_tup (pm_cons (px_op ok_ix (Px.vw (Px.frz (px_lst (pm_cons (px_var rfl) (pm_cons (px_var rfl) pm_nil))))) (Px.vw (px_cb ok_int (pm_cons (Px.vw (px_op ok_eq (Px.vw (px_var rfl)) (Px.vw (px_var rfl)))) pm_nil)))) (pm_cons (px_var rfl) pm_nil))) (fun result_5 => (psn_nil [true, true, true, true, true, true]))) (psn_nil [true, true, true, true, true, true])) (fun result_4 => (psn_nil [true, true, true, false, false, false]))))) (fun r_6 => (psr_frz (i := 2) (ρ' := [.dat parts, .dat name, .dat r_6, .un, .un, .un]) rfl (psr_ret (px_cb ok_tuple (pm_cons (Px.vw (Px.frz (px_cb ok_sorted (pm_cons (Px.vw (px_var rfl)) pm_nil)))) pm_nil))))))))
def F_is_rational (value : PyData) : W Unit PyData := (wite (wor (wnot (wB (wbind (wpure value) fun d => wlift (isTy "tuple" d)))) (wB (wbind (wbind (wl [(wpure value)]) fun as => wlift (olen as)) fun a => wbind (wpure (.int 2)) fun b => wlift (one a b)))) (wpure (.bool false)) (wbind (wpure value) fun x => wbind ((fun x => w2 x fun x1 x2 => wbind (wpure x1) fun a => wbind (wpure x2) fun b => wpure (a, b)) x) fun p_1 => (wite (wor (wnot (wB (wbind (wl [(wpure p_1.1)]) fun as => wlift ((ap1 F_is_integer) as)))) (wor (wnot (wB (wbind (wl [(wpure p_1.2)]) fun as => wlift ((ap1 F_is_integer) as)))) (wB (wbind (wpure p_1.2) fun a => wbind (wpure (.int 1)) fun b => wlift (olt a b))))) (wpure (.bool false)) (wbind (wbind (wl [(wbind (wl [(wpure p_1.1)]) fun as => wlift (oabs as)), (wpure p_1.2)]) fun as => wlift ((ap2 F_common_divisor) as)) fun a => wbind (wpure (.int 1)) fun b => wlift (oeq a b)))))
theorem ok_is_rational (T : Env K mg base) : FnG P w K mg base CX0 2 T.a_is_rational T.fd_is_rational ["value"] (spP K (S := Unit) .dat [.dat] (ap1 F_is_rational)) := by
  refine okP T.F_is_rational sc_is_rational rfl fun cdv A outer s H E hr => ⟨_, (pss_cons (ps_if (PW.pt (pw_or (pt_not (pt_val (pe_callB (id := "isinstance") (call_isiK (K := K) rfl) (by rfl) T.b_isinstance (by decide +kernel) (pa_cons (pv 0) (pa_cons (pe_bltn (v := .ty "tuple") (by rfl) T.b_tuple (by decide +kernel) rfl) pa_nil))))) (pw_or1 (pt_cmpR (op_neK (K := K) rfl hr.units0) (pe_callB (id := "len") (call_lenK (K := K) rfl) (by rfl) T.b_len (by decide +kernel) (pa_cons (pv 0) pa_nil)) pe_int (nomark _))))) (pss_one (ps_ret pe_bl)) pss_nil) (pss_cons (ps_asg (pv 0) (pg_tupK (K := K) (n := 2) rfl rfl (pgs_cons (pg_name (i := 1) sc_is_rational.nd rfl (.inl rfl)) (pgs_cons (pg_name (i := 2) sc_is_rational.nd rfl (.inl rfl)) pgs_nil)) rfl rfl)) (pss_cons (ps_if (PW.pt (pw_or (pt_not (pt_val (pe_g (ok_is_integer T _ (hr.mono (by first | decide | omega | (simp only [Nat.add_eq]; omega) | (show _ ≤ _ + _; omega)))) (by rfl) T.m_is_integer T.F_is_integer.kp (cb_pos T.F_is_integer (n := 1) (ps := ["value"]) (fun _ _ _ _ _ _ us h1 => match us, h1 with | [_], _ => rfl)) pass0 (pa_cons (pv 1) pa_nil)))) (pw_or (pt_not (pt_val (pe_g (ok_is_integer T _ (hr.mono (by first | decide | omega | (simp only [Nat.add_eq]; omega) | (show _ ≤ _ + _; omega)))) (by rfl) T.m_is_integer T.F_is_integer.kp (cb_pos T.F_is_integer (n := 1) (ps := ["value"]) (fun _ _ _ _ _ _ us h1 => match us, h1 with | [_], _ => rfl)) pass0 (pa_cons (pv 2) pa_nil)))) (pw_or1 (pt_cmpR (op_ltK (K := K) rfl hr.units0) (pv 2) pe_int (nomark _)))))) (pss_one (ps_ret pe_bl)) pss_nil) (pss_one (ps_ret (pe_cmpR (op_eqK (K := K) rfl hr.units0) (pe_g (ok_common_divisor T _ (hr.mono (by first | decide | omega | (simp only [Nat.add_eq]; omega) | (show _ ≤ _ + _; omega)))) (by rfl) T.m_common_divisor T.F_common_divisor.kp (cb_pos T.F_common_divisor (n := 2) (ps := ["a", "b"]) (fun _ _ _ _ _ _ us h1 => match us, h1 with | [_, _], _ => rfl)) pass0 (pa_cons (pe_callB (id := "abs") call_absK (by rfl) T.b_abs (by decide +kernel) (pa_cons (pv 1) pa_nil)) (pa_cons (pv 2) pa_nil))) pe_int (nomark _))))))), fun ds hl => ?_⟩
  match ds, hl with
  | [value], _ =>
    show Psr (S := Unit) K _ .dat [.dat value, .un, .un] (F_is_rational value)
    exact (psr_ifr (pt_or' (pt_not' (pt_B (Px.vw (px_isi (Px.vw (px_var rfl)))))) (pt_test (Px.vw (px_op ok_ne (Px.vw (px_cb ok_len (pm_cons (Px.vw (px_var rfl)) pm_nil))) (Px.vw px_int))))) (psr_ret px_bl) (psr_tgt (.inl ⟨rfl, rfl⟩) (px_var rfl) (pg_2 (pg_n (ρ' := fun d => [.dat value, .dat d, .un])) (fun g0_3 => (pg_n (ρ' := fun d => [.dat value, .dat g0_3, .dat d])))) (fun p_1 => (psr_ifr (pt_or' (pt_not' (pt_B (Px.vw (px_callP (F := (ap1 F_is_integer)) (pm_cons (px_var rfl) pm_nil))))) (pt_or' (pt_not' (pt_B (Px.vw (px_callP (F := (ap1 F_is_integer)) (pm_cons (px_var rfl) pm_nil))))) (pt_test (Px.vw (px_op ok_lt (Px.vw (px_var rfl)) (Px.vw px_int)))))) (psr_ret px_bl) (psr_ret (px_op ok_eq (Px.vw (px_callP (F := (ap2 F_common_divisor)) (pm_cons (px_cb ok_abs (pm_cons (Px.vw (px_var rfl)) pm_nil)) (pm_cons (px_var rfl) pm_nil)))) (Px.vw px_int)))))))
def F_law_names (count : PyData) : W DS PyData := (wbind (wpure (.str tx_abc)) fun letters_1 => (wbind (wbind (wl [(wpure .none), (wpure (.int 4))]) (apD (ap1 F_law_draw))) fun style_2 => (wbind (wbind (wl [(wpure .none), (wpure (.int 26))]) (apD (ap1 F_law_draw))) fun offset_3 => (wbind (wbind (wl [(wpure .none), (wpure (.int 8))]) (apD (ap1 F_law_draw))) fun place_4 => (wbind (wbind (wl [(wpure (.str tx_ice)), (wpure (.str tx_spring)), (wpure (.str tx_channel)), (wpure (.str tx_never)), (wpure (.str tx_h334c4a)), (wpure (.str tx_field)), (wpure (.str tx_start)), (wpure (.str tx_width)), (wpure (.str tx_cell)), (wpure (.str tx_at)), (wpure (.str tx_least)), (wpure (.str tx_most))]) fun as => wpure (.list as)) fun words_5 => (wbind (wbind (wpure words_5) fun a => wbind (wbind (wl [(wpure (.str tx_exactly)), (wpure (.str tx_remove)), (wpure (.str tx_drop)), (wpure (.str tx_undo)), (wpure (.str tx_show)), (wpure (.str tx_count))]) fun as => wpure (.list as)) fun b => wlift (oadd a b)) fun words_6 => (wbind (wbind (wl []) fun as => wpure (.list as)) fun result_7 => (wbind (wbind (wbind (wl [(wpure count)]) fun as => wlift (wrange1 as)) fun it => wforn (fun x a_8 => wbind (wpure x) fun k_9 => (wbind (wbind (wpure letters_1) fun a => wbind (wbind (wbind (wpure offset_3) fun a => wbind (wbind (wpure (.int 7)) fun a => wbind (wpure k_9) fun b => wlift (omul a b)) fun b => wlift (oadd a b)) fun a => wbind (wpure (.int 26)) fun b => wlift (omod a b)) fun b => wlift (oix a b)) fun letter_10 => (wbind (wbind (wl [(wpure letter_10), (wbind (wbind (wbind (wpure (.str tx_channels)) fun a => wbind (wpure none) fun lo => wbind (wbind (wpure place_4) toI) fun hi => wlift (osl a lo hi)) fun a => wbind (wpure letter_10) fun b => wlift (oadd a b)) fun a => wbind (wbind (wpure (.str tx_channels)) fun a => wbind (wbind (wbind (wpure place_4) fun a => wbind (wpure (.int 1)) fun b => wlift (oadd a b)) toI) fun lo => wbind (wpure none) fun hi => wlift (osl a lo hi)) fun b => wlift (oadd a b)), (wbind (wpure words_6) fun a => wbind (wbind (wbind (wpure offset_3) fun a => wbind (wpure k_9) fun b => wlift (oadd a b)) fun a => wbind (wpure (.int 18)) fun b => wlift (omod a b)) fun b => wlift (oix a b))]) fun as => wpure (.list as)) fun options_11 => (wbind (wbind (wbind (wpure letters_1) fun a => wbind (wbind (wbind (wpure offset_3) fun a => wbind (wbind (wpure k_9) fun a => wbind (wpure (.int 8)) fun b => wlift (ofdiv a b)) fun b => wlift (oadd a b)) fun a => wbind (wpure (.int 26)) fun b => wlift (omod a b)) fun b => wlift (oix a b)) fun a => wbind (wbind (wpure (.int 1)) fun a => wbind (wbind (wpure k_9) fun a => wbind (wpure (.int 8)) fun b => wlift (omod a b)) fun b => wlift (oadd a b)) fun b => wlift (omul a b)) fun repeated_12 => (wbind (wapp a_8 (wbind (wbind (wpure options_11) fun a => wbind (wbind (wl [(wpure repeated_12)]) fun as => wpure (.list as)) fun b => wlift (oadd a b)) fun a => wbind (wpure style_2) fun b => wlift (oix a b))) fun result_13 => (wpure result_13)))))) it result_7) fun r_14 => (wpure r_14)))))))))
theorem ok_law_names (T : Env K mg base) : FnG P w K mg base CX0 2 T.a_law_names T.fd_law_names ["_law_deck_here", "_law_count"] (spP K (S := DR) .dat [.dk, .dat] (apD (ap1 F_law_names))) := by
  refine okP T.F_law_names sc_law_names rfl fun cdv A outer s H E hr => ⟨_, (pss_cons (ps_set (i := 2) sc_law_names.nd rfl (.inl rfl) pe_str) (pss_cons (ps_par3 (i := 6) (j := 7) (l := 8) (by rfl) sc_law_names.nd rfl rfl rfl (by decide) (by decide) (by decide) rfl rfl rfl (pa_cons (pe_g (ok_law_draw T _ (hr.mono (by first | decide | omega | (simp only [Nat.add_eq]; omega) | (show _ ≤ _ + _; omega)))) (by rfl) T.m_law_draw T.F_law_draw.kp (cb_pos T.F_law_draw (n := 2) (ps := ["_law_deck_here", "_law_count"]) (fun _ _ _ _ _ _ us h1 => match us, h1 with | [_, _], _ => rfl)) pass0 (pa_cons (pv 0) (pa_cons pe_int pa_nil))) (pa_cons (pe_g (ok_law_draw T _ (hr.mono (by first | decide | omega | (simp only [Nat.add_eq]; omega) | (show _ ≤ _ + _; omega)))) (by rfl) T.m_law_draw T.F_law_draw.kp (cb_pos T.F_law_draw (n := 2) (ps := ["_law_deck_here", "_law_count"]) (fun _ _ _ _ _ _ us h1 => match us, h1 with | [_, _], _ => rfl)) pass0 (pa_cons (pv 0) (pa_cons pe_int pa_nil))) (pa_cons (pe_g (ok_law_draw T _ (hr.mono (by first | decide | omega | (simp only [Nat.add_eq]; omega) | (show _ ≤ _ + _; omega)))) (by rfl) T.m_law_draw T.F_law_draw.kp (cb_pos T.F_law_draw (n := 2) (ps := ["_law_deck_here", "_law_count"]) (fun _ _ _ _ _ _ us h1 => match us, h1 with | [_, _], _ => rfl)) pass0 (pa_cons (pv 0) (pa_cons pe_int pa_nil))) pa_nil))) (by rfl)) (pss_cons (ps_set (i := 3) sc_law_names.nd rfl (.inl rfl) (pe_lst (pa_cons pe_str (pa_cons pe_str (pa_cons pe_str (pa_cons pe_str (pa_cons pe_str (pa_cons pe_str (pa_cons pe_str (pa_cons pe_str (pa_cons pe_str (pa_cons pe_str (pa_cons pe_str (pa_cons pe_str pa_nil)))))))))))))) (pss_cons (ps_set (i := 3) sc_law_names.nd rfl (.inl rfl) (pe_op (op_addK (K := K) rfl) (pv 3) (pe_lst (pa_cons pe_str (pa_cons pe_str (pa_cons pe_str (pa_cons pe_str (pa_cons pe_str (pa_cons pe_str pa_nil))))))))) (pss_cons (ps_set (i := 4) sc_law_names.nd rfl (.inl rfl) (pe_lst pa_nil)) (pss_cons (ps_for PassesOwn.never rfl (pi_range1 (by rfl) T.b_range (pa_cons (pv 1) pa_nil)) (pg_name (i := 5) sc_law_names.nd rfl (.inl rfl)) (pss_cons (ps_set (i := 9) sc_law_names.nd rfl (.inl rfl) (pe_ix (ix_K (K := K) rfl hr.u1) (pv 2) (pe_op op_mod (pe_op (op_addK (K := K) rfl) (pv 7) (pe_op op_mulU pe_int (pv 5))) pe_int) (fun _ _ => rfl))) (pss_cons (ps_set (i := 10) sc_law_names.nd rfl (.inl rfl) (pe_lst (pa_cons (pv 9) (pa_cons (pe_op (op_addK (K := K) rfl) (pe_op (op_addK (K := K) rfl) (pe_slice (sl_K (K := K) rfl) pe_str po_none (po_some (pv 8))) (pv 9)) (pe_slice (sl_K (K := K) rfl) pe_str (po_some (pe_op (op_addK (K := K) rfl) (pv 8) pe_int)) po_none)) (pa_cons (pe_ix (ix_K (K := K) rfl hr.u1) (pv 3) (pe_op op_mod (pe_op (op_addK (K := K) rfl) (pv 7) (pv 5)) pe_int) (fun _ _ => rfl)) pa_nil))))) (pss_cons (ps_set (i := 11) sc_law_names.nd rfl (.inl rfl) (pe_op op_mulU (pe_ix (ix_K (K := K) rfl hr.u1) (pv 2) (pe_op op_mod (pe_op (op_addK (K := K) rfl) (pv 7) (pe_op op_fdivA (pv 5) pe_int)) pe_int) (fun _ _ => rfl)) (pe_op (op_addK (K := K) rfl) pe_int (pe_op op_mod (pv 5) pe_int)))) (pss_cons (ps_expr (pe_appendK (K := K) rfl (pv 4) (pe_ix (ix_K (K := K) rfl hr.u1) (pe_op (op_addK (K := K) rfl) (pv 10) (pe_lst (pa_cons (pv 11) pa_nil))) (pv 6) (fun _ _ => rfl)))) pss_nil))))) (pss_one (ps_ret (pv 4))))))))), fun ds hl => ?_⟩
  match ds, hl with
  | [_, count], _ =>
    show Psr (S := DR) K _ .dat [.dk, .dat count, .un, .un, .un, .un, .un, .un, .un, .un, .un, .un] (F_law_names count)
    exact (psr_let (i := 2) (ρ' := fun letters_1 => [.dk, .dat count, .dat letters_1, .un, .un, .un, .un, .un, .un, .un, .un, .un]) (px_str (n := tx_abc)) (Nat.le_of_ble_eq_true rfl) (fun letters_1 => (psr_par3 (k1 := .dat) (k2 := .dat) (k3 := .dat) (i := 6) (j := 7) (l := 8) (ρ' := fun style_2 offset_3 place_4 => [.dk, .dat count, .dat letters_1, .un, .un, .un, .dat style_2, .dat offset_3, .dat place_4, .un, .un, .un]) (px_callD (S := DR) (F := (apD (ap1 F_law_draw))) (pm_cons (px_dk rfl) (pm_cons px_int pm_nil))) (px_callD (S := DR) (F := (apD (ap1 F_law_draw))) (pm_cons (px_dk rfl) (pm_cons px_int pm_nil))) (px_callD (S := DR) (F := (apD (ap1 F_law_draw))) (pm_cons (px_dk rfl) (pm_cons px_int pm_nil))) (Nat.le_of_ble_eq_true rfl) (Nat.le_of_ble_eq_true rfl) (Nat.le_of_ble_eq_true rfl) (fun style_2 offset_3 place_4 => (psr_let (i := 3) (ρ' := fun words_5 => [.dk, .dat count, .dat letters_1, .dat words_5, .un, .un, .dat style_2, .dat offset_3, .dat place_4, .un, .un, .un]) (Px.frz (px_lst (pm_cons (px_str (n := tx_ice)) (pm_cons (px_str (n := tx_spring)) (pm_cons (px_str (n := tx_channel)) (pm_cons (px_str (n := tx_never)) (pm_cons (px_str (n := tx_h334c4a)) (pm_cons (px_str (n := tx_field)) (pm_cons (px_str (n := tx_start)) (pm_cons (px_str (n := tx_width)) (pm_cons (px_str (n := tx_cell)) (pm_cons (px_str (n := tx_at)) (pm_cons (px_str (n := tx_least)) (pm_cons (px_str (n := tx_most)) pm_nil)))))))))))))) (Nat.le_of_ble_eq_true rfl) (fun words_5 => (psr_let (i := 3) (ρ' := fun words_6 => [.dk, .dat count, .dat letters_1, .dat words_6, .un, .un, .dat style_2, .dat offset_3, .dat place_4, .un, .un, .un]) (px_op ok_add (Px.vw (px_var rfl)) (Px.vw (Px.frz (px_lst (pm_cons (px_str (n := tx_exactly)) (pm_cons (px_str (n := tx_remove)) (pm_cons (px_str (n := tx_drop)) (pm_cons (px_str (n := tx_undo)) (pm_cons (px_str (n := tx_show)) (pm_cons (px_str (n := tx_count)) pm_nil)))))))))) (Nat.le_of_ble_eq_true rfl) (fun words_6 => (psr_letO (i := 4) (ρ' := fun result_7 => [.dk, .dat count, .dat letters_1, .dat words_6, .own result_7, .un, .dat style_2, .dat offset_3, .dat place_4, .un, .un, .un]) (px_lst pm_nil) (Nat.le_of_ble_eq_true rfl) (fun result_7 => (psr_seqn (α := PyData) (env := fun a => [.dk, .dat count, .dat letters_1, .dat words_6, .own a, .un, .dat style_2, .dat offset_3, .dat place_4, .un, .un, .un]) (psn_for (α := PyData) (env := fun a => [.dk, .dat count, .dat letters_1, .dat words_6, .own a, .un, .dat style_2, .dat offset_3, .dat place_4, .un, .un, .un]) [true, true, true, true, true, false, true, true, true, false, false, false] (pi_rng1 (pm_cons (px_var rfl) pm_nil)) (fun a_8 => (pg_n (ρ' := fun d => [.dk, .dat count, .dat letters_1, .dat words_6, .own a_8, .dat d, .dat style_2, .dat offset_3, .dat place_4, .un, .un, .un]))) (fun a_8 k_9 => (psn_let (i := 9) (ρ' := fun letter_10 => [.dk, .dat count, .dat letters_1, .dat words_6, .own a_8, .dat k_9, .dat style_2, .dat offset_3, .dat place_4, .dat letter_10, .un, .un]) (px_op ok_ix (Px.vw (px_var rfl)) (Px.vw (px_op ok_mod (Px.vw (px_op ok_add (Px.vw (px_var rfl)) (Px.vw (px_op ok_mul (Px.vw px_int) (Px.vw (px_var rfl)))))) (Px.vw px_int)))) (Nat.le_of_ble_eq_true rfl) (fun letter_10 => (psn_let (i := 10) (ρ' := fun options_11 => [.dk, .dat count, .dat letters_1, .dat words_6, .own a_8, .dat k_9, .dat style_2, .dat offset_3, .dat place_4, .dat letter_10, .dat options_11, .un]) (Px.frz (px_lst (pm_cons (px_var rfl) (pm_cons (px_op ok_add (Px.vw (px_op ok_add (Px.vw (px_sl ok_sl (Px.vw (px_str (n := tx_channels))) po_n (po_s (Px.vw (px_var rfl))))) (Px.vw (px_var rfl)))) (Px.vw (px_sl ok_sl (Px.vw (px_str (n := tx_channels))) (po_s (Px.vw (px_op ok_add (Px.vw (px_var rfl)) (Px.vw px_int)))) po_n))) (pm_cons (px_op ok_ix (Px.vw (px_var rfl)) (Px.vw (px_op ok_mod (Px.vw (px_op ok_add (Px.vw (px_var rfl)) (Px.vw (px_var rfl)))) (Px.vw px_int)))) pm_nil))))) (Nat.le_of_ble_eq_true rfl) (fun options_11 => (psn_let (i := 11) (ρ' := fun repeated_12 => [.dk, .dat count, .dat letters_1, .dat words_6, .own a_8, .dat k_9, .dat style_2, .dat offset_3, .dat place_4, .dat letter_10, .dat options_11, .dat repeated_12]) (px_op ok_mul (Px.vw (px_op ok_ix (Px.vw (px_var rfl)) (Px.vw (px_op ok_mod (Px.vw (px_op ok_add (Px.vw (px_var rfl)) (Px.vw (px_op ok_fdiv (Px.vw (px_var rfl)) (Px.vw px_int))))) (Px.vw px_int))))) (Px.vw (px_op ok_add (Px.vw px_int) (Px.vw (px_op ok_mod (Px.vw (px_var rfl)) (Px.vw px_int)))))) (Nat.le_of_ble_eq_true rfl) (fun repeated_12 => (psn_app (ρ' := fun result_13 => [.dk, .dat count, .dat letters_1, .dat words_6, .own result_13, .dat k_9, .dat style_2, .dat offset_3, .dat place_4, .dat letter_10, .dat options_11, .dat repeated_12]) rfl (px_op ok_ix (Px.vw (px_op ok_add (Px.vw (px_var rfl)) (Px.vw (Px.frz (px_lst (pm_cons (px_var rfl) pm_nil)))))) (Px.vw (px_var rfl))) (fun result_13 => (psn_nil [true, true, true, true, true, false, true, true, true, false, false, false]))))))))))) (fun r_14 => (psr_retFrz rfl)))))))))))))
def F_law_rational (minimum : PyData) : W DS PyData := (wbind (wbind (wl [(wpure .none), (wpure (.int 6))]) (apD (ap1 F_law_draw))) fun style_1 => (wbind (wbind (wpure (.int 1)) fun a => wbind (wbind (wl [(wpure .none), (wpure (.int 4))]) (apD (ap1 F_law_draw))) fun b => wlift (oadd a b)) fun small_2 => (wbind (wbind (wpure (.int 1)) fun a => wbind (wbind (wl [(wpure .none), (wpure (.int 999))]) (apD (ap1 F_law_draw))) fun b => wlift (oadd a b)) fun large_3 => (wbind (wbind (wl [(wbind (wl [(wpure minimum), (wpure (.int 1))]) fun as => wpure (PyData.tuple as)), (wbind (wl [(wpure small_2), (wpure (.int 1))]) fun as => wpure (PyData.tuple as)), (wbind (wl [(wpure (.int 1)), (wbind (wpure (.int 1)) fun a => wbind (wpure small_2) fun b => wlift (oadd a b))]) fun as => wpure (PyData.tuple as)), (wbind (wl [(wpure large_3), (wbind (wpure (.int 1000)) fun a => wbind (wpure small_2) fun b => wlift (osub a b))]) fun as => wpure (PyData.tuple as)), (wbind (wl [(wpure (.int 1)), (wpure large_3)]) fun as => wpure (PyData.tuple as)), (wbind (wl [(wbind (wpure (.int 1001)) fun a => wbind (wpure small_2) fun b => wlift (osub a b)), (wpure large_3)]) fun as => wpure (PyData.tuple as))]) fun as => wpure (.list as)) fun options_4 => (wbind (wl [(wbind (wbind (wpure options_4) fun a => wbind (wpure style_1) fun b => wlift (oix a b)) fun a => wbind (wpure (.int 0)) fun b => wlift (oix a b)), (wbind (wbind (wpure options_4) fun a => wbind (wpure style_1) fun b => wlift (oix a b)) fun a => wbind (wpure (.int 1)) fun b => wlift (oix a b))]) fun as => wlift ((ap2 F_law_lowest) as))))))
theorem ok_law_rational (T : Env K mg base) : FnG P w K mg base CX0 2 T.a_law_rational T.fd_law_rational ["_law_deck_here", "_law_minimum"] (spP K (S := DR) .dat [.dk, .dat] (apD (ap1 F_law_rational))) := by
  refine okP T.F_law_rational sc_law_rational rfl fun cdv A outer s H E hr => ⟨_, (pss_cons (ps_par3 (i := 3) (j := 4) (l := 5) (by rfl) sc_law_rational.nd rfl rfl rfl (by decide) (by decide) (by decide) rfl rfl rfl (pa_cons (pe_g (ok_law_draw T _ (hr.mono (by first | decide | omega | (simp only [Nat.add_eq]; omega) | (show _ ≤ _ + _; omega)))) (by rfl) T.m_law_draw T.F_law_draw.kp (cb_pos T.F_law_draw (n := 2) (ps := ["_law_deck_here", "_law_count"]) (fun _ _ _ _ _ _ us h1 => match us, h1 with | [_, _], _ => rfl)) pass0 (pa_cons (pv 0) (pa_cons pe_int pa_nil))) (pa_cons (pe_op (op_addK (K := K) rfl) pe_int (pe_g (ok_law_draw T _ (hr.mono (by first | decide | omega | (simp only [Nat.add_eq]; omega) | (show _ ≤ _ + _; omega)))) (by rfl) T.m_law_draw T.F_law_draw.kp (cb_pos T.F_law_draw (n := 2) (ps := ["_law_deck_here", "_law_count"]) (fun _ _ _ _ _ _ us h1 => match us, h1 with | [_, _], _ => rfl)) pass0 (pa_cons (pv 0) (pa_cons pe_int pa_nil)))) (pa_cons (pe_op (op_addK (K := K) rfl) pe_int (pe_g (ok_law_draw T _ (hr.mono (by first | decide | omega | (simp only [Nat.add_eq]; omega) | (show _ ≤ _ + _; omega)))) (by rfl) T.m_law_draw T.F_law_draw.kp (cb_pos T.F_law_draw (n := 2) (ps := ["_law_deck_here", "_law_count"]) (fun _ _ _ _ _ _ us h1 => match us, h1 with | [_, _], _ => rfl)) pass0 (pa_cons (pv 0) (pa_cons pe_int pa_nil)))) pa_nil))) (by rfl)) (pss_cons (ps_set (i := 2) sc_law_rational.nd rfl (.inl rfl) (pe_lst (pa_cons (pe_tupZ (pa_cons (pv 1) (pa_cons pe_int pa_nil))) (pa_cons (pe_tupZ (pa_cons (pv 4) (pa_cons pe_int pa_nil))) (pa_cons (pe_tupZ (pa_cons pe_int (pa_cons (pe_op (op_addK (K := K) rfl) pe_int (pv 4)) pa_nil))) (pa_cons (pe_tupZ (pa_cons (pv 5) (pa_cons (pe_op op_sub pe_int (pv 4)) pa_nil))) (pa_cons (pe_tupZ (pa_cons pe_int (pa_cons (pv 5) pa_nil))) (pa_cons (pe_tupZ (pa_cons (pe_op op_sub pe_int (pv 4)) (pa_cons (pv 5) pa_nil))) pa_nil)))))))) (pss_one (ps_ret (pe_g (ok_law_lowest T _ (hr.mono (by first | decide | omega | (simp only [Nat.add_eq]; omega) | (show _ ≤ _ + _; omega)))) (by rfl) T.m_law_lowest T.F_law_lowest.kp (cb_pos T.F_law_lowest (n := 2) (ps := ["_law_top", "_law_bottom"]) (fun _ _ _ _ _ _ us h1 => match us, h1 with | [_, _], _ => rfl)) pass0 (pa_cons (pe_ix (ix_K (K := K) rfl hr.u1) (pe_ix (ix_K (K := K) rfl hr.u1) (pv 2) (pv 3) (fun _ _ => rfl)) pe_int (fun _ _ => rfl)) (pa_cons (pe_ix (ix_K (K := K) rfl hr.u1) (pe_ix (ix_K (K := K) rfl hr.u1) (pv 2) (pv 3) (fun _ _ => rfl)) pe_int (fun _ _ => rfl)) pa_nil))))))), fun ds hl => ?_⟩
  match ds, hl with
  | [_, minimum], _ =>
    show Psr (S := DR) K _ .dat [.dk, .dat minimum, .un, .un, .un, .un] (F_law_rational minimum)
    exact (psr_par3 (k1 := .dat) (k2 := .dat) (k3 := .dat) (i := 3) (j := 4) (l := 5) (ρ' := fun style_1 small_2 large_3 => [.dk, .dat minimum, .un, .dat style_1, .dat small_2, .dat large_3]) (px_callD (S := DR) (F := (apD (ap1 F_law_draw))) (pm_cons (px_dk rfl) (pm_cons px_int pm_nil))) (px_op ok_add (Px.vw px_int) (Px.vw (px_callD (S := DR) (F := (apD (ap1 F_law_draw))) (pm_cons (px_dk rfl) (pm_cons px_int pm_nil))))) (px_op ok_add (Px.vw px_int) (Px.vw (px_callD (S := DR) (F := (apD (ap1 F_law_draw))) (pm_cons (px_dk rfl) (pm_cons px_int pm_nil))))) (Nat.le_of_ble_eq_true rfl) (Nat.le_of_ble_eq_true rfl) (Nat.le_of_ble_eq_true rfl) (fun style_1 small_2 large_3 => (psr_let (i := 2) (ρ' := fun options_4 => [.dk, .dat minimum, .dat options_4, .dat style_1, .dat small_2, .dat large_3]) (Px.frz (px_lst (pm_cons (px_tup (pm_cons (px_var rfl) (pm_cons px_int pm_nil))) (pm_cons (px_tup (pm_cons (px_var rfl) (pm_cons px_int pm_nil))) (pm_cons (px_tup (pm_cons px_int (pm_cons (px_op ok_add (Px.vw px_int) (Px.vw (px_var rfl))) pm_nil))) (pm_cons (px_tup (pm_cons (px_var rfl) (pm_cons (px_op ok_sub (Px.vw px_int) (Px.vw (px_var rfl))) pm_nil))) (pm_cons (px_tup (pm_cons px_int (pm_cons (px_var rfl) pm_nil))) (pm_cons (px_tup (pm_cons (px_op ok_sub (Px.vw px_int) (Px.vw (px_var rfl))) (pm_cons (px_var rfl) pm_nil))) pm_nil)))))))) (Nat.le_of_ble_eq_true rfl) (fun options_4 => (psr_ret (px_callP (F := (ap2 F_law_lowest)) (pm_cons (px_op ok_ix (Px.vw (px_op ok_ix (Px.vw (px_var rfl)) (Px.vw (px_var rfl)))) (Px.vw px_int)) (pm_cons (px_op ok_ix (Px.vw (px_op ok_ix (Px.vw (px_var rfl)) (Px.vw (px_var rfl)))) (Px.vw px_int)) pm_nil))))))))
def F_law_breadth (parts : PyData) (x0 : PyData) (y : PyData) : W Unit PyData := (wbind (wbind (wbind (wbind (wl [(wpure parts), (wpure x0)]) fun as => wlift ((ap2 F_law_neighbors) as)) fun d => wlift (wseq d)) fun it => wlcS (fun x => wbind ((fun x => w2 x fun x1 x2 => wbind (wpure x1) fun a => wbind (wpure x2) fun b => wpure (a, b)) x) fun p_1 => wlcE (wB (wbind (wpure p_1.1) fun a => wbind (wpure y) fun b => wlift (oeq a b))) (wpure p_1.2)) it) fun found_2 => (wite (wB (wbind (wpure found_2) fun a => wbind (wbind (wl []) fun as => wpure (.list as)) fun b => wlift (one a b))) (wbind (wpure found_2) fun a => wbind (wpure (.int 0)) fun b => wlift (oix a b)) (wbind (wl [(wpure (.int 0)), (wpure (.int 1))]) fun as => wpure (PyData.tuple as))))
theorem ok_law_breadth (T : Env K mg base) : FnG P w K mg base CX0 2 T.a_law_breadth T.fd_law_breadth ["_law_parts_here", "_law_x", "_law_y"] (spP K (S := Unit) .dat [.dat, .dat, .dat] (ap3 F_law_breadth)) := by
  refine okP T.F_law_breadth sc_law_breadth rfl fun cdv A outer s H E hr => ⟨_, (pss_cons (ps_setLc (i := 3) (own := [("_law_other", 4), ("_law_breadth_here", 5)]) (g := (gTup K 2 (gCons (gName 4) (gCons (gName 5) gNil)))) rfl sc_law_breadth.nd rfl rfl (sw_true rfl rfl rfl (by decide +kernel)) (pi_seqK (K := K) rfl (pe_g (ok_law_neighbors T _ (hr.mono (by first | decide | omega | (simp only [Nat.add_eq]; omega) | (show _ ≤ _ + _; omega)))) (by rfl) T.m_law_neighbors T.F_law_neighbors.kp (cb_pos T.F_law_neighbors (n := 2) (ps := ["_law_parts_here", "_law_name"]) (fun _ _ _ _ _ _ us h1 => match us, h1 with | [_, _], _ => rfl)) pass0 (pa_cons (pv 0) (pa_cons (pv 1) pa_nil)))) (blkOk_by (own := [("_law_other", 4), ("_law_breadth_here", 5)]) (N := ["_law_parts_here", "_law_x", "_law_y", "_law_found", "_law_other", "_law_breadth_here"]) (sc := defScope s_law_breadth) (by decide +kernel)) (fun _ _ _ _ _ => (pg_tupK (K := K) (n := 2) rfl rfl (pgs_cons (pg_name (i := 4) sc_law_breadth.nd rfl (.inl rfl)) (pgs_cons (pg_name (i := 5) sc_law_breadth.nd rfl (.inl rfl)) pgs_nil)) rfl rfl)) (fun _ _ _ _ _ => (pts_one (pt_cmpR (op_eqK (K := K) rfl hr.units0) (pv 4) (pv 2) (nomark _)))) (fun _ _ _ _ _ => (pv 5))) (pss_one (ps_ret (pe_ifExp (pt_cmpR (op_neK (K := K) rfl hr.units0) (pv 3) (pe_lst pa_nil) (nomark _)) (pe_ix (ix_K (K := K) rfl hr.u1) (pv 3) pe_int (fun _ _ => rfl)) (pe_tupZ (pa_cons pe_int (pa_cons pe_int pa_nil))))))), fun ds hl => ?_⟩
  match ds, hl with
  | [parts, x0, y], _ =>
    show Psr (S := Unit) K _ .dat [.dat parts, .dat x0, .dat y, .un, .un, .un] (F_law_breadth parts x0 y)
    exact (psr_let (i := 3) (ρ' := fun found_2 => [.dat parts, .dat x0, .dat y, .dat found_2, .un, .un]) (Px.frz (px_lc (ρv := [.dat parts, .dat x0, .dat y, .un, .un, .un]) (ρ2 := [.dat parts, .dat x0, .dat y, .un, .un, .un]) (vs := [4, 5]) (go_t (gos_c go_n (gos_c go_n gos_n))) (pi_sq (pf_dat (px_callP (F := (ap2 F_law_neighbors)) (pm_cons (px_var rfl) (pm_cons (px_var rfl) pm_nil))))) (pg_2 (pg_n (ρ' := fun d => [.dat parts, .dat x0, .dat y, .un, .dat d, .un])) (fun g0_3 => (pg_n (ρ' := fun d => [.dat parts, .dat x0, .dat y, .un, .dat g0_3, .dat d])))) (fun p_1 => (pt_test (Px.vw (px_op ok_eq (Px.vw (px_var rfl)) (Px.vw (px_var rfl)))))) (fun p_1 => (px_var rfl)))) (Nat.le_of_ble_eq_true rfl) (fun found_2 => (psr_ret (px_ifE (pt_test (Px.vw (px_op ok_ne (Px.vw (px_var rfl)) (Px.vw (Px.frz (px_lst pm_nil)))))) (px_op ok_ix (Px.vw (px_var rfl)) (Px.vw px_int)) (px_tup (pm_cons px_int (pm_cons px_int pm_nil)))))))
def F_is_positive (value : PyData) : W Unit PyData := (wandV (wbind (wl [(wpure value)]) fun as => wlift ((ap1 F_is_rational) as)) (wbind (wbind (wpure value) fun a => wbind (wpure (.int 0)) fun b => wlift (oix a b)) fun a => wbind (wpure (.int 0)) fun b => wlift (ogt a b)))
theorem ok_is_positive (T : Env K mg base) : FnG P w K mg base CX0 3 T.a_is_positive T.fd_is_positive ["value"] (spP K (S := Unit) .dat [.dat] (ap1 F_is_positive)) := by
  refine okP T.F_is_positive sc_is_positive rfl fun cdv A outer s H E hr => ⟨_, (pss_one (ps_ret (pe_and (pe_g (ok_is_rational T _ (hr.mono (by first | decide | omega | (simp only [Nat.add_eq]; omega) | (show _ ≤ _ + _; omega)))) (by rfl) T.m_is_rational T.F_is_rational.kp (cb_pos T.F_is_rational (n := 1) (ps := ["value"]) (fun _ _ _ _ _ _ us h1 => match us, h1 with | [_], _ => rfl)) pass0 (pa_cons (pv 0) pa_nil)) (pe_one (pe_cmpR op_gt (pe_ix (ix_K (K := K) rfl hr.u1) (pv 0) pe_int (fun _ _ => rfl)) pe_int (nomark _)))))), fun ds hl => ?_⟩
  match ds, hl with
  | [value], _ =>
    show Psr (S := Unit) K _ .dat [.dat value] (F_is_positive value)
    exact (psr_ret (px_andV (Px.vw (px_callP (F := (ap1 F_is_rational)) (pm_cons (px_var rfl) pm_nil))) (px_op ok_gt (Px.vw (px_op ok_ix (Px.vw (px_var rfl)) (Px.vw px_int))) (Px.vw px_int))))
def F_is_nonnegative (value : PyData) : W Unit PyData := (wandV (wbind (wl [(wpure value)]) fun as => wlift ((ap1 F_is_rational) as)) (wbind (wbind (wpure value) fun a => wbind (wpure (.int 0)) fun b => wlift (oix a b)) fun a => wbind (wpure (.int 0)) fun b => wlift (oge a b)))
theorem ok_is_nonnegative (T : Env K mg base) : FnG P w K mg base CX0 3 T.a_is_nonnegative T.fd_is_nonnegative ["value"] (spP K (S := Unit) .dat [.dat] (ap1 F_is_nonnegative)) := by
  refine okP T.F_is_nonnegative sc_is_nonnegative rfl fun cdv A outer s H E hr => ⟨_, (pss_one (ps_ret (pe_and (pe_g (ok_is_rational T _ (hr.mono (by first | decide | omega | (simp only [Nat.add_eq]; omega) | (show _ ≤ _ + _; omega)))) (by rfl) T.m_is_rational T.F_is_rational.kp (cb_pos T.F_is_rational (n := 1) (ps := ["value"]) (fun _ _ _ _ _ _ us h1 => match us, h1 with | [_], _ => rfl)) pass0 (pa_cons (pv 0) pa_nil)) (pe_one (pe_cmpR op_ge (pe_ix (ix_K (K := K) rfl hr.u1) (pv 0) pe_int (fun _ _ => rfl)) pe_int (nomark _)))))), fun ds hl => ?_⟩
  match ds, hl with
  | [value], _ =>
    show Psr (S := Unit) K _ .dat [.dat value] (F_is_nonnegative value)
    exact (psr_ret (px_andV (Px.vw (px_callP (F := (ap1 F_is_rational)) (pm_cons (px_var rfl) pm_nil))) (px_op ok_ge (Px.vw (px_op ok_ix (Px.vw (px_var rfl)) (Px.vw px_int))) (Px.vw px_int))))
def F_law_parts : W DS PyData := (wbind (wbind (wl [(wpure .none), (wpure (.int 9))]) (apD (ap1 F_law_draw))) fun ice_count_1 => (wbind (wbind (wl [(wpure .none), (wpure (.int 5))]) (apD (ap1 F_law_draw))) fun spring_count_2 => (wbind (wbind (wl [(wpure .none), (wpure (.int 3))]) (apD (ap1 F_law_draw))) fun density_3 => (wbind (wbind (wl [(wpure .none), (wbind (wpure ice_count_1) fun a => wbind (wpure spring_count_2) fun b => wlift (oadd a b))]) (apD (ap1 F_law_names))) fun names_4 => (wbind (wbind (wl [(wbind (wbind (wbind (wl [(wbind (wpure names_4) fun a => wbind (wpure none) fun lo => wbind (wbind (wpure ice_count_1) toI) fun hi => wlift (osl a lo hi))]) fun as => wlift (osorted as)) fun d => wlift (wseq d)) fun it => wmapS (fun x => wbind (wpure x) fun name_5 => (wbind (wl [(wpure name_5), (wbind (wl [(wpure .none), (wpure (.int 1))]) (apD (ap1 F_law_rational)))]) fun as => wpure (PyData.tuple as))) it)]) fun as => wlift (otuple as)) fun ice_6 => (wbind (wbind (wl [(wbind (wbind (wbind (wl [(wbind (wpure names_4) fun a => wbind (wbind (wpure ice_count_1) toI) fun lo => wbind (wpure none) fun hi => wlift (osl a lo hi))]) fun as => wlift (osorted as)) fun d => wlift (wseq d)) fun it => wmapS (fun x => wbind (wpure x) fun name_7 => (wbind (wl [(wpure name_7), (wbind (wl [(wpure .none), (wpure (.int 0))]) (apD (ap1 F_law_rational)))]) fun as => wpure (PyData.tuple as))) it)]) fun as => wlift (otuple as)) fun sources_8 => (wbind (wbind (wl [(wpure names_4)]) fun as => wlift (osorted as)) fun names_9 => (wbind (wbind (wl []) fun as => wpure (.list as)) fun links_10 => (wbind (wbind (wbind (wl [(wbind (wl [(wpure names_9)]) fun as => wlift (olen as))]) fun as => wlift (wrange1 as)) fun it => wforn (fun x a_11 => wbind (wpure x) fun k_12 => (wbind (wbind (wbind (wbind (wpure names_9) fun a => wbind (wbind (wbind (wpure k_12) fun a => wbind (wpure (.int 1)) fun b => wlift (oadd a b)) toI) fun lo => wbind (wpure none) fun hi => wlift (osl a lo hi)) fun d => wlift (wseq d)) fun it => wforn (fun x a_13 => wbind (wpure x) fun name_14 => (wbind (wite (wB (wbind (wbind (wl [(wpure .none), (wpure (.int 4))]) (apD (ap1 F_law_draw))) fun a => wbind (wbind (wbind (wl [(wpure (.int 1)), (wpure (.int 2)), (wpure (.int 4))]) fun as => wpure (.list as)) fun a => wbind (wpure density_3) fun b => wlift (oix a b)) fun b => wlift (olt a b))) (wbind (wapp a_13 (wbind (wl [(wbind (wpure names_9) fun a => wbind (wpure k_12) fun b => wlift (oix a b)), (wpure name_14), (wbind (wl [(wpure .none), (wpure (.int 1))]) (apD (ap1 F_law_rational)))]) fun as => wpure (PyData.tuple as))) fun links_16 => (wpure links_16)) (wpure a_13)) fun links_15 => (wpure links_15))) it a_11) fun r_17 => (wpure r_17))) it links_10) fun r_18 => (wbind (wl [(wpure ice_6), (wpure sources_8), (wbind (wl [(wbind (wpure r_18) fun a => wbind (wpure none) fun lo => wbind (wbind (wpure (.int 30)) toI) fun hi => wlift (osl a lo hi))]) fun as => wlift (otuple as))]) fun as => wpure (PyData.tuple as)))))))))))
theorem ok_law_parts (T : Env K mg base) : FnG P w K mg base CX0 3 T.a_law_parts T.fd_law_parts ["_law_deck_here"] (spP K (S := DR) .dat [.dk] (apD (ap0 F_law_parts))) := by
  refine okP T.F_law_parts sc_law_parts rfl fun cdv A outer s H E hr => ⟨_, (pss_cons (ps_par3 (i := 5) (j := 6) (l := 7) (by rfl) sc_law_parts.nd rfl rfl rfl (by decide) (by decide) (by decide) rfl rfl rfl (pa_cons (pe_g (ok_law_draw T _ (hr.mono (by first | decide | omega | (simp only [Nat.add_eq]; omega) | (show _ ≤ _ + _; omega)))) (by rfl) T.m_law_draw T.F_law_draw.kp (cb_pos T.F_law_draw (n := 2) (ps := ["_law_deck_here", "_law_count"]) (fun _ _ _ _ _ _ us h1 => match us, h1 with | [_, _], _ => rfl)) pass0 (pa_cons (pv 0) (pa_cons pe_int pa_nil))) (pa_cons (pe_g (ok_law_draw T _ (hr.mono (by first | decide | omega | (simp only [Nat.add_eq]; omega) | (show _ ≤ _ + _; omega)))) (by rfl) T.m_law_draw T.F_law_draw.kp (cb_pos T.F_law_draw (n := 2) (ps := ["_law_deck_here", "_law_count"]) (fun _ _ _ _ _ _ us h1 => match us, h1 with | [_, _], _ => rfl)) pass0 (pa_cons (pv 0) (pa_cons pe_int pa_nil))) (pa_cons (pe_g (ok_law_draw T _ (hr.mono (by first | decide | omega | (simp only [Nat.add_eq]; omega) | (show _ ≤ _ + _; omega)))) (by rfl) T.m_law_draw T.F_law_draw.kp (cb_pos T.F_law_draw (n := 2) (ps := ["_law_deck_here", "_law_count"]) (fun _ _ _ _ _ _ us h1 => match us, h1 with | [_, _], _ => rfl)) pass0 (pa_cons (pv 0) (pa_cons pe_int pa_nil))) pa_nil))) (by rfl)) (pss_cons (ps_set (i := 1) sc_law_parts.nd rfl (.inl rfl) (pe_g (ok_law_names T _ (hr.mono (by first | decide | omega | (simp only [Nat.add_eq]; omega) | (show _ ≤ _ + _; omega)))) (by rfl) T.m_law_names T.F_law_names.kp (cb_pos T.F_law_names (n := 2) (ps := ["_law_deck_here", "_law_count"]) (fun _ _ _ _ _ _ us h1 => match us, h1 with | [_, _], _ => rfl)) pass0 (pa_cons (pv 0) (pa_cons (pe_op (op_addK (K := K) rfl) (pv 5) (pv 6)) pa_nil)))) (pss_cons (ps_set (i := 2) sc_law_parts.nd rfl (.inl rfl) (pe_callTy (T := "tuple") (call_tupleK (K := K) rfl) (by rfl) T.b_tuple (by decide +kernel) (pa_cons (pe_lc (own := [("_law_name", 9)]) (g := (gName 9)) rfl sc_law_parts.nd (pi_seqK (K := K) rfl (pe_callB (id := "sorted") (call_sortK (K := K) rfl rfl) (by rfl) T.b_sorted (by decide +kernel) (pa_cons (pe_slice (sl_K (K := K) rfl) (pv 1) po_none (po_some (pv 5))) pa_nil))) (blkOk_by (own := [("_law_name", 9)]) (N := ["_law_deck_here", "_law_names_here", "_law_ice", "_law_sources", "_law_k", "_law_ice_count", "_law_spring_count", "_law_density", "_law_links", "_law_name"]) (sc := defScope s_law_parts) (by decide +kernel)) (fun _ _ _ _ _ => (pg_name (i := 9) sc_law_parts.nd rfl (.inl rfl))) (fun _ _ _ _ _ => pts_nil) (fun _ _ _ _ _ => (pe_tupZ (pa_cons (pv 9) (pa_cons (pe_g (ok_law_rational T _ (hr.mono (by first | decide | omega | (simp only [Nat.add_eq]; omega) | (show _ ≤ _ + _; omega)))) (by rfl) T.m_law_rational T.F_law_rational.kp (cb_pos T.F_law_rational (n := 2) (ps := ["_law_deck_here", "_law_minimum"]) (fun _ _ _ _ _ _ us h1 => match us, h1 with | [_, _], _ => rfl)) pass0 (pa_cons (pv 0) (pa_cons pe_int pa_nil))) pa_nil))))) pa_nil))) (pss_cons (ps_set (i := 3) sc_law_parts.nd rfl (.inl rfl) (pe_callTy (T := "tuple") (call_tupleK (K := K) rfl) (by rfl) T.b_tuple (by decide +kernel) (pa_cons (pe_lc (own := [("_law_name", 9)]) (g := (gName 9)) rfl sc_law_parts.nd (pi_seqK (K := K) rfl (pe_callB (id := "sorted") (call_sortK (K := K) rfl rfl) (by rfl) T.b_sorted (by decide +kernel) (pa_cons (pe_slice (sl_K (K := K) rfl) (pv 1) (po_some (pv 5)) po_none) pa_nil))) (blkOk_by (own := [("_law_name", 9)]) (N := ["_law_deck_here", "_law_names_here", "_law_ice", "_law_sources", "_law_k", "_law_ice_count", "_law_spring_count", "_law_density", "_law_links", "_law_name"]) (sc := defScope s_law_parts) (by decide +kernel)) (fun _ _ _ _ _ => (pg_name (i := 9) sc_law_parts.nd rfl (.inl rfl))) (fun _ _ _ _ _ => pts_nil) (fun _ _ _ _ _ => (pe_tupZ (pa_cons (pv 9) (pa_cons (pe_g (ok_law_rational T _ (hr.mono (by first | decide | omega | (simp only [Nat.add_eq]; omega) | (show _ ≤ _ + _; omega)))) (by rfl) T.m_law_rational T.F_law_rational.kp (cb_pos T.F_law_rational (n := 2) (ps := ["_law_deck_here", "_law_minimum"]) (fun _ _ _ _ _ _ us h1 => match us, h1 with | [_, _], _ => rfl)) pass0 (pa_cons (pv 0) (pa_cons pe_int pa_nil))) pa_nil))))) pa_nil))) (pss_cons (ps_par (i := 1) (j := 8) (by rfl) sc_law_parts.nd rfl rfl (by decide) rfl rfl (pa_cons (pe_callB (id := "sorted") (call_sortK (K := K) rfl rfl) (by rfl) T.b_sorted (by decide +kernel) (pa_cons (pv 1) pa_nil)) (pa_cons (pe_lst pa_nil) pa_nil)) (by rfl)) (pss_cons (ps_for PassesOwn.never rfl (pi_range1 (by rfl) T.b_range (pa_cons (pe_callB (id := "len") (call_lenK (K := K) rfl) (by rfl) T.b_len (by decide +kernel) (pa_cons (pv 1) pa_nil)) pa_nil)) (pg_name (i := 4) sc_law_parts.nd rfl (.inl rfl)) (pss_cons (ps_for PassesOwn.never rfl (pi_seqK (K := K) rfl (pe_slice (sl_K (K := K) rfl) (pv 1) (po_some (pe_op (op_addK (K := K) rfl) (pv 4) pe_int)) po_none)) (pg_name (i := 9) sc_law_parts.nd rfl (.inl rfl)) (pss_cons (ps_if (pt_cmpR (op_ltK (K := K) rfl hr.units0) (pe_g (ok_law_draw T _ (hr.mono (by first | decide | omega | (simp only [Nat.add_eq]; omega) | (show _ ≤ _ + _; omega)))) (by rfl) T.m_law_draw T.F_law_draw.kp (cb_pos T.F_law_draw (n := 2) (ps := ["_law_deck_here", "_law_count"]) (fun _ _ _ _ _ _ us h1 => match us, h1 with | [_, _], _ => rfl)) pass0 (pa_cons (pv 0) (pa_cons pe_int pa_nil))) (pe_ix (ix_K (K := K) rfl hr.u1) (pe_lst (pa_cons pe_int (pa_cons pe_int (pa_cons pe_int pa_nil)))) (pv 7) (fun _ _ => rfl)) (nomark _)) (pss_cons (ps_expr (pe_appendK (K := K) rfl (pv 8) (pe_tupZ (pa_cons (pe_ix (ix_K (K := K) rfl hr.u1) (pv 1) (pv 4) (fun _ _ => rfl)) (pa_cons (pv 9) (pa_cons (pe_g (ok_law_rational T _ (hr.mono (by first | decide | omega | (simp only [Nat.add_eq]; omega) | (show _ ≤ _ + _; omega)))) (by rfl) T.m_law_rational T.F_law_rational.kp (cb_pos T.F_law_rational (n := 2) (ps := ["_law_deck_here", "_law_minimum"]) (fun _ _ _ _ _ _ us h1 => match us, h1 with | [_, _], _ => rfl)) pass0 (pa_cons (pv 0) (pa_cons pe_int pa_nil))) pa_nil)))))) pss_nil) pss_nil) pss_nil)) pss_nil)) (pss_one (ps_ret (pe_tupZ (pa_cons (pv 2) (pa_cons (pv 3) (pa_cons (pe_callTy (T := "tuple") (call_tupleK (K := K) rfl) (by rfl) T.b_tuple (by decide +kernel) (pa_cons (pe_slice (sl_K (K := K) rfl) (pv 8) po_none (po_some pe_int)) pa_nil)) pa_nil)))))))))))), fun ds hl => ?_⟩
  match ds, hl with
  | [_], _ =>
    show Psr (S := DR) K _ .dat [.dk, .un, .un, .un, .un, .un, .un, .un, .un, .un] (F_law_parts)
    exact (psr_par3 (k1 := .dat) (k2 := .dat) (k3 := .dat) (i := 5) (j := 6) (l := 7) (ρ' := fun ice_count_1 spring_count_2 density_3 => [.dk, .un, .un, .un, .un, .dat ice_count_1, .dat spring_count_2, .dat density_3, .un, .un]) (px_callD (S := DR) (F := (apD (ap1 F_law_draw))) (pm_cons (px_dk rfl) (pm_cons px_int pm_nil))) (px_callD (S := DR) (F := (apD (ap1 F_law_draw))) (pm_cons (px_dk rfl) (pm_cons px_int pm_nil))) (px_callD (S := DR) (F := (apD (ap1 F_law_draw))) (pm_cons (px_dk rfl) (pm_cons px_int pm_nil))) (Nat.le_of_ble_eq_true rfl) (Nat.le_of_ble_eq_true rfl) (Nat.le_of_ble_eq_true rfl) (fun ice_count_1 spring_count_2 density_3 => (psr_let (i := 1) (ρ' := fun names_4 => [.dk, .dat names_4, .un, .un, .un, .dat ice_count_1, .dat spring_count_2, .dat density_3, .un, .un]) (px_callD (S := DR) (F := (apD (ap1 F_law_names))) (pm_cons (px_dk rfl) (pm_cons (px_op ok_add (Px.vw (px_var rfl)) (Px.vw (px_var rfl))) pm_nil))) (Nat.le_of_ble_eq_true rfl) (fun names_4 => (psr_let (i := 2) (ρ' := fun ice_6 => [.dk, .dat names_4, .dat ice_6, .un, .un, .dat ice_count_1, .dat spring_count_2, .dat density_3, .un, .un]) (px_cb ok_tuple (pm_cons (Px.vw (Px.frz (px_lc1 (ρv := [.dk, .dat names_4, .un, .un, .un, .dat ice_count_1, .dat spring_count_2, .dat density_3, .un, .un]) (ρ2 := [.dk, .dat names_4, .un, .un, .un, .dat ice_count_1, .dat spring_count_2, .dat density_3, .un, .un]) (vs := [9]) go_n (pi_sq (pf_dat (Px.frz (px_cb ok_sorted (pm_cons (Px.vw (px_sl ok_sl (Px.vw (px_var rfl)) po_n (po_s (Px.vw (px_var rfl))))) pm_nil))))) (pg_n (ρ' := fun d => [.dk, .dat names_4, .un, .un, .un, .dat ice_count_1, .dat spring_count_2, .dat density_3, .un, .dat d])) (fun name_5 => (px_tup (pm_cons (px_var rfl) (pm_cons (px_callD (S := DR) (F := (apD (ap1 F_law_rational))) (pm_cons (px_dk rfl) (pm_cons px_int pm_nil))) pm_nil))))))) pm_nil)) (Nat.le_of_ble_eq_true rfl) (fun ice_6 => (psr_let (i := 3) (ρ' := fun sources_8 => [.dk, .dat names_4, .dat ice_6, .dat sources_8, .un, .dat ice_count_1, .dat spring_count_2, .dat density_3, .un, .un]) (px_cb ok_tuple (pm_cons (Px.vw (Px.frz (px_lc1 (ρv := [.dk, .dat names_4, .dat ice_6, .un, .un, .dat ice_count_1, .dat spring_count_2, .dat density_3, .un, .un]) (ρ2 := [.dk, .dat names_4, .dat ice_6, .un, .un, .dat ice_count_1, .dat spring_count_2, .dat density_3, .un, .un]) (vs := [9]) go_n (pi_sq (pf_dat (Px.frz (px_cb ok_sorted (pm_cons (Px.vw (px_sl ok_sl (Px.vw (px_var rfl)) (po_s (Px.vw (px_var rfl))) po_n)) pm_nil))))) (pg_n (ρ' := fun d => [.dk, .dat names_4, .dat ice_6, .un, .un, .dat ice_count_1, .dat spring_count_2, .dat density_3, .un, .dat d])) (fun name_7 => (px_tup (pm_cons (px_var rfl) (pm_cons (px_callD (S := DR) (F := (apD (ap1 F_law_rational))) (pm_cons (px_dk rfl) (pm_cons px_int pm_nil))) pm_nil))))))) pm_nil)) (Nat.le_of_ble_eq_true rfl) (fun sources_8 => (psr_par (k1 := .dat) (k2 := .own) (i := 1) (j := 8) (ρ' := fun names_9 links_10 => [.dk, .dat names_9, .dat ice_6, .dat sources_8, .un, .dat ice_count_1, .dat spring_count_2, .dat density_3, .own links_10, .un]) (Px.frz (px_cb ok_sorted (pm_cons (Px.vw (px_var rfl)) pm_nil))) (px_lst pm_nil) (Nat.le_of_ble_eq_true rfl) (Nat.le_of_ble_eq_true rfl) (fun names_9 links_10 => (psr_seqn (α := PyData) (env := fun a => [.dk, .dat names_9, .dat ice_6, .dat sources_8, .un, .dat ice_count_1, .dat spring_count_2, .dat density_3, .own a, .un]) (psn_for (α := PyData) (env := fun a => [.dk, .dat names_9, .dat ice_6, .dat sources_8, .un, .dat ice_count_1, .dat spring_count_2, .dat density_3, .own a, .un]) [true, true, true, true, false, true, true, true, true, false] (pi_rng1 (pm_cons (px_cb ok_len (pm_cons (Px.vw (px_var rfl)) pm_nil)) pm_nil)) (fun a_11 => (pg_n (ρ' := fun d => [.dk, .dat names_9, .dat ice_6, .dat sources_8, .dat d, .dat ice_count_1, .dat spring_count_2, .dat density_3, .own a_11, .un]))) (fun a_11 k_12 => (psn_seqn (α := PyData) (env := fun a => [.dk, .dat names_9, .dat ice_6, .dat sources_8, .dat k_12, .dat ice_count_1, .dat spring_count_2, .dat density_3, .own a, .un]) (psn_for (α := PyData) (env := fun a => [.dk, .dat names_9, .dat ice_6, .dat sources_8, .dat k_12, .dat ice_count_1, .dat spring_count_2, .dat density_3, .own a, .un]) [true, true, true, true, true, true, true, true, true, false] (pi_sq (pf_dat (px_sl ok_sl (Px.vw (px_var rfl)) (po_s (Px.vw (px_op ok_add (Px.vw (px_var rfl)) (Px.vw px_int)))) po_n))) (fun a_13 => (pg_n (ρ' := fun d => [.dk, .dat names_9, .dat ice_6, .dat sources_8, .dat k_12, .dat ice_count_1, .dat spring_count_2, .dat density_3, .own a_13, .dat d]))) (fun a_13 name_14 => (psn_seqn (α := PyData) (env := fun a => [.dk, .dat names_9, .dat ice_6, .dat sources_8, .dat k_12, .dat ice_count_1, .dat spring_count_2, .dat density_3, .own a, .dat name_14]) (psn_if (pt_test (Px.vw (px_op ok_lt (Px.vw (px_callD (S := DR) (F := (apD (ap1 F_law_draw))) (pm_cons (px_dk rfl) (pm_cons px_int pm_nil)))) (Px.vw (px_op ok_ix (Px.vw (Px.frz (px_lst (pm_cons px_int (pm_cons px_int (pm_cons px_int pm_nil)))))) (Px.vw (px_var rfl))))))) (psn_app (ρ' := fun links_16 => [.dk, .dat names_9, .dat ice_6, .dat sources_8, .dat k_12, .dat ice_count_1, .dat spring_count_2, .dat density_3, .own links_16, .dat name_14]) rfl (px_tup (pm_cons (px_op ok_ix (Px.vw (px_var rfl)) (Px.vw (px_var rfl))) (pm_cons (px_var rfl) (pm_cons (px_callD (S := DR) (F := (apD (ap1 F_law_rational))) (pm_cons (px_dk rfl) (pm_cons px_int pm_nil))) pm_nil)))) (fun links_16 => (psn_nil [true, true, true, true, true, true, true, true, true, true]))) (psn_nil [true, true, true, true, true, true, true, true, true, true])) (fun links_15 => (psn_nil [true, true, true, true, true, true, true, true, true, false]))))) (fun r_17 => (psn_nil [true, true, true, true, false, true, true, true, true, false]))))) (fun r_18 => (psr_frz (i := 8) (ρ' := [.dk, .dat names_9, .dat ice_6, .dat sources_8, .un, .dat ice_count_1, .dat spring_count_2, .dat density_3, .dat r_18, .un]) rfl (psr_ret (px_tup (pm_cons (px_var rfl) (pm_cons (px_var rfl) (pm_cons (px_cb ok_tuple (pm_cons (Px.vw (px_sl ok_sl (Px.vw (px_var rfl)) po_n (po_s (Px.vw px_int)))) pm_nil)) pm_nil))))))))))))))))))
def F_are_nodes (value : PyData) (is_allowed : PyData) : W Unit PyData := (wite (wnot (wB (wbind (wpure value) fun d => wlift (isTy "tuple" d)))) (wpure (.bool false)) (fthen (wbind (wbind (wpure value) fun d => wlift (wseq d)) fun it => wfor (fun x a_1 => wbind (wpure x) fun entry_2 => (wite (wor (wnot (wB (wbind (wpure entry_2) fun d => wlift (isTy "tuple" d)))) (wor (wB (wbind (wbind (wl [(wpure entry_2)]) fun as => wlift (olen as)) fun a => wbind (wpure (.int 2)) fun b => wlift (one a b))) (wor (wnot (wB (wbind (wl [(wbind (wpure entry_2) fun a => wbind (wpure (.int 0)) fun b => wlift (oix a b))]) fun as => wlift ((ap1 F_is_name) as)))) (wnot (wB (wfnc (tab2 "is_positive" (ap1 F_is_positive) "is_nonnegative" (ap1 F_is_nonnegative)) (fun G => wbind (wl [(wbind (wpure entry_2) fun a => wbind (wpure (.int 1)) fun b => wlift (oix a b))]) fun as => wlift (G as)) is_allowed)))))) (wret (wpure (.bool false))) (wnx ()))) it ()) fun r_3 => (wbind (wl [(wbind (wbind (wpure value) fun d => wlift (wseq d)) fun it => wmapS (fun x => wbind ((fun x => w2 x fun x1 x2 => wbind (wpure x1) fun a => wbind (wpure x2) fun b => wpure (a, b)) x) fun p_5 => (wpure p_5.1)) it)]) fun as => wlift ((ap1 F_is_ascending) as))))
theorem ok_are_nodes (T : Env K mg base) : FnG P w K mg base CX0 4 T.a_are_nodes T.fd_are_nodes ["value", "is_allowed"] (spP K (S := Unit) .dat [.dat, .dat] (ap2 F_are_nodes)) := by
  refine okP T.F_are_nodes sc_are_nodes rfl fun cdv A outer s H E hr => ⟨_, (pss_cons (ps_if (pt_not (pt_val (pe_callB (id := "isinstance") (call_isiK (K := K) rfl) (by rfl) T.b_isinstance (by decide +kernel) (pa_cons (pv 0) (pa_cons (pe_bltn (v := .ty "tuple") (by rfl) T.b_tuple (by decide +kernel) rfl) pa_nil))))) (pss_one (ps_ret pe_bl)) pss_nil) (pss_cons (ps_for PassesOwn.never rfl (pi_seqK (K := K) rfl (pv 0)) (pg_name (i := 2) sc_are_nodes.nd rfl (.inl rfl)) (pss_cons (ps_if (PW.pt (pw_or (pt_not (pt_val (pe_callB (id := "isinstance") (call_isiK (K := K) rfl) (by rfl) T.b_isinstance (by decide +kernel) (pa_cons (pv 2) (pa_cons (pe_bltn (v := .ty "tuple") (by rfl) T.b_tuple (by decide +kernel) rfl) pa_nil))))) (pw_or (pt_cmpR (op_neK (K := K) rfl hr.units0) (pe_callB (id := "len") (call_lenK (K := K) rfl) (by rfl) T.b_len (by decide +kernel) (pa_cons (pv 2) pa_nil)) pe_int (nomark _)) (pw_or (pt_not (pt_val (pe_g (ok_is_name T _ (hr.mono (by first | decide | omega | (simp only [Nat.add_eq]; omega) | (show _ ≤ _ + _; omega)))) (by rfl) T.m_is_name T.F_is_name.kp (cb_pos T.F_is_name (n := 1) (ps := ["value"]) (fun _ _ _ _ _ _ us h1 => match us, h1 with | [_], _ => rfl)) pass0 (pa_cons (pe_ix (ix_K (K := K) rfl hr.u1) (pv 2) pe_int (fun _ _ => rfl)) pa_nil)))) (pw_or1 (pt_not (pt_val (pe_callF (i := 1) rfl (by first | exact Or.inl rfl | exact Or.inr (Or.inl rfl) | exact Or.inr (Or.inr rfl)) (tab2_ok (ks := [.dat]) T.cn_is_positive (ok_is_positive T _ (hr.mono (by decide))) T.F_is_positive.kp (cb_pos T.F_is_positive (n := 1) (ps := ["value"]) (fun _ _ _ _ _ _ us h1 => match us, h1 with | [_], _ => rfl)) T.cn_is_nonnegative (ok_is_nonnegative T _ (hr.mono (by decide))) T.F_is_nonnegative.kp (cb_pos T.F_is_nonnegative (n := 1) (ps := ["value"]) (fun _ _ _ _ _ _ us h1 => match us, h1 with | [_], _ => rfl))) pass0 (pa_cons (pe_ix (ix_K (K := K) rfl hr.u1) (pv 2) pe_int (fun _ _ => rfl)) pa_nil))))))))) (pss_one (ps_ret pe_bl)) pss_nil) pss_nil)) (pss_one (ps_ret (pe_g (ok_is_ascending T _ (hr.mono (by first | decide | omega | (simp only [Nat.add_eq]; omega) | (show _ ≤ _ + _; omega)))) (by rfl) T.m_is_ascending T.F_is_ascending.kp (cb_pos T.F_is_ascending (n := 1) (ps := ["items"]) (fun _ _ _ _ _ _ us h1 => match us, h1 with | [_], _ => rfl)) pass0 (pa_cons (pe_lc (own := [("name", 3), ("number", 4)]) (g := (gTup K 2 (gCons (gName 3) (gCons (gName 4) gNil)))) rfl sc_are_nodes.nd (pi_seqK (K := K) rfl (pv 0)) (blkOk_by (own := [("name", 3), ("number", 4)]) (N := ["value", "is_allowed", "entry", "name", "number"]) (sc := defScope s_are_nodes) (by decide +kernel)) (fun _ _ _ _ _ => (pg_tupK (K := K) (n := 2) rfl rfl (pgs_cons (pg_name (i := 3) sc_are_nodes.nd rfl (.inl rfl)) (pgs_cons (pg_name (i := 4) sc_are_nodes.nd rfl (.inl rfl)) pgs_nil)) rfl rfl)) (fun _ _ _ _ _ => pts_nil) (fun _ _ _ _ _ => (pv 3))) pa_nil)))))), fun ds hl => ?_⟩
  match ds, hl with
  | [value, is_allowed], _ =>
    show Psr (S := Unit) K _ .dat [.dat value, .dat is_allowed, .un, .un, .un] (F_are_nodes value is_allowed)
    exact (psr_ifr (pt_not' (pt_B (Px.vw (px_isi (Px.vw (px_var rfl)))))) (psr_ret px_bl) (psr_seq (α := Unit) (env := fun a => [.dat value, .dat is_allowed, .un, .un, .un]) (pst_for (α := Unit) (env := fun a => [.dat value, .dat is_allowed, .un, .un, .un]) [true, true, false, false, false] (pi_sq (pf_dat (px_var rfl))) (fun a_1 => (pg_n (ρ' := fun d => [.dat value, .dat is_allowed, .dat d, .un, .un]))) (fun a_1 entry_2 => (pst_ifr (pt_or' (pt_not' (pt_B (Px.vw (px_isi (Px.vw (px_var rfl)))))) (pt_or' (pt_test (Px.vw (px_op ok_ne (Px.vw (px_cb ok_len (pm_cons (Px.vw (px_var rfl)) pm_nil))) (Px.vw px_int)))) (pt_or' (pt_not' (pt_B (Px.vw (px_callP (F := (ap1 F_is_name)) (pm_cons (px_op ok_ix (Px.vw (px_var rfl)) (Px.vw px_int)) pm_nil))))) (pt_not' (pt_B (Px.vw (px_callF (T := (tab2 "is_positive" (ap1 F_is_positive) "is_nonnegative" (ap1 F_is_nonnegative))) rfl (pm_cons (px_op ok_ix (Px.vw (px_var rfl)) (Px.vw px_int)) pm_nil)))))))) (psr_ret px_bl) (pst_nil [true, true, false, false, false])))) (fun r_3 => (psr_ret (px_callP (F := (ap1 F_is_ascending)) (pm_cons (Px.frz (px_lc1 (ρv := [.dat value, .dat is_allowed, .un, .un, .un]) (ρ2 := [.dat value, .dat is_allowed, .un, .un, .un]) (vs := [3, 4]) (go_t (gos_c go_n (gos_c go_n gos_n))) (pi_sq (pf_dat (px_var rfl))) (pg_2 (pg_n (ρ' := fun d => [.dat value, .dat is_allowed, .un, .dat d, .un])) (fun g0_3 => (pg_n (ρ' := fun d => [.dat value, .dat is_allowed, .un, .dat g0_3, .dat d])))) (fun p_5 => (px_var rfl)))) pm_nil))))))
def F_is_channel (value : PyData) (nodes : PyData) : W Unit PyData := (wite (wor (wnot (wB (wbind (wpure value) fun d => wlift (isTy "tuple" d)))) (wB (wbind (wbind (wl [(wpure value)]) fun as => wlift (olen as)) fun a => wbind (wpure (.int 3)) fun b => wlift (one a b)))) (wpure (.bool false)) (wbind (wpure value) fun x => wbind ((fun x => w3 x fun x1 x2 x3 => wbind (wpure x1) fun a => wbind (wpure x2) fun b => wbind (wpure x3) fun c => wpure (a, b, c)) x) fun p_1 => (wandV (wbind (wpure p_1.1) fun a => wbind (wpure nodes) fun b => wlift (oin a b)) (wandV (wbind (wpure p_1.2.1) fun a => wbind (wpure nodes) fun b => wlift (oin a b)) (wandV (wbind (wpure p_1.1) fun a => wbind (wpure p_1.2.1) fun b => wlift (olt a b)) (wbind (wl [(wpure p_1.2.2)]) fun as => wlift ((ap1 F_is_positive) as)))))))
theorem ok_is_channel (T : Env K mg base) : FnG P w K mg base CX0 4 T.a_is_channel T.fd_is_channel ["value", "nodes"] (spP K (S := Unit) .dat [.dat, .dat] (ap2 F_is_channel)) := by
  refine okP T.F_is_channel sc_is_channel rfl fun cdv A outer s H E hr => ⟨_, (pss_cons (ps_if (PW.pt (pw_or (pt_not (pt_val (pe_callB (id := "isinstance") (call_isiK (K := K) rfl) (by rfl) T.b_isinstance (by decide +kernel) (pa_cons (pv 0) (pa_cons (pe_bltn (v := .ty "tuple") (by rfl) T.b_tuple (by decide +kernel) rfl) pa_nil))))) (pw_or1 (pt_cmpR (op_neK (K := K) rfl hr.units0) (pe_callB (id := "len") (call_lenK (K := K) rfl) (by rfl) T.b_len (by decide +kernel) (pa_cons (pv 0) pa_nil)) pe_int (nomark _))))) (pss_one (ps_ret pe_bl)) pss_nil) (pss_cons (ps_asg (pv 0) (pg_tupK (K := K) (n := 3) rfl rfl (pgs_cons (pg_name (i := 2) sc_is_channel.nd rfl (.inl rfl)) (pgs_cons (pg_name (i := 3) sc_is_channel.nd rfl (.inl rfl)) (pgs_cons (pg_name (i := 4) sc_is_channel.nd rfl (.inl rfl)) pgs_nil))) rfl rfl)) (pss_one (ps_ret (pe_and (pe_cmpR (op_inK (K := K) rfl hr.u1) (pv 2) (pv 1) (by rfl)) (pe_and (pe_cmpR (op_inK (K := K) rfl hr.u1) (pv 3) (pv 1) (by rfl)) (pe_and (pe_cmpR (op_ltK (K := K) rfl hr.units0) (pv 2) (pv 3) (nomark _)) (pe_one (pe_g (ok_is_positive T _ (hr.mono (by first | decide | omega | (simp only [Nat.add_eq]; omega) | (show _ ≤ _ + _; omega)))) (by rfl) T.m_is_positive T.F_is_positive.kp (cb_pos T.F_is_positive (n := 1) (ps := ["value"]) (fun _ _ _ _ _ _ us h1 => match us, h1 with | [_], _ => rfl)) pass0 (pa_cons (pv 4) pa_nil)))))))))), fun ds hl => ?_⟩
  match ds, hl with
  | [value, nodes], _ =>
    show Psr (S := Unit) K _ .dat [.dat value, .dat nodes, .un, .un, .un] (F_is_channel value nodes)
    exact (psr_ifr (pt_or' (pt_not' (pt_B (Px.vw (px_isi (Px.vw (px_var rfl)))))) (pt_test (Px.vw (px_op ok_ne (Px.vw (px_cb ok_len (pm_cons (Px.vw (px_var rfl)) pm_nil))) (Px.vw px_int))))) (psr_ret px_bl) (psr_tgt (.inl ⟨rfl, rfl⟩) (px_var rfl) (pg_3 (pg_n (ρ' := fun d => [.dat value, .dat nodes, .dat d, .un, .un])) (fun g0_3 => (pg_n (ρ' := fun d => [.dat value, .dat nodes, .dat g0_3, .dat d, .un]))) (fun g0_3 g1_3 => (pg_n (ρ' := fun d => [.dat value, .dat nodes, .dat g0_3, .dat g1_3, .dat d])))) (fun p_1 => (psr_ret (px_andV (Px.vw (px_op ok_in (Px.vw (px_var rfl)) (Px.vw (px_var rfl)))) (px_andV (Px.vw (px_op ok_in (Px.vw (px_var rfl)) (Px.vw (px_var rfl)))) (px_andV (Px.vw (px_op ok_lt (Px.vw (px_var rfl)) (Px.vw (px_var rfl)))) (px_callP (F := (ap1 F_is_positive)) (pm_cons (px_var rfl) pm_nil)))))))))
def F_are_channels (value : PyData) (nodes : PyData) : W Unit PyData := (wite (wor (wnot (wB (wbind (wpure value) fun d => wlift (isTy "tuple" d)))) (wnot (wB (wbind (wl [(wbind (wbind (wpure value) fun d => wlift (wseq d)) fun it => wmapS (fun x => wbind (wpure x) fun entry_1 => (wbind (wl [(wpure entry_1), (wpure nodes)]) fun as => wlift ((ap2 F_is_channel) as))) it)]) fun as => wlift (oall as))))) (wpure (.bool false)) (wbind (wl [(wbind (wbind (wpure value) fun d => wlift (wseq d)) fun it => wmapS (fun x => wbind (wpure x) fun entry_3 => (wbind (wpure entry_3) fun a => wbind (wpure none) fun lo => wbind (wbind (wpure (.int 2)) toI) fun hi => wlift (osl a lo hi))) it)]) fun as => wlift ((ap1 F_is_ascending) as)))
theorem ok_are_channels (T : Env K mg base) : FnG P w K mg base CX0 5 T.a_are_channels T.fd_are_channels ["value", "nodes"] (spP K (S := Unit) .dat [.dat, .dat] (ap2 F_are_channels)) := by
  refine okP T.F_are_channels sc_are_channels rfl fun cdv A outer s H E hr => ⟨_, (pss_cons (ps_if (PW.pt (pw_or (pt_not (pt_val (pe_callB (id := "isinstance") (call_isiK (K := K) rfl) (by rfl) T.b_isinstance (by decide +kernel) (pa_cons (pv 0) (pa_cons (pe_bltn (v := .ty "tuple") (by rfl) T.b_tuple (by decide +kernel) rfl) pa_nil))))) (pw_or1 (pt_not (pt_val (pe_callB (id := "all") (call_allK (K := K) rfl) (by rfl) T.b_all (by decide +kernel) (pa_cons (pe_lc (own := [("entry", 2)]) (g := (gName 2)) rfl sc_are_channels.nd (pi_seqK (K := K) rfl (pv 0)) (blkOk_by (own := [("entry", 2)]) (N := ["value", "nodes", "entry"]) (sc := defScope s_are_channels) (by decide +kernel)) (fun _ _ _ _ _ => (pg_name (i := 2) sc_are_channels.nd rfl (.inl rfl))) (fun _ _ _ _ _ => pts_nil) (fun _ _ _ _ _ => (pe_g (ok_is_channel T _ (hr.mono (by first | decide | omega | (simp only [Nat.add_eq]; omega) | (show _ ≤ _ + _; omega)))) (by rfl) T.m_is_channel T.F_is_channel.kp (cb_pos T.F_is_channel (n := 2) (ps := ["value", "nodes"]) (fun _ _ _ _ _ _ us h1 => match us, h1 with | [_, _], _ => rfl)) pass0 (pa_cons (pv 2) (pa_cons (pv 1) pa_nil))))) pa_nil))))))) (pss_one (ps_ret pe_bl)) pss_nil) (pss_one (ps_ret (pe_g (ok_is_ascending T _ (hr.mono (by first | decide | omega | (simp only [Nat.add_eq]; omega) | (show _ ≤ _ + _; omega)))) (by rfl) T.m_is_ascending T.F_is_ascending.kp (cb_pos T.F_is_ascending (n := 1) (ps := ["items"]) (fun _ _ _ _ _ _ us h1 => match us, h1 with | [_], _ => rfl)) pass0 (pa_cons (pe_lc (own := [("entry", 2)]) (g := (gName 2)) rfl sc_are_channels.nd (pi_seqK (K := K) rfl (pv 0)) (blkOk_by (own := [("entry", 2)]) (N := ["value", "nodes", "entry"]) (sc := defScope s_are_channels) (by decide +kernel)) (fun _ _ _ _ _ => (pg_name (i := 2) sc_are_channels.nd rfl (.inl rfl))) (fun _ _ _ _ _ => pts_nil) (fun _ _ _ _ _ => (pe_slice (sl_K (K := K) rfl) (pv 2) po_none (po_some pe_int)))) pa_nil))))), fun ds hl => ?_⟩
  match ds, hl with
  | [value, nodes], _ =>
    show Psr (S := Unit) K _ .dat [.dat value, .dat nodes, .un] (F_are_channels value nodes)
    exact (psr_ifr (pt_or' (pt_not' (pt_B (Px.vw (px_isi (Px.vw (px_var rfl)))))) (pt_not' (pt_B (Px.vw (px_cb ok_all (pm_cons (Px.vw (Px.frz (px_lc1 (ρv := [.dat value, .dat nodes, .un]) (ρ2 := [.dat value, .dat nodes, .un]) (vs := [2]) go_n (pi_sq (pf_dat (px_var rfl))) (pg_n (ρ' := fun d => [.dat value, .dat nodes, .dat d])) (fun entry_1 => (px_callP (F := (ap2 F_is_channel)) (pm_cons (px_var rfl) (pm_cons (px_var rfl) pm_nil))))))) pm_nil)))))) (psr_ret px_bl) (psr_ret (px_callP (F := (ap1 F_is_ascending)) (pm_cons (Px.frz (px_lc1 (ρv := [.dat value, .dat nodes, .un]) (ρ2 := [.dat value, .dat nodes, .un]) (vs := [2]) go_n (pi_sq (pf_dat (px_var rfl))) (pg_n (ρ' := fun d => [.dat value, .dat nodes, .dat d])) (fun entry_3 => (px_sl ok_sl (Px.vw (px_var rfl)) po_n (po_s (Px.vw px_int)))))) pm_nil))))

theorem ok_UnknownName___init__ (T : Env K mg base) : FnG P w K mg base CX0 1 T.a_UnknownName___init__ T.fd_UnknownName___init__ ["self", "name"] (spIni T.c_UnknownName 1 (flI1 tx_name)) :=
  okIni1 T.F_UnknownName___init__ sc_UnknownName___init__ T.ow_UnknownName T.nf_UnknownName_name fun cdv A outer s H E hr => (pss_cons (ps_expr (pe_iniB (by rfl) T.b_KeyError (by decide +kernel) (by kernel_rfl) (by decide +kernel) T.vi_KeyError (by decide +kernel) (by decide) (by decide) (pa_cons (pv 0) (pa_cons pe_str pa_nil)))) (pss_one (ps_stX (pv 0) (pv 1))))
def F_Field_require_node (self : PyData) (node : PyData) : W Unit PyData := wendA (wite (wor (wnot (wB (wbind (wpure node) fun d => wlift (isTy "str" d)))) (wB (wbind (wpure node) fun a => wbind (wbind (wpure self) (wfld "Field" "widths_by_node")) fun b => wlift (onotin a b)))) (wret wfail) (wnx ()))
def X_Field_require_node (self : PyData) (node : PyData) : W Unit PyData := wendA (α := Unit) (fbind (wite (wor (wnot (wB (wbind (wpure node) fun d => wlift (isTy "str" d)))) (wB (wbind (wpure node) fun a => wbind (wbind (wpure self) (wfld "Field" "widths_by_node")) fun b => wlift (onotin a b)))) (wbind (wl [(wpure node)]) fun ds => wpure (.rt (errD tx_h99a8e6 (feI1 tx_name ds)))) (wnx ())) fun u_1 => (wnx ()))
theorem okX_Field_require_node (T : Env K mg base) : FnG P w K mg base (L2.CX P w) 28 T.a_Field_require_node T.fd_Field_require_node ["self", "node"] (spX K (S := Unit) [.dat, .dat] (ap2 X_Field_require_node)) := by
  refine okX2 (α := Unit) (env := fun _ => [.un, .un]) T.F_Field_require_node sc_Field_require_node rfl fun cdv A outer s H E hr => ⟨_, (pss_cons (ps_if (PT.nox (PW.pt (pw_or (pt_not (pt_val (pe_callB (id := "isinstance") (call_isiK (K := K) rfl) (by rfl) T.b_isinstance (by decide +kernel) (pa_cons (pv 1) (pa_cons (pe_bltn (v := .ty "str") (by rfl) T.b_str (by decide +kernel) rfl) pa_nil))))) (pw_or1 (pt_cmpR (op_notInK (K := K) rfl hr.u1) (pv 1) (pe_fldK (K := K) rfl (pv 0)) (by rfl)))))) (pss_one (ps_raise rfl takesX (pmkX (fl := flI1 tx_name) T.ow_UnknownName T.ii_UnknownName T.ti_UnknownName (ok_UnknownName___init__ T) (hr.mono (by decide)) (cb_pos T.F_UnknownName___init__ (n := 2) (ps := ["self", "name"]) (fun _ _ _ _ _ _ us h1 => match us, h1 with | [_, _], _ => rfl)) (by rfl) T.m_UnknownName (pa_cons (pv 1) pa_nil)))) pss_nil) pss_nil), fun ds hl => ?_⟩
  match ds, hl with
  | [self, node], _ => exact ⟨_, rfl, ((pstx_sq (α := Unit) (env := fun _ => [.dat self, .dat node]) (pstx_if (pt_or' (pt_not' (pt_B (Px.vw (px_isi (Px.vw (px_var rfl)))))) (pt_test (Px.vw (px_op ok_notin (Px.vw (px_var rfl)) (Px.vw (px_fld (nm := "Field") (na_of T.cn_Field T.cls_Field T.na_Field_widths_by_node) (Px.vw (px_var rfl)))))))) (pstx_raise (nm := tx_h99a8e6) (fl := flI1 tx_name) (fe := feI1 tx_name) T.cn_UnknownName (pm_cons (px_var rfl) pm_nil) rpI1) (pstx_nil [true, true])) (fun u_1 => (pstx_nil [false, false]))))⟩
def F_Field_thickness (self : PyData) (cell : PyData) : W Unit PyData := (wite (wor (wnot (wB (wbind (wpure cell) fun d => wlift (isTy "str" d)))) (wB (wbind (wpure cell) fun a => wbind (wbind (wpure self) (wfld "Field" "thickness_by_cell")) fun b => wlift (onotin a b)))) wfail (wbind (wbind (wpure self) (wfld "Field" "thickness_by_cell")) fun a => wbind (wpure cell) fun b => wlift (oix a b)))
def X_Field_thickness (self : PyData) (cell : PyData) : W Unit PyData := wendA (α := Unit) (fbind (wite (wor (wnot (wB (wbind (wpure cell) fun d => wlift (isTy "str" d)))) (wB (wbind (wpure cell) fun a => wbind (wbind (wpure self) (wfld "Field" "thickness_by_cell")) fun b => wlift (onotin a b)))) (wbind (wl [(wpure cell)]) fun ds => wpure (.rt (errD tx_h99a8e6 (feI1 tx_name ds)))) (wnx ())) fun u_1 => (wret (wbind (wbind (wpure self) (wfld "Field" "thickness_by_cell")) fun a => wbind (wpure cell) fun b => wlift (oix a b))))
theorem okX_Field_thickness (T : Env K mg base) : FnG P w K mg base (L2.CX P w) 28 T.a_Field_thickness T.fd_Field_thickness ["self", "cell"] (spX K (S := Unit) [.dat, .dat] (ap2 X_Field_thickness)) := by
  refine okX2 (α := Unit) (env := fun _ => [.un, .un]) T.F_Field_thickness sc_Field_thickness rfl fun cdv A outer s H E hr => ⟨_, (pss_cons (ps_if (PT.nox (PW.pt (pw_or (pt_not (pt_val (pe_callB (id := "isinstance") (call_isiK (K := K) rfl) (by rfl) T.b_isinstance (by decide +kernel) (pa_cons (pv 1) (pa_cons (pe_bltn (v := .ty "str") (by rfl) T.b_str (by decide +kernel) rfl) pa_nil))))) (pw_or1 (pt_cmpR (op_notInK (K := K) rfl hr.u1) (pv 1) (pe_fldK (K := K) rfl (pv 0)) (by rfl)))))) (pss_one (ps_raise rfl takesX (pmkX (fl := flI1 tx_name) T.ow_UnknownName T.ii_UnknownName T.ti_UnknownName (ok_UnknownName___init__ T) (hr.mono (by decide)) (cb_pos T.F_UnknownName___init__ (n := 2) (ps := ["self", "name"]) (fun _ _ _ _ _ _ us h1 => match us, h1 with | [_, _], _ => rfl)) (by rfl) T.m_UnknownName (pa_cons (pv 1) pa_nil)))) pss_nil) (pss_one (ps_nox (ps_ret (pe_ix (ix_K (K := K) rfl hr.u1) (pe_fldK (K := K) rfl (pv 0)) (pv 1) (fun _ _ => rfl)))))), fun ds hl => ?_⟩
  match ds, hl with
  | [self, cell], _ => exact ⟨_, rfl, ((pstx_sq (α := Unit) (env := fun _ => [.dat self, .dat cell]) (pstx_if (pt_or' (pt_not' (pt_B (Px.vw (px_isi (Px.vw (px_var rfl)))))) (pt_test (Px.vw (px_op ok_notin (Px.vw (px_var rfl)) (Px.vw (px_fld (nm := "Field") (na_of T.cn_Field T.cls_Field T.na_Field_thickness_by_cell) (Px.vw (px_var rfl)))))))) (pstx_raise (nm := tx_h99a8e6) (fl := flI1 tx_name) (fe := feI1 tx_name) T.cn_UnknownName (pm_cons (px_var rfl) pm_nil) rpI1) (pstx_nil [true, true])) (fun u_1 => (pstx_rt (psr_ret (px_op ok_ix (Px.vw (px_fld (nm := "Field") (na_of T.cn_Field T.cls_Field T.na_Field_thickness_by_cell) (Px.vw (px_var rfl)))) (Px.vw (px_var rfl))))))))⟩
def F_Field_start (self : PyData) (spring : PyData) : W Unit PyData := (wite (wor (wnot (wB (wbind (wpure spring) fun d => wlift (isTy "str" d)))) (wB (wbind (wpure spring) fun a => wbind (wbind (wpure self) (wfld "Field" "start_by_spring")) fun b => wlift (onotin a b)))) wfail (wbind (wbind (wpure self) (wfld "Field" "start_by_spring")) fun a => wbind (wpure spring) fun b => wlift (oix a b)))
def X_Field_start (self : PyData) (spring : PyData) : W Unit PyData := wendA (α := Unit) (fbind (wite (wor (wnot (wB (wbind (wpure spring) fun d => wlift (isTy "str" d)))) (wB (wbind (wpure spring) fun a => wbind (wbind (wpure self) (wfld "Field" "start_by_spring")) fun b => wlift (onotin a b)))) (wbind (wl [(wpure spring)]) fun ds => wpure (.rt (errD tx_h99a8e6 (feI1 tx_name ds)))) (wnx ())) fun u_1 => (wret (wbind (wbind (wpure self) (wfld "Field" "start_by_spring")) fun a => wbind (wpure spring) fun b => wlift (oix a b))))
theorem okX_Field_start (T : Env K mg base) : FnG P w K mg base (L2.CX P w) 28 T.a_Field_start T.fd_Field_start ["self", "spring"] (spX K (S := Unit) [.dat, .dat] (ap2 X_Field_start)) := by
  refine okX2 (α := Unit) (env := fun _ => [.un, .un]) T.F_Field_start sc_Field_start rfl fun cdv A outer s H E hr => ⟨_, (pss_cons (ps_if (PT.nox (PW.pt (pw_or (pt_not (pt_val (pe_callB (id := "isinstance") (call_isiK (K := K) rfl) (by rfl) T.b_isinstance (by decide +kernel) (pa_cons (pv 1) (pa_cons (pe_bltn (v := .ty "str") (by rfl) T.b_str (by decide +kernel) rfl) pa_nil))))) (pw_or1 (pt_cmpR (op_notInK (K := K) rfl hr.u1) (pv 1) (pe_fldK (K := K) rfl (pv 0)) (by rfl)))))) (pss_one (ps_raise rfl takesX (pmkX (fl := flI1 tx_name) T.ow_UnknownName T.ii_UnknownName T.ti_UnknownName (ok_UnknownName___init__ T) (hr.mono (by decide)) (cb_pos T.F_UnknownName___init__ (n := 2) (ps := ["self", "name"]) (fun _ _ _ _ _ _ us h1 => match us, h1 with | [_, _], _ => rfl)) (by rfl) T.m_UnknownName (pa_cons (pv 1) pa_nil)))) pss_nil) (pss_one (ps_nox (ps_ret (pe_ix (ix_K (K := K) rfl hr.u1) (pe_fldK (K := K) rfl (pv 0)) (pv 1) (fun _ _ => rfl)))))), fun ds hl => ?_⟩
  match ds, hl with
  | [self, spring], _ => exact ⟨_, rfl, ((pstx_sq (α := Unit) (env := fun _ => [.dat self, .dat spring]) (pstx_if (pt_or' (pt_not' (pt_B (Px.vw (px_isi (Px.vw (px_var rfl)))))) (pt_test (Px.vw (px_op ok_notin (Px.vw (px_var rfl)) (Px.vw (px_fld (nm := "Field") (na_of T.cn_Field T.cls_Field T.na_Field_start_by_spring) (Px.vw (px_var rfl)))))))) (pstx_raise (nm := tx_h99a8e6) (fl := flI1 tx_name) (fe := feI1 tx_name) T.cn_UnknownName (pm_cons (px_var rfl) pm_nil) rpI1) (pstx_nil [true, true])) (fun u_1 => (pstx_rt (psr_ret (px_op ok_ix (Px.vw (px_fld (nm := "Field") (na_of T.cn_Field T.cls_Field T.na_Field_start_by_spring) (Px.vw (px_var rfl)))) (Px.vw (px_var rfl))))))))⟩
def F_Field_neighbors (self : PyData) (node : PyData) : W Unit PyData := (wbind (wbind (wpure self) fun o => wobj "Field" "require_node" o (wbind (wl [(wpure node)]) fun as => wlift ((ap2 F_Field_require_node) (o :: as)))) fun u_3 => (wbind (wbind (wbind (wpure self) (wfld "Field" "widths_by_node")) fun a => wbind (wpure node) fun b => wlift (oix a b)) fun widths_1 => (wbind (wl [(wbind (wbind (wbind (wl [(wpure widths_1)]) fun as => wlift (osorted as)) fun d => wlift (wseq d)) fun it => wmapS (fun x => wbind (wpure x) fun other_2 => (wbind (wl [(wpure other_2), (wbind (wpure widths_1) fun a => wbind (wpure other_2) fun b => wlift (oix a b))]) fun as => wpure (PyData.tuple as))) it)]) fun as => wlift (otuple as))))
def X_Field_neighbors (self : PyData) (node : PyData) : W Unit PyData := wendA (α := Unit) (fbind (wxt (wbind (wpure self) fun o => wobj "Field" "require_node" o (wbind (wl [(wpure node)]) fun as => wlift ((ap2 X_Field_require_node) (o :: as)))) fun _ => wnx ()) fun u_4 => (fbind (wbind (wbind (wbind (wpure self) (wfld "Field" "widths_by_node")) fun a => wbind (wpure node) fun b => wlift (oix a b)) fun widths_1 => (wnx widths_1)) fun g_2 => (wret (wbind (wl [(wbind (wbind (wbind (wl [(wpure g_2)]) fun as => wlift (osorted as)) fun d => wlift (wseq d)) fun it => wmapS (fun x => wbind (wpure x) fun other_3 => (wbind (wl [(wpure other_3), (wbind (wpure g_2) fun a => wbind (wpure other_3) fun b => wlift (oix a b))]) fun as => wpure (PyData.tuple as))) it)]) fun as => wlift (otuple as)))))
theorem okX_Field_neighbors (T : Env K mg base) : FnG P w K mg base (L2.CX P w) 29 T.a_Field_neighbors T.fd_Field_neighbors ["self", "node"] (spX K (S := Unit) [.dat, .dat] (ap2 X_Field_neighbors)) := by
  refine okX2 (α := Unit) (env := fun _ => [.un, .un, .un, .un]) T.F_Field_neighbors sc_Field_neighbors rfl fun cdv A outer s H E hr => ⟨_, (pss_cons (ps_expr (pe_methX (n := 1) (pv 0) T.cls_Field T.me_Field_require_node (okX_Field_require_node T _ (hr.mono (by first | decide | omega | (simp only [Nat.add_eq]; omega) | (show _ ≤ _ + _; omega)))) (cb_pos T.F_Field_require_node (n := 2) (ps := ["self", "node"]) (fun _ _ _ _ _ _ us h1 => match us, h1 with | [_, _], _ => rfl)) takesX (pa_cons (pv 1) pa_nil))) (pss_cons (ps_nox (ps_set (i := 2) sc_Field_neighbors.nd rfl (.inr rfl) (pe_ix (ix_K (K := K) rfl hr.u1) (pe_fldK (K := K) rfl (pv 0)) (pv 1) (fun _ _ => rfl)))) (pss_one (ps_nox (ps_ret (pe_callTy (T := "tuple") (call_tupleK (K := K) rfl) (by rfl) T.b_tuple (by decide +kernel) (pa_cons (pe_lc (own := [("other", 3)]) (g := (gName 3)) rfl sc_Field_neighbors.nd (pi_seqK (K := K) rfl (pe_callB (id := "sorted") (call_sortK (K := K) rfl rfl) (by rfl) T.b_sorted (by decide +kernel) (pa_cons (pv 2) pa_nil))) (blkOk_by (own := [("other", 3)]) (N := ["self", "node", "widths", "other"]) (sc := defScope s_Field_neighbors) (by decide +kernel)) (fun _ _ _ _ _ => (pg_name (i := 3) sc_Field_neighbors.nd rfl (.inl rfl))) (fun _ _ _ _ _ => pts_nil) (fun _ _ _ _ _ => (pe_tupZ (pa_cons (pv 3) (pa_cons (pe_ix (ix_K (K := K) rfl hr.u1) (pv 2) (pv 3) (fun _ _ => rfl)) pa_nil))))) pa_nil))))))), fun ds hl => ?_⟩
  match ds, hl with
  | [self, node], _ => exact ⟨_, rfl, ((pstx_sq (α := Unit) (env := fun _ => [.dat self, .dat node, .un, .un]) (pstx_drop (pxx_meth (nm := "Field") (F := (ap2 X_Field_require_node)) T.cn_Field (.inl rfl) (px_var rfl) (pm_cons (px_var rfl) pm_nil))) (fun u_4 => (pstx_seg (α := PyData) (env := fun a => [.dat self, .dat node, .dat a, .un]) (pst_let (i := 2) (ρ' := fun widths_1 => [.dat self, .dat node, .dat widths_1, .un]) (px_op ok_ix (Px.vw (px_fld (nm := "Field") (na_of T.cn_Field T.cls_Field T.na_Field_widths_by_node) (Px.vw (px_var rfl)))) (Px.vw (px_var rfl))) (Nat.le_of_ble_eq_true rfl) (fun widths_1 => (pst_nil [true, true, true, false]))) (fun g_2 => (pstx_rt (psr_ret (px_cb ok_tuple (pm_cons (Px.vw (Px.frz (px_lc1 (ρv := [.dat self, .dat node, .dat g_2, .un]) (ρ2 := [.dat self, .dat node, .dat g_2, .un]) (vs := [3]) go_n (pi_sq (pf_dat (Px.frz (px_cb ok_sorted (pm_cons (Px.vw (px_var rfl)) pm_nil))))) (pg_n (ρ' := fun d => [.dat self, .dat node, .dat g_2, .dat d])) (fun other_3 => (px_tup (pm_cons (px_var rfl) (pm_cons (px_op ok_ix (Px.vw (px_var rfl)) (Px.vw (px_var rfl))) pm_nil))))))) pm_nil)))))))))⟩
def F_Field_width (self : PyData) (a0 : PyData) (b0 : PyData) : W Unit PyData := (wbind (wbind (wpure self) fun o => wobj "Field" "require_node" o (wbind (wl [(wpure a0)]) fun as => wlift ((ap2 F_Field_require_node) (o :: as)))) fun u_2 => (wbind (wbind (wpure self) fun o => wobj "Field" "require_node" o (wbind (wl [(wpure b0)]) fun as => wlift ((ap2 F_Field_require_node) (o :: as)))) fun u_1 => (wbind (wbind (wbind (wpure self) (wfld "Field" "widths_by_node")) fun a => wbind (wpure a0) fun b => wlift (oix a b)) fun o => wdct o (wbind (wpure b0) fun k => wbind (wpure (.tuple [.int 0, .int 1])) fun x => wlift (wget2 o k x)))))
def X_Field_width (self : PyData) (a0 : PyData) (b0 : PyData) : W Unit PyData := wendA (α := Unit) (fbind (wxt (wbind (wpure self) fun o => wobj "Field" "require_node" o (wbind (wl [(wpure a0)]) fun as => wlift ((ap2 X_Field_require_node) (o :: as)))) fun _ => wnx ()) fun u_2 => (fbind (wxt (wbind (wpure self) fun o => wobj "Field" "require_node" o (wbind (wl [(wpure b0)]) fun as => wlift ((ap2 X_Field_require_node) (o :: as)))) fun _ => wnx ()) fun u_1 => (wret (wbind (wbind (wbind (wpure self) (wfld "Field" "widths_by_node")) fun a => wbind (wpure a0) fun b => wlift (oix a b)) fun o => wdct o (wbind (wpure b0) fun k => wbind (wpure (.tuple [.int 0, .int 1])) fun x => wlift (wget2 o k x))))))
theorem okX_Field_width (T : Env K mg base) : FnG P w K mg base (L2.CX P w) 29 T.a_Field_width T.fd_Field_width ["self", "a", "b"] (spX K (S := Unit) [.dat, .dat, .dat] (ap3 X_Field_width)) := by
  refine okX2 (α := Unit) (env := fun _ => [.un, .un, .un]) T.F_Field_width sc_Field_width rfl fun cdv A outer s H E hr => ⟨_, (pss_cons (ps_expr (pe_methX (n := 1) (pv 0) T.cls_Field T.me_Field_require_node (okX_Field_require_node T _ (hr.mono (by first | decide | omega | (simp only [Nat.add_eq]; omega) | (show _ ≤ _ + _; omega)))) (cb_pos T.F_Field_require_node (n := 2) (ps := ["self", "node"]) (fun _ _ _ _ _ _ us h1 => match us, h1 with | [_, _], _ => rfl)) takesX (pa_cons (pv 1) pa_nil))) (pss_cons (ps_expr (pe_methX (n := 1) (pv 0) T.cls_Field T.me_Field_require_node (okX_Field_require_node T _ (hr.mono (by first | decide | omega | (simp only [Nat.add_eq]; omega) | (show _ ≤ _ + _; omega)))) (cb_pos T.F_Field_require_node (n := 2) (ps := ["self", "node"]) (fun _ _ _ _ _ _ us h1 => match us, h1 with | [_, _], _ => rfl)) takesX (pa_cons (pv 2) pa_nil))) (pss_one (ps_nox (ps_ret (pe_dget2S (K := K) rfl hr.u1 (pe_ix (ix_K (K := K) rfl hr.u1) (pe_fldK (K := K) rfl (pv 0)) (pv 1) (fun _ _ => rfl)) (pv 2) (pe_glob (v := .ref T.a_ZERO) rfl T.m_ZERO rfl) ⟨rfl, rfl, rfl, rfl⟩)))))), fun ds hl => ?_⟩
  match ds, hl with
  | [self, a0, b0], _ => exact ⟨_, rfl, ((pstx_sq (α := Unit) (env := fun _ => [.dat self, .dat a0, .dat b0]) (pstx_drop (pxx_meth (nm := "Field") (F := (ap2 X_Field_require_node)) T.cn_Field (.inl rfl) (px_var rfl) (pm_cons (px_var rfl) pm_nil))) (fun u_2 => (pstx_sq (α := Unit) (env := fun _ => [.dat self, .dat a0, .dat b0]) (pstx_drop (pxx_meth (nm := "Field") (F := (ap2 X_Field_require_node)) T.cn_Field (.inl rfl) (px_var rfl) (pm_cons (px_var rfl) pm_nil))) (fun u_1 => (pstx_rt (psr_ret (px_get2 (Px.vw (px_op ok_ix (Px.vw (px_fld (nm := "Field") (na_of T.cn_Field T.cls_Field T.na_Field_widths_by_node) (Px.vw (px_var rfl)))) (Px.vw (px_var rfl)))) (Px.vw (px_var rfl)) (px_c T.z_ZERO)))))))))⟩


def X_law_called (network : PyData) (method : PyData) (item : PyData) (by_keyword : PyData) : W Unit PyData := wendA (α := Unit) (fbind (wite (wB (wbind (wpure method) fun a => wbind (wpure (.str tx_thickness)) fun b => wlift (oeq a b))) (wret (wite (wB (wpure by_keyword)) (wbind (wpure network) fun o => wobj "Field" "thickness" o (wbind (wl [(wpure item)]) fun as => wlift ((ap2 X_Field_thickness) (pick [0, 1] (o :: as))))) (wbind (wpure network) fun o => wobj "Field" "thickness" o (wbind (wl [(wpure item)]) fun as => wlift ((ap2 X_Field_thickness) (o :: as)))))) (wnx ())) fun u_2 => (fbind (wite (wB (wbind (wpure method) fun a => wbind (wpure (.str tx_start)) fun b => wlift (oeq a b))) (wret (wite (wB (wpure by_keyword)) (wbind (wpure network) fun o => wobj "Field" "start" o (wbind (wl [(wpure item)]) fun as => wlift ((ap2 X_Field_start) (pick [0, 1] (o :: as))))) (wbind (wpure network) fun o => wobj "Field" "start" o (wbind (wl [(wpure item)]) fun as => wlift ((ap2 X_Field_start) (o :: as)))))) (wnx ())) fun u_1 => (wret (wite (wB (wpure by_keyword)) (wbind (wpure network) fun o => wobj "Field" "neighbors" o (wbind (wl [(wpure item)]) fun as => wlift ((ap2 X_Field_neighbors) (pick [0, 1] (o :: as))))) (wbind (wpure network) fun o => wobj "Field" "neighbors" o (wbind (wl [(wpure item)]) fun as => wlift ((ap2 X_Field_neighbors) (o :: as))))))))
theorem okX_law_called (T : Env K mg base) : FnG P w K mg base (L2.CX P w) 30 T.a_law_called T.fd_law_called ["_law_network", "_law_method", "_law_item", "_law_by_keyword"] (spX K (S := Unit) [.dat, .dat, .dat, .dat] (ap4 X_law_called)) := by
  refine okX2 (α := Unit) (env := fun _ => [.un, .un, .un, .un]) T.F_law_called sc_law_called rfl fun cdv A outer s H E hr => ⟨_, (pss_cons (ps_if (PT.nox (pt_cmpR (op_eqK (K := K) rfl hr.units0) (pv 1) pe_str (nomark _))) (pss_one (ps_ret (pe_ifExp (pt_val (pv 3)) (pe_methXK (pv 0) T.cls_Field T.me_Field_thickness (okX_Field_thickness T _ (hr.mono (by first | decide | omega | (simp only [Nat.add_eq]; omega) | (show _ ≤ _ + _; omega)))) (cb_of T.F_Field_thickness (n := 1) (ks := ["cell"]) (ps := ["self", "cell"]) [0, 1] (fun _ _ _ _ _ _ us ws h1 h2 => match us, ws, h1, h2 with | [_], [_], _, _ => rfl)) takesX (pk_cons (pv 2) pk_nil)) (pe_methX (n := 1) (pv 0) T.cls_Field T.me_Field_thickness (okX_Field_thickness T _ (hr.mono (by first | decide | omega | (simp only [Nat.add_eq]; omega) | (show _ ≤ _ + _; omega)))) (cb_pos T.F_Field_thickness (n := 2) (ps := ["self", "cell"]) (fun _ _ _ _ _ _ us h1 => match us, h1 with | [_, _], _ => rfl)) takesX (pa_cons (pv 2) pa_nil))))) pss_nil) (pss_cons (ps_if (PT.nox (pt_cmpR (op_eqK (K := K) rfl hr.units0) (pv 1) pe_str (nomark _))) (pss_one (ps_ret (pe_ifExp (pt_val (pv 3)) (pe_methXK (pv 0) T.cls_Field T.me_Field_start (okX_Field_start T _ (hr.mono (by first | decide | omega | (simp only [Nat.add_eq]; omega) | (show _ ≤ _ + _; omega)))) (cb_of T.F_Field_start (n := 1) (ks := ["spring"]) (ps := ["self", "spring"]) [0, 1] (fun _ _ _ _ _ _ us ws h1 h2 => match us, ws, h1, h2 with | [_], [_], _, _ => rfl)) takesX (pk_cons (pv 2) pk_nil)) (pe_methX (n := 1) (pv 0) T.cls_Field T.me_Field_start (okX_Field_start T _ (hr.mono (by first | decide | omega | (simp only [Nat.add_eq]; omega) | (show _ ≤ _ + _; omega)))) (cb_pos T.F_Field_start (n := 2) (ps := ["self", "spring"]) (fun _ _ _ _ _ _ us h1 => match us, h1 with | [_, _], _ => rfl)) takesX (pa_cons (pv 2) pa_nil))))) pss_nil) (pss_one (ps_ret (pe_ifExp (pt_val (pv 3)) (pe_methXK (pv 0) T.cls_Field T.me_Field_neighbors (okX_Field_neighbors T _ (hr.mono (by first | decide | omega | (simp only [Nat.add_eq]; omega) | (show _ ≤ _ + _; omega)))) (cb_of T.F_Field_neighbors (n := 1) (ks := ["node"]) (ps := ["self", "node"]) [0, 1] (fun _ _ _ _ _ _ us ws h1 h2 => match us, ws, h1, h2 with | [_], [_], _, _ => rfl)) takesX (pk_cons (pv 2) pk_nil)) (pe_methX (n := 1) (pv 0) T.cls_Field T.me_Field_neighbors (okX_Field_neighbors T _ (hr.mono (by first | decide | omega | (simp only [Nat.add_eq]; omega) | (show _ ≤ _ + _; omega)))) (cb_pos T.F_Field_neighbors (n := 2) (ps := ["self", "node"]) (fun _ _ _ _ _ _ us h1 => match us, h1 with | [_, _], _ => rfl)) takesX (pa_cons (pv 2) pa_nil))))))), fun ds hl => ?_⟩
  match ds, hl with
  | [network, method, item, by_keyword], _ => exact ⟨_, rfl, ((pstx_sq (α := Unit) (env := fun _ => [.dat network, .dat method, .dat item, .dat by_keyword]) (pstx_if (pt_test (Px.vw (px_op ok_eq (Px.vw (px_var rfl)) (Px.vw (px_str (n := tx_thickness)))))) (pstx_ret (pxx_if (pt_B (Px.vw (px_var rfl))) (pxx_methK (nm := "Field") (F := (ap2 X_Field_thickness)) (idx := [0, 1]) T.cn_Field (.inl rfl) (px_var rfl) (pm_cons (px_var rfl) pm_nil)) (pxx_meth (nm := "Field") (F := (ap2 X_Field_thickness)) T.cn_Field (.inl rfl) (px_var rfl) (pm_cons (px_var rfl) pm_nil)))) (pstx_nil [true, true, true, true])) (fun u_2 => (pstx_sq (α := Unit) (env := fun _ => [.dat network, .dat method, .dat item, .dat by_keyword]) (pstx_if (pt_test (Px.vw (px_op ok_eq (Px.vw (px_var rfl)) (Px.vw (px_str (n := tx_start)))))) (pstx_ret (pxx_if (pt_B (Px.vw (px_var rfl))) (pxx_methK (nm := "Field") (F := (ap2 X_Field_start)) (idx := [0, 1]) T.cn_Field (.inl rfl) (px_var rfl) (pm_cons (px_var rfl) pm_nil)) (pxx_meth (nm := "Field") (F := (ap2 X_Field_start)) T.cn_Field (.inl rfl) (px_var rfl) (pm_cons (px_var rfl) pm_nil)))) (pstx_nil [true, true, true, true])) (fun u_1 => (pstx_ret (pxx_if (pt_B (Px.vw (px_var rfl))) (pxx_methK (nm := "Field") (F := (ap2 X_Field_neighbors)) (idx := [0, 1]) T.cn_Field (.inl rfl) (px_var rfl) (pm_cons (px_var rfl) pm_nil)) (pxx_meth (nm := "Field") (F := (ap2 X_Field_neighbors)) T.cn_Field (.inl rfl) (px_var rfl) (pm_cons (px_var rfl) pm_nil)))))))))⟩
def F_law_width_outcome (network : PyData) (x0 : PyData) (y : PyData) (by_keyword : PyData) : W Unit PyData := (wbind (wbind (wl [(wpure (.str tx_unexpected))]) fun as => wpure (PyData.tuple as)) fun result_1 => (wbind (wtry (wbind (wpure (.str tx_returned)) fun d => wxd (wxd (wite (wB (wpure by_keyword)) (wbind (wpure network) fun o => wobj "Field" "width" o (wbind (wl [(wpure y), (wpure x0)]) fun as => wlift ((ap3 X_Field_width) (pick [0, 2, 1] (o :: as))))) (wbind (wpure network) fun o => wobj "Field" "width" o (wbind (wl [(wpure x0), (wpure y)]) fun as => wlift ((ap3 X_Field_width) (o :: as))))) fun d => wpure (.tuple [d])) (wtl d)) (wnm tx_h99a8e6 (fun es => (wbind (wl [(wpure (.str tx_unknown)), (wfe es tx_name)]) fun as => wpure (.tuple as))) wno)) fun result_2 => (wbind (wl [(wpure result_2)]) fun as => wlift (orepr as))))
theorem ok_law_width_outcome (T : Env K mg base) : FnG P w K mg base CX0 30 T.a_law_width_outcome T.fd_law_width_outcome ["_law_network", "_law_x", "_law_y", "_law_by_keyword"] (spP K (S := Unit) .dat [.dat, .dat, .dat, .dat] (ap4 F_law_width_outcome)) := by
  refine okP T.F_law_width_outcome sc_law_width_outcome rfl fun cdv A outer s H E hr => ⟨_, (pss_cons (ps_set (i := 4) sc_law_width_outcome.nd rfl (.inl rfl) (pe_tupZ (pa_cons pe_str pa_nil))) (pss_cons (ps_tryP (i := 5) rfl rfl sc_law_width_outcome.nd rfl (by rfl) (fun Wx pn xe tk po => (pss_one (ps_set (i := 4) sc_law_width_outcome.nd rfl (.inl rfl) (pe_tupZ (pa_cons pe_str (pa_cons (pe_ifExp (pt_val (pv 3)) (pe_methXK (pv 0) T.cls_Field T.me_Field_width (okX_Field_width T _ (hr.mono (by first | decide | omega | (simp only [Nat.add_eq]; omega) | (show _ ≤ _ + _; omega)))) (cb_of T.F_Field_width (n := 1) (ks := ["b", "a"]) (ps := ["self", "a", "b"]) [0, 2, 1] (fun _ _ _ _ _ _ us ws h1 h2 => match us, ws, h1, h2 with | [_], [_, _], _, _ => rfl)) tk (pk_cons (pv 2) (pk_cons (pv 1) pk_nil))) (pe_methX (n := 2) (pv 0) T.cls_Field T.me_Field_width (okX_Field_width T _ (hr.mono (by first | decide | omega | (simp only [Nat.add_eq]; omega) | (show _ ≤ _ + _; omega)))) (cb_pos T.F_Field_width (n := 3) (ps := ["self", "a", "b"]) (fun _ _ _ _ _ _ us h1 => match us, h1 with | [_, _, _], _ => rfl)) tk (pa_cons (pv 1) (pa_cons (pv 2) pa_nil)))) pa_nil)))))) (HdsA.cons ⟨by rfl, by decide, .inl T.m_UnknownName⟩ (fun a oe cls d pn hz hf => (pss_one (ps_set (i := 4) sc_law_width_outcome.nd rfl (.inl rfl) (pe_tupZ (pa_cons pe_str (pa_cons (pe_xf T.xf_UnknownName T.nf_UnknownName_name hz hf (pv 5)) pa_nil)))))) HdsA.nil)) (pss_one (ps_ret (pe_callB (id := "repr") (call_reprK (K := K) rfl T.sys hr) (by rfl) T.b_repr (by decide +kernel) (pa_cons (pv 4) pa_nil)))))), fun ds hl => ?_⟩
  match ds, hl with
  | [network, x0, y, by_keyword], _ =>
    show Psr (S := Unit) K _ .dat [.dat network, .dat x0, .dat y, .dat by_keyword, .un, .un] (F_law_width_outcome network x0 y by_keyword)
    exact (psr_let (i := 4) (ρ' := fun result_1 => [.dat network, .dat x0, .dat y, .dat by_keyword, .dat result_1, .un]) (px_tup (pm_cons (px_str (n := tx_unexpected)) pm_nil)) (Nat.le_of_ble_eq_true rfl) (fun result_1 => (psr_tryP (i := 4) (j := 5) (ρ' := fun result_2 => [.dat network, .dat x0, .dat y, .dat by_keyword, .dat result_2, .un]) (fun _ => rfl) (fun _ => (pxx_tup (pmxx_cons (px_str (n := tx_returned)) (pmxx_last (pxx_if (pt_B (Px.vw (px_var rfl))) (pxx_methK (nm := "Field") (F := (ap3 X_Field_width)) (idx := [0, 2, 1]) T.cn_Field (.inl rfl) (px_var rfl) (pm_cons (px_var rfl) (pm_cons (px_var rfl) pm_nil))) (pxx_meth (nm := "Field") (F := (ap3 X_Field_width)) T.cn_Field (.inl rfl) (px_var rfl) (pm_cons (px_var rfl) (pm_cons (px_var rfl) pm_nil)))))))) (hd_nm (n0 := tx_h99a8e6) T.cn_UnknownName (Or.inl ⟨T.ht_UnknownName_UnknownName, rfl⟩) (fun es a dd => (pse_let (pxs_tup (pms_cons (pxs_of (px_str (n := tx_unknown))) (pms_cons pxs_fld pms_nil))) (Nat.le_of_ble_eq_true rfl))) hd_no) (Nat.le_of_ble_eq_true rfl) (Nat.le_of_ble_eq_true rfl) (fun result_2 => (psr_ret (px_repr (px_var rfl)))))))
def F_law_outcome (network : PyData) (method : PyData) (item : PyData) (by_keyword : PyData) : W Unit PyData := (wbind (wbind (wl [(wpure (.str tx_unexpected))]) fun as => wpure (PyData.tuple as)) fun result_1 => (wbind (wtry (wbind (wpure (.str tx_returned)) fun d => wxd (wxd (wbind (wl [(wpure network), (wpure method), (wpure item), (wpure by_keyword)]) fun as => wlift ((ap4 X_law_called) as)) fun d => wpure (.tuple [d])) (wtl d)) (wnm tx_h99a8e6 (fun es => (wite (wand (wB (wpure (.bool true))) (wnot (wB (wpure (.bool false))))) (wbind (wl [(wpure (.str tx_unknown)), (wfe es tx_name)]) fun as => wpure (.tuple as)) (wpure result_1))) wno)) fun result_2 => (wbind (wl [(wpure result_2)]) fun as => wlift (orepr as))))
theorem ok_law_outcome (T : Env K mg base) : FnG P w K mg base CX0 31 T.a_law_outcome T.fd_law_outcome ["_law_network", "_law_method", "_law_item", "_law_by_keyword"] (spP K (S := Unit) .dat [.dat, .dat, .dat, .dat] (ap4 F_law_outcome)) := by
  refine okP T.F_law_outcome sc_law_outcome rfl fun cdv A outer s H E hr => ⟨_, (pss_cons (ps_set (i := 4) sc_law_outcome.nd rfl (.inl rfl) (pe_tupZ (pa_cons pe_str pa_nil))) (pss_cons (ps_tryP (i := 5) rfl rfl sc_law_outcome.nd rfl (by rfl) (fun Wx pn xe tk po => (pss_one (ps_set (i := 4) sc_law_outcome.nd rfl (.inl rfl) (pe_tupZ (pa_cons pe_str (pa_cons (pe_gX (okX_law_called T _ (hr.mono (by first | decide | omega | (simp only [Nat.add_eq]; omega) | (show _ ≤ _ + _; omega)))) (by rfl) T.m_law_called T.F_law_called.kp (cb_pos T.F_law_called (n := 4) (ps := ["_law_network", "_law_method", "_law_item", "_law_by_keyword"]) (fun _ _ _ _ _ _ us h1 => match us, h1 with | [_, _, _, _], _ => rfl)) tk (pa_cons (pv 0) (pa_cons (pv 1) (pa_cons (pv 2) (pa_cons (pv 3) pa_nil))))) pa_nil)))))) (HdsA.cons ⟨by rfl, by decide, .inl T.m_UnknownName⟩ (fun a oe cls d pn hz hf => (pss_one (ps_if (PW.pt (pw_and (pt_val (pe_callB (id := "isinstance") (call_isX T.ec_UnknownName hz hf) (by rfl) T.b_isinstance (by decide +kernel) (pa_cons (pv 5) (pa_cons (pe_bltn (v := .ty "KeyError") (by rfl) T.b_KeyError (by decide +kernel) rfl) pa_nil)))) (pw_and1 (pt_not (pt_val (pe_callB (id := "isinstance") (call_isXT T.ec_UnknownName hz hf) (by rfl) T.b_isinstance (by decide +kernel) (pa_cons (pv 5) (pa_cons (pe_tup (pa_cons (pe_glob (v := .ref T.c_ThawError) (by rfl) T.m_ThawError rfl) (pa_cons (pe_glob (v := .ref T.c_InvalidNumber) (by rfl) T.m_InvalidNumber rfl) pa_nil))) pa_nil)))))))) (pss_one (ps_set (i := 4) sc_law_outcome.nd rfl (.inl rfl) (pe_tupZ (pa_cons pe_str (pa_cons (pe_xf T.xf_UnknownName T.nf_UnknownName_name hz hf (pv 5)) pa_nil))))) pss_nil))) HdsA.nil)) (pss_one (ps_ret (pe_callB (id := "repr") (call_reprK (K := K) rfl T.sys hr) (by rfl) T.b_repr (by decide +kernel) (pa_cons (pv 4) pa_nil)))))), fun ds hl => ?_⟩
  match ds, hl with
  | [network, method, item, by_keyword], _ =>
    show Psr (S := Unit) K _ .dat [.dat network, .dat method, .dat item, .dat by_keyword, .un, .un] (F_law_outcome network method item by_keyword)
    exact (psr_let (i := 4) (ρ' := fun result_1 => [.dat network, .dat method, .dat item, .dat by_keyword, .dat result_1, .un]) (px_tup (pm_cons (px_str (n := tx_unexpected)) pm_nil)) (Nat.le_of_ble_eq_true rfl) (fun result_1 => (psr_tryP (i := 4) (j := 5) (ρ' := fun result_2 => [.dat network, .dat method, .dat item, .dat by_keyword, .dat result_2, .un]) (fun _ => rfl) (fun _ => (pxx_tup (pmxx_cons (px_str (n := tx_returned)) (pmxx_last (pxx_call (F := (ap4 X_law_called)) (pm_cons (px_var rfl) (pm_cons (px_var rfl) (pm_cons (px_var rfl) (pm_cons (px_var rfl) pm_nil))))))))) (hd_nm (n0 := tx_h99a8e6) T.cn_UnknownName (Or.inl ⟨T.ht_UnknownName_UnknownName, rfl⟩) (fun es a dd => (pse_if (pts_and (pts_B (pxs_isi isc_ty T.ko_UnknownName_KeyError)) (pts_not (pts_B (pxs_isiT (.own _) (.own _) T.ko_UnknownName_ThawError T.ko_UnknownName_InvalidNumber)))) (pse_let (pxs_tup (pms_cons (pxs_of (px_str (n := tx_unknown))) (pms_cons pxs_fld pms_nil))) (Nat.le_of_ble_eq_true rfl)))) hd_no) (Nat.le_of_ble_eq_true rfl) (Nat.le_of_ble_eq_true rfl) (fun result_2 => (psr_ret (px_repr (px_var rfl)))))))
def F_law_widths_correct (network : PyData) (parts : PyData) (items : PyData) (names : PyData) : W Unit PyData := (fthen (wbind (wbind (wpure items) fun d => wlift (wseq d)) fun it => wfor (fun x a_1 => wbind (wpure x) fun x_2 => (fbind (wbind (wbind (wpure items) fun d => wlift (wseq d)) fun it => wfor (fun x a_3 => wbind (wpure x) fun y_4 => (wbind (wbind (wbind (wbind (wl [(wpure x_2), (wpure y_4)]) fun as => wpure (PyData.tuple as)) fun d => wlift (wseq d)) fun it => wlcS (fun x => wbind (wpure x) fun item_5 => wlcE (wB (wbind (wpure item_5) fun a => wbind (wpure names) fun b => wlift (onotinA a b))) (wpure item_5)) it) fun missing_6 => (wbind (wite (wB (wbind (wpure missing_6) fun a => wbind (wbind (wl []) fun as => wpure (.list as)) fun b => wlift (one a b))) (wbind (wl [(wpure (.str tx_unknown)), (wbind (wpure missing_6) fun a => wbind (wpure (.int 0)) fun b => wlift (oix a b))]) fun as => wpure (PyData.tuple as)) (wbind (wl [(wpure (.str tx_returned)), (wbind (wl [(wpure parts), (wpure x_2), (wpure y_4)]) fun as => wlift ((ap3 F_law_breadth) as))]) fun as => wpure (PyData.tuple as))) fun expected_7 => (wite (wB (wbind (wbind (wl [(wpure network), (wpure x_2), (wpure y_4), (wpure (.bool false))]) fun as => wlift ((ap4 F_law_width_outcome) as)) fun a => wbind (wbind (wl [(wpure expected_7)]) fun as => wlift (orepr as)) fun b => wlift (one a b))) (wret (wpure (.bool false))) (wite (wB (wbind (wbind (wl [(wpure network), (wpure x_2), (wpure y_4), (wpure (.bool true))]) fun as => wlift ((ap4 F_law_width_outcome) as)) fun a => wbind (wbind (wl [(wpure expected_7)]) fun as => wlift (orepr as)) fun b => wlift (one a b))) (wret (wpure (.bool false))) (wnx ())))))) it ()) fun r_8 => (wnx ()))) it ()) fun r_9 => (wpure (.bool true)))
theorem ok_law_widths_correct (T : Env K mg base) : FnG P w K mg base CX0 31 T.a_law_widths_correct T.fd_law_widths_correct ["_law_network", "_law_parts_here", "_law_items", "_law_names_here"] (spP K (S := Unit) .dat [.dat, .dat, .dat, .dat] (ap4 F_law_widths_correct)) := by
  refine okP T.F_law_widths_correct sc_law_widths_correct rfl fun cdv A outer s H E hr => ⟨_, (pss_cons (ps_for PassesOwn.never rfl (pi_seqK (K := K) rfl (pv 2)) (pg_name (i := 4) sc_law_widths_correct.nd rfl (.inl rfl)) (pss_cons (ps_for PassesOwn.never rfl (pi_seqK (K := K) rfl (pv 2)) (pg_name (i := 5) sc_law_widths_correct.nd rfl (.inl rfl)) (pss_cons (ps_setLc (i := 6) (own := [("_law_item", 8)]) (g := (gName 8)) rfl sc_law_widths_correct.nd rfl rfl (sw_true rfl rfl rfl (by decide +kernel)) (pi_seqK (K := K) rfl (pe_tupZ (pa_cons (pv 4) (pa_cons (pv 5) pa_nil)))) (blkOk_by (own := [("_law_item", 8)]) (N := ["_law_network", "_law_parts_here", "_law_items", "_law_names_here", "_law_x", "_law_y", "_law_missing", "_law_expected", "_law_item"]) (sc := defScope s_law_widths_correct) (by decide +kernel)) (fun _ _ _ _ _ => (pg_name (i := 8) sc_law_widths_correct.nd rfl (.inl rfl))) (fun _ _ _ _ _ => (pts_one (pt_cmpR (op_notInAK (K := K) rfl hr.u65) (pv 8) (pv 3) (by rfl)))) (fun _ _ _ _ _ => (pv 8))) (pss_cons (ps_set (i := 7) sc_law_widths_correct.nd rfl (.inl rfl) (pe_ifExp (pt_cmpR (op_neK (K := K) rfl hr.units0) (pv 6) (pe_lst pa_nil) (nomark _)) (pe_tupZ (pa_cons pe_str (pa_cons (pe_ix (ix_K (K := K) rfl hr.u1) (pv 6) pe_int (fun _ _ => rfl)) pa_nil))) (pe_tupZ (pa_cons pe_str (pa_cons (pe_g (ok_law_breadth T _ (hr.mono (by first | decide | omega | (simp only [Nat.add_eq]; omega) | (show _ ≤ _ + _; omega)))) (by rfl) T.m_law_breadth T.F_law_breadth.kp (cb_pos T.F_law_breadth (n := 3) (ps := ["_law_parts_here", "_law_x", "_law_y"]) (fun _ _ _ _ _ _ us h1 => match us, h1 with | [_, _, _], _ => rfl)) pass0 (pa_cons (pv 1) (pa_cons (pv 4) (pa_cons (pv 5) pa_nil)))) pa_nil))))) (pss_cons (ps_if (pt_cmpR (op_neK (K := K) rfl hr.units0) (pe_g (ok_law_width_outcome T _ (hr.mono (by first | decide | omega | (simp only [Nat.add_eq]; omega) | (show _ ≤ _ + _; omega)))) (by rfl) T.m_law_width_outcome T.F_law_width_outcome.kp (cb_pos T.F_law_width_outcome (n := 4) (ps := ["_law_network", "_law_x", "_law_y", "_law_by_keyword"]) (fun _ _ _ _ _ _ us h1 => match us, h1 with | [_, _, _, _], _ => rfl)) pass0 (pa_cons (pv 0) (pa_cons (pv 4) (pa_cons (pv 5) (pa_cons pe_bl pa_nil))))) (pe_callB (id := "repr") (call_reprK (K := K) rfl T.sys hr) (by rfl) T.b_repr (by decide +kernel) (pa_cons (pv 7) pa_nil)) (nomark _)) (pss_one (ps_ret pe_bl)) pss_nil) (pss_cons (ps_if (pt_cmpR (op_neK (K := K) rfl hr.units0) (pe_g (ok_law_width_outcome T _ (hr.mono (by first | decide | omega | (simp only [Nat.add_eq]; omega) | (show _ ≤ _ + _; omega)))) (by rfl) T.m_law_width_outcome T.F_law_width_outcome.kp (cb_pos T.F_law_width_outcome (n := 4) (ps := ["_law_network", "_law_x", "_law_y", "_law_by_keyword"]) (fun _ _ _ _ _ _ us h1 => match us, h1 with | [_, _, _, _], _ => rfl)) pass0 (pa_cons (pv 0) (pa_cons (pv 4) (pa_cons (pv 5) (pa_cons pe_bl pa_nil))))) (pe_callB (id := "repr") (call_reprK (K := K) rfl T.sys hr) (by rfl) T.b_repr (by decide +kernel) (pa_cons (pv 7) pa_nil)) (nomark _)) (pss_one (ps_ret pe_bl)) pss_nil) pss_nil))))) pss_nil)) (pss_one (ps_ret pe_bl))), fun ds hl => ?_⟩
  match ds, hl with
  | [network, parts, items, names], _ =>
    show Psr (S := Unit) K _ .dat [.dat network, .dat parts, .dat items, .dat names, .un, .un, .un, .un, .un] (F_law_widths_correct network parts items names)
    exact (psr_seq (α := Unit) (env := fun a => [.dat network, .dat parts, .dat items, .dat names, .un, .un, .un, .un, .un]) (pst_for (α := Unit) (env := fun a => [.dat network, .dat parts, .dat items, .dat names, .un, .un, .un, .un, .un]) [true, true, true, true, false, false, false, false, false] (pi_sq (pf_dat (px_var rfl))) (fun a_1 => (pg_n (ρ' := fun d => [.dat network, .dat parts, .dat items, .dat names, .dat d, .un, .un, .un, .un]))) (fun a_1 x_2 => (pst_seq (α := Unit) (env := fun a => [.dat network, .dat parts, .dat items, .dat names, .dat x_2, .un, .un, .un, .un]) (pst_for (α := Unit) (env := fun a => [.dat network, .dat parts, .dat items, .dat names, .dat x_2, .un, .un, .un, .un]) [true, true, true, true, true, false, false, false, false] (pi_sq (pf_dat (px_var rfl))) (fun a_3 => (pg_n (ρ' := fun d => [.dat network, .dat parts, .dat items, .dat names, .dat x_2, .dat d, .un, .un, .un]))) (fun a_3 y_4 => (pst_let (i := 6) (ρ' := fun missing_6 => [.dat network, .dat parts, .dat items, .dat names, .dat x_2, .dat y_4, .dat missing_6, .un, .un]) (Px.frz (px_lc (ρv := [.dat network, .dat parts, .dat items, .dat names, .dat x_2, .dat y_4, .un, .un, .un]) (ρ2 := [.dat network, .dat parts, .dat items, .dat names, .dat x_2, .dat y_4, .un, .un, .un]) (vs := [8]) go_n (pi_sq (pf_dat (px_tup (pm_cons (px_var rfl) (pm_cons (px_var rfl) pm_nil))))) (pg_n (ρ' := fun d => [.dat network, .dat parts, .dat items, .dat names, .dat x_2, .dat y_4, .un, .un, .dat d])) (fun item_5 => (pt_test (Px.vw (px_op ok_notinA (Px.vw (px_var rfl)) (Px.vw (px_var rfl)))))) (fun item_5 => (px_var rfl)))) (Nat.le_of_ble_eq_true rfl) (fun missing_6 => (pst_let (i := 7) (ρ' := fun expected_7 => [.dat network, .dat parts, .dat items, .dat names, .dat x_2, .dat y_4, .dat missing_6, .dat expected_7, .un]) (px_ifE (pt_test (Px.vw (px_op ok_ne (Px.vw (px_var rfl)) (Px.vw (Px.frz (px_lst pm_nil)))))) (px_tup (pm_cons (px_str (n := tx_unknown)) (pm_cons (px_op ok_ix (Px.vw (px_var rfl)) (Px.vw px_int)) pm_nil))) (px_tup (pm_cons (px_str (n := tx_returned)) (pm_cons (px_callP (F := (ap3 F_law_breadth)) (pm_cons (px_var rfl) (pm_cons (px_var rfl) (pm_cons (px_var rfl) pm_nil)))) pm_nil)))) (Nat.le_of_ble_eq_true rfl) (fun expected_7 => (pst_ifr (pt_test (Px.vw (px_op ok_ne (Px.vw (px_callP (F := (ap4 F_law_width_outcome)) (pm_cons (px_var rfl) (pm_cons (px_var rfl) (pm_cons (px_var rfl) (pm_cons px_bl pm_nil)))))) (Px.vw (px_repr (px_var rfl)))))) (psr_ret px_bl) (pst_ifr (pt_test (Px.vw (px_op ok_ne (Px.vw (px_callP (F := (ap4 F_law_width_outcome)) (pm_cons (px_var rfl) (pm_cons (px_var rfl) (pm_cons (px_var rfl) (pm_cons px_bl pm_nil)))))) (Px.vw (px_repr (px_var rfl)))))) (psr_ret px_bl) (pst_nil [true, true, true, true, true, false, false, false, false]))))))))) (fun r_8 => (pst_nil [true, true, true, true, false, false, false, false, false]))))) (fun r_9 => (psr_ret px_bl)))
def F_law_one_correct (network : PyData) (parts : PyData) (item : PyData) : W Unit PyData := (wbind (wbind (wbind (wbind (wpure parts) fun a => wbind (wpure (.int 0)) fun b => wlift (oix a b)) fun d => wlift (wseq d)) fun it => wlcS (fun x => wbind ((fun x => w2 x fun x1 x2 => wbind (wpure x1) fun a => wbind (wpure x2) fun b => wpure (a, b)) x) fun p_1 => wlcE (wB (wbind (wpure p_1.1) fun a => wbind (wpure item) fun b => wlift (oeqA a b))) (wpure p_1.2)) it) fun thicknesses_2 => (wbind (wbind (wbind (wbind (wpure parts) fun a => wbind (wpure (.int 1)) fun b => wlift (oix a b)) fun d => wlift (wseq d)) fun it => wlcS (fun x => wbind ((fun x => w2 x fun x1 x2 => wbind (wpure x1) fun a => wbind (wpure x2) fun b => wpure (a, b)) x) fun p_3 => wlcE (wB (wbind (wpure p_3.1) fun a => wbind (wpure item) fun b => wlift (oeqA a b))) (wpure p_3.2)) it) fun starts_4 => (wbind (wbind (wl [(wpure (.str tx_unknown)), (wpure item)]) fun as => wpure (PyData.tuple as)) fun unknown_5 => (wbind (wbind (wpure (.str tx_thickness)) fun k_6 => wbind (wite (wB (wbind (wpure thicknesses_2) fun a => wbind (wbind (wl []) fun as => wpure (.list as)) fun b => wlift (one a b))) (wbind (wl [(wpure (.str tx_returned)), (wbind (wpure thicknesses_2) fun a => wbind (wpure (.int 0)) fun b => wlift (oix a b))]) fun as => wpure (PyData.tuple as)) (wpure unknown_5)) fun a_7 => wkey1 k_6 a_7) fun expected_8 => (wbind (wput expected_8 (wite (wB (wbind (wpure starts_4) fun a => wbind (wbind (wl []) fun as => wpure (.list as)) fun b => wlift (one a b))) (wbind (wl [(wpure (.str tx_returned)), (wbind (wpure starts_4) fun a => wbind (wpure (.int 0)) fun b => wlift (oix a b))]) fun as => wpure (PyData.tuple as)) (wpure unknown_5)) (wpure (.str tx_start))) fun expected_9 => (wbind (wput expected_9 (wite (wB (wbind (wbind (wpure thicknesses_2) fun a => wbind (wpure starts_4) fun b => wlift (oadd a b)) fun a => wbind (wbind (wl []) fun as => wpure (.list as)) fun b => wlift (one a b))) (wbind (wl [(wpure (.str tx_returned)), (wbind (wl [(wpure parts), (wpure item)]) fun as => wlift ((ap2 F_law_neighbors) as))]) fun as => wpure (PyData.tuple as)) (wpure unknown_5)) (wpure (.str tx_neighbors))) fun expected_10 => (fthen (wbind (wbind (wbind (wl [(wpure (.str tx_neighbors)), (wpure (.str tx_start)), (wpure (.str tx_thickness))]) fun as => wpure (.list as)) fun d => wlift (wseq d)) fun it => wfor (fun x a_11 => wbind (wpure x) fun method_12 => (fbind (wbind (wbind (wbind (wl [(wpure (.bool false)), (wpure (.bool true))]) fun as => wpure (PyData.tuple as)) fun d => wlift (wseq d)) fun it => wfor (fun x a_13 => wbind (wpure x) fun by_keyword_14 => (wite (wB (wbind (wbind (wl [(wpure network), (wpure method_12), (wpure item), (wpure by_keyword_14)]) fun as => wlift ((ap4 F_law_outcome) as)) fun a => wbind (wbind (wl [(wbind (wpure expected_10) fun a => wbind (wpure method_12) fun b => wlift (oix a b))]) fun as => wlift (orepr as)) fun b => wlift (one a b))) (wret (wpure (.bool false))) (wnx ()))) it ()) fun r_15 => (wnx ()))) it ()) fun r_16 => (wpure (.bool true)))))))))
theorem ok_law_one_correct (T : Env K mg base) : FnG P w K mg base CX0 32 T.a_law_one_correct T.fd_law_one_correct ["_law_network", "_law_parts_here", "_law_item"] (spP K (S := Unit) .dat [.dat, .dat, .dat] (ap3 F_law_one_correct)) := by
  refine okP T.F_law_one_correct sc_law_one_correct rfl fun cdv A outer s H E hr => ⟨_, (pss_cons (ps_setLc (i := 3) (own := [("_law_name", 9), ("_law_amount", 10)]) (g := (gTup K 2 (gCons (gName 9) (gCons (gName 10) gNil)))) rfl sc_law_one_correct.nd rfl rfl (sw_true rfl rfl rfl (by decide +kernel)) (pi_seqK (K := K) rfl (pe_ix (ix_K (K := K) rfl hr.u1) (pv 1) pe_int (fun _ _ => rfl))) (blkOk_by (own := [("_law_name", 9), ("_law_amount", 10)]) (N := ["_law_network", "_law_parts_here", "_law_item", "_law_thicknesses", "_law_starts", "_law_unknown", "_law_expected", "_law_method", "_law_by_keyword", "_law_name", "_law_amount"]) (sc := defScope s_law_one_correct) (by decide +kernel)) (fun _ _ _ _ _ => (pg_tupK (K := K) (n := 2) rfl rfl (pgs_cons (pg_name (i := 9) sc_law_one_correct.nd rfl (.inl rfl)) (pgs_cons (pg_name (i := 10) sc_law_one_correct.nd rfl (.inl rfl)) pgs_nil)) rfl rfl)) (fun _ _ _ _ _ => (pts_one (pt_cmpR (op_eqAK (K := K) rfl hr.units0) (pv 9) (pv 2) (nomark _)))) (fun _ _ _ _ _ => (pv 10))) (pss_cons (ps_setLc (i := 4) (own := [("_law_name", 9), ("_law_amount", 10)]) (g := (gTup K 2 (gCons (gName 9) (gCons (gName 10) gNil)))) rfl sc_law_one_correct.nd rfl rfl (sw_true rfl rfl rfl (by decide +kernel)) (pi_seqK (K := K) rfl (pe_ix (ix_K (K := K) rfl hr.u1) (pv 1) pe_int (fun _ _ => rfl))) (blkOk_by (own := [("_law_name", 9), ("_law_amount", 10)]) (N := ["_law_network", "_law_parts_here", "_law_item", "_law_thicknesses", "_law_starts", "_law_unknown", "_law_expected", "_law_method", "_law_by_keyword", "_law_name", "_law_amount"]) (sc := defScope s_law_one_correct) (by decide +kernel)) (fun _ _ _ _ _ => (pg_tupK (K := K) (n := 2) rfl rfl (pgs_cons (pg_name (i := 9) sc_law_one_correct.nd rfl (.inl rfl)) (pgs_cons (pg_name (i := 10) sc_law_one_correct.nd rfl (.inl rfl)) pgs_nil)) rfl rfl)) (fun _ _ _ _ _ => (pts_one (pt_cmpR (op_eqAK (K := K) rfl hr.units0) (pv 9) (pv 2) (nomark _)))) (fun _ _ _ _ _ => (pv 10))) (pss_cons (ps_set (i := 5) sc_law_one_correct.nd rfl (.inl rfl) (pe_tupZ (pa_cons pe_str (pa_cons (pv 2) pa_nil)))) (pss_cons (ps_set (i := 6) sc_law_one_correct.nd rfl (.inl rfl) (pe_disp (pps_cons pe_str (pe_ifExp (pt_cmpR (op_neK (K := K) rfl hr.units0) (pv 3) (pe_lst pa_nil) (nomark _)) (pe_tupZ (pa_cons pe_str (pa_cons (pe_ix (ix_K (K := K) rfl hr.u1) (pv 3) pe_int (fun _ _ => rfl)) pa_nil))) (pv 5)) pps_nil) rfl rfl (fun h => nomatch h) (by decide))) (pss_cons (ps_dput hr.u1 (pv 6) pe_str (pe_ifExp (pt_cmpR (op_neK (K := K) rfl hr.units0) (pv 4) (pe_lst pa_nil) (nomark _)) (pe_tupZ (pa_cons pe_str (pa_cons (pe_ix (ix_K (K := K) rfl hr.u1) (pv 4) pe_int (fun _ _ => rfl)) pa_nil))) (pv 5)) rfl) (pss_cons (ps_dput hr.u1 (pv 6) pe_str (pe_ifExp (pt_cmpR (op_neK (K := K) rfl hr.units0) (pe_op (op_addK (K := K) rfl) (pv 3) (pv 4)) (pe_lst pa_nil) (nomark _)) (pe_tupZ (pa_cons pe_str (pa_cons (pe_g (ok_law_neighbors T _ (hr.mono (by first | decide | omega | (simp only [Nat.add_eq]; omega) | (show _ ≤ _ + _; omega)))) (by rfl) T.m_law_neighbors T.F_law_neighbors.kp (cb_pos T.F_law_neighbors (n := 2) (ps := ["_law_parts_here", "_law_name"]) (fun _ _ _ _ _ _ us h1 => match us, h1 with | [_, _], _ => rfl)) pass0 (pa_cons (pv 1) (pa_cons (pv 2) pa_nil))) pa_nil))) (pv 5)) rfl) (pss_cons (ps_for PassesOwn.never rfl (pi_seqK (K := K) rfl (pe_lst (pa_cons pe_str (pa_cons pe_str (pa_cons pe_str pa_nil))))) (pg_name (i := 7) sc_law_one_correct.nd rfl (.inl rfl)) (pss_cons (ps_for PassesOwn.never rfl (pi_seqK (K := K) rfl (pe_tupZ (pa_cons pe_bl (pa_cons pe_bl pa_nil)))) (pg_name (i := 8) sc_law_one_correct.nd rfl (.inl rfl)) (pss_cons (ps_if (pt_cmpR (op_neK (K := K) rfl hr.units0) (pe_g (ok_law_outcome T _ (hr.mono (by first | decide | omega | (simp only [Nat.add_eq]; omega) | (show _ ≤ _ + _; omega)))) (by rfl) T.m_law_outcome T.F_law_outcome.kp (cb_pos T.F_law_outcome (n := 4) (ps := ["_law_network", "_law_method", "_law_item", "_law_by_keyword"]) (fun _ _ _ _ _ _ us h1 => match us, h1 with | [_, _, _, _], _ => rfl)) pass0 (pa_cons (pv 0) (pa_cons (pv 7) (pa_cons (pv 2) (pa_cons (pv 8) pa_nil))))) (pe_callB (id := "repr") (call_reprK (K := K) rfl T.sys hr) (by rfl) T.b_repr (by decide +kernel) (pa_cons (pe_ix (ix_K (K := K) rfl hr.u1) (pv 6) (pv 7) (fun _ _ => rfl)) pa_nil)) (nomark _)) (pss_one (ps_ret pe_bl)) pss_nil) pss_nil)) pss_nil)) (pss_one (ps_ret pe_bl))))))))), fun ds hl => ?_⟩
  match ds, hl with
  | [network, parts, item], _ =>
    show Psr (S := Unit) K _ .dat [.dat network, .dat parts, .dat item, .un, .un, .un, .un, .un, .un, .un, .un] (F_law_one_correct network parts item)
    exact (psr_let (i := 3) (ρ' := fun thicknesses_2 => [.dat network, .dat parts, .dat item, .dat thicknesses_2, .un, .un, .un, .un, .un, .un, .un]) (Px.frz (px_lc (ρv := [.dat network, .dat parts, .dat item, .un, .un, .un, .un, .un, .un, .un, .un]) (ρ2 := [.dat network, .dat parts, .dat item, .un, .un, .un, .un, .un, .un, .un, .un]) (vs := [9, 10]) (go_t (gos_c go_n (gos_c go_n gos_n))) (pi_sq (pf_dat (px_op ok_ix (Px.vw (px_var rfl)) (Px.vw px_int)))) (pg_2 (pg_n (ρ' := fun d => [.dat network, .dat parts, .dat item, .un, .un, .un, .un, .un, .un, .dat d, .un])) (fun g0_3 => (pg_n (ρ' := fun d => [.dat network, .dat parts, .dat item, .un, .un, .un, .un, .un, .un, .dat g0_3, .dat d])))) (fun p_1 => (pt_test (Px.vw (px_op ok_eqA (Px.vw (px_var rfl)) (Px.vw (px_var rfl)))))) (fun p_1 => (px_var rfl)))) (Nat.le_of_ble_eq_true rfl) (fun thicknesses_2 => (psr_let (i := 4) (ρ' := fun starts_4 => [.dat network, .dat parts, .dat item, .dat thicknesses_2, .dat starts_4, .un, .un, .un, .un, .un, .un]) (Px.frz (px_lc (ρv := [.dat network, .dat parts, .dat item, .dat thicknesses_2, .un, .un, .un, .un, .un, .un, .un]) (ρ2 := [.dat network, .dat parts, .dat item, .dat thicknesses_2, .un, .un, .un, .un, .un, .un, .un]) (vs := [9, 10]) (go_t (gos_c go_n (gos_c go_n gos_n))) (pi_sq (pf_dat (px_op ok_ix (Px.vw (px_var rfl)) (Px.vw px_int)))) (pg_2 (pg_n (ρ' := fun d => [.dat network, .dat parts, .dat item, .dat thicknesses_2, .un, .un, .un, .un, .un, .dat d, .un])) (fun g0_3 => (pg_n (ρ' := fun d => [.dat network, .dat parts, .dat item, .dat thicknesses_2, .un, .un, .un, .un, .un, .dat g0_3, .dat d])))) (fun p_3 => (pt_test (Px.vw (px_op ok_eqA (Px.vw (px_var rfl)) (Px.vw (px_var rfl)))))) (fun p_3 => (px_var rfl)))) (Nat.le_of_ble_eq_true rfl) (fun starts_4 => (psr_let (i := 5) (ρ' := fun unknown_5 => [.dat network, .dat parts, .dat item, .dat thicknesses_2, .dat starts_4, .dat unknown_5, .un, .un, .un, .un, .un]) (px_tup (pm_cons (px_str (n := tx_unknown)) (pm_cons (px_var rfl) pm_nil))) (Nat.le_of_ble_eq_true rfl) (fun unknown_5 => (psr_letO (i := 6) (ρ' := fun expected_8 => [.dat network, .dat parts, .dat item, .dat thicknesses_2, .dat starts_4, .dat unknown_5, .own expected_8, .un, .un, .un, .un]) (px_disp1 (px_str (n := tx_thickness)) (px_ifE (pt_test (Px.vw (px_op ok_ne (Px.vw (px_var rfl)) (Px.vw (Px.frz (px_lst pm_nil)))))) (px_tup (pm_cons (px_str (n := tx_returned)) (pm_cons (px_op ok_ix (Px.vw (px_var rfl)) (Px.vw px_int)) pm_nil))) (px_var rfl))) (Nat.le_of_ble_eq_true rfl) (fun expected_8 => (psr_put (ρ' := fun expected_9 => [.dat network, .dat parts, .dat item, .dat thicknesses_2, .dat starts_4, .dat unknown_5, .own expected_9, .un, .un, .un, .un]) rfl (px_ifE (pt_test (Px.vw (px_op ok_ne (Px.vw (px_var rfl)) (Px.vw (Px.frz (px_lst pm_nil)))))) (px_tup (pm_cons (px_str (n := tx_returned)) (pm_cons (px_op ok_ix (Px.vw (px_var rfl)) (Px.vw px_int)) pm_nil))) (px_var rfl)) (Px.vw (px_str (n := tx_start))) (fun expected_9 => (psr_put (ρ' := fun expected_10 => [.dat network, .dat parts, .dat item, .dat thicknesses_2, .dat starts_4, .dat unknown_5, .own expected_10, .un, .un, .un, .un]) rfl (px_ifE (pt_test (Px.vw (px_op ok_ne (Px.vw (px_op ok_add (Px.vw (px_var rfl)) (Px.vw (px_var rfl)))) (Px.vw (Px.frz (px_lst pm_nil)))))) (px_tup (pm_cons (px_str (n := tx_returned)) (pm_cons (px_callP (F := (ap2 F_law_neighbors)) (pm_cons (px_var rfl) (pm_cons (px_var rfl) pm_nil))) pm_nil))) (px_var rfl)) (Px.vw (px_str (n := tx_neighbors))) (fun expected_10 => (psr_frz (i := 6) (ρ' := [.dat network, .dat parts, .dat item, .dat thicknesses_2, .dat starts_4, .dat unknown_5, .dat expected_10, .un, .un, .un, .un]) rfl (psr_seq (α := Unit) (env := fun a => [.dat network, .dat parts, .dat item, .dat thicknesses_2, .dat starts_4, .dat unknown_5, .dat expected_10, .un, .un, .un, .un]) (pst_for (α := Unit) (env := fun a => [.dat network, .dat parts, .dat item, .dat thicknesses_2, .dat starts_4, .dat unknown_5, .dat expected_10, .un, .un, .un, .un]) [true, true, true, true, true, true, true, false, false, false, false] (pi_sq (pf_dat (Px.frz (px_lst (pm_cons (px_str (n := tx_neighbors)) (pm_cons (px_str (n := tx_start)) (pm_cons (px_str (n := tx_thickness)) pm_nil))))))) (fun a_11 => (pg_n (ρ' := fun d => [.dat network, .dat parts, .dat item, .dat thicknesses_2, .dat starts_4, .dat unknown_5, .dat expected_10, .dat d, .un, .un, .un]))) (fun a_11 method_12 => (pst_seq (α := Unit) (env := fun a => [.dat network, .dat parts, .dat item, .dat thicknesses_2, .dat starts_4, .dat unknown_5, .dat expected_10, .dat method_12, .un, .un, .un]) (pst_for (α := Unit) (env := fun a => [.dat network, .dat parts, .dat item, .dat thicknesses_2, .dat starts_4, .dat unknown_5, .dat expected_10, .dat method_12, .un, .un, .un]) [true, true, true, true, true, true, true, true, false, false, false] (pi_sq (pf_dat (px_tup (pm_cons px_bl (pm_cons px_bl pm_nil))))) (fun a_13 => (pg_n (ρ' := fun d => [.dat network, .dat parts, .dat item, .dat thicknesses_2, .dat starts_4, .dat unknown_5, .dat expected_10, .dat method_12, .dat d, .un, .un]))) (fun a_13 by_keyword_14 => (pst_ifr (pt_test (Px.vw (px_op ok_ne (Px.vw (px_callP (F := (ap4 F_law_outcome)) (pm_cons (px_var rfl) (pm_cons (px_var rfl) (pm_cons (px_var rfl) (pm_cons (px_var rfl) pm_nil)))))) (Px.vw (px_repr (px_op ok_ix (Px.vw (px_var rfl)) (Px.vw (px_var rfl)))))))) (psr_ret px_bl) (pst_nil [true, true, true, true, true, true, true, true, false, false, false])))) (fun r_15 => (pst_nil [true, true, true, true, true, true, true, false, false, false, false]))))) (fun r_16 => (psr_ret px_bl))))))))))))))))

def F_Field___init__ (cells : PyData) (springs : PyData) (channels : PyData) : W SelfD PyData := wendA (wite (wnot (wB (wbind (wl [(wpure cells), (wpure (fnD "is_positive"))]) fun as => wlift ((ap2 F_are_nodes) as)))) (wret wfail) (wbind (wbind (wbind (wpure cells) fun d => wlift (wseq d)) fun it => wmapS (fun x => wbind ((fun x => w2 x fun x1 x2 => wbind (wpure x1) fun a => wbind (wpure x2) fun b => wpure (a, b)) x) fun p_1 => (wpure p_1.1)) it) fun cell_names_2 => (wite (wor (wnot (wB (wbind (wl [(wpure springs), (wpure (fnD "is_nonnegative"))]) fun as => wlift ((ap2 F_are_nodes) as)))) (wB (wbind (wl [(wbind (wbind (wpure springs) fun d => wlift (wseq d)) fun it => wmapS (fun x => wbind ((fun x => w2 x fun x1 x2 => wbind (wpure x1) fun a => wbind (wpure x2) fun b => wpure (a, b)) x) fun p_3 => (wbind (wpure p_3.1) fun a => wbind (wpure cell_names_2) fun b => wlift (oin a b))) it)]) fun as => wlift (oany as)))) (wret wfail) (wbind (wbind (wpure cell_names_2) fun a => wbind (wbind (wbind (wpure springs) fun d => wlift (wseq d)) fun it => wmapS (fun x => wbind ((fun x => w2 x fun x1 x2 => wbind (wpure x1) fun a => wbind (wpure x2) fun b => wpure (a, b)) x) fun p_4 => (wpure p_4.1)) it) fun b => wlift (oadd a b)) fun nodes_5 => (wite (wnot (wB (wbind (wl [(wpure channels), (wpure nodes_5)]) fun as => wlift ((ap2 F_are_channels) as)))) (wret wfail) (wbind (wfset "Field" "cells" (wpure cells)) fun _ => (wbind (wfset "Field" "springs" (wpure springs)) fun _ => (wbind (wfset "Field" "channels" (wpure channels)) fun _ => (wbind (wfset "Field" "thickness_by_cell" (wbind (wl [(wpure cells)]) fun as => wlift (odict as))) fun _ => (wbind (wfset "Field" "start_by_spring" (wbind (wl [(wpure springs)]) fun as => wlift (odict as))) fun _ => (wnets "Field" "widths_by_node" nodes_5 channels)))))))))))
theorem ok_Field___init__ (T : Env K mg base) : FnG P w K mg base CX0 41 T.a_Field___init__ T.fd_Field___init__ ["self", "cells", "springs", "channels"] (spP K (S := SelfS K) .dat [.dk, .dat, .dat, .dat] (apD (ap3 F_Field___init__))) := by
  refine okPn2 (α := Unit) (env := fun _ => [.un, .un, .un, .un, .un, .un, .un, .un, .un, .un, .un, .un]) T.F_Field___init__ sc_Field___init__ rfl fun cdv A outer s H E hr => ⟨_, (pss_cons (ps_if (pt_not (pt_val (pe_g (ok_are_nodes T _ (hr.mono (by first | decide | omega | (simp only [Nat.add_eq]; omega) | (show _ ≤ _ + _; omega)))) (by rfl) T.m_are_nodes T.F_are_nodes.kp (cb_pos T.F_are_nodes (n := 2) (ps := ["value", "is_allowed"]) (fun _ _ _ _ _ _ us h1 => match us, h1 with | [_, _], _ => rfl)) pass0 (pa_cons (pv 1) (pa_cons (pe_glob (v := .ref T.a_is_positive) rfl T.m_is_positive rfl) pa_nil))))) (pss_one ps_never) pss_nil) (pss_cons (ps_set (i := 4) sc_Field___init__.nd rfl (.inr rfl) (pe_lc (own := [("name", 9), ("thickness", 10)]) (g := (gTup K 2 (gCons (gName 9) (gCons (gName 10) gNil)))) rfl sc_Field___init__.nd (pi_seqK (K := K) rfl (pv 1)) (blkOk_by (own := [("name", 9), ("thickness", 10)]) (N := ["self", "cells", "springs", "channels", "cell_names", "nodes", "a", "b", "width", "name", "thickness", "start"]) (sc := defScope s_Field___init__) (by decide +kernel)) (fun _ _ _ _ _ => (pg_tupK (K := K) (n := 2) rfl rfl (pgs_cons (pg_name (i := 9) sc_Field___init__.nd rfl (.inl rfl)) (pgs_cons (pg_name (i := 10) sc_Field___init__.nd rfl (.inl rfl)) pgs_nil)) rfl rfl)) (fun _ _ _ _ _ => pts_nil) (fun _ _ _ _ _ => (pv 9)))) (pss_cons (ps_if (PW.pt (pw_or (pt_not (pt_val (pe_g (ok_are_nodes T _ (hr.mono (by first | decide | omega | (simp only [Nat.add_eq]; omega) | (show _ ≤ _ + _; omega)))) (by rfl) T.m_are_nodes T.F_are_nodes.kp (cb_pos T.F_are_nodes (n := 2) (ps := ["value", "is_allowed"]) (fun _ _ _ _ _ _ us h1 => match us, h1 with | [_, _], _ => rfl)) pass0 (pa_cons (pv 2) (pa_cons (pe_glob (v := .ref T.a_is_nonnegative) rfl T.m_is_nonnegative rfl) pa_nil))))) (pw_or1 (pt_val (pe_callB (id := "any") (call_anyK (K := K) rfl) (by rfl) T.b_any (by decide +kernel) (pa_cons (pe_lc (own := [("name", 9), ("start", 11)]) (g := (gTup K 2 (gCons (gName 9) (gCons (gName 11) gNil)))) rfl sc_Field___init__.nd (pi_seqK (K := K) rfl (pv 2)) (blkOk_by (own := [("name", 9), ("start", 11)]) (N := ["self", "cells", "springs", "channels", "cell_names", "nodes", "a", "b", "width", "name", "thickness", "start"]) (sc := defScope s_Field___init__) (by decide +kernel)) (fun _ _ _ _ _ => (pg_tupK (K := K) (n := 2) rfl rfl (pgs_cons (pg_name (i := 9) sc_Field___init__.nd rfl (.inl rfl)) (pgs_cons (pg_name (i := 11) sc_Field___init__.nd rfl (.inl rfl)) pgs_nil)) rfl rfl)) (fun _ _ _ _ _ => pts_nil) (fun _ _ _ _ _ => (pe_cmpR (op_inK (K := K) rfl hr.u1) (pv 9) (pv 4) (by rfl)))) pa_nil)))))) (pss_one ps_never) pss_nil) (pss_cons (ps_set (i := 5) sc_Field___init__.nd rfl (.inl rfl) (pe_op (op_addK (K := K) rfl) (pv 4) (pe_lc (own := [("name", 9), ("start", 11)]) (g := (gTup K 2 (gCons (gName 9) (gCons (gName 11) gNil)))) rfl sc_Field___init__.nd (pi_seqK (K := K) rfl (pv 2)) (blkOk_by (own := [("name", 9), ("start", 11)]) (N := ["self", "cells", "springs", "channels", "cell_names", "nodes", "a", "b", "width", "name", "thickness", "start"]) (sc := defScope s_Field___init__) (by decide +kernel)) (fun _ _ _ _ _ => (pg_tupK (K := K) (n := 2) rfl rfl (pgs_cons (pg_name (i := 9) sc_Field___init__.nd rfl (.inl rfl)) (pgs_cons (pg_name (i := 11) sc_Field___init__.nd rfl (.inl rfl)) pgs_nil)) rfl rfl)) (fun _ _ _ _ _ => pts_nil) (fun _ _ _ _ _ => (pv 9))))) (pss_cons (ps_if (pt_not (pt_val (pe_g (ok_are_channels T _ (hr.mono (by first | decide | omega | (simp only [Nat.add_eq]; omega) | (show _ ≤ _ + _; omega)))) (by rfl) T.m_are_channels T.F_are_channels.kp (cb_pos T.F_are_channels (n := 2) (ps := ["value", "nodes"]) (fun _ _ _ _ _ _ us h1 => match us, h1 with | [_, _], _ => rfl)) pass0 (pa_cons (pv 3) (pa_cons (pv 5) pa_nil))))) (pss_one ps_never) pss_nil) (pss_cons (ps_fldK (K := K) rfl (pv 0) (pv 1)) (pss_cons (ps_fldK (K := K) rfl (pv 0) (pv 2)) (pss_cons (ps_fldK (K := K) rfl (pv 0) (pv 3)) (pss_cons (ps_fldK (K := K) rfl (pv 0) (pe_callTy (T := "dict") (call_dictK (K := K) rfl rfl) (by rfl) T.b_dict (by decide +kernel) (pa_cons (pv 1) pa_nil))) (pss_cons (ps_fldK (K := K) rfl (pv 0) (pe_callTy (T := "dict") (call_dictK (K := K) rfl rfl) (by rfl) T.b_dict (by decide +kernel) (pa_cons (pv 2) pa_nil))) (pss_cons (ps_fldK (K := K) rfl (pv 0) (pe_dc (own := [("name", 9)]) (g := (gName 9)) rfl sc_Field___init__.nd (pi_seqK (K := K) rfl (pv 5)) (blkOk_by (own := [("name", 9)]) (N := ["self", "cells", "springs", "channels", "cell_names", "nodes", "a", "b", "width", "name", "thickness", "start"]) (sc := defScope s_Field___init__) (by decide +kernel)) (fun _ _ _ _ _ => (pg_name (i := 9) sc_Field___init__.nd rfl (.inl rfl))) (fun _ _ _ _ _ => pts_nil) (fun _ _ _ _ _ => (pv 9)) (fun _ _ _ _ _ => pe_dnewK))) (pss_cons (ps_for PassesOwn.never rfl (pi_seqK (K := K) rfl (pv 3)) (pg_tupK (K := K) (n := 3) rfl rfl (pgs_cons (pg_name (i := 6) sc_Field___init__.nd rfl (.inl rfl)) (pgs_cons (pg_name (i := 7) sc_Field___init__.nd rfl (.inl rfl)) (pgs_cons (pg_name (i := 8) sc_Field___init__.nd rfl (.inl rfl)) pgs_nil))) rfl rfl) (pss_cons (ps_dput hr.u1 (pe_dget hr.u1 (pe_fldK (K := K) rfl (pv 0)) (pv 6) (fun _ _ => rfl)) (pv 7) (pv 8) rfl) (pss_cons (ps_dput hr.u1 (pe_dget hr.u1 (pe_fldK (K := K) rfl (pv 0)) (pv 7) (fun _ _ => rfl)) (pv 6) (pv 8) rfl) pss_nil))) pss_nil)))))))))))), fun ds hl => ?_⟩
  match ds, hl with
  | [_, cells, springs, channels], _ => exact ⟨_, rfl, ((pst_ifr (pt_not' (pt_B (Px.vw (px_callP (F := (ap2 F_are_nodes)) (pm_cons (px_var rfl) (pm_cons (px_fnv T.cn_is_positive) pm_nil)))))) psr_never (pst_let (i := 4) (ρ' := fun cell_names_2 => [.dk, .dat cells, .dat springs, .dat channels, .dat cell_names_2, .un, .un, .un, .un, .un, .un, .un]) (Px.frz (px_lc1 (ρv := [.dk, .dat cells, .dat springs, .dat channels, .un, .un, .un, .un, .un, .un, .un, .un]) (ρ2 := [.dk, .dat cells, .dat springs, .dat channels, .un, .un, .un, .un, .un, .un, .un, .un]) (vs := [9, 10]) (go_t (gos_c go_n (gos_c go_n gos_n))) (pi_sq (pf_dat (px_var rfl))) (pg_2 (pg_n (ρ' := fun d => [.dk, .dat cells, .dat springs, .dat channels, .un, .un, .un, .un, .un, .dat d, .un, .un])) (fun g0_3 => (pg_n (ρ' := fun d => [.dk, .dat cells, .dat springs, .dat channels, .un, .un, .un, .un, .un, .dat g0_3, .dat d, .un])))) (fun p_1 => (px_var rfl)))) (Nat.le_of_ble_eq_true rfl) (fun cell_names_2 => (pst_ifr (pt_or' (pt_not' (pt_B (Px.vw (px_callP (F := (ap2 F_are_nodes)) (pm_cons (px_var rfl) (pm_cons (px_fnv T.cn_is_nonnegative) pm_nil)))))) (pt_B (Px.vw (px_cb ok_any (pm_cons (Px.vw (Px.frz (px_lc1 (ρv := [.dk, .dat cells, .dat springs, .dat channels, .dat cell_names_2, .un, .un, .un, .un, .un, .un, .un]) (ρ2 := [.dk, .dat cells, .dat springs, .dat channels, .dat cell_names_2, .un, .un, .un, .un, .un, .un, .un]) (vs := [9, 11]) (go_t (gos_c go_n (gos_c go_n gos_n))) (pi_sq (pf_dat (px_var rfl))) (pg_2 (pg_n (ρ' := fun d => [.dk, .dat cells, .dat springs, .dat channels, .dat cell_names_2, .un, .un, .un, .un, .dat d, .un, .un])) (fun g0_3 => (pg_n (ρ' := fun d => [.dk, .dat cells, .dat springs, .dat channels, .dat cell_names_2, .un, .un, .un, .un, .dat g0_3, .un, .dat d])))) (fun p_3 => (px_op ok_in (Px.vw (px_var rfl)) (Px.vw (px_var rfl))))))) pm_nil))))) psr_never (pst_let (i := 5) (ρ' := fun nodes_5 => [.dk, .dat cells, .dat springs, .dat channels, .dat cell_names_2, .dat nodes_5, .un, .un, .un, .un, .un, .un]) (px_op ok_add (Px.vw (px_var rfl)) (Px.vw (Px.frz (px_lc1 (ρv := [.dk, .dat cells, .dat springs, .dat channels, .dat cell_names_2, .un, .un, .un, .un, .un, .un, .un]) (ρ2 := [.dk, .dat cells, .dat springs, .dat channels, .dat cell_names_2, .un, .un, .un, .un, .un, .un, .un]) (vs := [9, 11]) (go_t (gos_c go_n (gos_c go_n gos_n))) (pi_sq (pf_dat (px_var rfl))) (pg_2 (pg_n (ρ' := fun d => [.dk, .dat cells, .dat springs, .dat channels, .dat cell_names_2, .un, .un, .un, .un, .dat d, .un, .un])) (fun g0_3 => (pg_n (ρ' := fun d => [.dk, .dat cells, .dat springs, .dat channels, .dat cell_names_2, .un, .un, .un, .un, .dat g0_3, .un, .dat d])))) (fun p_4 => (px_var rfl)))))) (Nat.le_of_ble_eq_true rfl) (fun nodes_5 => (pst_ifr (pt_not' (pt_B (Px.vw (px_callP (F := (ap2 F_are_channels)) (pm_cons (px_var rfl) (pm_cons (px_var rfl) pm_nil)))))) psr_never (pst_fset (nm := "Field") rfl (na_of T.cn_Field T.cls_Field T.na_Field_cells) (px_var rfl) (pst_fset (nm := "Field") rfl (na_of T.cn_Field T.cls_Field T.na_Field_springs) (px_var rfl) (pst_fset (nm := "Field") rfl (na_of T.cn_Field T.cls_Field T.na_Field_channels) (px_var rfl) (pst_fset (nm := "Field") rfl (na_of T.cn_Field T.cls_Field T.na_Field_thickness_by_cell) (Px.frz (px_cb ok_dict (pm_cons (Px.vw (px_var rfl)) pm_nil))) (pst_fset (nm := "Field") rfl (na_of T.cn_Field T.cls_Field T.na_Field_start_by_spring) (Px.frz (px_cb ok_dict (pm_cons (Px.vw (px_var rfl)) pm_nil))) (pst_nets (env := fun _ => [.dk, .dat cells, .dat springs, .dat channels, .dat cell_names_2, .dat nodes_5, .un, .un, .un, .un, .un, .un]) (env2 := fun _ => [.un, .un, .un, .un, .un, .un, .un, .un, .un, .un, .un, .un]) (ms2 := [false, false, false, false, false, false, false, false, false, false, false, false]) (ms := [true, true, true, true, true, true, false, false, false, true, true, true]) (i := 5) (c := 3) (ia := 6) (ib := 7) (iw := 8) (jn := 9) rfl rfl rfl (by exact Nat.le_of_ble_eq_true rfl) rfl (na_of T.cn_Field T.cls_Field T.na_Field_widths_by_node) ⟨by decide, by decide, by decide, by decide, by decide, by decide, Nat.le_of_ble_eq_true rfl, Nat.le_of_ble_eq_true rfl, Nat.le_of_ble_eq_true rfl⟩ (fun _ _ _ => rfl) rfl rfl rfl (fun _ _ _ => rfl) rfl rfl rfl))))))))))))))⟩
def F_law (script : PyData) : W Unit PyData := (wnew (apN F_law_deck) script (wbind (wbind (wl [(wpure .none), (wpure (.bool true)), (wpure (.int 0)), (wpure (.str tx_none)), (wpure (.str tx_u41)), (wpure (.str tx_zzzzzzzz)), (wpure (.str tx_h3f7346)), (wbind (wl [(wpure (.str tx_a))]) fun as => wpure (PyData.tuple as)), (wbind (wl []) fun as => wpure (.list as)), (wbind (wl [(wpure (.str tx_a))]) fun as => wpure (.list as)), (wpure (.dict [])), (wbind (wl [(wpure (.int 0)), (wpure (.int 1))]) fun as => wpure (PyData.tuple as))]) fun as => wpure (.list as)) fun odd_1 => (wbind (wbind (wl []) fun as => wpure (.list as)) fun built_2 => (wbind (wbind (wbind (wl [(wpure (.int 2))]) fun as => wlift (wrange1 as)) fun it => wforn (fun x a_3 => wbind (wpure x) fun turn_4 => (wbind (wbind (wl [(wpure .none)]) (apD (ap0 F_law_parts))) fun parts_5 => (wbind (wapp a_3 (wbind (wl [(wbind (wl [(wbind (wpure parts_5) fun a => wbind (wpure (.int 0)) fun b => wlift (oix a b)), (wbind (wpure parts_5) fun a => wbind (wpure (.int 1)) fun b => wlift (oix a b)), (wbind (wpure parts_5) fun a => wbind (wpure (.int 2)) fun b => wlift (oix a b))]) fun as => wmake "Field" (apD (ap3 F_Field___init__)) as), (wpure parts_5)]) fun as => wpure (PyData.tuple as))) fun built_6 => (wpure built_6)))) it built_2) fun r_7 => (fthen (wbind (wbind (wbind (wpure r_7) fun a => wbind (wbind (wpure r_7) fun a => wbind (wpure none) fun lo => wbind (wbind (wpure (.int 1)) toI) fun hi => wlift (osl a lo hi)) fun b => wlift (oadd a b)) fun d => wlift (wseq d)) fun it => wfor (fun x a_8 => wbind ((fun x => w2 x fun x1 x2 => wbind (wpure x1) fun a => wbind (wpure x2) fun b => wpure (a, b)) x) fun p_9 => (wbind (wbind (wbind (wbind (wbind (wpure p_9.2) fun a => wbind (wpure (.int 0)) fun b => wlift (oix a b)) fun a => wbind (wbind (wpure p_9.2) fun a => wbind (wpure (.int 1)) fun b => wlift (oix a b)) fun b => wlift (oadd a b)) fun d => wlift (wseq d)) fun it => wmapS (fun x => wbind (wpure x) fun row_10 => (wbind (wpure row_10) fun a => wbind (wpure (.int 0)) fun b => wlift (oix a b))) it) fun names_11 => (wbind (wbind (wbind (wbind (wbind (wpure names_11) fun a => wbind (wpure none) fun lo => wbind (wbind (wpure (.int 2)) toI) fun hi => wlift (osl a lo hi)) fun d => wlift (wseq d)) fun it => wmapS (fun x => wbind (wpure x) fun name_12 => (wbind (wpure name_12) fun a => wbind (wpure none) fun lo => wbind (wbind (wbind (wpure (.int 1)) fun a => wlift (oneg a)) toI) fun hi => wlift (osl a lo hi))) it) fun a => wbind (wbind (wbind (wbind (wpure names_11) fun a => wbind (wbind (wbind (wpure (.int 2)) fun a => wlift (oneg a)) toI) fun lo => wbind (wpure none) fun hi => wlift (osl a lo hi)) fun d => wlift (wseq d)) fun it => wmapS (fun x => wbind (wpure x) fun name_13 => (wbind (wpure name_13) fun a => wbind (wpure (.str tx_a)) fun b => wlift (oadd a b))) it) fun b => wlift (oadd a b)) fun near_14 => (wbind (wbind (wbind (wpure names_11) fun a => wbind (wpure odd_1) fun b => wlift (oadd a b)) fun a => wbind (wbind (wbind (wpure near_14) fun d => wlift (wseq d)) fun it => wlcS (fun x => wbind (wpure x) fun item_15 => wlcE (wB (wbind (wpure item_15) fun a => wbind (wpure names_11) fun b => wlift (onotin a b))) (wpure item_15)) it) fun b => wlift (oadd a b)) fun items_16 => (wbind (wbind (wl [(wbind (wl [(wbind (wpure p_9.1) (wfld "Field" "cells")), (wbind (wpure p_9.1) (wfld "Field" "springs")), (wbind (wpure p_9.1) (wfld "Field" "channels"))]) fun as => wpure (PyData.tuple as))]) fun as => wlift (orepr as)) fun before_17 => (wite (wB (wbind (wbind (wbind (wpure items_16) fun d => wlift (wseq d)) fun it => wlcS (fun x => wbind (wpure x) fun item_18 => wlcE (wnot (wB (wbind (wl [(wpure p_9.1), (wpure p_9.2), (wpure item_18)]) fun as => wlift ((ap3 F_law_one_correct) as)))) (wpure item_18)) it) fun a => wbind (wbind (wl []) fun as => wpure (.list as)) fun b => wlift (one a b))) (wret (wpure (.bool false))) (wite (wnot (wB (wbind (wl [(wpure p_9.1), (wpure p_9.2), (wpure items_16), (wpure names_11)]) fun as => wlift ((ap4 F_law_widths_correct) as)))) (wret (wpure (.bool false))) (wite (wor (wB (wbind (wpure before_17) fun a => wbind (wbind (wl [(wpure p_9.2)]) fun as => wlift (orepr as)) fun b => wlift (one a b))) (wB (wbind (wbind (wl [(wbind (wl [(wbind (wpure p_9.1) (wfld "Field" "cells")), (wbind (wpure p_9.1) (wfld "Field" "springs")), (wbind (wpure p_9.1) (wfld "Field" "channels"))]) fun as => wpure (PyData.tuple as))]) fun as => wlift (orepr as)) fun a => wbind (wpure before_17) fun b => wlift (one a b)))) (wret (wpure (.bool false))) (wnx ()))))))))) it ()) fun r_19 => (wpure (.bool true)))))))
theorem ok_law (T : Env K mg base) : FnG P w K mg base CX0 43 T.a_law T.fd_law ["_law_script"] (spP K (S := Unit) .dat [.vw] (ap1 F_law)) := by
  refine okP T.F_law sc_law rfl fun cdv A outer s H E hr => ⟨_, (pss_cons (ps_set (i := 1) sc_law.nd rfl (.inl rfl) (pe_g (ok_law_deck T _ (hr.mono (by decide))) (by rfl) T.m_law_deck T.F_law_deck.kp (cb_pos T.F_law_deck (n := 1) (ps := ["_law_script"]) (fun _ _ _ _ _ _ us h1 => match us, h1 with | [_], _ => rfl)) pass0 (pa_cons (pv 0) pa_nil))) (pss_cons (ps_set (i := 2) sc_law.nd rfl (.inl rfl) (pe_lst (pa_cons pe_non (pa_cons pe_bl (pa_cons pe_int (pa_cons pe_str (pa_cons pe_str (pa_cons pe_str (pa_cons pe_str (pa_cons (pe_tupZ (pa_cons pe_str pa_nil)) (pa_cons (pe_lst pa_nil) (pa_cons (pe_lst (pa_cons pe_str pa_nil)) (pa_cons pe_dnewK (pa_cons (pe_tupZ (pa_cons pe_int (pa_cons pe_int pa_nil))) pa_nil)))))))))))))) (pss_cons (ps_set (i := 3) sc_law.nd rfl (.inl rfl) (pe_lst pa_nil)) (pss_cons (ps_for PassesOwn.never rfl (pi_range1 (by rfl) T.b_range (pa_cons pe_int pa_nil)) (pg_name (i := 4) sc_law.nd rfl (.inl rfl)) (pss_cons (ps_set (i := 5) sc_law.nd rfl (.inr rfl) (pe_g (ok_law_parts T _ (hr.mono (by first | decide | omega | (simp only [Nat.add_eq]; omega) | (show _ ≤ _ + _; omega)))) (by rfl) T.m_law_parts T.F_law_parts.kp (cb_pos T.F_law_parts (n := 1) (ps := ["_law_deck_here"]) (fun _ _ _ _ _ _ us h1 => match us, h1 with | [_], _ => rfl)) pass0 (pa_cons (pv 1) pa_nil))) (pss_cons (ps_expr (pe_appendK (K := K) rfl (pv 3) (pe_tupZ (pa_cons (pe_makeG T.mk_Field (ok_Field___init__ T) (hr.mono (by decide)) (by rfl) T.m_Field (cb_pos T.F_Field___init__ (n := 4) (ps := ["self", "cells", "springs", "channels"]) (fun _ _ _ _ _ _ us h1 => match us, h1 with | [_, _, _, _], _ => rfl)) pass0 (pa_cons (pe_ix (ix_K (K := K) rfl hr.u1) (pv 5) pe_int (fun _ _ => rfl)) (pa_cons (pe_ix (ix_K (K := K) rfl hr.u1) (pv 5) pe_int (fun _ _ => rfl)) (pa_cons (pe_ix (ix_K (K := K) rfl hr.u1) (pv 5) pe_int (fun _ _ => rfl)) pa_nil)))) (pa_cons (pv 5) pa_nil))))) pss_nil))) (pss_cons (ps_for PassesOwn.never rfl (pi_seqK (K := K) rfl (pe_op (op_addK (K := K) rfl) (pv 3) (pe_slice (sl_K (K := K) rfl) (pv 3) po_none (po_some pe_int)))) (pg_tupK (K := K) (n := 2) rfl rfl (pgs_cons (pg_name (i := 6) sc_law.nd rfl (.inr rfl)) (pgs_cons (pg_name (i := 5) sc_law.nd rfl (.inr rfl)) pgs_nil)) rfl rfl) (pss_cons (ps_set (i := 7) sc_law.nd rfl (.inr rfl) (pe_lc (own := [("_law_row", 11)]) (g := (gName 11)) rfl sc_law.nd (pi_seqK (K := K) rfl (pe_op (op_addK (K := K) rfl) (pe_ix (ix_K (K := K) rfl hr.u1) (pv 5) pe_int (fun _ _ => rfl)) (pe_ix (ix_K (K := K) rfl hr.u1) (pv 5) pe_int (fun _ _ => rfl)))) (blkOk_by (own := [("_law_row", 11)]) (N := ["_law_script", "_law_deck_here", "_law_odd", "_law_built", "_law_turn", "_law_parts_here", "_law_network", "_law_names_here", "_law_near", "_law_items", "_law_before", "_law_row", "_law_name", "_law_item"]) (sc := defScope s_law) (by decide +kernel)) (fun _ _ _ _ _ => (pg_name (i := 11) sc_law.nd rfl (.inl rfl))) (fun _ _ _ _ _ => pts_nil) (fun _ _ _ _ _ => (pe_ix (ix_K (K := K) rfl hr.u1) (pv 11) pe_int (fun _ _ => rfl))))) (pss_cons (ps_set (i := 8) sc_law.nd rfl (.inl rfl) (pe_op (op_addK (K := K) rfl) (pe_lc (own := [("_law_name", 12)]) (g := (gName 12)) rfl sc_law.nd (pi_seqK (K := K) rfl (pe_slice (sl_K (K := K) rfl) (pv 7) po_none (po_some pe_int))) (blkOk_by (own := [("_law_name", 12)]) (N := ["_law_script", "_law_deck_here", "_law_odd", "_law_built", "_law_turn", "_law_parts_here", "_law_network", "_law_names_here", "_law_near", "_law_items", "_law_before", "_law_row", "_law_name", "_law_item"]) (sc := defScope s_law) (by decide +kernel)) (fun _ _ _ _ _ => (pg_name (i := 12) sc_law.nd rfl (.inl rfl))) (fun _ _ _ _ _ => pts_nil) (fun _ _ _ _ _ => (pe_slice (sl_K (K := K) rfl) (pv 12) po_none (po_some (pe_un un_neg pe_int))))) (pe_lc (own := [("_law_name", 12)]) (g := (gName 12)) rfl sc_law.nd (pi_seqK (K := K) rfl (pe_slice (sl_K (K := K) rfl) (pv 7) (po_some (pe_un un_neg pe_int)) po_none)) (blkOk_by (own := [("_law_name", 12)]) (N := ["_law_script", "_law_deck_here", "_law_odd", "_law_built", "_law_turn", "_law_parts_here", "_law_network", "_law_names_here", "_law_near", "_law_items", "_law_before", "_law_row", "_law_name", "_law_item"]) (sc := defScope s_law) (by decide +kernel)) (fun _ _ _ _ _ => (pg_name (i := 12) sc_law.nd rfl (.inl rfl))) (fun _ _ _ _ _ => pts_nil) (fun _ _ _ _ _ => (pe_op (op_addK (K := K) rfl) (pv 12) pe_str))))) (pss_cons (ps_set (i := 9) sc_law.nd rfl (.inl rfl) (pe_op (op_addK (K := K) rfl) (pe_op (op_addK (K := K) rfl) (pv 7) (pv 2)) (pe_lc (own := [("_law_item", 13)]) (g := (gName 13)) rfl sc_law.nd (pi_seqK (K := K) rfl (pv 8)) (blkOk_by (own := [("_law_item", 13)]) (N := ["_law_script", "_law_deck_here", "_law_odd", "_law_built", "_law_turn", "_law_parts_here", "_law_network", "_law_names_here", "_law_near", "_law_items", "_law_before", "_law_row", "_law_name", "_law_item"]) (sc := defScope s_law) (by decide +kernel)) (fun _ _ _ _ _ => (pg_name (i := 13) sc_law.nd rfl (.inl rfl))) (fun _ _ _ _ _ => (pts_one (pt_cmpR (op_notInK (K := K) rfl hr.u1) (pv 13) (pv 7) (by rfl)))) (fun _ _ _ _ _ => (pv 13))))) (pss_cons (ps_set (i := 10) sc_law.nd rfl (.inl rfl) (pe_callB (id := "repr") (call_reprK (K := K) rfl T.sys hr) (by rfl) T.b_repr (by decide +kernel) (pa_cons (pe_tupZ (pa_cons (pe_fldK (K := K) rfl (pv 6)) (pa_cons (pe_fldK (K := K) rfl (pv 6)) (pa_cons (pe_fldK (K := K) rfl (pv 6)) pa_nil)))) pa_nil))) (pss_cons (ps_if (pt_cmpR (op_neK (K := K) rfl hr.units0) (pe_lc (own := [("_law_item", 13)]) (g := (gName 13)) rfl sc_law.nd (pi_seqK (K := K) rfl (pv 9)) (blkOk_by (own := [("_law_item", 13)]) (N := ["_law_script", "_law_deck_here", "_law_odd", "_law_built", "_law_turn", "_law_parts_here", "_law_network", "_law_names_here", "_law_near", "_law_items", "_law_before", "_law_row", "_law_name", "_law_item"]) (sc := defScope s_law) (by decide +kernel)) (fun _ _ _ _ _ => (pg_name (i := 13) sc_law.nd rfl (.inl rfl))) (fun _ _ _ _ _ => (pts_one (pt_not (pt_val (pe_g (ok_law_one_correct T _ (hr.mono (by first | decide | omega | (simp only [Nat.add_eq]; omega) | (show _ ≤ _ + _; omega)))) (by rfl) T.m_law_one_correct T.F_law_one_correct.kp (cb_pos T.F_law_one_correct (n := 3) (ps := ["_law_network", "_law_parts_here", "_law_item"]) (fun _ _ _ _ _ _ us h1 => match us, h1 with | [_, _, _], _ => rfl)) pass0 (pa_cons (pv 6) (pa_cons (pv 5) (pa_cons (pv 13) pa_nil)))))))) (fun _ _ _ _ _ => (pv 13))) (pe_lst pa_nil) (nomark _)) (pss_one (ps_ret pe_bl)) pss_nil) (pss_cons (ps_if (pt_not (pt_val (pe_g (ok_law_widths_correct T _ (hr.mono (by first | decide | omega | (simp only [Nat.add_eq]; omega) | (show _ ≤ _ + _; omega)))) (by rfl) T.m_law_widths_correct T.F_law_widths_correct.kp (cb_pos T.F_law_widths_correct (n := 4) (ps := ["_law_network", "_law_parts_here", "_law_items", "_law_names_here"]) (fun _ _ _ _ _ _ us h1 => match us, h1 with | [_, _, _, _], _ => rfl)) pass0 (pa_cons (pv 6) (pa_cons (pv 5) (pa_cons (pv 9) (pa_cons (pv 7) pa_nil))))))) (pss_one (ps_ret pe_bl)) pss_nil) (pss_cons (ps_if (PW.pt (pw_or (pt_cmpR (op_neK (K := K) rfl hr.units0) (pv 10) (pe_callB (id := "repr") (call_reprK (K := K) rfl T.sys hr) (by rfl) T.b_repr (by decide +kernel) (pa_cons (pv 5) pa_nil)) (nomark _)) (pw_or1 (pt_cmpR (op_neK (K := K) rfl hr.units0) (pe_callB (id := "repr") (call_reprK (K := K) rfl T.sys hr) (by rfl) T.b_repr (by decide +kernel) (pa_cons (pe_tupZ (pa_cons (pe_fldK (K := K) rfl (pv 6)) (pa_cons (pe_fldK (K := K) rfl (pv 6)) (pa_cons (pe_fldK (K := K) rfl (pv 6)) pa_nil)))) pa_nil)) (pv 10) (nomark _))))) (pss_one (ps_ret pe_bl)) pss_nil) pss_nil)))))))) (pss_one (ps_ret pe_bl))))))), fun ds hl => ?_⟩
  match ds, hl with
  | [script], _ =>
    show Psr (S := Unit) K _ .dat [.vw script, .un, .un, .un, .un, .un, .un, .un, .un, .un, .un, .un, .un, .un] (F_law script)
    exact (psr_newDW (k := dkK) (i := 1) (j := 0) (ρ' := [.vw script, .dk, .un, .un, .un, .un, .un, .un, .un, .un, .un, .un, .un, .un]) rfl (psr_let (i := 2) (ρ' := fun odd_1 => [.vw script, .dk, .dat odd_1, .un, .un, .un, .un, .un, .un, .un, .un, .un, .un, .un]) (Px.frz (px_lst (pm_cons px_non (pm_cons px_bl (pm_cons px_int (pm_cons (px_str (n := tx_none)) (pm_cons (px_str (n := tx_u41)) (pm_cons (px_str (n := tx_zzzzzzzz)) (pm_cons (px_str (n := tx_h3f7346)) (pm_cons (px_tup (pm_cons (px_str (n := tx_a)) pm_nil)) (pm_cons (Px.frz (px_lst pm_nil)) (pm_cons (Px.frz (px_lst (pm_cons (px_str (n := tx_a)) pm_nil))) (pm_cons (Px.frz px_dnewK) (pm_cons (px_tup (pm_cons px_int (pm_cons px_int pm_nil))) pm_nil)))))))))))))) (Nat.le_of_ble_eq_true rfl) (fun odd_1 => (psr_letO (i := 3) (ρ' := fun built_2 => [.vw script, .dk, .dat odd_1, .own built_2, .un, .un, .un, .un, .un, .un, .un, .un, .un, .un]) (px_lst pm_nil) (Nat.le_of_ble_eq_true rfl) (fun built_2 => (psr_seqn (α := PyData) (env := fun a => [.vw script, .dk, .dat odd_1, .own a, .un, .un, .un, .un, .un, .un, .un, .un, .un, .un]) (psn_for (α := PyData) (env := fun a => [.vw script, .dk, .dat odd_1, .own a, .un, .un, .un, .un, .un, .un, .un, .un, .un, .un]) [true, true, true, true, false, false, false, false, false, false, false, false, false, false] (pi_rng1 (pm_cons px_int pm_nil)) (fun a_3 => (pg_n (ρ' := fun d => [.vw script, .dk, .dat odd_1, .own a_3, .dat d, .un, .un, .un, .un, .un, .un, .un, .un, .un]))) (fun a_3 turn_4 => (psn_let (i := 5) (ρ' := fun parts_5 => [.vw script, .dk, .dat odd_1, .own a_3, .dat turn_4, .dat parts_5, .un, .un, .un, .un, .un, .un, .un, .un]) (px_callD (S := DR) (F := (apD (ap0 F_law_parts))) (pm_cons (px_dk rfl) pm_nil)) (Nat.le_of_ble_eq_true rfl) (fun parts_5 => (psn_app (ρ' := fun built_6 => [.vw script, .dk, .dat odd_1, .own built_6, .dat turn_4, .dat parts_5, .un, .un, .un, .un, .un, .un, .un, .un]) rfl (px_tup (pm_cons (Px.frz (px_make (nm := "Field") (F := (apD (ap3 F_Field___init__))) T.cn_Field (pm_cons (px_op ok_ix (Px.vw (px_var rfl)) (Px.vw px_int)) (pm_cons (px_op ok_ix (Px.vw (px_var rfl)) (Px.vw px_int)) (pm_cons (px_op ok_ix (Px.vw (px_var rfl)) (Px.vw px_int)) pm_nil))))) (pm_cons (px_var rfl) pm_nil))) (fun built_6 => (psn_nil [true, true, true, true, false, false, false, false, false, false, false, false, false, false]))))))) (fun r_7 => (psr_frz (i := 3) (ρ' := [.vw script, .dk, .dat odd_1, .dat r_7, .un, .un, .un, .un, .un, .un, .un, .un, .un, .un]) rfl (psr_seq (α := Unit) (env := fun a => [.vw script, .dk, .dat odd_1, .dat r_7, .un, .un, .un, .un, .un, .un, .un, .un, .un, .un]) (pst_for (α := Unit) (env := fun a => [.vw script, .dk, .dat odd_1, .dat r_7, .un, .un, .un, .un, .un, .un, .un, .un, .un, .un]) [true, true, true, true, false, false, false, false, false, false, false, false, false, false] (pi_sq (pf_dat (px_op ok_add (Px.vw (px_var rfl)) (Px.vw (px_sl ok_sl (Px.vw (px_var rfl)) po_n (po_s (Px.vw px_int))))))) (fun a_8 => (pg_2 (pg_n (ρ' := fun d => [.vw script, .dk, .dat odd_1, .dat r_7, .un, .un, .dat d, .un, .un, .un, .un, .un, .un, .un])) (fun g0_3 => (pg_n (ρ' := fun d => [.vw script, .dk, .dat odd_1, .dat r_7, .un, .dat d, .dat g0_3, .un, .un, .un, .un, .un, .un, .un]))))) (fun a_8 p_9 => (pst_let (i := 7) (ρ' := fun names_11 => [.vw script, .dk, .dat odd_1, .dat r_7, .un, .dat p_9.2, .dat p_9.1, .dat names_11, .un, .un, .un, .un, .un, .un]) (Px.frz (px_lc1 (ρv := [.vw script, .dk, .dat odd_1, .dat r_7, .un, .dat p_9.2, .dat p_9.1, .un, .un, .un, .un, .un, .un, .un]) (ρ2 := [.vw script, .dk, .dat odd_1, .dat r_7, .un, .dat p_9.2, .dat p_9.1, .un, .un, .un, .un, .un, .un, .un]) (vs := [11]) go_n (pi_sq (pf_dat (px_op ok_add (Px.vw (px_op ok_ix (Px.vw (px_var rfl)) (Px.vw px_int))) (Px.vw (px_op ok_ix (Px.vw (px_var rfl)) (Px.vw px_int)))))) (pg_n (ρ' := fun d => [.vw script, .dk, .dat odd_1, .dat r_7, .un, .dat p_9.2, .dat p_9.1, .un, .un, .un, .un, .dat d, .un, .un])) (fun row_10 => (px_op ok_ix (Px.vw (px_var rfl)) (Px.vw px_int))))) (Nat.le_of_ble_eq_true rfl) (fun names_11 => (pst_let (i := 8) (ρ' := fun near_14 => [.vw script, .dk, .dat odd_1, .dat r_7, .un, .dat p_9.2, .dat p_9.1, .dat names_11, .dat near_14, .un, .un, .un, .un, .un]) (px_op ok_add (Px.vw (Px.frz (px_lc1 (ρv := [.vw script, .dk, .dat odd_1, .dat r_7, .un, .dat p_9.2, .dat p_9.1, .dat names_11, .un, .un, .un, .un, .un, .un]) (ρ2 := [.vw script, .dk, .dat odd_1, .dat r_7, .un, .dat p_9.2, .dat p_9.1, .dat names_11, .un, .un, .un, .un, .un, .un]) (vs := [12]) go_n (pi_sq (pf_dat (px_sl ok_sl (Px.vw (px_var rfl)) po_n (po_s (Px.vw px_int))))) (pg_n (ρ' := fun d => [.vw script, .dk, .dat odd_1, .dat r_7, .un, .dat p_9.2, .dat p_9.1, .dat names_11, .un, .un, .un, .un, .dat d, .un])) (fun name_12 => (px_sl ok_sl (Px.vw (px_var rfl)) po_n (po_s (Px.vw (px_un ok_neg (Px.vw px_int))))))))) (Px.vw (Px.frz (px_lc1 (ρv := [.vw script, .dk, .dat odd_1, .dat r_7, .un, .dat p_9.2, .dat p_9.1, .dat names_11, .un, .un, .un, .un, .un, .un]) (ρ2 := [.vw script, .dk, .dat odd_1, .dat r_7, .un, .dat p_9.2, .dat p_9.1, .dat names_11, .un, .un, .un, .un, .un, .un]) (vs := [12]) go_n (pi_sq (pf_dat (px_sl ok_sl (Px.vw (px_var rfl)) (po_s (Px.vw (px_un ok_neg (Px.vw px_int)))) po_n))) (pg_n (ρ' := fun d => [.vw script, .dk, .dat odd_1, .dat r_7, .un, .dat p_9.2, .dat p_9.1, .dat names_11, .un, .un, .un, .un, .dat d, .un])) (fun name_13 => (px_op ok_add (Px.vw (px_var rfl)) (Px.vw (px_str (n := tx_a))))))))) (Nat.le_of_ble_eq_true rfl) (fun near_14 => (pst_let (i := 9) (ρ' := fun items_16 => [.vw script, .dk, .dat odd_1, .dat r_7, .un, .dat p_9.2, .dat p_9.1, .dat names_11, .dat near_14, .dat items_16, .un, .un, .un, .un]) (px_op ok_add (Px.vw (px_op ok_add (Px.vw (px_var rfl)) (Px.vw (px_var rfl)))) (Px.vw (Px.frz (px_lc (ρv := [.vw script, .dk, .dat odd_1, .dat r_7, .un, .dat p_9.2, .dat p_9.1, .dat names_11, .dat near_14, .un, .un, .un, .un, .un]) (ρ2 := [.vw script, .dk, .dat odd_1, .dat r_7, .un, .dat p_9.2, .dat p_9.1, .dat names_11, .dat near_14, .un, .un, .un, .un, .un]) (vs := [13]) go_n (pi_sq (pf_dat (px_var rfl))) (pg_n (ρ' := fun d => [.vw script, .dk, .dat odd_1, .dat r_7, .un, .dat p_9.2, .dat p_9.1, .dat names_11, .dat near_14, .un, .un, .un, .un, .dat d])) (fun item_15 => (pt_test (Px.vw (px_op ok_notin (Px.vw (px_var rfl)) (Px.vw (px_var rfl)))))) (fun item_15 => (px_var rfl)))))) (Nat.le_of_ble_eq_true rfl) (fun items_16 => (pst_let (i := 10) (ρ' := fun before_17 => [.vw script, .dk, .dat odd_1, .dat r_7, .un, .dat p_9.2, .dat p_9.1, .dat names_11, .dat near_14, .dat items_16, .dat before_17, .un, .un, .un]) (px_repr (px_tup (pm_cons (px_fld (nm := "Field") (na_of T.cn_Field T.cls_Field T.na_Field_cells) (Px.vw (px_var rfl))) (pm_cons (px_fld (nm := "Field") (na_of T.cn_Field T.cls_Field T.na_Field_springs) (Px.vw (px_var rfl))) (pm_cons (px_fld (nm := "Field") (na_of T.cn_Field T.cls_Field T.na_Field_channels) (Px.vw (px_var rfl))) pm_nil))))) (Nat.le_of_ble_eq_true rfl) (fun before_17 => (pst_ifr (pt_test (Px.vw (px_op ok_ne (Px.vw (Px.frz (px_lc (ρv := [.vw script, .dk, .dat odd_1, .dat r_7, .un, .dat p_9.2, .dat p_9.1, .dat names_11, .dat near_14, .dat items_16, .dat before_17, .un, .un, .un]) (ρ2 := [.vw script, .dk, .dat odd_1, .dat r_7, .un, .dat p_9.2, .dat p_9.1, .dat names_11, .dat near_14, .dat items_16, .dat before_17, .un, .un, .un]) (vs := [13]) go_n (pi_sq (pf_dat (px_var rfl))) (pg_n (ρ' := fun d => [.vw script, .dk, .dat odd_1, .dat r_7, .un, .dat p_9.2, .dat p_9.1, .dat names_11, .dat near_14, .dat items_16, .dat before_17, .un, .un, .dat d])) (fun item_18 => (pt_not' (pt_B (Px.vw (px_callP (F := (ap3 F_law_one_correct)) (pm_cons (px_var rfl) (pm_cons (px_var rfl) (pm_cons (px_var rfl) pm_nil)))))))) (fun item_18 => (px_var rfl))))) (Px.vw (Px.frz (px_lst pm_nil)))))) (psr_ret px_bl) (pst_ifr (pt_not' (pt_B (Px.vw (px_callP (F := (ap4 F_law_widths_correct)) (pm_cons (px_var rfl) (pm_cons (px_var rfl) (pm_cons (px_var rfl) (pm_cons (px_var rfl) pm_nil)))))))) (psr_ret px_bl) (pst_ifr (pt_or' (pt_test (Px.vw (px_op ok_ne (Px.vw (px_var rfl)) (Px.vw (px_repr (px_var rfl)))))) (pt_test (Px.vw (px_op ok_ne (Px.vw (px_repr (px_tup (pm_cons (px_fld (nm := "Field") (na_of T.cn_Field T.cls_Field T.na_Field_cells) (Px.vw (px_var rfl))) (pm_cons (px_fld (nm := "Field") (na_of T.cn_Field T.cls_Field T.na_Field_springs) (Px.vw (px_var rfl))) (pm_cons (px_fld (nm := "Field") (na_of T.cn_Field T.cls_Field T.na_Field_channels) (Px.vw (px_var rfl))) pm_nil)))))) (Px.vw (px_var rfl)))))) (psr_ret px_bl) (pst_nil [true, true, true, true, false, false, false, false, false, false, false, false, false, false])))))))))))))) (fun r_19 => (psr_ret px_bl)))))))))))
end
end Lw

namespace Lw
open PySem PySem.Spec PyProof.Rows L2 PL
/-! rationals -/
def enc (q : Rat) : PyData := .tuple [.int q.num, .int (q.den : Int)]
/-- numerator and denominator have at most n bits -/
def Bd (n : Nat) (q : Rat) : Prop := q.num.natAbs < 2 ^ n ∧ q.den < 2 ^ n
theorem pow2_mono {m n : Nat} (h : m ≤ n) : 2 ^ m ≤ 2 ^ n := Nat.pow_le_pow_right (by decide) h
theorem Bd.mono {m n : Nat} {q : Rat} (b : Bd m q) (h : m ≤ n) : Bd n q := ⟨Nat.lt_of_lt_of_le b.1 (pow2_mono h), Nat.lt_of_lt_of_le b.2 (pow2_mono h)⟩
theorem mul_lt_pow {a b m n : Nat} (ha : a < 2 ^ m) (hb : b < 2 ^ n) : a * b < 2 ^ (m + n) := by
  rw [Nat.pow_add]
  by_cases z : b = 0
  · rw [z, Nat.mul_zero]; exact Nat.mul_pos (Nat.pow_pos (by decide)) (Nat.pow_pos (by decide))
  · exact Nat.lt_of_lt_of_le (Nat.mul_lt_mul_of_pos_right ha (Nat.pos_of_ne_zero z)) (Nat.mul_le_mul_left _ (Nat.le_of_lt hb))
/-! the quotients' sizes -/
theorem bd_mk {n : Int} {d k : Nat} (hn : n.natAbs < 2 ^ k) (hd0 : d ≠ 0) (hd : d < 2 ^ k) : Bd k (mkRat n d) := by
  unfold Bd
  rw [Rat.num_mkRat, Rat.den_mkRat, if_neg hd0, if_neg hd0]
  exact ⟨Nat.lt_of_le_of_lt (Int.natAbs_ediv_le_natAbs _ _) hn, Nat.lt_of_le_of_lt (Nat.div_le_self _ _) hd⟩
section
variable {p q : Rat} {m n : Nat}
theorem num_sub_bd (hp : Bd m p) (hq : Bd n q) : (p.num * (q.den : Int) - q.num * (p.den : Int)).natAbs < 2 ^ (m + n + 1) := by
  have h1 := mul_lt_pow hp.1 hq.2
  have h2 := mul_lt_pow hq.1 hp.2
  refine Nat.lt_of_le_of_lt (Int.natAbs_sub_le _ _) ?_
  rw [Int.natAbs_mul, Int.natAbs_mul, Int.natAbs_natCast, Int.natAbs_natCast, Nat.pow_succ]
  rw [Nat.add_comm n m] at h2
  omega
theorem den_bd (hp : Bd m p) (hq : Bd n q) : p.den * q.den < 2 ^ (m + n + 1) := Nat.lt_trans (mul_lt_pow hp.2 hq.2) (Nat.pow_lt_pow_right (by decide) (Nat.lt_succ_self _))
theorem Bd.sub (hp : Bd m p) (hq : Bd n q) : Bd (m + n + 1) (p - q) := by
  rw [Rat.sub_def']
  exact bd_mk (num_sub_bd hp hq) (Nat.mul_ne_zero p.den_nz q.den_nz) (den_bd hp hq)
theorem Bd.mul (hp : Bd m p) (hq : Bd n q) : Bd (m + n) (p * q) := by
  rw [Rat.mul_def']
  exact bd_mk (by rw [Int.natAbs_mul]; exact mul_lt_pow hp.1 hq.1) (Nat.mul_ne_zero p.den_nz q.den_nz) (mul_lt_pow hp.2 hq.2)
end
theorem num_nn {q : Rat} (hq : 0 ≤ q) : 0 ≤ q.num := by
  have := Rat.le_iff 0 q |>.mp hq
  simpa using this
/-! ### sizes by a common denominator -/
/-- q is a whole number of M-ths, not negative and at most X -/
def Sz (M X : Nat) (q : Rat) : Prop := (∃ a : Int, q * (M : Rat) = (a : Rat)) ∧ 0 ≤ q ∧ q ≤ (X : Rat)
/-- bounds for the program's steps -/
def Nb (q : Rat) : Prop := q.num.natAbs < 2 ^ 9000 ∧ q.den < 2 ^ 8900
theorem den_dvd {M : Nat} {q : Rat} {a : Int} (hM : 0 < M) (h : q * (M : Rat) = (a : Rat)) : q.den ∣ M := by
  have hm : (M : Rat) ≠ 0 := by exact_mod_cast (show M ≠ 0 by omega)
  have e : q = mkRat a M := by rw [Rat.mkRat_eq_div]; grind
  rw [e, Rat.den_mkRat, if_neg (by omega)]
  exact Nat.div_dvd_of_dvd (Nat.gcd_dvd_left _ _)
theorem Sz.den {M X : Nat} {q : Rat} (h : Sz M X q) (hM : 0 < M) : q.den ∣ M := by
  obtain ⟨⟨a, ha⟩, _⟩ := h
  exact den_dvd hM ha
theorem Sz.num {M X : Nat} {q : Rat} (h : Sz M X q) (hM : 0 < M) : q.num.natAbs ≤ X * M := by
  have h1 := Nat.le_of_dvd hM (h.den hM)
  have h2 := (Rat.le_iff q X).mp h.2.2
  have h3 := num_nn h.2.1
  rw [Rat.den_natCast, Rat.num_natCast, Int.natCast_one, Int.mul_one] at h2
  have h4 : X * q.den ≤ X * M := Nat.mul_le_mul_left _ h1
  have h5 : (X : Int) * (q.den : Int) = ((X * q.den : Nat) : Int) := by rw [Int.natCast_mul]
  omega
theorem Sz.mul {M N X Y : Nat} {p q : Rat} (hp : Sz M X p) (hq : Sz N Y q) : Sz (M * N) (X * Y) (p * q) := by
  obtain ⟨⟨a, ha⟩, p0, p1⟩ := hp
  obtain ⟨⟨b, hb⟩, q0, q1⟩ := hq
  refine ⟨⟨a * b, ?_⟩, Rat.mul_nonneg p0 q0, ?_⟩
  · rw [Rat.intCast_mul, ← ha, ← hb, Rat.natCast_mul]; grind
  · rw [Rat.natCast_mul]
    have h1 : p * q ≤ (X : Rat) * q := Rat.mul_le_mul_of_nonneg_right p1 q0
    have hX : (0 : Rat) ≤ (X : Rat) := by grind
    have h2 : (X : Rat) * q ≤ (X : Rat) * (Y : Rat) := Rat.mul_le_mul_of_nonneg_left q1 hX
    grind
theorem Sz.mono {M N X Y : Nat} {p : Rat} (hp : Sz M X p) (hM : M ∣ N) (h : X ≤ Y) : Sz N Y p := by
  obtain ⟨⟨a, ha⟩, p0, p1⟩ := hp
  obtain ⟨k, rfl⟩ := hM
  refine ⟨⟨a * (k : Int), ?_⟩, p0, ?_⟩
  · rw [Rat.intCast_mul, ← ha, Rat.natCast_mul, Rat.intCast_natCast]; grind
  · have : (X : Rat) ≤ (Y : Rat) := by exact_mod_cast h
    grind
theorem Sz.zero {M X : Nat} : Sz M X 0 := ⟨⟨0, by rw [Rat.zero_mul]; rfl⟩, by grind, by exact_mod_cast Nat.zero_le X⟩
theorem Sz.nb {M X : Nat} {q : Rat} (h : Sz M X q) (hM : 0 < M) (hM2 : M < 2 ^ 8900) (hX : X * M < 2 ^ 9000) : Nb q :=
  ⟨Nat.lt_of_le_of_lt (h.num hM) hX, Nat.lt_of_le_of_lt (Nat.le_of_dvd hM (h.den hM)) hM2⟩
end Lw

namespace Lw
open PySem PySem.Spec PyProof.Rows L2 PL
/-! the program's functions on rationals -/
section
variable {p q : Rat} {m n : Nat}
theorem e0 : oix (enc p) (.int 0) = wpure (.int p.num) := (rfl)
theorem e1 : oix (enc p) (.int 1) = wpure (.int (p.den : Int)) := (rfl)
end
/-! by Nb -/
end Lw

namespace Lw
open PySem PySem.Spec PyProof.Rows L2 PL
/-! ### what repr is asked of -/
def okS (z : Str) : Bool := z.cps.toList.all fun c => decide (c < 128)
mutual
/-- no dict but {}; ints of at most 1,900 bits -/
def okD : PyData → Bool
  | .none | .bool _ => true
  | .str z => okS z
  | .int i => decide (i.natAbs.log2 < 1900)
  | .list xs => okAll xs
  | .tuple xs => okAll xs
  | .dict [] => true
  | .dict _ => false
def okAll : List PyData → Bool
  | [] => true
  | x :: xs => okD x && okAll xs
end
mutual
/-- at least the length of repr -/
def wt : PyData → Nat
  | .none | .bool _ | .dict _ => 5
  | .int _ => 2000
  | .str z => 12 * z.length + 2
  | .list xs => wtAll xs + 3
  | .tuple xs => wtAll xs + 3
def wtAll : List PyData → Nat
  | [] => 0
  | x :: xs => wt x + 2 + wtAll xs
end
mutual
theorem ok_plain : ∀ d : PyData, okD d = true → plainD d = true
  | .none, _ => by simp only [plainD]
  | .bool _, _ => by simp only [plainD]
  | .str _, _ => by simp only [plainD]
  | .int _, _ => by simp only [plainD]
  | .list xs, h => by simp only [plainD]; exact okAll_plain xs (by simpa only [okD] using h)
  | .tuple xs, h => by simp only [plainD]; exact okAll_plain xs (by simpa only [okD] using h)
  | .dict [], _ => by simp only [plainD, plainKv]
  | .dict (_ :: _), h => by simp only [okD] at h; cases h
theorem okAll_plain : ∀ ds : List PyData, okAll ds = true → plainAll ds = true
  | [], _ => by simp only [plainAll]
  | x :: xs, h => by
    have h : okD x = true ∧ okAll xs = true := by simpa only [okAll, Bool.and_eq_true] using h
    simp only [plainAll, Bool.and_eq_true]
    exact ⟨ok_plain x h.1, okAll_plain xs h.2⟩
end
mutual
theorem ok_show : ∀ d : PyData, okD d = true → d.showable = true
  | .none, _ => by simp only [PyData.showable]
  | .bool _, _ => by simp only [PyData.showable]
  | .str _, _ => by simp only [PyData.showable]
  | .int i, h => by
    simp only [PyData.showable]
    have h : i.natAbs.log2 < 1900 := by simpa only [okD, decide_eq_true_eq] using h
    exact decide_eq_true (by omega)
  | .list xs, h => by simp only [PyData.showable]; exact okAll_show xs (by simpa only [okD] using h)
  | .tuple xs, h => by simp only [PyData.showable]; exact okAll_show xs (by simpa only [okD] using h)
  | .dict [], _ => by simp only [PyData.showable, PyData.showableKv]
  | .dict (_ :: _), h => by simp only [okD] at h; cases h
theorem okAll_show : ∀ ds : List PyData, okAll ds = true → PyData.showableAll ds = true
  | [], _ => by simp only [PyData.showableAll]
  | x :: xs, h => by
    have h : okD x = true ∧ okAll xs = true := by simpa only [okAll, Bool.and_eq_true] using h
    simp only [PyData.showableAll, Bool.and_eq_true]
    exact ⟨ok_show x h.1, okAll_show xs h.2⟩
end
theorem app_len (a b : Str) : (a ++ b).length = a.length + b.length := by
  show (a.cps ++ b.cps).size = _
  rw [Array.size_append]; rfl
theorem join_len : ∀ ts : List Str, (Str.join ", " ts).length ≤ (ts.map fun t => t.length + 2).sum
  | [] => by decide
  | [x] => by
    show x.length ≤ _
    simp
  | x :: y :: r => by
    have ih := join_len (y :: r)
    show (x ++ ", " ++ Str.join ", " (y :: r)).length ≤ _
    rw [app_len, app_len, List.map_cons, List.sum_cons]
    have e : ((", " : Str)).length = 2 := by decide +kernel
    omega
mutual
theorem shown_len : ∀ d : PyData, okD d = true → d.shown.length ≤ wt d
  | .none, _ => by rw [PyData.shown_none]; simp only [wt]; decide +kernel
  | .bool b, _ => by rw [PyData.shown_bool]; simp only [wt]; cases b <;> decide +kernel
  | .str z, h => by
    rw [PyData.shown_str]; simp only [wt]
    have h : ∀ c ∈ z.cps.toList, c < 16 ^ 8 := fun c hc => by
      have h : okS z = true := by simpa only [okD] using h
      have := of_decide_eq_true (List.all_eq_true.mp h c hc)
      omega
    have := PySem.StrLaws.reprText_len z h
    omega
  | .int i, h => by
    have h : i.natAbs.log2 < 1900 := by simpa only [okD, decide_eq_true_eq] using h
    rw [PyData.shown_int]; simp only [wt]
    have h1 := PySem.int_text_length_le (k := 1900) (by decide) h
    have e : (Str.ofString (toString i)).length = (toString i).length := PySem.ofString_length _
    omega
  | .list xs, h => by
    have ih := shownAll_len xs (by simpa only [okD] using h)
    rw [PyData.shown_list, app_len, app_len]; simp only [wt]
    have h1 := join_len (PyData.shownAll xs)
    have e1 : (("[" : Str)).length = 1 := by decide +kernel
    have e2 : (("]" : Str)).length = 1 := by decide +kernel
    omega
  | .tuple xs, h => by
    have ih := shownAll_len xs (by simpa only [okD] using h)
    rw [PyData.shown_tuple, app_len, app_len]; simp only [wt]
    have h1 := join_len (PyData.shownAll xs)
    have e1 : (("(" : Str)).length = 1 := by decide +kernel
    have e2 : ∀ b : Bool, (Str.ofString (if b = true then ",)" else ")" : String)).length ≤ 2 := by decide +kernel
    have e3 := e2 (xs.length == 1)
    omega
  | .dict [], _ => by
    rw [PyData.shown_dict, PyData.shownKv_nil]; simp only [wt]; decide +kernel
  | .dict (_ :: _), h => by simp only [okD] at h; cases h
theorem shownAll_len : ∀ ds : List PyData, okAll ds = true → ((PyData.shownAll ds).map fun t => t.length + 2).sum ≤ wtAll ds
  | [], _ => by simp only [PyData.shownAll_nil, List.map_nil, List.sum_nil]; omega
  | x :: xs, h => by
    have h : okD x = true ∧ okAll xs = true := by simpa only [okAll, Bool.and_eq_true] using h
    have h1 := shown_len x h.1
    have h2 := shownAll_len xs h.2
    rw [PyData.shownAll_cons, List.map_cons, List.sum_cons]
    simp only [wtAll]
    omega
end
/-- an item: of depth k, of weight w -/
structure It (k w : Nat) (d : PyData) : Prop where
  o : okD d = true
  k : d.depth ≤ k
  w : wt d ≤ w
structure ItL (k w : Nat) (ds : List PyData) : Prop where
  o : okAll ds = true
  k : PyData.depthAll ds ≤ k
  w : wtAll ds ≤ w
theorem It.sho {k w : Nat} {d : PyData} (h : It k w d) (hk : k ≤ 60) (hw : w ≤ 1000000) : Sho d :=
  ⟨ok_plain d h.o, ok_show d h.o, by have := shown_len d h.o; have := h.w; have : sizeLine = 2 ^ 24 := rfl; omega, by have := h.k; omega⟩
section
variable {k w k2 w2 : Nat} {d x : PyData} {ds es : List PyData}
theorem It.up (h : It k w d) (hk : k ≤ k2) (hw : w ≤ w2) : It k2 w2 d := ⟨h.o, Nat.le_trans h.k hk, Nat.le_trans h.w hw⟩
theorem ItL.up (h : ItL k w ds) (hk : k ≤ k2) (hw : w ≤ w2) : ItL k2 w2 ds := ⟨h.o, Nat.le_trans h.k hk, Nat.le_trans h.w hw⟩
theorem It.tup (h : ItL k w ds) : It (k + 1) (w + 3) (.tuple ds) := ⟨by simp only [okD]; exact h.o, by simp only [PyData.depth]; have := h.k; omega, by simp only [wt]; have := h.w; omega⟩
theorem It.lst (h : ItL k w ds) : It (k + 1) (w + 3) (.list ds) := ⟨by simp only [okD]; exact h.o, by simp only [PyData.depth]; have := h.k; omega, by simp only [wt]; have := h.w; omega⟩
theorem ItL.nil : ItL 0 0 [] := ⟨by simp only [okAll], by simp only [PyData.depthAll]; omega, by simp only [wtAll]; omega⟩
theorem ItL.cons (h : It k w d) (t : ItL k w2 ds) : ItL k (w + 2 + w2) (d :: ds) :=
  ⟨by simp only [okAll, Bool.and_eq_true]; exact ⟨h.o, t.o⟩, by simp only [PyData.depthAll]; have := h.k; have := t.k; omega, by simp only [wtAll]; have := h.w; have := t.w; omega⟩
theorem ItL.one (h : It k w d) : ItL k (w + 2) [d] := (ItL.cons h (ItL.nil.up (Nat.zero_le _) (Nat.le_refl 0))).up (Nat.le_refl _) (by omega)
theorem okAll_app : ∀ (ds es : List PyData), okAll (ds ++ es) = (okAll ds && okAll es)
  | [], es => by rw [List.nil_append]; simp only [okAll, Bool.true_and]
  | d :: ds, es => by rw [List.cons_append]; simp only [okAll]; rw [okAll_app ds es, Bool.and_assoc]
theorem wtAll_app : ∀ (ds es : List PyData), wtAll (ds ++ es) = wtAll ds + wtAll es
  | [], es => by rw [List.nil_append]; simp only [wtAll]; omega
  | d :: ds, es => by rw [List.cons_append]; simp only [wtAll]; rw [wtAll_app ds es]; omega
theorem depthAll_app : ∀ (ds es : List PyData), PyData.depthAll (ds ++ es) = max (PyData.depthAll ds) (PyData.depthAll es)
  | [], es => by rw [List.nil_append]; simp only [PyData.depthAll]; omega
  | d :: ds, es => by rw [List.cons_append]; simp only [PyData.depthAll]; rw [depthAll_app ds es]; omega
theorem ItL.app (h : ItL k w ds) (t : ItL k w2 es) : ItL k (w + w2) (ds ++ es) :=
  ⟨by rw [okAll_app, h.o, t.o]; rfl, by rw [depthAll_app]; have := h.k; have := t.k; omega, by rw [wtAll_app]; have := h.w; have := t.w; omega⟩
theorem ItL.left (h : ItL k w (ds ++ es)) : ItL k w ds := by
  obtain ⟨h1, h2, h3⟩ := h
  rw [okAll_app, Bool.and_eq_true] at h1
  rw [depthAll_app] at h2
  rw [wtAll_app] at h3
  exact ⟨h1.1, by omega, by omega⟩
theorem ItL.right (h : ItL k w (ds ++ es)) : ItL k w es := by
  obtain ⟨h1, h2, h3⟩ := h
  rw [okAll_app, Bool.and_eq_true] at h1
  rw [depthAll_app] at h2
  rw [wtAll_app] at h3
  exact ⟨h1.2, by omega, by omega⟩
theorem ItL.take (h : ItL k w ds) (n : Nat) : ItL k w (ds.take n) := by
  rw [← List.take_append_drop n ds] at h
  exact h.left
theorem ItL.drop (h : ItL k w ds) (n : Nat) : ItL k w (ds.drop n) := by
  rw [← List.take_append_drop n ds] at h
  exact h.right
theorem ItL.rev : ∀ {ds : List PyData} {w : Nat}, ItL k w ds → ItL k w ds.reverse
  | [], _, h => h
  | d :: ds, w, h => by
    obtain ⟨h1, h2, h3⟩ := h
    simp only [okAll, Bool.and_eq_true, PyData.depthAll, wtAll] at h1 h2 h3
    have ih := ItL.rev (ds := ds) (w := wtAll ds) ⟨h1.2, by omega, Nat.le_refl _⟩
    rw [List.reverse_cons]
    exact (ih.app (ItL.one (w := wt d) ⟨h1.1, by omega, Nat.le_refl _⟩)).up (Nat.le_refl _) (by omega)
theorem ItL.get : ∀ {ds : List PyData} {w : Nat}, ItL k w ds → ∀ x ∈ ds, It k w x
  | [], _, _, _, h => by cases h
  | d :: ds, w, h, x, hx => by
    obtain ⟨h1, h2, h3⟩ := h
    simp only [okAll, Bool.and_eq_true, PyData.depthAll, wtAll] at h1 h2 h3
    rcases List.mem_cons.mp hx with e | hx
    · rw [e]; exact ⟨h1.1, by omega, by omega⟩
    · exact (ItL.get (ds := ds) (w := wtAll ds) ⟨h1.2, by omega, Nat.le_refl _⟩ x hx).up (Nat.le_refl _) (by omega)
theorem It.non : It 0 5 .none := ⟨by simp only [okD], by simp only [PyData.depth]; omega, by simp only [wt]; omega⟩
theorem It.bool (b : Bool) : It 0 5 (.bool b) := ⟨by simp only [okD], by simp only [PyData.depth]; omega, by simp only [wt]; omega⟩
theorem It.int {i : Int} (h : i.natAbs.log2 < 1900) : It 0 2000 (.int i) := ⟨by simp only [okD]; exact decide_eq_true h, by simp only [PyData.depth]; omega, by simp only [wt]; omega⟩
theorem It.dic : It 1 5 (.dict []) := ⟨by simp only [okD], by simp only [PyData.depth, PyData.depthKv]; omega, by simp only [wt]; omega⟩
theorem It.str {z : Str} {n : Nat} (h : okS z = true) (hn : z.length ≤ n) : It 0 (12 * n + 2) (.str z) := ⟨by simp only [okD]; exact h, by simp only [PyData.depth]; omega, by simp only [wt]; omega⟩
end
theorem orepr_ok {d : PyData} (h : Sho d) : orepr [d] = wpure (.str d.shown) := by
  show wreq _ _ = _
  rw [wreq_gd, wgd_t h]
end Lw

namespace Lw
open PySem PySem.Spec PyProof.Rows L2 PL
/-! ### valid fields -/
theorem hs1 : (1000 : Nat) ≤ sizeLine := by decide
theorem rngOk {n : Nat} (hn : n ≤ 100) : -(2 ^ 62) ≤ (n : Int) ∧ (n : Int) < 2 ^ 62 := by constructor <;> omega
def lts (x y : Str) : Prop := ltSt x y = true
def nameOk (x : Str) : Prop := 1 ≤ x.length ∧ x.length ≤ 8 ∧ x.cps.toList.all (fun c => decide (c ∈ tx_abc.cps.toList)) = true
def PosR (d : PyData) : Prop := ∃ a b : Nat, d = .tuple [.int a, .int b] ∧ 0 < a ∧ 0 < b ∧ Nat.gcd a b = 1
def NonR (d : PyData) : Prop := ∃ a b : Nat, d = .tuple [.int a, .int b] ∧ 0 < b ∧ Nat.gcd a b = 1
def ent (c : Str × PyData) : PyData := .tuple [.str c.1, c.2]
structure FD where
  cs : List (Str × PyData)
  ss : List (Str × PyData)
  ch : List (Str × Str × PyData)
def FD.d (f : FD) : PyData := .tuple [.tuple (f.cs.map ent), .tuple (f.ss.map ent), .tuple (f.ch.map chD)]
def FD.cn (f : FD) : List Str := f.cs.map (·.1)
def FD.sn (f : FD) : List Str := f.ss.map (·.1)
def pairLt (c d : Str × Str × PyData) : Prop := lts c.1 d.1 ∨ (c.1 = d.1 ∧ lts c.2.1 d.2.1)
structure FD.Ok (f : FD) : Prop where
  c1 : f.cn.Pairwise lts
  s1 : f.sn.Pairwise lts
  nd : ∀ x ∈ f.cn, x ∉ f.sn
  nm : ∀ x ∈ f.cn ++ f.sn, nameOk x
  cv : ∀ c ∈ f.cs, PosR c.2
  sv : ∀ c ∈ f.ss, NonR c.2
  ch1 : ∀ c ∈ f.ch, c.1 ∈ f.cn ++ f.sn ∧ c.2.1 ∈ f.cn ++ f.sn ∧ lts c.1 c.2.1 ∧ PosR c.2.2
  ch2 : f.ch.Pairwise pairLt
  z1 : f.cs.length ≤ 12
  z2 : f.ss.length ≤ 24
  z3 : f.ch.length ≤ 300
theorem rising_pair : ∀ (xs : List Str) (p : Str), risingS p xs = true → (p :: xs).Nodup → (p :: xs).Pairwise lts
  | [], p, _, _ => List.pairwise_singleton _ _
  | x :: r, p, h, hn => by
    have h : (!ltCps x.cps.toList p.cps.toList && risingS x r) = true := h
    rw [Bool.and_eq_true, Bool.not_eq_true'] at h
    have h1 : ltSt x p = false := by unfold ltSt; rw [← ltCps_eq]; exact h.1
    have hn' := List.nodup_cons.mp hn
    have ne : x ≠ p := fun e => hn'.1 (by rw [← e]; exact List.mem_cons_self)
    have ih := rising_pair r x h.2 hn'.2
    have hx : lts p x := ltSt_tri ne h1
    refine List.pairwise_cons.mpr ⟨fun y hy => ?_, ih⟩
    rcases List.mem_cons.mp hy with e | hy
    · rw [e]; exact hx
    · exact ltSt_trans hx ((List.pairwise_cons.mp ih).1 y hy)
theorem sorted_pair : ∀ {xs : List Str}, sortedS xs = true → xs.Nodup → xs.Pairwise lts
  | [], _, _ => .nil
  | x :: xs, h, hn => rising_pair xs x h hn
theorem ev_sorted {xs : List Str} (hz : xs.length < 64) (hn : xs.Nodup) : Ev (osorted [.list (xs.map .str)]) (fun d => ∃ ys : List Str, d = .list (ys.map .str) ∧ ys.Perm xs ∧ ys.Pairwise lts) := fun s Q q =>
  Or.inl ⟨xs, rfl, hz, fun ys hp hs => q _ ⟨ys, rfl, hp, sorted_pair hs (hp.nodup_iff.mpr hn)⟩⟩
theorem wapp_eq {S : Type} {ds : List PyData} {w : W S PyData} : wapp (.list ds) w = wbind w fun x => wgd (ds.length < sizeLine) (wpure (.list (ds ++ [x]))) := rfl
theorem oint_b {b : Bool} : oint [.bool b] = wpure (.int (if b then 1 else 0)) := rfl
theorem ents_of {P : PyData → Prop} {xs : List Str} {es : List PyData} (h : Paired (fun x d => ∃ v, P v ∧ d = PyData.tuple [x, v]) (xs.map .str) es) : ∃ cs : List (Str × PyData), cs.map (·.1) = xs ∧ es = cs.map ent ∧ ∀ c ∈ cs, P c.2 := by
  obtain ⟨ps, e1, e2, e3⟩ := paired_form (f := fun (x : Str) v => PyData.tuple [.str x, v]) (P := fun _ v => P v) (L2.Paired.mapP (paired_map_left h) fun x d ⟨v, hv, e⟩ => ⟨v, e, hv⟩)
  exact ⟨ps, e1, e2, e3⟩
def nbF (x : Str) (c : Str × Str × PyData) : Option (Str × PyData) := if x = c.1 then some (c.2.1, c.2.2) else if x = c.2.1 then some (c.1, c.2.2) else none
def nbs (f : FD) (x : Str) : List (Str × PyData) := f.ch.filterMap (nbF x)
def asc (xs : List Str) : Bool := (nxt xs).all fun p => ltSt p.1 p.2
theorem lts_irr (x : Str) : ¬ lts x x := fun h => by unfold lts at h; rw [ltSt_irr] at h; cases h
theorem lts_ne {x y : Str} (h : lts x y) : x ≠ y := fun e => lts_irr y (by rw [e] at h; exact h)
theorem lts_tr {x y z : Str} (h : lts x y) (g : lts y z) : lts x z := ltSt_trans h g
theorem nbs_nodup {f : FD} (ok : f.Ok) (x : Str) : ((nbs f x).map (·.1)).Nodup := by
  unfold nbs
  rw [List.map_filterMap, List.Nodup, List.pairwise_filterMap]
  have hp : f.ch.Pairwise fun c d => (lts c.1 c.2.1 ∧ lts d.1 d.2.1) ∧ pairLt c d := by
    refine List.Pairwise.imp_of_mem (R := pairLt) ?_ ok.ch2
    intro c d hc hd h
    exact ⟨⟨(ok.ch1 c hc).2.2.1, (ok.ch1 d hd).2.2.1⟩, h⟩
  refine hp.imp ?_
  intro c d ⟨⟨hc, hd⟩, h⟩ y hy z hz
  unfold nbF at hy hz
  by_cases c1 : x = c.1
  · rw [if_pos c1] at hy
    by_cases d1 : x = d.1
    · rw [if_pos d1] at hz
      cases hy; cases hz
      rcases h with h | h
      · exact absurd (show lts x x by rw [← c1, ← d1] at h; exact h) (lts_irr x)
      · exact lts_ne h.2
    · rw [if_neg d1] at hz
      by_cases d2 : x = d.2.1
      · rw [if_pos d2] at hz
        cases hy; cases hz
        intro e
        have e : c.2.1 = d.1 := e
        rw [← c1, e] at hc
        rw [← d2] at hd
        exact lts_irr x (lts_tr hc hd)
      · rw [if_neg d2] at hz; cases hz
  · rw [if_neg c1] at hy
    by_cases c2 : x = c.2.1
    · rw [if_pos c2] at hy
      by_cases d1 : x = d.1
      · rw [if_pos d1] at hz
        cases hy; cases hz
        intro e
        have e : c.1 = d.2.1 := e
        rw [← c2, e] at hc
        rw [← d1] at hd
        exact lts_irr x (lts_tr hd hc)
      · rw [if_neg d1] at hz
        by_cases d2 : x = d.2.1
        · rw [if_pos d2] at hz
          cases hy; cases hz
          rcases h with h | h
          · exact lts_ne h
          · exact absurd (show lts x x by have h := h.2; rw [← c2, ← d2] at h; exact h) (lts_irr x)
        · rw [if_neg d2] at hz; cases hz
    · rw [if_neg c2] at hy; cases hy
theorem nbs_mem {f : FD} (ok : f.Ok) {x : Str} {p : Str × PyData} (h : p ∈ nbs f x) : p.1 ∈ f.cn ++ f.sn ∧ PosR p.2 := by
  obtain ⟨c, hc, e⟩ := List.mem_filterMap.mp h
  have hk := ok.ch1 c hc
  unfold nbF at e
  split at e
  · cases e; exact ⟨hk.2.1, hk.2.2.2⟩
  · split at e
    · cases e; exact ⟨hk.1, hk.2.2.2⟩
    · cases e
theorem nbs_len {f : FD} (ok : f.Ok) (x : Str) : (nbs f x).length ≤ 300 := Nat.le_trans (List.length_filterMap_le _ _) ok.z3
theorem nodup_sub {α : Type} [DecidableEq α] : ∀ {xs ys : List α}, xs.Nodup → (∀ x ∈ xs, x ∈ ys) → xs.length ≤ ys.length
  | [], _, _, _ => Nat.zero_le _
  | x :: xs, ys, hn, h => by
    have hn' := List.nodup_cons.mp hn
    have hx := h x List.mem_cons_self
    have ih := nodup_sub (xs := xs) (ys := ys.erase x) hn'.2 fun y hy => (List.mem_erase_of_ne (fun e => hn'.1 (by rw [← e]; exact hy))).mpr (h y (List.mem_cons_of_mem _ hy))
    rw [List.length_erase_of_mem hx] at ih
    have := List.length_pos_of_mem hx
    rw [List.length_cons]; omega
theorem nbs_len36 {f : FD} (ok : f.Ok) (x : Str) : (nbs f x).length ≤ 36 := by
  have h := nodup_sub (ys := f.cn ++ f.sn) (nbs_nodup ok x) fun y hy => by
    obtain ⟨p, hp, rfl⟩ := List.mem_map.mp hy
    exact (nbs_mem ok hp).1
  rw [List.length_map, List.length_append] at h
  have h1 : f.cn.length ≤ 12 := by unfold FD.cn; rw [List.length_map]; exact ok.z1
  have h2 : f.sn.length ≤ 24 := by unfold FD.sn; rw [List.length_map]; exact ok.z2
  omega
theorem ent_back {es : List PyData} {ps : List (Str × PyData)} (h : es.Perm (ps.map ent)) : ∃ ys : List (Str × PyData), es = ys.map ent ∧ ys.Perm ps := by
  let g : PyData → Str × PyData := fun d => match d with | .tuple [.str a, b] => (a, b) | _ => ((⟨#[]⟩ : Str), .none)
  have e1 : es = (es.map g).map ent := by
    rw [List.map_map]
    refine (List.map_id' es).symm.trans (List.map_congr_left fun d hd => ?_)
    obtain ⟨p, _, rfl⟩ := List.mem_map.mp (h.mem_iff.mp hd)
    rfl
  refine ⟨es.map g, e1, ?_⟩
  have := h.map g
  rw [List.map_map] at this
  have e2 : ps.map (g ∘ ent) = ps := by
    refine (List.map_congr_left fun p _ => ?_).trans (List.map_id' ps)
    rfl
  rw [e2] at this
  exact this
theorem d2 {f : FD} : oix f.d (.int 2) = wpure (.tuple (f.ch.map chD)) := (rfl)
theorem d1 {f : FD} : oix f.d (.int 1) = wpure (.tuple (f.ss.map ent)) := (rfl)
theorem d0 {f : FD} : oix f.d (.int 0) = wpure (.tuple (f.cs.map ent)) := (rfl)
theorem kit1 : kitB "NoneType" "tuple" = some false ∧ kitB "bool" "tuple" = some false ∧ kitB "int" "tuple" = some false ∧ kitB "str" "tuple" = some false ∧ kitB "list" "tuple" = some false ∧ kitB "tuple" "tuple" = some true ∧ kitB "dict" "tuple" = some false := by decide +kernel
theorem kit2 : kitB "NoneType" "str" = some false ∧ kitB "bool" "str" = some false ∧ kitB "int" "str" = some false ∧ kitB "str" "str" = some true ∧ kitB "list" "str" = some false ∧ kitB "tuple" "str" = some false ∧ kitB "dict" "str" = some false := by decide +kernel
theorem all_nxt {ss : List Str} : ((nxt ss).map fun p => ltSt p.1 p.2).all id = asc ss := by
  unfold asc
  rw [List.all_map]; rfl
theorem is_asc {ss : List Str} (hz : ss.length < sizeLine) {d : PyData} (hd : d = .list (ss.map .str) ∨ d = .tuple (ss.map .str)) : Is (F_is_ascending d) (.bool (asc ss)) := by
  unfold F_is_ascending
  have hb := zip_both (ss.map PyData.str)
  have key : Is (S := Unit) (wbind (wmapS (fun x => wbind (w2 x fun x1 x2 => wpure (x1, x2)) fun p_1 => wlift (olt p_1.1 p_1.2)) ((nxt (ss.map PyData.str)).map pr2)) fun a => wlift (oall [a])) (.bool (asc ss)) := by
    rw [nxt_map, List.map_map]
    refine Is.bind (Is.mapS (e := pr2 ∘ fun p : Str × Str => (PyData.str p.1, PyData.str p.2)) (v := fun p => .bool (ltSt p.1 p.2)) (by have := nxt_len ss; omega) fun p _ => ?_) ?_
    · exact Is.pure
    · have : ((nxt ss).map fun p => PyData.bool (ltSt p.1 p.2)) = ((nxt ss).map fun p => ltSt p.1 p.2).map .bool := by rw [List.map_map]; rfl
      rw [this, oall_b, all_nxt]
      exact Is.pure
  rcases hd with rfl | rfl
  · simp only [wl_cons, wl_nil, wbind_pure, wbind_bind, oneg_i, toI_g, wlift_pure, osl_l, wzip_l]
    rw [cutD_last, show (some (1 : Int)) = some (((1 : Nat) : Int)) from rfl, cutD_from, zipD_eq, hb]
    exact key
  · simp only [wl_cons, wl_nil, wbind_pure, wbind_bind, oneg_i, toI_g, wlift_pure, osl_t, wzip_t]
    rw [cutD_last, show (some (1 : Int)) = some (((1 : Nat) : Int)) from rfl, cutD_from, zipD_eq, hb]
    exact key
theorem Is.fnx {S α : Type} {F : W S (Fl α)} {a : α} {k : α → W S PyData} {P : PyData → Prop} (h : Is F (.nx a)) (hk : Ev (k a) P) : Ev (fthen F k) P := Ev.bind h fun _ e => by rw [e]; exact hk
theorem len2 {a b : PyData} : one (.int (([a, b] : List PyData).length : Int)) (.int 2) = wpure (.bool false) := (rfl)
theorem ix20 {a b : PyData} : oix (.tuple [a, b]) (.int 0) = wpure a := (rfl)
theorem ix21 {a b : PyData} : oix (.tuple [a, b]) (.int 1) = wpure b := (rfl)
theorem ap1_1 {F : PyData → W Unit PyData} {a : PyData} : ap1 F [a] = F a := (rfl)
theorem ap2_2 {F : PyData → PyData → W Unit PyData} {a b : PyData} : ap2 F [a, b] = F a b := (rfl)
theorem cn_map {f : FD} : (f.cs.map fun c => PyData.str c.1) = f.cn.map .str := by unfold FD.cn; rw [List.map_map]; rfl
def kv (p : Str × PyData) : PyData × PyData := (.str p.1, p.2)
def netF (f : FD) (t s : PyData) : List (PyData × PyData) := [(.str "cells", .tuple (f.cs.map ent)), (.str "springs", .tuple (f.ss.map ent)), (.str "channels", .tuple (f.ch.map chD)), (.str "thickness_by_cell", t), (.str "start_by_spring", s), (.str "widths_by_node", .dict (netD (f.cn ++ f.sn) (adj f.ch)))]
def netOf (f : FD) (t s : PyData) : PyData := .dict ((.none, .str "Field") :: netF f t s)
theorem fne : ("cells" : Str) ≠ "springs" ∧ ("cells" : Str) ≠ "channels" ∧ ("cells" : Str) ≠ "thickness_by_cell" ∧ ("cells" : Str) ≠ "start_by_spring" ∧ ("cells" : Str) ≠ "widths_by_node" ∧
    ("widths_by_node" : Str) ≠ "cells" ∧ ("widths_by_node" : Str) ≠ "springs" ∧ ("widths_by_node" : Str) ≠ "channels" ∧ ("widths_by_node" : Str) ≠ "thickness_by_cell" ∧ ("widths_by_node" : Str) ≠ "start_by_spring" := by decide +kernel
def anyM (m : Str) : Prop := m = "neighbors" ∨ m = "require_node" ∨ m = "thickness" ∨ m = "start" ∨ m = "width"
theorem fnn : ∀ m : Str, anyM m → (m ≠ "cells" ∧ m ≠ "springs" ∧ m ≠ "channels" ∧ m ≠ "thickness_by_cell" ∧ m ≠ "start_by_spring" ∧ m ≠ "widths_by_node") := by
  rintro m (rfl | rfl | rfl | rfl | rfl) <;> decide +kernel
theorem fn2 : ("springs" : Str) ≠ "cells" ∧ ("thickness_by_cell" : Str) ≠ "cells" ∧ ("thickness_by_cell" : Str) ≠ "springs" ∧ ("thickness_by_cell" : Str) ≠ "channels" := by decide +kernel
section
variable {S : Type} {f : FD} {t s : PyData}
theorem wfld_get {nm g : Str} {es : List (PyData × PyData)} {d : PyData} (h : fGet g es = some d) : wfld (S := S) nm g (.dict ((.none, .str nm) :: es)) = wpure d := by
  show wopt (fGet g es) (fun d => wreq (nm = nm) d) = _
  rw [h, wopt_some, wreq_gd, wgd_t rfl]
theorem fld_cells : wfld (S := S) "Field" "cells" (netOf f t s) = wpure (.tuple (f.cs.map ent)) := by
  have e : fGet "cells" (netF f t s) = some (.tuple (f.cs.map ent)) := by
    unfold netF
    rw [fGet, if_pos rfl]
  exact wfld_get e
theorem fld_widths : wfld (S := S) "Field" "widths_by_node" (netOf f t s) = wpure (.dict (netD (f.cn ++ f.sn) (adj f.ch))) := by
  obtain ⟨_, _, _, _, _, h1, h2, h3, h4, h5⟩ := fne
  have e : fGet "widths_by_node" (netF f t s) = some (.dict (netD (f.cn ++ f.sn) (adj f.ch))) := by
    unfold netF
    rw [fGet, if_neg h1, fGet, if_neg h2, fGet, if_neg h3, fGet, if_neg h4, fGet, if_neg h5, fGet, if_pos rfl]
  exact wfld_get e
theorem fld_springs : wfld (S := S) "Field" "springs" (netOf f t s) = wpure (.tuple (f.ss.map ent)) := by
  have e : fGet "springs" (netF f t s) = some (.tuple (f.ss.map ent)) := by
    unfold netF
    rw [fGet, if_neg fn2.1, fGet, if_pos rfl]
  exact wfld_get e
theorem net_obj {m : Str} (hm : anyM m) : isObj "Field" m (netOf f t s) := by
  obtain ⟨h1, h2, h3, h4, h5, h6⟩ := fnn m hm
  have e : fGet m (netF f t s) = none := by
    unfold netF
    rw [fGet, if_neg h1, fGet, if_neg h2, fGet, if_neg h3, fGet, if_neg h4, fGet, if_neg h5, fGet, if_neg h6, fGet]
  exact ⟨rfl, e⟩
theorem Ev.obj {nm m : Str} {o : PyData} {k : W S PyData} {P : PyData → Prop} (h : isObj nm m o) (hk : Ev k P) : Ev (wobj nm m o k) P := fun s Q q => ⟨h, hk s Q q⟩
end
theorem kEq_s {x y : Str} : kEq (.str x) (.str y) = decide (x = y) := rfl
theorem dHas_kv {x : Str} : ∀ {ps : List (Str × PyData)}, dHas (ps.map kv) (.str x) = decide (x ∈ ps.map (·.1))
  | [] => by simp [dHas]
  | p :: ps => by
    have ih := dHas_kv (x := x) (ps := ps)
    unfold dHas at ih ⊢
    rw [List.map_cons, List.any_cons, ih, List.map_cons]
    show (kEq (.str p.1) (.str x) || _) = _
    rw [kEq_s]
    by_cases h : p.1 = x
    · rw [decide_eq_true h, decide_eq_true (show x ∈ p.1 :: ps.map (·.1) by rw [h]; exact List.mem_cons_self)]; rfl
    · rw [decide_eq_false h, Bool.false_or]
      exact decide_eq_decide.mpr ⟨fun q => List.mem_cons_of_mem _ q, fun q => by
        rcases List.mem_cons.mp q with e | q
        · exact absurd e.symm h
        · exact q⟩
theorem dPut_new {x : Str} {v : PyData} {ps : List (Str × PyData)} (h : x ∉ ps.map (·.1)) : dPut (ps.map kv) (.str x) v = (ps ++ [(x, v)]).map kv := by
  unfold dPut
  rw [dHas_kv, decide_eq_false h, List.map_append]
  rfl
theorem dGet_kv : ∀ {ps : List (Str × PyData)} {p : Str × PyData}, (ps.map (·.1)).Nodup → p ∈ ps → dGet (ps.map kv) (.str p.1) = some p.2
  | [], _, _, h => by cases h
  | q :: ps, p, hn, h => by
    rw [List.map_cons] at hn
    have hn' := List.nodup_cons.mp hn
    unfold dGet
    rw [List.map_cons, List.find?_cons]
    show ((match kEq (.str q.1) (.str p.1) with | true => some (kv q) | false => _).map _) = _
    rw [kEq_s]
    by_cases e : q.1 = p.1
    · rw [decide_eq_true e]
      rcases List.mem_cons.mp h with e2 | h
      · rw [e2]; rfl
      · exact absurd (show q.1 ∈ ps.map (·.1) by rw [e]; exact List.mem_map_of_mem h) hn'.1
    · rw [decide_eq_false e]
      rcases List.mem_cons.mp h with e2 | h
      · rw [e2] at e; exact absurd rfl e
      · exact dGet_kv hn'.2 h
theorem isK_kv (ps : List (Str × PyData)) : isK (ps.map kv) := fun e he => by
  obtain ⟨p, _, rfl⟩ := List.mem_map.mp he
  rfl
theorem netD_kv (xs : List Str) (F : Str → List (PyData × PyData)) : netD xs F = (xs.map fun x => (x, PyData.dict (F x))).map kv := by
  unfold netD
  rw [List.map_map]; rfl
theorem netD_names (xs : List Str) (F : Str → List (PyData × PyData)) : (xs.map fun x => (x, PyData.dict (F x))).map (·.1) = xs := by
  rw [List.map_map]
  exact List.map_id' xs
theorem adj_fold {x : Str} : ∀ (cs : List (Str × Str × PyData)) (A : List (Str × PyData)), (∀ c ∈ cs, c.1 ≠ c.2.1) → ((A ++ cs.filterMap (nbF x)).map (·.1)).Nodup → cs.foldl (adjStep x) (A.map kv) = (A ++ cs.filterMap (nbF x)).map kv
  | [], A, _, _ => by rw [List.filterMap_nil, List.append_nil]; rfl
  | c :: cs, A, hne, hn => by
    have hc := hne c List.mem_cons_self
    have step : ∃ B, adjStep x (A.map kv) c = B.map kv ∧ B ++ cs.filterMap (nbF x) = A ++ (c :: cs).filterMap (nbF x) := by
      rw [List.filterMap_cons]
      by_cases h1 : x = c.1
      · have h2 : x ≠ c.2.1 := fun e => hc (by rw [← h1, e])
        have en : nbF x c = some (c.2.1, c.2.2) := if_pos h1
        rw [en]
        have hm : c.2.1 ∉ A.map (·.1) := fun hm => by
          rw [List.filterMap_cons, en, List.map_append] at hn
          exact (List.nodup_append.mp hn).2.2 _ hm _ (by simp) rfl
        refine ⟨A ++ [(c.2.1, c.2.2)], ?_, by rw [List.append_assoc]; rfl⟩
        unfold adjStep
        rw [if_pos h1, if_neg h2]
        exact dPut_new hm
      · by_cases h2 : x = c.2.1
        · have en : nbF x c = some (c.1, c.2.2) := by unfold nbF; rw [if_neg h1, if_pos h2]
          rw [en]
          have hm : c.1 ∉ A.map (·.1) := fun hm => by
            rw [List.filterMap_cons, en, List.map_append] at hn
            exact (List.nodup_append.mp hn).2.2 _ hm _ (by simp) rfl
          refine ⟨A ++ [(c.1, c.2.2)], ?_, by rw [List.append_assoc]; rfl⟩
          unfold adjStep
          rw [if_neg h1, if_pos h2]
          exact dPut_new hm
        · have en : nbF x c = none := by unfold nbF; rw [if_neg h1, if_neg h2]
          rw [en]
          refine ⟨A, ?_, rfl⟩
          unfold adjStep
          rw [if_neg h1, if_neg h2]
    obtain ⟨B, e1, e2⟩ := step
    rw [List.foldl_cons, e1, adj_fold cs B (fun c hc => hne c (List.mem_cons_of_mem _ hc)) (by rw [e2]; exact hn), e2]
theorem adj_eq {f : FD} (ok : f.Ok) (x : Str) : adj f.ch x = (nbs f x).map kv := by
  have := adj_fold (x := x) f.ch [] (fun c hc => lts_ne (ok.ch1 c hc).2.2.1) (by rw [List.nil_append]; exact nbs_nodup ok x)
  rw [List.nil_append] at this
  exact this
theorem nodes_nodup {f : FD} (ok : f.Ok) : (f.cn ++ f.sn).Nodup := List.nodup_append.mpr ⟨ok.c1.imp fun h => lts_ne h, ok.s1.imp fun h => lts_ne h, fun x hx y hy e => ok.nd x hx (by rw [e]; exact hy)⟩
theorem get_width {f : FD} {x : Str} (hx : x ∈ f.cn ++ f.sn) (ok : f.Ok) : oix (.dict (netD (f.cn ++ f.sn) (adj f.ch))) (.str x) = wpure (.dict ((nbs f x).map kv)) := by
  have e : dGet (netD (f.cn ++ f.sn) (adj f.ch)) (.str x) = some (.dict (adj f.ch x)) := by
    rw [netD_kv]
    exact dGet_kv (p := (x, .dict (adj f.ch x))) (by rw [netD_names]; exact nodes_nodup ok) (List.mem_map.mpr ⟨x, hx, rfl⟩)
  show wopt (dGet _ _) _ = _
  rw [e, wopt_some, wreq_gd, wgd_t ⟨by rw [netD_kv]; exact isK_kv _, rfl⟩, adj_eq ok]
theorem kit3 : kitB "int" "int" = some true ∧ kitB "int" "bool" = some false := by decide +kernel
theorem isTy_tt {ds : List PyData} : isTy "tuple" (.tuple ds) = wpure (.bool true) := by
  unfold isTy
  show wopt (some "tuple") _ = _
  rw [wopt_some, kit1.2.2.2.2.2.1]; rfl
theorem isTy_ss {z : Str} : isTy "str" (.str z) = wpure (.bool true) := by
  unfold isTy
  show wopt (some "str") _ = _
  rw [wopt_some, kit2.2.2.2.1]; rfl
theorem isTy_ii {i : Int} : isTy "int" (.int i) = wpure (.bool true) := by
  unfold isTy
  show wopt (some "int") _ = _
  rw [wopt_some, kit3.1]; rfl
theorem isTy_ib {i : Int} : isTy "bool" (.int i) = wpure (.bool false) := by
  unfold isTy
  show wopt (some "int") _ = _
  rw [wopt_some, kit3.2]; rfl
theorem is_integer {i : Int} : F_is_integer (.int i) = wpure (.bool true) := by
  unfold F_is_integer wandV wnotV
  simp only [wbind_pure, wbind_bind, wlift_pure, isTy_ii, isTy_ib, toB_bool, wcond_t, Bool.not_false]
theorem len3 {a b c : PyData} : one (.int (([a, b, c] : List PyData).length : Int)) (.int 3) = wpure (.bool false) := (rfl)
theorem is_common {a b : Nat} : F_common_divisor (.int a) (.int b) = wpure (.int (Nat.gcd a b)) := by
  unfold F_common_divisor
  rw [gcd_loop (fun a b => by simp only [ogt_i, wbind_pure, wlift_pure, wB_eq, toB_bool]) (fun a b hb => by simp only [omod_i, wbind_pure, wlift_gd, wbind_gd, wlift_pure]; rw [wgd_t hb])]
  rfl
theorem is_rat {a b : Nat} (hb : 0 < b) (hg : Nat.gcd a b = 1) : F_is_rational (.tuple [.int a, .int b]) = wpure (.bool true) := by
  unfold F_is_rational
  have h1 : oabs [.int (a : Int)] = wpure (.int a) := by
    show wpure (PyData.int _) = _
    rw [Int.natAbs_natCast]
  simp only [wbind_pure, wbind_bind, wl_cons, wl_nil, wlift_pure, wite_eq, wB_eq, wnot_eq, wor_eq, isTy_tt, toB_bool, Bool.not_true, wcond_f, olen_t, len2, w2_t, ap1_1, ap2_2, is_integer, olt_i, h1, is_common, oeq_i, hg]
  rw [decide_eq_false (show ¬ (b : Int) < 1 by omega)]
  rfl
theorem is_pos {v : PyData} (h : PosR v) : F_is_positive v = wpure (.bool true) := by
  obtain ⟨a, b, rfl, h0, h1, h2⟩ := h
  unfold F_is_positive wandV
  simp only [wbind_pure, wbind_bind, wl_cons, wl_nil, wlift_pure, ap1_1, is_rat h1 h2, toB_bool, wcond_t, ix20, ogt_i]
  rw [decide_eq_true (show (0 : Int) < a by omega)]
theorem is_non {v : PyData} (h : NonR v) : F_is_nonnegative v = wpure (.bool true) := by
  obtain ⟨a, b, rfl, h1, h2⟩ := h
  unfold F_is_nonnegative wandV
  simp only [wbind_pure, wbind_bind, wl_cons, wl_nil, wlift_pure, ap1_1, is_rat h1 h2, toB_bool, wcond_t, ix20, oge_i]
  rw [decide_eq_true (show (0 : Int) ≤ a by omega)]
theorem is_nm {x : Str} (h : nameOk x) : Is (F_is_name (.str x)) (.bool true) := by
  obtain ⟨h1, h2, h3⟩ := h
  unfold F_is_name
  have hz : x.length ≤ sizeLine := by have := hs1; omega
  simp only [wbind_pure, wbind_bind, wl_cons, wl_nil, wlift_pure, wlift_gd, wbind_gd, wite_eq, wB_eq, wnot_eq, wor_eq, isTy_ss, toB_bool, Bool.not_true, wcond_f, olen_s, wgd_t hz, ole_i]
  rw [decide_eq_true (show (1 : Int) ≤ (x.length : Int) by omega), decide_eq_true (show (x.length : Int) ≤ 8 by omega)]
  simp only [wcond_t, wbind_pure, Bool.not_true, wcond_f, toB_bool]
  have e : wseq (.str x) = wpure (x.cps.toList.map fun c => .str ⟨#[c]⟩) := rfl
  have hl : x.cps.toList.length = x.length := by simp [Str.length]
  rw [e]
  simp only [wlift_pure, wbind_pure]
  refine Is.then (Is.mapS (e := fun c : Nat => PyData.str ⟨#[c]⟩) (v := fun _ => .bool true) (by have := hs1; omega) fun c hc => ?_) ?_
  · have : oin (.str ⟨#[c]⟩) (.str tx_abc) = wpure (.bool true) := by
      show wopt (some c) (fun c => wpure (PyData.bool (decide (c ∈ tx_abc.cps.toList)))) = _
      rw [wopt_some, List.all_eq_true.mp h3 c hc]
    rw [this]
    exact Is.pure
  · have : (x.cps.toList.map fun _ => PyData.bool true) = (x.cps.toList.map fun _ => true).map .bool := by rw [List.map_map]; rfl
    rw [this, oall_b]
    have : (x.cps.toList.map fun _ => true).all id = true := by simp
    rw [this]
    exact Is.pure
theorem asc_of {xs : List Str} (h : xs.Pairwise lts) : asc xs = true := List.all_eq_true.mpr fun p hp => nxt_pair h p hp
theorem is_nodes {cs : List (Str × PyData)} {nm : Str} {G : PyData → W Unit PyData} (hT : (tab2 "is_positive" (ap1 F_is_positive) "is_nonnegative" (ap1 F_is_nonnegative)) nm = some (ap1 G)) (hG : ∀ c ∈ cs, G c.2 = wpure (.bool true)) (hn : ∀ c ∈ cs, nameOk c.1) (ha : (cs.map (·.1)).Pairwise lts) (hz : cs.length ≤ 100) : Is (F_are_nodes (.tuple (cs.map ent)) (fnD nm)) (.bool true) := by
  unfold F_are_nodes
  simp only [wbind_pure, wbind_bind, wl_cons, wl_nil, wlift_pure, wite_eq, wB_eq, wnot_eq, wor_eq, isTy_tt, toB_bool, Bool.not_true, wcond_f, wseq_t, wret_eq, wnx_eq]
  refine Is.fnx (Is.for_nx (e := ent) cs fun c hc => ?_) ?_
  · unfold ent
    simp only [isTy_tt, wlift_pure, wbind_pure, toB_bool, Bool.not_true, wcond_f, olen_t, len2, ix20, ix21, ap1_1, wbind_bind]
    refine Is.then (Is.lift (is_nm (hn c hc))) ?_
    simp only [toB_bool, wbind_pure, Bool.not_true, wcond_f]
    have e : ∀ k : (List PyData → W Unit PyData) → W Unit PyData, wfnc (tab2 "is_positive" (ap1 F_is_positive) "is_nonnegative" (ap1 F_is_nonnegative)) k (fnD nm) = k (ap1 G) := fun k => by
      show wopt (tab2 _ _ _ _ nm) k = _
      rw [hT, wopt_some]
    rw [e]
    simp only [ap1_1, hG c hc, wlift_pure, toB_bool, wbind_pure, Bool.not_true, wcond_f]
    exact Is.pure
  · have hl : cs.length < sizeLine := by have := hs1; omega
    refine Is.then (Is.mapS (e := ent) (v := fun p => .str p.1) hl fun p _ => Is.pure) ?_
    have en : (cs.map fun p => PyData.str p.1) = (cs.map (·.1)).map .str := by rw [List.map_map]; rfl
    rw [en, ap1_1, ← asc_of ha]
    exact Is.lift (is_asc (by rwa [List.length_map]) (.inl rfl))
def twoD (c : Str × Str × PyData) : PyData := .tuple [.str c.1, .str c.2.1]
theorem eqv_s {x y : Str} : PyData.eqv (.str x) (.str y) = (x == y) := by simp only [PyData.eqv]
theorem alike_ss {x y : Str} : PySem.W.alike (.str x) (.str y) = true := by simp only [PySem.W.alike]
theorem lt_two {c d : Str × Str × PyData} (h : pairLt c d) : olt (twoD c) (twoD d) = wpure (.bool true) := by
  have ok : ltOk (.tuple [.str c.1, .str c.2.1]) (.tuple [.str d.1, .str d.2.1]) := by
    refine ⟨by simp [PySem.W.alike, PySem.W.alikeAll], by simp [PyData.hasDict, PyData.hasDictAll], by simp [PyData.hasDict, PyData.hasDictAll], by simp [PyData.depth, PyData.depthAll]⟩
  show wreq _ _ = _
  rw [wreq_gd, wgd_t ok]
  have e : PySem.W.dataLt (twoD c) (twoD d) = true := by
    unfold twoD
    rw [PySem.W.dataLt_tuple]
    rcases h with h | ⟨h1, h2⟩
    · rw [PySem.W.dataLt_all_no alike_ss (by rw [eqv_s]; exact beq_eq_false_iff_ne.mpr (lts_ne h)), PySem.W.dataLt_str]
      exact h
    · rw [PySem.W.dataLt_all_yes alike_ss (by rw [eqv_s, h1]; exact beq_self_eq_true _), PySem.W.dataLt_all_no alike_ss (by rw [eqv_s]; exact beq_eq_false_iff_ne.mpr (lts_ne h2)), PySem.W.dataLt_str]
      exact h2
  rw [show PySem.W.dataLt (.tuple [.str c.1, .str c.2.1]) (.tuple [.str d.1, .str d.2.1]) = true from e]
theorem is_asc2 {ch : List (Str × Str × PyData)} (hz : ch.length < sizeLine) (h : ch.Pairwise pairLt) : Is (F_is_ascending (.list (ch.map twoD))) (.bool true) := by
  unfold F_is_ascending
  have hb := zip_both (ch.map twoD)
  simp only [wl_cons, wl_nil, wbind_pure, wbind_bind, oneg_i, toI_g, wlift_pure, osl_l, wzip_l]
  rw [cutD_last, show (some (1 : Int)) = some (((1 : Nat) : Int)) from rfl, cutD_from, zipD_eq, hb, nxt_map, List.map_map]
  refine Is.bind (Is.mapS (e := pr2 ∘ fun p : (Str × Str × PyData) × (Str × Str × PyData) => (twoD p.1, twoD p.2)) (v := fun p => .bool true) (by have := nxt_len ch; omega) fun p hp => ?_) ?_
  · show Is (wlift (olt (twoD p.1) (twoD p.2))) _
    rw [lt_two (nxt_pair h p hp)]
    exact Is.pure
  · have : ((nxt ch).map fun _ => PyData.bool true) = ((nxt ch).map fun _ => true).map .bool := by rw [List.map_map]; rfl
    rw [this, oall_b]
    have : ((nxt ch).map fun _ => true).all id = true := by simp
    rw [this]
    exact Is.pure
theorem is_chan {c : Str × Str × PyData} {nodes : List Str} (h1 : c.1 ∈ nodes) (h2 : c.2.1 ∈ nodes) (h3 : lts c.1 c.2.1) (h4 : PosR c.2.2) : F_is_channel (chD c) (.list (nodes.map .str)) = wpure (.bool true) := by
  unfold F_is_channel chD wandV
  have h3' : decide (c.1.cps.toList < c.2.1.cps.toList) = true := h3
  simp only [wbind_pure, wbind_bind, wl_cons, wl_nil, wlift_pure, wite_eq, wB_eq, wnot_eq, wor_eq, isTy_tt, toB_bool, Bool.not_true, wcond_f, wcond_t, olen_t, len3, w3_t, oin_sl, decide_eq_true h1, decide_eq_true h2, olt_s, h3', ap1_1, is_pos h4]
theorem is_chans {f : FD} (ok : f.Ok) : Is (F_are_channels (.tuple (f.ch.map chD)) (.list ((f.cn ++ f.sn).map .str))) (.bool true) := by
  unfold F_are_channels
  have hl : f.ch.length < sizeLine := by have := ok.z3; have := hs1; omega
  simp only [wbind_pure, wbind_bind, wl_cons, wl_nil, wlift_pure, wite_eq, wB_eq, wnot_eq, wor_eq, isTy_tt, toB_bool, Bool.not_true, wcond_f, wseq_t, ap2_2]
  refine Is.then (Is.mapS (e := chD) (v := fun _ => .bool true) hl fun c hc => ?_) ?_
  · obtain ⟨h1, h2, h3, h4⟩ := ok.ch1 c hc
    rw [is_chan h1 h2 h3 h4]
    exact Is.pure
  have : (f.ch.map fun _ => PyData.bool true) = (f.ch.map fun _ => true).map .bool := by rw [List.map_map]; rfl
  rw [this, oall_b]
  have : (f.ch.map fun _ => true).all id = true := by simp
  rw [this]
  simp only [wlift_pure, wbind_pure, toB_bool, Bool.not_true, wcond_f, toI_g]
  refine Is.then (Is.mapS (e := chD) (v := twoD) hl fun c hc => ?_) ?_
  · unfold chD
    rw [osl_t, show (some (2 : Int)) = some (((2 : Nat) : Int)) from rfl, cutD_to]
    exact Is.pure
  · rw [ap1_1]
    exact Is.lift (is_asc2 hl ok.ch2)
theorem pairs_ent : ∀ cs : List (Str × PyData), pairsOf (cs.map ent) = some (cs.map fun c => (.inr c.1, c.2))
  | [] => rfl
  | c :: cs => by
    show (match keyD (.str c.1), pairsOf (cs.map ent) with | some j, some r => some ((j, c.2) :: r) | _, _ => none) = _
    rw [pairs_ent cs]; rfl
theorem odict_ent (cs : List (Str × PyData)) : odict [.tuple (cs.map ent)] = wpure (.dict (mergeD [] (cs.map fun c => (.inr c.1, c.2)))) := by
  show wopt (pairsOf _) _ = _
  rw [pairs_ent, wopt_some]
theorem fPut_new {g : Str} {d : PyData} : ∀ (gs : List (Str × PyData)), g ∉ gs.map (·.1) → fPut g d (gs.map kv) = (gs ++ [(g, d)]).map kv
  | [], _ => rfl
  | p :: gs, h => by
    rw [List.map_cons] at h
    have h1 : p.1 ≠ g := fun e => h (by rw [e]; exact List.mem_cons_self)
    show (if p.1 = g then _ else _) = _
    rw [if_neg h1, fPut_new gs fun hm => h (List.mem_cons_of_mem _ hm)]
    rfl
section
variable {S α : Type}
theorem wendA_bind {β : Type} {m : W S β} {k : β → W S (Fl α)} : wendA (wbind m k) = wbind m fun b => wendA (k b) := (rfl)
theorem wendA_cond {c : Bool} {x y : W S (Fl α)} : wendA (wcond c x y) = wcond c (wendA x) (wendA y) := by cases c <;> rfl
theorem at_set6 {nm f : Str} {d : PyData} {k : Unit → W SelfD PyData} {gs : List (Str × PyData)} {Q : PyData → SelfD → Prop} (hm : f ∉ gs.map (·.1)) (hz : gs.length < 1000) (h : k () ⟨nm, (gs ++ [(f, d)]).map kv⟩ Q) : wbind (wfset nm f (wpure d)) k ⟨nm, gs.map kv⟩ Q :=
  ⟨rfl, by rw [List.length_map]; exact hz, by rw [fPut_new gs hm]; exact h⟩
end
theorem mergeD_new : ∀ (cs A : List (Str × PyData)), ((A ++ cs).map (·.1)).Nodup → mergeD (A.map kv) (cs.map fun c => (.inr c.1, c.2)) = (A ++ cs).map kv
  | [], A, _ => by rw [List.append_nil]; rfl
  | c :: cs, A, h => by
    have hm : c.1 ∉ A.map (·.1) := fun hm => by
      rw [List.map_append] at h
      exact (List.nodup_append.mp h).2.2 _ hm _ (by simp) rfl
    show mergeD (dPut (A.map kv) (.str c.1) c.2) _ = _
    rw [dPut_new hm, mergeD_new cs (A ++ [(c.1, c.2)]) (by rw [List.append_assoc]; exact h), List.append_assoc]
    rfl
def netV (f : FD) : PyData := netOf f (.dict (f.cs.map kv)) (.dict (f.ss.map kv))
theorem tab_p : (tab2 "is_positive" (ap1 F_is_positive) "is_nonnegative" (ap1 F_is_nonnegative)) "is_positive" = some (ap1 F_is_positive) := if_pos rfl
theorem tab_n : (tab2 "is_positive" (ap1 F_is_positive) "is_nonnegative" (ap1 F_is_nonnegative)) "is_nonnegative" = some (ap1 F_is_nonnegative) := by
  have h : ("is_nonnegative" : Str) ≠ "is_positive" := by decide +kernel
  unfold tab2
  rw [if_neg h, if_pos rfl]
theorem keys_ok : ("springs" : Str) ∉ (["cells"] : List Str) ∧ ("channels" : Str) ∉ (["cells", "springs"] : List Str) ∧ ("thickness_by_cell" : Str) ∉ (["cells", "springs", "channels"] : List Str) ∧
    ("start_by_spring" : Str) ∉ (["cells", "springs", "channels", "thickness_by_cell"] : List Str) ∧ ("widths_by_node" : Str) ∉ (["cells", "springs", "channels", "thickness_by_cell", "start_by_spring"] : List Str) := by decide +kernel
theorem ev_field {f : FD} (ok : f.Ok) {S : Type} : Ev (S := S) (wmake "Field" (apD (ap3 F_Field___init__)) [.tuple (f.cs.map ent), .tuple (f.ss.map ent), .tuple (f.ch.map chD)]) (fun d => d = netV f) := fun s0 Q q => by
  show F_Field___init__ (.tuple (f.cs.map ent)) (.tuple (f.ss.map ent)) (.tuple (f.ch.map chD)) ⟨"Field", ([] : List (Str × PyData)).map kv⟩ (fun d s' => d = .none ∧ Q (.dict ((.none, .str s'.nm) :: s'.es)) s0)
  obtain ⟨k1, k2, k3, k4, k5⟩ := keys_ok
  have hcl : f.cs.length < sizeLine := by have := ok.z1; have := hs1; omega
  have hsl : f.ss.length < sizeLine := by have := ok.z2; have := hs1; omega
  have hn1 : ∀ c ∈ f.cs, nameOk c.1 := fun c hc => ok.nm _ (List.mem_append_left _ (List.mem_map_of_mem hc))
  have hn2 : ∀ c ∈ f.ss, nameOk c.1 := fun c hc => ok.nm _ (List.mem_append_right _ (List.mem_map_of_mem hc))
  unfold F_Field___init__
  simp only [wbind_pure, wbind_bind, wl_cons, wl_nil, wlift_pure, wite_eq, wB_eq, wnot_eq, wor_eq, wendA_bind, wendA_cond, ap2_2, wseq_t, odict_ent]
  refine Is.lift (is_nodes tab_p (fun c hc => is_pos (ok.cv c hc)) hn1 ok.c1 (by have := ok.z1; omega)) _ _ fun _ e => ?_
  subst e
  simp only [toB_bool, wbind_pure, Bool.not_true, wcond_f]
  refine Is.mapS (S := SelfD) (e := ent) (v := fun p => .str p.1) hcl (fun p _ => Is.pure) _ _ fun _ e => ?_
  subst e
  rw [cn_map]
  refine Is.lift (is_nodes tab_n (fun c hc => is_non (ok.sv c hc)) hn2 ok.s1 (by have := ok.z2; omega)) _ _ fun _ e => ?_
  subst e
  simp only [toB_bool, wbind_pure, Bool.not_true, wcond_f, wbind_bind]
  refine Is.mapS (S := SelfD) (e := ent) (v := fun p => .bool false) hsl (fun p hp => ?_) _ _ fun _ e => ?_
  · have hx : p.1 ∉ f.cn := fun hm => ok.nd _ hm (List.mem_map_of_mem hp)
    unfold ent
    simp only [w2_t, wbind_pure, oin_sl, decide_eq_false hx, wlift_pure]
    exact Is.pure
  subst e
  have e1 : (f.ss.map fun _ => PyData.bool false) = (f.ss.map fun _ => false).map .bool := by rw [List.map_map]; rfl
  have e2 : (f.ss.map fun _ => false).any id = false := by simp
  rw [e1, oany_b, e2]
  simp only [wlift_pure, wbind_pure, toB_bool, wcond_f]
  refine Is.mapS (S := SelfD) (e := ent) (v := fun p => .str p.1) hsl (fun p _ => Is.pure) _ _ fun _ e => ?_
  subst e
  have e3 : (f.ss.map fun c => PyData.str c.1) = f.sn.map .str := by unfold FD.sn; rw [List.map_map]; rfl
  have hadd : (f.cn.map PyData.str).length + (f.sn.map PyData.str).length ≤ sizeLine := by
    rw [List.length_map, List.length_map]
    unfold FD.cn FD.sn
    rw [List.length_map, List.length_map]
    have := ok.z1; have := ok.z2; have := hs1; omega
  rw [e3, oadd_l, wgd_t hadd]
  simp only [wlift_pure, wbind_pure]
  rw [← List.map_append]
  refine Is.lift (is_chans ok) _ _ fun _ e => ?_
  subst e
  simp only [toB_bool, wbind_pure, Bool.not_true, wcond_f]
  refine at_set6 (gs := []) (by simp) (by simp) ?_
  refine at_set6 (gs := [("cells", _)]) k1 (by simp) ?_
  refine at_set6 (gs := [("cells", _), ("springs", _)]) k2 (by simp) ?_
  refine at_set6 (gs := [("cells", _), ("springs", _), ("channels", _)]) k3 (by simp) ?_
  refine at_set6 (gs := [("cells", _), ("springs", _), ("channels", _), ("thickness_by_cell", _)]) k4 (by simp) ?_
  refine ⟨f.cn ++ f.sn, f.ch, rfl, nodes_nodup ok, ?_, rfl, by have := ok.z3; omega, fun c hc => ⟨(ok.ch1 c hc).1, (ok.ch1 c hc).2.1⟩, rfl, by simp, ?_⟩
  · rw [List.length_append]
    unfold FD.cn FD.sn
    rw [List.length_map, List.length_map]
    have := ok.z1; have := ok.z2; omega
  · refine ⟨rfl, ?_⟩
    have m1 := mergeD_new f.cs [] (by rw [List.nil_append]; exact ok.c1.imp fun h => lts_ne h)
    have m2 := mergeD_new f.ss [] (by rw [List.nil_append]; exact ok.s1.imp fun h => lts_ne h)
    rw [List.nil_append] at m1 m2
    refine q _ ?_
    unfold netV netOf netF
    rw [← m1, ← m2]
    show PyData.dict ((.none, .str "Field") :: fPut _ _ (List.map kv _)) = _
    rw [fPut_new _ k5]
    rfl
end Lw

namespace Lw
open PySem PySem.Spec PyProof.Rows L2 PL
/-! ### draws (the k04..k08 family) -/
theorem fdiv_nn {x c : Int} (hx : 0 ≤ x) (hc : 0 < c) : 0 ≤ x.fdiv c ∧ x.fdiv c ≤ x := by
  rw [Int.fdiv_eq_ediv_of_nonneg _ (Int.le_of_lt hc)]
  exact ⟨Int.ediv_nonneg hx (Int.le_of_lt hc), Int.ediv_le_self _ hx⟩
/-- a draw below b -/
theorem sp_random {b : Int} (hb : 1 ≤ b) (hb2 : b < 2 ^ 100) : Sp 1 (F_law_draw (.int b)) (fun d => ∃ r : Int, d = .int r ∧ 0 ≤ r ∧ r < b) := fun s hs Q q => by
  unfold F_law_draw
  obtain ⟨h0, h1, h2⟩ := hs
  have hM : ∀ (x : Int) {c : Int}, 0 < c → 0 ≤ x % c ∧ x % c < c := fun x c hc => ⟨Int.emod_nonneg _ (by omega), Int.emod_lt_of_pos _ hc⟩
  simp only [wbind_pure, wbind_bind, wbind_gd, wreq_gd, wlift_pure, wlift_gd, wite_eq, wB_eq, wret_eq, wnx_eq, fthen_bind, fthen_nx, fthen_rt, fthen_cond, at_cnt, at_seti, at_mix, PL.at_ne, at_pure, oadd_i]
  have hz : (63 : Nat) < sizeLine := by decide
  refine ⟨(show s.cells.length ≤ 1000000 by omega), ?_⟩
  have fin : ∀ (r : Int) (s' : DL3), s'.cnt = s.cnt + 1 → s'.cells.length ≤ 63 → 0 ≤ r → r < b → Q (.int r) s' := fun r s' e1 e2 r1 r2 =>
    q _ s' ⟨r, rfl, r1, r2⟩ ⟨by omega, by omega, e2⟩ (by omega)
  -- the digest of an item
  have tail : ∀ (c1 : Int), c1 = s.cnt + 1 → ∀ (c : Int) (s1 : DL3), s1.cnt = s.cnt + 1 → s1.cells.length ≤ 63 →
      (wbind (wlift (omod (.int c) (.int 2147483579))) fun a => wbind (wlift (omul (.int 48271) (.int c1))) fun a_1 => wbind (wlift (omul a_1 (.int c1))) fun a_2 => wbind (wlift (oadd a a_2)) fun a => wbind (wlift (oadd a (.int 29))) fun a =>
        wbind (wlift (omul a (.int 40692))) fun a => wbind (wlift (omod a (.int 2147483647))) fun h4 => wbind (wlift (omul h4 h4)) fun a => wbind (wlift (omul (.int 104729) (.int c1))) fun a_3 => wbind (wlift (oadd a a_3)) fun a => wbind (wlift (oadd a (.int 13))) fun a =>
        wbind (wlift (omod a (.int 2147483587))) fun h5 => wbind (wlift (omul h5 (.int 39373))) fun a => wbind (wlift (ofdiv h5 (.int 11))) fun a_1 => wbind (wlift (oadd a a_1)) fun a =>
        wbind (wlift (omod a (.int 2147483563))) fun a => wbind (wlift (ofdiv a (.int 64))) fun a => (wlift (omod a (.int b)) : W DS PyData)) s1 Q := by
    intro c1 hc1 c s1 e1 e2
    have hc2 : 0 ≤ c1 ∧ c1 ≤ 1000000 := by omega
    have hsq : 0 ≤ c1 * c1 ∧ c1 * c1 ≤ 1000000 * 1000000 := ⟨Int.mul_nonneg hc2.1 hc2.1, Int.mul_le_mul hc2.2 hc2.2 hc2.1 (by decide)⟩
    simp only [omod_i, omul_i, oadd_i, ofdiv_i, wlift_gd, wlift_pure, wbind_gd, wbind_pure, at_gd, at_pure]
    have a1 := hM c (c := 2147483579) (by decide)
    have e3 : 48271 * c1 * c1 = 48271 * (c1 * c1) := by rw [Int.mul_assoc]
    rw [e3]
    generalize c1 * c1 = sq at hsq ⊢
    generalize hx : c % 2147483579 = x at a1 ⊢
    have b1 : 0 ≤ x + 48271 * sq + 29 ∧ x + 48271 * sq + 29 < 2 ^ 100 := by omega
    generalize x + 48271 * sq + 29 = y at b1 ⊢
    have a2 := hM (y * 40692) (c := 2147483647) (by decide)
    generalize y * 40692 % 2147483647 = h4 at a2 ⊢
    have a3 := hM (h4 * h4 + 104729 * c1 + 13) (c := 2147483587) (by decide)
    generalize (h4 * h4 + 104729 * c1 + 13) % 2147483587 = h5 at a3 ⊢
    have a4 := fdiv_nn a3.1 (c := 11) (by decide)
    generalize h5.fdiv 11 = g at a4 ⊢
    have a5 := hM (h5 * 39373 + g) (c := 2147483563) (by decide)
    generalize (h5 * 39373 + g) % 2147483563 = h6 at a5 ⊢
    have a6 := hM (h6.fdiv 64) (c := b) (by omega)
    exact ⟨by decide, mulOk (by decide) (by decide) (by omega) (by omega), mulOk (by omega) (by omega) (by omega) (by omega), mulOk b1.1 b1.2 (by decide) (by decide), by decide, mulOk (by omega) (by omega) (by omega) (by omega), mulOk (by decide) (by decide) (by omega) (by omega), by decide,
      mulOk (by omega) (by omega) (by decide) (by decide), divOk (by decide) (by decide), by decide, divOk (by decide) (by decide), by omega, fin _ _ e1 e2 a6.1 a6.2⟩
  dsimp only
  cases hcs : s.cells with
  | nil =>
    show wcond false _ _ _ Q
    rw [wcond_f]
    exact tail (s.cnt + 1) rfl s.mix ⟨[], s.mix, s.cnt + 1⟩ rfl (by simp)
  | cons z0 zs =>
    show wcond true _ _ _ Q
    rw [wcond_t, at_pop]
    obtain ⟨z, hzl⟩ : ∃ z, (z0 :: zs).getLast? = some z := ⟨_, List.getLast?_eq_some_getLast (by simp)⟩
    have hlen : (z0 :: zs).dropLast.length ≤ 62 := by rw [hcs] at h2; rw [List.length_dropLast]; omega
    refine ⟨z, hzl, ?_⟩
    simp only [opow_i, oge_i, wlift_gd, wlift_pure, wbind_gd, wbind_pure, toB_bool, at_gd]
    refine ⟨⟨by decide, by decide, by decide⟩, ?_⟩
    rw [wcond_ite]
    split
    · simp only [ofdiv_i, omod_i, wlift_gd, wlift_pure, wbind_gd, wbind_pure]
      rw [dkApp_gd (divOk (by omega) hb2), at_appi]
      have a6 := hM z (c := b) (by omega)
      refine ⟨(show (z0 :: zs).dropLast.length < sizeLine by omega), by omega, fin _ _ rfl ?_ a6.1 a6.2⟩
      show ((z0 :: zs).dropLast ++ [z.fdiv b]).length ≤ 63
      rw [List.length_append, List.length_singleton]; omega
    · rw [at_mix, oadd_i, wlift_pure, wbind_pure]
      exact tail (s.cnt + 1) rfl (z + s.mix) ⟨(z0 :: zs).dropLast, s.mix, s.cnt + 1⟩ rfl (show (z0 :: zs).dropLast.length ≤ 63 by omega)
theorem sp_rand {b : Int} (hb : 1 ≤ b) (hb2 : b < 2 ^ 100) {α : Type} {m : Nat} {G : PyData → W DS α} {R : α → Prop} (h : ∀ r : Nat, (r : Int) < b → Sp m (G (.int r)) R) : Sp (1 + m) (wbind (F_law_draw (.int b)) G) R :=
  Sp.bind (sp_random hb hb2) fun d hd => by
    obtain ⟨r, rfl, h0, h1⟩ := hd
    obtain ⟨k, rfl⟩ := Int.eq_ofNat_of_zero_le h0
    exact h k h1
/-! the deck -/
theorem intsOf_mapQ : ∀ bs : List Int, intsOf (bs.map .int) = some bs
  | [] => rfl
  | b :: bs => by
    show (intsOf (bs.map .int)).map (b :: ·) = _
    rw [intsOf_mapQ bs]; rfl
theorem sum_loop {f : PyData → PyData → W Unit PyData} (hf : ∀ (x a : Int), 0 ≤ a → a < 2 ^ 60 → ∃ b : Int, Is (f (.int x) (.int a)) (.int b) ∧ 0 ≤ b ∧ b < 2 ^ 60) :
    ∀ (xs : List Int) (a : Int), 0 ≤ a → a < 2 ^ 60 → ∃ b : Int, Is (wforn f (xs.map .int) (.int a)) (.int b)
  | [], a, _, _ => ⟨a, Is.pure⟩
  | x :: xs, a, h0, h1 => by
    obtain ⟨b, e, b0, b1⟩ := hf x a h0 h1
    obtain ⟨c, e2⟩ := sum_loop hf xs b b0 b1
    exact ⟨c, Is.bind e e2⟩
theorem ev_deck (ns : List Int) : Ev (F_law_deck (scrD ns)) (fun dk => Dk 100000 dk) := by
  unfold F_law_deck
  have e0 : oslScr (scrD ns) none (some 63) = wpure (.list ((ns.take 63).map .int)) := by
    show wpure (PyData.list (PL.cutD (ns.map .int) none (some ((63 : Nat) : Int)))) = _
    rw [cutD_to, List.map_take]
  have hl : (ns.take 63).length ≤ 63 := by rw [List.length_take]; omega
  simp only [wbind_pure, wbind_bind, wl_cons, wl_nil, toI_g, e0, wlift_pure, olist_l, wseq_l, olen_l, oadd_i, List.length_map]
  generalize ns.take 63 = xs at hl ⊢
  obtain ⟨b, hb⟩ := sum_loop (f := fun x a_3 => wbind (wlift (omul a_3 (.int 69621))) fun a => wbind (wlift (omod x (.int 2147483587))) fun b => wbind (wlift (oadd a b)) fun a => wbind (wlift (oadd a (.int 11))) fun a => wlift (omod a (.int 2147483629))) (fun x a h0 h1 => by
    refine ⟨(a * 69621 + x % 2147483587 + 11) % 2147483629, ?_, Int.emod_nonneg _ (by decide), by have := Int.emod_lt_of_pos (a * 69621 + x % 2147483587 + 11) (show (0 : Int) < 2147483629 by decide); omega⟩
    simp only [omul_i, omod_i, oadd_i, wlift_gd, wlift_pure, wbind_gd, wbind_pure]
    exact Ev.gd (mulOk h0 (by omega) (by decide) (by decide)) (Ev.gd (by decide) (Ev.gd (by decide) (Ev.pure rfl)))) xs (37 + (xs.length : Int)) (by omega) (by omega)
  simp only [wbind_ret]
  refine Is.then hb ?_
  rw [show orev (.list (xs.map PyData.int)) = wpure (.list (xs.map PyData.int).reverse) from rfl]
  simp only [wlift_pure, wbind_pure]
  rw [← List.map_reverse]
  show Ev (wopt (intsOf _) _) _
  rw [intsOf_mapQ, wopt_some]
  exact Ev.pure ⟨Int.le_refl 0, (show (0 : Int) + ((100000 : Nat) : Int) ≤ 1000000 by decide), by
    show xs.reverse.length ≤ 63
    rw [List.length_reverse]; exact hl⟩
/-! names -/
def ltr (j : Nat) : Str := ⟨#[97 + j]⟩
def nmWords : List Str := [tx_ice, tx_spring, tx_channel, tx_never, tx_h334c4a, tx_field, tx_start, tx_width, tx_cell, tx_at, tx_least, tx_most, tx_exactly, tx_remove, tx_drop, tx_undo, tx_show, tx_count]
def nmA (off k : Nat) : Str := ltr ((off + 7 * k) % 26)
def nmB (off pl k : Nat) : Str := cutS tx_channels none (some ((pl : Nat) : Int)) ++ nmA off k ++ cutS tx_channels (some ((pl + 1 : Nat) : Int)) none
def nmC (off k : Nat) : Str := nmWords.getD ((off + k) % 18) tx_ice
def nmE (off k : Nat) : Str := Txt.mul (ltr ((off + k / 8) % 26)) ((1 + k % 8 : Nat) : Int)
def nmN (st off pl k : Nat) : Str := match st with
  | 0 => nmA off k
  | 1 => nmB off pl k
  | 2 => nmC off k
  | _ => nmE off k
theorem letters_at : ∀ j : Fin 26, atI tx_abc.cps.toList ((j.1 : Nat) : Int) = some (97 + j.1) := by decide +kernel
theorem letter_ix {j : Nat} (h : j < 26) : oix (.str tx_abc) (.int (j : Int)) = wpure (.str (ltr j)) := by
  have hl : tx_abc.length ≤ sizeLine := by decide +kernel
  rw [oix_s, letters_at ⟨j, h⟩, wopt_some, wgd_t hl]; rfl
def goodN (x : Str) : Bool := decide (1 ≤ x.length) && decide (x.length ≤ 8) && x.cps.toList.all (fun c => decide (c ∈ tx_abc.cps.toList))
theorem names_okA : ∀ (off : Fin 26), ((List.range 12).map (nmA off.1)).Nodup ∧ ∀ k : Fin 12, goodN (nmA off.1 k.1) = true := by decide +kernel
def nmBj (pl j : Nat) : Str := cutS tx_channels none (some ((pl : Nat) : Int)) ++ ltr j ++ cutS tx_channels (some ((pl + 1 : Nat) : Int)) none
theorem nmB_good : ∀ (pl : Fin 8) (j : Fin 26), goodN (nmBj pl.1 j.1) = true ∧ (nmBj pl.1 j.1).cps.toList[pl.1]? = some (97 + j.1) := by decide +kernel
theorem names_okB (off : Fin 26) (pl : Fin 8) : ((List.range 12).map (nmB off.1 pl.1)).Nodup ∧ ∀ k : Fin 12, goodN (nmB off.1 pl.1 k.1) = true := by
  refine ⟨?_, fun k => (nmB_good pl ⟨(off.1 + 7 * k.1) % 26, Nat.mod_lt _ (by decide)⟩).1⟩
  refine List.pairwise_map.mpr (List.Pairwise.imp_of_mem (fun {a b} ha hb h e => ?_) (List.nodup_range (n := 12)))
  have ha := List.mem_range.mp ha
  have hb := List.mem_range.mp hb
  have h1 := (nmB_good pl ⟨(off.1 + 7 * a) % 26, Nat.mod_lt _ (by decide)⟩).2
  have h2 := (nmB_good pl ⟨(off.1 + 7 * b) % 26, Nat.mod_lt _ (by decide)⟩).2
  have e' : nmBj pl.1 ((off.1 + 7 * a) % 26) = nmBj pl.1 ((off.1 + 7 * b) % 26) := e
  simp only at h1 h2
  rw [e', h2] at h1
  injection h1 with h1
  omega
theorem names_okC : ∀ (off : Fin 26), ((List.range 12).map (nmC off.1)).Nodup ∧ ∀ k : Fin 12, goodN (nmC off.1 k.1) = true := by decide +kernel
theorem names_okE : ∀ (off : Fin 26), ((List.range 12).map (nmE off.1)).Nodup ∧ ∀ k : Fin 12, goodN (nmE off.1 k.1) = true := by decide +kernel
theorem names_ok {st off pl : Nat} (h1 : off < 26) (h2 : pl < 8) : ((List.range 12).map (nmN st off pl)).Nodup ∧ ∀ k : Nat, k < 12 → nameOk (nmN st off pl k) := by
  have gd : ∀ {x : Str}, goodN x = true → nameOk x := fun {x} h => by
    unfold goodN at h
    simp only [Bool.and_eq_true, decide_eq_true_eq] at h
    exact ⟨h.1.1, h.1.2, h.2⟩
  rcases st with _ | _ | _ | st
  · obtain ⟨a, b⟩ := names_okA ⟨off, h1⟩
    exact ⟨a, fun k hk => gd (b ⟨k, hk⟩)⟩
  · obtain ⟨a, b⟩ := names_okB ⟨off, h1⟩ ⟨pl, h2⟩
    exact ⟨a, fun k hk => gd (b ⟨k, hk⟩)⟩
  · obtain ⟨a, b⟩ := names_okC ⟨off, h1⟩
    exact ⟨a, fun k hk => gd (b ⟨k, hk⟩)⟩
  · obtain ⟨a, b⟩ := names_okE ⟨off, h1⟩
    exact ⟨a, fun k hk => gd (b ⟨k, hk⟩)⟩
theorem word_ix {j : Nat} (h : j < 18) : oix (.list (nmWords.map .str)) (.int (j : Int)) = wpure (.str (nmWords.getD j tx_ice)) := by
  rw [oix_l, PL.atI_nat, List.getElem?_map, List.getElem?_eq_getElem (show j < nmWords.length from h)]
  rw [List.getD_eq_getElem?_getD, List.getElem?_eq_getElem (show j < nmWords.length from h)]
  rfl
theorem four_at (a b c d : PyData) : ∀ {st : Nat}, st < 4 → oix (.list [a, b, c, d]) (.int (st : Int)) = wpure (match st with | 0 => a | 1 => b | 2 => c | _ => d)
  | 0, _ => rfl
  | 1, _ => rfl
  | 2, _ => rfl
  | 3, _ => rfl
  | _ + 4, h => by omega
theorem cut_len : ∀ pl : Fin 8, (cutS tx_channels none (some ((pl.1 : Nat) : Int))).length ≤ 8 ∧ (cutS tx_channels (some ((pl.1 + 1 : Nat) : Int)) none).length ≤ 8 := by decide +kernel
/-- distinct names -/
def NamesOk (n : Nat) (d : PyData) : Prop := ∃ L : List Str, d = .list (L.map .str) ∧ L.length = n ∧ L.Nodup ∧ ∀ x ∈ L, nameOk x
theorem len_app (a b : Str) : (a ++ b).length = a.length + b.length := app_len a b
theorem sp_names {n : Nat} (hn : n ≤ 12) : Sp 3 (F_law_names (.int (n : Int))) (NamesOk n) := by
  unfold F_law_names
  have hs := hs1
  have h3 : tx_channels.length ≤ sizeLine := by decide +kernel
  have hw1 : [PyData.str tx_ice, .str tx_spring, .str tx_channel, .str tx_never, .str tx_h334c4a, .str tx_field, .str tx_start, .str tx_width, .str tx_cell, .str tx_at, .str tx_least, .str tx_most] ++ [PyData.str tx_exactly, .str tx_remove, .str tx_drop, .str tx_undo, .str tx_show, .str tx_count] = nmWords.map .str := rfl
  simp only [wl_cons, wl_nil, wbind_pure, wbind_bind, apD, ap1, wrange1_i, wlift_pure, wlift_gd, wbind_gd]
  refine Sp.mono (sp_rand (by decide) (by decide) fun st hst => sp_rand (by decide) (by decide) fun off hoff => sp_rand (m := 0) (by decide) (by decide) fun pl hpl => ?_) (show 1 + (1 + (1 + 0)) ≤ 3 by decide) fun _ z => z
  have hst : st < 4 := by omega
  have hoff : off < 26 := by omega
  have hpl : pl < 8 := by omega
  rw [oadd_l, wgd_t (by decide), hw1]
  simp only [wlift_pure, wbind_pure]
  refine Sp.gd (rngOk (by omega)) ?_
  rw [Int.toNat_natCast, rangeD_z]
  obtain ⟨c1, c2⟩ := cut_len ⟨pl, hpl⟩
  simp only at c1 c2
  obtain ⟨n1, n2⟩ := names_ok (st := st) hoff hpl
  refine Sp.is (Is.forn (e := fun k : Nat => PyData.int (k : Int)) (v := fun k => some (.str (nmN st off pl k))) (List.range n) [] (fun k hk ds hds => ?_) (by simp; omega)) ?_
  · have hk12 : k < 12 := by have := List.mem_range.mp hk; omega
    have e1 : (off : Int) + 7 * (k : Int) = ((off + 7 * k : Nat) : Int) := by omega
    have e2 : ((off + 7 * k : Nat) : Int) % 26 = (((off + 7 * k) % 26 : Nat) : Int) := by omega
    have e3 : ((pl : Int) + 1) = ((pl + 1 : Nat) : Int) := by omega
    have e4 : ((off : Int) + (k : Int)) % 18 = (((off + k) % 18 : Nat) : Int) := by omega
    have e5 : ((off : Int) + ((k : Int)).fdiv 8) % 26 = (((off + k / 8) % 26 : Nat) : Int) := by
      rw [Int.fdiv_eq_ediv_of_nonneg _ (by decide)]
      omega
    have e6 : (1 + (k : Int) % 8) = ((1 + k % 8 : Nat) : Int) := by omega
    simp only [omul_i, oadd_i, omod_i, ofdiv_i, toI_g, osl_s, wlift_gd, wbind_gd, wlift_pure, wbind_pure, e1, e2, e3, e4, e5, e6]
    rw [wgd_t (mulOk (by decide) (by decide) (by omega) (by omega)), wgd_t (by decide), letter_ix (Nat.mod_lt _ (by decide))]
    simp only [wlift_pure, wbind_pure, oadd_s, wlift_gd, wbind_gd]
    rw [wgd_t h3, wgd_t (by
      show _ + 1 ≤ sizeLine
      omega), wgd_t h3, wgd_t (by
      rw [len_app]
      show _ + 1 + _ ≤ sizeLine
      omega), wgd_t (by decide), word_ix (Nat.mod_lt _ (by decide))]
    simp only [wlift_pure, wbind_pure]
    rw [wgd_t (divOk (by decide) (by decide)), wgd_t (by decide), letter_ix (Nat.mod_lt _ (by decide))]
    simp only [wlift_pure, wbind_pure]
    rw [wgd_t (by decide)]
    have em : omul (.str (ltr ((off + k / 8) % 26))) (.int ((1 + k % 8 : Nat) : Int)) = wgd (0 ≤ ((1 + k % 8 : Nat) : Int) ∧ ((1 + k % 8 : Nat) : Int) ≤ 2000 ∧ (ltr ((off + k / 8) % 26)).length ≤ 2000) (wpure (.str (nmE off k))) := rfl
    rw [em, wgd_t ⟨by omega, by omega, show 1 ≤ 2000 by decide⟩]
    simp only [wlift_pure, wbind_pure, oadd_l, wlift_gd, wbind_gd, wapp_eq]
    refine Ev.gd (show 3 + 1 ≤ sizeLine by omega) ?_
    show Is (wbind (wbind (wlift (oix (.list [_, _, _, _]) _)) _) _) _
    rw [four_at _ _ _ _ hst]
    simp only [wlift_pure, wbind_pure]
    rw [wgd_t hds]
    simp only [wbind_pure]
    have e7 : (match st with | 0 => PyData.str (ltr ((off + 7 * k) % 26)) | 1 => .str (cutS tx_channels none (some ((pl : Nat) : Int)) ++ ltr ((off + 7 * k) % 26) ++ cutS tx_channels (some ((pl + 1 : Nat) : Int)) none) | 2 => .str (nmWords.getD ((off + k) % 18) tx_ice) | _ => .str (nmE off k)) = .str (nmN st off pl k) := by
      rcases st with _ | _ | _ | st <;> rfl
    rw [e7]
    exact Is.pure
  · have ef : ((List.range n).filterMap fun k => some (PyData.str (nmN st off pl k))) = ((List.range n).map (nmN st off pl)).map .str := by
      rw [List.map_map, ← List.filterMap_eq_map]; rfl
    rw [ef]
    have hsub : ((List.range n).map (nmN st off pl)).Sublist ((List.range 12).map (nmN st off pl)) := by
      refine List.Sublist.map _ ?_
      exact List.range_sublist.mpr hn
    exact Sp.pure ⟨_, rfl, by simp, n1.sublist hsub, fun x hx => by
      obtain ⟨k, hk, rfl⟩ := List.mem_map.mp hx
      exact n2 k (by have := List.mem_range.mp hk; omega)⟩
end Lw

namespace Lw
open PySem PySem.Spec PyProof.Rows L2 PL
/-! ### rationals -/
def Sm (d : PyData) : Prop := ∃ a b : Nat, d = .tuple [.int a, .int b] ∧ a ≤ 1001 ∧ b ≤ 1001
def PosS (d : PyData) : Prop := PosR d ∧ Sm d
def NonS (d : PyData) : Prop := NonR d ∧ Sm d
theorem log2_leQ {d : Nat} (h : d < 2 ^ 100) : d.log2 < 9000 := by
  by_cases z : d = 0
  · rw [z]; decide
  · have := (Nat.log2_lt z).mpr h; omega
theorem lowest_eq {n d : Nat} (hd : 0 < d) (hd2 : d < 2 ^ 100) : F_law_lowest (.int n) (.int d) = wpure (.tuple [.int ((n / Nat.gcd n d : Nat) : Int), .int ((d / Nat.gcd n d : Nat) : Int)]) := by
  unfold F_law_lowest
  simp only [wl_cons, wl_nil, wbind_pure, wbind_bind, oabs, wlift_pure]
  have g0 : 0 < Nat.gcd n d := Nat.gcd_pos_of_pos_right _ hd
  have g1 : Nat.gcd n d ≤ d := Nat.gcd_le_right _ hd
  rw [show ((n : Int).natAbs : Int) = (n : Int) by simp]
  rw [gcd_loop (fun a b => by simp only [ogt_i, wbind_pure, wlift_pure, wB_eq, toB_bool]) (fun a b hb => by simp only [omod_i, wbind_pure, wlift_gd, wbind_gd, wlift_pure]; rw [wgd_t hb])]
  have c : ∀ x : Int, CDivA x (Nat.gcd n d : Int) := fun x => ⟨by omega, by rw [Int.natAbs_natCast]; exact log2_leQ (by omega)⟩
  simp only [wbind_pure, ofdiv_i, wlift_gd, wbind_gd, wlift_pure]
  rw [wgd_t (c _), wgd_t (c _)]
  rw [Int.fdiv_eq_ediv_of_nonneg _ (by omega), Int.fdiv_eq_ediv_of_nonneg _ (by omega)]
  rfl
theorem six_at {m s l : Nat} (hm : m ≤ 1) (hs : s < 4) (hl : l < 999) : ∀ {st : Nat}, st < 6 → ∃ t b : Nat, oix (.list [.tuple [.int (m : Int), .int 1], .tuple [.int (1 + (s : Int)), .int 1], .tuple [.int 1, .int (1 + (1 + (s : Int)))], .tuple [.int (1 + (l : Int)), .int (1000 - (1 + (s : Int)))], .tuple [.int 1, .int (1 + (l : Int))], .tuple [.int (1001 - (1 + (s : Int))), .int (1 + (l : Int))]]) (.int (st : Int)) = wpure (.tuple [.int (t : Int), .int (b : Int)]) ∧ t ≤ 1001 ∧ 0 < b ∧ b ≤ 1001 ∧ (t = m ∨ 0 < t)
  | 0, _ => ⟨m, 1, rfl, by omega, by omega, by omega, .inl rfl⟩
  | 1, _ => ⟨1 + s, 1, by rw [show (((1 + s : Nat)) : Int) = 1 + (s : Int) by omega]; rfl, by omega, by omega, by omega, .inr (by omega)⟩
  | 2, _ => ⟨1, 2 + s, by rw [show (((2 + s : Nat)) : Int) = 1 + (1 + (s : Int)) by omega]; rfl, by omega, by omega, by omega, .inr (by omega)⟩
  | 3, _ => ⟨1 + l, 999 - s, by rw [show (((999 - s : Nat)) : Int) = 1000 - (1 + (s : Int)) by omega, show (((1 + l : Nat)) : Int) = 1 + (l : Int) by omega]; rfl, by omega, by omega, by omega, .inr (by omega)⟩
  | 4, _ => ⟨1, 1 + l, by rw [show (((1 + l : Nat)) : Int) = 1 + (l : Int) by omega]; rfl, by omega, by omega, by omega, .inr (by omega)⟩
  | 5, _ => ⟨1000 - s, 1 + l, by rw [show (((1000 - s : Nat)) : Int) = 1001 - (1 + (s : Int)) by omega, show (((1 + l : Nat)) : Int) = 1 + (l : Int) by omega]; rfl, by omega, by omega, by omega, .inr (by omega)⟩
  | _ + 6, h => by omega
theorem sp_rational {m : Nat} (hm : m ≤ 1) : Sp 3 (F_law_rational (.int (m : Int))) (fun d => NonS d ∧ (m = 1 → PosR d)) := by
  unfold F_law_rational
  simp only [wl_cons, wl_nil, wbind_pure, wbind_bind, apD, ap1]
  refine Sp.mono (sp_rand (m := 2) (by decide) (by decide) fun st hst => ?_) (by decide) fun _ z => z
  refine Sp.mono (sp_rand (m := 1) (by decide) (by decide) fun s hs => ?_) (by decide) fun _ z => z
  simp only [oadd_i, wlift_pure, wbind_pure]
  refine Sp.mono (sp_rand (m := 0) (by decide) (by decide) fun l hl => ?_) (by decide) fun _ z => z
  simp only [oadd_i, osub_i, wlift_pure, wbind_pure]
  obtain ⟨t, b, e, ht, hb, hb2, hp⟩ := six_at hm (show s < 4 by omega) (show l < 999 by omega) (show st < 6 by omega)
  rw [e]
  simp only [wlift_pure, wbind_pure, ix20, ix21, ap2_2]
  rw [lowest_eq hb (Nat.lt_of_le_of_lt hb2 (by decide)), wlift_pure]
  have g0 : 0 < Nat.gcd t b := Nat.gcd_pos_of_pos_right _ hb
  have gc := Nat.coprime_div_gcd_div_gcd g0
  have gb : 0 < b / Nat.gcd t b := Nat.div_pos (Nat.gcd_le_right _ hb) g0
  refine Sp.pure ⟨⟨⟨_, _, rfl, gb, gc⟩, ⟨_, _, rfl, Nat.le_trans (Nat.div_le_self _ _) ht, Nat.le_trans (Nat.div_le_self _ _) hb2⟩⟩, fun e1 => ?_⟩
  have t0 : 0 < t := by omega
  exact ⟨_, _, rfl, Nat.div_pos (Nat.gcd_le_left _ t0) g0, gb, gc⟩
theorem sp_pos : Sp 3 (F_law_rational (.int 1)) PosS := Sp.mono (sp_rational (m := 1) (by decide)) (by decide) fun d h => ⟨h.2 rfl, h.1.2⟩
theorem sp_non : Sp 3 (F_law_rational (.int 0)) NonS := Sp.mono (sp_rational (m := 0) (by decide)) (by decide) fun d h => h.1
/-! ### the parts of a field -/
theorem sp_in {x : Str} {f : PyData → PyData → W DL3 PyData} (hf : ∀ (y : Str) (ch : List (Str × Str × PyData)), ch.length < 1000 → Sp 4 (f (.str y) (.list (ch.map chD))) (fun d => d = .list (ch.map chD) ∨ (∃ w, PosS w ∧ d = .list ((ch ++ [(x, y, w)]).map chD)))) :
    ∀ (ys : List Str) (ch : List (Str × Str × PyData)), ch.length + ys.length ≤ 1000 → Sp (ys.length * 4) (wforn f (ys.map .str) (.list (ch.map chD))) (fun d => ∃ ad : List (Str × PyData), d = .list ((ch ++ ad.map fun p => (x, p.1, p.2)).map chD) ∧ (ad.map (·.1)).Sublist ys ∧ (∀ p ∈ ad, PosS p.2))
  | [], ch, hz => (Sp.pure ⟨[], by simp, .slnil, by simp⟩).mono (by simp) fun _ z => z
  | y :: ys, ch, hz => by
    rw [List.length_cons] at hz
    refine Sp.mono (Sp.bind (m := ys.length * 4) (hf y ch (by omega)) fun d hd => ?_) (by rw [List.length_cons]; omega) fun _ z => z
    rcases hd with rfl | ⟨w, hw, rfl⟩
    · refine (sp_in hf ys ch (by omega)).mono (Nat.le_refl _) fun d hd => ?_
      obtain ⟨ad, e, hs, hp⟩ := hd
      exact ⟨ad, e, hs.cons _, hp⟩
    · refine (sp_in hf ys (ch ++ [(x, y, w)]) (by rw [List.length_append, List.length_singleton]; omega)).mono (Nat.le_refl _) fun d hd => ?_
      obtain ⟨ad, e, hs, hp⟩ := hd
      refine ⟨(y, w) :: ad, by rw [e, List.append_assoc]; rfl, hs.cons_cons _, fun p hm => ?_⟩
      rcases List.mem_cons.mp hm with e | hm
      · rw [e]; exact hw
      · exact hp p hm
def ChS (xs : List Str) (all : List (Str × Str × PyData)) : Prop := (∀ c ∈ all, c.1 ∈ xs ∧ c.2.1 ∈ xs ∧ lts c.1 c.2.1 ∧ PosS c.2.2) ∧ all.Pairwise pairLt
theorem sp_out {nodes : List Str} {g : PyData → PyData → W DL3 PyData} (hs : nodes.Pairwise lts) (hn : nodes.length ≤ 12)
    (hg : ∀ (k : Nat) (x : Str) (suf : List Str) (ch : List (Str × Str × PyData)), nodes.drop k = x :: suf → ch.length ≤ 12 * k → Sp 48 (g (.int (k : Int)) (.list (ch.map chD))) (fun d => ∃ ad : List (Str × PyData), d = .list ((ch ++ ad.map fun p => (x, p.1, p.2)).map chD) ∧ (ad.map (·.1)).Sublist suf ∧ (∀ p ∈ ad, PosS p.2))) :
    ∀ (xs : List Str) (k : Nat) (ch : List (Str × Str × PyData)), nodes.drop k = xs → ch.length ≤ 12 * k → Sp (xs.length * 48) (wforn g ((List.range' k xs.length).map fun i : Nat => PyData.int (i : Int)) (.list (ch.map chD))) (fun d => ∃ all : List (Str × Str × PyData), d = .list ((ch ++ all).map chD) ∧ ChS xs all)
  | [], k, ch, _, hz => (Sp.pure ⟨[], by simp, ⟨by simp, .nil⟩⟩).mono (by simp) fun _ z => z
  | x :: xs, k, ch, hd, hz => by
    rw [List.length_cons, List.range'_succ, List.map_cons]
    refine Sp.mono (Sp.bind (m := xs.length * 48) (hg k x xs ch hd hz) fun d h => ?_) (by omega) fun _ z => z
    obtain ⟨ad, rfl, hsub, hp⟩ := h
    have hd' : nodes.drop (k + 1) = xs := by
      rw [← List.drop_drop, hd]; rfl
    have hpw : (x :: xs).Pairwise lts := by rw [← hd]; exact hs.drop
    have hpw' := List.pairwise_cons.mp hpw
    have hal : ad.length ≤ 12 := by
      have := hsub.length_le
      rw [List.length_map] at this
      have h2 : xs.length ≤ nodes.length := by rw [← hd', List.length_drop]; omega
      omega
    refine (sp_out hs hn hg xs (k + 1) (ch ++ ad.map fun p => (x, p.1, p.2)) hd' (by rw [List.length_append, List.length_map]; omega)).mono (Nat.le_refl _) fun d h => ?_
    obtain ⟨all, e, ⟨h1, h2⟩⟩ := h
    refine ⟨ad.map (fun p => (x, p.1, p.2)) ++ all, by rw [e, List.append_assoc], ⟨fun c hc => ?_, ?_⟩⟩
    · rcases List.mem_append.mp hc with hc | hc
      · obtain ⟨p, hpm, rfl⟩ := List.mem_map.mp hc
        have hm : p.1 ∈ xs := hsub.subset (List.mem_map_of_mem hpm)
        exact ⟨List.mem_cons_self, List.mem_cons_of_mem _ hm, hpw'.1 _ hm, hp p hpm⟩
      · obtain ⟨q1, q2, q3, q4⟩ := h1 c hc
        exact ⟨List.mem_cons_of_mem _ q1, List.mem_cons_of_mem _ q2, q3, q4⟩
    · refine List.pairwise_append.mpr ⟨?_, h2, fun c hc c' hc' => ?_⟩
      · have hps : (ad.map (·.1)).Pairwise lts := hpw'.2.sublist hsub
        rw [List.pairwise_map] at hps ⊢
        exact hps.imp fun h => .inr ⟨rfl, h⟩
      · obtain ⟨p, hpm, rfl⟩ := List.mem_map.mp hc
        exact .inl (hpw'.1 _ (h1 c' hc').1)
/-- the parts of a valid field, small numbers -/
structure FS (f : FD) : Prop where
  ok : f.Ok
  cv : ∀ c ∈ f.cs, Sm c.2
  sv : ∀ c ∈ f.ss, Sm c.2
  wv : ∀ c ∈ f.ch, Sm c.2.2
  z : f.cs.length + f.ss.length ≤ 12
  zc : f.cs.length ≤ 8
  zs : f.ss.length ≤ 4
  zh : f.ch.length ≤ 30
theorem sp_entries {m : Nat} {F : W DL3 PyData} {P : PyData → Prop} {ys : List Str} (hF : Sp 3 F P) (hz : ys.length ≤ 12) : Sp 36 (wmapS (fun x => wbind F fun d => wbind (wpure []) fun ds => wpure (PyData.tuple (x :: d :: ds))) (ys.map .str)) (fun d => ∃ cs : List (Str × PyData), d = .list (cs.map ent) ∧ cs.map (·.1) = ys ∧ ∀ c ∈ cs, P c.2) := by
  refine Sp.mono (Sp.mapS (n := 3) (R := fun x d => ∃ v, P v ∧ d = PyData.tuple [x, v]) (by rw [List.length_map]; have := hs1; omega) fun x hx => ?_) (by rw [List.length_map]; omega) fun d hd => ?_
  · exact Sp.mono (Sp.bind (R := fun d => ∃ v, P v ∧ d = PyData.tuple [x, v]) hF fun v hv => by exact Sp.pure ⟨v, hv, rfl⟩) (show 3 + 0 ≤ 3 by decide) fun _ z => z
  · obtain ⟨es, e, hp⟩ := hd
    obtain ⟨cs, h1, h2, h3⟩ := ents_of hp
    exact ⟨cs, by rw [e, h2], h1, h3⟩
theorem dens_at : ∀ {st : Nat}, st < 3 → ∃ v : Int, oix (.list [.int 1, .int 2, .int 4]) (.int (st : Int)) = wpure (.int v)
  | 0, _ => ⟨1, rfl⟩
  | 1, _ => ⟨2, rfl⟩
  | 2, _ => ⟨4, rfl⟩
  | _ + 3, h => by omega
theorem sp_parts : Sp 1000 F_law_parts (fun d => ∃ f : FD, d = f.d ∧ FS f) := by
  unfold F_law_parts
  have hs := hs1
  simp only [wl_cons, wl_nil, wbind_pure, wbind_bind, apD, ap1]
  refine Sp.mono (sp_rand (m := 990) (by decide) (by decide) fun c hc => ?_) (by decide) fun _ z => z
  refine Sp.mono (sp_rand (m := 980) (by decide) (by decide) fun sn hsn => ?_) (by decide) fun _ z => z
  refine Sp.mono (sp_rand (m := 970) (by decide) (by decide) fun den hden => ?_) (by decide) fun _ z => z
  have hc : c ≤ 8 := by omega
  have hsn : sn ≤ 4 := by omega
  obtain ⟨dv, hdv⟩ := dens_at (st := den) (by omega)
  simp only [oadd_i, wlift_pure, wbind_pure]
  rw [show (c : Int) + (sn : Int) = ((c + sn : Nat) : Int) by omega]
  refine Sp.mono (Sp.bind (m := 960) (sp_names (n := c + sn) (by omega)) fun dn hdn => ?_) (by decide) fun _ z => z
  obtain ⟨L, rfl, hL, hLn, hLo⟩ := hdn
  simp only [toI_g, wbind_pure, osl_l, wlift_pure, PL.cutD_to, PL.cutD_from, ← List.map_take, ← List.map_drop]
  have nt : (L.take c).Nodup := hLn.sublist (List.take_sublist _ _)
  have nd : (L.drop c).Nodup := hLn.sublist (List.drop_sublist _ _)
  have hnn : (L.take c ++ L.drop c).Nodup := by rw [List.take_append_drop]; exact hLn
  refine Sp.ev (Ev.lift (ev_sorted (by rw [List.length_take]; omega) nt)) fun d hd => ?_
  obtain ⟨y1, rfl, hp1, hs1'⟩ := hd
  have l1 : y1.length = c := by rw [hp1.length_eq, List.length_take]; omega
  simp only [wseq_l, wlift_pure, wbind_pure]
  refine Sp.mono (Sp.bind (m := 900) (sp_entries (m := 0) (P := PosS) (F := F_law_rational (.int 1)) sp_pos (by omega)) fun d hd => ?_) (by decide) fun _ z => z
  obtain ⟨cs, rfl, hc1, hc2⟩ := hd
  simp only [otuple_l, wlift_pure, wbind_pure]
  refine Sp.ev (Ev.lift (ev_sorted (by rw [List.length_drop]; omega) nd)) fun d hd => ?_
  obtain ⟨y2, rfl, hp2, hs2'⟩ := hd
  have l2 : y2.length = sn := by rw [hp2.length_eq, List.length_drop]; omega
  simp only [wseq_l, wlift_pure, wbind_pure]
  refine Sp.mono (Sp.bind (m := 800) (sp_entries (m := 0) (P := NonS) (F := F_law_rational (.int 0)) sp_non (by omega)) fun d hd => ?_) (by decide) fun _ z => z
  obtain ⟨ss, rfl, hss1, hss2⟩ := hd
  simp only [otuple_l, wlift_pure, wbind_pure]
  refine Sp.ev (Ev.lift (ev_sorted (by omega) hLn)) fun d hd => ?_
  obtain ⟨nodes, rfl, hnp, hns⟩ := hd
  have hnl : nodes.length = c + sn := by rw [hnp.length_eq]; exact hL
  simp only [olen_l, wlift_pure, wbind_pure, List.length_map, wrange1_i, wlift_gd, wbind_gd]
  refine Sp.gd (rngOk (by omega)) ?_
  rw [Int.toNat_natCast, rangeD_z, List.range_eq_range']
  refine Sp.mono (Sp.bind (n := 576) (m := 0) (P := fun d => ∃ all : List (Str × Str × PyData), d = .list (all.map chD) ∧ ChS nodes all) ?_ fun d hd => ?_) (by decide) fun _ z => z
  · refine (sp_out (nodes := nodes) hns (by omega) ?_ nodes 0 [] rfl (by simp)).mono (by omega) fun d ⟨all, e, h1⟩ => ⟨all, e, h1⟩
    intro k x suf ch hdk hz
    have hkl : k < nodes.length := by
      have := congrArg List.length hdk
      rw [List.length_drop, List.length_cons] at this
      omega
    have hdk' : nodes.drop (k + 1) = suf := by rw [← List.drop_drop, hdk]; rfl
    have hsl : suf.length ≤ 12 := by rw [← hdk', List.length_drop]; omega
    have hxk : nodes[k] = x := by
      have := List.drop_eq_getElem_cons hkl
      rw [hdk] at this
      exact (List.head_eq_of_cons_eq this).symm
    have hix : oix (.list (nodes.map .str)) (.int (k : Int)) = wpure (.str x) := by
      rw [oix_l, PL.atI_nat, List.getElem?_map, List.getElem?_eq_getElem hkl, hxk]; rfl
    simp only [oadd_i, toI_g, osl_l, wlift_pure, wbind_pure, wbind_bind, wseq_l]
    rw [show (k : Int) + 1 = ((k + 1 : Nat) : Int) by omega, cutD_from, ← List.map_drop, hdk']
    simp only [wbind_ret]
    refine (sp_in (x := x) ?_ suf ch (by omega)).mono (by omega) fun d h => h
    intro y ch hz
    simp only [wbind_ret, wite_eq, wB_eq, wbind_bind]
    refine Sp.mono (sp_rand (m := 3) (by decide) (by decide) fun r hr => ?_) (by decide) fun _ z => z
    simp only [hdv, olt_i, wlift_pure, wbind_pure, wbind_bind, toB_bool, wbind_cond]
    refine Sp.cond (fun _ => ?_) fun _ => (Sp.pure (.inl rfl)).mono (by omega) fun _ z => z
    simp only [hix, wapp_eq, wlift_pure, wbind_pure, wbind_bind]
    refine Sp.mono (Sp.bind (m := 0) sp_pos fun v hv => ?_) (by decide) fun _ z => z
    exact Sp.gd (by rw [List.length_map]; omega) (Sp.pure (.inr ⟨v, hv, by rw [List.map_append]; rfl⟩))
  obtain ⟨all, rfl, hch⟩ := hd
  have e30 : PL.cutD (all.map chD) none (some 30) = (all.take 30).map chD := by
    rw [show (30 : Int) = ((30 : Nat) : Int) from rfl, PL.cutD_to, List.map_take]
  simp only [osl_l, wlift_pure, wbind_pure, otuple_l, e30]
  have hcl : cs.length = c := by rw [← l1, ← hc1, List.length_map]
  have hsl2 : ss.length = sn := by rw [← l2, ← hss1, List.length_map]
  have hmem : ∀ x, x ∈ nodes ↔ x ∈ y1 ++ y2 := fun x => by
    rw [hnp.mem_iff, List.mem_append, hp1.mem_iff, hp2.mem_iff, ← List.mem_append, List.take_append_drop]
  have hcn : (FD.mk cs ss (all.take 30)).cn = y1 := hc1
  have hsn' : (FD.mk cs ss (all.take 30)).sn = y2 := hss1
  have hct : ∀ q ∈ all.take 30, q ∈ all := fun q hq => List.mem_of_mem_take hq
  refine Sp.pure ⟨⟨cs, ss, all.take 30⟩, rfl, ?_, fun q h => (hc2 q h).2, fun q h => (hss2 q h).2, fun q h => (hch.1 q (hct q h)).2.2.2.2, by show cs.length + ss.length ≤ 12; omega, by show cs.length ≤ 8; omega, by show ss.length ≤ 4; omega, by show (all.take 30).length ≤ 30; rw [List.length_take]; omega⟩
  constructor
  · rw [hcn]; exact hs1'
  · rw [hsn']; exact hs2'
  · rw [hcn, hsn']
    intro x hx hx'
    exact (List.nodup_append.mp hnn).2.2 x (hp1.mem_iff.mp hx) x (hp2.mem_iff.mp hx') rfl
  · rw [hcn, hsn']
    intro x hx
    exact hLo x (hnp.mem_iff.mp ((hmem x).mpr hx))
  · exact fun q h => (hc2 q h).1
  · exact fun q h => (hss2 q h).1
  · rw [hcn, hsn']
    intro q hq
    obtain ⟨q1, q2, q3, q4⟩ := hch.1 q (hct q hq)
    exact ⟨(hmem _).mp q1, (hmem _).mp q2, q3, q4.1⟩
  · exact hch.2.sublist (List.take_sublist _ _)
  · show cs.length ≤ 12; omega
  · show ss.length ≤ 24; omega
  · show (all.take 30).length ≤ 300
    rw [List.length_take]; omega
end Lw

namespace Lw
open PySem PySem.Spec PyProof.Rows L2 PL
/-! ### what is asked for: texts, and things that are no texts -/
theorem low_all : ∀ c ∈ tx_abc.cps.toList, c < 128 := by
  have h : ∀ c ∈ tx_abc.cps.toList, c < 128 := by decide +kernel
  exact h
theorem okS_name {x : Str} (h : nameOk x) : okS x = true := by
  unfold okS
  rw [List.all_eq_true]
  intro c hc
  have := low_all c (of_decide_eq_true (List.all_eq_true.mp h.2.2 c hc))
  exact decide_eq_true this
theorem strOk_S {x : Str} (h : okS x = true) : PyData.strOk x = true := by
  unfold PyData.strOk
  rw [← Array.all_toList, List.all_eq_true]
  intro c hc
  have := of_decide_eq_true (List.all_eq_true.mp h c hc)
  exact decide_eq_true (by omega)
theorem strOk_name {x : Str} (h : nameOk x) : PyData.strOk x = true := strOk_S (okS_name h)
def eqN (x : Str) : PyData → Bool
  | .str y => decide (x = y)
  | _ => false
theorem sh_str {x : Str} (h : PyData.strOk x = true) : SeqAt.shaped (.str x) = true := by
  unfold SeqAt.shaped
  simp only [PyData.canLay0, PyData.depth, h, Bool.true_and]
  exact decide_eq_true (by omega)
theorem strs_lay : ∀ {xs : List Str}, (∀ x ∈ xs, nameOk x) → PyData.canLayAll0 (xs.map .str) = true ∧ PyData.depthAll (xs.map .str) ≤ 0
  | [], _ => ⟨by simp [PyData.canLayAll0], by simp [PyData.depthAll]⟩
  | x :: xs, h => by
    obtain ⟨h1, h2⟩ := strs_lay fun y hy => h y (List.mem_cons_of_mem _ hy)
    constructor
    · rw [List.map_cons]
      simp only [PyData.canLayAll0, PyData.canLay0, h1, strOk_name (h x List.mem_cons_self), Bool.and_self]
    · rw [List.map_cons]
      simp only [PyData.depthAll, PyData.depth]
      exact Nat.max_le.mpr ⟨Nat.le_refl _, h2⟩
theorem sh_strs {xs : List Str} (h : ∀ x ∈ xs, nameOk x) : SeqAt.shaped (.list (xs.map .str)) = true := by
  obtain ⟨h1, h2⟩ := strs_lay h
  unfold SeqAt.shaped
  simp only [PyData.canLay0, PyData.depth, h1, Bool.true_and]
  exact decide_eq_true (by omega)
structure Odd (d : PyData) : Prop where
  eq : ∀ x, nameOk x → oeqA (.str x) d = wpure (.bool false)
  nq : ∀ x, eqN x d = false
  ty : isTy "str" d = wpure (.bool false)
  ni : ∀ xs : List Str, (∀ x ∈ xs, nameOk x) → onotinA d (.list (xs.map .str)) = wpure (.bool true)
  it : It 1 4010 d
theorem odd_of {d : PyData} (h1 : ∀ x, oeqA (.str x) d = oeq (.str x) d) (h2 : ∀ l, onotinA d (.list l) = onotinQ d (.list l)) (h3 : ∀ x, oeq (.str x) d = wreq (eqOk (.str x) d) (.bool (PyData.eqv (.str x) d))) (hs : SeqAt.shaped d = true) (he : ∀ x, PyData.eqv (.str x) d = false) (nq : ∀ x, eqN x d = false) (ty : isTy "str" d = wpure (.bool false)) (it : It 1 4010 d) : Odd d where
  eq := fun x hx => by
    rw [h1, h3, wreq_gd, wgd_t ⟨sh_str (strOk_name hx), hs⟩, he]
  nq := nq
  ty := ty
  ni := fun xs hx => by
    rw [h2]
    show wreq (SeqAt.shaped d = true ∧ SeqAt.shaped (.list (xs.map .str)) = true) _ = _
    rw [wreq_gd, wgd_t ⟨hs, sh_strs hx⟩]
    have : ((xs.map PyData.str).any fun z => PyData.eqv z d) = false := by
      rw [List.any_eq_false]
      intro z hz
      obtain ⟨x, _, rfl⟩ := List.mem_map.mp hz
      rw [he]; exact Bool.false_ne_true
    rw [this]; rfl
  it := it
theorem isTy_n : isTy "str" .none = wpure (.bool false) := by
  unfold isTy
  show wopt (some "NoneType") _ = _
  rw [wopt_some, kit2.1]; rfl
theorem isTy_b {b : Bool} : isTy "str" (.bool b) = wpure (.bool false) := by
  unfold isTy
  show wopt (some "bool") _ = _
  rw [wopt_some, kit2.2.1]; rfl
theorem isTy_i {i : Int} : isTy "str" (.int i) = wpure (.bool false) := by
  unfold isTy
  show wopt (some "int") _ = _
  rw [wopt_some, kit2.2.2.1]; rfl
theorem isTy_l {l : List PyData} : isTy "str" (.list l) = wpure (.bool false) := by
  unfold isTy
  show wopt (some "list") _ = _
  rw [wopt_some, kit2.2.2.2.2.1]; rfl
theorem isTy_t {l : List PyData} : isTy "str" (.tuple l) = wpure (.bool false) := by
  unfold isTy
  show wopt (some "tuple") _ = _
  rw [wopt_some, kit2.2.2.2.2.2.1]; rfl
theorem isTy_d : isTy "str" (.dict []) = wpure (.bool false) := by
  unfold isTy
  show wopt (some "dict") _ = _
  rw [wopt_some, kit2.2.2.2.2.2.2]; rfl
theorem it_a : It 0 14 (.str tx_a) := It.str (n := 1) (by decide +kernel) (by decide +kernel)
theorem it_0 : It 0 2000 (.int 0) := It.int (by decide)
theorem it_1 : It 0 2000 (.int 1) := It.int (by decide)
theorem isK0 : isK [] := fun e he => by cases he
theorem eqN_s (x y : Str) : eqN x (.str y) = decide (x = y) := rfl
def oddL : List PyData := [.none, .bool true, .int 0, .tuple [.str tx_a], .list [], .list [.str tx_a], .dict [], .tuple [.int 0, .int 1]]
theorem odd_all : ∀ d ∈ oddL, Odd d := by
  intro d hd
  unfold oddL at hd
  simp only [List.mem_cons, List.not_mem_nil, or_false] at hd
  rcases hd with rfl | rfl | rfl | rfl | rfl | rfl | rfl | rfl
  · exact odd_of (fun _ => rfl) (fun _ => rfl) (fun _ => rfl) (by decide +kernel) (fun x => by simp only [PyData.eqv]) (fun _ => rfl) isTy_n (It.non.up (by omega) (by omega))
  · exact odd_of (fun _ => rfl) (fun _ => rfl) (fun _ => rfl) (by decide +kernel) (fun x => by simp only [PyData.eqv]) (fun _ => rfl) isTy_b ((It.bool _).up (by omega) (by omega))
  · exact odd_of (fun _ => rfl) (fun _ => rfl) (fun _ => rfl) (by decide +kernel) (fun x => by simp only [PyData.eqv]) (fun _ => rfl) isTy_i (it_0.up (by omega) (by omega))
  · exact odd_of (fun _ => rfl) (fun _ => rfl) (fun _ => rfl) (by decide +kernel) (fun x => by simp only [PyData.eqv]) (fun _ => rfl) isTy_t ((It.tup (ItL.one it_a)).up (by omega) (by omega))
  · exact odd_of (fun _ => rfl) (fun _ => rfl) (fun _ => rfl) (by decide +kernel) (fun x => by simp only [PyData.eqv]) (fun _ => rfl) isTy_l ((It.lst ItL.nil).up (by omega) (by omega))
  · exact odd_of (fun _ => rfl) (fun _ => rfl) (fun _ => rfl) (by decide +kernel) (fun x => by simp only [PyData.eqv]) (fun _ => rfl) isTy_l ((It.lst (ItL.one it_a)).up (by omega) (by omega))
  · refine ⟨fun x hx => ?_, fun _ => rfl, isTy_d, fun xs hx => ?_, It.dic.up (by omega) (by omega)⟩
    · show wreq (isK []) _ = _
      rw [wreq_gd, wgd_t isK0]
    · show wopt (strsOf _) _ = _
      rw [strsOf_map, wopt_some, wreq_gd, wgd_t isK0]
  · exact odd_of (fun _ => rfl) (fun _ => rfl) (fun _ => rfl) (by decide +kernel) (fun x => by simp only [PyData.eqv]) (fun _ => rfl) isTy_t ((It.tup (ItL.cons it_0 (ItL.one it_1))).up (by omega) (by omega))
/-- an item that is asked for -/
def KI (d : PyData) : Prop := (∃ x, d = .str x ∧ okS x = true ∧ x.length ≤ 9) ∨ Odd d
theorem KI.it {d : PyData} (h : KI d) : It 1 4010 d := by
  rcases h with ⟨x, rfl, h1, h2⟩ | h
  · exact (It.str h1 h2).up (by omega) (by omega)
  · exact h.it
theorem KI.eq {d : PyData} (h : KI d) {x : Str} (hx : nameOk x) : oeqA (.str x) d = wpure (.bool (eqN x d)) := by
  rcases h with ⟨y, rfl, h1, h2⟩ | h
  · rfl
  · rw [h.eq x hx, h.nq]
def inN (xs : List Str) : PyData → Bool
  | .str y => decide (y ∈ xs)
  | _ => false
theorem odd_ns {d : PyData} (h : Odd d) : ∀ xs, inN xs d = false := fun xs => by
  unfold inN
  split
  · rename_i y
    have := h.nq y
    unfold eqN at this
    simp at this
  · rfl
theorem KI.ni {d : PyData} (h : KI d) {xs : List Str} (hx : ∀ x ∈ xs, nameOk x) : onotinA d (.list (xs.map .str)) = wpure (.bool (!inN xs d)) := by
  rcases h with ⟨y, rfl, h1, h2⟩ | h
  · have e0 : onotinA (.str y) (.list (xs.map .str)) = onotinQ (.str y) (.list (xs.map .str)) := rfl
    rw [e0]
    show wreq (SeqAt.shaped (.str y) = true ∧ SeqAt.shaped (.list (xs.map .str)) = true) _ = _
    rw [wreq_gd, wgd_t ⟨sh_str (strOk_S h1), sh_strs hx⟩]
    have e : ((xs.map PyData.str).any fun z => PyData.eqv z (.str y)) = decide (y ∈ xs) := by
      rw [List.any_map]
      show (xs.any fun x => PyData.eqv (.str x) (.str y)) = _
      by_cases hm : y ∈ xs
      · rw [decide_eq_true hm, List.any_eq_true]
        exact ⟨y, hm, by rw [eqv_s]; exact beq_self_eq_true y⟩
      · rw [decide_eq_false hm, List.any_eq_false]
        intro x hxm
        rw [eqv_s]
        intro e
        exact hm (by rw [← (beq_iff_eq.mp e)]; exact hxm)
    rw [e]; rfl
  · rw [h.ni xs hx, odd_ns h]; rfl
/-! ### entries of a name -/
def sel (cs : List (Str × PyData)) (d : PyData) : List PyData := cs.filterMap fun c => if eqN c.1 d = true then some c.2 else none
theorem sel_none {cs : List (Str × PyData)} {x : Str} (h : x ∉ cs.map (·.1)) : sel cs (.str x) = [] := by
  unfold sel
  rw [List.filterMap_eq_nil_iff]
  intro c hc
  have : c.1 ≠ x := fun e => h (by rw [← e]; exact List.mem_map_of_mem hc)
  show (if decide (c.1 = x) = true then _ else _) = _
  rw [decide_eq_false this]; rfl
theorem sel_odd {cs : List (Str × PyData)} {d : PyData} (h : Odd d) : sel cs d = [] := by
  unfold sel
  rw [List.filterMap_eq_nil_iff]
  intro c hc
  rw [h.nq]; rfl
theorem sel_some : ∀ {cs : List (Str × PyData)} {c : Str × PyData}, (cs.map (·.1)).Nodup → c ∈ cs → sel cs (.str c.1) = [c.2]
  | e :: cs, c, hn, hc => by
    rw [List.map_cons, List.nodup_cons] at hn
    rcases List.mem_cons.mp hc with rfl | hc
    · have h1 := sel_none hn.1
      unfold sel at h1 ⊢
      rw [List.filterMap_cons]
      rw [eqN_s, decide_eq_true rfl, if_pos rfl, h1]
    · have h1 := sel_some hn.2 hc
      have : e.1 ≠ c.1 := fun z => hn.1 (by rw [z]; exact List.mem_map_of_mem hc)
      unfold sel at h1 ⊢
      rw [List.filterMap_cons]
      rw [eqN_s, decide_eq_false this, if_neg Bool.false_ne_true]
      exact h1
theorem sel_perm {cs cs' : List (Str × PyData)} (hp : cs.Perm cs') (hn : (cs.map (·.1)).Nodup) (y : Str) : sel cs (.str y) = sel cs' (.str y) := by
  have hn' := ((hp.map (·.1)).nodup_iff).mp hn
  by_cases h : y ∈ cs.map (·.1)
  · obtain ⟨c, hc, rfl⟩ := List.mem_map.mp h
    rw [sel_some hn hc, sel_some hn' (hp.mem_iff.mp hc)]
  · rw [sel_none h, sel_none (fun h2 => h (((hp.map (·.1)).mem_iff).mpr h2))]
theorem sel_mem {cs : List (Str × PyData)} {d v : PyData} (h : v ∈ sel cs d) : ∃ c ∈ cs, c.2 = v := by
  unfold sel at h
  obtain ⟨c, hc, e⟩ := List.mem_filterMap.mp h
  split at e
  · exact ⟨c, hc, by injection e⟩
  · cases e
theorem onotin_kv {ps : List (Str × PyData)} {x : Str} : onotin (.str x) (.dict (ps.map kv)) = wpure (.bool (!decide (x ∈ ps.map (·.1)))) := by
  show wreq _ _ = _
  rw [wreq_gd, wgd_t ⟨isK_kv _, rfl⟩, dHas_kv]
theorem oix_kv {ps : List (Str × PyData)} {p : Str × PyData} (hn : (ps.map (·.1)).Nodup) (hp : p ∈ ps) : oix (.dict (ps.map kv)) (.str p.1) = wpure p.2 := by
  show wopt (dGet _ _) _ = _
  rw [dGet_kv hn hp, wopt_some, wreq_gd, wgd_t ⟨isK_kv _, rfl⟩]
/-! ### the program's queries -/
def unk (d : PyData) : PyData := errD tx_h99a8e6 [(.str tx_name, d)]
theorem fe_unk {d : PyData} : errD tx_h99a8e6 (feI1 tx_name [d]) = unk d := rfl
theorem isErr_unk {d : PyData} : isErr (unk d) = true := rfl
def hdOr (l : List PyData) (d : PyData) : PyData := match l with | v :: _ => v | [] => d
section
variable {S : Type} {f : FD} {t s d : PyData}
theorem fld_thick : wfld (S := S) "Field" "thickness_by_cell" (netOf f t s) = wpure t := by
  have e : fGet "thickness_by_cell" (netF f t s) = some t := by
    unfold netF
    rw [fGet, if_neg fn2.2.1, fGet, if_neg fn2.2.2.1, fGet, if_neg fn2.2.2.2, fGet, if_pos rfl]
  exact wfld_get e
theorem fn4 : ("start_by_spring" : Str) ≠ "cells" ∧ ("start_by_spring" : Str) ≠ "springs" ∧ ("start_by_spring" : Str) ≠ "channels" ∧ ("start_by_spring" : Str) ≠ "thickness_by_cell" := by decide +kernel
theorem fld_start : wfld (S := S) "Field" "start_by_spring" (netOf f t s) = wpure s := by
  have e : fGet "start_by_spring" (netF f t s) = some s := by
    unfold netF
    rw [fGet, if_neg fn4.1, fGet, if_neg fn4.2.1, fGet, if_neg fn4.2.2.1, fGet, if_neg fn4.2.2.2, fGet, if_pos rfl]
  exact wfld_get e
theorem fnc : ("channels" : Str) ≠ "cells" ∧ ("channels" : Str) ≠ "springs" := by decide +kernel
theorem fld_chan : wfld (S := S) "Field" "channels" (netOf f t s) = wpure (.tuple (f.ch.map chD)) := by
  have e : fGet "channels" (netF f t s) = some (.tuple (f.ch.map chD)) := by
    unfold netF
    rw [fGet, if_neg fnc.1, fGet, if_neg fnc.2, fGet, if_pos rfl]
  exact wfld_get e
theorem is_xthick (ok : f.Ok) (hd : KI d) : Is (X_Field_thickness (netV f) d) (hdOr (sel f.cs d) (unk d)) := by
  unfold X_Field_thickness netV
  have hn : (f.cs.map (·.1)).Nodup := ok.c1.imp fun h => lts_ne h
  simp only [wbind_pure, wbind_bind, wl_cons, wl_nil, wlift_pure, wite_eq, wB_eq, wnot_eq, wor_eq, fld_thick, wnx_eq, wret_eq, fe_unk]
  rcases hd with ⟨x, rfl, h1, h2⟩ | hd
  · simp only [isTy_ss, onotin_kv, wlift_pure, wbind_pure, toB_bool, Bool.not_true, wcond_f, wbind_cond]
    by_cases hx : x ∈ f.cs.map (·.1)
    · obtain ⟨c, hc, rfl⟩ := List.mem_map.mp hx
      rw [decide_eq_true hx, sel_some hn hc, oix_kv hn hc]
      exact Is.pure
    · rw [decide_eq_false hx, sel_none hx]
      exact Is.pure
  · simp only [hd.ty, wlift_pure, wbind_pure, toB_bool, Bool.not_false, wcond_t]
    rw [sel_odd hd]
    exact Is.pure
theorem is_xstart (ok : f.Ok) (hd : KI d) : Is (X_Field_start (netV f) d) (hdOr (sel f.ss d) (unk d)) := by
  unfold X_Field_start netV
  have hn : (f.ss.map (·.1)).Nodup := ok.s1.imp fun h => lts_ne h
  simp only [wbind_pure, wbind_bind, wl_cons, wl_nil, wlift_pure, wite_eq, wB_eq, wnot_eq, wor_eq, fld_start, wnx_eq, wret_eq, fe_unk]
  rcases hd with ⟨x, rfl, h1, h2⟩ | hd
  · simp only [isTy_ss, onotin_kv, wlift_pure, wbind_pure, toB_bool, Bool.not_true, wcond_f, wbind_cond]
    by_cases hx : x ∈ f.ss.map (·.1)
    · obtain ⟨c, hc, rfl⟩ := List.mem_map.mp hx
      rw [decide_eq_true hx, sel_some hn hc, oix_kv hn hc]
      exact Is.pure
    · rw [decide_eq_false hx, sel_none hx]
      exact Is.pure
  · simp only [hd.ty, wlift_pure, wbind_pure, toB_bool, Bool.not_false, wcond_t]
    rw [sel_odd hd]
    exact Is.pure
theorem is_xreq (hd : KI d) : Is (X_Field_require_node (netV f) d) (if inN (f.cn ++ f.sn) d = true then .none else unk d) := by
  unfold X_Field_require_node netV
  simp only [wbind_pure, wbind_bind, wl_cons, wl_nil, wlift_pure, wite_eq, wB_eq, wnot_eq, wor_eq, fld_widths, wnx_eq, wret_eq, fe_unk]
  rcases hd with ⟨x, rfl, h1, h2⟩ | hd
  · have e2 : onotin (.str x) (.dict (netD (f.cn ++ f.sn) (adj f.ch))) = wpure (.bool (!decide (x ∈ f.cn ++ f.sn))) := by
      show wreq _ _ = _
      rw [wreq_gd, wgd_t ⟨by rw [netD_kv]; exact isK_kv _, rfl⟩, netD_kv, dHas_kv, netD_names]
    simp only [isTy_ss, e2, wlift_pure, wbind_pure, toB_bool, Bool.not_true, wcond_f, wbind_cond]
    show Is _ (if decide (x ∈ f.cn ++ f.sn) = true then _ else _)
    cases decide (x ∈ f.cn ++ f.sn) with
    | true => exact Is.pure
    | false => exact Is.pure
  · simp only [hd.ty, wlift_pure, wbind_pure, toB_bool, Bool.not_false, wcond_t]
    rw [odd_ns hd]
    exact Is.pure
end
end Lw

namespace Lw
open PySem PySem.Spec PyProof.Rows L2 PL
/-! ### neighbours in order -/
def NbS (f : FD) (x : Str) (ps : List (Str × PyData)) : Prop := ps.Perm (nbs f x) ∧ (ps.map (·.1)).Pairwise lts
theorem lts_as (x y : Str) : lts x y → lts y x → False := fun h g => lts_irr x (lts_tr h g)
theorem sorted_uniqQ {α : Type} {r : α → α → Prop} (has : ∀ x y, r x y → r y x → False) : ∀ {xs ys : List α}, xs.Perm ys → xs.Pairwise r → ys.Pairwise r → xs = ys
  | [], ys, hp, _, _ => (List.nil_perm.mp hp).symm
  | x :: xs, [], hp, _, _ => absurd (List.perm_nil.mp hp) (by simp)
  | x :: xs, y :: ys, hp, h1, h2 => by
    have h1' := List.pairwise_cons.mp h1
    have h2' := List.pairwise_cons.mp h2
    have e : x = y := by
      rcases List.mem_cons.mp (hp.mem_iff.mp List.mem_cons_self) with e | hx
      · exact e
      · rcases List.mem_cons.mp (hp.mem_iff.mpr List.mem_cons_self) with e | hy
        · exact e.symm
        · exact (has x y (h1'.1 y hy) (h2'.1 x hx)).elim
    subst e
    rw [sorted_uniqQ has (List.perm_cons x |>.mp hp) h1'.2 h2'.2]
theorem NbS.uniq {f : FD} {x : Str} {ps qs : List (Str × PyData)} (h : NbS f x ps) (g : NbS f x qs) : ps = qs :=
  sorted_uniqQ (r := fun a b : Str × PyData => lts a.1 b.1) (fun a b => lts_as a.1 b.1) (h.1.trans g.1.symm) (List.pairwise_map.mp h.2) (List.pairwise_map.mp g.2)
section
variable {f : FD} {x y : Str} {d : PyData}
theorem ev_sortKs {ps : List (Str × PyData)} (hn : (ps.map (·.1)).Nodup) (hz : ps.length < 64) : Ev (osorted [.dict (ps.map kv)]) (fun d => ∃ ys : List Str, d = .list (ys.map .str) ∧ ys.Perm (ps.map (·.1)) ∧ ys.Pairwise lts) := fun s Q q =>
  ⟨ps.map (·.1), by rw [List.map_map, List.map_map]; rfl, by rw [List.length_map]; exact hz, fun ys hp hs => q _ ⟨ys, rfl, hp, sorted_pair hs (hp.nodup_iff.mpr hn)⟩⟩
theorem ev_sortEs {ps : List (Str × PyData)} (hn : (ps.map (·.1)).Nodup) : Ev (osorted [.list (ps.map ent)]) (fun d => ∃ ys : List (Str × PyData), d = .list (ys.map ent) ∧ ys.Perm ps ∧ (ys.map (·.1)).Pairwise lts) := fun s Q q =>
  Or.inr ⟨1, by decide, fun d hd => by
    obtain ⟨p, _, rfl⟩ := List.mem_map.mp hd
    rfl, by
    rw [List.map_map]
    have e : (tkey 1 ∘ ent : Str × PyData → List Str) = (fun x => [x]) ∘ (fun p : Str × PyData => p.1) := rfl
    rw [e, ← List.map_map]
    exact List.pairwise_map.mpr (hn.imp fun h e => h (List.head_eq_of_cons_eq e)), fun es hp hs => by
    obtain ⟨ys, rfl, hy⟩ := ent_back hp
    have nq : (ys.map (·.1)).Nodup := ((hy.map (·.1)).nodup_iff).mpr hn
    have h1 : ys.Pairwise fun a b : Str × PyData => lexS [b.1] [a.1] = false := List.pairwise_map.mp hs
    have h2 : ys.Pairwise fun a b : Str × PyData => lts a.1 b.1 := by
      have h3 : ys.Pairwise fun a b : Str × PyData => a.1 ≠ b.1 := List.pairwise_map.mp nq
      refine (h1.and h3).imp fun {a b} h => ?_
      have h4 := h.1
      unfold lexS at h4
      rw [if_neg (fun e => h.2 e.symm)] at h4
      exact ltSt_tri (fun e => h.2 e.symm) h4
    exact q _ ⟨ys, rfl, hy, List.pairwise_map.mpr h2⟩⟩
/-- what neighbors gives -/
def NbR (f : FD) (d r : PyData) : Prop := (∃ x ps, d = .str x ∧ x ∈ f.cn ++ f.sn ∧ NbS f x ps ∧ r = .tuple (ps.map ent)) ∨ (inN (f.cn ++ f.sn) d = false ∧ r = unk d)
theorem inN_str {xs : List Str} {d : PyData} (h : inN xs d = true) : ∃ x, d = .str x ∧ x ∈ xs := by
  unfold inN at h
  split at h
  · exact ⟨_, rfl, of_decide_eq_true h⟩
  · cases h
theorem wobj_ok {S : Type} {nm m : Str} {o : PyData} {k : W S PyData} (h : isObj nm m o) : wobj nm m o k = k := by
  funext s Q
  exact propext ⟨fun x => x.2, fun x => ⟨h, x⟩⟩
theorem wdct_ok {S : Type} {ps : List (Str × PyData)} {k : W S PyData} : wdct (.dict (ps.map kv)) k = k := by
  funext s Q
  exact propext ⟨fun x => x.2, fun x => ⟨.inl (isK_kv _), x⟩⟩
theorem wendA_rt {S α : Type} {d : PyData} : wendA (S := S) (α := α) (wpure (.rt d)) = wpure d := (rfl)
theorem wxt_eq {S α : Type} {w : W S PyData} {kk : PyData → W S (Fl α)} : wxt w kk = wbind w fun d => wcond (isErr d) (wpure (.rt d)) (kk d) := (rfl)
theorem wxd_eq {S : Type} {w : W S PyData} {kk : PyData → W S PyData} : wxd w kk = wbind w fun d => wcond (isErr d) (wpure d) (kk d) := (rfl)
theorem any_req : anyM "require_node" := .inr (.inl rfl)
theorem any_th : anyM "thickness" := .inr (.inr (.inl rfl))
theorem any_st : anyM "start" := .inr (.inr (.inr (.inl rfl)))
theorem any_nb : anyM "neighbors" := .inl rfl
theorem any_wd : anyM "width" := .inr (.inr (.inr (.inr rfl)))
theorem nv_obj {f : FD} {S : Type} {m : Str} {k : W S PyData} (h : anyM m) : wobj "Field" m (netV f) k = k := wobj_ok (net_obj h)
theorem ev_xnb (ok : f.Ok) (hd : KI d) : Ev (X_Field_neighbors (netV f) d) (NbR f d) := by
  unfold X_Field_neighbors
  simp only [wbind_pure, wbind_bind, wl_cons, wl_nil, ap2_2, wxt_eq, nv_obj any_req, fbind_bind, wendA_bind, fbind_cond, wendA_cond, fbind_rt, wendA_rt, wnx_eq, fbind_nx, wret_eq]
  refine Is.then (Is.lift (is_xreq hd)) ?_
  by_cases hx : inN (f.cn ++ f.sn) d = true
  · rw [if_pos hx]
    obtain ⟨x, rfl, hxm⟩ := inN_str hx
    show Ev (wcond false _ _) _
    rw [wcond_f]
    unfold netV
    simp only [fld_widths, wbind_pure, get_width hxm ok, wlift_pure]
    refine Ev.bind (Ev.lift (ev_sortKs (nbs_nodup ok x) (by have := nbs_len36 ok x; omega))) fun d hd => ?_
    obtain ⟨ys, rfl, hp, hs⟩ := hd
    simp only [wseq_l, wlift_pure, wbind_pure]
    have hl : ys.length < sizeLine := by have := hp.length_eq; rw [List.length_map] at this; have := nbs_len ok x; have := hs1; omega
    refine Is.then (Is.mapS (e := PyData.str) (v := fun o => ent (o, (dGet ((nbs f x).map kv) (.str o)).getD .none)) hl fun o ho => ?_) ?_
    · obtain ⟨p, hpm, rfl⟩ := List.mem_map.mp (hp.mem_iff.mp ho)
      have e := dGet_kv (nbs_nodup ok x) hpm
      have e2 : oix (.dict ((nbs f x).map kv)) (.str p.1) = wpure p.2 := oix_kv (nbs_nodup ok x) hpm
      rw [e2, e]
      exact Is.pure
    · rw [otuple_l, wlift_pure]
      refine Ev.bind (Ev.pure rfl) fun a ha => ?_
      subst ha
      refine Ev.pure (.inl ⟨x, ys.map fun o => (o, (dGet ((nbs f x).map kv) (.str o)).getD .none), rfl, hxm, ⟨?_, ?_⟩, by rw [List.map_map]; rfl⟩)
      · have h := hp.map fun o => (o, (dGet ((nbs f x).map kv) (.str o)).getD .none)
        rw [List.map_map] at h
        refine h.trans (List.Perm.of_eq ((List.map_congr_left fun p hpm => ?_).trans (List.map_id' _)))
        show (p.1, (dGet ((nbs f x).map kv) (.str p.1)).getD .none) = p
        rw [dGet_kv (nbs_nodup ok x) hpm]
        rfl
      · rw [List.map_map]
        have e : (ys.map ((fun p : Str × PyData => p.1) ∘ fun o => (o, (dGet ((nbs f x).map kv) (.str o)).getD .none))) = ys := List.map_id' _
        rw [e]; exact hs
  · have hx : inN (f.cn ++ f.sn) d = false := by simpa using hx
    rw [hx]
    exact Ev.pure (.inr ⟨hx, rfl⟩)
/-- width, none known: zero -/
def wdt (f : FD) (a b : PyData) : PyData := match a with
  | .str x => hdOr (sel (nbs f x) b) (.tuple [.int 0, .int 1])
  | _ => .none
theorem is_xwidth (ok : f.Ok) {a b : PyData} (ha : KI a) (hb : KI b) : Is (X_Field_width (netV f) a b) (if inN (f.cn ++ f.sn) a = true then (if inN (f.cn ++ f.sn) b = true then wdt f a b else unk b) else unk a) := by
  unfold X_Field_width
  simp only [wbind_pure, wbind_bind, wl_cons, wl_nil, ap2_2, wxt_eq, nv_obj any_req, fbind_bind, wendA_bind, fbind_cond, wendA_cond, fbind_rt, wendA_rt, wnx_eq, fbind_nx, wret_eq]
  refine Is.then (Is.lift (is_xreq ha)) ?_
  by_cases hx : inN (f.cn ++ f.sn) a = true
  · rw [if_pos hx, if_pos hx]
    obtain ⟨x, rfl, hxm⟩ := inN_str hx
    show Ev (wcond false _ _) _
    rw [wcond_f]
    refine Is.then (Is.lift (is_xreq hb)) ?_
    by_cases hy : inN (f.cn ++ f.sn) b = true
    · rw [if_pos hy, if_pos hy]
      obtain ⟨y, rfl, hy⟩ := inN_str hy
      show Ev (wcond false _ _) _
      rw [wcond_f]
      unfold netV
      simp only [fld_widths, wbind_pure, get_width hxm ok, wlift_pure, wdct_ok]
      have e : wget2 (.dict ((nbs f x).map kv)) (.str y) (.tuple [.int 0, .int 1]) = wpure (wdt f (.str x) (.str y)) := by
        show wreq (kOk _ _) _ = _
        rw [wreq_gd, wgd_t ⟨isK_kv _, rfl⟩]
        congr 1
        show _ = hdOr (sel (nbs f x) (.str y)) _
        have hn := nbs_nodup ok x
        by_cases hm : y ∈ (nbs f x).map (·.1)
        · obtain ⟨p, hp, rfl⟩ := List.mem_map.mp hm
          rw [dGet_kv hn hp, sel_some hn hp]; rfl
        · rw [sel_none hm]
          have : dGet ((nbs f x).map kv) (.str y) = none := by
            unfold dGet
            rw [Option.map_eq_none_iff, List.find?_eq_none]
            intro e he
            obtain ⟨p, hp, rfl⟩ := List.mem_map.mp he
            show ¬ (decide (p.1 = y) = true)
            rw [decide_eq_true_eq]
            intro z
            exact hm (by rw [← z]; exact List.mem_map_of_mem hp)
          rw [this]; rfl
      rw [e]
      exact Ev.pure rfl
    · have hy : inN (f.cn ++ f.sn) b = false := by simpa using hy
      rw [hy]
      exact Ev.pure rfl
  · have hx : inN (f.cn ++ f.sn) a = false := by simpa using hx
    rw [hx]
    exact Ev.pure rfl
/-! ### the law's own answers -/
theorem ev_lawnb (ok : f.Ok) (hx : x ∈ f.cn ++ f.sn) : Ev (F_law_neighbors f.d (.str x)) (fun d => ∃ ps, NbS f x ps ∧ d = .tuple (ps.map ent)) := by
  unfold F_law_neighbors
  simp only [wbind_pure, wbind_bind, wl_cons, wl_nil, d2, wseq_t, wlift_pure]
  have hz := ok.z3
  have hs := hs1
  refine Is.then (Is.forn (e := chD) (v := fun c => (nbF x c).map ent) f.ch [] (fun c hc ds hds => ?_) (by simp; omega)) ?_
  · obtain ⟨h1, h2, h3, h4⟩ := ok.ch1 c hc
    have hne : c.1 ≠ c.2.1 := lts_ne h3
    unfold chD nbF
    simp only [w3_t, wbind_pure, wbind_bind, wite_eq, wB_eq, oin_s2, wlift_pure, toB_bool, wbind_ret]
    by_cases e1 : x = c.1
    · subst e1
      rw [if_pos rfl, decide_eq_true List.mem_cons_self, wcond_t, wapp_eq]
      simp only [oeq_s, decide_eq_true rfl, oint_b, wlift_pure, wbind_pure, wbind_bind, if_true]
      show Is (wbind (wlift (wpure (PyData.str c.2.1))) _) _
      simp only [wlift_pure, wbind_pure]
      rw [wgd_t hds]
      exact Is.pure
    · rw [if_neg e1]
      by_cases e2 : x = c.2.1
      · subst e2
        rw [if_pos rfl, decide_eq_true (List.mem_cons_of_mem _ List.mem_cons_self), wcond_t, wapp_eq]
        simp only [oeq_s, decide_eq_false hne, oint_b, wlift_pure, wbind_pure, wbind_bind, Bool.false_eq_true, if_false]
        show Is (wbind (wlift (wpure (PyData.str c.1))) _) _
        simp only [wlift_pure, wbind_pure]
        rw [wgd_t hds]
        exact Is.pure
      · rw [if_neg e2, decide_eq_false (by simp [e1, e2]), wcond_f]
        show Is (wpure (PyData.list ds)) (PyData.list (ds ++ []))
        rw [List.append_nil]
        exact Is.pure
  · have e : (f.ch.filterMap fun c => (nbF x c).map ent) = (nbs f x).map ent := by
      unfold nbs
      rw [List.map_filterMap]
    rw [List.nil_append, e]
    refine Ev.bind (Ev.lift (ev_sortEs (nbs_nodup ok x))) fun d hd => ?_
    obtain ⟨ps, rfl, h1, h2⟩ := hd
    rw [otuple_l, wlift_pure]
    exact Ev.pure ⟨ps, ⟨h1, h2⟩, rfl⟩
theorem is_breadth (ok : f.Ok) (hx : x ∈ f.cn ++ f.sn) : Is (F_law_breadth f.d (.str x) (.str y)) (wdt f (.str x) (.str y)) := by
  unfold F_law_breadth
  simp only [wbind_pure, wbind_bind, wl_cons, wl_nil, ap2_2]
  refine Ev.bind (Ev.lift (ev_lawnb ok hx)) fun d hd => ?_
  obtain ⟨ps, ⟨h1, h2⟩, rfl⟩ := hd
  simp only [wseq_t, wlift_pure, wbind_pure]
  have hz : ps.length < sizeLine := by rw [h1.length_eq]; have := nbs_len ok x; have := hs1; omega
  have hn : (ps.map (·.1)).Nodup := h2.imp fun h => lts_ne h
  refine Is.then (Is.lcS (e := ent) (v := fun p => if eqN p.1 (.str y) = true then some p.2 else none) hz fun p hp => ?_) ?_
  · unfold ent
    simp only [w2_t, wbind_pure, wlcE, wB_eq, oeq_s, wlift_pure, wbind_bind, toB_bool]
    show Is (wcond (eqN p.1 (.str y)) _ _) _
    cases eqN p.1 (.str y) with
    | true => exact Is.pure
    | false => exact Is.pure
  · show Ev (wite _ _ _) _
    rw [show (ps.filterMap fun p => if eqN p.1 (.str y) = true then some p.2 else none) = sel ps (.str y) from rfl, sel_perm h1 hn y]
    simp only [wite_eq, wB_eq, wbind_pure, wbind_bind, one_l0, wlift_pure, toB_bool]
    show Is _ (hdOr (sel (nbs f x) (.str y)) (.tuple [.int 0, .int 1]))
    generalize sel (nbs f x) (.str y) = l
    cases l with
    | nil => exact Ev.pure rfl
    | cons v l =>
      show Ev (wcond true _ _) _
      rw [wcond_t, oix_l, atI_zero]
      exact Ev.pure rfl
end
end Lw

namespace Lw
open PySem PySem.Spec PyProof.Rows L2 PL
/-! ### outcomes -/
def retT (v : PyData) : PyData := .tuple [.str tx_returned, v]
def unkT (d : PyData) : PyData := .tuple [.str tx_unknown, d]
theorem txne6 : tx_start ≠ tx_thickness ∧ tx_neighbors ≠ tx_thickness ∧ tx_neighbors ≠ tx_start ∧ tx_thickness ≠ tx_start ∧ tx_thickness ≠ tx_neighbors ∧ tx_start ≠ tx_neighbors := by decide +kernel
theorem txit : It 0 122 (.str tx_returned) ∧ It 0 122 (.str tx_unknown) := ⟨It.str (n := 10) (by decide +kernel) (by decide +kernel), It.str (n := 10) (by decide +kernel) (by decide +kernel)⟩
theorem it_ret {k w : Nat} {v : PyData} (h : It k w v) : It (k + 1) (w + 200) (retT v) := (It.tup (ItL.cons (txit.1.up (Nat.zero_le _) (Nat.le_refl _)) (ItL.one h))).up (by omega) (by omega)
theorem it_unk {d : PyData} (h : KI d) : It 2 4300 (unkT d) := (It.tup (ItL.cons (txit.2.up (Nat.zero_le _) (Nat.le_refl _)) (ItL.one h.it))).up (by omega) (by omega)
section
variable {f : FD} {x y : Str} {d : PyData} {P : PyData → Prop}
theorem whd_unk {S : Type} {hd : Str → List (PyData × PyData) → W S PyData} : whd hd (unk d) = hd tx_h99a8e6 [(.str tx_name, d)] := rfl
theorem wnm_at {S : Type} {n : Str} {f : List (PyData × PyData) → W S PyData} {g : Str → List (PyData × PyData) → W S PyData} {es : List (PyData × PyData)} : wnm n f g n es = f es := if_pos rfl
theorem wfe_at {S : Type} {n : Str} {es : List (PyData × PyData)} : wfe (S := S) ((.str n, d) :: es) n = wpure d := by
  unfold wfe
  rw [fGet, if_pos rfl]
theorem it_nat {a : Nat} (h : a ≤ 1001) : It 0 2000 (.int (a : Int)) := It.int (by
  rw [Int.natAbs_natCast]
  by_cases z : a = 0
  · rw [z]; decide
  · have := (Nat.log2_lt z).mpr (show a < 2 ^ 100 by have : (1001 : Nat) < 2 ^ 100 := by decide
                                                     omega); omega)
theorem it_sm {v : PyData} (h : Sm v) : It 1 4010 v := by
  obtain ⟨a, b, rfl, h1, h2⟩ := h
  exact (It.tup (ItL.cons (it_nat h1) (ItL.one (it_nat h2)))).up (by omega) (by omega)
theorem it_name {x : Str} (h : nameOk x) : It 0 98 (.str x) := It.str (okS_name h) h.2.1
theorem it_ent {c : Str × PyData} (h1 : nameOk c.1) (h2 : Sm c.2) : It 2 4200 (ent c) :=
  (It.tup (ItL.cons ((it_name h1).up (Nat.zero_le _) (Nat.le_refl _)) (ItL.one (it_sm h2)))).up (by omega) (by omega)
theorem it_chD {c : Str × Str × PyData} (h1 : nameOk c.1) (h2 : nameOk c.2.1) (h3 : Sm c.2.2) : It 2 4400 (chD c) :=
  (It.tup (ItL.cons ((it_name h1).up (Nat.zero_le _) (Nat.le_refl _)) (ItL.cons ((it_name h2).up (Nat.zero_le _) (Nat.le_refl _)) (ItL.one (it_sm h3))))).up (by omega) (by omega)
theorem itl_map {α : Type} {e : α → PyData} {k w : Nat} : ∀ {l : List α}, (∀ c ∈ l, It k w (e c)) → ItL k (l.length * (w + 2)) (l.map e)
  | [], _ => ItL.nil.up (Nat.zero_le _) (by simp)
  | c :: l, h => (ItL.cons (h c List.mem_cons_self) (itl_map fun z hz => h z (List.mem_cons_of_mem _ hz))).up (Nat.le_refl _) (by rw [List.length_cons, Nat.succ_mul]; omega)
theorem nbs_sm (hf : FS f) {p : Str × PyData} (hp : p ∈ nbs f x) : nameOk p.1 ∧ Sm p.2 := by
  refine ⟨hf.ok.nm _ (nbs_mem hf.ok hp).1, ?_⟩
  unfold nbs at hp
  obtain ⟨c, hc, e⟩ := List.mem_filterMap.mp hp
  have := hf.wv c hc
  unfold nbF at e
  split at e
  · injection e with e; rw [← e]; exact this
  · split at e
    · injection e with e; rw [← e]; exact this
    · cases e
theorem it_nb (hf : FS f) {ps : List (Str × PyData)} (h : NbS f x ps) : It 3 160000 (.tuple (ps.map ent)) := by
  have hl : ps.length ≤ 36 := by rw [h.1.length_eq]; exact nbs_len36 hf.ok x
  have := itl_map (e := ent) (k := 2) (w := 4200) (l := ps) fun c hc => by
    obtain ⟨a, b⟩ := nbs_sm hf (h.1.mem_iff.mp hc)
    exact it_ent a b
  refine (It.tup this).up (by omega) ?_
  have : ps.length * 4202 ≤ 36 * 4202 := Nat.mul_le_mul_right _ hl
  omega
theorem it_fd (hf : FS f) : It 4 300000 f.d := by
  unfold FD.d
  have h1 := itl_map (e := ent) (k := 2) (w := 4200) (l := f.cs) fun c hc => it_ent (hf.ok.nm _ (List.mem_append_left _ (List.mem_map_of_mem hc))) (hf.cv c hc)
  have h2 := itl_map (e := ent) (k := 2) (w := 4200) (l := f.ss) fun c hc => it_ent (hf.ok.nm _ (List.mem_append_right _ (List.mem_map_of_mem hc))) (hf.sv c hc)
  have h3 := itl_map (e := chD) (k := 2) (w := 4400) (l := f.ch) fun c hc => it_chD (hf.ok.nm _ (hf.ok.ch1 c hc).1) (hf.ok.nm _ (hf.ok.ch1 c hc).2.1) (hf.wv c hc)
  have a1 : f.cs.length * 4202 ≤ 8 * 4202 := Nat.mul_le_mul_right _ hf.zc
  have a2 : f.ss.length * 4202 ≤ 4 * 4202 := Nat.mul_le_mul_right _ hf.zs
  have a3 : f.ch.length * 4402 ≤ 30 * 4402 := Nat.mul_le_mul_right _ hf.zh
  exact (It.tup (ItL.cons (It.tup h1) (ItL.cons (It.tup h2) (ItL.one (It.tup h3))))).up (by omega) (by omega)
/-- one query told -/
theorem ev_told {N m b : PyData} (h : Ev (X_law_called N m d b) fun r => (isErr r = false ∧ P (retT r)) ∨ (r = unk d ∧ P (unkT d))) (hs : ∀ r, P r → Sho r) : Ev (F_law_outcome N m d b) (fun s => ∃ r, P r ∧ s = .str r.shown) := by
  unfold F_law_outcome wtry
  simp only [wbind_pure, wbind_bind, wl_cons, wl_nil, ap4, wxd_eq]
  refine Ev.bind (Ev.lift h) fun r hr => ?_
  rcases hr with ⟨hr, hp⟩ | ⟨rfl, hp⟩
  · rw [hr, wcond_f, wbind_pure]
    show Ev (wbind (wcond false _ (wpure (retT r))) _) _
    rw [wcond_f, wbind_pure]
    show Ev (wbind (wcond false _ (wpure (retT r))) _) _
    rw [wcond_f, wbind_pure, orepr_ok (hs _ hp), wlift_pure]
    exact Ev.pure ⟨_, hp, rfl⟩
  · rw [isErr_unk, wcond_t, wbind_pure, isErr_unk, wcond_t, wbind_pure, isErr_unk, wcond_t]
    have e : whd (S := Unit) (wnm tx_h99a8e6 (fun es => wite (wand (wB (wpure (.bool true))) (wnot (wB (wpure (.bool false))))) (wbind (wl [(wpure (.str tx_unknown)), (wfe es tx_name)]) fun as => wpure (.tuple as)) (wpure (.tuple [.str tx_unexpected]))) wno) (unk d) = wpure (unkT d) := by
      rw [whd_unk, wnm_at]
      simp only [wite_eq, wand_eq, wnot_eq, wB_eq, wbind_pure, toB_bool, wcond_t, wcond_f, Bool.not_false, wl_cons, wl_nil, wfe_at]
      rfl
    have e2 : (wbind (whd (S := Unit) (wnm tx_h99a8e6 (fun es => wite (wand (wB (wpure (.bool true))) (wnot (wB (wpure (.bool false))))) (wbind (wl [(wpure (.str tx_unknown)), (wfe es tx_name)]) fun as => wpure (.tuple as)) (wpure (.tuple [.str tx_unexpected]))) wno) (unk d)) fun result_2 => wlift (orepr [result_2])) = wpure (.str (unkT d).shown) := by
      rw [e, wbind_pure, orepr_ok (hs _ hp), wlift_pure]
    simp only [wl_cons, wl_nil, wbind_pure, wbind_bind] at e2 ⊢
    rw [e2]
    exact Ev.pure ⟨_, hp, rfl⟩
theorem ev_toldW {a b k : PyData} (ok : f.Ok) (ha : KI a) (hb : KI b) (hk : k = .bool false ∨ k = .bool true)
    (hr : ∀ x, a = .str x → inN (f.cn ++ f.sn) a = true → inN (f.cn ++ f.sn) b = true → isErr (wdt f a b) = false)
    (hs : Sho (if inN (f.cn ++ f.sn) a = true then (if inN (f.cn ++ f.sn) b = true then retT (wdt f a b) else unkT b) else unkT a)) :
    Is (F_law_width_outcome (netV f) a b k) (.str (if inN (f.cn ++ f.sn) a = true then (if inN (f.cn ++ f.sn) b = true then retT (wdt f a b) else unkT b) else unkT a).shown) := by
  unfold F_law_width_outcome wtry
  simp only [wbind_pure, wbind_bind, wl_cons, wl_nil, wxd_eq, wite_eq, wB_eq, nv_obj any_wd]
  have e : (wbind (S := Unit) (toB k) fun c => wcond c (wlift (ap3 X_Field_width (pick [0, 2, 1] [netV f, b, a]))) (wlift (ap3 X_Field_width [netV f, a, b]))) = wlift (X_Field_width (netV f) a b) := by
    rcases hk with rfl | rfl <;> rfl
  rw [← wbind_bind, e]
  refine Is.then (Is.lift (is_xwidth ok ha hb)) ?_
  have eu : ∀ d : PyData, whd (S := Unit) (wnm tx_h99a8e6 (fun es => wbind (wfe es tx_name) fun a => wpure (.tuple [.str tx_unknown, a])) wno) (unk d) = wpure (unkT d) := fun d => by
    rw [whd_unk, wnm_at]
    simp only [wfe_at, wbind_pure]; rfl
  have bad : ∀ d : PyData, Sho (unkT d) → Is (S := Unit) (wbind (wcond (isErr (unk d)) (wpure (unk d)) (wpure (.tuple [unk d]))) fun d_1 => wbind (wcond (isErr d_1) (wpure d_1) (wtl (.str tx_returned) d_1)) fun d_2 => wbind (wcond (isErr d_2) (whd (wnm tx_h99a8e6 (fun es => wbind (wfe es tx_name) fun a => wpure (.tuple [.str tx_unknown, a])) wno) d_2) (wpure d_2)) fun r => wlift (orepr [r])) (.str (unkT d).shown) := fun d hd => by
    rw [isErr_unk, wcond_t, wbind_pure, isErr_unk, wcond_t, wbind_pure, isErr_unk, wcond_t, eu, wbind_pure, orepr_ok hd]
    exact Is.pure
  split
  · rename_i h1
    split
    · rename_i h2
      rw [if_pos h1, if_pos h2] at hs
      obtain ⟨x, rfl, _⟩ := inN_str h1
      rw [hr x rfl h1 h2, wcond_f, wbind_pure]
      show Is (wbind (wcond false _ (wpure (retT (wdt f (.str x) b)))) _) _
      rw [wcond_f, wbind_pure]
      show Is (wbind (wcond false _ (wpure (retT (wdt f (.str x) b)))) _) _
      rw [wcond_f, wbind_pure, orepr_ok hs, wlift_pure]
      exact Is.pure
    · rename_i h2
      rw [if_pos h1, if_neg h2] at hs
      exact bad _ hs
  · rename_i h1
    rw [if_neg h1] at hs
    exact bad _ hs
end
end Lw

namespace Lw
open PySem PySem.Spec PyProof.Rows L2 PL
section
variable {f : FD} {x y : Str} {d : PyData}
theorem sm_err {v : PyData} (h : Sm v) : isErr v = false := by
  obtain ⟨a, b, rfl, _⟩ := h; rfl
def exL (l : List PyData) (d : PyData) : PyData := match l with | v :: _ => retT v | [] => unkT d
theorem exL_it {l : List PyData} (hd : KI d) (hl : ∀ v ∈ l, Sm v) : It 2 4500 (exL l d) := by
  cases l with
  | nil => exact (it_unk hd).up (by omega) (by omega)
  | cons v l => exact (it_ret (it_sm (hl v List.mem_cons_self))).up (by omega) (by omega)
theorem exL_told {l : List PyData} (hl : ∀ v ∈ l, Sm v) {F : W Unit PyData} (h : Is F (hdOr l (unk d))) : Ev F (fun r => (isErr r = false ∧ retT r = exL l d) ∨ (r = unk d ∧ unkT d = exL l d)) := by
  refine Ev.mono h fun r hr => ?_
  cases l with
  | nil => exact .inr ⟨hr, rfl⟩
  | cons v l => exact .inl ⟨by rw [hr]; exact sm_err (hl v List.mem_cons_self), by rw [hr]; rfl⟩
theorem called_th {k : PyData} (hk : k = .bool false ∨ k = .bool true) (ok : f.Ok) (hd : KI d) : Is (X_law_called (netV f) (.str tx_thickness) d k) (hdOr (sel f.cs d) (unk d)) := by
  unfold X_law_called
  simp only [wbind_pure, wbind_bind, wl_cons, wl_nil, wite_eq, wB_eq, oeq_s, wlift_pure, toB_bool, decide_true, wcond_t, wret_eq, nv_obj any_th, fbind_bind, wendA_bind]
  have e : (wbind (S := Unit) (toB k) fun c => wcond c (wlift (ap2 X_Field_thickness (pick [0, 1] [netV f, d]))) (wlift (ap2 X_Field_thickness [netV f, d]))) = wlift (X_Field_thickness (netV f) d) := by
    rcases hk with rfl | rfl <;> rfl
  rw [← wbind_bind, e]
  refine Is.then (Is.lift (is_xthick ok hd)) ?_
  exact Ev.pure rfl
theorem called_st {k : PyData} (hk : k = .bool false ∨ k = .bool true) (ok : f.Ok) (hd : KI d) : Is (X_law_called (netV f) (.str tx_start) d k) (hdOr (sel f.ss d) (unk d)) := by
  unfold X_law_called
  simp only [wbind_pure, wbind_bind, wl_cons, wl_nil, wite_eq, wB_eq, oeq_s, wlift_pure, toB_bool, decide_true, decide_eq_false txne6.1, wcond_t, wcond_f, wret_eq, nv_obj any_st, fbind_bind, wendA_bind, fbind_nx, wnx_eq]
  have e : (wbind (S := Unit) (toB k) fun c => wcond c (wlift (ap2 X_Field_start (pick [0, 1] [netV f, d]))) (wlift (ap2 X_Field_start [netV f, d]))) = wlift (X_Field_start (netV f) d) := by
    rcases hk with rfl | rfl <;> rfl
  rw [← wbind_bind, e]
  refine Is.then (Is.lift (is_xstart ok hd)) ?_
  exact Ev.pure rfl
theorem called_nb {k : PyData} (hk : k = .bool false ∨ k = .bool true) (ok : f.Ok) (hd : KI d) : Ev (X_law_called (netV f) (.str tx_neighbors) d k) (NbR f d) := by
  unfold X_law_called
  simp only [wbind_pure, wbind_bind, wl_cons, wl_nil, wite_eq, wB_eq, oeq_s, wlift_pure, toB_bool, decide_eq_false txne6.2.1, decide_eq_false txne6.2.2.1, wcond_t, wcond_f, wret_eq, nv_obj any_nb, fbind_bind, wendA_bind, fbind_nx, wnx_eq]
  have e : (wbind (S := Unit) (toB k) fun c => wcond c (wlift (ap2 X_Field_neighbors (pick [0, 1] [netV f, d]))) (wlift (ap2 X_Field_neighbors [netV f, d]))) = wlift (X_Field_neighbors (netV f) d) := by
    rcases hk with rfl | rfl <;> rfl
  rw [← wbind_bind, e]
  refine Ev.bind (Ev.lift (ev_xnb ok hd)) fun r hr => ?_
  exact Ev.pure hr
def NbP (f : FD) (d r : PyData) : Prop := (∃ x ps, d = .str x ∧ x ∈ f.cn ++ f.sn ∧ NbS f x ps ∧ r = retT (.tuple (ps.map ent))) ∨ (inN (f.cn ++ f.sn) d = false ∧ r = unkT d)
theorem inN_t {xs : List Str} (h : x ∈ xs) : inN xs (.str x) = true := decide_eq_true h
theorem nb_told {k em : PyData} (hk : k = .bool false ∨ k = .bool true) (ok : f.Ok) (hd : KI d) (he : NbP f d em) : Ev (X_law_called (netV f) (.str tx_neighbors) d k) (fun r => (isErr r = false ∧ retT r = em) ∨ (r = unk d ∧ unkT d = em)) := by
  refine Ev.mono (called_nb hk ok hd) fun r hr => ?_
  rcases hr with ⟨x, ps, rfl, hx, h, rfl⟩ | ⟨h, rfl⟩
  · rcases he with ⟨z, qs, e, _, g, rfl⟩ | ⟨g, _⟩
    · injection e with e
      subst e
      rw [h.uniq g]
      exact .inl ⟨rfl, rfl⟩
    · rw [inN_t hx] at g; cases g
  · rcases he with ⟨z, qs, rfl, hz, g, rfl⟩ | ⟨g, rfl⟩
    · rw [inN_t hz] at h; cases h
    · exact .inr ⟨rfl, rfl⟩
theorem nb_it (hf : FS f) (hd : KI d) {em : PyData} (he : NbP f d em) : It 4 200000 em := by
  rcases he with ⟨z, qs, rfl, hz, g, rfl⟩ | ⟨g, rfl⟩
  · exact (it_ret (it_nb hf g)).up (by omega) (by omega)
  · exact (it_unk hd).up (by omega) (by omega)
theorem sel_in (hd : KI d) (ok : f.Ok) : (sel f.cs d ++ sel f.ss d).isEmpty = !inN (f.cn ++ f.sn) d := by
  rcases hd with ⟨x, rfl, _, _⟩ | hd
  · by_cases h1 : x ∈ f.cs.map (·.1)
    · obtain ⟨c, hc, rfl⟩ := List.mem_map.mp h1
      rw [sel_some (ok.c1.imp fun h => lts_ne h) hc, inN_t (List.mem_append_left _ (show c.1 ∈ f.cn from h1))]; rfl
    · by_cases h2 : x ∈ f.ss.map (·.1)
      · obtain ⟨c, hc, rfl⟩ := List.mem_map.mp h2
        rw [sel_none h1, sel_some (ok.s1.imp fun h => lts_ne h) hc, inN_t (List.mem_append_right _ (show c.1 ∈ f.sn from h2))]; rfl
      · rw [sel_none h1, sel_none h2]
        have : inN (f.cn ++ f.sn) (.str x) = false := decide_eq_false (fun h => (List.mem_append.mp h).elim h1 h2)
        rw [this]; rfl
  · rw [sel_odd hd, sel_odd hd, odd_ns hd]; rfl
theorem cond_ex {S : Type} {l : List PyData} : (wcond (!l.isEmpty) (wbind (wlift (S := S) (oix (.list l) (.int 0))) fun a => wpure (PyData.tuple [.str tx_returned, a])) (wpure (.tuple [.str tx_unknown, d]))) = wpure (exL l d) := by
  cases l with
  | nil => rfl
  | cons v l =>
    show wbind _ _ = _
    rw [oix_l, atI_zero]; rfl
theorem wput_eq {S : Type} {es : List (PyData × PyData)} {wv wk : W S PyData} : wput (.dict es) wv wk = wbind wv fun v => wbind wk fun k => wreq (kOk es k ∧ es.length < sizeLine) (PyData.dict (dPut es k v)) := rfl
theorem wput_kv {S : Type} {ps : List (Str × PyData)} {v : PyData} (h : x ∉ ps.map (·.1)) (hz : ps.length < 100) : wreq (S := S) (kOk (ps.map kv) (.str x) ∧ (ps.map kv).length < sizeLine) (PyData.dict (dPut (ps.map kv) (.str x) v)) = wpure (.dict ((ps ++ [(x, v)]).map kv)) := by
  rw [wreq_gd, wgd_t ⟨⟨isK_kv _, rfl⟩, by rw [List.length_map]; have := hs1; omega⟩, dPut_new h]
theorem one_ss (z : Str) : one (.str z) (.str z) = wpure (.bool false) := by rw [one_s, decide_eq_true rfl]; rfl
theorem wfor_nxD {S α : Type} {f : PyData → α → W S (Fl α)} {a : α} : ∀ (xs : List PyData), (∀ x ∈ xs, Is (f x a) (.nx a)) → Is (wfor f xs a) (.nx a)
  | [], _ => Is.pure
  | x :: xs, h => by
    show Is (wbind (f x a) _) _
    refine Is.then (h x List.mem_cons_self) ?_
    exact wfor_nxD xs fun y hy => h y (List.mem_cons_of_mem _ hy)
theorem ask2 {G : PyData → Unit → W Unit (Fl Unit)} {xs : List PyData} (h : ∀ x ∈ xs, Is (G x ()) (.nx ())) : Is (fthen (wfor G xs ()) fun _ => wpure (PyData.bool true)) (.bool true) := by
  refine Is.fnx (a := ()) (wfor_nxD xs h) ?_
  exact Ev.pure rfl
theorem ask3 {G : PyData → Unit → W Unit (Fl Unit)} {xs : List PyData} (h : ∀ x ∈ xs, Is (G x ()) (.nx ())) : Is (fbind (wfor G xs ()) fun _ => wnx ()) (Fl.nx ()) := by
  refine Ev.bind (wfor_nxD xs h) fun r hr => ?_
  rw [hr]
  exact Ev.pure rfl
theorem is_one (hf : FS f) (hd : KI d) : Is (F_law_one_correct (netV f) f.d d) (.bool true) := by
  unfold F_law_one_correct
  have ok := hf.ok
  have hs := hs1
  have hz1 := ok.z1
  have hz2 := ok.z2
  have m1 : ∀ v ∈ sel f.cs d, Sm v := fun v hv => by
    obtain ⟨c, hc, rfl⟩ := sel_mem hv
    exact hf.cv c hc
  have m2 : ∀ v ∈ sel f.ss d, Sm v := fun v hv => by
    obtain ⟨c, hc, rfl⟩ := sel_mem hv
    exact hf.sv c hc
  simp only [wbind_pure, wbind_bind, wl_cons, wl_nil, d0, d1, wseq_t, wseq_l, wlift_pure, wite_eq, wB_eq]
  refine Is.then (Is.lcS (e := ent) (v := fun p => if eqN p.1 d = true then some p.2 else none) (by omega) fun p hp => ?_) ?_
  · have hn : nameOk p.1 := ok.nm _ (List.mem_append_left _ (List.mem_map_of_mem hp))
    unfold ent
    simp only [w2_t, wbind_pure, wlcE, wB_eq, hd.eq hn, wlift_pure, wbind_bind, toB_bool]
    cases eqN p.1 d with
    | true => exact Is.pure
    | false => exact Is.pure
  rw [show (f.cs.filterMap fun p => if eqN p.1 d = true then some p.2 else none) = sel f.cs d from rfl]
  refine Is.then (Is.lcS (e := ent) (v := fun p => if eqN p.1 d = true then some p.2 else none) (by omega) fun p hp => ?_) ?_
  · have hn : nameOk p.1 := ok.nm _ (List.mem_append_right _ (List.mem_map_of_mem hp))
    unfold ent
    simp only [w2_t, wbind_pure, wlcE, wB_eq, hd.eq hn, wlift_pure, wbind_bind, toB_bool]
    cases eqN p.1 d with
    | true => exact Is.pure
    | false => exact Is.pure
  rw [show (f.ss.filterMap fun p => if eqN p.1 d = true then some p.2 else none) = sel f.ss d from rfl]
  simp only [one_l0, wlift_pure, wbind_pure, toB_bool, cond_ex]
  have ek : ∀ v : PyData, wkey1 (S := Unit) (.str tx_thickness) v = wpure (.dict ([(tx_thickness, v)].map kv)) := fun v => by
    unfold wkey1
    rw [wreq_gd, wgd_t (show (keyD (.str tx_thickness)).isSome = true from rfl)]; rfl
  rw [ek]
  simp only [wbind_pure]
  rw [wput_eq]
  simp only [wbind_pure, wbind_bind]
  rw [wput_kv (x := tx_start) (by simpa using txne6.1) (by simp only [List.length_cons, List.length_nil]; omega)]
  simp only [wbind_pure]
  rw [List.singleton_append, wput_eq]
  have hzl : (sel f.cs d).length + (sel f.ss d).length ≤ sizeLine := by
    have a1 : (sel f.cs d).length ≤ f.cs.length := List.length_filterMap_le _ _
    have a2 : (sel f.ss d).length ≤ f.ss.length := List.length_filterMap_le _ _
    omega
  simp only [oadd_l, wlift_gd, wgd_t hzl, wlift_pure, wbind_pure, wbind_bind, one_l0, toB_bool, sel_in hd ok, Bool.not_not]
  refine Ev.bind (P := NbP f d) ?_ fun em hem => ?_
  · by_cases hx : inN (f.cn ++ f.sn) d = true
    · rw [hx, wcond_t]
      obtain ⟨x, rfl, hxm⟩ := inN_str hx
      refine Ev.bind (Ev.lift (ev_lawnb ok hxm)) fun r hr => ?_
      obtain ⟨ps, h, rfl⟩ := hr
      exact Ev.pure (.inl ⟨x, ps, rfl, hxm, h, rfl⟩)
    · have hx : inN (f.cn ++ f.sn) d = false := by simpa using hx
      rw [hx, wcond_f]
      exact Ev.pure (.inr ⟨hx, rfl⟩)
  have n3 : tx_neighbors ∉ [(tx_thickness, exL (sel f.cs d) d), (tx_start, exL (sel f.ss d) d)].map (·.1) := by
    simp only [List.map_cons, List.map_nil, List.mem_cons, List.not_mem_nil, or_false, not_or]
    exact ⟨txne6.2.1, txne6.2.2.1⟩
  rw [wput_kv n3 (by simp only [List.length_cons, List.length_nil]; omega)]
  simp only [wbind_pure]
  have hall : ∀ (m : Str) (e : PyData) (F : PyData → W Unit PyData), Sho e → (∀ k, k = PyData.bool false ∨ k = .bool true → Is (F k) (.str e.shown)) → ∀ D, oix D (.str m) = wpure e →
      Is (S := Unit) (fbind (wfor (fun x (a : Unit) => wbind (wlift (F x)) fun a => wbind (wlift (oix D (.str m))) fun d => wbind (wlift (orepr [d])) fun b => wbind (wlift (one a b)) fun d => wbind (toB d) fun c => wcond c (wret (wpure (PyData.bool false))) (wnx ())) [PyData.bool false, .bool true] ()) fun _ => wnx ()) (.nx ()) := fun m e F hs hF D hD => by
    refine ask3 fun k hk => ?_
    have hk : k = PyData.bool false ∨ k = .bool true := by simpa using hk
    refine Is.then (Is.lift (hF k hk)) ?_
    rw [hD, wlift_pure, wbind_pure, orepr_ok hs, wlift_pure, wbind_pure, one_ss]
    exact Is.pure
  have nd3 : (([(tx_thickness, exL (sel f.cs d) d), (tx_start, exL (sel f.ss d) d)] ++ [(tx_neighbors, em)]).map (·.1)).Nodup := by
    simp only [List.map_append, List.map_cons, List.map_nil, List.cons_append, List.nil_append, List.nodup_cons, List.mem_cons, List.not_mem_nil, or_false, not_or, List.nodup_nil, not_false_iff, and_true]
    exact ⟨⟨txne6.2.2.2.1, txne6.2.2.2.2.1⟩, txne6.2.2.2.2.2⟩
  refine ask2 fun m hm => ?_
  simp only [List.mem_cons, List.not_mem_nil, or_false] at hm
  rcases hm with rfl | rfl | rfl
  · refine hall tx_neighbors em (fun k => F_law_outcome (netV f) (.str tx_neighbors) d k) ((nb_it hf hd hem).sho (by omega) (by omega)) (fun k hk => ?_) _ (oix_kv (p := (tx_neighbors, em)) nd3 (by simp))
    refine Ev.mono (ev_told (P := (· = em)) (nb_told hk ok hd hem) fun r hr => by rw [hr]; exact (nb_it hf hd hem).sho (by omega) (by omega)) fun s hs => ?_
    obtain ⟨r, rfl, rfl⟩ := hs
    rfl
  · refine hall tx_start (exL (sel f.ss d) d) (fun k => F_law_outcome (netV f) (.str tx_start) d k) ((exL_it hd m2).sho (by omega) (by omega)) (fun k hk => ?_) _ (oix_kv (p := (tx_start, exL (sel f.ss d) d)) nd3 (by simp))
    refine Ev.mono (ev_told (P := (· = exL (sel f.ss d) d)) (exL_told m2 (called_st hk ok hd)) fun r hr => by rw [hr]; exact (exL_it hd m2).sho (by omega) (by omega)) fun s hs => ?_
    obtain ⟨r, rfl, rfl⟩ := hs
    rfl
  · refine hall tx_thickness (exL (sel f.cs d) d) (fun k => F_law_outcome (netV f) (.str tx_thickness) d k) ((exL_it hd m1).sho (by omega) (by omega)) (fun k hk => ?_) _ (oix_kv (p := (tx_thickness, exL (sel f.cs d) d)) nd3 (by simp))
    refine Ev.mono (ev_told (P := (· = exL (sel f.cs d) d)) (exL_told m1 (called_th hk ok hd)) fun r hr => by rw [hr]; exact (exL_it hd m1).sho (by omega) (by omega)) fun s hs => ?_
    obtain ⟨r, rfl, rfl⟩ := hs
    rfl
end
end Lw

namespace Lw
open PySem PySem.Spec PyProof.Rows L2 PL
section
variable {f : FD} {x y : Str} {d : PyData}
def exW (f : FD) (a b : PyData) : PyData := if inN (f.cn ++ f.sn) a = true then (if inN (f.cn ++ f.sn) b = true then retT (wdt f a b) else unkT b) else unkT a
theorem wdt_sm (hf : FS f) {x : Str} {b : PyData} : Sm (wdt f (.str x) b) := by
  show Sm (hdOr (sel (nbs f x) b) _)
  cases h : sel (nbs f x) b with
  | nil => exact ⟨0, 1, rfl, by decide, by decide⟩
  | cons v l =>
    obtain ⟨c, hc, e⟩ := sel_mem (show v ∈ sel (nbs f x) b by rw [h]; exact List.mem_cons_self)
    show Sm v
    rw [← e]
    exact (nbs_sm hf hc).2
theorem exW_sho (hf : FS f) {a b : PyData} (ha : KI a) (hb : KI b) : Sho (exW f a b) := by
  unfold exW
  split
  · rename_i h1
    obtain ⟨x, rfl, _⟩ := inN_str h1
    split
    · exact ((it_ret (it_sm (wdt_sm hf))).up (k2 := 2) (w2 := 4500) (by omega) (by omega)).sho (by omega) (by omega)
    · exact (it_unk hb).sho (by omega) (by omega)
  · exact (it_unk ha).sho (by omega) (by omega)
theorem is_toldW (hf : FS f) {a b k : PyData} (ha : KI a) (hb : KI b) (hk : k = .bool false ∨ k = .bool true) : Is (F_law_width_outcome (netV f) a b k) (.str (exW f a b).shown) := by
  refine ev_toldW hf.ok ha hb hk (fun x hx h1 h2 => ?_) (exW_sho hf ha hb)
  subst hx
  exact sm_err (wdt_sm hf)
theorem is_widths (hf : FS f) {its : List PyData} (hi : ∀ d ∈ its, KI d) : Is (F_law_widths_correct (netV f) f.d (.list its) (.list ((f.cn ++ f.sn).map .str))) (.bool true) := by
  unfold F_law_widths_correct
  have ok := hf.ok
  have hs := hs1
  simp only [wbind_pure, wbind_bind, wl_cons, wl_nil, wseq_t, wseq_l, wlift_pure, wite_eq, wB_eq]
  refine ask2 fun a ha => ?_
  have ha := hi a ha
  refine ask3 fun b hb => ?_
  have hb := hi b hb
  refine Is.then (Is.lcSD (v := fun d => if inN (f.cn ++ f.sn) d = true then none else some d) (show 2 < sizeLine by omega) fun d hd => ?_) ?_
  · have hd : KI d := by
      simp only [List.mem_cons, List.not_mem_nil, or_false] at hd
      rcases hd with rfl | rfl
      · exact ha
      · exact hb
    unfold wlcE
    simp only [wbind_pure, wB_eq, hd.ni ok.nm, wlift_pure, wbind_bind, toB_bool]
    cases inN (f.cn ++ f.sn) d with
    | true => exact Is.pure
    | false => exact Is.pure
  have fin : Is (S := Unit) (wbind (wlift (ap4 F_law_width_outcome [netV f, a, b, .bool false])) fun u => wbind (wlift (orepr [exW f a b])) fun v => wbind (wlift (one u v)) fun z => wbind (toB z) fun c => wcond c (wret (wpure (PyData.bool false))) (wbind (wlift (ap4 F_law_width_outcome [netV f, a, b, .bool true])) fun u => wbind (wlift (orepr [exW f a b])) fun v => wbind (wlift (one u v)) fun z => wbind (toB z) fun c => wcond c (wret (wpure (PyData.bool false))) (wnx ()))) (.nx ()) := by
    rw [orepr_ok (exW_sho hf ha hb)]
    refine Is.then (Is.lift (is_toldW hf ha hb (.inl rfl))) ?_
    simp only [wlift_pure, wbind_pure, one_ss, toB_bool, wcond_f]
    refine Is.then (Is.lift (is_toldW hf ha hb (.inr rfl))) ?_
    simp only [wlift_pure, wbind_pure, one_ss, toB_bool, wcond_f]
    exact Is.pure
  have go : ∀ {F : W Unit PyData}, Is F (exW f a b) → Is (wbind F fun e => wbind (wlift (ap4 F_law_width_outcome [netV f, a, b, .bool false])) fun u => wbind (wlift (orepr [e])) fun v => wbind (wlift (one u v)) fun z => wbind (toB z) fun c => wcond c (wret (wpure (PyData.bool false))) (wbind (wlift (ap4 F_law_width_outcome [netV f, a, b, .bool true])) fun u => wbind (wlift (orepr [e])) fun v => wbind (wlift (one u v)) fun z => wbind (toB z) fun c => wcond c (wret (wpure (PyData.bool false))) (wnx ()))) (Fl.nx ()) := fun {F} h => Is.then h fin
  simp only [one_l0, wlift_pure, wbind_pure, toB_bool]
  refine go ?_
  unfold exW
  by_cases h1 : inN (f.cn ++ f.sn) a = true
  · by_cases h2 : inN (f.cn ++ f.sn) b = true
    · have e : ([a, b].filterMap fun d => if inN (f.cn ++ f.sn) d = true then none else some d) = [] := by
        simp only [List.filterMap_cons, h1, h2, if_true, List.filterMap_nil]
      rw [e, if_pos h1, if_pos h2]
      obtain ⟨x, rfl, hx⟩ := inN_str h1
      obtain ⟨y, rfl, hy⟩ := inN_str h2
      show Is (wbind (wlift (F_law_breadth f.d (.str x) (.str y))) _) _
      refine Is.then (Is.lift (is_breadth ok hx)) ?_
      exact Is.pure
    · have e : ([a, b].filterMap fun d => if inN (f.cn ++ f.sn) d = true then none else some d) = [b] := by
        simp only [List.filterMap_cons, h1, if_neg h2, if_true, List.filterMap_nil]
      rw [e, if_pos h1, if_neg h2]
      show Is (wbind (wlift (oix (.list [b]) (.int 0))) _) _
      rw [oix_l, atI_zero]
      exact Is.pure
  · have e : ∃ l, ([a, b].filterMap fun d => if inN (f.cn ++ f.sn) d = true then none else some d) = a :: l := ⟨_, by
      rw [List.filterMap_cons, if_neg h1]⟩
    obtain ⟨l, e⟩ := e
    rw [e, if_neg h1]
    show Is (wbind (wlift (oix (.list (a :: l)) (.int 0))) _) _
    rw [oix_l, atI_zero]
    exact Is.pure
end
/-! texts near the names -/
theorem okS_cut {z : Str} (h : okS z = true) (lo hi : Option Int) : okS (cutS z lo hi) = true := by
  refine List.all_eq_true.mpr fun c hc => ?_
  exact List.all_eq_true.mp h c (List.mem_of_mem_drop (List.mem_of_mem_take hc))
theorem cutS_len (z : Str) (lo hi : Option Int) : (cutS z lo hi).length ≤ z.length := by
  show ((List.take _ (List.drop _ z.cps.toList)).toArray).size ≤ z.cps.size
  rw [List.size_toArray, List.length_take, List.length_drop, Array.length_toList]
  omega
theorem okS_app {a b : Str} (h1 : okS a = true) (h2 : okS b = true) : okS (a ++ b) = true := by
  unfold okS at *
  have e : (a ++ b).cps.toList = a.cps.toList ++ b.cps.toList := by
    show (a.cps ++ b.cps).toList = _
    rw [Array.toList_append]
  rw [e, List.all_append, h1, h2]; rfl
theorem ki_s {x : Str} (h : okS x = true) (hl : x.length ≤ 9) : KI (.str x) := .inl ⟨x, rfl, h, hl⟩
theorem odd_texts : ∀ x ∈ [tx_none, tx_u41, tx_zzzzzzzz, tx_h3f7346], okS x = true ∧ x.length ≤ 9 := by decide +kernel
def oddAll : List PyData := [.none, .bool true, .int 0, .str tx_none, .str tx_u41, .str tx_zzzzzzzz, .str tx_h3f7346, .tuple [.str tx_a], .list [], .list [.str tx_a], .dict [], .tuple [.int 0, .int 1]]
theorem ki_odd : ∀ d ∈ oddAll, KI d := by
  have ho : ∀ d ∈ oddL, KI d := fun d hd => .inr (odd_all d hd)
  have ht : ∀ x ∈ [tx_none, tx_u41, tx_zzzzzzzz, tx_h3f7346], KI (.str x) := fun x hx => ki_s (odd_texts x hx).1 (odd_texts x hx).2
  intro d hd
  unfold oddAll at hd
  unfold oddL at ho
  simp only [List.mem_cons, List.not_mem_nil, or_false] at hd ho ht
  rcases hd with rfl | rfl | rfl | rfl | rfl | rfl | rfl | rfl | rfl | rfl | rfl | rfl
  · exact ho _ (.inl rfl)
  · exact ho _ (.inr (.inl rfl))
  · exact ho _ (.inr (.inr (.inl rfl)))
  · exact ht _ (.inl rfl)
  · exact ht _ (.inr (.inl rfl))
  · exact ht _ (.inr (.inr (.inl rfl)))
  · exact ht _ (.inr (.inr (.inr rfl)))
  · exact ho _ (.inr (.inr (.inr (.inl rfl))))
  · exact ho _ (.inr (.inr (.inr (.inr (.inl rfl)))))
  · exact ho _ (.inr (.inr (.inr (.inr (.inr (.inl rfl))))))
  · exact ho _ (.inr (.inr (.inr (.inr (.inr (.inr (.inl rfl)))))))
  · exact ho _ (.inr (.inr (.inr (.inr (.inr (.inr (.inr rfl)))))))
theorem tx_a_ok : okS tx_a = true ∧ tx_a.length = 1 := by decide +kernel
theorem askD {S : Type} {G : PyData → Unit → W S (Fl Unit)} {xs : List PyData} (h : ∀ x ∈ xs, Is (G x ()) (.nx ())) : Is (fthen (wfor G xs ()) fun _ => wpure (PyData.bool true)) (.bool true) := by
  refine Is.fnx (a := ()) (wfor_nxD xs h) ?_
  exact Ev.pure rfl
theorem law_ok (ns : List Int) (h1 : ns.length ≤ 63) (h2 : ∀ z ∈ ns, Builtin.Int.intBits z ≤ 1048576) : F_law (scrD ns) () fun d _ => d = .bool true := by
  unfold F_law
  refine ev_deck ns () _ fun dk hdk => ?_
  have main : ∀ m : W DL3 PyData, Sp 100000 m (fun d => d = .bool true) → m dk (fun d _ => d = .bool true) := fun m hm => hm dk hdk _ fun a s' ha _ _ => ha
  refine main _ ?_
  have hs := hs1
  have rng2 : wrange1 [.int 2] = wpure (rangeD 0 2) := by
    rw [wrange1_i, wgd_t ⟨by decide, by decide⟩]; rfl
  have r2 : rangeD 0 2 = [.int 0, .int 1] := rfl
  simp only [wbind_pure, wbind_bind, wl_cons, wl_nil, apD, ap0, rng2, wlift_pure, r2]
  refine Sp.mono (Sp.bind (m := 0) (Sp.app (n := 1000) (R := fun _ e => ∃ f : FD, FS f ∧ e = .tuple [netV f, f.d]) [.int 0, .int 1] [] (fun x hx ds hds => ?_) (by simp only [List.length_cons, List.length_nil]; omega)) fun d hd => ?_) (by decide) fun _ z => z
  · refine Sp.mono (Sp.bind (m := 0) sp_parts fun d hd => ?_) (by decide) fun _ z => z
    obtain ⟨f, rfl, hf⟩ := hd
    simp only [d0, d1, d2, wlift_pure, wbind_pure, wapp_eq, wbind_bind]
    refine Sp.ev (ev_field hf.ok) fun r hr => ?_
    subst hr
    refine Sp.gd (by omega) ?_
    exact Sp.pure ⟨_, rfl, f, hf, rfl⟩
  obtain ⟨es, rfl, hes⟩ := hd
  obtain ⟨f, g, hf, hg, rfl⟩ : ∃ f g : FD, FS f ∧ FS g ∧ es = [.tuple [netV f, f.d], .tuple [netV g, g.d]] := by
    cases hes with
    | cons a r =>
      cases r with
      | cons b r =>
        cases r
        obtain ⟨f, hf, rfl⟩ := a
        obtain ⟨g, hg, rfl⟩ := b
        exact ⟨f, g, hf, hg, rfl⟩
  rw [List.nil_append]
  have e1 : osl (.list [PyData.tuple [netV f, f.d], .tuple [netV g, g.d]]) none (some 1) = wpure (.list [PyData.tuple [netV f, f.d]]) := by
    rw [osl_l, show (1 : Int) = ((1 : Nat) : Int) from rfl, PL.cutD_to]; rfl
  have e2 : oadd (.list [PyData.tuple [netV f, f.d], .tuple [netV g, g.d]]) (.list [PyData.tuple [netV f, f.d]]) = wpure (.list [PyData.tuple [netV f, f.d], .tuple [netV g, g.d], .tuple [netV f, f.d]]) := by
    rw [oadd_l, wgd_t (by simp only [List.length_cons, List.length_nil]; omega)]; rfl
  simp only [toI_g, wbind_pure, e1, e2, wlift_pure, wseq_l]
  refine Ev.sp ?_
  refine askD fun p hp => ?_
  obtain ⟨f, hf, rfl⟩ : ∃ f : FD, FS f ∧ p = .tuple [netV f, f.d] := by
    simp only [List.mem_cons, List.not_mem_nil, or_false] at hp
    rcases hp with rfl | rfl | rfl
    · exact ⟨f, hf, rfl⟩
    · exact ⟨g, hg, rfl⟩
    · exact ⟨f, hf, rfl⟩
  have ok := hf.ok
  have hz12 := hf.z
  have ea : oadd (.tuple (f.cs.map ent)) (.tuple (f.ss.map ent)) = wpure (.tuple ((f.cs ++ f.ss).map ent)) := by
    rw [oadd_t, wgd_t (by rw [List.length_map, List.length_map]; omega), List.map_append]
  simp only [w2_t, wbind_pure, d0, d1, ea, wseq_t, wlift_pure]
  have hzc : (f.cs ++ f.ss).length ≤ 12 := by rw [List.length_append]; omega
  refine Is.then (Is.mapS (e := ent) (v := fun c => .str c.1) (by omega) fun c _ => ?_) ?_
  · exact Is.pure
  have en : ((f.cs ++ f.ss).map fun c => PyData.str c.1) = (f.cn ++ f.sn).map .str := by
    unfold FD.cn FD.sn
    rw [← List.map_append, List.map_map]; rfl
  have hnl : (f.cn ++ f.sn).length ≤ 12 := by
    unfold FD.cn FD.sn
    rw [← List.map_append, List.length_map]; exact hzc
  have hnm := ok.nm
  have iw := fun its (hi : ∀ d ∈ its, KI d) => is_widths hf hi
  rw [en]
  generalize f.cn ++ f.sn = names at hnl hnm iw ⊢
  have ecut : ∀ lo hi, PL.cutD (names.map PyData.str) lo hi = (PL.cutD names lo hi).map .str := fun lo hi => by
    unfold PL.cutD
    rw [List.length_map, List.map_take, List.map_drop]
  have hcl : ∀ lo hi, (PL.cutD names lo hi).length ≤ 12 := fun lo hi => by
    unfold PL.cutD
    rw [List.length_take, List.length_drop]; omega
  simp only [osl_l, ecut, wlift_pure, wbind_pure, wseq_l]
  refine Is.then (Is.mapS (e := PyData.str) (v := fun x => .str (cutS x none (some (-1)))) (by have := hcl none (some 2); omega) fun x hx => ?_) ?_
  · have hx := hnm x (cutD_mem x hx)
    simp only [oneg_i, toI_g, osl_s, wlift_pure, wbind_pure]
    rw [wgd_t (by have := hx.2.1; omega)]
    exact Is.pure
  simp only [oneg_i, toI_g, osl_l, ecut, wlift_pure, wbind_pure, wseq_l]
  refine Is.then (Is.mapS (e := PyData.str) (v := fun x => .str (x ++ tx_a)) (by have := hcl (some (-2)) none; omega) fun x hx => ?_) ?_
  · have hx := hnm x (cutD_mem x hx)
    rw [oadd_s, wgd_t (by have := hx.2.1; rw [tx_a_ok.2]; omega)]
    exact Is.pure
  have e3 : ((PL.cutD names none (some 2)).map fun x => PyData.str (cutS x none (some (-1)))) ++ ((PL.cutD names (some (-2)) none).map fun x => PyData.str (x ++ tx_a)) = ((PL.cutD names none (some 2)).map (fun x => cutS x none (some (-1))) ++ (PL.cutD names (some (-2)) none).map (fun x => x ++ tx_a)).map .str := by
    rw [List.map_append, List.map_map, List.map_map]; rfl
  have hzs : ∀ z ∈ (PL.cutD names none (some 2)).map (fun x => cutS x none (some (-1))) ++ (PL.cutD names (some (-2)) none).map (fun x => x ++ tx_a), okS z = true ∧ z.length ≤ 9 := fun z hz => by
    rcases List.mem_append.mp hz with h | h
    · obtain ⟨x, hx, rfl⟩ := List.mem_map.mp h
      have hx := hnm x (cutD_mem x hx)
      exact ⟨okS_cut (okS_name hx) _ _, by have := cutS_len x none (some (-1)); have := hx.2.1; omega⟩
    · obtain ⟨x, hx, rfl⟩ := List.mem_map.mp h
      have hx := hnm x (cutD_mem x hx)
      exact ⟨okS_app (okS_name hx) tx_a_ok.1, by rw [len_app, tx_a_ok.2]; have := hx.2.1; omega⟩
  have hzl : ((PL.cutD names none (some 2)).map (fun x => cutS x none (some (-1))) ++ (PL.cutD names (some (-2)) none).map (fun x => x ++ tx_a)).length ≤ 24 := by
    rw [List.length_append, List.length_map, List.length_map]
    have := hcl none (some 2); have := hcl (some (-2)) none; omega
  rw [oadd_l, wgd_t (by rw [List.length_map, List.length_map]; have := hcl none (some 2); have := hcl (some (-2)) none; omega), e3]
  generalize (PL.cutD names none (some 2)).map (fun x => cutS x none (some (-1))) ++ (PL.cutD names (some (-2)) none).map (fun x => x ++ tx_a) = zs at hzs hzl ⊢
  simp only [wlift_pure, wbind_pure]
  have eo : oadd (.list (names.map .str)) (.list [PyData.none, .bool true, .int 0, .str tx_none, .str tx_u41, .str tx_zzzzzzzz, .str tx_h3f7346, .tuple [.str tx_a], .list [], .list [.str tx_a], .dict [], .tuple [.int 0, .int 1]]) = wpure (.list (names.map .str ++ oddAll)) := by
    rw [oadd_l, wgd_t (by rw [List.length_map]; show _ + 12 ≤ _; omega)]; rfl
  rw [eo]
  simp only [wlift_pure, wbind_pure, wseq_l]
  refine Is.then (Is.lcS (e := PyData.str) (v := fun z => if z ∈ names then none else some (.str z)) (by omega) fun z hz => ?_) ?_
  · unfold wlcE
    simp only [oni_sl, wB_eq, wlift_pure, wbind_pure, toB_bool]
    by_cases h : z ∈ names
    · rw [decide_eq_true h, if_pos h]; exact Is.pure
    · rw [decide_eq_false h, if_neg h]; exact Is.pure
  have hfl : (zs.filterMap fun z => if z ∈ names then none else some (PyData.str z)).length ≤ 24 := Nat.le_trans (List.length_filterMap_le _ _) hzl
  have hki : ∀ d ∈ names.map .str ++ oddAll ++ (zs.filterMap fun z => if z ∈ names then none else some (PyData.str z)), KI d := fun d hd => by
    rcases List.mem_append.mp hd with h | h
    · rcases List.mem_append.mp h with h | h
      · obtain ⟨x, hx, rfl⟩ := List.mem_map.mp h
        exact ki_s (okS_name (hnm x hx)) (by have := (hnm x hx).2.1; omega)
      · exact ki_odd d h
    · obtain ⟨z, hz, e⟩ := List.mem_filterMap.mp h
      split at e
      · cases e
      · injection e with e
        rw [← e]
        exact ki_s (hzs z hz).1 (hzs z hz).2
  have hol : oddAll.length = 12 := rfl
  have hil : (names.map PyData.str ++ oddAll ++ (zs.filterMap fun z => if z ∈ names then none else some (PyData.str z))).length ≤ 48 := by
    rw [List.length_append, List.length_append, List.length_map]; omega
  rw [oadd_l, wgd_t (by rw [List.length_append, List.length_map]; omega)]
  generalize names.map .str ++ oddAll ++ (zs.filterMap fun z => if z ∈ names then none else some (PyData.str z)) = its at hki hil ⊢
  have nc : wfld (S := DL3) "Field" "cells" (netV f) = wpure (.tuple (f.cs.map ent)) := by unfold netV; exact fld_cells
  have ns' : wfld (S := DL3) "Field" "springs" (netV f) = wpure (.tuple (f.ss.map ent)) := by unfold netV; exact fld_springs
  have nh : wfld (S := DL3) "Field" "channels" (netV f) = wpure (.tuple (f.ch.map chD)) := by unfold netV; exact fld_chan
  have ed : PyData.tuple [.tuple (f.cs.map ent), .tuple (f.ss.map ent), .tuple (f.ch.map chD)] = f.d := rfl
  have er : orepr [f.d] = wpure (.str f.d.shown) := orepr_ok ((it_fd hf).sho (by omega) (by omega))
  simp only [wlift_pure, wbind_pure, nc, ns', nh, ed, er, wseq_l, wite_eq, wB_eq, wnot_eq, wor_eq, wbind_bind, one_ss, toB_bool, wcond_f]
  refine Is.then (Is.lcSD (v := fun _ => none) (by omega) fun d hd => ?_) ?_
  · unfold wlcE
    simp only [wbind_bind, wB_eq, wnot_eq]
    refine Is.then (Is.lift (is_one hf (hki d hd))) ?_
    exact Is.pure
  have e0 : (its.filterMap fun _ => (none : Option PyData)) = [] := by
    rw [List.filterMap_eq_nil_iff]; exact fun _ _ => rfl
  rw [e0]
  simp only [one_l0, List.isEmpty_nil, Bool.not_true, wlift_pure, wbind_pure, toB_bool, wcond_f]
  refine Is.then (Is.lift (iw its hki)) ?_
  exact Is.pure
end Lw

namespace Lw
open PySem PySem.Spec PyProof.Rows L2 PL
theorem all_mk {l : PySem.W.OpenLaw} {w : World} {K : PySem.W.Frag} {h : Heap} {mg : Str → Option Value} {fa : Addr} (X : K.In h) (G : h.Ns mainGlobals mg) (hfa : mg "law" = some (.ref fa))
    {c_Field : Addr}
    {c_InvalidField : Addr} {oo_InvalidField : Obj}
    {c_InvalidNumber : Addr} {oo_InvalidNumber : Obj}
    {c_ThawError : Addr}
    {c_UnknownName : Addr} {oo_UnknownName : Obj}
    {a_is_name : Addr} {od_is_name an_is_name : Option Addr} {sl_is_name : Array (Option Value)} {oc_is_name kV_is_name dc_is_name pm_is_name cd_is_name ct_is_name : Value}
    {a_is_integer : Addr} {od_is_integer an_is_integer : Option Addr} {sl_is_integer : Array (Option Value)} {oc_is_integer kV_is_integer dc_is_integer pm_is_integer cd_is_integer ct_is_integer : Value}
    {a_common_divisor : Addr} {od_common_divisor an_common_divisor : Option Addr} {sl_common_divisor : Array (Option Value)} {oc_common_divisor kV_common_divisor dc_common_divisor pm_common_divisor cd_common_divisor ct_common_divisor : Value}
    {a_is_ascending : Addr} {od_is_ascending an_is_ascending : Option Addr} {sl_is_ascending : Array (Option Value)} {oc_is_ascending kV_is_ascending dc_is_ascending pm_is_ascending cd_is_ascending ct_is_ascending : Value}
    {a_law_deck : Addr} {od_law_deck an_law_deck : Option Addr} {sl_law_deck : Array (Option Value)} {oc_law_deck kV_law_deck dc_law_deck pm_law_deck cd_law_deck ct_law_deck : Value}
    {a_law_draw : Addr} {od_law_draw an_law_draw : Option Addr} {sl_law_draw : Array (Option Value)} {oc_law_draw kV_law_draw dc_law_draw pm_law_draw cd_law_draw ct_law_draw : Value}
    {a_law_lowest : Addr} {od_law_lowest an_law_lowest : Option Addr} {sl_law_lowest : Array (Option Value)} {oc_law_lowest kV_law_lowest dc_law_lowest pm_law_lowest cd_law_lowest ct_law_lowest : Value}
    {a_law_neighbors : Addr} {od_law_neighbors an_law_neighbors : Option Addr} {sl_law_neighbors : Array (Option Value)} {oc_law_neighbors kV_law_neighbors dc_law_neighbors pm_law_neighbors cd_law_neighbors ct_law_neighbors : Value}
    {a_is_rational : Addr} {od_is_rational an_is_rational : Option Addr} {sl_is_rational : Array (Option Value)} {oc_is_rational kV_is_rational dc_is_rational pm_is_rational cd_is_rational ct_is_rational : Value}
    {a_law_names : Addr} {od_law_names an_law_names : Option Addr} {sl_law_names : Array (Option Value)} {oc_law_names kV_law_names dc_law_names pm_law_names cd_law_names ct_law_names : Value}
    {a_law_rational : Addr} {od_law_rational an_law_rational : Option Addr} {sl_law_rational : Array (Option Value)} {oc_law_rational kV_law_rational dc_law_rational pm_law_rational cd_law_rational ct_law_rational : Value}
    {a_law_breadth : Addr} {od_law_breadth an_law_breadth : Option Addr} {sl_law_breadth : Array (Option Value)} {oc_law_breadth kV_law_breadth dc_law_breadth pm_law_breadth cd_law_breadth ct_law_breadth : Value}
    {a_is_positive : Addr} {od_is_positive an_is_positive : Option Addr} {sl_is_positive : Array (Option Value)} {oc_is_positive kV_is_positive dc_is_positive pm_is_positive cd_is_positive ct_is_positive : Value}
    {a_is_nonnegative : Addr} {od_is_nonnegative an_is_nonnegative : Option Addr} {sl_is_nonnegative : Array (Option Value)} {oc_is_nonnegative kV_is_nonnegative dc_is_nonnegative pm_is_nonnegative cd_is_nonnegative ct_is_nonnegative : Value}
    {a_law_parts : Addr} {od_law_parts an_law_parts : Option Addr} {sl_law_parts : Array (Option Value)} {oc_law_parts kV_law_parts dc_law_parts pm_law_parts cd_law_parts ct_law_parts : Value}
    {a_are_nodes : Addr} {od_are_nodes an_are_nodes : Option Addr} {sl_are_nodes : Array (Option Value)} {oc_are_nodes kV_are_nodes dc_are_nodes pm_are_nodes cd_are_nodes ct_are_nodes : Value}
    {a_is_channel : Addr} {od_is_channel an_is_channel : Option Addr} {sl_is_channel : Array (Option Value)} {oc_is_channel kV_is_channel dc_is_channel pm_is_channel cd_is_channel ct_is_channel : Value}
    {a_are_channels : Addr} {od_are_channels an_are_channels : Option Addr} {sl_are_channels : Array (Option Value)} {oc_are_channels kV_are_channels dc_are_channels pm_are_channels cd_are_channels ct_are_channels : Value}
    {a_InvalidNumber___init__ : Addr} {od_InvalidNumber___init__ an_InvalidNumber___init__ : Option Addr} {sl_InvalidNumber___init__ : Array (Option Value)} {oc_InvalidNumber___init__ kV_InvalidNumber___init__ dc_InvalidNumber___init__ pm_InvalidNumber___init__ cd_InvalidNumber___init__ ct_InvalidNumber___init__ : Value}
    {a_UnknownName___init__ : Addr} {od_UnknownName___init__ an_UnknownName___init__ : Option Addr} {sl_UnknownName___init__ : Array (Option Value)} {oc_UnknownName___init__ kV_UnknownName___init__ dc_UnknownName___init__ pm_UnknownName___init__ cd_UnknownName___init__ ct_UnknownName___init__ : Value}
    {a_Field_require_node : Addr} {od_Field_require_node an_Field_require_node : Option Addr} {sl_Field_require_node : Array (Option Value)} {oc_Field_require_node kV_Field_require_node dc_Field_require_node pm_Field_require_node cd_Field_require_node ct_Field_require_node : Value}
    {a_Field_thickness : Addr} {od_Field_thickness an_Field_thickness : Option Addr} {sl_Field_thickness : Array (Option Value)} {oc_Field_thickness kV_Field_thickness dc_Field_thickness pm_Field_thickness cd_Field_thickness ct_Field_thickness : Value}
    {a_Field_start : Addr} {od_Field_start an_Field_start : Option Addr} {sl_Field_start : Array (Option Value)} {oc_Field_start kV_Field_start dc_Field_start pm_Field_start cd_Field_start ct_Field_start : Value}
    {a_Field_neighbors : Addr} {od_Field_neighbors an_Field_neighbors : Option Addr} {sl_Field_neighbors : Array (Option Value)} {oc_Field_neighbors kV_Field_neighbors dc_Field_neighbors pm_Field_neighbors cd_Field_neighbors ct_Field_neighbors : Value}
    {a_Field_width : Addr} {od_Field_width an_Field_width : Option Addr} {sl_Field_width : Array (Option Value)} {oc_Field_width kV_Field_width dc_Field_width pm_Field_width cd_Field_width ct_Field_width : Value}
    {a_law_called : Addr} {od_law_called an_law_called : Option Addr} {sl_law_called : Array (Option Value)} {oc_law_called kV_law_called dc_law_called pm_law_called cd_law_called ct_law_called : Value}
    {a_law_width_outcome : Addr} {od_law_width_outcome an_law_width_outcome : Option Addr} {sl_law_width_outcome : Array (Option Value)} {oc_law_width_outcome kV_law_width_outcome dc_law_width_outcome pm_law_width_outcome cd_law_width_outcome ct_law_width_outcome : Value}
    {a_law_outcome : Addr} {od_law_outcome an_law_outcome : Option Addr} {sl_law_outcome : Array (Option Value)} {oc_law_outcome kV_law_outcome dc_law_outcome pm_law_outcome cd_law_outcome ct_law_outcome : Value}
    {a_law_widths_correct : Addr} {od_law_widths_correct an_law_widths_correct : Option Addr} {sl_law_widths_correct : Array (Option Value)} {oc_law_widths_correct kV_law_widths_correct dc_law_widths_correct pm_law_widths_correct cd_law_widths_correct ct_law_widths_correct : Value}
    {a_law_one_correct : Addr} {od_law_one_correct an_law_one_correct : Option Addr} {sl_law_one_correct : Array (Option Value)} {oc_law_one_correct kV_law_one_correct dc_law_one_correct pm_law_one_correct cd_law_one_correct ct_law_one_correct : Value}
    {a_InvalidField___init__ : Addr} {od_InvalidField___init__ an_InvalidField___init__ : Option Addr} {sl_InvalidField___init__ : Array (Option Value)} {oc_InvalidField___init__ kV_InvalidField___init__ dc_InvalidField___init__ pm_InvalidField___init__ cd_InvalidField___init__ ct_InvalidField___init__ : Value}
    {a_Field___init__ : Addr} {od_Field___init__ an_Field___init__ : Option Addr} {sl_Field___init__ : Array (Option Value)} {oc_Field___init__ kV_Field___init__ dc_Field___init__ pm_Field___init__ cd_Field___init__ ct_Field___init__ : Value}
    {a_law : Addr} {od_law an_law : Option Addr} {sl_law : Array (Option Value)} {oc_law kV_law dc_law pm_law cd_law ct_law : Value}
    {t_LETTERS : Tok}
    {t_MAX_LENGTH : Tok}
    {a_ZERO : Addr} {zl_ZERO : Array (Option Value)} {n_ZERO : Nat} {t0_ZERO : Tok} {t1_ZERO : Tok}
    (g_c_Field : PySem.W.nsIn K mainGlobals "Field" = some (some (.ref c_Field)))
    (g_c_InvalidField : PySem.W.nsIn K mainGlobals "InvalidField" = some (some (.ref c_InvalidField)))
    (g_c_InvalidNumber : PySem.W.nsIn K mainGlobals "InvalidNumber" = some (some (.ref c_InvalidNumber)))
    (g_c_ThawError : PySem.W.nsIn K mainGlobals "ThawError" = some (some (.ref c_ThawError)))
    (g_c_UnknownName : PySem.W.nsIn K mainGlobals "UnknownName" = some (some (.ref c_UnknownName)))
    (g_is_name : PySem.W.nsIn K mainGlobals "is_name" = some (some (.ref a_is_name))) (l_is_name : K.lookup a_is_name = some ⟨oc_is_name, od_is_name, .func (PySem.W.fnOf "is_name" "is_name" (defArgs s_is_name) (defBody s_is_name) (defScope s_is_name) .none kV_is_name dc_is_name pm_is_name an_is_name cd_is_name ct_is_name), sl_is_name⟩) (c_is_name : PySem.W.codeIn K cd_is_name "is_name" = true) (k_is_name : PySem.W.keepIn K (.ref a_is_name) = true)
    (g_is_integer : PySem.W.nsIn K mainGlobals "is_integer" = some (some (.ref a_is_integer))) (l_is_integer : K.lookup a_is_integer = some ⟨oc_is_integer, od_is_integer, .func (PySem.W.fnOf "is_integer" "is_integer" (defArgs s_is_integer) (defBody s_is_integer) (defScope s_is_integer) .none kV_is_integer dc_is_integer pm_is_integer an_is_integer cd_is_integer ct_is_integer), sl_is_integer⟩) (c_is_integer : PySem.W.codeIn K cd_is_integer "is_integer" = true) (k_is_integer : PySem.W.keepIn K (.ref a_is_integer) = true)
    (g_common_divisor : PySem.W.nsIn K mainGlobals "common_divisor" = some (some (.ref a_common_divisor))) (l_common_divisor : K.lookup a_common_divisor = some ⟨oc_common_divisor, od_common_divisor, .func (PySem.W.fnOf "common_divisor" "common_divisor" (defArgs s_common_divisor) (defBody s_common_divisor) (defScope s_common_divisor) .none kV_common_divisor dc_common_divisor pm_common_divisor an_common_divisor cd_common_divisor ct_common_divisor), sl_common_divisor⟩) (c_common_divisor : PySem.W.codeIn K cd_common_divisor "common_divisor" = true) (k_common_divisor : PySem.W.keepIn K (.ref a_common_divisor) = true)
    (g_is_ascending : PySem.W.nsIn K mainGlobals "is_ascending" = some (some (.ref a_is_ascending))) (l_is_ascending : K.lookup a_is_ascending = some ⟨oc_is_ascending, od_is_ascending, .func (PySem.W.fnOf "is_ascending" "is_ascending" (defArgs s_is_ascending) (defBody s_is_ascending) (defScope s_is_ascending) .none kV_is_ascending dc_is_ascending pm_is_ascending an_is_ascending cd_is_ascending ct_is_ascending), sl_is_ascending⟩) (c_is_ascending : PySem.W.codeIn K cd_is_ascending "is_ascending" = true) (k_is_ascending : PySem.W.keepIn K (.ref a_is_ascending) = true)
    (g_law_deck : PySem.W.nsIn K mainGlobals "_law_deck" = some (some (.ref a_law_deck))) (l_law_deck : K.lookup a_law_deck = some ⟨oc_law_deck, od_law_deck, .func (PySem.W.fnOf "_law_deck" "_law_deck" (defArgs s_law_deck) (defBody s_law_deck) (defScope s_law_deck) .none kV_law_deck dc_law_deck pm_law_deck an_law_deck cd_law_deck ct_law_deck), sl_law_deck⟩) (c_law_deck : PySem.W.codeIn K cd_law_deck "_law_deck" = true) (k_law_deck : PySem.W.keepIn K (.ref a_law_deck) = true)
    (g_law_draw : PySem.W.nsIn K mainGlobals "_law_draw" = some (some (.ref a_law_draw))) (l_law_draw : K.lookup a_law_draw = some ⟨oc_law_draw, od_law_draw, .func (PySem.W.fnOf "_law_draw" "_law_draw" (defArgs s_law_draw) (defBody s_law_draw) (defScope s_law_draw) .none kV_law_draw dc_law_draw pm_law_draw an_law_draw cd_law_draw ct_law_draw), sl_law_draw⟩) (c_law_draw : PySem.W.codeIn K cd_law_draw "_law_draw" = true) (k_law_draw : PySem.W.keepIn K (.ref a_law_draw) = true)
    (g_law_lowest : PySem.W.nsIn K mainGlobals "_law_lowest" = some (some (.ref a_law_lowest))) (l_law_lowest : K.lookup a_law_lowest = some ⟨oc_law_lowest, od_law_lowest, .func (PySem.W.fnOf "_law_lowest" "_law_lowest" (defArgs s_law_lowest) (defBody s_law_lowest) (defScope s_law_lowest) .none kV_law_lowest dc_law_lowest pm_law_lowest an_law_lowest cd_law_lowest ct_law_lowest), sl_law_lowest⟩) (c_law_lowest : PySem.W.codeIn K cd_law_lowest "_law_lowest" = true) (k_law_lowest : PySem.W.keepIn K (.ref a_law_lowest) = true)
    (g_law_neighbors : PySem.W.nsIn K mainGlobals "_law_neighbors" = some (some (.ref a_law_neighbors))) (l_law_neighbors : K.lookup a_law_neighbors = some ⟨oc_law_neighbors, od_law_neighbors, .func (PySem.W.fnOf "_law_neighbors" "_law_neighbors" (defArgs s_law_neighbors) (defBody s_law_neighbors) (defScope s_law_neighbors) .none kV_law_neighbors dc_law_neighbors pm_law_neighbors an_law_neighbors cd_law_neighbors ct_law_neighbors), sl_law_neighbors⟩) (c_law_neighbors : PySem.W.codeIn K cd_law_neighbors "_law_neighbors" = true) (k_law_neighbors : PySem.W.keepIn K (.ref a_law_neighbors) = true)
    (g_is_rational : PySem.W.nsIn K mainGlobals "is_rational" = some (some (.ref a_is_rational))) (l_is_rational : K.lookup a_is_rational = some ⟨oc_is_rational, od_is_rational, .func (PySem.W.fnOf "is_rational" "is_rational" (defArgs s_is_rational) (defBody s_is_rational) (defScope s_is_rational) .none kV_is_rational dc_is_rational pm_is_rational an_is_rational cd_is_rational ct_is_rational), sl_is_rational⟩) (c_is_rational : PySem.W.codeIn K cd_is_rational "is_rational" = true) (k_is_rational : PySem.W.keepIn K (.ref a_is_rational) = true)
    (g_law_names : PySem.W.nsIn K mainGlobals "_law_names" = some (some (.ref a_law_names))) (l_law_names : K.lookup a_law_names = some ⟨oc_law_names, od_law_names, .func (PySem.W.fnOf "_law_names" "_law_names" (defArgs s_law_names) (defBody s_law_names) (defScope s_law_names) .none kV_law_names dc_law_names pm_law_names an_law_names cd_law_names ct_law_names), sl_law_names⟩) (c_law_names : PySem.W.codeIn K cd_law_names "_law_names" = true) (k_law_names : PySem.W.keepIn K (.ref a_law_names) = true)
    (g_law_rational : PySem.W.nsIn K mainGlobals "_law_rational" = some (some (.ref a_law_rational))) (l_law_rational : K.lookup a_law_rational = some ⟨oc_law_rational, od_law_rational, .func (PySem.W.fnOf "_law_rational" "_law_rational" (defArgs s_law_rational) (defBody s_law_rational) (defScope s_law_rational) .none kV_law_rational dc_law_rational pm_law_rational an_law_rational cd_law_rational ct_law_rational), sl_law_rational⟩) (c_law_rational : PySem.W.codeIn K cd_law_rational "_law_rational" = true) (k_law_rational : PySem.W.keepIn K (.ref a_law_rational) = true)
    (g_law_breadth : PySem.W.nsIn K mainGlobals "_law_breadth" = some (some (.ref a_law_breadth))) (l_law_breadth : K.lookup a_law_breadth = some ⟨oc_law_breadth, od_law_breadth, .func (PySem.W.fnOf "_law_breadth" "_law_breadth" (defArgs s_law_breadth) (defBody s_law_breadth) (defScope s_law_breadth) .none kV_law_breadth dc_law_breadth pm_law_breadth an_law_breadth cd_law_breadth ct_law_breadth), sl_law_breadth⟩) (c_law_breadth : PySem.W.codeIn K cd_law_breadth "_law_breadth" = true) (k_law_breadth : PySem.W.keepIn K (.ref a_law_breadth) = true)
    (g_is_positive : PySem.W.nsIn K mainGlobals "is_positive" = some (some (.ref a_is_positive))) (l_is_positive : K.lookup a_is_positive = some ⟨oc_is_positive, od_is_positive, .func (PySem.W.fnOf "is_positive" "is_positive" (defArgs s_is_positive) (defBody s_is_positive) (defScope s_is_positive) .none kV_is_positive dc_is_positive pm_is_positive an_is_positive cd_is_positive ct_is_positive), sl_is_positive⟩) (c_is_positive : PySem.W.codeIn K cd_is_positive "is_positive" = true) (k_is_positive : PySem.W.keepIn K (.ref a_is_positive) = true)
    (g_is_nonnegative : PySem.W.nsIn K mainGlobals "is_nonnegative" = some (some (.ref a_is_nonnegative))) (l_is_nonnegative : K.lookup a_is_nonnegative = some ⟨oc_is_nonnegative, od_is_nonnegative, .func (PySem.W.fnOf "is_nonnegative" "is_nonnegative" (defArgs s_is_nonnegative) (defBody s_is_nonnegative) (defScope s_is_nonnegative) .none kV_is_nonnegative dc_is_nonnegative pm_is_nonnegative an_is_nonnegative cd_is_nonnegative ct_is_nonnegative), sl_is_nonnegative⟩) (c_is_nonnegative : PySem.W.codeIn K cd_is_nonnegative "is_nonnegative" = true) (k_is_nonnegative : PySem.W.keepIn K (.ref a_is_nonnegative) = true)
    (g_law_parts : PySem.W.nsIn K mainGlobals "_law_parts" = some (some (.ref a_law_parts))) (l_law_parts : K.lookup a_law_parts = some ⟨oc_law_parts, od_law_parts, .func (PySem.W.fnOf "_law_parts" "_law_parts" (defArgs s_law_parts) (defBody s_law_parts) (defScope s_law_parts) .none kV_law_parts dc_law_parts pm_law_parts an_law_parts cd_law_parts ct_law_parts), sl_law_parts⟩) (c_law_parts : PySem.W.codeIn K cd_law_parts "_law_parts" = true) (k_law_parts : PySem.W.keepIn K (.ref a_law_parts) = true)
    (g_are_nodes : PySem.W.nsIn K mainGlobals "are_nodes" = some (some (.ref a_are_nodes))) (l_are_nodes : K.lookup a_are_nodes = some ⟨oc_are_nodes, od_are_nodes, .func (PySem.W.fnOf "are_nodes" "are_nodes" (defArgs s_are_nodes) (defBody s_are_nodes) (defScope s_are_nodes) .none kV_are_nodes dc_are_nodes pm_are_nodes an_are_nodes cd_are_nodes ct_are_nodes), sl_are_nodes⟩) (c_are_nodes : PySem.W.codeIn K cd_are_nodes "are_nodes" = true) (k_are_nodes : PySem.W.keepIn K (.ref a_are_nodes) = true)
    (g_is_channel : PySem.W.nsIn K mainGlobals "is_channel" = some (some (.ref a_is_channel))) (l_is_channel : K.lookup a_is_channel = some ⟨oc_is_channel, od_is_channel, .func (PySem.W.fnOf "is_channel" "is_channel" (defArgs s_is_channel) (defBody s_is_channel) (defScope s_is_channel) .none kV_is_channel dc_is_channel pm_is_channel an_is_channel cd_is_channel ct_is_channel), sl_is_channel⟩) (c_is_channel : PySem.W.codeIn K cd_is_channel "is_channel" = true) (k_is_channel : PySem.W.keepIn K (.ref a_is_channel) = true)
    (g_are_channels : PySem.W.nsIn K mainGlobals "are_channels" = some (some (.ref a_are_channels))) (l_are_channels : K.lookup a_are_channels = some ⟨oc_are_channels, od_are_channels, .func (PySem.W.fnOf "are_channels" "are_channels" (defArgs s_are_channels) (defBody s_are_channels) (defScope s_are_channels) .none kV_are_channels dc_are_channels pm_are_channels an_are_channels cd_are_channels ct_are_channels), sl_are_channels⟩) (c_are_channels : PySem.W.codeIn K cd_are_channels "are_channels" = true) (k_are_channels : PySem.W.keepIn K (.ref a_are_channels) = true)
    (g_InvalidNumber___init__ : PySem.W.findIn K (.ref c_InvalidNumber) "__init__" = some (some (.ref a_InvalidNumber___init__))) (i_InvalidNumber___init__ : PySem.W.isFn K (.ref a_InvalidNumber___init__) = true) (l_InvalidNumber___init__ : K.lookup a_InvalidNumber___init__ = some ⟨oc_InvalidNumber___init__, od_InvalidNumber___init__, .func (PySem.W.fnOf "__init__" "InvalidNumber.__init__" (defArgs s_InvalidNumber___init__) (defBody s_InvalidNumber___init__) (defScope s_InvalidNumber___init__) .none kV_InvalidNumber___init__ dc_InvalidNumber___init__ pm_InvalidNumber___init__ an_InvalidNumber___init__ cd_InvalidNumber___init__ ct_InvalidNumber___init__), sl_InvalidNumber___init__⟩) (c_InvalidNumber___init__ : PySem.W.codeIn K cd_InvalidNumber___init__ "InvalidNumber.__init__" = true) (k_InvalidNumber___init__ : PySem.W.keepIn K (.ref a_InvalidNumber___init__) = true)
    (g_UnknownName___init__ : PySem.W.findIn K (.ref c_UnknownName) "__init__" = some (some (.ref a_UnknownName___init__))) (i_UnknownName___init__ : PySem.W.isFn K (.ref a_UnknownName___init__) = true) (l_UnknownName___init__ : K.lookup a_UnknownName___init__ = some ⟨oc_UnknownName___init__, od_UnknownName___init__, .func (PySem.W.fnOf "__init__" "UnknownName.__init__" (defArgs s_UnknownName___init__) (defBody s_UnknownName___init__) (defScope s_UnknownName___init__) .none kV_UnknownName___init__ dc_UnknownName___init__ pm_UnknownName___init__ an_UnknownName___init__ cd_UnknownName___init__ ct_UnknownName___init__), sl_UnknownName___init__⟩) (c_UnknownName___init__ : PySem.W.codeIn K cd_UnknownName___init__ "UnknownName.__init__" = true) (k_UnknownName___init__ : PySem.W.keepIn K (.ref a_UnknownName___init__) = true)
    (g_Field_require_node : PySem.W.findIn K (.ref c_Field) "require_node" = some (some (.ref a_Field_require_node))) (i_Field_require_node : PySem.W.isFn K (.ref a_Field_require_node) = true) (l_Field_require_node : K.lookup a_Field_require_node = some ⟨oc_Field_require_node, od_Field_require_node, .func (PySem.W.fnOf "require_node" "Field.require_node" (defArgs s_Field_require_node) (defBody s_Field_require_node) (defScope s_Field_require_node) .none kV_Field_require_node dc_Field_require_node pm_Field_require_node an_Field_require_node cd_Field_require_node ct_Field_require_node), sl_Field_require_node⟩) (c_Field_require_node : PySem.W.codeIn K cd_Field_require_node "Field.require_node" = true) (k_Field_require_node : PySem.W.keepIn K (.ref a_Field_require_node) = true)
    (g_Field_thickness : PySem.W.findIn K (.ref c_Field) "thickness" = some (some (.ref a_Field_thickness))) (i_Field_thickness : PySem.W.isFn K (.ref a_Field_thickness) = true) (l_Field_thickness : K.lookup a_Field_thickness = some ⟨oc_Field_thickness, od_Field_thickness, .func (PySem.W.fnOf "thickness" "Field.thickness" (defArgs s_Field_thickness) (defBody s_Field_thickness) (defScope s_Field_thickness) .none kV_Field_thickness dc_Field_thickness pm_Field_thickness an_Field_thickness cd_Field_thickness ct_Field_thickness), sl_Field_thickness⟩) (c_Field_thickness : PySem.W.codeIn K cd_Field_thickness "Field.thickness" = true) (k_Field_thickness : PySem.W.keepIn K (.ref a_Field_thickness) = true)
    (g_Field_start : PySem.W.findIn K (.ref c_Field) "start" = some (some (.ref a_Field_start))) (i_Field_start : PySem.W.isFn K (.ref a_Field_start) = true) (l_Field_start : K.lookup a_Field_start = some ⟨oc_Field_start, od_Field_start, .func (PySem.W.fnOf "start" "Field.start" (defArgs s_Field_start) (defBody s_Field_start) (defScope s_Field_start) .none kV_Field_start dc_Field_start pm_Field_start an_Field_start cd_Field_start ct_Field_start), sl_Field_start⟩) (c_Field_start : PySem.W.codeIn K cd_Field_start "Field.start" = true) (k_Field_start : PySem.W.keepIn K (.ref a_Field_start) = true)
    (g_Field_neighbors : PySem.W.findIn K (.ref c_Field) "neighbors" = some (some (.ref a_Field_neighbors))) (i_Field_neighbors : PySem.W.isFn K (.ref a_Field_neighbors) = true) (l_Field_neighbors : K.lookup a_Field_neighbors = some ⟨oc_Field_neighbors, od_Field_neighbors, .func (PySem.W.fnOf "neighbors" "Field.neighbors" (defArgs s_Field_neighbors) (defBody s_Field_neighbors) (defScope s_Field_neighbors) .none kV_Field_neighbors dc_Field_neighbors pm_Field_neighbors an_Field_neighbors cd_Field_neighbors ct_Field_neighbors), sl_Field_neighbors⟩) (c_Field_neighbors : PySem.W.codeIn K cd_Field_neighbors "Field.neighbors" = true) (k_Field_neighbors : PySem.W.keepIn K (.ref a_Field_neighbors) = true)
    (g_Field_width : PySem.W.findIn K (.ref c_Field) "width" = some (some (.ref a_Field_width))) (i_Field_width : PySem.W.isFn K (.ref a_Field_width) = true) (l_Field_width : K.lookup a_Field_width = some ⟨oc_Field_width, od_Field_width, .func (PySem.W.fnOf "width" "Field.width" (defArgs s_Field_width) (defBody s_Field_width) (defScope s_Field_width) .none kV_Field_width dc_Field_width pm_Field_width an_Field_width cd_Field_width ct_Field_width), sl_Field_width⟩) (c_Field_width : PySem.W.codeIn K cd_Field_width "Field.width" = true) (k_Field_width : PySem.W.keepIn K (.ref a_Field_width) = true)
    (g_law_called : PySem.W.nsIn K mainGlobals "_law_called" = some (some (.ref a_law_called))) (l_law_called : K.lookup a_law_called = some ⟨oc_law_called, od_law_called, .func (PySem.W.fnOf "_law_called" "_law_called" (defArgs s_law_called) (defBody s_law_called) (defScope s_law_called) .none kV_law_called dc_law_called pm_law_called an_law_called cd_law_called ct_law_called), sl_law_called⟩) (c_law_called : PySem.W.codeIn K cd_law_called "_law_called" = true) (k_law_called : PySem.W.keepIn K (.ref a_law_called) = true)
    (g_law_width_outcome : PySem.W.nsIn K mainGlobals "_law_width_outcome" = some (some (.ref a_law_width_outcome))) (l_law_width_outcome : K.lookup a_law_width_outcome = some ⟨oc_law_width_outcome, od_law_width_outcome, .func (PySem.W.fnOf "_law_width_outcome" "_law_width_outcome" (defArgs s_law_width_outcome) (defBody s_law_width_outcome) (defScope s_law_width_outcome) .none kV_law_width_outcome dc_law_width_outcome pm_law_width_outcome an_law_width_outcome cd_law_width_outcome ct_law_width_outcome), sl_law_width_outcome⟩) (c_law_width_outcome : PySem.W.codeIn K cd_law_width_outcome "_law_width_outcome" = true) (k_law_width_outcome : PySem.W.keepIn K (.ref a_law_width_outcome) = true)
    (g_law_outcome : PySem.W.nsIn K mainGlobals "_law_outcome" = some (some (.ref a_law_outcome))) (l_law_outcome : K.lookup a_law_outcome = some ⟨oc_law_outcome, od_law_outcome, .func (PySem.W.fnOf "_law_outcome" "_law_outcome" (defArgs s_law_outcome) (defBody s_law_outcome) (defScope s_law_outcome) .none kV_law_outcome dc_law_outcome pm_law_outcome an_law_outcome cd_law_outcome ct_law_outcome), sl_law_outcome⟩) (c_law_outcome : PySem.W.codeIn K cd_law_outcome "_law_outcome" = true) (k_law_outcome : PySem.W.keepIn K (.ref a_law_outcome) = true)
    (g_law_widths_correct : PySem.W.nsIn K mainGlobals "_law_widths_correct" = some (some (.ref a_law_widths_correct))) (l_law_widths_correct : K.lookup a_law_widths_correct = some ⟨oc_law_widths_correct, od_law_widths_correct, .func (PySem.W.fnOf "_law_widths_correct" "_law_widths_correct" (defArgs s_law_widths_correct) (defBody s_law_widths_correct) (defScope s_law_widths_correct) .none kV_law_widths_correct dc_law_widths_correct pm_law_widths_correct an_law_widths_correct cd_law_widths_correct ct_law_widths_correct), sl_law_widths_correct⟩) (c_law_widths_correct : PySem.W.codeIn K cd_law_widths_correct "_law_widths_correct" = true) (k_law_widths_correct : PySem.W.keepIn K (.ref a_law_widths_correct) = true)
    (g_law_one_correct : PySem.W.nsIn K mainGlobals "_law_one_correct" = some (some (.ref a_law_one_correct))) (l_law_one_correct : K.lookup a_law_one_correct = some ⟨oc_law_one_correct, od_law_one_correct, .func (PySem.W.fnOf "_law_one_correct" "_law_one_correct" (defArgs s_law_one_correct) (defBody s_law_one_correct) (defScope s_law_one_correct) .none kV_law_one_correct dc_law_one_correct pm_law_one_correct an_law_one_correct cd_law_one_correct ct_law_one_correct), sl_law_one_correct⟩) (c_law_one_correct : PySem.W.codeIn K cd_law_one_correct "_law_one_correct" = true) (k_law_one_correct : PySem.W.keepIn K (.ref a_law_one_correct) = true)
    (g_InvalidField___init__ : PySem.W.findIn K (.ref c_InvalidField) "__init__" = some (some (.ref a_InvalidField___init__))) (i_InvalidField___init__ : PySem.W.isFn K (.ref a_InvalidField___init__) = true) (l_InvalidField___init__ : K.lookup a_InvalidField___init__ = some ⟨oc_InvalidField___init__, od_InvalidField___init__, .func (PySem.W.fnOf "__init__" "InvalidField.__init__" (defArgs s_InvalidField___init__) (defBody s_InvalidField___init__) (defScope s_InvalidField___init__) .none kV_InvalidField___init__ dc_InvalidField___init__ pm_InvalidField___init__ an_InvalidField___init__ cd_InvalidField___init__ ct_InvalidField___init__), sl_InvalidField___init__⟩) (c_InvalidField___init__ : PySem.W.codeIn K cd_InvalidField___init__ "InvalidField.__init__" = true) (k_InvalidField___init__ : PySem.W.keepIn K (.ref a_InvalidField___init__) = true)
    (g_Field___init__ : PySem.W.findIn K (.ref c_Field) "__init__" = some (some (.ref a_Field___init__))) (i_Field___init__ : PySem.W.isFn K (.ref a_Field___init__) = true) (l_Field___init__ : K.lookup a_Field___init__ = some ⟨oc_Field___init__, od_Field___init__, .func (PySem.W.fnOf "__init__" "Field.__init__" (defArgs s_Field___init__) (defBody s_Field___init__) (defScope s_Field___init__) .none kV_Field___init__ dc_Field___init__ pm_Field___init__ an_Field___init__ cd_Field___init__ ct_Field___init__), sl_Field___init__⟩) (c_Field___init__ : PySem.W.codeIn K cd_Field___init__ "Field.__init__" = true) (k_Field___init__ : PySem.W.keepIn K (.ref a_Field___init__) = true)
    (g_law : PySem.W.nsIn K mainGlobals "law" = some (some (.ref a_law))) (l_law : K.lookup a_law = some ⟨oc_law, od_law, .func (PySem.W.fnOf "law" "law" (defArgs s_law) (defBody s_law) (defScope s_law) .none kV_law dc_law pm_law an_law cd_law ct_law), sl_law⟩) (c_law : PySem.W.codeIn K cd_law "law" = true) (k_law : PySem.W.keepIn K (.ref a_law) = true)
    (lo_InvalidField : K.lookup c_InvalidField = some oo_InvalidField) (oB_InvalidField : ownO oo_InvalidField c_InvalidField PLX.tlVE "ValueError.__new__" = true) (sa_InvalidField : PySem.W.findIn K (.ref c_InvalidField) "__setattr__" = some (some (.builtin "object.__setattr__"))) (be_InvalidField : PySem.W.subIn K (.ref c_InvalidField) (.type "BaseException") = some true) (ty_InvalidField : PySem.W.typeIn K (.ref c_InvalidField) = some (.type "type")) (kc_InvalidField : PySem.W.keepIn K (.ref c_InvalidField) = true)
    (ga_InvalidField : PySem.W.findIn K (.ref c_InvalidField) "__getattribute__" = some (some (.builtin "BaseException.__getattribute__"))) (gg_InvalidField : PySem.W.findIn K (.ref c_InvalidField) "__getattr__" = some none) (hd_InvalidField : PySem.W.hasDictIn K c_InvalidField = true) (ca_InvalidField : PySem.W.findIn K (.ref c_InvalidField) "__class__" = some (some (.builtin "object.__class__")))
    (gt_InvalidField : PySem.W.specialIn K (.builtin "object.__class__") "__get__" = some (some (.builtin "getset_descriptor.__get__"))) (tk_InvalidField : PySem.W.takesIn K (.builtin "object.__class__") = some true) (mo_InvalidField : PySem.W.mroIn K c_InvalidField (.type "object") = some true)
    (lo_InvalidNumber : K.lookup c_InvalidNumber = some oo_InvalidNumber) (oB_InvalidNumber : ownO oo_InvalidNumber c_InvalidNumber PLX.tlIE "IndexError.__new__" = true) (sa_InvalidNumber : PySem.W.findIn K (.ref c_InvalidNumber) "__setattr__" = some (some (.builtin "object.__setattr__"))) (be_InvalidNumber : PySem.W.subIn K (.ref c_InvalidNumber) (.type "BaseException") = some true) (ty_InvalidNumber : PySem.W.typeIn K (.ref c_InvalidNumber) = some (.type "type")) (kc_InvalidNumber : PySem.W.keepIn K (.ref c_InvalidNumber) = true)
    (ga_InvalidNumber : PySem.W.findIn K (.ref c_InvalidNumber) "__getattribute__" = some (some (.builtin "BaseException.__getattribute__"))) (gg_InvalidNumber : PySem.W.findIn K (.ref c_InvalidNumber) "__getattr__" = some none) (hd_InvalidNumber : PySem.W.hasDictIn K c_InvalidNumber = true) (ca_InvalidNumber : PySem.W.findIn K (.ref c_InvalidNumber) "__class__" = some (some (.builtin "object.__class__")))
    (gt_InvalidNumber : PySem.W.specialIn K (.builtin "object.__class__") "__get__" = some (some (.builtin "getset_descriptor.__get__"))) (tk_InvalidNumber : PySem.W.takesIn K (.builtin "object.__class__") = some true) (mo_InvalidNumber : PySem.W.mroIn K c_InvalidNumber (.type "object") = some true)
    (rd_ThawError : PySem.W.readsIn K c_ThawError (.type "type") = true) (sg_ThawError : PySem.W.specialIn K (.ref c_ThawError) "__getattribute__" = some (some (.builtin "type.__getattribute__"))) (vi_ThawError : PySem.W.findCls K (.ref c_ThawError) (.type "type") "__init__" = some (.val (.builtin "ValueError.__init__")))
    (lo_UnknownName : K.lookup c_UnknownName = some oo_UnknownName) (oB_UnknownName : ownO oo_UnknownName c_UnknownName PLX.tlKE "LookupError.__new__" = true) (sa_UnknownName : PySem.W.findIn K (.ref c_UnknownName) "__setattr__" = some (some (.builtin "object.__setattr__"))) (be_UnknownName : PySem.W.subIn K (.ref c_UnknownName) (.type "BaseException") = some true) (ty_UnknownName : PySem.W.typeIn K (.ref c_UnknownName) = some (.type "type")) (kc_UnknownName : PySem.W.keepIn K (.ref c_UnknownName) = true)
    (ga_UnknownName : PySem.W.findIn K (.ref c_UnknownName) "__getattribute__" = some (some (.builtin "BaseException.__getattribute__"))) (gg_UnknownName : PySem.W.findIn K (.ref c_UnknownName) "__getattr__" = some none) (hd_UnknownName : PySem.W.hasDictIn K c_UnknownName = true) (ca_UnknownName : PySem.W.findIn K (.ref c_UnknownName) "__class__" = some (some (.builtin "object.__class__")))
    (gt_UnknownName : PySem.W.specialIn K (.builtin "object.__class__") "__get__" = some (some (.builtin "getset_descriptor.__get__"))) (tk_UnknownName : PySem.W.takesIn K (.builtin "object.__class__") = some true) (mo_UnknownName : PySem.W.mroIn K c_UnknownName (.type "object") = some true)
    (vi_IndexError : PySem.W.findCls K (.type "IndexError") (.type "type") "__init__" = some (.val (.builtin "IndexError.__init__")))
    (vi_KeyError : PySem.W.findCls K (.type "KeyError") (.type "type") "__init__" = some (.val (.builtin "KeyError.__init__")))
    (nf_InvalidField_part : PySem.W.findIn K (.ref c_InvalidField) "part" = some none)
    (nf_InvalidNumber_number : PySem.W.findIn K (.ref c_InvalidNumber) "number" = some none)
    (nf_UnknownName_name : PySem.W.findIn K (.ref c_UnknownName) "name" = some none)
    (ht_UnknownName_UnknownName : PySem.W.exmOne K (.ref c_UnknownName) (.ref c_UnknownName) = some true)
    (ko_UnknownName_InvalidNumber : PySem.W.kitOne K (.ref c_UnknownName) (.ref c_InvalidNumber) = some false)
    (ko_UnknownName_KeyError : PySem.W.kitOne K (.ref c_UnknownName) (.type "KeyError") = some true)
    (ko_UnknownName_ThawError : PySem.W.kitOne K (.ref c_UnknownName) (.ref c_ThawError) = some false)
    (pg_Field : PySem.W.plainGet K c_Field Str.empty = true) (hd_Field : PySem.W.hasDictIn K c_Field = true) (po_Field : PySem.W.plainOver K c_Field = true) (sa_Field : PySem.W.findIn K (.ref c_Field) "__setattr__" = some (some (.builtin "object.__setattr__")))
    (mk_Field : PySem.W.makesIn K c_Field = true) (kc_Field : PySem.W.keepIn K (.ref c_Field) = true)
    (na_Field_cells : PySem.W.findIn K (.ref c_Field) "cells" = some none)
    (na_Field_channels : PySem.W.findIn K (.ref c_Field) "channels" = some none)
    (na_Field_springs : PySem.W.findIn K (.ref c_Field) "springs" = some none)
    (na_Field_start_by_spring : PySem.W.findIn K (.ref c_Field) "start_by_spring" = some none)
    (na_Field_thickness_by_cell : PySem.W.findIn K (.ref c_Field) "thickness_by_cell" = some none)
    (na_Field_widths_by_node : PySem.W.findIn K (.ref c_Field) "widths_by_node" = some none)
    (q_LETTERS : PySem.W.nsIn K mainGlobals "LETTERS" = some (some (.str "abcdefghijklmnopqrstuvwxyz" t_LETTERS)))
    (q_MAX_LENGTH : PySem.W.nsIn K mainGlobals "MAX_LENGTH" = some (some (.int 8 t_MAX_LENGTH)))
    (q_ZERO : PySem.W.nsIn K mainGlobals "ZERO" = some (some (.ref a_ZERO))) (lz_ZERO : K.lookup a_ZERO = some ⟨.type "tuple", none, .seq #[.int 0 t0_ZERO, .int 1 t1_ZERO] n_ZERO, zl_ZERO⟩)
    (b_IndexError : PySem.W.nsIn K mainGlobals "IndexError" = some none)
    (b_KeyError : PySem.W.nsIn K mainGlobals "KeyError" = some none)
    (b_abs : PySem.W.nsIn K mainGlobals "abs" = some none)
    (b_all : PySem.W.nsIn K mainGlobals "all" = some none)
    (b_any : PySem.W.nsIn K mainGlobals "any" = some none)
    (b_bool : PySem.W.nsIn K mainGlobals "bool" = some none)
    (b_dict : PySem.W.nsIn K mainGlobals "dict" = some none)
    (b_int : PySem.W.nsIn K mainGlobals "int" = some none)
    (b_isinstance : PySem.W.nsIn K mainGlobals "isinstance" = some none)
    (b_len : PySem.W.nsIn K mainGlobals "len" = some none)
    (b_list : PySem.W.nsIn K mainGlobals "list" = some none)
    (b_range : PySem.W.nsIn K mainGlobals "range" = some none)
    (b_repr : PySem.W.nsIn K mainGlobals "repr" = some none)
    (b_sorted : PySem.W.nsIn K mainGlobals "sorted" = some none)
    (b_str : PySem.W.nsIn K mainGlobals "str" = some none)
    (b_tuple : PySem.W.nsIn K mainGlobals "tuple" = some none)
    (b_zip : PySem.W.nsIn K mainGlobals "zip" = some none)
    : ∃ fd : FuncData, (∀ (s : Shared) (v : Value), BindsTo s fd ⟨[v], []⟩ [("_law_script", v)]) ∧ ∀ base : Heap, K.In base → base.Ns mainGlobals mg → SysD base → FnG l.prog w K mg base CX0 43 fa fd ["_law_script"] (spP K (S := Unit) .dat [.vw] (ap1 F_law)) := by
  have e := hfa.symm.trans (PySem.W.mg_of X G g_law)
  cases e
  refine ⟨PySem.W.fnOf "law" "law" (defArgs s_law) (defBody s_law) (defScope s_law) .none kV_law dc_law pm_law an_law cd_law ct_law, fun s v => .of_eq rfl, fun base _ _ hsy => ?_⟩
  let T : Env K mg base := {
    sys := hsy,
    a_is_name := a_is_name, fd_is_name := _, F_is_name := ⟨⟨_, _, _, _, _, _, _, _, _, _, rfl, l_is_name, c_is_name, .inl ⟨rfl, rfl⟩, .inl rfl⟩, k_is_name⟩, m_is_name := PySem.W.mg_of X G g_is_name,
    a_is_integer := a_is_integer, fd_is_integer := _, F_is_integer := ⟨⟨_, _, _, _, _, _, _, _, _, _, rfl, l_is_integer, c_is_integer, .inl ⟨rfl, rfl⟩, .inl rfl⟩, k_is_integer⟩, m_is_integer := PySem.W.mg_of X G g_is_integer,
    a_common_divisor := a_common_divisor, fd_common_divisor := _, F_common_divisor := ⟨⟨_, _, _, _, _, _, _, _, _, _, rfl, l_common_divisor, c_common_divisor, .inl ⟨rfl, rfl⟩, .inl rfl⟩, k_common_divisor⟩, m_common_divisor := PySem.W.mg_of X G g_common_divisor,
    a_is_ascending := a_is_ascending, fd_is_ascending := _, F_is_ascending := ⟨⟨_, _, _, _, _, _, _, _, _, _, rfl, l_is_ascending, c_is_ascending, .inl ⟨rfl, rfl⟩, .inl rfl⟩, k_is_ascending⟩, m_is_ascending := PySem.W.mg_of X G g_is_ascending,
    a_law_deck := a_law_deck, fd_law_deck := _, F_law_deck := ⟨⟨_, _, _, _, _, _, _, _, _, _, rfl, l_law_deck, c_law_deck, .inl ⟨rfl, rfl⟩, .inl rfl⟩, k_law_deck⟩, m_law_deck := PySem.W.mg_of X G g_law_deck,
    a_law_draw := a_law_draw, fd_law_draw := _, F_law_draw := ⟨⟨_, _, _, _, _, _, _, _, _, _, rfl, l_law_draw, c_law_draw, .inl ⟨rfl, rfl⟩, .inl rfl⟩, k_law_draw⟩, m_law_draw := PySem.W.mg_of X G g_law_draw,
    a_law_lowest := a_law_lowest, fd_law_lowest := _, F_law_lowest := ⟨⟨_, _, _, _, _, _, _, _, _, _, rfl, l_law_lowest, c_law_lowest, .inl ⟨rfl, rfl⟩, .inl rfl⟩, k_law_lowest⟩, m_law_lowest := PySem.W.mg_of X G g_law_lowest,
    a_law_neighbors := a_law_neighbors, fd_law_neighbors := _, F_law_neighbors := ⟨⟨_, _, _, _, _, _, _, _, _, _, rfl, l_law_neighbors, c_law_neighbors, .inl ⟨rfl, rfl⟩, .inl rfl⟩, k_law_neighbors⟩, m_law_neighbors := PySem.W.mg_of X G g_law_neighbors,
    a_is_rational := a_is_rational, fd_is_rational := _, F_is_rational := ⟨⟨_, _, _, _, _, _, _, _, _, _, rfl, l_is_rational, c_is_rational, .inl ⟨rfl, rfl⟩, .inl rfl⟩, k_is_rational⟩, m_is_rational := PySem.W.mg_of X G g_is_rational,
    a_law_names := a_law_names, fd_law_names := _, F_law_names := ⟨⟨_, _, _, _, _, _, _, _, _, _, rfl, l_law_names, c_law_names, .inl ⟨rfl, rfl⟩, .inl rfl⟩, k_law_names⟩, m_law_names := PySem.W.mg_of X G g_law_names,
    a_law_rational := a_law_rational, fd_law_rational := _, F_law_rational := ⟨⟨_, _, _, _, _, _, _, _, _, _, rfl, l_law_rational, c_law_rational, .inl ⟨rfl, rfl⟩, .inl rfl⟩, k_law_rational⟩, m_law_rational := PySem.W.mg_of X G g_law_rational,
    a_law_breadth := a_law_breadth, fd_law_breadth := _, F_law_breadth := ⟨⟨_, _, _, _, _, _, _, _, _, _, rfl, l_law_breadth, c_law_breadth, .inl ⟨rfl, rfl⟩, .inl rfl⟩, k_law_breadth⟩, m_law_breadth := PySem.W.mg_of X G g_law_breadth,
    a_is_positive := a_is_positive, fd_is_positive := _, F_is_positive := ⟨⟨_, _, _, _, _, _, _, _, _, _, rfl, l_is_positive, c_is_positive, .inl ⟨rfl, rfl⟩, .inl rfl⟩, k_is_positive⟩, m_is_positive := PySem.W.mg_of X G g_is_positive,
    a_is_nonnegative := a_is_nonnegative, fd_is_nonnegative := _, F_is_nonnegative := ⟨⟨_, _, _, _, _, _, _, _, _, _, rfl, l_is_nonnegative, c_is_nonnegative, .inl ⟨rfl, rfl⟩, .inl rfl⟩, k_is_nonnegative⟩, m_is_nonnegative := PySem.W.mg_of X G g_is_nonnegative,
    a_law_parts := a_law_parts, fd_law_parts := _, F_law_parts := ⟨⟨_, _, _, _, _, _, _, _, _, _, rfl, l_law_parts, c_law_parts, .inl ⟨rfl, rfl⟩, .inl rfl⟩, k_law_parts⟩, m_law_parts := PySem.W.mg_of X G g_law_parts,
    a_are_nodes := a_are_nodes, fd_are_nodes := _, F_are_nodes := ⟨⟨_, _, _, _, _, _, _, _, _, _, rfl, l_are_nodes, c_are_nodes, .inl ⟨rfl, rfl⟩, .inl rfl⟩, k_are_nodes⟩, m_are_nodes := PySem.W.mg_of X G g_are_nodes,
    a_is_channel := a_is_channel, fd_is_channel := _, F_is_channel := ⟨⟨_, _, _, _, _, _, _, _, _, _, rfl, l_is_channel, c_is_channel, .inl ⟨rfl, rfl⟩, .inl rfl⟩, k_is_channel⟩, m_is_channel := PySem.W.mg_of X G g_is_channel,
    a_are_channels := a_are_channels, fd_are_channels := _, F_are_channels := ⟨⟨_, _, _, _, _, _, _, _, _, _, rfl, l_are_channels, c_are_channels, .inl ⟨rfl, rfl⟩, .inl rfl⟩, k_are_channels⟩, m_are_channels := PySem.W.mg_of X G g_are_channels,
    a_InvalidNumber___init__ := a_InvalidNumber___init__, fd_InvalidNumber___init__ := _, F_InvalidNumber___init__ := ⟨⟨_, _, _, _, _, _, _, _, _, _, rfl, l_InvalidNumber___init__, c_InvalidNumber___init__, .inl ⟨rfl, rfl⟩, .inl rfl⟩, k_InvalidNumber___init__⟩,
    a_UnknownName___init__ := a_UnknownName___init__, fd_UnknownName___init__ := _, F_UnknownName___init__ := ⟨⟨_, _, _, _, _, _, _, _, _, _, rfl, l_UnknownName___init__, c_UnknownName___init__, .inl ⟨rfl, rfl⟩, .inl rfl⟩, k_UnknownName___init__⟩,
    a_Field_require_node := a_Field_require_node, fd_Field_require_node := _, F_Field_require_node := ⟨⟨_, _, _, _, _, _, _, _, _, _, rfl, l_Field_require_node, c_Field_require_node, .inl ⟨rfl, rfl⟩, .inl rfl⟩, k_Field_require_node⟩,
    a_Field_thickness := a_Field_thickness, fd_Field_thickness := _, F_Field_thickness := ⟨⟨_, _, _, _, _, _, _, _, _, _, rfl, l_Field_thickness, c_Field_thickness, .inl ⟨rfl, rfl⟩, .inl rfl⟩, k_Field_thickness⟩,
    a_Field_start := a_Field_start, fd_Field_start := _, F_Field_start := ⟨⟨_, _, _, _, _, _, _, _, _, _, rfl, l_Field_start, c_Field_start, .inl ⟨rfl, rfl⟩, .inl rfl⟩, k_Field_start⟩,
    a_Field_neighbors := a_Field_neighbors, fd_Field_neighbors := _, F_Field_neighbors := ⟨⟨_, _, _, _, _, _, _, _, _, _, rfl, l_Field_neighbors, c_Field_neighbors, .inl ⟨rfl, rfl⟩, .inl rfl⟩, k_Field_neighbors⟩,
    a_Field_width := a_Field_width, fd_Field_width := _, F_Field_width := ⟨⟨_, _, _, _, _, _, _, _, _, _, rfl, l_Field_width, c_Field_width, .inl ⟨rfl, rfl⟩, .inl rfl⟩, k_Field_width⟩,
    a_law_called := a_law_called, fd_law_called := _, F_law_called := ⟨⟨_, _, _, _, _, _, _, _, _, _, rfl, l_law_called, c_law_called, .inl ⟨rfl, rfl⟩, .inl rfl⟩, k_law_called⟩, m_law_called := PySem.W.mg_of X G g_law_called,
    a_law_width_outcome := a_law_width_outcome, fd_law_width_outcome := _, F_law_width_outcome := ⟨⟨_, _, _, _, _, _, _, _, _, _, rfl, l_law_width_outcome, c_law_width_outcome, .inl ⟨rfl, rfl⟩, .inl rfl⟩, k_law_width_outcome⟩, m_law_width_outcome := PySem.W.mg_of X G g_law_width_outcome,
    a_law_outcome := a_law_outcome, fd_law_outcome := _, F_law_outcome := ⟨⟨_, _, _, _, _, _, _, _, _, _, rfl, l_law_outcome, c_law_outcome, .inl ⟨rfl, rfl⟩, .inl rfl⟩, k_law_outcome⟩, m_law_outcome := PySem.W.mg_of X G g_law_outcome,
    a_law_widths_correct := a_law_widths_correct, fd_law_widths_correct := _, F_law_widths_correct := ⟨⟨_, _, _, _, _, _, _, _, _, _, rfl, l_law_widths_correct, c_law_widths_correct, .inl ⟨rfl, rfl⟩, .inl rfl⟩, k_law_widths_correct⟩, m_law_widths_correct := PySem.W.mg_of X G g_law_widths_correct,
    a_law_one_correct := a_law_one_correct, fd_law_one_correct := _, F_law_one_correct := ⟨⟨_, _, _, _, _, _, _, _, _, _, rfl, l_law_one_correct, c_law_one_correct, .inl ⟨rfl, rfl⟩, .inl rfl⟩, k_law_one_correct⟩, m_law_one_correct := PySem.W.mg_of X G g_law_one_correct,
    a_InvalidField___init__ := a_InvalidField___init__, fd_InvalidField___init__ := _, F_InvalidField___init__ := ⟨⟨_, _, _, _, _, _, _, _, _, _, rfl, l_InvalidField___init__, c_InvalidField___init__, .inl ⟨rfl, rfl⟩, .inl rfl⟩, k_InvalidField___init__⟩,
    a_Field___init__ := a_Field___init__, fd_Field___init__ := _, F_Field___init__ := ⟨⟨_, _, _, _, _, _, _, _, _, _, rfl, l_Field___init__, c_Field___init__, .inl ⟨rfl, rfl⟩, .inl rfl⟩, k_Field___init__⟩,
    a_law := fa, fd_law := _, F_law := ⟨⟨_, _, _, _, _, _, _, _, _, _, rfl, l_law, c_law, .inl ⟨rfl, rfl⟩, .inl rfl⟩, k_law⟩, m_law := PySem.W.mg_of X G g_law,
    t_LETTERS := t_LETTERS, m_LETTERS := PySem.W.mg_of X G q_LETTERS,
    t_MAX_LENGTH := t_MAX_LENGTH, m_MAX_LENGTH := PySem.W.mg_of X G q_MAX_LENGTH,
    a_ZERO := a_ZERO, m_ZERO := PySem.W.mg_of X G q_ZERO, z_ZERO := fun B => .tup (xs := [.int 0, .int 1]) (.inr (.inl ⟨_, #[.int 0 t0_ZERO, .int 1 t1_ZERO], n_ZERO, lz_ZERO, rfl, rfl, rfl, (show (2 : Nat) ≤ sizeLine by decide), .cons ⟨_, rfl⟩ (.cons ⟨_, rfl⟩ (.nil))⟩)) (.cons (.int _) (.cons (.int _) (.nil))),
    cn_is_positive := g_is_positive,
    cn_is_nonnegative := g_is_nonnegative,
    c_Field := c_Field, m_Field := PySem.W.mg_of X G g_c_Field, cn_Field := g_c_Field, cls_Field := ⟨pg_Field, hd_Field, po_Field, sa_Field⟩,
    mk_Field := ⟨mk_Field, g_Field___init__, i_Field___init__, kc_Field⟩,
    na_Field_cells := na_Field_cells,
    na_Field_channels := na_Field_channels,
    na_Field_springs := na_Field_springs,
    na_Field_start_by_spring := na_Field_start_by_spring,
    na_Field_thickness_by_cell := na_Field_thickness_by_cell,
    na_Field_widths_by_node := na_Field_widths_by_node,
    me_Field_neighbors := ⟨g_Field_neighbors, i_Field_neighbors, k_Field_neighbors⟩,
    me_Field_require_node := ⟨g_Field_require_node, i_Field_require_node, k_Field_require_node⟩,
    me_Field_start := ⟨g_Field_start, i_Field_start, k_Field_start⟩,
    me_Field_thickness := ⟨g_Field_thickness, i_Field_thickness, k_Field_thickness⟩,
    me_Field_width := ⟨g_Field_width, i_Field_width, k_Field_width⟩,
    c_InvalidField := c_InvalidField, m_InvalidField := PySem.W.mg_of X G g_c_InvalidField, cn_InvalidField := g_c_InvalidField,
    ow_InvalidField := ⟨⟨_, _, _, _, PLX.xb_VE, ownB_of lo_InvalidField oB_InvalidField⟩, sa_InvalidField, be_InvalidField, ty_InvalidField, kc_InvalidField⟩, ii_InvalidField := g_InvalidField___init__, ti_InvalidField := beq_iff_eq.mp i_InvalidField___init__, xf_InvalidField := ⟨ga_InvalidField, gg_InvalidField, be_InvalidField, hd_InvalidField⟩, ec_InvalidField := ⟨ga_InvalidField, gg_InvalidField, be_InvalidField, hd_InvalidField, ca_InvalidField, gt_InvalidField, tk_InvalidField, mo_InvalidField⟩,
    c_InvalidNumber := c_InvalidNumber, m_InvalidNumber := PySem.W.mg_of X G g_c_InvalidNumber, cn_InvalidNumber := g_c_InvalidNumber,
    ow_InvalidNumber := ⟨⟨_, _, _, _, PLX.xb_IE, ownB_of lo_InvalidNumber oB_InvalidNumber⟩, sa_InvalidNumber, be_InvalidNumber, ty_InvalidNumber, kc_InvalidNumber⟩, ii_InvalidNumber := g_InvalidNumber___init__, ti_InvalidNumber := beq_iff_eq.mp i_InvalidNumber___init__, xf_InvalidNumber := ⟨ga_InvalidNumber, gg_InvalidNumber, be_InvalidNumber, hd_InvalidNumber⟩, ec_InvalidNumber := ⟨ga_InvalidNumber, gg_InvalidNumber, be_InvalidNumber, hd_InvalidNumber, ca_InvalidNumber, gt_InvalidNumber, tk_InvalidNumber, mo_InvalidNumber⟩,
    c_ThawError := c_ThawError, m_ThawError := PySem.W.mg_of X G g_c_ThawError, cn_ThawError := g_c_ThawError,
    cr_ThawError := ⟨rd_ThawError, sg_ThawError⟩, vi_ThawError := vi_ThawError,
    c_UnknownName := c_UnknownName, m_UnknownName := PySem.W.mg_of X G g_c_UnknownName, cn_UnknownName := g_c_UnknownName,
    ow_UnknownName := ⟨⟨_, _, _, _, PLX.xb_KE, ownB_of lo_UnknownName oB_UnknownName⟩, sa_UnknownName, be_UnknownName, ty_UnknownName, kc_UnknownName⟩, ii_UnknownName := g_UnknownName___init__, ti_UnknownName := beq_iff_eq.mp i_UnknownName___init__, xf_UnknownName := ⟨ga_UnknownName, gg_UnknownName, be_UnknownName, hd_UnknownName⟩, ec_UnknownName := ⟨ga_UnknownName, gg_UnknownName, be_UnknownName, hd_UnknownName, ca_UnknownName, gt_UnknownName, tk_UnknownName, mo_UnknownName⟩,
    vi_IndexError := vi_IndexError,
    vi_KeyError := vi_KeyError,
    nf_InvalidField_part := nf_InvalidField_part,
    nf_InvalidNumber_number := nf_InvalidNumber_number,
    nf_UnknownName_name := nf_UnknownName_name,
    ht_UnknownName_UnknownName := ht_UnknownName_UnknownName,
    ko_UnknownName_InvalidNumber := ko_UnknownName_InvalidNumber,
    ko_UnknownName_KeyError := ko_UnknownName_KeyError,
    ko_UnknownName_ThawError := ko_UnknownName_ThawError,
    b_IndexError := PySem.W.mg_none_of X G b_IndexError,
    b_KeyError := PySem.W.mg_none_of X G b_KeyError,
    b_abs := PySem.W.mg_none_of X G b_abs,
    b_all := PySem.W.mg_none_of X G b_all,
    b_any := PySem.W.mg_none_of X G b_any,
    b_bool := PySem.W.mg_none_of X G b_bool,
    b_dict := PySem.W.mg_none_of X G b_dict,
    b_int := PySem.W.mg_none_of X G b_int,
    b_isinstance := PySem.W.mg_none_of X G b_isinstance,
    b_len := PySem.W.mg_none_of X G b_len,
    b_list := PySem.W.mg_none_of X G b_list,
    b_range := PySem.W.mg_none_of X G b_range,
    b_repr := PySem.W.mg_none_of X G b_repr,
    b_sorted := PySem.W.mg_none_of X G b_sorted,
    b_str := PySem.W.mg_none_of X G b_str,
    b_tuple := PySem.W.mg_none_of X G b_tuple,
    b_zip := PySem.W.mg_none_of X G b_zip }
  exact ok_law T
end Lw
open PySem PySem.W PyProof.Rows in
theorem PySem.Challenge.cw_thawfield_k06_field_queries_holds : PySem.Challenge.rw_thawfield_k06_field_queries.Holds := by
  w_on; o_law; k_head; (case hw => w_witness2)
  k_fill
  refine PL.walkG (l := PySem.Challenge.rw_thawfield_k06_field_queries) (n := 63) (k := 43) (x := "_law_script") (Fl := fun _ => PL.ap1 Lw.F_law) (by rfl) rfl (by decide) rfl (by decide) (fun w h Y => PySem.W.kIn_of Y) ?F ?sp
  case F =>
    intro w mg fa h KX G hmg
    refine' Lw.all_mk KX G hmg ?g_c_Field ?g_c_InvalidField ?g_c_InvalidNumber ?g_c_ThawError ?g_c_UnknownName ?g_is_name ?l_is_name ?c_is_name ?k_is_name ?g_is_integer ?l_is_integer ?c_is_integer ?k_is_integer ?g_common_divisor ?l_common_divisor ?c_common_divisor ?k_common_divisor ?g_is_ascending ?l_is_ascending ?c_is_ascending ?k_is_ascending ?g_law_deck ?l_law_deck ?c_law_deck ?k_law_deck ?g_law_draw ?l_law_draw ?c_law_draw ?k_law_draw ?g_law_lowest ?l_law_lowest ?c_law_lowest ?k_law_lowest ?g_law_neighbors ?l_law_neighbors ?c_law_neighbors ?k_law_neighbors ?g_is_rational ?l_is_rational ?c_is_rational ?k_is_rational ?g_law_names ?l_law_names ?c_law_names ?k_law_names ?g_law_rational ?l_law_rational ?c_law_rational ?k_law_rational ?g_law_breadth ?l_law_breadth ?c_law_breadth ?k_law_breadth ?g_is_positive ?l_is_positive ?c_is_positive ?k_is_positive ?g_is_nonnegative ?l_is_nonnegative ?c_is_nonnegative ?k_is_nonnegative ?g_law_parts ?l_law_parts ?c_law_parts ?k_law_parts ?g_are_nodes ?l_are_nodes ?c_are_nodes ?k_are_nodes ?g_is_channel ?l_is_channel ?c_is_channel ?k_is_channel ?g_are_channels ?l_are_channels ?c_are_channels ?k_are_channels ?g_InvalidNumber___init__ ?i_InvalidNumber___init__ ?l_InvalidNumber___init__ ?c_InvalidNumber___init__ ?k_InvalidNumber___init__ ?g_UnknownName___init__ ?i_UnknownName___init__ ?l_UnknownName___init__ ?c_UnknownName___init__ ?k_UnknownName___init__ ?g_Field_require_node ?i_Field_require_node ?l_Field_require_node ?c_Field_require_node ?k_Field_require_node ?g_Field_thickness ?i_Field_thickness ?l_Field_thickness ?c_Field_thickness ?k_Field_thickness ?g_Field_start ?i_Field_start ?l_Field_start ?c_Field_start ?k_Field_start ?g_Field_neighbors ?i_Field_neighbors ?l_Field_neighbors ?c_Field_neighbors ?k_Field_neighbors ?g_Field_width ?i_Field_width ?l_Field_width ?c_Field_width ?k_Field_width ?g_law_called ?l_law_called ?c_law_called ?k_law_called ?g_law_width_outcome ?l_law_width_outcome ?c_law_width_outcome ?k_law_width_outcome ?g_law_outcome ?l_law_outcome ?c_law_outcome ?k_law_outcome ?g_law_widths_correct ?l_law_widths_correct ?c_law_widths_correct ?k_law_widths_correct ?g_law_one_correct ?l_law_one_correct ?c_law_one_correct ?k_law_one_correct ?g_InvalidField___init__ ?i_InvalidField___init__ ?l_InvalidField___init__ ?c_InvalidField___init__ ?k_InvalidField___init__ ?g_Field___init__ ?i_Field___init__ ?l_Field___init__ ?c_Field___init__ ?k_Field___init__ ?g_law ?l_law ?c_law ?k_law ?lo_InvalidField ?oB_InvalidField ?sa_InvalidField ?be_InvalidField ?ty_InvalidField ?kc_InvalidField ?ga_InvalidField ?gg_InvalidField ?hd_InvalidField ?ca_InvalidField ?gt_InvalidField ?tk_InvalidField ?mo_InvalidField ?lo_InvalidNumber ?oB_InvalidNumber ?sa_InvalidNumber ?be_InvalidNumber ?ty_InvalidNumber ?kc_InvalidNumber ?ga_InvalidNumber ?gg_InvalidNumber ?hd_InvalidNumber ?ca_InvalidNumber ?gt_InvalidNumber ?tk_InvalidNumber ?mo_InvalidNumber ?rd_ThawError ?sg_ThawError ?vi_ThawError ?lo_UnknownName ?oB_UnknownName ?sa_UnknownName ?be_UnknownName ?ty_UnknownName ?kc_UnknownName ?ga_UnknownName ?gg_UnknownName ?hd_UnknownName ?ca_UnknownName ?gt_UnknownName ?tk_UnknownName ?mo_UnknownName ?vi_IndexError ?vi_KeyError ?nf_InvalidField_part ?nf_InvalidNumber_number ?nf_UnknownName_name ?ht_UnknownName_UnknownName ?ko_UnknownName_InvalidNumber ?ko_UnknownName_KeyError ?ko_UnknownName_ThawError ?pg_Field ?hd_Field ?po_Field ?sa_Field ?mk_Field ?kc_Field ?na_Field_cells ?na_Field_channels ?na_Field_springs ?na_Field_start_by_spring ?na_Field_thickness_by_cell ?na_Field_widths_by_node ?q_LETTERS ?q_MAX_LENGTH ?q_ZERO ?lz_ZERO ?b_IndexError ?b_KeyError ?b_abs ?b_all ?b_any ?b_bool ?b_dict ?b_int ?b_isinstance ?b_len ?b_list ?b_range ?b_repr ?b_sorted ?b_str ?b_tuple ?b_zip
    (case g_c_Field => k_is)
    (case g_c_InvalidField => k_is)
    (case g_c_InvalidNumber => k_is)
    (case g_c_ThawError => k_is)
    (case g_c_UnknownName => k_is)
    (case g_is_name => k_is)
    (case l_is_name => k_is)
    (case c_is_name => k_is)
    (case k_is_name => k_is)
    (case g_is_integer => k_is)
    (case l_is_integer => k_is)
    (case c_is_integer => k_is)
    (case k_is_integer => k_is)
    (case g_common_divisor => k_is)
    (case l_common_divisor => k_is)
    (case c_common_divisor => k_is)
    (case k_common_divisor => k_is)
    (case g_is_ascending => k_is)
    (case l_is_ascending => k_is)
    (case c_is_ascending => k_is)
    (case k_is_ascending => k_is)
    (case g_law_deck => k_is)
    (case l_law_deck => k_is)
    (case c_law_deck => k_is)
    (case k_law_deck => k_is)
    (case g_law_draw => k_is)
    (case l_law_draw => k_is)
    (case c_law_draw => k_is)
    (case k_law_draw => k_is)
    (case g_law_lowest => k_is)
    (case l_law_lowest => k_is)
    (case c_law_lowest => k_is)
    (case k_law_lowest => k_is)
    (case g_law_neighbors => k_is)
    (case l_law_neighbors => k_is)
    (case c_law_neighbors => k_is)
    (case k_law_neighbors => k_is)
    (case g_is_rational => k_is)
    (case l_is_rational => k_is)
    (case c_is_rational => k_is)
    (case k_is_rational => k_is)
    (case g_law_names => k_is)
    (case l_law_names => k_is)
    (case c_law_names => k_is)
    (case k_law_names => k_is)
    (case g_law_rational => k_is)
    (case l_law_rational => k_is)
    (case c_law_rational => k_is)
    (case k_law_rational => k_is)
    (case g_law_breadth => k_is)
    (case l_law_breadth => k_is)
    (case c_law_breadth => k_is)
    (case k_law_breadth => k_is)
    (case g_is_positive => k_is)
    (case l_is_positive => k_is)
    (case c_is_positive => k_is)
    (case k_is_positive => k_is)
    (case g_is_nonnegative => k_is)
    (case l_is_nonnegative => k_is)
    (case c_is_nonnegative => k_is)
    (case k_is_nonnegative => k_is)
    (case g_law_parts => k_is)
    (case l_law_parts => k_is)
    (case c_law_parts => k_is)
    (case k_law_parts => k_is)
    (case g_are_nodes => k_is)
    (case l_are_nodes => k_is)
    (case c_are_nodes => k_is)
    (case k_are_nodes => k_is)
    (case g_is_channel => k_is)
    (case l_is_channel => k_is)
    (case c_is_channel => k_is)
    (case k_is_channel => k_is)
    (case g_are_channels => k_is)
    (case l_are_channels => k_is)
    (case c_are_channels => k_is)
    (case k_are_channels => k_is)
    (case g_InvalidNumber___init__ => k_is)
    (case i_InvalidNumber___init__ => k_is)
    (case l_InvalidNumber___init__ => k_is)
    (case c_InvalidNumber___init__ => k_is)
    (case k_InvalidNumber___init__ => k_is)
    (case g_UnknownName___init__ => k_is)
    (case i_UnknownName___init__ => k_is)
    (case l_UnknownName___init__ => k_is)
    (case c_UnknownName___init__ => k_is)
    (case k_UnknownName___init__ => k_is)
    (case g_Field_require_node => k_is)
    (case i_Field_require_node => k_is)
    (case l_Field_require_node => k_is)
    (case c_Field_require_node => k_is)
    (case k_Field_require_node => k_is)
    (case g_Field_thickness => k_is)
    (case i_Field_thickness => k_is)
    (case l_Field_thickness => k_is)
    (case c_Field_thickness => k_is)
    (case k_Field_thickness => k_is)
    (case g_Field_start => k_is)
    (case i_Field_start => k_is)
    (case l_Field_start => k_is)
    (case c_Field_start => k_is)
    (case k_Field_start => k_is)
    (case g_Field_neighbors => k_is)
    (case i_Field_neighbors => k_is)
    (case l_Field_neighbors => k_is)
    (case c_Field_neighbors => k_is)
    (case k_Field_neighbors => k_is)
    (case g_Field_width => k_is)
    (case i_Field_width => k_is)
    (case l_Field_width => k_is)
    (case c_Field_width => k_is)
    (case k_Field_width => k_is)
    (case g_law_called => k_is)
    (case l_law_called => k_is)
    (case c_law_called => k_is)
    (case k_law_called => k_is)
    (case g_law_width_outcome => k_is)
    (case l_law_width_outcome => k_is)
    (case c_law_width_outcome => k_is)
    (case k_law_width_outcome => k_is)
    (case g_law_outcome => k_is)
    (case l_law_outcome => k_is)
    (case c_law_outcome => k_is)
    (case k_law_outcome => k_is)
    (case g_law_widths_correct => k_is)
    (case l_law_widths_correct => k_is)
    (case c_law_widths_correct => k_is)
    (case k_law_widths_correct => k_is)
    (case g_law_one_correct => k_is)
    (case l_law_one_correct => k_is)
    (case c_law_one_correct => k_is)
    (case k_law_one_correct => k_is)
    (case g_InvalidField___init__ => k_is)
    (case i_InvalidField___init__ => k_is)
    (case l_InvalidField___init__ => k_is)
    (case c_InvalidField___init__ => k_is)
    (case k_InvalidField___init__ => k_is)
    (case g_Field___init__ => k_is)
    (case i_Field___init__ => k_is)
    (case l_Field___init__ => k_is)
    (case c_Field___init__ => k_is)
    (case k_Field___init__ => k_is)
    (case g_law => k_is)
    (case l_law => k_is)
    (case c_law => k_is)
    (case k_law => k_is)
    (case lo_InvalidField => k_is)
    (case oB_InvalidField => first | rfl | decide +kernel)
    (case sa_InvalidField => k_is)
    (case be_InvalidField => k_is)
    (case ty_InvalidField => k_is)
    (case kc_InvalidField => k_is)
    (case ga_InvalidField => k_is)
    (case gg_InvalidField => k_is)
    (case hd_InvalidField => k_is)
    (case ca_InvalidField => k_is)
    (case gt_InvalidField => k_is)
    (case tk_InvalidField => k_is)
    (case mo_InvalidField => k_is)
    (case lo_InvalidNumber => k_is)
    (case oB_InvalidNumber => first | rfl | decide +kernel)
    (case sa_InvalidNumber => k_is)
    (case be_InvalidNumber => k_is)
    (case ty_InvalidNumber => k_is)
    (case kc_InvalidNumber => k_is)
    (case ga_InvalidNumber => k_is)
    (case gg_InvalidNumber => k_is)
    (case hd_InvalidNumber => k_is)
    (case ca_InvalidNumber => k_is)
    (case gt_InvalidNumber => k_is)
    (case tk_InvalidNumber => k_is)
    (case mo_InvalidNumber => k_is)
    (case rd_ThawError => k_is)
    (case sg_ThawError => k_is)
    (case vi_ThawError => k_is)
    (case lo_UnknownName => k_is)
    (case oB_UnknownName => first | rfl | decide +kernel)
    (case sa_UnknownName => k_is)
    (case be_UnknownName => k_is)
    (case ty_UnknownName => k_is)
    (case kc_UnknownName => k_is)
    (case ga_UnknownName => k_is)
    (case gg_UnknownName => k_is)
    (case hd_UnknownName => k_is)
    (case ca_UnknownName => k_is)
    (case gt_UnknownName => k_is)
    (case tk_UnknownName => k_is)
    (case mo_UnknownName => k_is)
    (case vi_IndexError => k_is)
    (case vi_KeyError => k_is)
    (case nf_InvalidField_part => k_is)
    (case nf_InvalidNumber_number => k_is)
    (case nf_UnknownName_name => k_is)
    (case ht_UnknownName_UnknownName => kts_exm)
    (case ko_UnknownName_InvalidNumber => kit_is)
    (case ko_UnknownName_KeyError => kit_is)
    (case ko_UnknownName_ThawError => kit_is)
    (case pg_Field => k_is)
    (case hd_Field => k_is)
    (case po_Field => k_is)
    (case sa_Field => k_is)
    (case mk_Field => k_is)
    (case kc_Field => k_is)
    (case na_Field_cells => k_is)
    (case na_Field_channels => k_is)
    (case na_Field_springs => k_is)
    (case na_Field_start_by_spring => k_is)
    (case na_Field_thickness_by_cell => k_is)
    (case na_Field_widths_by_node => k_is)
    (case q_LETTERS => k_is)
    (case q_MAX_LENGTH => k_is)
    (case q_ZERO => k_is)
    (case lz_ZERO => k_is)
    (case b_IndexError => k_is)
    (case b_KeyError => k_is)
    (case b_abs => k_is)
    (case b_all => k_is)
    (case b_any => k_is)
    (case b_bool => k_is)
    (case b_dict => k_is)
    (case b_int => k_is)
    (case b_isinstance => k_is)
    (case b_len => k_is)
    (case b_list => k_is)
    (case b_range => k_is)
    (case b_repr => k_is)
    (case b_sorted => k_is)
    (case b_str => k_is)
    (case b_tuple => k_is)
    (case b_zip => k_is)
  case sp =>
    intro pr ns h1 h2
    exact Lw.law_ok ns h1 h2
#print axioms PySem.Challenge.cw_thawfield_k06_field_queries_holds
