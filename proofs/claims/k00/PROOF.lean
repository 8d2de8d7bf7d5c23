import PyProof.Rows.All
import HandS.ForMost
import HandS.ForExc
import HandS.TryMany
import HandS.ExcInit
import HandS.ExcIs
import HandS.ExcField
import HandS.IsInst
import HandS.Flow
import HandS.Strs
import HandS.SetFor
import HandS.Deep
import HandS.Defaults
import HandS.HeadEnd
import HandS.HeadHook2
import HandS.TupAny
import HandS.TupMul
import HandS.SortInts
import HandS.Style
import HandS.Conv
import KE.KDictSum
import KE.KItemsList
import HandS.ListItems
import KE.KSortedM
import KE.GoesEnum
import HandS.CallRecv
import HandS.Zip
import HandS.DictComp
import PySem.Challenge.RW_remaderight_k00_whole_contents_and_state
import Wide.All
import OpenK.AllK
import Wide.FinOn
import KE.KStateDown
import Lean
import HandS.Head0
import HandS.Head1
import HandS.Head2
set_option Elab.async false
set_option linter.all false
set_option maxRecDepth 100000
set_option maxHeartbeats 4000000
/-! DI: values as data, over HandS. 1: data, what stands for it. -/
namespace DI
open PySem PySem.Spec PyProof.Rows L2
/-- a value: none, bool, int, text, a tuple of values; ref i: the i-th mutable thing of the store; lst: a list that nobody holds yet; rol: a list that is never written; ist: a set of ints that nobody holds; dic: a dict that nobody holds yet; fn: a def -/
inductive D where
  | non | bl (b : Bool) | int (i : Int) | str (x : Str)
  | tup (xs : List D) | ref (i : Nat) | lst (xs : List D) | rol (xs : List D) | ist (ns : List Int)
  | dic (ks : List Key) (xs : List D) | fn (f : Str)
  deriving Inhabited
/-- a mutable thing -/
inductive O where
  | lst (xs : List D)
  | ins (C : Str) (fs : List (Str × D))
  | dic (lk : Bool) (ks : List Key) (xs : List D)
  deriving Inhabited
abbrev S := List O
abbrev En := List (Option D)
/-- may be held twice -/
def D.shr : D → Bool
  | .lst _ => false
  | .ist _ => false
  | .dic _ _ => false
  | _ => true
/-- where a global's object stands -/
def TupAt (K : PySem.W.Frag) (m : List Addr) (H : Hp) (a : Addr) (vs : List V) : Prop :=
  (Rd H a (.tup vs) ∧ a ∉ m) ∨ ∃ (o : Obj) (its : Array Value) (n : Nat), K.lookup a = some o ∧ o.cls = .type "tuple" ∧ o.data = .seq its n ∧ its.size ≤ sizeLine ∧ Vals vs its.toList
def RolAt (K : PySem.W.Frag) (m : List Addr) (H : Hp) (a : Addr) (vs : List V) : Prop :=
  ((∃ o, H a = some (.frz o (.lst vs))) ∧ a ∉ m) ∨ ∃ (o : Obj) (its : Array Value) (n : Nat), K.lookup a = some o ∧ o.cls = .type "list" ∧ o.dict = none ∧ o.data = .seq its n ∧ its.size ≤ sizeLine ∧ Vals vs its.toList
mutual
inductive Rp (w : World) (K : PySem.W.Frag) (m : List Addr) (H : Hp) : D → V → Prop
  | non : Rp w K m H .non .non
  | bl (b : Bool) : Rp w K m H (.bl b) (.bl b)
  | int (i : Int) : Rp w K m H (.int i) (.int i)
  | str (x : Str) : Rp w K m H (.str x) (.str x)
  | tup {ds vs a} : TupAt K m H a vs → Rps w K m H ds vs → Rp w K m H (.tup ds) (.ref a)
  | ref {i a} : m[i]? = some a → Rp w K m H (.ref i) (.ref a)
  | lst {ds vs a} : H a = some (.lst vs) → a ∉ m → Rps w K m H ds vs → Rp w K m H (.lst ds) (.ref a)
  | rol {ds vs a} : RolAt K m H a vs → Rps w K m H ds vs → Rp w K m H (.rol ds) (.ref a)
  | ist {ns a T n} : H a = some (SetO w a T n) → a ∉ m → (∀ k, T k = decide (k ∈ ns)) → n ≤ ns.length → Rp w K m H (.ist ns) (.ref a)
  | dic {ks ds vs a} : H a = some (.dK (ks.zip vs)) → a ∉ m → ks.length = ds.length → Rps w K m H ds vs → Rp w K m H (.dic ks ds) (.ref a)
  | fn (f : Str) : Rp w K m H (.fn f) (.ref (He.ga K f))
inductive Rps (w : World) (K : PySem.W.Frag) (m : List Addr) (H : Hp) : List D → List V → Prop
  | nil : Rps w K m H [] []
  | cons {d ds v vs} : d.shr = true → Rp w K m H d v → Rps w K m H ds vs → Rps w K m H (d :: ds) (v :: vs)
end
/-- what stood beside m stands, m grows -/
structure Ex0 (m : List Addr) (H : Hp) (m' : List Addr) (H' : Hp) : Prop where
  pre : m <+: m'
  old : ∀ b o, H b = some o → b ∉ m → H' b = some o ∧ b ∉ m'
/-- .. and what is locked, stays so -/
structure Ex (m : List Addr) (H : Hp) (m' : List Addr) (H' : Hp) : Prop where
  pre : m <+: m'
  old : ∀ b o, H b = some o → b ∉ m → H' b = some o ∧ b ∉ m'
  frz : ∀ b o u, H b = some (.frz o u) → H' b = some (.frz o u)
theorem Ex.e0 {m H m' H'} (e : Ex m H m' H') : Ex0 m H m' H' := ⟨e.pre, e.old⟩
theorem Ex.refl {m H} : Ex m H m H := ⟨List.prefix_refl _, fun _ _ h n => ⟨h, n⟩, fun _ _ _ h => h⟩
theorem Ex.trans {m H m1 H1 m2 H2} (a : Ex m H m1 H1) (b : Ex m1 H1 m2 H2) : Ex m H m2 H2 :=
  ⟨a.pre.trans b.pre, fun c o h n => let ⟨h1, n1⟩ := a.old c o h n; b.old c o h1 n1, fun c o u h => b.frz c o u (a.frz c o u h)⟩
section
variable {w : World} {K : PySem.W.Frag} {m m' : List Addr} {H H' : Hp}
theorem TupAt.mono0 {a vs} (e : Ex0 m H m' H') (h : TupAt K m H a vs) : TupAt K m' H' a vs := by
  rcases h with ⟨h | ⟨o, h⟩, n⟩ | h
  · exact .inl ⟨.inl (e.old _ _ h n).1, (e.old _ _ h n).2⟩
  · exact .inl ⟨.inr ⟨o, (e.old _ _ h n).1⟩, (e.old _ _ h n).2⟩
  · exact .inr h
theorem RolAt.mono0 {a vs} (e : Ex0 m H m' H') (h : RolAt K m H a vs) : RolAt K m' H' a vs := by
  rcases h with ⟨⟨o, h⟩, n⟩ | h
  · exact .inl ⟨⟨o, (e.old _ _ h n).1⟩, (e.old _ _ h n).2⟩
  · exact .inr h
theorem TupAt.sq {a vs} (h : TupAt K m H a vs) : SqT K H a vs := h.imp (fun z => z.1) id
theorem RolAt.sq {a vs} (h : RolAt K m H a vs) : SqL K H a vs := by
  rcases h with ⟨⟨o, h⟩, _⟩ | h
  · exact .inl (.inr ⟨o, h⟩)
  · exact .inr h
theorem get_pre {i : Nat} {a : Addr} (p : m <+: m') (h : m[i]? = some a) : m'[i]? = some a := by
  obtain ⟨t, rfl⟩ := p
  rw [List.getElem?_append_left (List.getElem?_eq_some_iff.mp h).1]
  exact h
mutual
theorem Rp.mono0 {d : D} {v : V} (e : Ex0 m H m' H') : Rp w K m H d v → Rp w K m' H' d v
  | .non => .non
  | .bl b => .bl b
  | .int i => .int i
  | .str x => .str x
  | .tup h r => .tup (h.mono0 e) (Rps.mono0 e r)
  | .ref h => .ref (get_pre e.pre h)
  | .lst h n r => .lst (e.old _ _ h n).1 (e.old _ _ h n).2 (Rps.mono0 e r)
  | .rol h r => .rol (h.mono0 e) (Rps.mono0 e r)
  | .ist h n t z => .ist (e.old _ _ h n).1 (e.old _ _ h n).2 t z
  | .dic h n l r => .dic (e.old _ _ h n).1 (e.old _ _ h n).2 l (Rps.mono0 e r)
  | .fn f => .fn f
theorem Rps.mono0 {ds : List D} {vs : List V} (e : Ex0 m H m' H') : Rps w K m H ds vs → Rps w K m' H' ds vs
  | .nil => .nil
  | .cons s h r => .cons s (Rp.mono0 e h) (Rps.mono0 e r)
end
theorem TupAt.mono {a vs} (e : Ex m H m' H') (h : TupAt K m H a vs) : TupAt K m' H' a vs := h.mono0 e.e0
theorem RolAt.mono {a vs} (e : Ex m H m' H') (h : RolAt K m H a vs) : RolAt K m' H' a vs := h.mono0 e.e0
theorem Rp.mono {d : D} {v : V} (e : Ex m H m' H') (h : Rp w K m H d v) : Rp w K m' H' d v := h.mono0 e.e0
theorem Rps.mono {ds : List D} {vs : List V} (e : Ex m H m' H') (h : Rps w K m H ds vs) : Rps w K m' H' ds vs := h.mono0 e.e0
theorem Rps.length {ds vs} (h : Rps w K m H ds vs) : vs.length = ds.length := by
  induction ds generalizing vs with
  | nil => cases h; rfl
  | cons d ds ih => cases h with | cons _ _ r => simp [ih r]
theorem Rps.get {ds : List D} : ∀ {vs : List V} {i : Nat} {d : D}, Rps w K m H ds vs → ds[i]? = some d → ∃ v, vs[i]? = some v ∧ Rp w K m H d v ∧ d.shr = true := by
  induction ds with
  | nil => intro vs i d h e; simp at e
  | cons x ds ih =>
    intro vs i d h e
    cases h with
    | cons s a r =>
      cases i with
      | zero => simp at e; subst e; exact ⟨_, rfl, a, s⟩
      | succ i => simpa using ih r (by simpa using e)
end
end DI

set_option Elab.async false
set_option linter.all false
set_option maxRecDepth 100000
set_option maxHeartbeats 4000000
/-! DI 2: the store, what is wanted behind an expression, a statement. -/
namespace DI
open PySem PySem.Spec PyProof.Rows L2
inductive R (α : Type) where
  | ok (a : α) (s : S) | exc (C : Str) (fs : List (Str × D)) (s : S) | bad
inductive RS where
  | nx (ρ : En) (s : S) | rt (d : D) (s : S) | bk (ρ : En) (s : S) | ct (ρ : En) (s : S) | exc (C : Str) (fs : List (Str × D)) (ρ : En) (s : S) | bad
@[reducible] def R.bind {α β : Type} (r : R α) (f : α → S → R β) : R β := match r with
  | .ok a s => f a s
  | .exc C fs s => .exc C fs s
  | .bad => .bad
/-- fields by name -/
inductive Fs (w : World) (K : PySem.W.Frag) (m : List Addr) (H : Hp) : List (Str × D) → List (Str × V) → Prop
  | nil : Fs w K m H [] []
  | cons {f d v fs vs} : d.shr = true → Rp w K m H d v → Fs w K m H fs vs → Fs w K m H ((f, d) :: fs) ((f, v) :: vs)
def ObOk (w : World) (K : PySem.W.Frag) (m : List Addr) (H : Hp) (a : Addr) : O → Prop
  | .lst ds => ∃ vs, H a = some (.lst vs) ∧ Rps w K m H ds vs
  | .ins C fs => ∃ dx vs, H a = some (.ins (He.ga K C) dx vs) ∧ Fs w K m H fs vs
  | .dic lk ks ds => ∃ vs, (if lk = true then ∃ o, H a = some (.frz o (.dK (ks.zip vs))) else H a = some (.dK (ks.zip vs))) ∧ ks.length = ds.length ∧ Rps w K m H ds vs
structure StOk (w : World) (K : PySem.W.Frag) (m : List Addr) (H : Hp) (s : S) : Prop where
  len : m.length = s.length
  nd : m.Nodup
  at_ : ∀ (i : Nat) (o : O), s[i]? = some o → ∃ a, m[i]? = some a ∧ ObOk w K m H a o
/-- an exception's own dict -/
structure ExcAt (w : World) (K : PySem.W.Frag) (m : List Addr) (H : Hp) (dx : Addr) (fs : List (Str × D)) : Prop where
  at_ : ∃ vs, H dx = some (.xd vs) ∧ Fs w K m H fs vs
  nm : dx ∉ m
/-- an exception held by a name, within a suite: its slot, itself, its class, its own dict, its fields -/
structure Hdp where
  i : Nat
  a : Addr
  C : Str
  dx : Addr
  fs : List (Str × D)
/-- the slots -/
structure Rst (w : World) (K : PySem.W.Frag) (pr : Option Hdp) (m : List Addr) (ρ : En) (s : S) (σ : L2.St) (H : Hp) : Prop where
  st : StOk w K m H s
  len : ρ.length = σ.length
  at_ : ∀ (i : Nat) (d : D), ρ[i]? = some (some d) → d.shr = true ∧ ∃ v, σ[i]? = some (some v) ∧ Rp w K m H d v
  pin : ∀ p, pr = some p → σ[p.i]? = some (some (.ref p.a)) ∧ ExcAt w K m H p.dx p.fs
/-- what nobody holds is new -/
def Fresh (H : Hp) (d : D) (v : V) : Prop := d.shr = false → ∃ a, v = .ref a ∧ H a = none
def PostE (w : World) (K : PySem.W.Frag) (W : WX) (σ : L2.St) (m : List Addr) (H : Hp) (Q : VK) : R D → Prop
  | .ok d s' => ∀ m' v H', Ex m H m' H' → StOk w K m' H' s' → Rp w K m' H' d v → Fresh H d v → Q v H'
  | .exc C fs s' => ∀ m' H' dx, Ex m H m' H' → StOk w K m' H' s' → ExcAt w K m' H' dx fs → W (.ref (He.ga K C)) (some dx) σ H'
  | .bad => False
def PostT (w : World) (K : PySem.W.Frag) (W : WX) (σ : L2.St) (m : List Addr) (H : Hp) (Q : Bool → Hp → Prop) : R Bool → Prop
  | .ok b s' => ∀ m' H', Ex m H m' H' → StOk w K m' H' s' → Q b H'
  | .exc C fs s' => ∀ m' H' dx, Ex m H m' H' → StOk w K m' H' s' → ExcAt w K m' H' dx fs → W (.ref (He.ga K C)) (some dx) σ H'
  | .bad => False
/-- several values, each may be held -/
def PostA (w : World) (K : PySem.W.Frag) (W : WX) (σ : L2.St) (m : List Addr) (H : Hp) (Q : List V → Hp → Prop) : R (List D) → Prop
  | .ok ds s' => ∀ m' vs H', Ex m H m' H' → StOk w K m' H' s' → Rps w K m' H' ds vs → Q vs H'
  | .exc C fs s' => ∀ m' H' dx, Ex m H m' H' → StOk w K m' H' s' → ExcAt w K m' H' dx fs → W (.ref (He.ga K C)) (some dx) σ H'
  | .bad => False
def PostS (w : World) (K : PySem.W.Frag) (W : WX) (pr : Option Hdp) (m : List Addr) (H : Hp) (D : Ends) : RS → Prop
  | .nx ρ s => ∀ m' σ' H', Ex m H m' H' → Rst w K pr m' ρ s σ' H' → D.nx σ' H'
  | .rt d s => ∀ m' v H', Ex m H m' H' → StOk w K m' H' s → Rp w K m' H' d v → Fresh H d v → D.rt v H'
  | .bk ρ s => ∀ m' σ' H', Ex m H m' H' → Rst w K pr m' ρ s σ' H' → D.bk σ' H'
  | .ct ρ s => ∀ m' σ' H', Ex m H m' H' → Rst w K pr m' ρ s σ' H' → D.ct σ' H'
  | .exc C fs ρ s => ∀ m' σ' H' dx, Ex m H m' H' → Rst w K pr m' ρ s σ' H' → ExcAt w K m' H' dx fs → W (.ref (He.ga K C)) (some dx) σ' H'
  | .bad => False
/-- the readings -/
def tD (w : World) (K : PySem.W.Frag) (W : WX) (pr : Option Hdp) (f : En → S → R D) : TE := fun σ H Q => ∃ m ρ s, Rst w K pr m ρ s σ H ∧ PostE w K W σ m H Q (f ρ s)
def tT (w : World) (K : PySem.W.Frag) (W : WX) (pr : Option Hdp) (f : En → S → R Bool) : TT := fun σ H Q => ∃ m ρ s, Rst w K pr m ρ s σ H ∧ PostT w K W σ m H Q (f ρ s)
def tA (w : World) (K : PySem.W.Frag) (W : WX) (pr : Option Hdp) (f : En → S → R (List D)) : TA := fun σ H Q => ∃ m ρ s, Rst w K pr m ρ s σ H ∧ PostA w K W σ m H Q (f ρ s)
def tS (w : World) (K : PySem.W.Frag) (W : WX) (pr : Option Hdp) (f : En → S → RS) : TS := fun D σ H => ∃ m ρ s, Rst w K pr m ρ s σ H ∧ PostS w K W pr m H D (f ρ s)

section
variable {w : World} {K : PySem.W.Frag} {W : WX} {σ : L2.St} {m m' m1 m2 : List Addr} {H H' H1 H2 : Hp} {s s1 s' : S} {ρ : En} {pr : Option Hdp}
theorem Fs.mono0 (e : Ex0 m H m' H') : ∀ {fs vs}, Fs w K m H fs vs → Fs w K m' H' fs vs
  | _, _, .nil => .nil
  | _, _, .cons s h r => .cons s (h.mono0 e) (Fs.mono0 e r)
theorem Fs.mono (e : Ex m H m' H') {fs vs} (h : Fs w K m H fs vs) : Fs w K m' H' fs vs := h.mono0 e.e0
theorem ExcAt.mono0 {dx fs} (x : ExcAt w K m H dx fs) (e : Ex0 m H m' H') : ExcAt w K m' H' dx fs := by
  obtain ⟨⟨vs, h, r⟩, n⟩ := x
  exact ⟨⟨vs, (e.old _ _ h n).1, r.mono0 e⟩, (e.old _ _ h n).2⟩
theorem ExcAt.mono {dx fs} (x : ExcAt w K m H dx fs) (e : Ex m H m' H') : ExcAt w K m' H' dx fs := x.mono0 e.e0
theorem StOk.get (h : StOk w K m H s) {i : Nat} {a : Addr} (e : m[i]? = some a) : ∃ o, s[i]? = some o ∧ ObOk w K m H a o := by
  have hi : i < s.length := by rw [← h.len]; exact (List.getElem?_eq_some_iff.mp e).1
  obtain ⟨b, e1, q⟩ := h.at_ i s[i] (List.getElem?_eq_getElem hi)
  rw [e] at e1; cases e1
  exact ⟨_, List.getElem?_eq_getElem hi, q⟩
theorem ObOk.there {a : Addr} {o : O} (h : ObOk w K m H a o) : H a ≠ none := by
  cases o with
  | lst ds => obtain ⟨_, e, _⟩ := h; rw [e]; simp
  | ins C fs => obtain ⟨_, _, e, _⟩ := h; rw [e]; simp
  | dic lk ks ds =>
    obtain ⟨_, e, _⟩ := h
    split at e
    · obtain ⟨_, e⟩ := e; rw [e]; simp
    · rw [e]; simp
theorem StOk.ne (h : StOk w K m H s) {a : Addr} (hm : a ∈ m) : H a ≠ none := by
  obtain ⟨i, e⟩ := List.getElem?_of_mem hm
  obtain ⟨o, _, q⟩ := h.get e
  exact q.there
theorem StOk.nin (h : StOk w K m H s) {p : Addr} (hp : H p = none) : p ∉ m := fun hm => h.ne hm hp
theorem Ex.fr0 (e : Ex m H m' H') (h : StOk w K m' H' s) {p : Addr} (hp : H' p = none) : H p = none := by
  cases q : H p with
  | none => rfl
  | some o =>
    by_cases hm : p ∈ m
    · exact absurd hp (h.ne (e.pre.subset hm))
    · rw [(e.old p o q hm).1] at hp; cases hp
/-- a new untracked thing -/
theorem Ex.new (h : StOk w K m H s) {p : Addr} {o : HO} (hp : H p = none) : Ex m H m (upd H p o) :=
  ⟨List.prefix_refl _, fun b ob e n => ⟨by rw [upd_ne (ne_of_none e hp)]; exact e, n⟩, fun b ob u e => by rw [upd_ne (ne_of_none e hp)]; exact e⟩
theorem ObOk.keep0 {a : Addr} {o : O} (h : ObOk w K m H a o) (e : Ex0 m H m H') (k : H' a = H a) : ObOk w K m H' a o := by
  cases o with
  | lst ds => obtain ⟨vs, q, r⟩ := h; exact ⟨vs, k.trans q, r.mono0 e⟩
  | ins C fs => obtain ⟨dx, vs, q, r⟩ := h; exact ⟨dx, vs, k.trans q, r.mono0 e⟩
  | dic lk ks ds => obtain ⟨vs, q, l, r⟩ := h; exact ⟨vs, by rw [k]; exact q, l, r.mono0 e⟩
theorem ObOk.keep {a : Addr} {o : O} (h : ObOk w K m H a o) (e : Ex m H m H') (k : H' a = H a) : ObOk w K m H' a o := h.keep0 e.e0 k
theorem StOk.new (h : StOk w K m H s) {p : Addr} {o : HO} (hp : H p = none) : StOk w K m (upd H p o) s :=
  ⟨h.len, h.nd, fun i ob e => by
    obtain ⟨a, e1, q⟩ := h.at_ i ob e
    exact ⟨a, e1, q.keep (Ex.new h hp) (upd_ne fun z => h.nin hp (z ▸ List.mem_of_getElem? e1))⟩⟩
/-- a thing of the store is written -/
def NoFrz (o : Option HO) : Prop := ∀ x u, o ≠ some (.frz x u)
theorem Ex.write {a : Addr} {o : HO} (hm : a ∈ m) (hf : NoFrz (H a)) : Ex m H m (upd H a o) :=
  ⟨List.prefix_refl _, fun b ob e n => ⟨by rw [upd_ne (fun z : b = a => n (by rw [z]; exact hm))]; exact e, n⟩, fun b ob u e => by rw [upd_ne (fun z : b = a => hf _ _ (z ▸ e))]; exact e⟩
theorem Ex0.write {a : Addr} {o : HO} (hm : a ∈ m) : Ex0 m H m (upd H a o) :=
  ⟨List.prefix_refl _, fun b ob e n => ⟨by rw [upd_ne (fun z : b = a => n (by rw [z]; exact hm))]; exact e, n⟩⟩
theorem StOk.write (h : StOk w K m H s) {i : Nat} {a : Addr} {o : HO} {ob : O} (hi : m[i]? = some a) (q : ObOk w K m (upd H a o) a ob) : StOk w K m (upd H a o) (s.set i ob) := by
  refine ⟨by simp [h.len], h.nd, fun j o' e => ?_⟩
  have hil : i < m.length := (List.getElem?_eq_some_iff.mp hi).1
  by_cases hj : j = i
  · subst hj
    rw [List.getElem?_set_self (by rw [← h.len]; exact hil)] at e
    cases e
    exact ⟨a, hi, q⟩
  · rw [List.getElem?_set_ne (Ne.symm hj)] at e
    obtain ⟨b, e1, q1⟩ := h.at_ j o' e
    refine ⟨b, e1, q1.keep0 (Ex0.write (List.mem_of_getElem? hi)) (upd_ne fun z => ?_)⟩
    subst z
    have hjl : j < m.length := (List.getElem?_eq_some_iff.mp e1).1
    have e2 : m[j] = m[i] := by
      have e3 := (List.getElem?_eq_some_iff.mp e1).2
      have e4 := (List.getElem?_eq_some_iff.mp hi).2
      rw [e3, e4]
    exact hj ((List.getElem_inj h.nd).mp e2)
/-- neither a tuple nor locked -/
def Own (o : Option HO) : Prop := (∀ xs, o ≠ some (.tup xs)) ∧ NoFrz o
theorem own_lst {vs : List V} : Own (some (.lst vs)) := ⟨fun _ z => (nomatch z), fun _ _ z => (nomatch z)⟩
theorem own_dK {vs : List (Key × V)} : Own (some (.dK vs)) := ⟨fun _ z => (nomatch z), fun _ _ z => (nomatch z)⟩
theorem own_ins {C dx : Addr} {vs : List (Str × V)} : Own (some (.ins C dx vs)) := ⟨fun _ z => (nomatch z), fun _ _ z => (nomatch z)⟩
/-- nobody's thing is taken into the store -/
theorem Rp.settle {a : Addr} (ha : Own (H a)) {d : D} {v : V} (hs : d.shr = true) (h : Rp w K m H d v) : Rp w K (m ++ [a]) H d v := by
  have key : ∀ (d : D) (v : V), d.shr = true → Rp w K m H d v → Rp w K (m ++ [a]) H d v := by
    intro d
    induction d using D.rec (motive_2 := fun ds => ∀ vs, Rps w K m H ds vs → Rps w K (m ++ [a]) H ds vs) with
    | non => intro v _ h; cases h; exact .non
    | bl b => intro v _ h; cases h; exact .bl b
    | int b => intro v _ h; cases h; exact .int b
    | str b => intro v _ h; cases h; exact .str b
    | tup xs ih =>
      intro v _ h
      cases h with
      | tup t r =>
        refine .tup ?_ (ih _ r)
        rcases t with ⟨t, n⟩ | t
        · refine .inl ⟨t, fun hm => ?_⟩
          rcases List.mem_append.mp hm with hm | hm
          · exact n hm
          · simp at hm; subst hm
            rcases t with t | ⟨o, t⟩
            · exact ha.1 _ t
            · exact ha.2 _ _ t
        · exact .inr t
    | ref i => intro v _ h; cases h with | ref e => exact .ref (get_pre (List.prefix_append _ _) e)
    | lst xs => intro v h; cases h
    | rol xs ih =>
      intro v _ h
      cases h with
      | rol t r =>
        refine .rol ?_ (ih _ r)
        rcases t with ⟨⟨o, t⟩, n⟩ | t
        · refine .inl ⟨⟨o, t⟩, fun hm => ?_⟩
          rcases List.mem_append.mp hm with hm | hm
          · exact n hm
          · simp at hm; subst hm
            exact ha.2 _ _ t
        · exact .inr t
    | ist xs => intro v h; cases h
    | dic ks xs => intro v h; cases h
    | fn f => intro v _ h; cases h; exact .fn f
    | nil => rename_i z; cases z; exact .nil
    | cons d ds i1 i2 =>
      rename_i vs z
      cases z with
      | cons s h r => exact .cons s (i1 _ s h) (i2 _ r)
  exact key d v hs h
theorem Rps.settle {a : Addr} (ha : Own (H a)) : ∀ {ds : List D} {vs : List V}, Rps w K m H ds vs → Rps w K (m ++ [a]) H ds vs := by
  intro ds
  induction ds with
  | nil => intro vs h; cases h; exact .nil
  | cons d ds ih => intro vs h; cases h with | cons s h r => exact .cons s (h.settle ha s) (ih r)
theorem Fs.settle {a : Addr} (ha : Own (H a)) : ∀ {fs vs}, Fs w K m H fs vs → Fs w K (m ++ [a]) H fs vs
  | _, _, .nil => .nil
  | _, _, .cons s h r => .cons s (h.settle ha s) (Fs.settle ha r)
theorem ObOk.settle {a b : Addr} (ha : Own (H a)) {o : O} (h : ObOk w K m H b o) : ObOk w K (m ++ [a]) H b o := by
  cases o with
  | lst ds => obtain ⟨vs, q, r⟩ := h; exact ⟨vs, q, r.settle ha⟩
  | ins C fs => obtain ⟨dx, vs, q, r⟩ := h; exact ⟨dx, vs, q, r.settle ha⟩
  | dic lk ks ds => obtain ⟨vs, q, l, r⟩ := h; exact ⟨vs, q, l, r.settle ha⟩
theorem StOk.push (h : StOk w K m H s) {a : Addr} {ob : O} (ha : Own (H a)) (na : a ∉ m) (r : ObOk w K m H a ob) : StOk w K (m ++ [a]) H (s ++ [ob]) := by
  refine ⟨by simp [h.len], ?_, fun i o e => ?_⟩
  · rw [List.nodup_append]
    refine ⟨h.nd, by simp, fun x hx y hy z => ?_⟩
    simp at hy; subst hy; subst z; exact na hx
  · by_cases hi : i < s.length
    · rw [List.getElem?_append_left hi] at e
      obtain ⟨b, e1, q⟩ := h.at_ i o e
      exact ⟨b, get_pre (List.prefix_append _ _) e1, q.settle ha⟩
    · rw [List.getElem?_append_right (by omega)] at e
      have hi' : i - s.length = 0 := by
        cases k : i - s.length with
        | zero => rfl
        | succ n => rw [k] at e; simp at e
      rw [hi'] at e; simp at e; subst e
      refine ⟨a, ?_, r.settle ha⟩
      rw [List.getElem?_append_right (by rw [h.len]; omega), h.len, hi']
      rfl
theorem StOk.settle (h : StOk w K m H s) {a : Addr} {vs : List V} {ds : List D} (ha : H a = some (.lst vs)) (na : a ∉ m) (r : Rps w K m H ds vs) : StOk w K (m ++ [a]) H (s ++ [.lst ds]) :=
  h.push (by rw [ha]; exact own_lst) na ⟨vs, ha, r⟩
theorem Ex.settle {a : Addr} (e : Ex m H m1 H1) (ha : H a = none) : Ex m H (m1 ++ [a]) H1 :=
  ⟨e.pre.trans (List.prefix_append _ _), fun b o q n => ⟨(e.old b o q n).1, fun hm => by
    rcases List.mem_append.mp hm with z | z
    · exact (e.old b o q n).2 z
    · simp at z; subst z; rw [ha] at q; cases q⟩, e.frz⟩
theorem Rst.mono0 (R : Rst w K pr m ρ s σ H) (e : Ex0 m H m1 H1) (h : StOk w K m1 H1 s1) : Rst w K pr m1 ρ s1 σ H1 :=
  ⟨h, R.len, fun i d q => let ⟨a, v, b, c⟩ := R.at_ i d q; ⟨a, v, b, c.mono0 e⟩, fun p z => let ⟨a, b⟩ := R.pin p z; ⟨a, b.mono0 e⟩⟩
theorem Rst.mono (R : Rst w K pr m ρ s σ H) (e : Ex m H m1 H1) (h : StOk w K m1 H1 s1) : Rst w K pr m1 ρ s1 σ H1 :=
  ⟨h, R.len, fun i d q => let ⟨a, v, b, c⟩ := R.at_ i d q; ⟨a, v, b, c.mono e⟩, fun p z => let ⟨a, b⟩ := R.pin p z; ⟨a, b.mono e⟩⟩
theorem PostE.mono {Q : VK} {r : R D} (e : Ex m H m1 H1) (h : StOk w K m1 H1 s1) (p : PostE w K W σ m H Q r) : PostE w K W σ m1 H1 Q r := by
  cases r with
  | ok d s' => exact fun m' v H' e' h' rp fr => p m' v H' (e.trans e') h' rp fun z => let ⟨a, q, n⟩ := fr z; ⟨a, q, e.fr0 h n⟩
  | exc C fs s' => exact fun m' H' dx e' h' x => p m' H' dx (e.trans e') h' x
  | bad => exact p
theorem PostT.mono {Q : Bool → Hp → Prop} {r : R Bool} (e : Ex m H m1 H1) (p : PostT w K W σ m H Q r) : PostT w K W σ m1 H1 Q r := by
  cases r with
  | ok d s' => exact fun m' H' e' h' => p m' H' (e.trans e') h'
  | exc C fs s' => exact fun m' H' dx e' h' x => p m' H' dx (e.trans e') h' x
  | bad => exact p
theorem PostA.mono {Q : List V → Hp → Prop} {r : R (List D)} (e : Ex m H m1 H1) (p : PostA w K W σ m H Q r) : PostA w K W σ m1 H1 Q r := by
  cases r with
  | ok d s' => exact fun m' v H' e' h' => p m' v H' (e.trans e') h'
  | exc C fs s' => exact fun m' H' dx e' h' x => p m' H' dx (e.trans e') h' x
  | bad => exact p
theorem PostS.mono {D : Ends} {r : RS} (e : Ex m H m1 H1) (h : StOk w K m1 H1 s1) (p : PostS w K W pr m H D r) : PostS w K W pr m1 H1 D r := by
  cases r with
  | nx ρ s => exact fun m' v H' e' h' => p m' v H' (e.trans e') h'
  | rt d s' => exact fun m' v H' e' h' rp fr => p m' v H' (e.trans e') h' rp fun z => let ⟨a, q, n⟩ := fr z; ⟨a, q, e.fr0 h n⟩
  | bk ρ s => exact fun m' v H' e' h' => p m' v H' (e.trans e') h'
  | ct ρ s => exact fun m' v H' e' h' => p m' v H' (e.trans e') h'
  | exc C fs ρ s' => exact fun m' v H' dx e' h' x => p m' v H' dx (e.trans e') h' x
  | bad => exact p
/-- an expression, then what follows -/
theorem tD_bind {α : Type} {f : En → S → R D} {g : D → S → R α} {P : R α → List Addr → Hp → Prop} {k : V → Hp → Prop} (R₀ : Rst w K pr m ρ s σ H)
    (hexc : ∀ C fs s', P (.exc C fs s') m H → ∀ m' H' dx, Ex m H m' H' → StOk w K m' H' s' → ExcAt w K m' H' dx fs → W (.ref (He.ga K C)) (some dx) σ H') (hbad : ¬ P .bad m H)
    (h : P ((f ρ s).bind g) m H) (hk : ∀ d s1 m1 v H1, P (g d s1) m H → Ex m H m1 H1 → Rst w K pr m1 ρ s1 σ H1 → Rp w K m1 H1 d v → Fresh H d v → k v H1) :
    tD w K W pr f σ H k := by
  refine ⟨m, ρ, s, R₀, ?_⟩
  cases q : f ρ s with
  | ok d s1 =>
    rw [q] at h
    exact fun m1 v H1 e st rp fr => hk d s1 m1 v H1 h e (R₀.mono e st) rp fr
  | exc C fs s' =>
    rw [q] at h
    exact hexc C fs s' h
  | bad =>
    rw [q] at h
    exact hbad h
end
end DI

set_option Elab.async false
set_option linter.all false
set_option maxRecDepth 100000
set_option maxHeartbeats 4000000
/-! DI 3: the code over data and what it does. -/
namespace DI
open PySem PySem.Spec PyProof.Rows L2
inductive BOp where | add | sub | mul | fdiv | mod | pow
  deriving DecidableEq
inductive COp where | eq | ne | lt | le | gt | ge | isv | isn | inn | nin
  deriving DecidableEq
inductive Blt where | len | sum | max | min | all | any | tuple | list | sorted | set | int | str | dict
  deriving DecidableEq
inductive Ty where | int | bool | str | tuple | list | dict
  deriving DecidableEq
inductive Mth where | append | extend | pop | popi | index
  deriving DecidableEq
mutual
inductive IE where
  | con (d : D) | var (i : Nat) | glo (x : Str)
  | bin (o : BOp) (a b : IE) | neg (a : IE)
  | cmp (o : COp) (a b : IE) | chain (o o' : COp) (a b c : IE)
  | and (a b : IE) | or (a b : IE) | not (a : IE) | ife (t : IT) (a b : IE)
  | tup (es : List IE) | lst (es : List IE)
  | ix (a b : IE) | sl (a : IE) (lo hi : Option IE) | rev (a : IE)
  | call (f : Str) (es : List IE) | blt (b : Blt) (es : List IE) | isi (e : IE) (t : Ty)
  | mth (m : Mth) (o : IE) (es : List IE)
  | lc (own : List (Str × Nat)) (elt : IE) (g : IG) (it : II) (t : Option IT)
  | efld (i : Nat) (f : Str) | eisi (i : Nat) (c : Str)
  /-- any expression; never run -/
  | any
  /-- a def by its name; a call of what a name, a subscript tells -/
  | fnv (f : Str) | callx (e : IE) (es : List IE)
  /-- {k: v, ..}; {k: v for ..}; d.get(..) -/
  | dct (es : List IE) | dc (own : List (Str × Nat)) (k v : IE) (g : IG) (it : II) (t : Option IT) | dget (o : IE) (es : List IE)
  /-- tuple(d.items()), list(d.items()) -/
  | itms (b : Blt) (e : IE)
  /-- e.f; C(..); e.m(..) -/
  | fld (e : IE) (f : Str) | mk (C : Str) (es : List IE) | mcl (o : IE) (m : Str) (es : List IE)
  /-- while the dict p is locked -/
  | lok (p : IE) (e : IE)
inductive IT where
  | any | and (a b : IT) | or (a b : IT) | not (a : IT) | cmp (o : COp) (a b : IE) | chain (o o' : COp) (a b c : IE) | tru (e : IE)
inductive II where
  | seq (e : IE) | range (es : List IE) | enum (e : IE)
  | any | dk (e : IE) | di (e : IE) | zip (a b : IE)
  /-- a text, sign by sign -/
  | txt (e : IE)
inductive IG where
  | nm (i : Nat) | tup (gs : List IG) | sub (o i : IE)
end
/-! ### by values -/
/-- the i-th thing, a list -/
def lk (s : S) (i : Nat) : Option (List D) := match s[i]? with
  | some (.lst xs) => some xs
  | _ => none
theorem lk_some {s : S} {i : Nat} {xs : List D} : lk s i = some xs ↔ s[i]? = some (.lst xs) := by
  unfold lk
  split
  · rename_i h; rw [h]; simp
  · rename_i h; exact ⟨fun z => (nomatch z), fun z => absurd z (h xs)⟩
/-- the i-th thing, a dict -/
def dk (s : S) (i : Nat) : Option (List Key × List D) := match s[i]? with
  | some (.dic _ ks xs) => some (ks, xs)
  | _ => none
def D.dicOf (s : S) : D → Option (List Key × List D)
  | .dic ks xs => some (ks, xs)
  | .ref i => dk s i
  | _ => none
def keyD : D → Option Key
  | .int i => some (.inl i)
  | .str x => some (.inr x)
  | _ => none
def Kd : Key → D
  | .inl i => .int i
  | .inr x => .str x
def hasK (k : Key) : List Key → Bool
  | [] => false
  | j :: r => decide (j = k) || hasK k r
/-- a dict's pairs -/
def prD (ks : List Key) (xs : List D) : List D := (ks.zip xs).map fun p => .tup [Kd p.1, p.2]
def getX {α : Type} (k : Key) : List Key → List α → Option α
  | j :: ks, x :: xs => if j = k then some x else getX k ks xs
  | _, _ => none
def putX {α : Type} (k : Key) (v : α) : List Key → List α → List α
  | j :: ks, x :: xs => (if j = k then v else x) :: putX k v ks xs
  | _, _ => []
def putKs (k : Key) (ks : List Key) : List Key := if hasK k ks = true then ks else ks ++ [k]
def putVs {α : Type} (k : Key) (v : α) (ks : List Key) (xs : List α) : List α := if hasK k ks = true then putX k v ks xs else xs ++ [v]
def D.lstOf (s : S) : D → Option (List D)
  | .lst xs => some xs
  | .rol xs => some xs
  | .ref i => lk s i
  | _ => none
/-- a list of ours -/
def D.mutOf (s : S) : D → Option (List D)
  | .lst xs => some xs
  | .ref i => lk s i
  | _ => none
def D.seqOf (s : S) : D → Option (List D)
  | .tup xs => some xs
  | d => d.lstOf s
/-- what is gathered: a list, a tuple, a dict's keys -/
def D.srcOf (s : S) (d : D) : Option (List D) := match d.seqOf s with
  | some xs => some xs
  | none => (d.dicOf s).map fun p => p.1.map Kd
def intsD : List D → Option (List Int)
  | [] => some []
  | .int i :: r => (intsD r).map (i :: ·)
  | _ :: _ => none
def blsD : List D → Option (List Bool)
  | [] => some []
  | .bl i :: r => (blsD r).map (i :: ·)
  | _ :: _ => none
def strsD : List D → Option (List Str)
  | [] => some []
  | .str i :: r => (strsD r).map (i :: ·)
  | _ :: _ => none
mutual
def D.py0 : D → Option PyData
  | .non => some .none
  | .bl b => some (.bool b)
  | .int i => some (.int i)
  | .str x => some (.str x)
  | .tup xs => (D.pys xs).map .tuple
  | .lst xs => (D.pys xs).map .list
  | .rol xs => (D.pys xs).map .list
  | .ref _ => none
  | .ist _ => none
  | .dic _ _ => none
  | .fn _ => none
def D.pys : List D → Option (List PyData)
  | [] => some []
  | d :: r => match D.py0 d with
    | some p => (D.pys r).map (p :: ·)
    | none => none
end
def D.py (s : S) : D → Option PyData
  | .ref i => (lk s i).bind fun xs => (D.pys xs).map .list
  | d => d.py0
def D.scal : D → Bool
  | .non | .bl _ | .int _ | .str _ => true
  | _ => false
/-- what a scalar stands for -/
def D.sv : D → V
  | .non => .non | .bl b => .bl b | .int i => .int i | .str x => .str x | _ => .non
def eqD (s : S) (a b : D) : Option Bool :=
  if L2.scal a.sv b.sv && a.scal && b.scal then some (decide (a.sv = b.sv)) else
  match a.py s, b.py s with
  | some p, some q => if SeqAt.shaped p && SeqAt.shaped q then some (PyData.eqv p q) else none
  | _, _ => none
def inD (s : S) (a b : D) : Option Bool :=
  match b with
  | .tup xs => if a.scal && xs.all D.scal then some (inV a.sv (xs.map D.sv)) else none
  | .str z => (match a with
    | .str y => some (!(Builtin.Str.occurrences z y 0 z.length 1).isEmpty)
    | _ => none)
  | _ => match b.lstOf s with
    | some xs => if a.scal && xs.all D.scal then some (inV a.sv (xs.map D.sv)) else
      match a.py s, D.pys xs with
      | some p, some qs => if SeqAt.shaped p && SeqAt.shaped (.list qs) then some (qs.any fun z => PyData.eqv z p) else none
      | _, _ => none
    | none => match b.dicOf s, keyD a with
      | some (ks, xs), some k => some (getX k ks xs).isSome
      | _, _ => none
def ltD (a b : D) : Option Bool := match a, b with
  | .int i, .int j => some (decide (i < j))
  | .str i, .str j => some (decide (i.cps.toList < j.cps.toList))
  | _, _ => none
def leD (a b : D) : Option Bool := match a, b with
  | .int i, .int j => some (decide (i ≤ j))
  | _, _ => none
def gtD (a b : D) : Option Bool := match a, b with
  | .int i, .int j => some (decide (j < i))
  | _, _ => none
def geD (a b : D) : Option Bool := match a, b with
  | .int i, .int j => some (decide (j ≤ i))
  | _, _ => none
def isD (a b : D) : Option Bool :=
  match b with
  | .non => some (match a with | .non => true | _ => false)
  | .bl b => (match a with
    | .bl a => some (decide (a = b))
    | _ => none)
  | _ => none
def cmpO (o : COp) (a b : D) (s : S) : Option Bool := match o with
  | .eq => eqD s a b
  | .ne => (eqD s a b).map (!·)
  | .isv => isD a b
  | .isn => (isD a b).map (!·)
  | .inn => inD s a b
  | .nin => (inD s a b).map (!·)
  | .lt => ltD a b
  | .le => leD a b
  | .gt => gtD a b
  | .ge => geD a b
def cmpD (o : COp) (a b : D) (s : S) : R Bool := match cmpO o a b s with
  | some k => .ok k s
  | none => .bad
def addD (a b : D) (s : S) : R D := match a, b with
  | .int i, .int j => .ok (.int (i + j)) s
  | .str x, .str y => if x.length + y.length ≤ sizeLine then .ok (.str (x ++ y)) s else .bad
  | .tup xs, .tup ys => if xs.length + ys.length ≤ sizeLine then .ok (.tup (xs ++ ys)) s else .bad
  | a, b => match a.mutOf s, b.mutOf s with
    | some xs, some ys => if xs.length + ys.length ≤ sizeLine then .ok (.lst (xs ++ ys)) s else .bad
    | _, _ => .bad
def mulD (a b : D) (s : S) : R D := match a, b with
  | .int i, .int j => if (-(2 ^ 64) < i ∧ i < 2 ^ 64) ∨ (-(2 ^ 64) < j ∧ j < 2 ^ 64) then .ok (.int (i * j)) s else .bad
  | .tup xs, .int k => if xs ≠ [] ∧ k = 1 then .ok (.tup xs) s else if xs ≠ [] ∧ 2 ≤ k ∧ k ≤ 1000 ∧ xs.length ≤ 1000 then .ok (.tup (List.replicate k.toNat xs).flatten) s else .bad
  | a, .int k => match a.mutOf s with
    | some xs => if -(2 ^ 63) ≤ k ∧ k < 2 ^ 63 ∧ xs.length * k.toNat ≤ sizeLine then .ok (.lst (List.replicate k.toNat xs).flatten) s else .bad
    | none => .bad
  | _, _ => .bad
def binD (o : BOp) (a b : D) (s : S) : R D := match o with
  | .add => addD a b s
  | .mul => mulD a b s
  | .sub => (match a, b with
    | .int i, .int j => .ok (.int (i - j)) s
    | _, _ => .bad)
  | .fdiv => (match a, b with
    | .int i, .int j => if j ≠ 0 ∧ j.natAbs < 1073741824 then .ok (.int (i.fdiv j)) s else .bad
    | _, _ => .bad)
  | .mod => (match a, b with
    | .int i, .int j => if j ≠ 0 then .ok (.int (i.fmod j)) s else .bad
    | _, _ => .bad)
  | .pow => (match a, b with
    | .int i, .int j => if 0 ≤ j ∧ j ≤ 1000000 ∧ i.natAbs < 2 ^ 64 then .ok (.int (i ^ j.toNat)) s else .bad
    | _, _ => .bad)
/-- in place: numbers, texts -/
def augD (o : BOp) (a b : D) (s : S) : R D := match a, b with
  | .int i, .int j => (match o with
    | .add => .ok (.int (i + j)) s
    | .sub => .ok (.int (i - j)) s
    | .mul => if (-(2 ^ 64) < i ∧ i < 2 ^ 64) ∨ (-(2 ^ 64) < j ∧ j < 2 ^ 64) then .ok (.int (i * j)) s else .bad
    | _ => .bad)
  | .str x, .str y => (match o with
    | .add => if x.length + y.length ≤ sizeLine then .ok (.str (x ++ y)) s else .bad
    | _ => .bad)
  | _, _ => .bad
def ixD (a b : D) (s : S) : R D :=
  match a, b with
  | .str z, .int i => if z.length ≤ sizeLine then (match atI z.cps.toList i with
    | some c => .ok (.str ⟨#[c]⟩) s
    | none => .bad) else .bad
  | a, b => match a.dicOf s, keyD b with
    | some (ks, xs), some k => (match getX k ks xs with
      | some d => .ok d s
      | none => .bad)
    | _, _ => match b with
      | .int i => (match a.seqOf s with
        | some xs => (match atI xs i with
          | some d => .ok d s
          | none => .bad)
        | none => .bad)
      | _ => .bad
def cutD (xs : List D) (lo hi : Option Int) : List D := (xs.drop (HT.sIx xs.length 0 lo)).take (HT.sIx xs.length xs.length hi - HT.sIx xs.length 0 lo)
def slD (a : D) (lo hi : Option Int) (s : S) : R D :=
  match a with
  | .tup xs => .ok (.tup (cutD xs lo hi)) s
  | a => match a.lstOf s with
    | some xs => .ok (.lst (cutD xs lo hi)) s
    | none => .bad
def revD (a : D) (s : S) : R D :=
  match a with
  | .tup xs => .ok (.tup xs.reverse) s
  | a => match a.lstOf s with
    | some xs => .ok (.lst xs.reverse) s
    | none => .bad
def truD (d : D) (s : S) : R Bool :=
  match d with
  | .bl b => .ok b s
  | _ => .bad
def isT (d : D) (t : Ty) (s : S) : Option Bool :=
  match d with
  | .non => some false
  | .bl _ => some (t == .bool || t == .int)
  | .int _ => some (t == .int)
  | .str _ => some (t == .str)
  | .tup _ => some (t == .tuple)
  | .lst _ => some (t == .list)
  | .rol _ => some (t == .list)
  | .ref i => match lk s i with
    | some _ => some (t == .list)
    | none => (dk s i).map fun _ => t == .dict
  | .dic _ _ => some (t == .dict)
  | .ist _ => none
  | .fn _ => none
/-- texts, by the places of their signs -/
def leStr (a b : Str) : Bool := !decide (b.cps.toList < a.cps.toList)
def maxL : List Int → Int
  | [] => 0
  | [i] => i
  | i :: r => let m := maxL r; if i < m then m else i
def minL : List Int → Int
  | [] => 0
  | [i] => i
  | i :: r => let m := minL r; if m < i then m else i
def bltD (b : Blt) (ds : List D) (s : S) : R D :=
  match b, ds with
  | .len, [.str z] => if z.length ≤ sizeLine then .ok (.int z.length) s else .bad
  | .len, [d] => match d.seqOf s with
    | some xs => .ok (.int xs.length) s
    | none => match d.dicOf s with
      | some (ks, _) => .ok (.int ks.length) s
      | none => .bad
  | .sum, [d] => match (d.lstOf s).bind intsD with
    | some ns => .ok (.int ns.sum) s
    | none => .bad
  | .max, [d] => match (d.lstOf s).bind intsD with
    | some ns => if ns ≠ [] then .ok (.int (maxL ns)) s else .bad
    | none => .bad
  | .min, [d] => match (d.lstOf s).bind intsD with
    | some ns => if ns ≠ [] then .ok (.int (minL ns)) s else .bad
    | none => .bad
  | .all, [d] => match (d.lstOf s).bind blsD with
    | some bs => .ok (.bl (bs.all id)) s
    | none => .bad
  | .any, [d] => match (d.lstOf s).bind blsD with
    | some bs => .ok (.bl (bs.any id)) s
    | none => .bad
  | .tuple, [d] => match d.seqOf s with
    | some xs => .ok (.tup xs) s
    | none => match d.dicOf s with
      | some (ks, _) => .ok (.tup (ks.map Kd)) s
      | none => .bad
  | .list, [d] => match d.seqOf s with
    | some xs => .ok (.lst xs) s
    | none => match d.dicOf s with
      | some (ks, _) => .ok (.lst (ks.map Kd)) s
      | none => .bad
  | .dict, [d] => match d.dicOf s with
      | some (ks, xs) => .ok (.dic ks xs) s
      | none => .bad
  | .sorted, [.ist ns] => if ns.length < 64 then .ok (.lst (((ns.eraseDups).mergeSort (fun a b => decide (a ≤ b))).map .int)) s else .bad
  | .sorted, [d] => match (d.srcOf s).bind intsD with
    | some ns => .ok (.lst ((ns.mergeSort (fun a b => decide (a ≤ b))).map .int)) s
    | none => match (d.srcOf s).bind strsD with
      | some ns => .ok (.lst ((ns.mergeSort leStr).map .str)) s
      | none => .bad
  | .set, [.tup xs] => match intsD xs with
    | some ns => if ns.length + 1 < scanBound then .ok (.ist ns) s else .bad
    | none => .bad
  | .int, [.int i] => .ok (.int i) s
  | .str, [.int i] => if i.natAbs.log2 < 1920 then .ok (.str (toString i : String)) s else .bad
  | _, _ => .bad
def mthD (m : Mth) (o : D) (ds : List D) (s : S) : R D :=
  match m, o, ds with
  | .append, .ref i, [d] => match lk s i with
    | some xs => if xs.length < sizeLine then .ok .non (s.set i (.lst (xs ++ [d]))) else .bad
    | none => .bad
  | .extend, .ref i, [d] => match lk s i, d.mutOf s with
    | some xs, some ys => if xs.length + ys.length ≤ sizeLine then .ok .non (s.set i (.lst (xs ++ ys))) else .bad
    | _, _ => .bad
  | .pop, .ref i, [] => match lk s i with
    | some xs => (match xs.getLast? with
      | some d => .ok d (s.set i (.lst xs.dropLast))
      | none => .bad)
    | none => .bad
  | .popi, .ref i, [.int k] => match lk s i with
    | some xs => if -(2 ^ 63) ≤ k ∧ k < 2 ^ 63 then (match seqIndex? k xs.length with
      | some j => (match xs[j]? with
        | some d => .ok d (s.set i (.lst (xs.eraseIdx j)))
        | none => .bad)
      | none => .bad) else .bad
    | none => .bad
  | _, _, _ => .bad
/-- d.get(k), d.get(k, x) -/
def getD (o : D) (ds : List D) (s : S) : R D :=
  match o.dicOf s, ds with
  | some (ks, xs), [a] => match keyD a with
    | some k => .ok ((getX k ks xs).getD .non) s
    | none => .bad
  | some (ks, xs), [a, x] => match keyD a with
    | some k => .ok ((getX k ks xs).getD x) s
    | none => .bad
  | _, _ => .bad
/-- to be held -/
def setl (d : D) (s : S) : R D :=
  match d with
  | .lst xs => .ok (.ref s.length) (s ++ [.lst xs])
  | .dic ks xs => .ok (.ref s.length) (s ++ [.dic false ks xs])
  | .ist _ => .bad
  | d => .ok d s
/-- what is walked: the items; whether it stands -/
structure Its where
  xs : List D
  ok : S → Bool
mutual
def D.same : D → D → Bool
  | .non, .non => true
  | .bl a, .bl b => a == b
  | .int a, .int b => a == b
  | .str a, .str b => decide (a = b)
  | .tup a, .tup b => D.sames a b
  | .ref a, .ref b => a == b
  | .lst a, .lst b => D.sames a b
  | .rol a, .rol b => D.sames a b
  | .ist a, .ist b => a == b
  | .dic k a, .dic l b => decide (k = l) && D.sames a b
  | .fn a, .fn b => decide (a = b)
  | _, _ => false
def D.sames : List D → List D → Bool
  | [], [] => true
  | x :: xs, y :: ys => D.same x y && D.sames xs ys
  | _, _ => false
end
def seqI (d : D) (s : S) : R Its :=
  match d with
  | .tup xs => .ok ⟨xs, fun _ => true⟩ s
  | .lst xs => .ok ⟨xs, fun _ => true⟩ s
  | .rol xs => .ok ⟨xs, fun _ => true⟩ s
  | .ref i => match lk s i with
    | some xs => .ok ⟨xs, fun s => match lk s i with
      | some ys => D.sames ys xs
      | none => false⟩ s
    | none => .bad
  | _ => .bad
def rangeL (lo : Int) (n : Nat) (c : Int) : List D := (List.range n).map fun k => .int (lo + (k : Nat) * c)
def bnd (i : Int) : Bool := decide (-(2 ^ 62) ≤ i) && decide (i < 2 ^ 62)
def rngI (ds : List D) (s : S) : R Its :=
  match ds with
  | [.int j] => if bnd j then .ok ⟨rangeL 0 j.toNat 1, fun _ => true⟩ s else .bad
  | [.int i, .int j] => if bnd i && bnd j then .ok ⟨rangeL i (j - i).toNat 1, fun _ => true⟩ s else .bad
  | [.int i, .int j, .int c] => if bnd i && bnd j && c == -1 then .ok ⟨rangeL i (i - j).toNat (-1), fun _ => true⟩ s else .bad
  | _ => .bad
/-- a text's signs -/
def txtI (d : D) (s : S) : R Its := match d with
  | .str z => .ok ⟨z.cps.toList.map fun c => .str ⟨#[c]⟩, fun _ => true⟩ s
  | _ => .bad
def enumI (d : D) (s : S) : R Its :=
  match seqI d s with
  | .ok I s => .ok ⟨(I.xs.zipIdx.map fun p => .tup [.int (p.2 : Nat), p.1]), I.ok⟩ s
  | .exc C fs s => .exc C fs s
  | .bad => .bad
/-- a locked dict's keys; its pairs -/
def keysI (d : D) (s : S) : R Its := match d with
  | .ref i => (match s[i]? with
    | some (.dic true ks _) => .ok ⟨ks.map Kd, fun _ => true⟩ s
    | _ => .bad)
  | _ => .bad
def pairsI (d : D) (s : S) : R Its := match d with
  | .ref i => (match s[i]? with
    | some (.dic true ks xs) => .ok ⟨prD ks xs, fun _ => true⟩ s
    | _ => .bad)
  | _ => .bad
/-- pairs of two rows -/
def prs (xs ys : List D) : List D := (xs.zip ys).map fun p => .tup [p.1, p.2]
def zipI (a b : D) (s : S) : R Its := match seqI a s, seqI b s with
  | .ok I _, .ok J _ => if (a.lstOf s).isSome = (b.lstOf s).isSome then .ok ⟨prs I.xs J.xs, fun s => I.ok s && J.ok s⟩ s else .bad
  | _, _ => .bad
abbrev CallT := Str → List D → S → R D
/-- the own slots forgotten -/
def wip (ρ : En) : List Nat → En
  | [] => ρ
  | v :: vs => (wip ρ vs).set v none
/-- a comprehension's turns -/
def lcL (turn : D → S → R (Option D)) (ok : S → Bool) : List D → List D → S → R D
  | [], acc, s => if ok s then .ok (.lst acc) s else .bad
  | x :: xs, acc, s => if ok s then (match turn x s with
    | .ok (some d) s => if acc.length < sizeLine then lcL turn ok xs (acc ++ [d]) s else .bad
    | .ok none s => lcL turn ok xs acc s
    | _ => .bad) else .bad
/-- pairs put one by one -/
def mrg {α : Type} : List Key → List α → List Key → List α → List Key × List α
  | ks, xs, k :: js, y :: ys => mrg (putKs k ks) (putVs k y ks xs) js ys
  | ks, xs, _, _ => (ks, xs)
/-- a dict comprehension's turns -/
def dcL (turn : D → S → R (Option (Key × D))) (ok : S → Bool) : List D → List Key → List D → S → R D
  | [], ks, vs, s => if ok s then .ok (.dic ks vs) s else .bad
  | x :: xs, ks, vs, s => if ok s then (match turn x s with
    | .ok (some (k, d)) s => if ks.length < sizeLine then dcL turn ok xs (putKs k ks) (putVs k d ks vs) s else .bad
    | .ok none s => dcL turn ok xs ks vs s
    | _ => .bad) else .bad
/-- d[k] = v -/
def putDk (s : S) (a : Nat) (k : Key) (v : D) : Option S := match s[a]? with
  | some (.dic false ks xs) => if ks.length < sizeLine then some (s.set a (.dic false (putKs k ks) (putVs k v ks xs))) else none
  | _ => none
/-- a store to a[i] -/
def subD (o i v : D) (s : S) : Option S :=
  match o, i with
  | .ref a, .int k => match lk s a with
    | some xs => (match ixN xs.length k with
      | some j => some (s.set a (.lst (xs.set j v)))
      | none => none)
    | none => putDk s a (.inl k) v
  | .ref a, .str x => putDk s a (.inr x) v
  | _, _ => none
/-- an exception held by a name: its own fields, ahead -/
abbrev Hd := Option (Nat × Str × List (Str × D))
/-- a name that may be stored -/
def hdOk (h : Hd) (i : Nat) : Bool := match h with
  | some (j, _, _) => decide (i ≠ j)
  | none => true
/-- within a target nothing is raised -/
def R.nox {α : Type} : R α → R α
  | .exc _ _ _ => .bad
  | r => r
/-- what is around: the defs, the module's constants, a held exception, which class is one of which -/
structure Rq where
  c : CallT
  gl : Str → Option D
  hd : Hd
  isx : Str → Str → Option Bool
  ex : Str → Option (List Str) := fun _ => none
  /-- a class's def of a name; its own fields; its __init__ -/
  mt : Str → Str → Option Str := fun _ _ => none
  cf : Str → Str → Bool := fun _ _ => false
  mkI : Str → Option Str := fun _ => none
  isf : Str → Bool := fun _ => false
  fuel : Nat := 0
/-- a field of an own exception -/
def Rq.fld (q : Rq) (C f : Str) : Bool := match q.ex C with
  | some fl => decide (f ∈ fl)
  | none => false
mutual
def runE (q : Rq) : IE → En → S → R D
  | .con d, _, s => .ok d s
  | .var i, ρ, s => match ρ[i]? with
    | some (some d) => .ok d s
    | _ => .bad
  | .glo x, _, s => match q.gl x with
    | some d => .ok d s
    | none => .bad
  | .bin o a b, ρ, s => (runE q a ρ s).bind fun x s => (runE q b ρ s).bind fun y s => binD o x y s
  | .neg a, ρ, s => (runE q a ρ s).bind fun x s => match x with
    | .int i => .ok (.int (-i)) s
    | _ => .bad
  | .cmp o a b, ρ, s => (runE q a ρ s).bind fun x s => (runE q b ρ s).bind fun y s => (cmpD o x y s).bind fun k s => .ok (.bl k) s
  | .chain o o' a b e, ρ, s => (runE q a ρ s).bind fun x s => (runE q b ρ s).bind fun y s => (cmpD o x y s).bind fun k s =>
    if k = true then (runE q e ρ s).bind fun z s => (cmpD o' y z s).bind fun k s => .ok (.bl k) s else .ok (.bl false) s
  | .and a b, ρ, s => (runE q a ρ s).bind fun x s => match x with
    | .bl true => runE q b ρ s
    | .bl false => .ok (.bl false) s
    | _ => .bad
  | .or a b, ρ, s => (runE q a ρ s).bind fun x s => match x with
    | .bl true => .ok (.bl true) s
    | .bl false => runE q b ρ s
    | _ => .bad
  | .not a, ρ, s => (runE q a ρ s).bind fun x s => match x with
    | .bl k => .ok (.bl (!k)) s
    | _ => .bad
  | .ife t a b, ρ, s => (runT q t ρ s).bind fun k s => if k = true then runE q a ρ s else runE q b ρ s
  | .tup es, ρ, s => (runEs q es ρ s).bind fun ds s => if ds.length ≤ sizeLine then .ok (.tup ds) s else .bad
  | .lst es, ρ, s => (runEs q es ρ s).bind fun ds s => if ds.length ≤ sizeLine then .ok (.lst ds) s else .bad
  | .ix a b, ρ, s => (runE q a ρ s).bind fun x s => (runE q b ρ s).bind fun y s => ixD x y s
  | .sl a lo hi, ρ, s => (runE q a ρ s).bind fun x s => (runO q lo ρ s).bind fun l s => (runO q hi ρ s).bind fun u s => slD x l u s
  | .rev a, ρ, s => (runE q a ρ s).bind fun x s => revD x s
  | .call f es, ρ, s => (runEs q es ρ s).bind fun ds s => q.c f ds s
  | .blt b es, ρ, s => (runEr q es ρ s).bind fun ds s => bltD b ds s
  | .isi e t, ρ, s => (runE q e ρ s).bind fun d s => match isT d t s with
    | some k => .ok (.bl k) s
    | none => .bad
  | .mth m o es, ρ, s => (runE q o ρ s).bind fun d s => if (d.mutOf s).isSome = true then (runEs q es ρ s).bind fun ds s => mthD m d ds s else .bad
  | .lc own elt g it t, ρ, s => (runI q it ρ s).bind fun I s =>
    lcL (fun x s => (runG q g x (wip ρ (own.map (·.2))) s).bind fun ρ' s => (runTo q t ρ' s).bind fun k s => if k = true then ((runE q elt ρ' s).bind setl).bind fun d s => .ok (some d) s else .ok none s) I.ok I.xs [] s
  | .efld i f, _, s => match q.hd with
    | some (j, C, fs) => if i = j ∧ q.fld C f = true then (match fs.lookup f with
      | some d => .ok d s
      | none => .bad) else .bad
    | none => .bad
  | .eisi i k, _, s => match q.hd with
    | some (j, C, _) => if i = j then (match q.isx C k with
      | some b => .ok (.bl b) s
      | none => .bad) else .bad
    | none => .bad
  | .any, _, _ => .bad
  | .fnv f, _, s => .ok (.fn f) s
  | .callx e es, ρ, s => (runE q e ρ s).bind fun d s => match d with
    | .fn f => if q.isf f = true then (runEs q es ρ s).bind fun ds s => q.c f ds s else .bad
    | _ => .bad
  | .dct es, ρ, s => (runKs q es ρ s).bind fun p s => .ok (.dic (mrg [] [] p.1 p.2).1 (mrg [] [] p.1 p.2).2) s
  | .dc own k v g it t, ρ, s => (runI q it ρ s).bind fun I s =>
    dcL (fun x s => (runG q g x (wip ρ (own.map (·.2))) s).bind fun ρ' s => (runTo q t ρ' s).bind fun c s => if c = true then (runE q k ρ' s).bind fun a s => ((runE q v ρ' s).bind setl).bind fun d s => (match keyD a with
      | some k => .ok (some (k, d)) s
      | none => .bad) else .ok none s) I.ok I.xs [] [] s
  | .dget o es, ρ, s => (runE q o ρ s).bind fun d s => if (d.dicOf s).isSome = true then (runEs q es ρ s).bind fun ds s => getD d ds s else .bad
  | .itms b e, ρ, s => (runE q e ρ s).bind fun d s => match d.dicOf s with
    | some (ks, xs) => (match b with
      | .tuple => .ok (.tup (prD ks xs)) s
      | .list => .ok (.lst (prD ks xs)) s
      | _ => .bad)
    | none => .bad
  | .fld e f, ρ, s => (runE q e ρ s).bind fun d s => match d with
    | .ref i => (match s[i]? with
      | some (.ins C fs) => if q.cf C f = true then (match fs.lookup f with
        | some d => .ok d s
        | none => .bad) else .bad
      | _ => .bad)
    | _ => .bad
  | .mk C es, ρ, s => (runEs q es ρ s).bind fun ds s => match q.mkI C with
    | some f => (q.c f (.ref s.length :: ds) (s ++ [.ins C []])).bind fun r s' => (match r with
      | .non => .ok (.ref s.length) s'
      | _ => .bad)
    | none => .bad
  | .mcl o m es, ρ, s => (runE q o ρ s).bind fun d s => match d with
    | .ref i => (match s[i]? with
      | some (.ins C fs) => (match q.mt C m, fs.lookup m with
        | some f, none => (runEs q es ρ s).bind fun ds s => q.c f (d :: ds) s
        | _, _ => .bad)
      | _ => .bad)
    | _ => .bad
  | .lok p e, ρ, s => match runE q p ρ s with
    | .ok (.ref i) s1 => (match s1[i]? with
      | some (.dic false ks xs) => (runE q e ρ (s1.set i (.dic true ks xs))).bind fun d s2 => (match s2[i]? with
        | some (.dic true ks xs) => .ok d (s2.set i (.dic false ks xs))
        | _ => .bad)
      | some (.dic true _ _) => runE q e ρ s1
      | _ => .bad)
    | _ => .bad
/-- the keys and values of a display, by turns -/
def runKs (q : Rq) : List IE → En → S → R (List Key × List D)
  | [], _, s => .ok ([], []) s
  | k :: v :: r, ρ, s => (runE q k ρ s).bind fun a s => ((runE q v ρ s).bind setl).bind fun d s => match keyD a with
    | some k => (runKs q r ρ s).bind fun p s => .ok (k :: p.1, d :: p.2) s
    | none => .bad
  | _, _, _ => .bad
/-- arguments, each to be held -/
def runEs (q : Rq) : List IE → En → S → R (List D)
  | [], _, s => .ok [] s
  | e :: es, ρ, s => ((runE q e ρ s).bind setl).bind fun d s => (runEs q es ρ s).bind fun ds s => .ok (d :: ds) s
/-- arguments of a built-in -/
def runEr (q : Rq) : List IE → En → S → R (List D)
  | [], _, s => .ok [] s
  | e :: es, ρ, s => (runE q e ρ s).bind fun d s => (runEr q es ρ s).bind fun ds s => .ok (d :: ds) s
def runO (q : Rq) : Option IE → En → S → R (Option Int)
  | none, _, s => .ok none s
  | some e, ρ, s => (runE q e ρ s).bind fun d s => match d with
    | .int i => .ok (some i) s
    | _ => .bad
def runTo (q : Rq) : Option IT → En → S → R Bool
  | none, _, s => .ok true s
  | some t, ρ, s => runT q t ρ s
def runT (q : Rq) : IT → En → S → R Bool
  | .and a b, ρ, s => (runT q a ρ s).bind fun k s => if k = true then runT q b ρ s else .ok false s
  | .or a b, ρ, s => (runT q a ρ s).bind fun k s => if k = true then .ok true s else runT q b ρ s
  | .not a, ρ, s => (runT q a ρ s).bind fun k s => .ok (!k) s
  | .cmp o a b, ρ, s => (runE q a ρ s).bind fun x s => (runE q b ρ s).bind fun y s => cmpD o x y s
  | .chain o o' a b e, ρ, s => (runE q a ρ s).bind fun x s => (runE q b ρ s).bind fun y s => (cmpD o x y s).bind fun k s =>
    if k = true then (runE q e ρ s).bind fun z s => cmpD o' y z s else .ok false s
  | .tru e, ρ, s => (runE q e ρ s).bind truD
  | .any, _, _ => .bad
def runI (q : Rq) : II → En → S → R Its
  | .seq e, ρ, s => (runE q e ρ s).bind seqI
  | .range es, ρ, s => (runEr q es ρ s).bind rngI
  | .enum e, ρ, s => (runE q e ρ s).bind enumI
  | .any, _, _ => .bad
  | .dk e, ρ, s => (runE q e ρ s).bind keysI
  | .di e, ρ, s => (runE q e ρ s).bind pairsI
  | .txt e, ρ, s => (runE q e ρ s).bind txtI
  | .zip a b, ρ, s => (runE q a ρ s).bind fun x s => (runE q b ρ s).bind fun y s => zipI x y s
/-- a target is given a value -/
def runG (q : Rq) : IG → D → En → S → R En
  | .nm i, d, ρ, s => (setl d s).bind fun d s => if i < ρ.length ∧ hdOk q.hd i = true then .ok (ρ.set i (some d)) s else .bad
  | .tup gs, d, ρ, s => match d with
    | .tup ds => runGs q gs ds ρ s
    | _ => .bad
  | .sub o i, d, ρ, s => (setl d s).bind fun d s => (runE q o ρ s).nox.bind fun x s => (runE q i ρ s).nox.bind fun y s => match subD x y d s with
    | some s => .ok ρ s
    | none => .bad
def runGs (q : Rq) : List IG → List D → En → S → R En
  | [], [], ρ, s => .ok ρ s
  | g :: gs, d :: ds, ρ, s => (runG q g d ρ s).bind fun ρ s => runGs q gs ds ρ s
  | _, _, _, _ => .bad
end
inductive IS where
  | asg (g : IG) (e : IE) | par (gs : List Nat) (es : List IE) | aug (i : Nat) (o : BOp) (e : IE)
  | expr (e : IE) | ret (e : Option IE)
  | ife (t : IT) (a b : List IS)
  | fo (g : IG) (it : II) (body : List IS)
  | whl (t : IT) (body : List IS)
  | brk | cnt | pass
  | raise (C : Str) (es : List IE)
  | tr (body : List IS) (hs : List (Str × Option Nat × List IS))
  | any
  /-- o.f = e; o.f op= e; while the dict p is locked -/
  | fst (o : IE) (f : Str) (e : IE) | fau (o : IE) (f : Str) (op : BOp) (e : IE) | lok (p : IE) (st : IS)
def foL (set : D → En → S → R En) (body : En → S → RS) (ok : S → Bool) : List D → En → S → RS
  | [], ρ, s => if ok s then .nx ρ s else .bad
  | x :: xs, ρ, s => if ok s then (match set x ρ s with
    | .ok ρ s => (match body ρ s with
      | .nx ρ s => foL set body ok xs ρ s
      | .ct ρ s => foL set body ok xs ρ s
      | .bk ρ s => .nx ρ s
      | r => r)
    | _ => .bad) else .bad
def whL (test : En → S → R Bool) (body : En → S → RS) : Nat → En → S → RS
  | 0, _, _ => .bad
  | n + 1, ρ, s => match test ρ s with
    | .ok true s => (match body ρ s with
      | .nx ρ s => whL test body n ρ s
      | .ct ρ s => whL test body n ρ s
      | .bk ρ s => .nx ρ s
      | r => r)
    | .ok false s => .nx ρ s
    | .exc C fs s => .exc C fs ρ s
    | .bad => .bad
def R.thn {α : Type} (r : R α) (ρ : En) (f : α → S → RS) : RS := match r with
  | .ok a s => f a s
  | .exc C fs s => .exc C fs ρ s
  | .bad => .bad
/-- no exception leaves a suite; its name is gone -/
def suiteEnd (i : Option Nat) : RS → RS
  | .nx ρ s => .nx (match i with | some i => ρ.set i none | none => ρ) s
  | .bk ρ s => .bk (match i with | some i => ρ.set i none | none => ρ) s
  | .ct ρ s => .ct (match i with | some i => ρ.set i none | none => ρ) s
  | .rt d s => .rt d s
  | _ => .bad
def putFd (f : Str) (v : D) : List (Str × D) → List (Str × D)
  | [] => [(f, v)]
  | (g, x) :: r => if g = f then (g, v) :: r else (g, x) :: putFd f v r
/-- the i-th thing's class -/
def clsAt (s : S) (i : Nat) : Option Str := match s[i]? with
  | some (.ins C _) => some C
  | _ => none
/-- a field is stored -/
def putFl (q : Rq) (x : D) (f : Str) (d : D) (s : S) : Option S := match x with
  | .ref i => (match s[i]? with
    | some (.ins C fs) => if q.cf C f = true ∧ fs.length < 1000 then some (s.set i (.ins C (putFd f d fs))) else none
    | _ => none)
  | _ => none
/-- behind a lock; an exception leaves it locked -/
def unlS (i : Nat) (s : S) : Option S := match s[i]? with
  | some (.dic true ks xs) => some (s.set i (.dic false ks xs))
  | _ => none
def unlk (i : Nat) : RS → RS
  | .nx ρ s => match unlS i s with
    | some s => .nx ρ s
    | none => .bad
  | .bk ρ s => match unlS i s with
    | some s => .bk ρ s
    | none => .bad
  | .ct ρ s => match unlS i s with
    | some s => .ct ρ s
    | none => .bad
  | .rt d s => match unlS i s with
    | some s => .rt d s
    | none => .bad
  | r => r
def setPar : List Nat → List D → En → En
  | i :: is, d :: ds, ρ => setPar is ds (ρ.set i (some d))
  | _, _, ρ => ρ
mutual
def runS (q : Rq) : IS → En → S → RS
  | .asg g e, ρ, s => (runE q e ρ s).thn ρ fun d s => (runG q g d ρ s).nox.thn ρ fun ρ s => .nx ρ s
  | .par is es, ρ, s => (runEs q es ρ s).thn ρ fun ds s => if is.length = ds.length ∧ (is.all fun i => hdOk q.hd i && decide (i < ρ.length)) = true then .nx (setPar is ds ρ) s else .bad
  | .aug i o e, ρ, s => match ρ[i]? with
    | some (some x) => (runE q e ρ s).thn ρ fun y s => if hdOk q.hd i = true then (augD o x y s).thn ρ fun z s => .nx (ρ.set i (some z)) s else .bad
    | _ => .bad
  | .expr e, ρ, s => (runE q e ρ s).thn ρ fun _ s => .nx ρ s
  | .ret none, _, s => .rt .non s
  | .ret (some e), ρ, s => (runE q e ρ s).thn ρ fun d s => .rt d s
  | .ife t a b, ρ, s => (runT q t ρ s).thn ρ fun k s => if k = true then runSs q a ρ s else runSs q b ρ s
  | .fo g it body, ρ, s => (runI q it ρ s).thn ρ fun I s => foL (fun x ρ s => runG q g x ρ s) (fun ρ s => runSs q body ρ s) I.ok I.xs ρ s
  | .whl t body, ρ, s => whL (fun ρ s => runT q t ρ s) (fun ρ s => runSs q body ρ s) q.fuel ρ s
  | .brk, ρ, s => .bk ρ s
  | .cnt, ρ, s => .ct ρ s
  | .pass, ρ, s => .nx ρ s
  | .raise C es, ρ, s => match q.ex C with
    | some fs => (runEs q es ρ s).thn ρ fun ds s => if ds.length = fs.length then .exc C (fs.zip ds).reverse ρ s else .bad
    | none => .bad
  | .tr body hs, ρ, s => match runSs q body ρ s with
    | .exc C fs ρ s => runHs q C fs hs ρ s
    | r => r
  | .any, _, _ => .bad
  | .fst o f e, ρ, s => ((runE q e ρ s).bind setl).thn ρ fun d s => (runE q o ρ s).thn ρ fun x s => match putFl q x f d s with
    | some s => .nx ρ s
    | none => .bad
  | .fau o f op e, ρ, s => (runE q o ρ s).thn ρ fun x s => match x with
    | .ref i => (match s[i]? with
      | some (.ins C fs) => if q.cf C f = true then (match fs.lookup f with
        | some y => (runE q e ρ s).thn ρ fun z s => (augD op y z s).thn ρ fun r s => if clsAt s i = some C then (match putFl q (.ref i) f r s with
          | some s => .nx ρ s
          | none => .bad) else .bad
        | none => .bad) else .bad
      | _ => .bad)
    | _ => .bad
  | .lok p st, ρ, s => match runE q p ρ s with
    | .ok (.ref i) s1 => (match s1[i]? with
      | some (.dic false ks xs) => unlk i (runS q st ρ (s1.set i (.dic true ks xs)))
      | some (.dic true _ _) => runS q st ρ s1
      | _ => .bad)
    | _ => .bad
def runSs (q : Rq) : List IS → En → S → RS
  | [], ρ, s => .nx ρ s
  | st :: r, ρ, s => match runS q st ρ s with
    | .nx ρ s => runSs q r ρ s
    | r => r
def runHs (q : Rq) (C : Str) (fs : List (Str × D)) : List (Str × Option Nat × List IS) → En → S → RS
  | [], ρ, s => .exc C fs ρ s
  | (k, i, body) :: r, ρ, s => match q.isx C k with
    | some true => (match i with
      | some i => if i < ρ.length then suiteEnd (some i) (runSs { q with hd := some (i, C, fs) } body (ρ.set i none) s) else .bad
      | none => suiteEnd none (runSs { q with hd := none } body ρ s))
    | some false => runHs q C fs r ρ s
    | none => .bad
end
/-- a def's body -/
def runF (q : Rq) (n : Nat) (body : List IS) (ds : List D) (s : S) : R D :=
  match runSs q body (ds.map some ++ List.replicate (n - ds.length) none) s with
  | .nx _ s => .ok .non s
  | .rt d s => .ok d s
  | .exc C fs _ s => .exc C fs s
  | _ => .bad
/-- a def: its slots, how many parameters, its body -/
structure Df where
  name : Str
  nP : Nat
  N : List Str
  body : List IS
  /-- a method: its class, its name there -/
  cls : Option (Str × Str)
def Df.at_ (d : Df) : Str × Option Str := match d.cls with
  | none => (d.name, none)
  | some p => (p.1, some p.2)
/-- the defs, calls this deep -/
def callN (ds : List Df) (q : Rq) : Nat → CallT
  | 0, _, _, _ => .bad
  | k + 1, f, as, s => match ds.find? (fun d => decide (d.name = f)) with
    | some d => if as.length = d.nP then runF { q with c := callN ds q k } d.N.length d.body as s else .bad
    | none => .bad
example (q : Rq) (d : D) (ρ : En) (s : S) : runE q (.con d) ρ s = .ok d s := rfl
example (q : Rq) (ρ : En) (s : S) : runSs q [.brk] ρ s = .bk ρ s := rfl
end DI

set_option Elab.async false
set_option linter.all false
set_option maxRecDepth 100000
set_option maxHeartbeats 4000000
/-! DI 4: what operators and built-ins do, by HandS's rules. -/
namespace DI
open PySem PySem.Spec PyProof.Rows L2
theorem tuple_mul1 (l : Addr) (items : Array Value) (n : Nat) (dd : Option Addr) (sl : Array (Option Value)) (u : Tok) :
    Meets (Builtin.«tuple.__mul__» ⟨[.ref l, .int 1 u], []⟩) (fun _ R s => s.heap.get? l = some { cls := .type "tuple", dict := dd, data := .seq items n, slots := sl } ∧
      R (.ok (.ret (Value.ref l))) s) :=
  .of_wp fun prog w A R s h => by
    obtain ⟨hp, g, d, tk, os⟩ := s
    obtain ⟨hl, h⟩ := h
    have f1 := AutoSeq1.idx_int
    have c1 : (items.isEmpty || (1 : Int) == 1) = true := by simp
    wp_walk using wpAny_loadPart' hl
    repeat (first
      | (refine wpAny_ite_false (decide_eq_false (by decide)) ?_; wp_walk using wpAny_loadPart' hl)
      | (refine wpAny_ite_true (decide_eq_true (by rw [c1])) ?_; wp_walk using wpAny_loadPart' hl))
    exact ⟨_, rfl, h⟩
section
variable {w : World} {K : PySem.W.Frag} {W : WX} {σ : L2.St} {m m' : List Addr} {H H' : Hp} {s : S} {Q : VK}
theorem lstOf_sq (st : StOk w K m H s) {d : D} {v : V} {xs : List D} (r : Rp w K m H d v) (e : d.lstOf s = some xs) : ∃ a vs, v = .ref a ∧ SqL K H a vs ∧ Rps w K m H xs vs := by
  cases r with
  | lst h n rs => cases e; exact ⟨_, _, rfl, .of h, rs⟩
  | rol h rs => cases e; exact ⟨_, _, rfl, h.sq, rs⟩
  | @ref i a h =>
    obtain ⟨a', e1, vs, h1, h2⟩ := st.at_ _ _ (lk_some.mp e)
    rw [h] at e1; cases e1
    exact ⟨_, _, rfl, .of h1, h2⟩
  | _ => cases e
theorem mutOf_h (st : StOk w K m H s) {d : D} {v : V} {xs : List D} (r : Rp w K m H d v) (e : d.mutOf s = some xs) : ∃ a vs, v = .ref a ∧ H a = some (.lst vs) ∧ Rps w K m H xs vs := by
  cases r with
  | lst h n rs => cases e; exact ⟨_, _, rfl, h, rs⟩
  | @ref i a h =>
    obtain ⟨a', e1, vs, h1, h2⟩ := st.at_ _ _ (lk_some.mp e)
    rw [h] at e1; cases e1
    exact ⟨_, _, rfl, h1, h2⟩
  | _ => cases e
theorem seqOf_sq (st : StOk w K m H s) {d : D} {v : V} {xs : List D} (r : Rp w K m H d v) (e : d.seqOf s = some xs) : ∃ a vs, v = .ref a ∧ (SqL K H a vs ∨ SqT K H a vs) ∧ Rps w K m H xs vs := by
  cases r with
  | tup h rs => cases e; exact ⟨_, _, rfl, .inr h.sq, rs⟩
  | lst h n rs => obtain ⟨a, vs, p, q, t⟩ := lstOf_sq st (.lst h n rs) e; exact ⟨a, vs, p, .inl q, t⟩
  | rol h rs => obtain ⟨a, vs, p, q, t⟩ := lstOf_sq st (.rol h rs) e; exact ⟨a, vs, p, .inl q, t⟩
  | ref h => obtain ⟨a, vs, p, q, t⟩ := lstOf_sq st (.ref h) e; exact ⟨a, vs, p, .inl q, t⟩
  | _ => cases e
/-! ### dicts -/
theorem valV_zip {k : Key} : ∀ {ks : List Key} {vs : List V}, valV (ks.zip vs) k = getX k ks vs
  | [], _ => rfl
  | _ :: _, [] => rfl
  | j :: ks, v :: vs => by
    rw [List.zip_cons_cons]
    unfold getX
    by_cases h : j = k
    · rw [if_pos h, valV_pos (p := (j, v)) h]
    · rw [if_neg h, valV_neg (p := (j, v)) h]; exact valV_zip
theorem Rps.getX {k : Key} : ∀ {ks : List Key} {ds : List D} {vs : List V}, Rps w K m H ds vs → (∀ d, DI.getX k ks ds = some d → ∃ v, DI.getX k ks vs = some v ∧ Rp w K m H d v ∧ d.shr = true) ∧ (DI.getX k ks ds = none → DI.getX k ks vs = none)
  | [], _, _, _ => ⟨fun d e => (nomatch e), fun _ => rfl⟩
  | _ :: _, _, _, .nil => ⟨fun d e => (nomatch e), fun _ => rfl⟩
  | j :: ks, _, _, .cons hs h r => by
    unfold DI.getX
    by_cases e : j = k
    · rw [if_pos e, if_pos e]
      exact ⟨fun d z => (by cases z; exact ⟨_, rfl, h, hs⟩), fun z => (nomatch z)⟩
    · rw [if_neg e, if_neg e]
      exact Rps.getX r
theorem dk_some {s : S} {i : Nat} {p : List Key × List D} (h : dk s i = some p) : ∃ lk, s[i]? = some (.dic lk p.1 p.2) := by
  unfold dk at h
  split at h
  · rename_i b ks xs e; cases h; exact ⟨_, e⟩
  · cases h
theorem dicOf_h (st : StOk w K m H s) {d : D} {v : V} {ks : List Key} {xs : List D} (r : Rp w K m H d v) (e : d.dicOf s = some (ks, xs)) : ∃ a vs, v = .ref a ∧ L2.Rd H a (.dK (ks.zip vs)) ∧ ks.length = xs.length ∧ Rps w K m H xs vs := by
  cases r with
  | dic h n l rs => cases e; exact ⟨_, _, rfl, .inl h, l, rs⟩
  | @ref i a h =>
    obtain ⟨b, e1⟩ := dk_some (show dk s i = some (ks, xs) from e)
    obtain ⟨a', e2, vs, h1, h2, h3⟩ := st.at_ _ _ e1
    rw [h] at e2; cases e2
    refine ⟨_, vs, rfl, ?_, h2, h3⟩
    split at h1
    · exact .inr h1
    · exact .inl h1
  | _ => cases e
theorem key_v {d : D} {v : V} {k : Key} (r : Rp w K m H d v) (e : keyD d = some k) : v = kV k := by
  cases r <;> first | (cases e; rfl) | cases e
theorem dget_h {a : Addr} {ks : List Key} {vs : List V} {k : Key} (h : L2.Rd H a (.dK (ks.zip vs))) : DGet H a (kV k) (DI.getX k ks vs) := .inl ⟨_, k, h, rfl, valV_zip.symm⟩
theorem getX_iso {k : Key} {ks : List Key} {ds : List D} {vs : List V} (r : Rps w K m H ds vs) : (DI.getX k ks vs).isSome = (DI.getX k ks ds).isSome := by
  obtain ⟨h1, h2⟩ := r.getX (k := k) (ks := ks)
  cases e : DI.getX k ks ds with
  | none => rw [h2 e]; rfl
  | some d => obtain ⟨v, e1, _⟩ := h1 d e; rw [e1]; rfl
theorem intsD_v : ∀ {xs : List D} {vs : List V} {ns : List Int}, Rps w K m H xs vs → intsD xs = some ns → vs = ns.map V.int ∧ xs = ns.map D.int
  | [], _, _, .nil, e => by cases e; exact ⟨rfl, rfl⟩
  | .int i :: r, _, ns, .cons _ (.int _) rs, e => by
    unfold intsD at e
    cases q : intsD r with
    | none => rw [q] at e; cases e
    | some ms =>
      rw [q] at e; cases e
      obtain ⟨a, b⟩ := intsD_v rs q
      exact ⟨by rw [a]; rfl, by rw [b]; rfl⟩
theorem blsD_v : ∀ {xs : List D} {vs : List V} {ns : List Bool}, Rps w K m H xs vs → blsD xs = some ns → vs = ns.map V.bl
  | [], _, _, .nil, e => by cases e; rfl
  | .bl i :: r, _, ns, .cons _ (.bl _) rs, e => by
    unfold blsD at e
    cases q : blsD r with
    | none => rw [q] at e; cases e
    | some ms =>
      rw [q] at e; cases e
      rw [blsD_v rs q]; rfl
theorem scal_v {d : D} {v : V} (h : d.scal = true) (r : Rp w K m H d v) : v = d.sv := by
  cases r <;> first | rfl | cases h
theorem scals_v : ∀ {xs : List D} {vs : List V}, xs.all D.scal = true → Rps w K m H xs vs → vs = xs.map D.sv
  | _, _, _, .nil => rfl
  | _, _, h, .cons _ r rs => by
    rw [List.all_cons, Bool.and_eq_true] at h
    rw [scal_v h.1 r, scals_v h.2 rs]; rfl
theorem sv_flat {d : D} (h : d.scal = true) : flatV d.sv = true := by
  cases d <;> first | rfl | cases h
mutual
theorem py0_dp : ∀ {d : D} {v : V} {p : PyData}, Rp w K m H d v → d.py0 = some p → Dp K H v p
  | _, _, _, .non, e => by cases e; exact .non
  | _, _, _, .bl _, e => by cases e; exact .bl _
  | _, _, _, .int _, e => by cases e; exact .int _
  | _, _, _, .str _, e => by cases e; exact .str _
  | .tup xs, _, _, .tup h rs, e => by
    unfold D.py0 at e
    cases q : D.pys xs with
    | none => rw [q] at e; cases e
    | some ps => rw [q] at e; cases e; exact .tup h.sq (pys_dp rs q)
  | .lst xs, _, _, .lst h n rs, e => by
    unfold D.py0 at e
    cases q : D.pys xs with
    | none => rw [q] at e; cases e
    | some ps => rw [q] at e; cases e; exact .lst (.of h) (pys_dp rs q)
  | .rol xs, _, _, .rol h rs, e => by
    unfold D.py0 at e
    cases q : D.pys xs with
    | none => rw [q] at e; cases e
    | some ps => rw [q] at e; cases e; exact .lst h.sq (pys_dp rs q)
  | _, _, _, .ref _, e => by cases e
  | _, _, _, .ist _ _ _ _, e => by cases e
  | _, _, _, .dic _ _ _ _, e => by cases e
  | _, _, _, .fn _, e => by cases e
theorem pys_dp : ∀ {xs : List D} {vs : List V} {ps : List PyData}, Rps w K m H xs vs → D.pys xs = some ps → DpAll K H vs ps
  | _, _, _, .nil, e => by cases e; exact .nil
  | d :: r, _, ps, .cons _ h rs, e => by
    unfold D.pys at e
    cases q : d.py0 with
    | none => rw [q] at e; cases e
    | some p =>
      rw [q] at e
      cases q2 : D.pys r with
      | none => rw [q2] at e; cases e
      | some ps2 => rw [q2] at e; cases e; exact .cons (py0_dp h q) (pys_dp rs q2)
end
theorem py_dp (st : StOk w K m H s) {d : D} {v : V} {p : PyData} (r : Rp w K m H d v) (e : d.py s = some p) : Dp K H v p := by
  cases d with
  | ref i =>
    obtain ⟨xs, e1, e2⟩ := Option.bind_eq_some_iff.mp e
    obtain ⟨ps, e3, rfl⟩ := Option.map_eq_some_iff.mp e2
    obtain ⟨a, vs, rfl, sq, rs⟩ := lstOf_sq st r (xs := xs) e1
    exact .lst sq (pys_dp rs e3)
  | _ => exact py0_dp r e
/-! ### ends -/
theorem post_same {d : D} {v : V} (p : PostE w K W σ m H Q (.ok d s)) (st : StOk w K m H s) (r : Rp w K m H d v) (h : d.shr = true) : Q v H :=
  p m v H .refl st r fun z => by rw [h] at z; cases z
theorem post_tup {ds : List D} {vs : List V} (p : PostE w K W σ m H Q (.ok (.tup ds) s)) (st : StOk w K m H s) (r : Rps w K m H ds vs) : ∀ a, H a = none → Q (.ref a) (upd H a (.tup vs)) := fun a ha =>
  p m _ _ (.new st ha) (st.new ha) (.tup (.inl ⟨.inl upd_same, st.nin ha⟩) (r.mono (.new st ha))) fun z => by cases z
theorem post_lst {ds : List D} {vs : List V} (p : PostE w K W σ m H Q (.ok (.lst ds) s)) (st : StOk w K m H s) (r : Rps w K m H ds vs) : ∀ a, H a = none → Q (.ref a) (upd H a (.lst vs)) := fun a ha =>
  p m _ _ (.new st ha) (st.new ha) (.lst upd_same (st.nin ha) (r.mono (.new st ha))) fun _ => ⟨a, rfl, ha⟩
theorem post_dic {ks : List Key} {ds : List D} {vs : List V} (p : PostE w K W σ m H Q (.ok (.dic ks ds) s)) (st : StOk w K m H s) (l : ks.length = ds.length) (r : Rps w K m H ds vs) : ∀ a, H a = none → Q (.ref a) (upd H a (.dK (ks.zip vs))) := fun a ha =>
  p m _ _ (.new st ha) (st.new ha) (.dic upd_same (st.nin ha) l (r.mono (.new st ha))) fun _ => ⟨a, rfl, ha⟩
theorem Rps.app {xs ys : List D} {vs us : List V} (r : Rps w K m H xs vs) (t : Rps w K m H ys us) : Rps w K m H (xs ++ ys) (vs ++ us) := by
  induction xs generalizing vs with
  | nil => cases r; exact t
  | cons x xs ih => cases r with | cons s h r => exact .cons s h (ih r)
theorem Rps.take {xs : List D} {vs : List V} (r : Rps w K m H xs vs) (n : Nat) : Rps w K m H (xs.take n) (vs.take n) := by
  induction xs generalizing vs n with
  | nil => cases r; simp; exact .nil
  | cons x xs ih =>
    cases r with
    | cons s h r =>
      cases n with
      | zero => exact .nil
      | succ n => exact .cons s h (ih r n)
theorem Rps.drop {xs : List D} {vs : List V} (r : Rps w K m H xs vs) (n : Nat) : Rps w K m H (xs.drop n) (vs.drop n) := by
  induction xs generalizing vs n with
  | nil => cases r; simp; exact .nil
  | cons x xs ih =>
    cases n with
    | zero => exact r
    | succ n => cases r with | cons s h r => exact ih r n
theorem Rps.rep {xs : List D} {vs : List V} (r : Rps w K m H xs vs) : ∀ n : Nat, Rps w K m H (List.replicate n xs).flatten (List.replicate n vs).flatten
  | 0 => .nil
  | n + 1 => by rw [List.replicate_succ, List.replicate_succ, List.flatten_cons, List.flatten_cons]; exact r.app (r.rep n)
theorem Rps.rev {xs : List D} {vs : List V} (r : Rps w K m H xs vs) : Rps w K m H xs.reverse vs.reverse := by
  induction xs generalizing vs with
  | nil => cases r; exact .nil
  | cons x xs ih => cases r with | cons s h r => rw [List.reverse_cons, List.reverse_cons]; exact (ih r).app (.cons s h .nil)
theorem Rps.set {xs : List D} {vs : List V} (r : Rps w K m H xs vs) {d : D} {v : V} (hs : d.shr = true) (hd : Rp w K m H d v) (j : Nat) : Rps w K m H (xs.set j d) (vs.set j v) := by
  induction xs generalizing vs j with
  | nil => cases r; exact .nil
  | cons x xs ih =>
    cases r with
    | cons s h r =>
      cases j with
      | zero => exact .cons hs hd r
      | succ j => exact .cons s h (ih r j)
theorem Rps.nil_iff {xs : List D} {vs : List V} (r : Rps w K m H xs vs) : vs = [] ↔ xs = [] := by
  cases r <;> simp
theorem Rps.at_ {xs : List D} {vs : List V} {i : Int} {d : D} (r : Rps w K m H xs vs) (e : atI xs i = some d) : ∃ v, atI vs i = some v ∧ Rp w K m H d v ∧ d.shr = true := by
  unfold atI at e ⊢
  rw [r.length]
  cases q : ixN xs.length i with
  | none => rw [q] at e; cases e
  | some j => rw [q] at e; exact r.get e
theorem ints_rps (ns : List Int) : Rps w K m H (ns.map D.int) (ns.map V.int) := by
  induction ns with
  | nil => exact .nil
  | cons n ns ih => exact .cons rfl (.int n) ih
/-! ### operators -/
section
variable {X : Cx}
def rAddD (K : PySem.W.Frag) : R2 := fun x y H Q => rI0 (fun i j => .int (i + j)) x y H Q ∨ (∃ i j, x = .str i ∧ y = .str j ∧ i.length + j.length ≤ sizeLine ∧ Q (.str (i ++ j)) H) ∨ rCatA K x y H Q ∨ rCat x y H Q
theorem op_addD : OpR X (binaryOp .Add) (rAddD X.K) := op_add.or (op_add_str.or (op_catA.or op_cat))
def rRep1 (K : PySem.W.Frag) : R2 := fun x y H Q => ∃ l xs, x = .ref l ∧ y = .int 1 ∧ SqT K H l xs ∧ Q (.ref l) H
theorem op_rep1 : OpR X (binaryOp .Mult) (rRep1 X.K) := by
  intro pins s σ H x y v u Q I rx ry h
  obtain ⟨l, xs, rfl, rfl, hT, q⟩ := h
  cases rx
  obtain ⟨t, rfl⟩ := ry
  obtain ⟨its, r, ⟨⟨cls, dd, data, sl⟩, ho, hc, n, hd⟩, hs⟩ := I.tuple hT
  simp only at hc hd
  subst hc hd
  exact wpAny_binaryOp_repeat_ref (T := "tuple") (U := "int") (by decide) ⟨_, ho, rfl⟩ (fun s' => typeIs_int s' 1 t) noFill_tuple_mul F.fills_int_mul F.slot_int_rmul repeat_tuple F.slot_int_index.lookup
    (call_meets F.slot_int_rmul (typeIs_int s 1 t) F.entry_int_rmul (F.args_int_rmul_2 _ _) (int_rmul_tuple 1 t l its.toArray n dd sl)
      ⟨ho, rfl, ⟨_, ho, rfl⟩, call_meets F.slot_tuple_mul ⟨_, ho, rfl⟩ F.entry_tuple_mul (F.args_tuple_mul_2 _ _) (tuple_mul1 l its.toArray n dd sl t) ⟨ho, .ref l, H, I, rfl, q⟩⟩)
def rMulD (K : PySem.W.Frag) : R2 := fun x y H Q => rI CMul (fun i j => .int (i * j)) x y H Q ∨ rRep1 K x y H Q ∨ rRepT K x y H Q ∨ rRep x y H Q
theorem op_mulD : OpR X (binaryOp .Mult) (rMulD X.K) := op_mul.or (op_rep1.or (op_repT.or op_rep))
theorem addD_ok {a b : D} {x y : V} (st : StOk w K m H s) (ra : Rp w K m H a x) (rb : Rp w K m H b y) (p : PostE w K W σ m H Q (addD a b s)) : rAddD K x y H Q := by
  unfold addD at p
  split at p
  · cases ra; cases rb; exact .inl ⟨_, _, rfl, rfl, post_same p st (.int _) rfl⟩
  · split at p
    · rename_i hz
      cases ra; cases rb; exact .inr (.inl ⟨_, _, rfl, rfl, hz, post_same p st (.str _) rfl⟩)
    · exact p.elim
  · split at p
    · rename_i hz
      cases ra with
      | tup ha r1 =>
      cases rb with
      | tup hb r2 =>
      refine .inr (.inr (.inl ⟨_, _, _, _, rfl, rfl, ha.sq, hb.sq, by rw [r1.length, r2.length]; exact hz, fun z => ?_, fun z1 z2 => ?_, fun _ _ => post_tup p st (r1.app r2)⟩))
      · have z' := r1.nil_iff.mp z
        subst z'
        exact post_same p st (.tup hb r2) rfl
      · have z' := r2.nil_iff.mp z2
        subst z'
        rw [List.append_nil] at p
        exact post_same p st (.tup ha r1) rfl
    · exact p.elim
  · split at p
    · rename_i e1 e2
      obtain ⟨a1, v1, rfl, h1, r1⟩ := mutOf_h st ra e1
      obtain ⟨a2, v2, rfl, h2, r2⟩ := mutOf_h st rb e2
      split at p
      · rename_i hz
        exact .inr (.inr (.inr ⟨_, _, _, _, rfl, rfl, h1, h2, by rw [r1.length, r2.length]; exact hz, post_lst p st (r1.app r2)⟩))
      · exact p.elim
    · exact p.elim
theorem mulD_ok {a b : D} {x y : V} (st : StOk w K m H s) (ra : Rp w K m H a x) (rb : Rp w K m H b y) (p : PostE w K W σ m H Q (mulD a b s)) : rMulD K x y H Q := by
  unfold mulD at p
  split at p
  · split at p
    · rename_i hz
      cases ra; cases rb; exact .inl ⟨_, _, rfl, rfl, hz, post_same p st (.int _) rfl⟩
    · exact p.elim
  · split at p
    · rename_i hz
      obtain ⟨h1, rfl⟩ := hz
      cases rb
      cases ra with
      | tup ha r1 => exact .inr (.inl ⟨_, _, rfl, rfl, ha.sq, post_same p st (.tup ha r1) rfl⟩)
    · split at p
      · rename_i hz
        obtain ⟨h1, h2, h3, h4⟩ := hz
        cases rb
        cases ra with
        | tup ha r1 => exact .inr (.inr (.inl ⟨_, _, _, rfl, rfl, ha.sq, fun z => h1 (r1.nil_iff.mp z), h2, h3, by rw [r1.length]; exact h4, post_tup p st (r1.rep _)⟩))
      · exact p.elim
  · split at p
    · rename_i e1
      obtain ⟨a1, v1, rfl, h1, r1⟩ := mutOf_h st ra e1
      split at p
      · rename_i hz
        cases rb
        exact .inr (.inr (.inr ⟨_, _, _, rfl, rfl, h1, hz.1, hz.2.1, by rw [r1.length]; exact hz.2.2, post_lst p st (r1.rep _)⟩))
      · exact p.elim
    · exact p.elim
  · exact p.elim
/-- any operator -/
def opOf : BOp → Operator
  | .add => .Add | .sub => .Sub | .mul => .Mult | .fdiv => .FloorDiv | .mod => .Mod | .pow => .Pow
def rBin (K : PySem.W.Frag) : BOp → R2
  | .add => rAddD K
  | .sub => rI0 fun i j => .int (i - j)
  | .mul => rMulD K
  | .fdiv => rI CDivN fun i j => .int (i.fdiv j)
  | .mod => rI (fun _ j => j ≠ 0) fun i j => .int (i.fmod j)
  | .pow => rI CPow fun i j => .int (i ^ j.toNat)
theorem op_bin (o : BOp) : OpR X (binaryOp (opOf o)) (rBin X.K o) := by
  cases o with
  | add => exact op_addD
  | sub => exact op_sub
  | mul => exact op_mulD
  | fdiv => exact op_fdivN
  | mod => exact op_modN
  | pow => exact op_pow
theorem binD_ok {o : BOp} {a b : D} {x y : V} (st : StOk w K m H s) (ra : Rp w K m H a x) (rb : Rp w K m H b y) (p : PostE w K W σ m H Q (binD o a b s)) : rBin K o x y H Q := by
  cases o with
  | add => exact addD_ok st ra rb p
  | mul => exact mulD_ok st ra rb p
  | sub =>
    unfold binD at p; dsimp only at p; split at p
    · cases ra; cases rb; exact ⟨_, _, rfl, rfl, post_same p st (.int _) rfl⟩
    · exact p.elim
  | fdiv =>
    unfold binD at p; dsimp only at p; split at p
    · split at p
      · rename_i hz; cases ra; cases rb; exact ⟨_, _, rfl, rfl, hz, post_same p st (.int _) rfl⟩
      · exact p.elim
    · exact p.elim
  | mod =>
    unfold binD at p; dsimp only at p; split at p
    · split at p
      · rename_i hz; cases ra; cases rb; exact ⟨_, _, rfl, rfl, hz, post_same p st (.int _) rfl⟩
      · exact p.elim
    · exact p.elim
  | pow =>
    unfold binD at p; dsimp only at p; split at p
    · split at p
      · rename_i hz; cases ra; cases rb; exact ⟨_, _, rfl, rfl, hz, post_same p st (.int _) rfl⟩
      · exact p.elim
    · exact p.elim
/-! ### comparisons -/
def cmpOf : COp → CmpOp
  | .eq => .Eq | .ne => .NotEq | .lt => .Lt | .le => .LtE | .gt => .Gt | .ge => .GtE | .isv => .Is | .isn => .IsNot | .inn => .In | .nin => .NotIn
theorem OpR.imp {f : Value → Value → Sem Value} {r r' : R2} (h : OpR X f r) (i : ∀ x y H Q, r' x y H Q → r x y H Q) : OpR X f r' := fun pins s σ H x y v u Q I rx ry q => h pins s σ H x y v u Q I rx ry (i _ _ _ _ q)
/-- the answer of a comparison by data -/
def rCmp (w : World) (K : PySem.W.Frag) (o : COp) : R2 := fun x y H Q => ∃ m s a b k, StOk w K m H s ∧ Rp w K m H a x ∧ Rp w K m H b y ∧ cmpO o a b s = some k ∧ Q (.bl k) H
theorem isD_v {a b : D} {x y : V} {k : Bool} (ra : Rp w K m H a x) (rb : Rp w K m H b y) (e : isD a b = some k) : (y = .non ∧ k = decide (x = .non)) ∨ ∃ i j, x = .bl i ∧ y = .bl j ∧ k = decide (i = j) := by
  unfold isD at e
  split at e
  · cases rb
    refine .inl ⟨rfl, ?_⟩
    cases ra <;> simp at e <;> simp [← e]
  · cases rb
    split at e
    · cases ra; cases e; exact .inr ⟨_, _, rfl, rfl, rfl⟩
    · cases e
  · cases e
theorem eqD_v (st : StOk w K m H s) {a b : D} {x y : V} {k : Bool} (ra : Rp w K m H a x) (rb : Rp w K m H b y) (e : eqD s a b = some k) :
    (L2.scal x y = true ∧ k = decide (x = y)) ∨ ∃ d d', Dp K H x d ∧ Dp K H y d' ∧ SeqAt.shaped d = true ∧ SeqAt.shaped d' = true ∧ k = PyData.eqv d d' := by
  unfold eqD at e
  split at e
  · rename_i h
    simp only [Bool.and_eq_true] at h
    cases e
    refine .inl ?_
    rw [scal_v h.1.2 ra, scal_v h.2 rb]
    exact ⟨h.1.1, rfl⟩
  · split at e
    · rename_i p q e1 e2
      split at e
      · rename_i h
        simp only [Bool.and_eq_true] at h
        cases e
        exact .inr ⟨p, q, py_dp st ra e1, py_dp st rb e2, h.1, h.2, rfl⟩
      · cases e
    · cases e
theorem inD_v (st : StOk w K m H s) {a b : D} {x y : V} {k : Bool} (ra : Rp w K m H a x) (rb : Rp w K m H b y) (e : inD s a b = some k) :
    (∃ p xs, y = .ref p ∧ (SqL K H p xs ∨ SqT K H p xs) ∧ flatV x = true ∧ xs.all flatV = true ∧ k = inV x xs) ∨
    (∃ d ds, Dp K H x d ∧ Dp K H y (.list ds) ∧ SeqAt.shaped d = true ∧ SeqAt.shaped (.list ds) = true ∧ k = ds.any fun z => PyData.eqv z d) ∨
    (∃ p o, y = .ref p ∧ DGet H p x o ∧ k = o.isSome) ∨
    ∃ i j, x = .str i ∧ y = .str j ∧ k = !(Builtin.Str.occurrences j i 0 j.length 1).isEmpty := by
  have flat : ∀ {xs : List D}, xs.all D.scal = true → (xs.map D.sv).all flatV = true := fun {xs} h => by
    rw [List.all_eq_true] at h ⊢
    intro v hv
    obtain ⟨d, hd, rfl⟩ := List.mem_map.mp hv
    exact sv_flat (h d hd)
  unfold inD at e
  split at e
  · split at e
    · rename_i h
      simp only [Bool.and_eq_true] at h
      cases e
      cases rb with
      | tup hb rs =>
        refine .inl ⟨_, _, rfl, .inr hb.sq, ?_, ?_, ?_⟩
        · rw [scal_v h.1 ra]; exact sv_flat h.1
        · rw [scals_v h.2 rs]; exact flat h.2
        · rw [scal_v h.1 ra, scals_v h.2 rs]
    · cases e
  · split at e
    · cases e
      cases ra
      cases rb
      exact .inr (.inr (.inr ⟨_, _, rfl, rfl, rfl⟩))
    · cases e
  · split at e
    · rename_i xs e1
      obtain ⟨p, vs, rfl, sq, rs⟩ := lstOf_sq st rb e1
      split at e
      · rename_i h
        simp only [Bool.and_eq_true] at h
        cases e
        refine .inl ⟨_, _, rfl, .inl sq, ?_, ?_, ?_⟩
        · rw [scal_v h.1 ra]; exact sv_flat h.1
        · rw [scals_v h.2 rs]; exact flat h.2
        · rw [scal_v h.1 ra, scals_v h.2 rs]
      · split at e
        · rename_i d ds e2 e3
          split at e
          · rename_i h
            simp only [Bool.and_eq_true] at h
            cases e
            exact .inr (.inl ⟨d, ds, py_dp st ra e2, .lst sq (pys_dp rs e3), h.1, h.2, rfl⟩)
          · cases e
        · cases e
    · split at e
      · rename_i e1 e2
        cases e
        obtain ⟨p, vs, rfl, hp, hl, rs⟩ := dicOf_h st rb e1
        rw [key_v ra e2]
        exact .inr (.inr (.inl ⟨p, _, rfl, dget_h hp, (getX_iso rs).symm⟩))
      · cases e
theorem cmp_some {o : COp} {a b : D} {k : Bool} {s' : S} (e : cmpD o a b s = .ok k s') : cmpO o a b s = some k ∧ s' = s := by
  unfold cmpD at e
  split at e
  · rename_i k' e'
    cases e
    exact ⟨e', rfl⟩
  · cases e
theorem cmp_exc {o : COp} {a b : D} {C fs} {s' : S} (e : cmpD o a b s = .exc C fs s') : False := by
  unfold cmpD at e
  split at e <;> cases e
def rDin : R2 := fun y x H Q => ∃ a o, x = .ref a ∧ DGet H a y o ∧ Q (.bl o.isSome) H
def rDnin : R2 := fun y x H Q => ∃ a o, x = .ref a ∧ DGet H a y o ∧ Q (.bl (!o.isSome)) H
theorem op_din (hu : X.A.units + 1 < cLine) : OpR X (compareOp .In) rDin := by
  intro pins s σ H x y v u Q I rx ry h
  obtain ⟨a, o, rfl, g, q⟩ := h
  cases ry
  exact d_in hu I g rx fun s' J => ⟨.bl o.isSome, H, J, rfl, q⟩
theorem op_dnin (hu : X.A.units + 1 < cLine) : OpR X (compareOp .NotIn) rDnin := by
  intro pins s σ H x y v u Q I rx ry h
  obtain ⟨a, o, rfl, g, q⟩ := h
  cases ry
  exact d_notIn hu I g rx fun s' J => ⟨.bl (!o.isSome), H, J, rfl, q⟩
theorem op_cmp (hu : X.A.units + 65 < cLine) (o : COp) : OpR X (compareOp (cmpOf o)) (rCmp X.w X.K o) := by
  have hu4 : X.A.units + 64 < cLine := by omega
  cases o with
  | eq =>
    refine OpR.imp (OpR.or op_eq (op_eqD hu4)) fun x y H Q ⟨m, s, a, b, k, st, ra, rb, e, q⟩ => ?_
    rcases eqD_v st ra rb e with ⟨h1, rfl⟩ | ⟨d, d', h1, h2, h3, h4, rfl⟩
    · exact .inl ⟨h1, q⟩
    · exact .inr ⟨d, d', h1, h2, h3, h4, q⟩
  | ne =>
    refine OpR.imp (OpR.or op_ne (op_neD hu4)) fun x y H Q ⟨m, s, a, b, k, st, ra, rb, e, q⟩ => ?_
    obtain ⟨k', e', rfl⟩ := Option.map_eq_some_iff.mp e
    rcases eqD_v st ra rb e' with ⟨h1, rfl⟩ | ⟨d, d', h1, h2, h3, h4, rfl⟩
    · exact .inl ⟨h1, q⟩
    · exact .inr ⟨d, d', h1, h2, h3, h4, q⟩
  | isv =>
    refine OpR.imp (OpR.or op_isN op_isBl) fun x y H Q ⟨m, s, a, b, k, st, ra, rb, e, q⟩ => ?_
    rcases isD_v ra rb e with ⟨h1, rfl⟩ | ⟨i, j, h1, h2, rfl⟩
    · exact .inl ⟨h1, q⟩
    · exact .inr ⟨i, j, h1, h2, q⟩
  | isn =>
    refine OpR.imp (OpR.or op_notN op_notBl) fun x y H Q ⟨m, s, a, b, k, st, ra, rb, e, q⟩ => ?_
    obtain ⟨k', e', rfl⟩ := Option.map_eq_some_iff.mp e
    rcases isD_v ra rb e' with ⟨h1, rfl⟩ | ⟨i, j, h1, h2, rfl⟩
    · exact .inl ⟨h1, q⟩
    · exact .inr ⟨i, j, h1, h2, q⟩
  | inn =>
    refine OpR.imp (OpR.or op_in_seq (OpR.or (op_inD hu) (OpR.or (op_din (by omega)) op_in_str))) fun x y H Q ⟨m, s, a, b, k, st, ra, rb, e, q⟩ => ?_
    rcases inD_v st ra rb e with ⟨p, xs, h1, h2, h3, h4, rfl⟩ | ⟨d, ds, h1, h2, h3, h4, rfl⟩ | ⟨p, o, h1, h2, rfl⟩ | ⟨i, j, h1, h2, rfl⟩
    · exact .inl ⟨p, xs, h1, h2, h3, h4, q⟩
    · exact .inr (.inl ⟨d, ds, h1, h2, h3, h4, q⟩)
    · exact .inr (.inr (.inl ⟨p, o, h1, h2, q⟩))
    · exact .inr (.inr (.inr ⟨i, j, h1, h2, q⟩))
  | nin =>
    refine OpR.imp (OpR.or op_notIn_seq (OpR.or (op_notInD hu) (OpR.or (op_dnin (by omega)) op_notin_str))) fun x y H Q ⟨m, s, a, b, k, st, ra, rb, e, q⟩ => ?_
    obtain ⟨k', e', rfl⟩ := Option.map_eq_some_iff.mp e
    rcases inD_v st ra rb e' with ⟨p, xs, h1, h2, h3, h4, rfl⟩ | ⟨d, ds, h1, h2, h3, h4, rfl⟩ | ⟨p, o, h1, h2, rfl⟩ | ⟨i, j, h1, h2, rfl⟩
    · exact .inl ⟨p, xs, h1, h2, h3, h4, q⟩
    · exact .inr (.inl ⟨d, ds, h1, h2, h3, h4, q⟩)
    · exact .inr (.inr (.inl ⟨p, o, h1, h2, q⟩))
    · exact .inr (.inr (.inr ⟨i, j, h1, h2, q⟩))
  | lt =>
    refine OpR.imp (OpR.or op_lt op_lt_str) fun x y H Q ⟨m, s, a, b, k, st, ra, rb, e, q⟩ => ?_
    have e' := e
    dsimp only [cmpO, ltD, leD, gtD, geD] at e'
    split at e' <;> first | (cases ra; cases rb; cases e'; first | exact .inl ⟨_, _, rfl, rfl, q⟩ | exact .inr ⟨_, _, rfl, rfl, q⟩) | contradiction
  | le =>
    refine OpR.imp op_le fun x y H Q ⟨m, s, a, b, k, st, ra, rb, e, q⟩ => ?_
    have e' := e
    dsimp only [cmpO, ltD, leD, gtD, geD] at e'
    split at e' <;> first | (cases ra; cases rb; cases e'; exact ⟨_, _, rfl, rfl, q⟩) | contradiction
  | gt =>
    refine OpR.imp op_gt fun x y H Q ⟨m, s, a, b, k, st, ra, rb, e, q⟩ => ?_
    have e' := e
    dsimp only [cmpO, ltD, leD, gtD, geD] at e'
    split at e' <;> first | (cases ra; cases rb; cases e'; exact ⟨_, _, rfl, rfl, q⟩) | contradiction
  | ge =>
    refine OpR.imp op_ge fun x y H Q ⟨m, s, a, b, k, st, ra, rb, e, q⟩ => ?_
    have e' := e
    dsimp only [cmpO, ltD, leD, gtD, geD] at e'
    split at e' <;> first | (cases ra; cases rb; cases e'; exact ⟨_, _, rfl, rfl, q⟩) | contradiction
end
end
end DI

set_option Elab.async false
set_option linter.all false
set_option maxRecDepth 100000
set_option maxHeartbeats 4000000
/-! DI 4.5: what is gathered from a list, a tuple, a dict, a dict's pairs: tuple(x), list(x), sorted(x). -/
namespace DI
open PySem PySem.Spec PyProof.Rows L2
/-- collect(r) gives values of which G tells -/
def Coll (prog : Program) (w : World) (A : Around) (s : Shared) (r : Addr) (G : Heap → List Value → Prop) : Prop := ∀ (E : Value → Shared → Prop) (R : List Value → Shared → Prop),
  (∀ (h' : Heap) (tk : Nat) (vs : List Value), (∀ b o, s.heap.get? b = some o → h'.get? b = some o) → G h' vs → vs.length ≤ sizeLine → R vs { s with heap := h', toks := tk }) → wpAny (model prog w) A (collect (.ref r)) R E s
section
variable {prog : Program} {w : World} {A : Around} {E : Value → Shared → Prop} {s : Shared} {r : Addr} {G : Heap → List Value → Prop}
theorem code_tuple_dict {Q₁ : Value → Shared → Prop} (hT : s.TypeIs (.ref r) "dict") (hc : Coll prog w A.in1 s r G)
    (h : ∀ (h' : Heap) (tk : Nat) (vs : List Value), (∀ b o, s.heap.get? b = some o → h'.get? b = some o) → G h' vs → vs.length ≤ sizeLine → Q₁ (.ref h'.objs.size) { s with heap := h'.push { cls := .type "tuple", data := .seq vs.toArray }, toks := tk }) :
    codeAny (model prog w) A (.call (.builtin "tuple.__new__") ⟨[.type "tuple", .ref r], []⟩) (wants Q₁ E) s := by
  refine codeAny_of_tree ?_
  show wpAny _ A.in1 (do checkBuiltinCall "tuple.__new__" ⟨[.type "tuple", .ref r], []⟩; again (.builtin "tuple.__new__" ⟨[.type "tuple", .ref r], []⟩)) _ _ s
  refine wpAny_bind (wpAny_of_eq (F.newCall_tuple_1 _) (wpAny_pure ⟨plainId_quiet F.plain_tuple_new _, codeAny_builtin F.entry_tuple_new ?_⟩))
  rw [Around.under_plainId F.plain_tuple_new _]
  have hsub := sub_tuple_self
  have hinit := init_tuple_lookup
  have hmh := madeHere_tuple
  have hcc : ∀ {E : Value → Shared → Prop} {R : List Value → Shared → Prop}, (∀ (h' : Heap) (tk : Nat) (vs : List Value), (∀ b o, s.heap.get? b = some o → h'.get? b = some o) → G h' vs → vs.length ≤ sizeLine → R vs { s with heap := h', toks := tk }) → wpAny (model prog w) A.in1 (collect (.ref r)) R E s := fun h => hc _ _ h
  wp_walk using wpAny_typeOf hT, hcc
  intro h' tk vs hk g hz
  show wpAny _ _ (Builtin.Tuple.tupleExact vs.toArray >>= fun v => ret v) _ _ _
  unfold Builtin.Tuple.tupleExact
  refine wpAny_bind (wpAny_newObj_type ?_ (by show vs.toArray.size ≤ sizeLine; rw [List.size_toArray]; exact hz))
  exact wpAny_pure (h h' tk vs hk g hz)
theorem code_tuple_items {Q₁ : Value → Shared → Prop} (hT : s.TypeIs (.ref r) "dict_items") (hc : Coll prog w A.in1 s r G)
    (h : ∀ (h' : Heap) (tk : Nat) (vs : List Value), (∀ b o, s.heap.get? b = some o → h'.get? b = some o) → G h' vs → vs.length ≤ sizeLine → Q₁ (.ref h'.objs.size) { s with heap := h'.push { cls := .type "tuple", data := .seq vs.toArray }, toks := tk }) :
    codeAny (model prog w) A (.call (.builtin "tuple.__new__") ⟨[.type "tuple", .ref r], []⟩) (wants Q₁ E) s := by
  refine codeAny_of_tree ?_
  show wpAny _ A.in1 (do checkBuiltinCall "tuple.__new__" ⟨[.type "tuple", .ref r], []⟩; again (.builtin "tuple.__new__" ⟨[.type "tuple", .ref r], []⟩)) _ _ s
  refine wpAny_bind (wpAny_of_eq (F.newCall_tuple_1 _) (wpAny_pure ⟨plainId_quiet F.plain_tuple_new _, codeAny_builtin F.entry_tuple_new ?_⟩))
  rw [Around.under_plainId F.plain_tuple_new _]
  have hsub := sub_tuple_self
  have hinit := init_tuple_lookup
  have hmh := madeHere_tuple
  have hcc : ∀ {E : Value → Shared → Prop} {R : List Value → Shared → Prop}, (∀ (h' : Heap) (tk : Nat) (vs : List Value), (∀ b o, s.heap.get? b = some o → h'.get? b = some o) → G h' vs → vs.length ≤ sizeLine → R vs { s with heap := h', toks := tk }) → wpAny (model prog w) A.in1 (collect (.ref r)) R E s := fun h => hc _ _ h
  wp_walk using wpAny_typeOf hT, hcc
  intro h' tk vs hk g hz
  show wpAny _ _ (Builtin.Tuple.tupleExact vs.toArray >>= fun v => ret v) _ _ _
  unfold Builtin.Tuple.tupleExact
  refine wpAny_bind (wpAny_newObj_type ?_ (by show vs.toArray.size ≤ sizeLine; rw [List.size_toArray]; exact hz))
  exact wpAny_pure (h h' tk vs hk g hz)
theorem call_tuple_coll {Q : Value → Shared → Prop} (hT : s.TypeIs (.ref r) "dict" ∨ s.TypeIs (.ref r) "dict_items") (hc : Coll prog w A.in1.in1 s r G)
    (hQ : ∀ (h' : Heap) (tk : Nat) (vs : List Value), (∀ b o, s.heap.get? b = some o → h'.get? b = some o) → G h' vs → vs.length ≤ sizeLine → Q (.ref h'.objs.size) { s with heap := h'.push { cls := .type "tuple", data := .seq vs.toArray }, toks := tk }) :
    wpAny (model prog w) A (call (.type "tuple") [.ref r]) Q E s := by
  refine callType_codes (Q₁ := fun obj s₁ => s₁.TypeIs obj "tuple" ∧ Q obj s₁) F.called_tuple (F.typeCall_tuple_1 _) F.entry_object_init ?_ fun obj s₁ h₁ => ?_
  · rcases hT with hT | hT
    · exact code_tuple_dict (A := A.in1) hT hc fun h' tk acc hk hacc hz => ⟨⟨_, Heap.get?_push_size _ rfl, rfl⟩, hQ h' tk acc hk hacc hz⟩
    · exact code_tuple_items (A := A.in1) hT hc fun h' tk acc hk hacc hz => ⟨⟨_, Heap.get?_push_size _ rfl, rfl⟩, hQ h' tk acc hk hacc hz⟩
  · exact ⟨h₁.1, F.args_object_init_2 obj _, object_init_meets F.called_tuple.init.lookup F.called_tuple.made (by decide) prog w A.in1 _ s₁ ⟨h₁.1, rfl, h₁.2⟩⟩
/-! ### sorted -/
open SrtO in
theorem sorted_coll {ltv : Value → Value → Bool} {Q : Value → Shared → Prop} (O : Swo ltv) (hc : Coll prog w A.in1 s r G)
    (hS : ∀ h' vs, G h' vs → 2 ≤ vs.length → ∀ (s1 : Shared) (a : Addr), SortableO prog w A.in1.in1 s1 a vs ltv)
    (h : ∀ (h1 h' : Heap) (tk : Nat) (e : Nat) (vs out : List Value), (∀ b o, s.heap.get? b = some o → h1.get? b = some o) → (∀ b o, h1.get? b = some o → h'.get? b = some o) → h'.get? h1.objs.size = some (seqObj "list" out.toArray e) → (∃ h0, G h0 vs) → vs.length ≤ sizeLine → Srtd ltv out → Stb ltv out vs → Q (.ref h1.objs.size) { s with heap := h', toks := tk }) :
    wpAny (model prog w) A (call (.builtin "sorted") [.ref r]) Q E s := by
  refine Calls.call_function_entry kind_sorted plain_sorted entry_sorted (args_sorted1 _) ?_
  unfold Builtin.«sorted»
  refine wpAny_bind (m := checkCount "sorted" 1 1 _) (wpAny_pure ?_)
  refine wpAny_bind (hc _ _ fun h' tk vs hk g hz => ?_)
  refine wpAny_bind (wpAny_newList ?_ hz)
  have hoL : (h'.push (seqObj "list" vs.toArray 0)).get? h'.objs.size = some (seqObj "list" vs.toArray 0) := Heap.get?_push_size _ rfl
  refine wpAny_bind (wpAny_holding (wpAny_call_entry slot_list_sort ⟨_, hoL, rfl⟩ entry_list_sort (list_sort_ord O hoL hz (fun h2 => hS h' vs g h2 _ _) fun out hs hb => ⟨_, rfl, ?_⟩) (args_list_sort _)))
  obtain ⟨e, he⟩ := PyProof.Rows.sortedHeap_at (vs := vs) (out := out.toArray) hoL
  refine wpAny_pure ⟨_, rfl, h h' _ tk e vs out hk (fun b o q => ?_) he ⟨h', g⟩ hz hs hb⟩
  have hlt : b < h'.objs.size := Heap.lt_size q
  rw [PyProof.Rows.sortedHeap_old (Nat.ne_of_lt hlt) (by rw [size_push']; exact Nat.lt_succ_of_lt hlt)]
  exact Heap.get?_push_of_some _ q
end
section
variable {X : Cx} {pins : List (Addr × Obj)} {σ : L2.St} {H : Hp} {s : Shared} {a : Addr} {xs : List V} {A : Around} {E : Value → Shared → Prop}
/-- a list, a tuple, a dict's keys -/
def SrcV (K : PySem.W.Frag) (H : Hp) (a : Addr) (xs : List V) : Prop := SqL K H a xs ∨ SqT K H a xs ∨ ∃ kvs, L2.Rd H a (.dK kvs) ∧ xs = kvs.map fun p => kV p.1
theorem coll_src (I : Inv X pins σ H s) (hA : A.handled = none) (h : SrcV X.K H a xs) : Coll X.prog X.w A s a (fun _ vs => Vals xs vs) := by
  intro E R hR
  rcases h with h | h | ⟨kvs, h, rfl⟩
  · obtain ⟨its, rv, pl, hz⟩ := I.list h
    obtain ⟨o, ho, hc, n, hd⟩ := pl.isList
    have hl : its.length ≤ sizeLine := by rw [← rv.length]; exact hz
    refine wpAny_collect_seq a (.inl rfl) ho hc hd (fun h' hk => ?_) (by rw [List.size_toArray]; exact hl)
    simpa using hR h' s.toks its hk rv hl
  · obtain ⟨its, rv, ⟨o, ho, hc, n, hd⟩, hz⟩ := I.tuple h
    have hl : its.length ≤ sizeLine := by rw [← rv.length]; exact hz
    refine wpAny_collect_seq a (.inr rfl) ho hc hd (fun h' hk => ?_) (by rw [List.size_toArray]; exact hl)
    simpa using hR h' s.toks its hk rv hl
  · obtain ⟨z, lo, vs, rk, hd⟩ := dk_rd I.hok h
    obtain ⟨ep, hat⟩ := hd.dictAt
    have hl : kvs.length = vs.length := Paired.length rk
    refine PySem.W.kdu_collect (PySem.W.kdl_dict (knd := mixKind X.prog X.w) (kvs := vs) (ep := ep) lo) hA hat (by rw [← hl]; exact z) fun h' tk acc hk hacc => ?_
    have el : acc.toList.length = acc.size := by simp
    refine hR h' tk acc.toList hk (vals_of_at (by rw [List.length_map, el, hacc.1, hl]) fun j x w h1 h2 => ?_) (by rw [el, hacc.1, ← hl]; exact z)
    obtain ⟨k, y, hky, hi⟩ := hacc.2 j w (by rw [← Array.getElem?_toList]; exact h2)
    have e1 : (kvs.map (·.1))[j]? = some k := by
      rw [KV.keys rk, List.getElem?_map, hky] <;> rfl
    have e2 : (kvs.map fun kv => kV kv.1)[j]? = some (kV k) := by
      have e3 : (kvs.map fun kv => kV kv.1) = (kvs.map (·.1)).map kV := by rw [List.map_map] <;> rfl
      rw [e3, List.getElem?_map, e1] <;> rfl
    rw [e2] at h1
    cases h1
    exact keyIs_rel hi
/-- tuple(d) -/
def rTupDk : List V → Hp → VK → Prop := fun xs H Q => ∃ p kvs, xs = [.ref p] ∧ L2.Rd H p (.dK kvs) ∧ ∀ q, H q = none → Q (.ref q) (upd H q (.tup (kvs.map fun kv => kV kv.1)))
theorem call_tup_dk (hc : X.calm = true) : CallR X (.type "tuple") rTupDk := by
  intro pins s σ H xs us Q I r h
  obtain ⟨p, kvs, rfl, hd, q⟩ := h
  rw [Vals.ref1 r]
  obtain ⟨z, lo, vs, rk, hdd⟩ := dk_rd I.hok hd
  refine call_tuple_coll (.inl hdd.typeIs) (coll_src I (I.ok.hd hc) (.inr (.inr ⟨kvs, hd, rfl⟩))) fun h' tk vs hk g hz => ?_
  have I1 : Inv X pins σ H { s with heap := h' } := I.kept (t' := s.toks) hk
  exact ⟨.ref _, _, I1.laid (t' := tk) (a := h'.objs.size) (o := .tup (kvs.map fun kv => kV kv.1)) (fun b o e => Heap.get?_push_of_some _ e) (Nat.le_refl _) (show ObjOk X.prog X.w _ _ _ (.tup (kvs.map fun kv => kV kv.1)) from ⟨by rw [Paired.length g]; exact hz, vs, g, IsTup.new _ _⟩), rfl, q _ (I1.hok.fresh (Nat.le_refl _))⟩
/-- list(d) -/
def rLstDk : List V → Hp → VK → Prop := fun xs H Q => ∃ p kvs, xs = [.ref p] ∧ L2.Rd H p (.dK kvs) ∧ ∀ q, H q = none → Q (.ref q) (upd H q (.lst (kvs.map fun kv => kV kv.1)))
theorem call_lst_dk (hc : X.calm = true) : CallR X (.type "list") rLstDk := by
  intro pins s σ H xs us Q I r h
  obtain ⟨p, kvs, e, hk, q⟩ := h
  subst e
  rw [Vals.ref1 r]
  obtain ⟨z, lo, vs, rk, hd⟩ := dk_rd I.hok hk
  obtain ⟨ep, hat⟩ := hd.dictAt
  have hl : kvs.length = vs.length := Paired.length rk
  refine PySem.W.kdl_call (PySem.W.kdl_dict (knd := mixKind X.prog X.w) (kvs := vs) (ep := ep) lo) (I.ok.hd hc) hat (by rw [← hl]; exact z) fun h' tk acc' c' hkeep hS hacc => ?_
  refine ⟨.ref s.heap.objs.size, upd H s.heap.objs.size (.lst (kvs.map fun kv => kV kv.1)), I.laid hkeep (Nat.le_refl _) (show ObjOk X.prog X.w _ _ _ (.lst (kvs.map fun kv => kV kv.1)) from ⟨?_, acc'.toList, c', ?_, ?_⟩), rfl, q _ (I.hok.fresh (Nat.le_refl _))⟩
  · rw [List.length_map]; exact z
  · have el : acc'.toList.length = acc'.size := by simp
    refine vals_of_at (by rw [List.length_map, el, hacc.1, hl]) fun j x w h1 h2 => ?_
    obtain ⟨k, y, hky, hi⟩ := hacc.2 j w (by rw [← Array.getElem?_toList]; exact h2)
    have e1 : (kvs.map (·.1))[j]? = some k := by
      rw [KV.keys rk, List.getElem?_map, hky] <;> rfl
    have e2 : (kvs.map fun kv => kV kv.1)[j]? = some (kV k) := by
      have e3 : (kvs.map fun kv => kV kv.1) = (kvs.map (·.1)).map kV := by rw [List.map_map] <;> rfl
      rw [e3, List.getElem?_map, e1] <;> rfl
    rw [e2] at h1
    cases h1
    exact keyIs_rel hi
  · rw [Array.toArray_toList]; exact hS
/-! ### texts -/
def sv : Value → List Nat
  | .str x _ => x.cps.toList
  | _ => []
def ltSv (v u : Value) : Bool := decide (sv v < sv u)
theorem swo_str : SrtO.Swo ltSv := by
  refine ⟨fun x y h => ?_, fun x y z h1 h2 => ?_⟩
  · exact decide_eq_false (List.lt_asymm (of_decide_eq_true h))
  · have a : sv x ≤ sv y := of_decide_eq_false h1
    have b : sv y ≤ sv z := of_decide_eq_false h2
    exact decide_eq_false (show ¬ sv z < sv x from List.le_trans a b)
def strOfV : Value → Str
  | .str x _ => x
  | _ => Str.empty
theorem strs_mem {ss : List Str} {vs : List Value} (h : Vals (ss.map V.str) vs) : ∀ v ∈ vs, ∃ x t, v = Value.str x t := by
  induction ss generalizing vs with
  | nil => cases h; intro v hv; cases hv
  | cons x ss ih =>
    cases h with
    | cons r t =>
      intro v hv
      rcases List.mem_cons.mp hv with e | hv
      · obtain ⟨t, e2⟩ := r; exact ⟨x, t, by rw [e, e2]⟩
      · exact ih t v hv
theorem strs_of {ss : List Str} {vs : List Value} (h : Vals (ss.map V.str) vs) : vs.map strOfV = ss := by
  induction ss generalizing vs with
  | nil => cases h; rfl
  | cons x ss ih =>
    cases h with
    | cons r t =>
      obtain ⟨t', e⟩ := r
      rw [List.map_cons, ih t, e]; rfl
theorem vals_strOf : ∀ {vs : List Value}, (∀ v ∈ vs, ∃ x t, v = Value.str x t) → Vals ((vs.map strOfV).map V.str) vs
  | [], _ => .nil
  | v :: vs, h => by
    obtain ⟨x, t, e⟩ := h v List.mem_cons_self
    subst e
    exact .cons ⟨t, rfl⟩ (vals_strOf fun u hu => h u (List.mem_cons_of_mem _ hu))
theorem str_sortable {prog : Program} {w : World} {a : Addr} {vs : List Value} {ss : List Str} (hI : Vals (ss.map V.str) vs) (h2 : 2 ≤ vs.length) : SrtO.SortableO prog w A s a vs ltSv := by
  intro h' _
  refine ⟨oneType', fun Q E hq => ?_, fun p q hm hm' => ?_⟩
  · match vs, hI, h2 with
    | v1 :: v2 :: rest, hI, _ =>
      rw [keyKind_strs (Vals.strs hI)]
      exact wpAny_pure hq
    | [], _, h => exact absurd h (by decide)
    | [v], _, h => exact absurd h (by simp)
  · obtain ⟨a, t, e⟩ := strs_mem hI _ hm
    obtain ⟨b, u, e'⟩ := strs_mem hI _ hm'
    show wpAny (model prog w) A (keyLt' oneType' p.1 q.1) (fun r s' => s' = _ ∧ r = ltSv p.1 q.1) (fun _ _ => False) _
    rw [e, e', keyLt'_oneType]
    exact oneLt_str ⟨rfl, rfl⟩
theorem leStr_iff {a b : Str} : leStr a b = true ↔ ¬ b.cps.toList < a.cps.toList := by
  unfold leStr
  simp
theorem sort_uniq {α : Type} {le : α → α → Prop} (anti : ∀ a b, le a b → le b a → a = b) : ∀ {xs ys : List α}, xs.Perm ys → xs.Pairwise le → ys.Pairwise le → xs = ys
  | [], ys, p, _, _ => by rw [List.Perm.nil_eq p]
  | x :: xs, [], p, _, _ => by have := p.length_eq; simp at this
  | x :: xs, y :: ys, p, h1, h2 => by
    have e : x = y := by
      by_cases e : x = y
      · exact e
      have m1 : y ∈ xs := by
        have := p.symm.subset (List.mem_cons_self (a := y) (l := ys))
        rcases List.mem_cons.mp this with z | z
        · exact absurd z.symm e
        · exact z
      have m2 : x ∈ ys := by
        have := p.subset (List.mem_cons_self (a := x) (l := xs))
        rcases List.mem_cons.mp this with z | z
        · exact absurd z e
        · exact z
      exact anti x y ((List.pairwise_cons.mp h1).1 y m1) ((List.pairwise_cons.mp h2).1 x m2)
    subst e
    rw [sort_uniq anti (List.Perm.cons_inv p) (List.pairwise_cons.mp h1).2 (List.pairwise_cons.mp h2).2]
theorem str_sort_the {xs ys : List Str} (p : ys.Perm xs) (h : ys.Pairwise fun a b => ¬ b.cps.toList < a.cps.toList) : ys = xs.mergeSort leStr := by
  have h2 := List.pairwise_mergeSort (le := leStr) (fun a b c h1 h2 => leStr_iff.mpr (by
    have a1 : a.cps.toList ≤ b.cps.toList := leStr_iff.mp h1
    have a2 : b.cps.toList ≤ c.cps.toList := leStr_iff.mp h2
    exact (List.le_trans a1 a2 : a.cps.toList ≤ c.cps.toList))) (fun a b => by
    by_cases h : b.cps.toList < a.cps.toList
    · rw [Bool.or_eq_true]; exact .inr (leStr_iff.mpr (List.lt_asymm h))
    · rw [Bool.or_eq_true]; exact .inl (leStr_iff.mpr h)) xs
  refine sort_uniq (le := fun a b => ¬ b.cps.toList < a.cps.toList) (fun a b h1 h2 => ?_) (p.trans (List.mergeSort_perm xs _).symm) h (h2.imp fun {a b} z => leStr_iff.mp z)
  have e : a.cps.toList = b.cps.toList := List.le_antisymm (as := a.cps.toList) (bs := b.cps.toList) h1 h2
  cases a; cases b
  simp only [Str.mk.injEq]
  exact Array.toList_inj.mp e
/-- sorted(x), texts -/
def rSortS (K : PySem.W.Frag) : List V → Hp → VK → Prop := fun vs H Q => ∃ (a : Addr) (ss : List Str), vs = [V.ref a] ∧ SrcV K H a (ss.map V.str) ∧ ∀ p, H p = none → Q (.ref p) (upd H p (.lst ((ss.mergeSort leStr).map V.str)))
theorem cr_sortS (hc : X.calm = true) : CallR X (.builtin "sorted") (rSortS X.K) := by
  intro pins s σ H vs us Q I r h
  obtain ⟨a, ss, rfl, hs, q⟩ := h
  rw [Vals.ref1 r]
  refine sorted_coll swo_str (coll_src I (I.ok.hd hc) hs) (fun h' vs g h2 s1 a => str_sortable g h2) fun g1 h' tk e vs out hk1 hk he ⟨_, g⟩ hz h1 h2 => ?_
  have hm : ∀ v ∈ out, ∃ x t, v = Value.str x t := fun v hv => strs_mem g v (h2.perm.mem_iff.mp hv)
  have pm : (out.map strOfV).Perm ss := by
    have := h2.perm.map strOfV
    rwa [strs_of g] at this
  have pw : (out.map strOfV).Pairwise fun a b => ¬ b.cps.toList < a.cps.toList := by
    rw [List.pairwise_map]
    refine List.Pairwise.imp_of_mem (fun {x y} hx hy h => ?_) h1
    obtain ⟨x1, t1, e1⟩ := hm x hx
    obtain ⟨y1, t2, e2⟩ := hm y hy
    subst e1 e2
    exact of_decide_eq_false (p := sv (.str y1 t2) < sv (.str x1 t1)) h
  have eo : (ss.mergeSort leStr).map V.str = (out.map strOfV).map V.str := by rw [str_sort_the pm pw]
  have new : ObjOk X.prog X.w (upd H g1.objs.size (.lst ((ss.mergeSort leStr).map V.str))) h' g1.objs.size (.lst ((ss.mergeSort leStr).map V.str)) := by
    refine ⟨?_, out, e, by rw [eo]; exact vals_strOf hm, he⟩
    rw [List.length_map, List.length_mergeSort]
    have := Paired.length g
    rw [List.length_map] at this
    omega
  have I1 : Inv X pins σ H { s with heap := g1 } := I.kept (t' := s.toks) hk1
  exact ⟨.ref _, _, I1.laid (t' := tk) hk (Nat.le_refl _) new, rfl, q _ (I1.hok.fresh (Nat.le_refl _))⟩
/-- sorted(x), ints of a tuple or a dict's keys -/
def rSortI2 (K : PySem.W.Frag) : List V → Hp → VK → Prop := fun vs H Q => ∃ (a : Addr) (ns : List Int), vs = [V.ref a] ∧ SrcV K H a (ns.map V.int) ∧
  ∀ (ns' : List Int) (p : Addr), ns'.Perm ns → ns'.Pairwise (· ≤ ·) → H p = none → Q (.ref p) (upd H p (.lst (ns'.map V.int)))
theorem cr_sortI2 (hc : X.calm = true) : CallR X (.builtin "sorted") (rSortI2 X.K) := by
  intro pins s σ H vs us Q I r h
  obtain ⟨a, ns, rfl, hs, q⟩ := h
  rw [Vals.ref1 r]
  refine sorted_coll SrtO.swo_int (coll_src I (I.ok.hd hc) hs) (fun h' vs g h2 s1 a => SrtO.ints_sortable (Vals.ints g) h2) fun g1 h' tk e vs out hk1 hk he ⟨_, g⟩ hz h1 h2 => ?_
  obtain ⟨k1, k2, k3⟩ := SrtO.ints_out (Vals.ints g) h1 h2
  have new : ObjOk X.prog X.w (upd H g1.objs.size (.lst ((out.map SrtO.iv).map V.int))) h' g1.objs.size (.lst ((out.map SrtO.iv).map V.int)) := by
    refine ⟨?_, out, e, vals_of_ints k1, he⟩
    rw [List.length_map, k2.length_eq]
    have := Paired.length g
    rw [List.length_map] at this
    omega
  have I1 : Inv X pins σ H { s with heap := g1 } := I.kept (t' := s.toks) hk1
  exact ⟨.ref _, _, I1.laid (t' := tk) hk (Nat.le_refl _) new, rfl, q _ _ k2 k3 (I1.hok.fresh (Nat.le_refl _))⟩
end
end DI

set_option Elab.async false
set_option linter.all false
set_option maxRecDepth 100000
set_option maxHeartbeats 4000000
/-! DI 4.6: tuple(d.items()), list(d.items()). -/
namespace DI
open PySem PySem.Spec PyProof.Rows L2
section
variable {X : Cx} {e : Expr} {te : TE} {p apos cpos pos : Pos}
theorem pairs_laid {pins : List (Addr × Obj)} {σ : L2.St} {H : Hp} {s : Shared} {h' : Heap} {tk : Nat} {B : Addr} {kvs : List (Key × V)} {vs : List (Key × Value)} {as : List Addr} (I : Inv X pins σ H s) (kv : KV kvs vs) (hB : s.heap.objs.size ≤ B)
    (hk : ∀ b o, s.heap.get? b = some o → h'.get? b = some o) (hl : as.length = vs.length) (hG : PySem.W.KdxG (mixKind X.prog X.w) vs B h' as) :
    ∃ H' : Hp, (∀ b o, H b = some o → H' b = some o) ∧ (∀ t ∈ as, H t = none) ∧ Paired (fun (t : Addr) (q : Key × V) => H' t = some (.tup [kV q.1, q.2])) as kvs ∧ Inv X pins σ H' { s with heap := h', toks := tk } := by
  have lk : kvs.length = vs.length := Paired.length kv
  have nd : as.Nodup := List.Pairwise.imp (fun {a b} (h : a < b) => Nat.ne_of_lt h) hG.rise
  have ab : ∀ t ∈ as, s.heap.objs.size ≤ t := fun t ht => Nat.le_trans hB (Nat.le_of_lt (hG.above t ht))
  have new : ∀ t ∈ as, H t = none := fun t ht => I.hok.fresh (ab t ht)
  have atP := LiI.putT_at as kvs H (by omega) nd
  have off : ∀ b, b ∉ as → LiI.putT H as kvs b = H b := fun b h1 => LiI.putT_off as kvs _ h1
  have low : ∀ b o, s.heap.get? b = some o → b ∉ as := fun b o e z => absurd (Heap.lt_size e) (Nat.not_lt.mpr (ab b z))
  have kp : ∀ b u, H b = some u → (LiI.putT H as kvs) b = some u := fun b u e => by
    rw [off b (fun z => by rw [new b z] at e; cases e)]
    exact e
  refine ⟨LiI.putT H as kvs, kp, new, atP, ?_⟩
  refine I.call' (ch := []) rfl ⟨fun b o q _ _ _ => hk b o q, fun b o q _ _ _ => ⟨o.slots, hk b o q⟩, fun b o q n _ => ?_, fun b o q _ => ⟨o, hk b o q⟩, fun b xs q => kp b _ q, fun b o u q => kp b _ q, fun b ps q => ⟨#[], by rw [kp b _ q]; simp⟩⟩ (fun b u q => ?_) I.bare fun b z => by simp at z
  · rw [off b (low b o q)]
    exact n
  · by_cases hb : b ∈ as
    · obtain ⟨j, pk, e1, e2, e3⟩ := LiI.paired_ix atP hb
      rw [e3] at q
      cases q
      obtain ⟨key, k, x, f1, f2, f3⟩ := hG.pairs j b e1
      obtain ⟨qv, g1, g2, g3⟩ := LiI.paired_get kv e2
      rw [f1] at g1
      cases g1
      have rk : RelV (kV pk.1) key := by
        rw [g2]
        exact relV_key (show keyIs k key = true from f2)
      exact ⟨by show 2 ≤ sizeLine; decide, [key, x], .cons rk (.cons g3 .nil), ⟨_, f3, rfl, _, rfl⟩⟩
    · rw [off b hb] at q
      exact (I.hok b u q).stay (fun d v _ y => hk d v y) (fun d y => kp d _ y) fun d xs y => kp d _ y
/-- the pairs of d, laid; then the tuple or the list of them -/
def rItems (mkO : List V → HO) : V → Hp → VK → Prop := fun x H Q => ∃ (d : Addr) (kvs : List (Key × V)), x = .ref d ∧ L2.Rd H d (.dK kvs) ∧
  ∀ (H' : Hp) (p : Addr) (ts : List Addr), (∀ b o, H b = some o → H' b = some o) → (∀ t ∈ ts, H t = none) → H' p = none → H p = none → Paired (fun (t : Addr) (q : Key × V) => H' t = some (.tup [kV q.1, q.2])) ts kvs → Q (.ref p) (upd H' p (mkO (ts.map V.ref)))
def tItems (mkO : List V → HO) (te : TE) : TE := fun σ H Q => te σ H fun x H1 => rItems mkO x H1 Q
theorem pe_tupItems (hc : X.calm = true) (he : PE X e te) (hg : Gl X "tuple") (hm : X.mg "tuple" = none) (hbase : attributeBase e "items" X.env (eval e X.env) = eval e X.env) (hline : (apos.endLine == cpos.line) = true)
    (hs : starEach [.Call (.Attribute e "items" apos) [] [] cpos] X.env = (false, eval (.Call (.Attribute e "items" apos) [] [] cpos) X.env) :: starEach [] X.env) :
    PE X (.Call (.Name "tuple" p) [.Call (.Attribute e "items" apos) [] [] cpos] [] pos) (tItems .tup te) := by
  refine ⟨fun pins s σ H Q I hq => ?_⟩
  refine wpAny_Call_Name_kw (ld_blt I hg hm boot_tuple ?_)
  refine PyProof.Rows.callWith_type1 ?_ hs rfl
  rw [hs]
  show wpAny _ _ (spliced ((false, eval (.Call (.Attribute e "items" apos) [] [] cpos) X.env) :: backTo pos (starEach [] X.env))) _ _ s
  refine Calls.spliced_cons ?_
  refine wpAny_Call_method (T := "dict") (id := "dict.items") hbase rfl hline F.plainAttrs_dict F.slot_dict_items F.type_dict_items (thn (he.run pins s σ H _ I hq) fun u s1 ⟨x, H1, I1, rx, d, kvs, ex, hd, q⟩ => ?_)
  subst ex
  obtain rfl : u = Value.ref d := rx
  obtain ⟨hz, hs0, vs, kv, hdo⟩ := dk_rd I1.hok hd
  obtain ⟨ep, hat⟩ := hdo.dictAt
  have lk : kvs.length = vs.length := Paired.length kv
  have I2 : Inv X pins σ H1 { s1 with heap := s1.heap.push { cls := .type "dict_items", data := .fields #[.ref d] } } := I1.kept (t' := s1.toks) fun b ob q => Heap.get?_push_of_some _ q
  refine ⟨hdo.typeIs, hdo.mapOf.noDict, ?_⟩
  show wpAny _ _ (callWith cpos (.builtin "dict.items") [.ref d] [] []) _ X.xe s1
  refine method_meetsIn F.slot_dict_items F.entry_dict_items rfl (PySem.evalArgs_none ⟨rfl, hdo.typeIs, F.args_dict_items_1 _, _, meets_dict_items (mixKind X.prog X.w) d hs0, ⟨vs, hdo⟩, ?_⟩)
  refine Calls.spliced_nil ?_
  refine call_tuple_coll (G := fun h' us => ∃ as : List Addr, us = as.map Value.ref ∧ as.length = vs.length ∧ PySem.W.KdxG (mixKind X.prog X.w) vs (s1.heap.push { cls := .type "dict_items", data := .fields #[.ref d] }).objs.size h' as) (.inr ⟨_, Heap.get?_push_size _ rfl, rfl⟩) (fun E R hR => ?_) fun h' tk us hk g hz2 => ?_
  · refine PySem.W.kdx_collect (knd := mixKind X.prog X.w) (kvs := vs) (ep := ep) (I1.ok.hd hc) ⟨_, Heap.get?_push_size _ rfl, rfl, rfl⟩ (hat.push _) (by omega) fun h' tk as hk hl hG => ?_
    exact hR h' tk _ hk ⟨as, rfl, hl, hG⟩ (by rw [List.length_map, hl, ← lk]; exact hz)
  · obtain ⟨as, rfl, hl, hG⟩ := g
    obtain ⟨H', k1, k2, k3, J⟩ := pairs_laid (tk := tk) I2 kv (Nat.le_refl _) hk hl hG
    have hp : H' h'.objs.size = none := J.hok.fresh (Nat.le_refl _)
    have hp1 : H1 h'.objs.size = none := by
      cases z : H1 h'.objs.size with
      | none => rfl
      | some o => rw [k1 _ _ z] at hp; cases hp
    exact ⟨.ref _, _, J.laid (t' := tk) (a := h'.objs.size) (o := .tup (as.map V.ref)) (fun b o e => Heap.get?_push_of_some _ e) (Nat.le_refl _) (show ObjOk X.prog X.w _ _ _ (.tup (as.map V.ref)) from ⟨by rw [List.length_map]; rw [List.length_map] at hz2; exact hz2, as.map Value.ref, LiI.vals_refs as, IsTup.new _ _⟩), rfl, q H' _ as k1 k2 hp hp1 k3⟩
theorem pe_lstItems (hc : X.calm = true) (he : PE X e te) (hg : Gl X "list") (hm : X.mg "list" = none) (hbase : attributeBase e "items" X.env (eval e X.env) = eval e X.env) (hline : (apos.endLine == cpos.line) = true)
    (hs : starEach [.Call (.Attribute e "items" apos) [] [] cpos] X.env = (false, eval (.Call (.Attribute e "items" apos) [] [] cpos) X.env) :: starEach [] X.env) :
    PE X (.Call (.Name "list" p) [.Call (.Attribute e "items" apos) [] [] cpos] [] pos) (tItems .lst te) := by
  refine ⟨fun pins s σ H Q I hq => ?_⟩
  refine wpAny_Call_Name_kw (ld_blt I hg hm (show bootBuiltins "list" = some (.type "list") by decide +kernel) ?_)
  refine PyProof.Rows.callWith_type1 ?_ hs rfl
  rw [hs]
  show wpAny _ _ (spliced ((false, eval (.Call (.Attribute e "items" apos) [] [] cpos) X.env) :: backTo pos (starEach [] X.env))) _ _ s
  refine Calls.spliced_cons ?_
  refine wpAny_Call_method (T := "dict") (id := "dict.items") hbase rfl hline F.plainAttrs_dict F.slot_dict_items F.type_dict_items (thn (he.run pins s σ H _ I hq) fun u s1 ⟨x, H1, I1, rx, d, kvs, ex, hd, q⟩ => ?_)
  subst ex
  obtain rfl : u = Value.ref d := rx
  obtain ⟨hz, hs0, vs, kv, hdo⟩ := dk_rd I1.hok hd
  obtain ⟨ep, hat⟩ := hdo.dictAt
  have lk : kvs.length = vs.length := Paired.length kv
  have I2 : Inv X pins σ H1 { s1 with heap := s1.heap.push { cls := .type "dict_items", data := .fields #[.ref d] } } := I1.kept (t' := s1.toks) fun b ob q => Heap.get?_push_of_some _ q
  refine ⟨hdo.typeIs, hdo.mapOf.noDict, ?_⟩
  show wpAny _ _ (callWith cpos (.builtin "dict.items") [.ref d] [] []) _ X.xe s1
  refine method_meetsIn F.slot_dict_items F.entry_dict_items rfl (PySem.evalArgs_none ⟨rfl, hdo.typeIs, F.args_dict_items_1 _, _, meets_dict_items (mixKind X.prog X.w) d hs0, ⟨vs, hdo⟩, ?_⟩)
  refine Calls.spliced_nil ?_
  refine PySem.W.kdx_call (knd := mixKind X.prog X.w) (kvs := vs) (ep := ep) (I1.ok.hd hc) ⟨_, Heap.get?_push_size _ rfl, rfl, rfl⟩ (hat.push _) (by omega) fun h' tk acc c as hk hS hl hG hacc => ?_
  obtain ⟨H', k1, k2, k3, k4, k5, k6, J⟩ := LiI.items_laid (tk := tk) I2 hz kv hk hS hl hG hacc
  -- the pairs first, then the list
  refine ⟨.ref _, H', J, rfl, ?_⟩
  have e : H' = upd (fun b => if b = (s1.heap.push { cls := .type "dict_items", data := .fields #[.ref d] }).objs.size then none else H' b) (s1.heap.push { cls := .type "dict_items", data := .fields #[.ref d] }).objs.size (.lst (as.map V.ref)) := by
    funext b
    by_cases hb : b = (s1.heap.push { cls := .type "dict_items", data := .fields #[.ref d] }).objs.size
    · rw [hb, upd_same, k5]
    · rw [upd_ne hb]; exact (if_neg hb).symm
  rw [e]
  refine q _ _ as (fun b o z => ?_) k3 (if_pos rfl) k2 ?_
  · have hb : b ≠ (s1.heap.push { cls := .type "dict_items", data := .fields #[.ref d] }).objs.size := fun y => by rw [y, k2] at z; cases z
    exact (if_neg hb).trans (k1 b o z)
  · have key : ∀ {as : List Addr} {kvs : List (Key × V)}, (s1.heap.push { cls := .type "dict_items", data := .fields #[.ref d] }).objs.size ∉ as → Paired (fun (t : Addr) (q : Key × V) => H' t = some (.tup [kV q.1, q.2])) as kvs → Paired (fun (t : Addr) (q : Key × V) => (if t = (s1.heap.push { cls := .type "dict_items", data := .fields #[.ref d] }).objs.size then none else H' t) = some (.tup [kV q.1, q.2])) as kvs := by
      intro as kvs hn h
      induction h with
      | nil => exact .nil
      | cons h t ih =>
        refine .cons ?_ (ih fun z => hn (List.mem_cons_of_mem _ z))
        rw [if_neg (fun z => hn (by rw [← z]; exact List.mem_cons_self))]
        exact h
    exact key k4 k6
end
end DI

set_option Elab.async false
set_option linter.all false
set_option maxRecDepth 100000
set_option maxHeartbeats 4000000
/-! DI 4.7: t[::-1] of a list, of a tuple (turned from HandS.Style, HandS.List). -/
namespace DI
open PySem PySem.Spec PyProof.Rows L2 HT
theorem fmSome {α β : Type} {f : α → Option β} {g : α → β} : ∀ {l : List α}, (∀ x ∈ l, f x = some (g x)) → l.filterMap f = l.map g
  | [], _ => rfl
  | x :: r, h => by
    rw [List.filterMap_cons, h x List.mem_cons_self, List.map_cons, fmSome fun y hy => h y (List.mem_cons_of_mem _ hy)]
theorem pick_rev (xs : Array Value) : ((List.range xs.size).filterMap fun (k : Nat) => xs[(((xs.size : Int) - 1) + (k : Int) * (-1)).toNat]?).toArray = xs.toList.reverse.toArray := by
  congr 1
  refine List.ext_getElem? fun i => ?_
  have e : ((List.range xs.size).filterMap fun (k : Nat) => xs[(((xs.size : Int) - 1) + (k : Int) * (-1)).toNat]?) = (List.range xs.size).map fun k => xs.toList.getD (xs.size - 1 - k) .none := by
    refine fmSome fun k hk => ?_
    have hk := List.mem_range.mp hk
    have : (((xs.size : Int) - 1) + (k : Int) * (-1)).toNat = xs.size - 1 - k := by omega
    rw [this, List.getD_eq_getElem?_getD, Array.getElem?_toList, Array.getElem?_eq_getElem (by omega)]; rfl
  rw [e, List.getElem?_map]
  by_cases hi : i < xs.size
  · rw [List.getElem?_range hi, List.getElem?_reverse (by rw [Array.length_toList]; exact hi), Array.length_toList]
    show some (xs.toList.getD (xs.size - 1 - i) .none) = _
    rw [List.getD_eq_getElem?_getD, List.getElem?_eq_getElem (by rw [Array.length_toList]; omega)]; rfl
  · rw [List.getElem?_eq_none (by rw [List.length_range]; omega), List.getElem?_eq_none (by rw [List.length_reverse, Array.length_toList]; omega)]; rfl
section
variable {prog : Program} {w : World} {A : Around} {E : Value → Shared → Prop} {s : Shared}
theorem sliceApplied_rev {sl : Addr} {vl vu vs : Value} {n : Nat} {Q : Int × Int × Nat → Shared → Prop} (hs : s.heap.IsSliceOf sl vl vu vs) (pl : IsPart vl none) (pu : IsPart vu none) (ps : IsPart vs (some (-1)))
    (h : Q ((n : Int) - 1, -1, n) s) : wpAny (model prog w) A (Builtin.Slice.sliceApplied (.ref sl) (pure (n : Int))) Q E s := by
  obtain ⟨os, hos, hcs, hds⟩ := id hs
  unfold Builtin.Slice.sliceApplied Builtin.Slice.sliceFields
  refine wpAny_bind (wpAny_bind (wpAny_field hos hds (x := vl) rfl (wpAny_bind (wpAny_field hos hds (x := vu) rfl (wpAny_bind (wpAny_field hos hds (x := vs) rfl (wpAny_pure ?_)))))))
  refine wpAny_bind (slicePart_ ps ?_)
  show wpAny _ _ (if ((-1 : Int) == 0) = true then _ else _) _ _ s
  rw [if_neg (by decide)]
  refine wpAny_bind (slicePart_ pl (wpAny_bind (slicePart_ pu (wpAny_bind (wpAny_pure ?_)))))
  show wpAny _ _ (pure (((n : Int) - 1), (-1 : Int), Builtin.Slice.slicePlaces ((n : Int) - 1) (-1) (-1))) _ _ s
  have e : Builtin.Slice.slicePlaces ((n : Int) - 1) (-1) (-1) = n := by
    unfold Builtin.Slice.slicePlaces
    rw [if_neg (by decide)]
    split
    · rw [show (-(-1) : Int) = 1 by decide, Int.ediv_one]; omega
    · omega
  rw [e]
  exact wpAny_pure h
theorem getItem_tuple_rev {t sl : Addr} {items : Array Value} {vl vu vs : Value} {Q : Value → Shared → Prop} (ht : IsTup s.heap t items) (hs : s.heap.IsSliceOf sl vl vu vs) (pl : IsPart vl none) (pu : IsPart vu none) (ps : IsPart vs (some (-1)))
    (h : Q (.ref s.heap.objs.size) { s with heap := s.heap.push { cls := .type "tuple", data := .seq items.toList.reverse.toArray } })
    (hsz : items.size ≤ sizeLine) : wpAny (model prog w) A (getItem (.ref t) (.ref sl)) Q E s := by
  have htake : sizeOk (.seq items.toList.reverse.toArray) := by
    show items.toList.reverse.toArray.size ≤ sizeLine
    rw [List.size_toArray, List.length_reverse, Array.length_toList]
    exact hsz
  obtain ⟨os, hos, hcs, hds⟩ := id hs
  have hTs : s.TypeIs (.ref sl) "slice" := ⟨os, hos, hcs⟩
  unfold getItem
  try with_reducible refine wpAny_holding ?_
  first | refine wpAny_bind (wpAny_pure ?_) | skip
  refine wpAny_bind (wpAny_sequenceKey ht.typeIs (by decide) ?_)
  refine wpAny_bind (wpAny_callSpecial?_slot (name := Str.ofString "__getitem__") ht.typeIs PyProof.Rows.slot_tuple_getitem
    (wpAny_call_entry PyProof.Rows.slot_tuple_getitem ht.typeIs entry_tuple_getitem ?_ (args_tuple_getitem _ _)))
  show wpAny _ _ (Builtin.Tuple.tupleItemsOf (.ref t) >>= _) _ _ s
  refine wpAny_bind (tupleItemsOf_ ht ?_)
  refine wpAny_bind (wpAny_typeOf hTs ?_)
  rw [if_pos (by decide)]
  refine wpAny_bind (sliceApplied_rev hs pl pu ps ?_)
  have hno : ¬ ((((items.size : Int) - 1) == 0 && (-1 : Int) == 1 && items.size == items.size) = true) := by
    intro q
    rw [Bool.and_eq_true, Bool.and_eq_true] at q
    exact absurd q.1.2 (by decide)
  show wpAny _ _ (if (((items.size : Int) - 1) == 0 && (-1 : Int) == 1 && items.size == items.size) = true then _ else _) _ _ s
  rw [if_neg hno, pick_rev]
  first
    | exact wpAny_bind (m := Builtin.Tuple.tupleExact _) (wpAny_newObj_type (wpAny_pure ⟨_, rfl, wpAny_pure h⟩) htake)
    | exact wpAny_bind (m := Builtin.Tuple.tupleExact _) (wpAny_newObj_type (wpAny_bind (wpAny_pure (wpAny_pure ⟨_, rfl, wpAny_pure h⟩))) htake)
    | exact wpAny_bind (wpAny_bind (m := Builtin.Tuple.tupleExact _) (wpAny_newObj_type (wpAny_pure (wpAny_pure ⟨_, rfl, wpAny_pure h⟩)) htake))
    | exact wpAny_bind (wpAny_bind (m := Builtin.Tuple.tupleExact _) (wpAny_newObj_type (wpAny_pure ⟨_, rfl, wpAny_pure h⟩) htake))
end
def tRevA (K : PySem.W.Frag) (te : TE) : TE := fun σ H Q => te σ H fun x H1 => ∃ a xs, x = .ref a ∧ ((SqL K H1 a xs ∧ ∀ p, H1 p = none → Q (.ref p) (upd H1 p (.lst xs.reverse))) ∨ (SqT K H1 a xs ∧ ∀ p, H1 p = none → Q (.ref p) (upd H1 p (.tup xs.reverse))))
theorem pe_revA {X : Cx} {e : Expr} {te : TE} {k : Nat} {p1 p2 p3 pos : Pos} (he : PE X e te) : PE X (.Subscript e (.Slice none none (some (.UnaryOp .USub (.Constant (.int 1) k p1) p2)) p3) pos) (tRevA X.K te) := by
  refine ⟨fun pins s σ H Q I h => ?_⟩
  refine Subscript_ (thn (he.run pins s σ H _ I h) fun v s1 ⟨x, H1, I1, r1, q1⟩ => ?_)
  obtain ⟨a, xs, ex, q⟩ := q1
  subst ex
  cases r1
  have hst : PO X (some (.UnaryOp .USub (.Constant (.int 1) k p1) p2)) (tPart (tUn (rU fun i => .int (-i)) (tC (.int 1)))) := po_some (pe_un un_neg pe_int)
  refine wpAny_Slice (thn (po_none.run pins s1 σ H1 (fun o H2 => o = none ∧ H2 = H1) I1 ⟨rfl, rfl⟩) fun vl s2 ⟨l, H2, I2, pl, el, e2⟩ => ?_)
  subst el e2
  refine thn (po_none.run pins s2 σ H2 (fun o H3 => o = none ∧ H3 = H2) I2 ⟨rfl, rfl⟩) fun vu s3 ⟨u, H3, I3, pu, eu, e3⟩ => ?_
  subst eu e3
  refine thn (hst.run pins s3 σ H3 (fun o H4 => o = some (-1) ∧ H4 = H3) I3 ⟨1, rfl, -1, rfl, rfl, rfl⟩) fun vs s4 ⟨o, H4, I4, ps, eo, e4⟩ => ?_
  subst eo e4
  have I5 : Inv X pins σ H4 { s4 with heap := s4.heap.push { cls := .type "slice", data := .fields #[vl, vu, vs] } } := I4.kept (t' := s4.toks) fun b ob q => Heap.get?_push_of_some _ q
  show wpAny (model X.prog X.w) X.A (subscriptTail e (.Slice none none (some (.UnaryOp .USub (.Constant (.int 1) k p1) p2)) p3) (.ref a) (.ref s4.heap.objs.size)) (EP X pins σ Q) X.xe { s4 with heap := s4.heap.push { cls := .type "slice", data := .fields #[vl, vu, vs] } }
  rcases q with ⟨hx, q⟩ | ⟨hx, q⟩
  · obtain ⟨its, r, ht, hz⟩ := I5.list hx
    have hlen := r.length
    refine tail_any (ops := [.ref a, .ref s4.heap.objs.size]) ht.isList.typeIs (PySem.slot_list_getitem.lookup) ?_ (by with_unfolding_all rfl)
    refine wpAny_getItem_list_slice ht.isList (Heap.IsSliceOf.new _ vl vu vs) pl pu ps (by decide) ?_ (by rw [List.size_toArray]; omega)
    rw [PySem.W.krv_pick]
    refine ⟨.ref _, _, I5.laid (t' := s4.toks) (o := .lst xs.reverse) (fun b ob q => Heap.get?_push_of_some _ q) (Nat.le_refl _) ?_, rfl, q _ (I5.hok.fresh (Nat.le_refl _))⟩
    exact ⟨by rw [List.length_reverse]; exact hz, _, 0, r.reverse, Heap.get?_push_size _ rfl⟩
  · obtain ⟨its, r, ht, hz⟩ := I5.tuple hx
    have hlen : its.toArray.size = xs.length := by rw [List.size_toArray]; exact r.length.symm
    refine tail_any (ops := [.ref a, .ref s4.heap.objs.size]) ht.typeIs PyProof.Rows.slot_tuple_getitem.lookup ?_ (by with_unfolding_all rfl)
    refine getItem_tuple_rev ht (Heap.IsSliceOf.new _ vl vu vs) pl pu ps ?_ (by rw [hlen]; exact hz)
    refine ⟨.ref _, _, I5.laid (t' := s4.toks) (o := .tup xs.reverse) (fun b ob q => Heap.get?_push_of_some _ q) (Nat.le_refl _) ?_, rfl, q _ (I5.hok.fresh (Nat.le_refl _))⟩
    exact ⟨by rw [List.length_reverse]; exact hz, _, r.reverse, IsTup.new _ _⟩
end DI

set_option Elab.async false
set_option linter.all false
set_option maxRecDepth 100000
set_option maxHeartbeats 4000000
/-! DI 5: subscripts, slices, built-ins, isinstance, methods. -/
namespace DI
open PySem PySem.Spec PyProof.Rows L2
/-- values one by one, held or not -/
inductive Rpz (w : World) (K : PySem.W.Frag) (m : List Addr) (H : Hp) : List D → List V → Prop
  | nil : Rpz w K m H [] []
  | cons {d ds v vs} : Rp w K m H d v → Rpz w K m H ds vs → Rpz w K m H (d :: ds) (v :: vs)
section
variable {w : World} {K : PySem.W.Frag} {W : WX} {σ : L2.St} {m m' : List Addr} {H H' : Hp} {s : S} {Q : VK}
theorem Rpz.mono (e : Ex m H m' H') : ∀ {ds vs}, Rpz w K m H ds vs → Rpz w K m' H' ds vs
  | _, _, .nil => .nil
  | _, _, .cons h r => .cons (h.mono e) (Rpz.mono e r)
theorem Rps.z : ∀ {ds : List D} {vs : List V}, Rps w K m H ds vs → Rpz w K m H ds vs
  | _, _, .nil => .nil
  | _, _, .cons _ h r => .cons h (Rps.z r)
def rIxDk : R2 := fun x y H Q => ∃ a v, x = .ref a ∧ DGet H a y (some v) ∧ Q v H
theorem ix_dk {X : Cx} (hu : X.A.units + 1 < cLine) : IxR X rIxDk := by
  intro value slice pins s σ H x y v u Q I rx ry h hs
  obtain ⟨a, v', rfl, g, q⟩ := h
  cases rx
  exact tail_any (dict_typeIs I g) F.slot_dict_getitem.lookup (d_getItem hu I g ry fun w' s' J r => ⟨v', H, J, r, q⟩) hs
def rIxA (K : PySem.W.Frag) : R2 := fun x y H Q => rIx K x y H Q ∨ rIxDk x y H Q
theorem ix_any {X : Cx} (hu : X.A.units + 1 < cLine) : IxR X (rIxA X.K) := ix_seq.or (ix_dk hu)
theorem ixD_ok {a b : D} {x y : V} (st : StOk w K m H s) (ra : Rp w K m H a x) (rb : Rp w K m H b y) (p : PostE w K W σ m H Q (ixD a b s)) : rIxA K x y H Q := by
  unfold ixD at p
  split at p
  · split at p
    · rename_i hz
      split at p
      · rename_i c e
        cases ra; cases rb
        exact .inl (.inr (.inr ⟨_, _, c, rfl, rfl, hz, e, post_same p st (.str _) rfl⟩))
      · exact p.elim
    · exact p.elim
  · split at p
    · rename_i e1 e2
      obtain ⟨a, vs, rfl, hp, hl, rs⟩ := dicOf_h st ra e1
      split at p
      · rename_i d e3
        obtain ⟨v, e4, rd, hs⟩ := rs.getX.1 d e3
        rw [key_v rb e2]
        exact .inr ⟨a, v, rfl, by rw [← e4]; exact dget_h hp, post_same p st rd hs⟩
      · exact p.elim
    · split at p
      · split at p
        · rename_i xs e
          obtain ⟨a, vs, rfl, sq, rs⟩ := seqOf_sq st ra e
          split at p
          · rename_i d e2
            obtain ⟨v, e3, rd, hs⟩ := rs.at_ e2
            cases rb
            have q := post_same p st rd hs
            rcases sq with sq | sq
            · exact .inl (.inl ⟨_, _, _, v, rfl, rfl, sq, e3, q⟩)
            · exact .inl (.inr (.inl ⟨_, _, _, v, rfl, rfl, sq, e3, q⟩))
          · exact p.elim
        · exact p.elim
      · exact p.elim
theorem cut_v {xs : List D} {vs : List V} (r : Rps w K m H xs vs) (lo hi : Option Int) : Rps w K m H (cutD xs lo hi) (cutV vs lo hi) := by
  unfold cutD cutV
  rw [r.length]
  exact (r.drop _).take _
def rSlD (K : PySem.W.Frag) : V → Option Int → Option Int → Hp → VK → Prop := fun x lo hi H Q => rSlA K x lo hi H Q ∨ rSlL K x lo hi H Q
theorem sl_D {X : Cx} : SlR X (rSlD X.K) := sl_tupA.or sl_list
theorem cut_whole {xs : List D} {lo hi : Option Int} (h : HT.sIx xs.length 0 lo = 0 ∧ HT.sIx xs.length xs.length hi = xs.length) : cutD xs lo hi = xs := by
  unfold cutD
  rw [h.1, h.2]
  simp
theorem slD_ok {a : D} {x : V} {lo hi : Option Int} (st : StOk w K m H s) (ra : Rp w K m H a x) (p : PostE w K W σ m H Q (slD a lo hi s)) : rSlD K x lo hi H Q := by
  unfold slD at p
  split at p
  · cases ra with
    | tup ha r1 =>
      refine .inl ⟨_, _, rfl, ha.sq, fun h => ?_, fun _ => post_tup p st (cut_v r1 lo hi)⟩
      rw [r1.length] at h
      rw [cut_whole h] at p
      exact post_same p st (.tup ha r1) rfl
  · split at p
    · rename_i xs e
      obtain ⟨a, vs, rfl, sq, rs⟩ := lstOf_sq st ra e
      exact .inr ⟨_, _, rfl, sq, post_lst p st (cut_v rs lo hi)⟩
    · exact p.elim
/-! ### numbers in lists -/
theorem maxL_is : ∀ {ns : List Int}, ns ≠ [] → maxL ns ∈ ns ∧ ∀ y ∈ ns, y ≤ maxL ns
  | [i], _ => ⟨by simp [maxL], by simp [maxL]⟩
  | i :: j :: r, _ => by
    have ih := maxL_is (ns := j :: r) (by simp)
    obtain ⟨h1, h2⟩ := ih
    unfold maxL
    simp only
    by_cases c : i < maxL (j :: r)
    · rw [if_pos c]
      exact ⟨List.mem_cons_of_mem _ h1, fun y hy => by
        rcases List.mem_cons.mp hy with z | z
        · subst z; omega
        · exact h2 y z⟩
    · rw [if_neg c]
      exact ⟨List.mem_cons_self, fun y hy => by
        rcases List.mem_cons.mp hy with z | z
        · subst z; omega
        · have := h2 y z; omega⟩
theorem minL_is : ∀ {ns : List Int}, ns ≠ [] → minL ns ∈ ns ∧ ∀ y ∈ ns, minL ns ≤ y
  | [i], _ => ⟨by simp [minL], by simp [minL]⟩
  | i :: j :: r, _ => by
    have ih := minL_is (ns := j :: r) (by simp)
    obtain ⟨h1, h2⟩ := ih
    unfold minL
    simp only
    by_cases c : minL (j :: r) < i
    · rw [if_pos c]
      exact ⟨List.mem_cons_of_mem _ h1, fun y hy => by
        rcases List.mem_cons.mp hy with z | z
        · subst z; omega
        · exact h2 y z⟩
    · rw [if_neg c]
      exact ⟨List.mem_cons_self, fun y hy => by
        rcases List.mem_cons.mp hy with z | z
        · subst z; omega
        · have := h2 y z; omega⟩
theorem sort_is (ns : List Int) : (ns.mergeSort fun a b => decide (a ≤ b)).Pairwise (· ≤ ·) := by
  have h := List.pairwise_mergeSort (le := fun a b : Int => decide (a ≤ b)) (fun a b c => by simp; omega) (fun a b => by simp; omega) ns
  exact h.imp fun {a b} h => by simpa using h
theorem sort_the {ns ms : List Int} (hp : ms.Perm ns) (h : ms.Pairwise (· ≤ ·)) : ms = ns.mergeSort fun a b => decide (a ≤ b) :=
  PySem.W.ksm_same (hp.trans (List.mergeSort_perm ns _).symm) h (sort_is ns)
theorem nodup_erase : ∀ (n : Nat) (ns : List Int), ns.length ≤ n → ns.eraseDups.Nodup
  | _, [], _ => by simp
  | 0, _ :: _, h => by simp at h
  | n + 1, a :: as, h => by
    rw [List.eraseDups_cons, List.nodup_cons]
    refine ⟨fun hm => ?_, nodup_erase n _ ?_⟩
    · rw [List.mem_eraseDups, List.mem_filter] at hm
      simp at hm
    · have := List.length_filter_le (fun b => !b == a) as
      simp at h
      omega
theorem set_the {ns ms : List Int} (h : ms.Pairwise (· < ·)) (hm : ∀ k, k ∈ ms ↔ k ∈ ns) : ms = ns.eraseDups.mergeSort fun a b => decide (a ≤ b) := by
  refine sort_the ?_ (h.imp fun {a b} z => Int.le_of_lt z)
  refine (List.perm_ext_iff_of_nodup (h.imp fun {a b} z => by omega) (nodup_erase _ ns (Nat.le_refl _))).mpr fun k => ?_
  rw [hm k, List.mem_eraseDups]
/-! ### built-ins -/
def rLenK : List V → Hp → VK → Prop := fun xs H Q => ∃ p kvs, xs = [.ref p] ∧ L2.Rd H p (.dK kvs) ∧ Q (.int kvs.length) H
def rCopK : List V → Hp → VK → Prop := fun xs H Q => ∃ p kvs, xs = [.ref p] ∧ L2.Rd H p (.dK kvs) ∧ ∀ q, H q = none → Q (.ref q) (upd H q (.dK kvs))
def rLenD (K : PySem.W.Frag) : List V → Hp → VK → Prop := fun xs H Q => (∃ p ys, xs = [.ref p] ∧ (SqL K H p ys ∨ SqT K H p ys) ∧ Q (.int ys.length) H) ∨ (∃ z, xs = [.str z] ∧ z.length ≤ sizeLine ∧ Q (.int z.length) H) ∨ rLenK xs H Q
def rSortedD (w : World) (K : PySem.W.Frag) : List V → Hp → VK → Prop := fun xs H Q => rSortI2 K xs H Q ∨ rSortS K xs H Q ∨ rSortedSet w xs H Q
def rSetT (w : World) (K : PySem.W.Frag) : List V → Hp → VK → Prop := fun xs H Q => ∃ (p : Addr) (ns : List Int), xs = [.ref p] ∧ SqT K H p (ns.map V.int) ∧ ns.length + 1 < scanBound ∧
  ∀ (a : Addr) (c : Nat), H a = none → c ≤ ns.length → Q (.ref a) (upd H a (SetO w a (fun j => decide (j ∈ ns)) c))
section
variable {X : Cx}
theorem cr_len_dk : CallR X (.builtin "len") rLenK := by
  intro pins s σ H xs us Q I r h
  obtain ⟨p, kvs, rfl, hd, q⟩ := h
  rw [Vals.ref1 r]
  exact d_len I hd fun t s' J => ⟨.int kvs.length, H, J, ⟨_, rfl⟩, q⟩
theorem cr_dict_dk : CallR X (.type "dict") rCopK := by
  intro pins s σ H xs us Q I r h
  obtain ⟨p, kvs, rfl, hd, q⟩ := h
  rw [Vals.ref1 r]
  exact d_copyOf I hd fun a s' ha J => ⟨.ref a, _, J, rfl, q a ha⟩
theorem cr_len : CallR X (.builtin "len") (rLenD X.K) := call_len_seq.or (call_len_str.or cr_len_dk)
theorem cr_sortedD (hc : X.calm = true) : CallR X (.builtin "sorted") (rSortedD X.w X.K) := (cr_sortI2 hc).or ((cr_sortS hc).or (cr_sortedSet hc))
theorem cr_set (hc : X.calm = true) : CallR X (.type "set") (rSetT X.w X.K) := by
  intro pins s σ H vs us Q I r h
  obtain ⟨p, ns, rfl, ha, hb, q⟩ := h
  obtain ⟨its, rv, ⟨o, e, hcl, n, hd⟩, hz⟩ := I.tuple ha
  rw [Vals.ref1 r]
  refine call_set_tupI (items := its.toArray) ns (I.ok.hd hc) ⟨o, e, hcl, n, hd⟩ (by simpa using Vals.ints rv) hb fun h' tk c R hcn hk => ?_
  exact ⟨.ref s.heap.objs.size, _, I.laid (t' := tk) hk (Nat.le_refl _) (setO_new R), rfl, q _ c (I.hok.fresh (Nat.le_refl _)) hcn⟩
/-- the built-ins: functions, types -/
def bltOf : Blt → Str × Value
  | .len => ("len", .builtin "len") | .sum => ("sum", .builtin "sum") | .max => ("max", .builtin "max") | .min => ("min", .builtin "min")
  | .all => ("all", .builtin "all") | .any => ("any", .builtin "any") | .sorted => ("sorted", .builtin "sorted")
  | .tuple => ("tuple", .type "tuple") | .list => ("list", .type "list") | .set => ("set", .type "set") | .int => ("int", .type "int") | .str => ("str", .type "str") | .dict => ("dict", .type "dict")
def rBlt (w : World) (K : PySem.W.Frag) : Blt → List V → Hp → VK → Prop
  | .len => rLenD K
  | .sum => rSum K
  | .max => rMax K
  | .min => rMin K
  | .all => rAll K
  | .any => rAny K
  | .sorted => rSortedD w K
  | .tuple => fun xs H Q => (∃ p ys, xs = [.ref p] ∧ ((SqL K H p ys ∧ ∀ l, H l = none → Q (.ref l) (upd H l (.tup ys))) ∨ (SqT K H p ys ∧ Q (.ref p) H))) ∨ rTupDk xs H Q
  | .list => fun xs H Q => (∃ p ys, xs = [.ref p] ∧ (SqL K H p ys ∨ SqT K H p ys) ∧ ∀ l, H l = none → Q (.ref l) (upd H l (.lst ys))) ∨ rLstDk xs H Q
  | .dict => rCopK
  | .set => rSetT w K
  | .int => fun xs H Q => (∃ i, xs = [.int i] ∧ Q (.int i) H) ∨ ∃ k, xs = [.bl k] ∧ Q (.int (if k then 1 else 0)) H
  | .str => fun xs H Q => ∃ i, xs = [.int i] ∧ i.natAbs.log2 < 1920 ∧ Q (.str (toString i)) H
theorem cr_blt (hc : X.calm = true) (b : Blt) : CallR X (bltOf b).2 (rBlt X.w X.K b) := by
  cases b with
  | len => exact cr_len
  | sum => exact cr_sum hc
  | max => exact cr_max hc
  | min => exact cr_min hc
  | all => exact cr_all hc
  | any => exact cr_any hc
  | sorted => exact cr_sortedD hc
  | tuple => exact call_tuple_of.or (call_tup_dk hc)
  | list => exact call_list_of.or (call_lst_dk hc)
  | dict => exact cr_dict_dk
  | set => exact cr_set hc
  | int => exact call_int1
  | str => exact call_str_int
end
theorem keys_rps {ks : List Key} : Rps w K m H (ks.map Kd) (ks.map kV) := by
  induction ks with
  | nil => exact .nil
  | cons k ks ih => cases k <;> exact .cons rfl (by constructor) ih
theorem zip_keys {ks : List Key} {vs : List V} (h : ks.length = vs.length) : ((ks.zip vs).map fun p => kV p.1) = ks.map kV := by
  rw [show ((ks.zip vs).map fun p => kV p.1) = ((ks.zip vs).map Prod.fst).map kV by rw [List.map_map]; rfl, List.map_fst_zip (by omega)]
theorem srcOf_v (st : StOk w K m H s) {d : D} {v : V} {xs : List D} (r : Rp w K m H d v) (e : d.srcOf s = some xs) : ∃ a vs, v = .ref a ∧ SrcV K H a vs ∧ Rps w K m H xs vs := by
  unfold D.srcOf at e
  split at e
  · rename_i ys e1
    cases e
    obtain ⟨a, vs, rfl, sq, rs⟩ := seqOf_sq st r e1
    exact ⟨a, vs, rfl, sq.imp id .inl, rs⟩
  · obtain ⟨⟨ks, ys⟩, e1, rfl⟩ := Option.map_eq_some_iff.mp e
    obtain ⟨a, vs, rfl, hd, hl, rs⟩ := dicOf_h st r e1
    exact ⟨a, ks.map kV, rfl, .inr (.inr ⟨_, hd, (zip_keys (by rw [rs.length, hl])).symm⟩), keys_rps⟩
theorem strsD_v : ∀ {xs : List D} {vs : List V} {ns : List Str}, Rps w K m H xs vs → strsD xs = some ns → vs = ns.map V.str
  | [], _, _, .nil, e => by cases e; rfl
  | .str i :: r, _, ns, .cons _ (.str _) rs, e => by
    unfold strsD at e
    cases q : strsD r with
    | none => rw [q] at e; cases e
    | some ms =>
      rw [q] at e; cases e
      rw [strsD_v rs q]; rfl
theorem strs_rps (ns : List Str) : Rps w K m H (ns.map D.str) (ns.map V.str) := by
  induction ns with
  | nil => exact .nil
  | cons n ns ih => exact .cons rfl (.str n) ih
theorem opt_bind {α β : Type} {o : Option α} {f : α → Option β} {b : β} (h : o.bind f = some b) : ∃ a, o = some a ∧ f a = some b := Option.bind_eq_some_iff.mp h
theorem bltD_ok {b : Blt} {ds : List D} {vs : List V} (st : StOk w K m H s) (ra : Rpz w K m H ds vs) (p : PostE w K W σ m H Q (bltD b ds s)) : rBlt w K b vs H Q := by
  unfold bltD at p
  split at p
  -- len of a text
  · split at p
    · rename_i hz
      cases ra with | cons r t => cases t; cases r; exact .inr (.inl ⟨_, rfl, hz, post_same p st (.int _) rfl⟩)
    · exact p.elim
  · split at p
    · rename_i xs e
      cases ra with | cons r t =>
      cases t
      obtain ⟨a, us, rfl, sq, rs⟩ := seqOf_sq st r e
      exact .inl ⟨_, _, rfl, sq, by rw [rs.length]; exact post_same p st (.int _) rfl⟩
    · split at p
      · rename_i e
        cases ra with | cons r t =>
        cases t
        obtain ⟨a, us, rfl, hd, hl, rs⟩ := dicOf_h st r e
        refine .inr (.inr ⟨_, _, rfl, hd, ?_⟩)
        rw [List.length_zip, rs.length, hl, Nat.min_self, ← hl]
        exact post_same p st (.int _) rfl
      · exact p.elim
  -- sum
  · split at p
    · rename_i ns e
      cases ra with | cons r t =>
      cases t
      obtain ⟨xs, e1, e2⟩ := opt_bind e
      obtain ⟨a, us, rfl, sq, rs⟩ := lstOf_sq st r e1
      obtain ⟨rfl, _⟩ := intsD_v rs e2
      exact ⟨_, _, rfl, sq, post_same p st (.int _) rfl⟩
    · exact p.elim
  -- max
  · split at p
    · rename_i ns e
      cases ra with | cons r t =>
      cases t
      obtain ⟨xs, e1, e2⟩ := opt_bind e
      obtain ⟨a, us, rfl, sq, rs⟩ := lstOf_sq st r e1
      obtain ⟨rfl, _⟩ := intsD_v rs e2
      split at p
      · rename_i hn
        refine ⟨_, _, rfl, sq, List.length_pos_iff.mpr hn, fun k h1 h2 => ?_⟩
        have z := maxL_is hn
        have e : k = maxL ns := Int.le_antisymm (z.2 k h1) (h2 _ z.1)
        rw [e]
        exact post_same p st (.int _) rfl
      · exact p.elim
    · exact p.elim
  -- min
  · split at p
    · rename_i ns e
      cases ra with | cons r t =>
      cases t
      obtain ⟨xs, e1, e2⟩ := opt_bind e
      obtain ⟨a, us, rfl, sq, rs⟩ := lstOf_sq st r e1
      obtain ⟨rfl, _⟩ := intsD_v rs e2
      split at p
      · rename_i hn
        refine ⟨_, _, rfl, sq, List.length_pos_iff.mpr hn, fun k h1 h2 => ?_⟩
        have z := minL_is hn
        have e : k = minL ns := Int.le_antisymm (h2 _ z.1) (z.2 k h1)
        rw [e]
        exact post_same p st (.int _) rfl
      · exact p.elim
    · exact p.elim
  -- all, any
  · split at p
    · rename_i ns e
      cases ra with | cons r t =>
      cases t
      obtain ⟨xs, e1, e2⟩ := opt_bind e
      obtain ⟨a, us, rfl, sq, rs⟩ := lstOf_sq st r e1
      obtain rfl := blsD_v rs e2
      exact ⟨_, _, rfl, sq, post_same p st (.bl _) rfl⟩
    · exact p.elim
  · split at p
    · rename_i ns e
      cases ra with | cons r t =>
      cases t
      obtain ⟨xs, e1, e2⟩ := opt_bind e
      obtain ⟨a, us, rfl, sq, rs⟩ := lstOf_sq st r e1
      obtain rfl := blsD_v rs e2
      exact ⟨_, _, rfl, sq, post_same p st (.bl _) rfl⟩
    · exact p.elim
  -- tuple
  · split at p
    · rename_i xs e
      cases ra with | cons r t =>
      cases t
      cases r with
      | tup ha rs => cases e; exact .inl ⟨_, _, rfl, .inr ⟨ha.sq, post_same p st (.tup ha rs) rfl⟩⟩
      | lst h1 h2 h3 =>
        obtain ⟨a, us, e0, sq, rs⟩ := lstOf_sq st (.lst h1 h2 h3) e
        exact .inl ⟨_, _, by rw [e0], .inl ⟨sq, post_tup p st rs⟩⟩
      | rol h1 h3 =>
        obtain ⟨a, us, e0, sq, rs⟩ := lstOf_sq st (.rol h1 h3) e
        exact .inl ⟨_, _, by rw [e0], .inl ⟨sq, post_tup p st rs⟩⟩
      | ref h1 =>
        obtain ⟨a, us, e0, sq, rs⟩ := lstOf_sq st (.ref h1) e
        exact .inl ⟨_, _, by rw [e0], .inl ⟨sq, post_tup p st rs⟩⟩
      | _ => cases e
    · split at p
      · rename_i e
        cases ra with | cons r t =>
        cases t
        obtain ⟨a, us, rfl, hd, hl, rs⟩ := dicOf_h st r e
        refine .inr ⟨_, _, rfl, hd, ?_⟩
        rw [zip_keys (by rw [rs.length, hl])]
        exact post_tup p st keys_rps
      · exact p.elim
  -- list
  · split at p
    · rename_i xs e
      cases ra with | cons r t =>
      cases t
      obtain ⟨a, us, rfl, sq, rs⟩ := seqOf_sq st r e
      exact .inl ⟨_, _, rfl, sq, post_lst p st rs⟩
    · split at p
      · rename_i e
        cases ra with | cons r t =>
        cases t
        obtain ⟨a, us, rfl, hd, hl, rs⟩ := dicOf_h st r e
        refine .inr ⟨_, _, rfl, hd, ?_⟩
        rw [zip_keys (by rw [rs.length, hl])]
        exact post_lst p st keys_rps
      · exact p.elim
  -- dict
  · split at p
    · rename_i e
      cases ra with | cons r t =>
      cases t
      obtain ⟨a, us, rfl, hd, hl, rs⟩ := dicOf_h st r e
      exact ⟨_, _, rfl, hd, post_dic p st hl rs⟩
    · exact p.elim
  -- sorted
  · split at p
    · rename_i hz
      cases ra with | cons r t =>
      cases t
      cases r with
      | ist h1 h2 h3 h4 =>
        refine .inr (.inr ⟨_, _, _, rfl, h1, by omega, fun ms q g1 g2 _ hq => ?_⟩)
        have e := set_the g1 fun k => (g2 k).trans (by rw [h3 k]; exact decide_eq_true_iff)
        rw [e]
        exact post_lst p st (ints_rps _) q hq
    · exact p.elim
  · split at p
    · rename_i ns e
      cases ra with | cons r t =>
      cases t
      obtain ⟨xs, e1, e2⟩ := opt_bind e
      obtain ⟨a, us, rfl, sq, rs⟩ := srcOf_v st r e1
      obtain ⟨rfl, _⟩ := intsD_v rs e2
      refine .inl ⟨_, _, rfl, sq, fun ms q g1 g2 hq => ?_⟩
      rw [sort_the g1 g2]
      exact post_lst p st (ints_rps _) q hq
    · split at p
      · rename_i ns e
        cases ra with | cons r t =>
        cases t
        obtain ⟨xs, e1, e2⟩ := opt_bind e
        obtain ⟨a, us, rfl, sq, rs⟩ := srcOf_v st r e1
        obtain rfl := strsD_v rs e2
        exact .inr (.inl ⟨_, _, rfl, sq, post_lst p st (strs_rps _)⟩)
      · exact p.elim
  -- set
  · split at p
    · rename_i ns e
      split at p
      · rename_i hz
        cases ra with | cons r t =>
        cases t
        cases r with
        | tup ha rs =>
          obtain ⟨rfl, _⟩ := intsD_v rs e
          refine ⟨_, _, rfl, ha.sq, hz, fun a c hn hc => ?_⟩
          exact p m _ _ (.new st hn) (st.new hn) (.ist upd_same (st.nin hn) (fun _ => rfl) hc) fun _ => ⟨a, rfl, hn⟩
      · exact p.elim
    · exact p.elim
  -- int, str
  · cases ra with | cons r t => cases t; cases r; exact .inl ⟨_, rfl, post_same p st (.int _) rfl⟩
  · split at p
    · rename_i hz
      cases ra with | cons r t => cases t; cases r; exact ⟨_, rfl, hz, post_same p st (.str _) rfl⟩
    · exact p.elim
  · exact p.elim
/-! ### isinstance -/
def tyNm : Ty → String
  | .int => "int" | .bool => "bool" | .str => "str" | .tuple => "tuple" | .list => "list" | .dict => "dict"
theorem kit_all (t : Ty) : PySem.W.kitOne K (.type "NoneType") (.type (tyNm t)) = some false ∧ PySem.W.kitOne K (.type "bool") (.type (tyNm t)) = some (t == .bool || t == .int) ∧ PySem.W.kitOne K (.type "int") (.type (tyNm t)) = some (t == .int) ∧
    PySem.W.kitOne K (.type "str") (.type (tyNm t)) = some (t == .str) ∧ PySem.W.kitOne K (.type "tuple") (.type (tyNm t)) = some (t == .tuple) ∧ PySem.W.kitOne K (.type "list") (.type (tyNm t)) = some (t == .list) ∧ PySem.W.kitOne K (.type "dict") (.type (tyNm t)) = some (t == .dict) := by
  cases t <;> exact ⟨kit_ty (by decide +kernel), kit_ty (by decide +kernel), kit_ty (by decide +kernel), kit_ty (by decide +kernel), kit_ty (by decide +kernel), kit_ty (by decide +kernel), kit_ty (by decide +kernel)⟩
theorem isT_v (st : StOk w K m H s) {d : D} {x : V} {t : Ty} {k : Bool} (r : Rp w K m H d x) (e : isT d t s = some k) : ∃ u, TyX K H x u ∧ PySem.W.kitOne K u (.type (tyNm t)) = some k := by
  obtain ⟨k1, k2, k3, k4, k5, k6, k7⟩ := kit_all (K := K) t
  cases r with
  | non => cases e; exact ⟨_, .base .non, k1⟩
  | bl b => cases e; exact ⟨_, .base (.bl b), k2⟩
  | int b => cases e; exact ⟨_, .base (.int b), k3⟩
  | str b => cases e; exact ⟨_, .base (.str b), k4⟩
  | tup h rs =>
    cases e
    refine ⟨_, ?_, k5⟩
    rcases h with ⟨h | ⟨o, h⟩, _⟩ | ⟨o, its, n, h1, h2, _⟩
    · exact .base (.tup h)
    · exact .fTuple h
    · exact .kTuple h1 h2
  | lst h _ _ => cases e; exact ⟨_, .base (.lst h), k6⟩
  | rol h rs =>
    cases e
    refine ⟨_, ?_, k6⟩
    rcases h with ⟨⟨o, h⟩, _⟩ | ⟨o, its, n, h1, h2, _⟩
    · exact .base (.frz h)
    · exact .kList h1 h2
  | ref h =>
    unfold isT at e
    dsimp only at e
    split at e
    · rename_i xs e1
      cases e
      obtain ⟨a, vs, e2, hl, _⟩ := mutOf_h st (.ref h) (xs := xs) e1
      cases e2
      exact ⟨_, .base (.lst hl), k6⟩
    · obtain ⟨⟨ks, ys⟩, e1, rfl⟩ := Option.map_eq_some_iff.mp e
      obtain ⟨a, vs, e2, hd, _, _⟩ := dicOf_h st (.ref h) (ks := ks) (xs := ys) e1
      cases e2
      rcases hd with hd | ⟨o, hd⟩
      · exact ⟨_, .base (.dK hd), k7⟩
      · exact ⟨_, .fDict hd, k7⟩
  | dic h _ _ _ => cases e; exact ⟨_, .base (.dK h), k7⟩
  | ist => cases e
  | fn => cases e
end
end DI

set_option Elab.async false
set_option linter.all false
set_option maxRecDepth 100000
set_option maxHeartbeats 4000000
/-! DI 6: readings put together. -/
namespace DI
open PySem PySem.Spec PyProof.Rows L2
theorem PE.imp {X : Cx} {e : Expr} {t t' : TE} (h : PE X e t) (i : ∀ σ H Q, t' σ H Q → t σ H Q) : PE X e t' := ⟨fun pins s σ H Q I q => h.run pins s σ H Q I (i _ _ _ q)⟩
theorem PT.imp {X : Cx} {e : Expr} {t t' : TT} (h : PT X e t) (i : ∀ σ H Q, t' σ H Q → t σ H Q) : PT X e t' := ⟨fun pins s σ H Q I q => h.run pins s σ H Q I (i _ _ _ q)⟩
theorem PW.imp {X : Cx} {e : Expr} {t t' : TT} (h : PW X e t) (i : ∀ σ H Q, t' σ H Q → t σ H Q) : PW X e t' := ⟨fun wh pins s σ H Q I q => h.run wh pins s σ H Q I (i _ _ _ q)⟩
theorem PA.imp {X : Cx} {e : List Expr} {t t' : TA} (h : PA X e t) (i : ∀ σ H Q, t' σ H Q → t σ H Q) : PA X e t' := ⟨fun ps pins s σ H Q I q => h.run ps pins s σ H Q I (i _ _ _ q)⟩
theorem PO.imp {X : Cx} {e : Option Expr} {t t' : TO} (h : PO X e t) (i : ∀ σ H Q, t' σ H Q → t σ H Q) : PO X e t' := ⟨fun pins s σ H Q I q => h.run pins s σ H Q I (i _ _ _ q)⟩
theorem PS.imp {X : Cx} {e : Stmt} {t t' : TS} (h : PS X e t) (i : ∀ D σ H, t' D σ H → t D σ H) : PS X e t' := ⟨fun pins s σ H D I q => h.run pins s σ H D I (i _ _ _ q)⟩
theorem PSs.imp {X : Cx} {e : List Stmt} {t t' : TS} (h : PSs X e t) (i : ∀ D σ H, t' D σ H → t D σ H) : PSs X e t' := ⟨fun pins s σ H D I q => h.run pins s σ H D I (i _ _ _ q)⟩
theorem PI.imp {X : Cx} {tg e : Expr} {t t' : TI} (h : PI X tg e t) (i : ∀ σ H Q, t' σ H Q → t σ H Q) : PI X tg e t' := ⟨fun pins s σ H Q I q => h.run pins s σ H Q I (i _ _ _ q)⟩
theorem PG.imp {X : Cx} {e : Expr} {t t' : TG} (h : PG X e t) (i : ∀ v σ H Q, t' v σ H Q → t v σ H Q) : PG X e t' := ⟨fun pins s σ H v u Q I r q => h.run pins s σ H v u Q I r (i _ _ _ _ q)⟩
theorem PE.bad {X : Cx} {e : Expr} : PE X e (fun _ _ _ => False) := ⟨fun _ _ _ _ _ _ q => q.elim⟩
/-- what is wanted of a result, whatever its kind -/
structure Pk (w : World) (K : PySem.W.Frag) (W : WX) (σ : L2.St) {α : Type} (P : List Addr → Hp → R α → Prop) : Prop where
  exc : ∀ {m H C fs s'}, P m H (.exc C fs s') → ∀ m' H' dx, Ex m H m' H' → StOk w K m' H' s' → ExcAt w K m' H' dx fs → W (.ref (He.ga K C)) (some dx) σ H'
  bad : ∀ {m H}, ¬ P m H .bad
  mono : ∀ {m H m1 H1 s1 r}, Ex m H m1 H1 → StOk w K m1 H1 s1 → P m H r → P m1 H1 r
/-- built-in arguments -/
def PostZ (w : World) (K : PySem.W.Frag) (W : WX) (σ : L2.St) (m : List Addr) (H : Hp) (Q : List V → Hp → Prop) : R (List D) → Prop
  | .ok ds s' => ∀ m' vs H', Ex m H m' H' → StOk w K m' H' s' → Rpz w K m' H' ds vs → Q vs H'
  | .exc C fs s' => ∀ m' H' dx, Ex m H m' H' → StOk w K m' H' s' → ExcAt w K m' H' dx fs → W (.ref (He.ga K C)) (some dx) σ H'
  | .bad => False
def PostO (w : World) (K : PySem.W.Frag) (W : WX) (σ : L2.St) (m : List Addr) (H : Hp) (Q : Option Int → Hp → Prop) : R (Option Int) → Prop
  | .ok o s' => ∀ m' H', Ex m H m' H' → StOk w K m' H' s' → Q o H'
  | .exc C fs s' => ∀ m' H' dx, Ex m H m' H' → StOk w K m' H' s' → ExcAt w K m' H' dx fs → W (.ref (He.ga K C)) (some dx) σ H'
  | .bad => False
/-- a walk over items -/
structure WalkD (w : World) (K : PySem.W.Frag) (m0 : List Addr) (H0 : Hp) (J : It) (I : Its) : Prop where
  go : ∀ i m H s, i < I.xs.length → Ex m0 H0 m H → StOk w K m H s → I.ok s = true → J.go i H
  yld : ∀ i m H s v H', i < I.xs.length → Ex m0 H0 m H → StOk w K m H s → I.ok s = true → J.yld i H v H' → ∃ d, I.xs[i]? = some d ∧ d.shr = true ∧ Ex m H m H' ∧ StOk w K m H' s ∧ Rp w K m H' d v
  stop : ∀ m H s, Ex m0 H0 m H → StOk w K m H s → I.ok s = true → J.stop I.xs.length H
def PostI (w : World) (K : PySem.W.Frag) (W : WX) (σ : L2.St) (m : List Addr) (H : Hp) (Q : It → Hp → Prop) : R Its → Prop
  | .ok I s' => ∀ m' H' J, Ex m H m' H' → StOk w K m' H' s' → WalkD w K m' H' J I → Q J H'
  | .exc C fs s' => ∀ m' H' dx, Ex m H m' H' → StOk w K m' H' s' → ExcAt w K m' H' dx fs → W (.ref (He.ga K C)) (some dx) σ H'
  | .bad => False
def tZ (w : World) (K : PySem.W.Frag) (W : WX) (pr : Option Hdp) (f : En → S → R (List D)) : TA := fun σ H Q => ∃ m ρ s, Rst w K pr m ρ s σ H ∧ PostZ w K W σ m H Q (f ρ s)
def tO (w : World) (K : PySem.W.Frag) (W : WX) (pr : Option Hdp) (f : En → S → R (Option Int)) : TO := fun σ H Q => ∃ m ρ s, Rst w K pr m ρ s σ H ∧ PostO w K W σ m H Q (f ρ s)
def tI (w : World) (K : PySem.W.Frag) (W : WX) (pr : Option Hdp) (f : En → S → R Its) : TI := fun σ H Q => ∃ m ρ s, Rst w K pr m ρ s σ H ∧ PostI w K W σ m H Q (f ρ s)
section
variable {w : World} {K : PySem.W.Frag} {W : WX} {pr : Option Hdp} {σ : L2.St} {m : List Addr} {H : Hp} {s : S} {ρ : En} {α : Type} {P : List Addr → Hp → R α → Prop}
theorem pkE {Q : VK} : Pk w K W σ (fun m H => PostE w K W σ m H Q) := ⟨fun h => h, fun h => h, fun e t p => p.mono e t⟩
theorem pkT {Q : Bool → Hp → Prop} : Pk w K W σ (fun m H => PostT w K W σ m H Q) := ⟨fun h => h, fun h => h, fun e t p => p.mono e⟩
theorem pkA {Q : List V → Hp → Prop} : Pk w K W σ (fun m H => PostA w K W σ m H Q) := ⟨fun h => h, fun h => h, fun e t p => p.mono e⟩
theorem pkZ {Q : List V → Hp → Prop} : Pk w K W σ (fun m H => PostZ w K W σ m H Q) := ⟨fun h => h, fun h => h, fun {m H m1 H1 s1 r} e t p => by
  cases r with
  | ok d s' => exact fun m' v H' e' h' => p m' v H' (e.trans e') h'
  | exc C fs s' => exact fun m' H' dx e' h' x => p m' H' dx (e.trans e') h' x
  | bad => exact p⟩
theorem pkO {Q : Option Int → Hp → Prop} : Pk w K W σ (fun m H => PostO w K W σ m H Q) := ⟨fun h => h, fun h => h, fun {m H m1 H1 s1 r} e t p => by
  cases r with
  | ok d s' => exact fun m' H' e' h' => p m' H' (e.trans e') h'
  | exc C fs s' => exact fun m' H' dx e' h' x => p m' H' dx (e.trans e') h' x
  | bad => exact p⟩
theorem pkI {Q : It → Hp → Prop} : Pk w K W σ (fun m H => PostI w K W σ m H Q) := ⟨fun h => h, fun h => h, fun {m H m1 H1 s1 r} e t p => by
  cases r with
  | ok d s' => exact fun m' H' J e' h' => p m' H' J (e.trans e') h'
  | exc C fs s' => exact fun m' H' dx e' h' x => p m' H' dx (e.trans e') h' x
  | bad => exact p⟩
/-- an expression, then what follows -/
theorem bE {f : En → S → R D} {g : D → S → R α} {k : V → Hp → Prop} (hP : Pk w K W σ P) (R₀ : Rst w K pr m ρ s σ H) (h : P m H ((f ρ s).bind g))
    (hk : ∀ d s1 m1 v H1, P m1 H1 (g d s1) → Ex m H m1 H1 → Rst w K pr m1 ρ s1 σ H1 → Rp w K m1 H1 d v → Fresh H d v → k v H1) : tD w K W pr f σ H k := by
  refine ⟨m, ρ, s, R₀, ?_⟩
  cases q : f ρ s with
  | ok d s1 =>
    rw [q] at h
    exact fun m1 v H1 e st rp fr => hk d s1 m1 v H1 (hP.mono e st h) e (R₀.mono e st) rp fr
  | exc C fs s' => rw [q] at h; exact hP.exc h
  | bad => rw [q] at h; exact hP.bad h
theorem bT {f : En → S → R Bool} {g : Bool → S → R α} {k : Bool → Hp → Prop} (hP : Pk w K W σ P) (R₀ : Rst w K pr m ρ s σ H) (h : P m H ((f ρ s).bind g))
    (hk : ∀ d s1 m1 H1, P m1 H1 (g d s1) → Ex m H m1 H1 → Rst w K pr m1 ρ s1 σ H1 → k d H1) : tT w K W pr f σ H k := by
  refine ⟨m, ρ, s, R₀, ?_⟩
  cases q : f ρ s with
  | ok d s1 =>
    rw [q] at h
    exact fun m1 H1 e st => hk d s1 m1 H1 (hP.mono e st h) e (R₀.mono e st)
  | exc C fs s' => rw [q] at h; exact hP.exc h
  | bad => rw [q] at h; exact hP.bad h
theorem bA {f : En → S → R (List D)} {g : List D → S → R α} {k : List V → Hp → Prop} (hP : Pk w K W σ P) (R₀ : Rst w K pr m ρ s σ H) (h : P m H ((f ρ s).bind g))
    (hk : ∀ ds s1 m1 vs H1, P m1 H1 (g ds s1) → Ex m H m1 H1 → Rst w K pr m1 ρ s1 σ H1 → Rps w K m1 H1 ds vs → k vs H1) : tA w K W pr f σ H k := by
  refine ⟨m, ρ, s, R₀, ?_⟩
  cases q : f ρ s with
  | ok d s1 =>
    rw [q] at h
    exact fun m1 v H1 e st rp => hk d s1 m1 v H1 (hP.mono e st h) e (R₀.mono e st) rp
  | exc C fs s' => rw [q] at h; exact hP.exc h
  | bad => rw [q] at h; exact hP.bad h
theorem bZ {f : En → S → R (List D)} {g : List D → S → R α} {k : List V → Hp → Prop} (hP : Pk w K W σ P) (R₀ : Rst w K pr m ρ s σ H) (h : P m H ((f ρ s).bind g))
    (hk : ∀ ds s1 m1 vs H1, P m1 H1 (g ds s1) → Ex m H m1 H1 → Rst w K pr m1 ρ s1 σ H1 → Rpz w K m1 H1 ds vs → k vs H1) : tZ w K W pr f σ H k := by
  refine ⟨m, ρ, s, R₀, ?_⟩
  cases q : f ρ s with
  | ok d s1 =>
    rw [q] at h
    exact fun m1 v H1 e st rp => hk d s1 m1 v H1 (hP.mono e st h) e (R₀.mono e st) rp
  | exc C fs s' => rw [q] at h; exact hP.exc h
  | bad => rw [q] at h; exact hP.bad h
theorem bO {f : En → S → R (Option Int)} {g : Option Int → S → R α} {k : Option Int → Hp → Prop} (hP : Pk w K W σ P) (R₀ : Rst w K pr m ρ s σ H) (h : P m H ((f ρ s).bind g))
    (hk : ∀ o s1 m1 H1, P m1 H1 (g o s1) → Ex m H m1 H1 → Rst w K pr m1 ρ s1 σ H1 → k o H1) : tO w K W pr f σ H k := by
  refine ⟨m, ρ, s, R₀, ?_⟩
  cases q : f ρ s with
  | ok d s1 =>
    rw [q] at h
    exact fun m1 H1 e st => hk d s1 m1 H1 (hP.mono e st h) e (R₀.mono e st)
  | exc C fs s' => rw [q] at h; exact hP.exc h
  | bad => rw [q] at h; exact hP.bad h
theorem bI {f : En → S → R Its} {g : Its → S → R α} {k : It → Hp → Prop} (hP : Pk w K W σ P) (R₀ : Rst w K pr m ρ s σ H) (h : P m H ((f ρ s).bind g))
    (hk : ∀ I s1 m1 J H1, P m1 H1 (g I s1) → Ex m H m1 H1 → Rst w K pr m1 ρ s1 σ H1 → WalkD w K m1 H1 J I → k J H1) : tI w K W pr f σ H k := by
  refine ⟨m, ρ, s, R₀, ?_⟩
  cases q : f ρ s with
  | ok d s1 =>
    rw [q] at h
    exact fun m1 H1 J e st rp => hk d s1 m1 J H1 (hP.mono e st h) e (R₀.mono e st) rp
  | exc C fs s' => rw [q] at h; exact hP.exc h
  | bad => rw [q] at h; exact hP.bad h
/-- to be held -/
theorem setl_ok {m0 : List Addr} {H0 : Hp} {d d' : D} {v : V} {s' : S} (e : Ex m0 H0 m H) (st : StOk w K m H s) (r : Rp w K m H d v) (fr : Fresh H0 d v) (h : setl d s = .ok d' s') :
    ∃ m', Ex m0 H0 m' H ∧ StOk w K m' H s' ∧ Rp w K m' H d' v ∧ d'.shr = true ∧ (∀ {d v}, d.shr = true → Rp w K m H d v → Rp w K m' H d v) ∧ (∀ {a : Addr}, (H0 a ≠ none → a ∉ m → a ∉ m')) ∧ (∀ a, a ∈ m' → a ∈ m ∨ ∀ fs, H a ≠ some (.xd fs)) := by
  cases d with
  | lst xs =>
    cases h
    cases r with
    | @lst ds vs a h1 h2 h3 =>
      obtain ⟨b, e1, e2⟩ := fr rfl
      cases e1
      refine ⟨m ++ [a], e.settle e2, st.settle h1 h2 h3, .ref ?_, rfl, fun z q => q.settle (by rw [h1]; exact own_lst) z, fun {c} hc hm hm' => ?_, fun c hc => ?_⟩
      · rw [← st.len]; simp
      · rcases List.mem_append.mp hm' with z | z
        · exact hm z
        · simp at z; subst z; exact hc e2
      · rcases List.mem_append.mp hc with z | z
        · exact .inl z
        · simp at z; subst z; exact .inr fun fs y => by rw [h1] at y; cases y
  | dic ks xs =>
    cases h
    cases r with
    | @dic _ ds vs a h1 h2 hl h3 =>
      obtain ⟨b, e1, e2⟩ := fr rfl
      cases e1
      have ow : Own (H a) := by rw [h1]; exact own_dK
      refine ⟨m ++ [a], e.settle e2, st.push ow h2 (ob := .dic false ks xs) ⟨vs, by rw [if_neg (by decide)]; exact h1, hl, h3⟩, .ref ?_, rfl, fun z q => q.settle ow z, fun {c} hc hm hm' => ?_, fun c hc => ?_⟩
      · rw [← st.len]; simp
      · rcases List.mem_append.mp hm' with z | z
        · exact hm z
        · simp at z; subst z; exact hc e2
      · rcases List.mem_append.mp hc with z | z
        · exact .inl z
        · simp at z; subst z; exact .inr fun fs y => by rw [h1] at y; cases y
  | fn f => cases h; exact ⟨m, e, st, r, rfl, fun _ q => q, fun _ z => z, fun _ z => .inl z⟩
  | ist xs => cases h
  | non => cases h; exact ⟨m, e, st, r, rfl, fun _ q => q, fun _ z => z, fun _ z => .inl z⟩
  | bl b => cases h; exact ⟨m, e, st, r, rfl, fun _ q => q, fun _ z => z, fun _ z => .inl z⟩
  | int b => cases h; exact ⟨m, e, st, r, rfl, fun _ q => q, fun _ z => z, fun _ z => .inl z⟩
  | str b => cases h; exact ⟨m, e, st, r, rfl, fun _ q => q, fun _ z => z, fun _ z => .inl z⟩
  | tup b => cases h; exact ⟨m, e, st, r, rfl, fun _ q => q, fun _ z => z, fun _ z => .inl z⟩
  | ref b => cases h; exact ⟨m, e, st, r, rfl, fun _ q => q, fun _ z => z, fun _ z => .inl z⟩
  | rol b => cases h; exact ⟨m, e, st, r, rfl, fun _ q => q, fun _ z => z, fun _ z => .inl z⟩
theorem setl_exc {d : D} {C fs} {s' : S} (h : setl d s = .exc C fs s') : False := by
  cases d <;> cases h
/-- the slots behind it -/
theorem Rst.setl {m' : List Addr} (R₀ : Rst w K pr m ρ s σ H) {s' : S} (st : StOk w K m' H s') (k : ∀ {d v}, d.shr = true → Rp w K m H d v → Rp w K m' H d v) (hm : ∀ a, a ∈ m' → a ∈ m ∨ ∀ fs, H a ≠ some (.xd fs)) : Rst w K pr m' ρ s' σ H := by
  refine ⟨st, R₀.len, fun i d e => ?_, fun p e => ?_⟩
  · obtain ⟨a, v, b, c⟩ := R₀.at_ i d e
    exact ⟨a, v, b, k a c⟩
  · obtain ⟨a, ⟨vs, b, c⟩, n⟩ := R₀.pin p e
    refine ⟨a, ⟨vs, b, ?_⟩, fun z => ?_⟩
    · have key : ∀ {fs vs}, Fs w K m H fs vs → Fs w K m' H fs vs := by
        intro fs vs h
        induction h with
        | nil => exact .nil
        | cons h1 h2 _ ih => exact .cons h1 (k h1 h2) ih
      exact key c
    · rcases hm _ z with z | z
      · exact n z
      · exact z _ b
/-- both -/
theorem setl_rst {m0 : List Addr} {H0 : Hp} {d d' : D} {v : V} {s' : S} (e : Ex m0 H0 m H) (R₀ : Rst w K pr m ρ s σ H) (r : Rp w K m H d v) (fr : Fresh H0 d v) (h : setl d s = .ok d' s') :
    ∃ m', Ex m0 H0 m' H ∧ Rst w K pr m' ρ s' σ H ∧ Rp w K m' H d' v ∧ d'.shr = true ∧ (∀ {d v}, d.shr = true → Rp w K m H d v → Rp w K m' H d v) ∧ (∀ {a : Addr}, (H0 a ≠ none → a ∉ m → a ∉ m')) := by
  obtain ⟨m', e1, st, r1, h1, k, k2, k3⟩ := setl_ok e R₀.st r fr h
  exact ⟨m', e1, R₀.setl st k k3, r1, h1, k, k2⟩
end
end DI

set_option Elab.async false
set_option linter.all false
set_option maxRecDepth 100000
set_option maxHeartbeats 4000000
/-! DI 7: that code over data is the text's. -/
namespace DI
open PySem PySem.Spec PyProof.Rows L2
/-- where one stands in the text: the slots, the scope that runs, which cells were made here, whether nothing is handled -/
structure Sc where
  N : List Str
  sc : Scope
  fn : Str → Bool
  calm : Bool
/-- what the module has: own defs with their parameters, constants, built-ins that it does not bind, own exceptions with their fields -/
structure Gs where
  fns : List (Str × Nat)
  cons : List Str
  free : List Str
  cls : List Str
  mks : List Str
def visB (sc : Scope) (x : Str) : Bool := match sc.names.lookup x with
  | some .local => true
  | some .cell => true
  | some .free => true
  | _ => false
def gloB (sc : Scope) (x : Str) : Bool := match sc.names.lookup x with
  | some .globalImplicit => true
  | _ => false
/-- may be stored here -/
def locB (S : Sc) (x : Str) : Bool := match S.sc.names.lookup x with
  | some .local => true
  | some .cell => S.fn x
  | _ => false
def nmB (x : Str) : Bool := !(x == ("__debug__" : Str)) && (!(x == ("__classdict__" : Str)) && !(x == ("__name__" : Str)))
def opB : BOp → Operator → Bool
  | .add, .Add => true | .sub, .Sub => true | .mul, .Mult => true | .fdiv, .FloorDiv => true | .mod, .Mod => true | .pow, .Pow => true
  | _, _ => false
def cmpB : COp → CmpOp → Bool
  | .eq, .Eq => true | .ne, .NotEq => true | .lt, .Lt => true | .le, .LtE => true | .gt, .Gt => true | .ge, .GtE => true
  | .isv, .Is => true | .isn, .IsNot => true | .inn, .In => true | .nin, .NotIn => true
  | _, _ => false
theorem opB_eq {o : BOp} {p : Operator} (h : opB o p = true) : p = opOf o := by
  cases o <;> cases p <;> first | rfl | cases h
theorem cmpB_eq {o : COp} {p : CmpOp} (h : cmpB o p = true) : p = cmpOf o := by
  cases o <;> cases p <;> first | rfl | cases h
def notStar : Expr → Bool
  | .Starred _ _ => false
  | _ => true
def notSlice : Expr → Bool
  | .Slice _ _ _ _ => false
  | _ => true
/-- no call of super() -/
def plainB : Expr → Bool
  | .Call (.Name _ _) [] [] _ => false
  | _ => true
/-- its test is its value's truth -/
def plainT : Expr → Bool
  | .UnaryOp _ _ _ => false
  | .BoolOp _ _ _ => false
  | .IfExp _ _ _ _ => false
  | .Compare _ _ _ _ => false
  | _ => true
def notSet : Expr → Bool
  | .Set _ _ _ => false
  | _ => true
def noMark (op : CmpOp) (b : Expr) : Bool := !behindInMarks op b
def chkC : D → Expr → Bool
  | .non, .Constant .none _ _ => true
  | .bl b, .Constant (.bool c) _ _ => b == c
  | .int i, .Constant (.int j) _ _ => decide (i = j)
  | .str x, .Constant (.str y) _ _ => decide (x = y)
  | _, _ => false
def IG.slots : IG → List Nat
  | .nm i => [i]
  | .tup gs => slotss gs
  | .sub _ _ => []
where slotss : List IG → List Nat
  | [] => []
  | g :: gs => g.slots ++ slotss gs
/-- a comprehension's block -/
def Sc.blk (S : Sc) (scope : Scope) : Sc := { S with sc := relS scope S.sc, fn := fun x => scope.names.lookup x == some .cell }
/-- it reads a name, a field; nothing is written -/
def purB : IE → Bool
  | .var _ => true
  | .fld e _ => purB e
  | _ => false
/-- a callee that is neither an attribute nor a star -/
def nameSub : Expr → Bool
  | .Name x _ => nmB x
  | .Subscript _ _ _ => true
  | _ => false
mutual
def chkE (G : Gs) (S : Sc) : IE → Expr → Bool
  | .con d, e => chkC d e
  | .var i, e => (match e with
    | .Name x _ => decide (S.N[i]? = some x) && (visB S.sc x && nmB x)
    | _ => false)
  | .glo x, e => (match e with
    | .Name y _ => decide (x = y) && (gloB S.sc y && (nmB y && decide (x ∈ G.cons)))
    | _ => false)
  | .bin o a b, e => (match e with
    | .BinOp x op y _ => opB o op && (chkE G S a x && chkE G S b y)
    | _ => false)
  | .neg a, e => (match e with
    | .UnaryOp .USub x _ => chkE G S a x
    | _ => false)
  | .cmp o a b, e => (match e with
    | .Compare x [op] [y] _ => cmpB o op && (noMark op y && (chkE G S a x && chkE G S b y))
    | _ => false)
  | .chain o o' a b c, e => (match e with
    | .Compare x [op, op'] [y, z] _ => cmpB o op && (cmpB o' op' && (!lastMarks [op, op'] [y, z] && (chkE G S a x && (chkE G S b y && chkE G S c z))))
    | _ => false)
  | .and a b, e => (match e with
    | .BoolOp .And (x :: y :: r) pos => chkE G S a x && (match r with
      | [] => chkE G S b y
      | _ => chkE G S b (.BoolOp .And (y :: r) pos))
    | _ => false)
  | .or a b, e => (match e with
    | .BoolOp .Or (x :: y :: r) pos => chkE G S a x && (match r with
      | [] => chkE G S b y
      | _ => chkE G S b (.BoolOp .Or (y :: r) pos))
    | _ => false)
  | .not a, e => (match e with
    | .UnaryOp .Not x _ => chkE G S a x
    | _ => false)
  | .ife t a b, e => (match e with
    | .IfExp c x y _ => chkT G S t c && (chkE G S a x && chkE G S b y)
    | _ => false)
  | .tup es, e => (match e with
    | .Tuple xs _ _ => chkEs G S es xs
    | _ => false)
  | .lst es, e => (match e with
    | .List xs _ => chkEs G S es xs
    | _ => false)
  | .ix a b, e => (match e with
    | .Subscript x y _ => notSlice y && (chkE G S a x && chkE G S b y)
    | _ => false)
  | .sl a lo hi, e => (match e with
    | .Subscript x (.Slice l h none _) _ => chkE G S a x && (chkO G S lo l && chkO G S hi h)
    | _ => false)
  | .rev a, e => (match e with
    | .Subscript x (.Slice none none (some (.UnaryOp .USub (.Constant (.int j) _ _) _)) _) _ => decide (j = 1) && chkE G S a x
    | _ => false)
  | .call f es, e => (match e with
    | .Call (.Name y _) xs [] _ => decide (f = y) && (gloB S.sc y && (nmB y && (S.calm && (decide ((f, xs.length) ∈ G.fns) && chkEs G S es xs))))
    | _ => false)
  | .blt b es, e => (match e with
    | .Call (.Name y _) (x :: xs) [] _ => decide ((bltOf b).1 = y) && (gloB S.sc y && (S.calm && (decide (y ∈ G.free) && chkEs G S es (x :: xs))))
    | _ => false)
  | .isi a t, e => (match e with
    | .Call (.Name y _) [x, .Name z _] [] _ => decide (y = "isinstance") && (gloB S.sc y && (decide (y ∈ G.free) && (decide (z = (tyNm t : String)) && (gloB S.sc z && (decide (z ∈ G.free) && (notStar x && chkE G S a x))))))
    | _ => false)
  | .mth mt o es, e => (match e with
    | .Call (.Attribute x name apos) ys [] cpos => (match mt with
      | .append => decide (name = "append") && decide (ys ≠ [])
      | .extend => decide (name = "extend") && decide (ys ≠ [])
      | .pop => decide (name = "pop") && decide (ys = [])
      | .popi => decide (name = "pop") && decide (ys ≠ [])
      | .index => false) && (plainB x && ((apos.endLine == cpos.line) && (decide (ys.length < 20) && (chkE G S o x && chkEs G S es ys))))
    | _ => false)
  | .lc own elt g it t, e => (match e with
    | .ListComp x [⟨tg, iter, ifs, k⟩] scope _ => decide (k = 0) && (S.calm && (blkC S.N S.sc scope own && (decide (∀ i ∈ g.slots, i ∈ own.map (·.2)) && (notSet iter && (chkI G S it tg iter && (chkG G (S.blk scope) g tg &&
        ((match t, ifs with
          | none, [] => true
          | some t, [c] => chkT G (S.blk scope) t c
          | _, _ => false) && chkE G (S.blk scope) elt x)))))))
    | _ => false)
  | .efld i f, e => (match e with
    | .Attribute (.Name x _) y _ => decide (S.N[i]? = some x) && (visB S.sc x && (nmB x && decide (f = y)))
    | _ => false)
  | .eisi i k, e => (match e with
    | .Call (.Name y _) [.Name x _, .Name z _] [] _ => decide (y = "isinstance") && (gloB S.sc y && (decide (y ∈ G.free) && (decide (S.N[i]? = some x) && (visB S.sc x && (nmB x && (decide (z = k) && (gloB S.sc z && nmB z)))))))
    | _ => false)
  | .any, _ => true
  | .fnv f, e => (match e with
    | .Name y _ => decide (f = y) && (gloB S.sc y && (nmB y && decide (f ∈ G.fns.map (·.1))))
    | _ => false)
  | .callx a es, e => (match e with
    | .Call f xs [] _ => S.calm && (nameSub f && (chkE G S a f && chkEs G S es xs))
    | _ => false)
  | .dct es, e => (match e with
    | .Dict ks vs _ => chkKs G S es ks vs && decide (ks.length ≤ 15)
    | _ => false)
  | .dc own k v g it t, e => (match e with
    | .DictComp x y [⟨tg, iter, ifs, k0⟩] scope _ => decide (k0 = 0) && (S.calm && (blkC S.N S.sc scope own && (decide (∀ i ∈ g.slots, i ∈ own.map (·.2)) && (notSet iter && (chkI G S it tg iter && (chkG G (S.blk scope) g tg &&
        ((match t, ifs with
          | none, [] => true
          | some t, [c] => chkT G (S.blk scope) t c
          | _, _ => false) && (chkE G (S.blk scope) k x && chkE G (S.blk scope) v y))))))))
    | _ => false)
  | .dget o es, e => (match e with
    | .Call (.Attribute x name apos) ys [] cpos => decide (name = "get") && (plainB x && ((apos.endLine == cpos.line) && (decide (1 ≤ ys.length ∧ ys.length ≤ 2) && (chkE G S o x && chkEs G S es ys))))
    | _ => false)
  | .itms b a, e => (match e with
    | .Call (.Name y _) [.Call (.Attribute x name apos) [] [] cpos] [] _ => decide (name = "items") && (gloB S.sc y && (S.calm && (decide (y ∈ G.free) && (plainB x && ((apos.endLine == cpos.line) && ((match b with
      | .tuple => decide (y = "tuple")
      | .list => decide (y = "list")
      | _ => false) && chkE G S a x))))))
    | _ => false)
  | .fld a f, e => (match e with
    | .Attribute x y _ => decide (f = y) && (plainB x && chkE G S a x)
    | _ => false)
  | .mk C es, e => (match e with
    | .Call (.Name y _) xs [] _ => decide (C = y) && (gloB S.sc y && (nmB y && (S.calm && (decide (C ∈ G.mks) && chkEs G S es xs))))
    | _ => false)
  | .mcl o m es, e => (match e with
    | .Call (.Attribute x y apos) xs [] cpos => decide (m = y) && (plainB x && ((apos.endLine == cpos.line) && (decide (xs.length < 20) && (S.calm && (chkE G S o x && chkEs G S es xs)))))
    | _ => false)
  | .lok p a, e => purB p && chkE G S a e
/-- a display's keys and values, by turns -/
def chkKs (G : Gs) (S : Sc) : List IE → List (Option Expr) → List Expr → Bool
  | [], [], [] => true
  | a :: b :: r, some k :: ks, v :: vs => chkE G S a k && (chkE G S b v && chkKs G S r ks vs)
  | _, _, _ => false
def chkEs (G : Gs) (S : Sc) : List IE → List Expr → Bool
  | [], [] => true
  | e :: es, x :: xs => notStar x && (chkE G S e x && chkEs G S es xs)
  | _, _ => false
def chkO (G : Gs) (S : Sc) : Option IE → Option Expr → Bool
  | none, none => true
  | some e, some x => chkE G S e x
  | _, _ => false
def chkT (G : Gs) (S : Sc) : IT → Expr → Bool
  | .and a b, e => (match e with
    | .BoolOp .And (x :: y :: r) pos => chkT G S a x && (match r with
      | [] => chkT G S b y
      | _ => chkT G S b (.BoolOp .And (y :: r) pos))
    | _ => false)
  | .or a b, e => (match e with
    | .BoolOp .Or (x :: y :: r) pos => chkT G S a x && (match r with
      | [] => chkT G S b y
      | _ => chkT G S b (.BoolOp .Or (y :: r) pos))
    | _ => false)
  | .not a, e => (match e with
    | .UnaryOp .Not x _ => chkT G S a x
    | _ => false)
  | .cmp o a b, e => (match e with
    | .Compare x [op] [y] _ => cmpB o op && (noMark op y && (chkE G S a x && chkE G S b y))
    | _ => false)
  | .chain o o' a b c, e => (match e with
    | .Compare x [op, op'] [y, z] _ => cmpB o op && (cmpB o' op' && (!lastMarks [op, op'] [y, z] && (chkE G S a x && (chkE G S b y && chkE G S c z))))
    | _ => false)
  | .tru a, e => plainT e && chkE G S a e
  | .any, _ => true
def chkI (G : Gs) (S : Sc) : II → Expr → Expr → Bool
  | .seq a, _, e => chkE G S a e
  | .range es, _, e => (match e with
    | .Call (.Name y _) xs [] _ => decide (y = "range") && (gloB S.sc y && (decide (y ∈ G.free) && (decide (1 ≤ xs.length ∧ xs.length ≤ 3) && chkEs G S es xs)))
    | _ => false)
  | .enum a, tg, e => (match tg with
    | .Tuple _ _ _ => (match e with
      | .Call (.Name y _) [x] [] _ => decide (y = "enumerate") && (gloB S.sc y && (decide (y ∈ G.free) && (notStar x && chkE G S a x)))
      | _ => false)
    | _ => false)
  | .any, _, _ => true
  | .dk a, _, e => chkE G S a e
  | .txt a, _, e => chkE G S a e
  | .di a, tg, e => (match tg with
    | .Tuple _ _ _ => (match e with
      | .Call (.Attribute x name apos) [] [] cpos => decide (name = "items") && (plainB x && ((apos.endLine == cpos.line) && chkE G S a x))
      | _ => false)
    | _ => false)
  | .zip a b, tg, e => (match tg with
    | .Tuple _ _ _ => (match e with
      | .Call (.Name y _) [x, z] [] _ => decide (y = "zip") && (gloB S.sc y && (decide (y ∈ G.free) && (notStar x && (notStar z && (chkE G S a x && chkE G S b z)))))
      | _ => false)
    | _ => false)
def chkG (G : Gs) (S : Sc) : IG → Expr → Bool
  | .nm i, e => (match e with
    | .Name x _ => decide (S.N[i]? = some x) && locB S x
    | _ => false)
  | .tup gs, e => (match e with
    | .Tuple xs _ _ => S.calm && chkGs G S gs xs
    | _ => false)
  | .sub o i, e => (match e with
    | .Subscript x y _ => notSlice y && (chkE G S o x && chkE G S i y)
    | _ => false)
def chkGs (G : Gs) (S : Sc) : List IG → List Expr → Bool
  | [], [] => true
  | g :: gs, x :: xs => notStar x && (chkG G S g x && chkGs G S gs xs)
  | _, _ => false
end
end DI

set_option Elab.async false
set_option linter.all false
set_option maxRecDepth 100000
set_option maxHeartbeats 4000000
/-! DI 7.5: own exceptions over ValueError and over Exception (turned from HandS.ExcInit, HandS.Exc: those know ValueError alone). -/
namespace DI
open PySem PySem.Spec PyProof.Rows L2
section
open PySem.W PySem.Calls PySem.HandSPX Builtin Builtin.ObjectAttr
abbrev exTail : List Value := [.type "Exception", .type "BaseException", .type "object"]
/-- own classes, then Exception's mro -/
def refsEX : List Value → Bool
  | .ref _ :: r => refsEX r
  | l => l == exTail
theorem refsEX_cases : ∀ l : List Value, refsEX l = true → (∃ c r, l = .ref c :: r ∧ refsEX r = true) ∨ l = exTail
  | [], e => .inr (beq_iff_eq.mp e)
  | .ref c :: r, e => .inl ⟨c, r, rfl, e⟩
  | .none :: _, e => .inr (beq_iff_eq.mp e)
  | .ellipsis :: _, e => .inr (beq_iff_eq.mp e)
  | .notImplemented :: _, e => .inr (beq_iff_eq.mp e)
  | .bool _ :: _, e => .inr (beq_iff_eq.mp e)
  | .int _ _ :: _, e => .inr (beq_iff_eq.mp e)
  | .float _ _ :: _, e => .inr (beq_iff_eq.mp e)
  | .str _ _ :: _, e => .inr (beq_iff_eq.mp e)
  | .bytes _ _ :: _, e => .inr (beq_iff_eq.mp e)
  | .type _ :: _, e => .inr (beq_iff_eq.mp e)
  | .builtin _ :: _, e => .inr (beq_iff_eq.mp e)
theorem refsEX_pass (self : Value) : ∀ l : List Value, refsEX l = true → refuseLoop self "__setattr__" l = pure () := by
  intro l
  induction l with
  | nil => intro e; exact absurd e (by decide)
  | cons a r ih =>
    intro e
    rcases refsEX_cases (a :: r) e with ⟨c, r', q, h⟩ | q
    · obtain ⟨rfl, rfl⟩ := List.cons.inj q
      rw [refuseLoop_ref]; exact ih h
    · rw [q]; exact F.store_Exception.passes self
theorem refsEX_contains (X : String) : ∀ l : List Value, refsEX l = true → l.contains (.type X) = exTail.contains (.type X) := by
  intro l
  induction l with
  | nil => intro e; exact absurd e (by decide)
  | cons a r ih =>
    intro e
    rcases refsEX_cases (a :: r) e with ⟨c, r', q, h⟩ | q
    · obtain ⟨rfl, rfl⟩ := List.cons.inj q
      rw [List.contains_cons, ih h]; rfl
    · rw [q]
/-- b: over ValueError; else over Exception -/
def mroB (b : Bool) (l : List Value) : Bool := if b = true then refsVE l else refsEX l
def newB (b : Bool) : String := if b = true then "ValueError.__new__" else "Exception.__new__"
def iniId (b : Bool) : String := if b = true then "ValueError.__init__" else "Exception.__init__"
def basB (b : Bool) : String := if b = true then "ValueError" else "Exception"
def tailB (b : Bool) : List Value := if b = true then veTail else exTail
theorem base_facts : ∀ b : Bool, ExcBaseFacts (basB b) (newB b) (iniId b) (tailB b)
  | true => F.excBase_ValueError
  | false => F.excBase_Exception
theorem mro_has {b : Bool} {l : List Value} (h : mroB b l = true) (Y : String) : l.contains (.type Y) = (tailB b).contains (.type Y) := by
  cases b
  · exact refsEX_contains Y l h
  · exact refsVE_contains Y l h
theorem mro_pass {b : Bool} {l : List Value} (h : mroB b l = true) (self : Value) : refuseLoop self "__setattr__" l = pure () := by
  cases b
  · exact refsEX_pass self l h
  · exact refsVE_pass self l h
theorem mro_ne {b : Bool} {l : List Value} (h : mroB b l = true) : l.isEmpty = false := by
  cases l with
  | nil => cases b <;> exact absurd h (by decide)
  | cons _ _ => rfl
theorem mro_ref {b : Bool} {C : Addr} {l : List Value} (h : mroB b l = true) : mroB b (.ref C :: l) = true := by
  cases b <;> exact h
theorem tail_obj : ∀ b : Bool, (tailB b).contains (.type "object") = true
  | true => by decide +kernel
  | false => by decide +kernel
section
variable {prog : Program} {w : World} {A : Around} {E : Value → Shared → Prop} {R : Result → Shared → Prop} {hp : Heap} {g : Array GenState} {d : Drawn} {t : Nat} {os : OsState}
theorem exc_osaB {K : W.Frag} {name : Str} {tk : Tok} {v : Value} {x C : Addr} {fv : Array Value} {cd : ClassData}
    (X : K.In hp) (hx : hp.get? x = some { cls := .ref C, data := .fields fv }) (hcd : W.clsIn K C = some cd) {b : Bool} (hm : mroB b cd.mro = true) (hh : cd.hasDict = true) (ha : W.findIn K (.ref C) name = some none)
    (hq : ∀ h' tk' dx, (∀ b o, b ≠ x → hp.get? b = some o → h'.get? b = some o) → hp.objs.size ≤ dx → dx ≠ x → h'.get? x = some { cls := .ref C, dict := some dx, data := .fields fv } →
      h'.Ns1 dx (fun y => if y = name then some v else none) → R (.ok (.ret .none)) ⟨h', g, d, tk', os⟩) :
    codeAny (model prog w) A (.call (.builtin "object.__setattr__") ⟨[.ref x, .str name tk, v], []⟩) R ⟨hp, g, d, t, os⟩ := by
  have I : W.InstAt hp x { cls := .ref C, data := .fields fv } C none := ⟨hx, rfl, rfl, trivial⟩
  have SF := F.store_object
  have ne := mro_ne hm
  have hob : cd.mro.contains (.type "object") = true := (mro_has hm "object").trans (tail_obj b)
  have hxs : x ≠ hp.objs.size := Nat.ne_of_lt (Heap.lt_size hx)
  have sub : W.Looks (model prog w) hp (isInstance (.ref x) (.type "object")) true := I.type.andThen (W.looks_mroIn X (by unfold W.mroIn; rw [hcd, Option.bind_some, if_neg (by rw [ne]; decide), hob]))
  refine codeAny_call_builtin SF.slot.plain SF.entry (@W.check_slot (model prog w) _ _ ⟨hp, g, d, t, os⟩ "object.__setattr__" "object" "__setattr__" (.ref x) [.str name tk, v] [] _ SF.kind SF.split sub (SF.args (.ref x) (.str name tk) v) ?_)
  have hmr : W.Looks (model prog w) hp (mroOf (.ref C)) cd.mro := (W.looks_clsIn X hcd).andThen .now
  have L3 : W.Looks (model prog w) hp (storeTaker? none) none := .now
  have hcls : W.Looks (model prog w) hp (classData C) cd := W.looks_clsIn X hcd
  rw [W.osa_eq, refuse_eq]
  refine wpAny_bind (wpAny_bind (I.type.at (wpAny_bind (hmr.at ?_))))
  rw [mro_pass hm]
  refine wpAny_pure (wpAny_bind (I.type.at (wpAny_bind ((W.looks_findIn X ha).at (wpAny_bind (L3.at ?_))))))
  show wpAny _ _ (storeInOwnDict (.ref x) (.ref C) (.str name tk) name v false) _ _ _
  obtain ⟨nm, bs, mro, ns, qn, hd, sn, sb, ab, col, del⟩ := cd
  dsimp only at hh
  subst hh
  unfold storeInOwnDict ownDictForStores
  repeat (first | with_reducible refine store_in_new ?_ ?_ | with_reducible refine wpAny_loadPart_at hx ?_ | with_reducible refine hcls.at ?_ | wp_step)
  · exact ⟨_, #[], _, (Heap.get?_update_ne _ _ _ _ hxs.symm).trans (Heap.get?_push_at rfl rfl), rfl, fun e he => absurd he (by simp), fun _ => rfl⟩
  · intro h' tk' hn' hs
    have hx₁ : (hp.push { cls := .type "dict", data := .dict #[] }).get? x = some { cls := .ref C, data := .fields fv } := Heap.get?_push_of_some _ hx
    refine hq h' tk' hp.objs.size (fun b o hb ho => ?_) (Nat.le_refl _) hxs.symm ?_ hn'
    · exact (hs.2 b (Nat.ne_of_lt (Heap.lt_size ho))).trans ((Heap.get?_update_ne _ _ _ _ hb).trans (Heap.get?_push_of_some _ ho))
    · exact (hs.2 x hxs).trans (Heap.get?_update_self _ hx₁ rfl)
/-- a further field of an exception that has its dict -/
theorem osa_oldB {K : W.Frag} {name : Str} {tk : Tok} {v : Value} {x C dx : Addr} {fv : Array Value} {cd : ClassData} {m0 : Str → Option Value} {nl : List Str}
    (X : K.In hp) (hx : hp.get? x = some { cls := .ref C, dict := some dx, data := .fields fv }) (hns : hp.Ns1 dx m0) (hw : Within m0 nl) (hz : nl.length ≤ 1000) (hcd : W.clsIn K C = some cd) {b : Bool} (hm : mroB b cd.mro = true) (hh : cd.hasDict = true)
    (ha : W.findIn K (.ref C) name = some none)
    (hq : ∀ h' tk', (∀ b o, b ≠ dx → hp.get? b = some o → h'.get? b = some o) → h'.Ns1 dx (fun y => if y = name then some v else m0 y) → R (.ok (.ret .none)) ⟨h', g, d, tk', os⟩) :
    codeAny (model prog w) A (.call (.builtin "object.__setattr__") ⟨[.ref x, .str name tk, v], []⟩) R ⟨hp, g, d, t, os⟩ := by
  obtain ⟨oD, esD, epD, hoD, hdD, _⟩ := hns.count hw
  have I : W.InstAt hp x { cls := .ref C, dict := some dx, data := .fields fv } C (some oD) := ⟨hx, rfl, rfl, hoD⟩
  have SF := F.store_object
  have ne := mro_ne hm
  have hob : cd.mro.contains (.type "object") = true := (mro_has hm "object").trans (tail_obj b)
  have sub : W.Looks (model prog w) hp (isInstance (.ref x) (.type "object")) true := I.type.andThen (W.looks_mroIn X (by unfold W.mroIn; rw [hcd, Option.bind_some, if_neg (by rw [ne]; decide), hob]))
  refine codeAny_call_builtin SF.slot.plain SF.entry (@W.check_slot (model prog w) _ _ ⟨hp, g, d, t, os⟩ "object.__setattr__" "object" "__setattr__" (.ref x) [.str name tk, v] [] _ SF.kind SF.split sub (SF.args (.ref x) (.str name tk) v) ?_)
  have hmr : W.Looks (model prog w) hp (mroOf (.ref C)) cd.mro := (W.looks_clsIn X hcd).andThen .now
  have L3 : W.Looks (model prog w) hp (storeTaker? none) none := .now
  have hcls : W.Looks (model prog w) hp (classData C) cd := W.looks_clsIn X hcd
  rw [W.osa_eq, refuse_eq]
  refine wpAny_bind (wpAny_bind (I.type.at (wpAny_bind (hmr.at ?_))))
  rw [mro_pass hm]
  refine wpAny_pure (wpAny_bind (I.type.at (wpAny_bind ((W.looks_findIn X ha).at (wpAny_bind (L3.at ?_))))))
  show wpAny _ _ (storeInOwnDict (.ref x) (.ref C) (.str name tk) name v false) _ _ _
  obtain ⟨nm, bs, mro, ns, qn, hd, sn, sb, ab, col, del⟩ := cd
  dsimp only at hh
  subst hh
  unfold storeInOwnDict ownDictForStores
  repeat (first | with_reducible refine OEX.store_in_old hns hw hz ?_ | with_reducible refine wpAny_loadPart_at hx ?_ | with_reducible refine hcls.at ?_ | wp_step)
  intro h' tk' hn' hs
  exact hq h' tk' (fun b o hb ho => (hs.2 b hb).trans ho) hn'
end
end
theorem typ_B : ∀ b : Bool, typeOf (.type (basB b)) = pure (.type "type")
  | true => by kernel_rfl
  | false => by kernel_rfl
/-- what the written part says of the class -/
structure OexA (K : PySem.W.Frag) (b : Bool) (C : Addr) : Prop where
  cls : ∃ nm q N bs bm sn sub ab col dd k0 k1 k2 k3 k5, K.lookup C = some (excClassObj nm q C N bs bm true sn sub ab col dd k0 k1 k2 k3 k5 (newB b)) ∧ mroB b bm = true
  sa : PySem.W.findIn K (.ref C) "__setattr__" = some (some (.builtin "object.__setattr__"))
  exC : PySem.W.subIn K (.ref C) (.type "BaseException") = some true
  tyC : PySem.W.typeIn K (.ref C) = some (.type "type")
  kC : PySem.W.keepIn K (.ref C) = true
section
variable {X : Cx} {pins : List (Addr × Obj)} {σ : L2.St} {H : Hp} {s : Shared} {a C dx : Addr} {f : Str} {y : V} {u : Value} {fs : List (Str × V)} {Q : Unit → Shared → Prop} {E : Value → Shared → Prop} {A : Around} {bb : Bool}
/-- self.f = y, the first one -/
theorem ost_newA (T : OexA X.K bb C) (I : Inv X pins σ H s) (e : H a = some (exo a C none)) (hno : PySem.W.findIn X.K (.ref C) f = some none) (ry : RelV y u)
    (h : ∀ dx s', H dx = none → dx ≠ a → Inv X pins σ (upd (upd H dx (exd dx [(f, y)])) a (exo a C (some dx))) s' → Q () s') : wpAny (model X.prog X.w) A (setAttr (.ref a) f u) Q E s := by
  obtain ⟨nm, q, N, bs, bm, sn, sub, ab, col, dd, k0, k1, k2, k3, k5, hC, hbm⟩ := T.cls
  have hcl : PySem.W.clsIn X.K C = some { name := nm, bases := bs, mro := .ref C :: bm, ns := N, qualname := q, hasDict := true, slotNames := sn, subclasses := sub, abstract := ab, collection := col, hasDel := false } := by unfold PySem.W.clsIn; rw [hC] <;> rfl
  obtain ⟨t1, ho⟩ := exo_at I.hok e
  obtain ⟨hp, g, d, t, os⟩ := s
  refine PySem.W.set_plain I.kIn (ox := { cls := .ref C, dict := none, data := .fields #[.ref t1, .none, .none, .none, .bool false, .none] }) (od := none) ⟨ho, rfl, rfl, trivial⟩ T.sa ?_
  refine exc_osaB I.kIn ho hcl (b := bb) (mro_ref hbm) rfl hno (fun h' tk' dx k dn dne hx hn => ?_)
  have hnd : H dx = none := I.hok.fresh dn
  have nd : ∀ {b : Addr} {o : Obj}, hp.get? b = some o → b ≠ dx := fun {b o} q => Nat.ne_of_lt (Nat.lt_of_lt_of_le (Heap.lt_size q) dn)
  have na : ∀ {b : Addr}, H b = none → b ≠ a := fun {b} n z => by
    rw [z, e] at n
    cases n
  have Un1 : Un X.fs [] H (upd (upd H dx (exd dx [(f, y)])) a (exo a C (some dx))) hp h' := {
    keep := fun b o q n _ _ => k b o (na n) q
    slot := fun b o q n _ _ => ⟨o.slots, k b o (na n) q⟩
    free := fun b o q n _ => by rw [upd_ne (na n), upd_ne (nd q)]; exact n
    there := fun b o q _ => by
      by_cases hb : b = a
      · exact ⟨_, by rw [hb]; exact hx⟩
      · exact ⟨o, k b o hb q⟩
    tups := fun b xs q => by rw [upd_ne (at_ne e q exo_tup), upd_ne (ne_of_none q hnd)]; exact q
    frzs := fun b o v q => by rw [upd_ne (at_ne e q exo_frz), upd_ne (ne_of_none q hnd)]; exact q
    tbls := fun b ps q => ⟨#[], by rw [upd_ne (at_ne e q exo_tbl), upd_ne (ne_of_none q hnd), q]; simp⟩ }
  refine h dx _ hnd dne (I.un (t' := tk') Un1 fun b o q => ?_)
  by_cases hb : b = a
  · subst hb
    rw [upd_same] at q
    cases q
    exact exo_ok hx
  · rw [upd_ne hb] at q
    by_cases hd : b = dx
    · subst hd
      rw [upd_same] at q
      cases q
      exact exd_ok hn (relO_put (fs := []) ry fun g => True.intro)
    · rw [upd_ne hd] at q
      exact (I.hok b o q).stay (fun c v hc z => k c v (by
          rcases hc with hc | hc
          · rw [hc]
            exact hb
          · exact at_ne e hc exo_own) z)
        (fun c hc => by rw [upd_ne (at_ne e hc exo_own), upd_ne (ne_of_none hc hnd)]; exact hc) (fun c xs hc => by rw [upd_ne (at_ne e hc exo_tup), upd_ne (ne_of_none hc hnd)]; exact hc)
/-- self.f = y, a further one -/
theorem ost_oldA (T : OexA X.K bb C) (I : Inv X pins σ H s) (e : H a = some (exo a C (some dx))) (ed : H dx = some (exd dx fs)) (hl : fs.length ≤ 900) (hno : PySem.W.findIn X.K (.ref C) f = some none) (ry : RelV y u)
    (h : ∀ s', Inv X pins σ (upd H dx (exd dx ((f, y) :: fs))) s' → Q () s') : wpAny (model X.prog X.w) A (setAttr (.ref a) f u) Q E s := by
  obtain ⟨nm, q, N, bs, bm, sn, sub, ab, col, dd, k0, k1, k2, k3, k5, hC, hbm⟩ := T.cls
  have hcl : PySem.W.clsIn X.K C = some { name := nm, bases := bs, mro := .ref C :: bm, ns := N, qualname := q, hasDict := true, slotNames := sn, subclasses := sub, abstract := ab, collection := col, hasDel := false } := by unfold PySem.W.clsIn; rw [hC] <;> rfl
  obtain ⟨t1, ho⟩ := exo_at I.hok e
  obtain ⟨mA, hns, rel⟩ := exd_at I.hok ed
  have hw := within_of rel
  obtain ⟨hp, g, d, t, os⟩ := s
  obtain ⟨oD, _, _, hoD, _, _⟩ := hns.count hw
  refine PySem.W.set_plain I.kIn (ox := { cls := .ref C, dict := some dx, data := .fields #[.ref t1, .none, .none, .none, .bool false, .none] }) (od := some oD) ⟨ho, rfl, rfl, hoD⟩ T.sa ?_
  refine osa_oldB I.kIn ho hns hw (by rw [List.length_map]; omega) hcl (b := bb) (mro_ref hbm) rfl hno (fun h' tk' k hn => ?_)
  have hd : ∃ o, h'.get? dx = some o := by
    obtain ⟨o, _, _, e', _⟩ := hn
    exact ⟨o, e'⟩
  exact h _ (I.write (t' := tk') (x := dx) (e := dx) (o := exd dx ((f, y) :: fs)) (by rw [ed]; exact True.intro) (.inl rfl) k hd (exd_ok hn (relO_put ry rel)))
/-- ValueError.__init__(self, ..): nothing of it is told -/
theorem oinit_okA {us : List Value} {Q : Value → Shared → Prop} (T : OexA X.K bb C) (I : Inv X pins σ H s) (e : H a = some (exo a C none)) (hl : us.length ≤ sizeLine) (h : ∀ s', Inv X pins σ H s' → Q .none s') :
    wpAny (model X.prog X.w) A (call (.builtin (iniId bb)) (.ref a :: us)) Q E s := by
  obtain ⟨nm, q, N, bs, bm, sn, sub, ab, col, dd, k0, k1, k2, k3, k5, hC, hbm⟩ := T.cls
  obtain ⟨t1, ho⟩ := exo_at I.hok e
  obtain ⟨hp, g, d, t, os⟩ := s
  refine wpAny_call (PySem.HandSPX.init_base (base_facts bb) (mro_has hbm) (I.kIn _ _ hC) ho hl fun h' t2 k hx => ?_)
  have J := I.write (t' := t) (x := a) (e := a) (o := exo a C none) (by rw [e]; exact True.intro) (.inl rfl) k ⟨_, hx⟩ (exo_ok hx)
  have eu : upd H a (exo a C none) = H := by
    funext b
    by_cases hb : b = a
    · rw [hb, upd_same, e]
    · rw [upd_ne hb]
  rw [eu] at J
  exact h _ J
end
/-- Base.__init__(self, ..) -/
def tVeA (K : PySem.W.Frag) (b : Bool) (ta : TA) : TE := fun σ H Q => ta σ H fun vs H1 => ∃ (a C : Addr) (ws : List V), vs = .ref a :: ws ∧ ws.length ≤ 1000 ∧ OexA K b C ∧ H1 a = some (exo a C none) ∧ Q .non H1
/-- self.f = e -/
def tOstA (K : PySem.W.Frag) (b : Bool) (f : Str) (to te : TE) : TS := fun D σ H => te σ H fun y H1 => to σ H1 fun x H2 => ∃ a C : Addr, x = .ref a ∧ OexA K b C ∧ PySem.W.findIn K (.ref C) f = some none ∧
  ((H2 a = some (exo a C none) ∧ ∀ dx, H2 dx = none → dx ≠ a → D.nx σ (upd (upd H2 dx (exd dx [(f, y)])) a (exo a C (some dx)))) ∨
    ∃ (dx : Addr) (fs : List (Str × V)), H2 a = some (exo a C (some dx)) ∧ H2 dx = some (exd dx fs) ∧ fs.length ≤ 900 ∧ D.nx σ (upd H2 dx (exd dx ((f, y) :: fs))))
section
variable {X : Cx} {o e : Expr} {es : List Expr} {to te : TE} {ta : TA} {f : Str} {p p' p1 p2 pos : Pos} {bb : Bool}
theorem ps_ostA (ho : PE X o to) (he : PE X e te) (hs : swapsWith e (some (.Attribute o f p')) pos.line X.env = pure false) : PS X (.Assign [.Attribute o f p'] e pos) (tOstA X.K bb f to te) := by
  refine ⟨fun pins s σ H D I h => ?_⟩
  refine plainObj_wpAny_Assign_Attribute (thn (he.run pins s σ H _ I h) fun v s1 ⟨y, H1, I1, r1, q1⟩ => thn (ho.run pins s1 σ H1 _ I1 q1) fun u s2 ⟨x, H2, I2, r2, a, C, ex, T, hno, q⟩ => ?_) hs
  subst ex
  obtain rfl : u = Value.ref a := r2
  rcases q with ⟨ea, q⟩ | ⟨dx, fs, ea, ed, hl, q⟩
  · exact ost_newA T I2 ea hno r1 fun dx s' n ne J => ⟨σ, _, J, q dx n ne⟩
  · exact ost_oldA T I2 ea ed hl hno r1 fun s' J => ⟨σ, _, J, q⟩
theorem mk_endA {pins : List (Addr × Obj)} {σ : L2.St} {H1 H2 : Hp} {Q : XK} {hp hp2 h2 : Heap} {g1 g2 : Array GenState} {d1 d2 : Drawn} {t1 t2 : Nat} {os1 os2 : OsState} {a C d : Addr} {fs : List (Str × V)} (T : Raises X (.ref C)) (I1 : Inv X pins σ H1 ⟨hp, g1, d1, t1, os1⟩)
    (ha : hp.objs.size ≤ a) (k : ∀ b o, hp.get? b = some o → hp2.get? b = some o) (un : Un (frs X.stack) [] (upd H1 a (exo a C none)) H2 hp2 h2) (hok : HOk X.prog X.w H2 h2) (ho : os2 = os1) (hb : AllBare g2)
    (ea : H2 a = some (exo a C (some d))) (ed : H2 d = some (exd d fs)) (hd1 : H1 d = none) (q : Q (.ref C) (some d) (upd (del H2 a) d (.xd fs))) : MkP X pins σ Q (.ref a) ⟨h2, g2, d2, t2, os2⟩ := by
  obtain ⟨t0, G, J, kG, ge, hoe, na⟩ := mk_end0 (d2 := d2) (t2 := t2) I1 ha k un hok ho hb ea ed hd1
  exact ⟨a, _, _, ⟨G, g2, d2, t2, os2⟩, _, .ref C, some d, rfl, J, kG, ge, hoe, ⟨rfl, rfl⟩, rfl, rfl, na, rfl, hb, T, q⟩
theorem pmk_oexA {CX : CXT} {x : Str} {C fI : Addr} {k : Nat} {fd : FuncData} {ps : List Str} {sp : Sp} {ds : List Value} {dvs : List V} (T : OexA X.K bb C) (iC : PySem.W.findIn X.K (.ref C) "__init__" = some (some (.ref fI))) (tI : PySem.W.typeIn X.K (.ref fI) = some (.type "function"))
    (F1 : FnOk X.prog X.w X.K X.mg X.base CX k fI fd ps sp) (hr : Room (k + 1) X.A) (hb : Binds X.K fd ps ds) (hd : Vals dvs ds) (hx : Passes CX X (fun _ _ _ => False)) (hg : Gl X x) (hm : X.mg x = some (.ref C)) (ha : PA X (e :: es) ta)
    (hdb : (x == ("__debug__" : Str)) = false := by decide) (he : starEach (e :: es) X.env = (false, eval e X.env) :: starEach es X.env := by rfl) (hpl : (backTo pos (starEach es X.env)).any (·.1) = false := by rfl) :
    PMk X (.Call (.Name x p) (e :: es) [] pos) (tMkO C sp dvs ta) := by
  intro pins s σ H Q I h
  obtain ⟨nm, q, N, bs, bm, sn, sub, ab, col, dd, k0, k1, k2, k3, k5, hC, hbm⟩ := T.cls
  refine wpAny_Call_Name_kw (ld_glob I hg hm ?_ hdb)
  refine PySem.W.callWith_K (h₀ := X.base) I.ok.mod.kin T.kC (thn (ha.run pos pins s σ H _ I h) fun us s1 ⟨vs, H1, I1, r1, hz, q1⟩ => ⟨I1.kIn, ?_⟩) he hpl
  show wpAny _ _ (call (.ref C) us) _ _ _
  obtain ⟨hp, g, dr, tk, os⟩ := s1
  have hsz : hp.objs.size ≤ hp.objs.size + 1 := Nat.le_succ _
  have hn : H1 (hp.objs.size + 1) = none := I1.hok.fresh hsz
  have hq := q1 (hp.objs.size + 1) hn
  have kk : ∀ b o, hp.get? b = some o → ((hp.push (PySem.W.kdv_tup us)).push (PySem.HandSPX.excO C hp.objs.size)).get? b = some o := fun b o e => Heap.get?_push_of_some _ (Heap.get?_push_of_some _ e)
  have hget : ((hp.push (PySem.W.kdv_tup us)).push (PySem.HandSPX.excO C hp.objs.size)).get? (hp.objs.size + 1) = some (PySem.HandSPX.excO C hp.objs.size) := by heap_get
  have I2 : Inv X pins σ (upd H1 (hp.objs.size + 1) (exo (hp.objs.size + 1) C none)) ⟨(hp.push (PySem.W.kdv_tup us)).push (PySem.HandSPX.excO C hp.objs.size), g, dr, tk, os⟩ :=
    I1.laid (t' := tk) (a := hp.objs.size + 1) (o := exo (hp.objs.size + 1) C none) (h' := (hp.push (PySem.W.kdv_tup us)).push (PySem.HandSPX.excO C hp.objs.size)) kk hsz (exo_ok hget)
  have r2 : Vals (V.ref (hp.objs.size + 1) :: (vs ++ dvs)) (Value.ref (hp.objs.size + 1) :: (us ++ ds)) := .cons rfl (r1.append hd)
  have hl : (Value.ref (hp.objs.size + 1) :: us ++ ds).length = ps.length := by
    have e := r2.length
    rw [F1.len _ _ _ _ hq] at e
    exact e.symm
  have hus : us.length ≤ sizeLine := by
    rw [← Paired.length r1, sizeLine_eq]
    omega
  refine wpAny_call (PySem.HandSPX.call_own (base_facts bb) (mro_has hbm) (I1.kIn _ _ hC) (PySem.W.looks_findIn I1.kIn iC) (fun self => PySem.W.bind_fn I1.kIn self tI) hus
    (codeAny_mono (F1.run _ X.stack _ _ ⟨Value.ref (hp.objs.size + 1) :: us, []⟩ (Value.ref (hp.objs.size + 1) :: (us ++ ds)) _ _ (fun _ _ _ => False) (hr.make C us []) (I2.env0.make C us []) (hb _ (Value.ref (hp.objs.size + 1) :: us) I2.kIn hl) r2 hq) fun r s' hq' => ?_))
  cases r with
  | error er => exact hx pins σ _ _ er s' I2 hq'
  | ok fl =>
    cases fl with
    | ret u =>
      obtain ⟨v, H2, os2, bare2, un2, hok2, rv, ev, d, fs, ea, ed, hd1, q2⟩ := hq'
      subst ev
      obtain ⟨h2, g2, d2, t2, os'⟩ := s'
      exact ⟨rv, mk_endA (raises_own T.exC T.tyC) I1 hsz kk un2 hok2 os2 bare2 ea ed hd1 q2⟩
    | next => exact False.elim hq'
    | brk => exact False.elim hq'
    | cont => exact False.elim hq'
end
end DI

set_option Elab.async false
set_option linter.all false
set_option maxRecDepth 100000
set_option maxHeartbeats 4000000
/-! DI 8: the text does what the code over data does: expressions. -/
namespace DI
open PySem PySem.Spec PyProof.Rows L2
/-- a def's promise, by data -/
def spF (w : World) (K : PySem.W.Frag) (n : Nat) (f : List D → S → R D) : Sp := fun vs H Q E => ∃ m s ds, StOk w K m H s ∧ Rps w K m H ds vs ∧ ds.length = n ∧ PostE w K (fun cls d _ H => E cls d H) [] m H Q (f ds s)
/-- what the written part says of an own exception with fields fl -/
structure ExcK (K : PySem.W.Frag) (C : Str) (fl : List Str) : Prop where
  xf : XfC K (He.ga K C)
  no : ∀ f ∈ fl, PySem.W.findIn K (.ref (He.ga K C)) f = some none
  ox : ∃ b, OexA K b (He.ga K C)
/-- the class that a name tells -/
def ClsV (mg : Str → Option Value) (k : Str) (c : Value) : Prop := (mg k = some c ∧ ∃ a, c = .ref a) ∨ (mg k = none ∧ bootBuiltins k = some c ∧ ∃ T, c = .type T)
/-- an own exception's __init__: the fields are stored -/
def spX (K : PySem.W.Frag) (C : Str) (fl : List Str) : Sp := fun us H Q E => ∃ a vs, us = .ref a :: vs ∧ vs.length = fl.length ∧ H a = some (exo a (He.ga K C) none) ∧
  ∀ dx, H dx = none → dx ≠ a → Q .non (upd (upd H dx (exd dx (fl.zip vs).reverse)) a (exo a (He.ga K C) (some dx)))
structure XOk (G : Gs) (q : Rq) (S : Sc) (W : WX) (pr : Option Hdp) (X : Cx) : Prop where
  N : X.N = S.N
  nd : S.N.Nodup
  sc : X.env.scope = S.sc
  fn : X.fn = S.fn
  tk : Takes X W
  hu : X.A.units + 65 < cLine
  cal : S.calm = true → X.calm = true ∧ pr = none
  free : ∀ x ∈ G.free, X.mg x = none
  cons : ∀ x ∈ G.cons, ∃ d u v, q.gl x = some d ∧ X.mg x = some u ∧ RelV v u ∧ d.shr = true ∧ ∀ m H, Rp X.w X.K m H d v
  fns : S.calm = true → ∀ f n, (f, n) ∈ G.fns → ∃ (fa : Addr) (fd : FuncData) (ps : List Str) (k : Nat), FnOk X.prog X.w X.K X.mg X.base (L2.CX X.prog X.w) k fa fd ps (spF X.w X.K n (q.c f)) ∧ Room k X.A ∧
    X.mg f = some (.ref fa) ∧ PySem.W.keepIn X.K (.ref fa) = true ∧ Binds X.K fd ps [] ∧ ps.length = n
  fnv : ∀ f ∈ G.fns.map (·.1), X.mg f = some (.ref (He.ga X.K f))
  isf : S.calm = true → ∀ f, q.isf f = true → ∃ (fd : FuncData) (ps : List Str) (k n : Nat), FnOk X.prog X.w X.K X.mg X.base (L2.CX X.prog X.w) k (He.ga X.K f) fd ps (spF X.w X.K n (q.c f)) ∧ Room k X.A ∧
    PySem.W.keepIn X.K (.ref (He.ga X.K f)) = true ∧ Binds X.K fd ps [] ∧ ∀ ds s, ds.length ≠ n → q.c f ds s = .bad
  mt : S.calm = true → ∀ C m f, q.mt C m = some f → ∃ (fa : Addr) (fd : FuncData) (ps : List Str) (k n : Nat), FnOk X.prog X.w X.K X.mg X.base (L2.CX X.prog X.w) k fa fd ps (spF X.w X.K n (q.c f)) ∧ Room k X.A ∧
    Cls X.K (He.ga X.K C) ∧ Meth X.K (He.ga X.K C) m fa ∧ Binds X.K fd ps [] ∧ ∀ ds s, ds.length ≠ n → q.c f ds s = .bad
  cf : ∀ C f, q.cf C f = true → Cls X.K (He.ga X.K C) ∧ NoAttr X.K (He.ga X.K C) f
  mki : S.calm = true → ∀ C ∈ G.mks, ∃ f, q.mkI C = some f ∧ ∃ (fI : Addr) (fd : FuncData) (ps : List Str) (k n : Nat), Mk X.K (He.ga X.K C) fI ∧ FnOk X.prog X.w X.K X.mg X.base (L2.CX X.prog X.w) k fI fd ps (spF X.w X.K n (q.c f)) ∧ Room (k + 1) X.A ∧
    X.mg C = some (.ref (He.ga X.K C)) ∧ Binds X.K fd ps [] ∧ ∀ ds s, ds.length ≠ n → q.c f ds s = .bad
  po : PassesOwn (model X.prog X.w) X.A X.env X.xe
  hd : q.hd = pr.map fun p => (p.i, p.C, p.fs)
  xk : ∀ C fl, q.ex C = some fl → ExcK X.K C fl
  cl : ∀ k ∈ G.cls, ∃ c, ClsV X.mg k c
  ix : ∀ C k b, q.isx C k = some b → ExcC X.K (He.ga X.K C) ∧ ∃ c, ClsV X.mg k c ∧ PySem.W.exmOne X.K (.ref (He.ga X.K C)) c = some b ∧ PySem.W.kitOne X.K (.ref (He.ga X.K C)) c = some b
  mkx : S.calm = true → ∀ C fl, q.ex C = some fl → ∃ (fI : Addr) (fd : FuncData) (ps : List Str) (k : Nat), PySem.W.findIn X.K (.ref (He.ga X.K C)) "__init__" = some (some (.ref fI)) ∧ PySem.W.typeIn X.K (.ref fI) = some (.type "function") ∧
    FnOk X.prog X.w X.K X.mg X.base (L2.CX X.prog X.w) k fI fd ps (spX X.K C fl) ∧ Room (k + 1) X.A ∧ Binds X.K fd ps [] ∧ X.mg C = some (.ref (He.ga X.K C))
  su : ∀ p, pr = some p → ∃ (X0 : Cx) (oe : Obj) (pn : List (Addr × Obj)), X = X0.suite p.a ((p.a, oe) :: pn) ∧ Zc (.ref (He.ga X.K p.C)) (some p.dx) oe ∧ ∃ vs, oe.data = .fields vs
section
variable {G : Gs} {q : Rq} {Z : Sc} {W : WX} {pr : Option Hdp} {X : Cx}
theorem visB_ok (x : XOk G q Z W pr X) {n : Str} (h : visB Z.sc n = true) : Vis X.env.scope n := by
  rw [x.sc]
  unfold visB at h
  unfold Vis
  split at h <;> first | (rename_i e; rw [e]; simp) | cases h
theorem gloB_ok (x : XOk G q Z W pr X) {n : Str} (h : gloB Z.sc n = true) : Gl X n := by
  show X.env.scope.names.lookup n = some .globalImplicit
  rw [x.sc]
  unfold gloB at h
  split at h <;> first | assumption | cases h
theorem nmB_ok {n : Str} (h : nmB n = true) : (n == ("__debug__" : Str)) = false ∧ (n == ("__classdict__" : Str)) = false ∧ n ≠ "__name__" := by
  unfold nmB at h
  simp only [Bool.and_eq_true, Bool.not_eq_true', ] at h
  exact ⟨h.1, h.2.1, fun z => by rw [z] at h; simp at h⟩
theorem star_cons {e : Expr} {es : List Expr} {env : Env} (h : notStar e = true) : starEach (e :: es) env = (false, eval e env) :: starEach es env := by
  cases e <;> first | rfl | cases h
theorem star_any {es : List Expr} {env : Env} {pos : Pos} (h : es.all notStar = true) : (backTo pos (starEach es env)).any (·.1) = false := by
  induction es with
  | nil => rfl
  | cons e es ih =>
    rw [List.all_cons, Bool.and_eq_true] at h
    rw [star_cons h.1]
    show (false || (backTo pos (starEach es env)).any (·.1)) = false
    rw [ih h.2]; rfl
theorem chkEs_star : ∀ {es : List IE} {xs : List Expr}, chkEs G Z es xs = true → xs.all notStar = true ∧ xs.length = es.length
  | [], [], _ => ⟨rfl, rfl⟩
  | e :: es, x :: xs, h => by
    unfold chkEs at h
    simp only [Bool.and_eq_true] at h
    obtain ⟨h1, h2⟩ := chkEs_star h.2.2
    exact ⟨by rw [List.all_cons, h.1, h1]; rfl, by simp [h2]⟩
  | [], _ :: _, h => by unfold chkEs at h; cases h
  | _ :: _, [], h => by unfold chkEs at h; cases h
theorem attr_plain {e : Expr} {f : Str} {env : Env} {wh : Sem Value} (h : plainB e = true) : attributeBase e f env wh = wh := by
  unfold attributeBase
  split
  · cases h
  · rfl
theorem chkKs_len : ∀ {es : List IE} {ks : List (Option Expr)} {vs : List Expr}, chkKs G Z es ks vs = true → ks.all (·.isSome) = true ∧ ks.length = vs.length
  | [], [], [], _ => ⟨rfl, rfl⟩
  | _ :: _ :: r, some k :: ks, v :: vs, h => by
    unfold chkKs at h
    simp only [Bool.and_eq_true] at h
    obtain ⟨h1, h2⟩ := chkKs_len h.2.2
    exact ⟨by rw [List.all_cons, h1]; rfl, by simp [h2]⟩
  | [], _ :: _, _, h => by unfold chkKs at h; cases h
  | [], [], _ :: _, h => by unfold chkKs at h; cases h
  | [_], _, _, h => by unfold chkKs at h; cases h
  | _ :: _ :: _, [], _, h => by unfold chkKs at h; cases h
  | _ :: _ :: _, none :: _, _, h => by unfold chkKs at h; cases h
  | _ :: _ :: _, some _ :: _, [], h => by unfold chkKs at h; cases h
theorem chkC_ok {d : D} {e : Expr} (h : chkC d e = true) : PE X e (tD X.w X.K W pr fun _ s => .ok d s) := by
  unfold chkC at h
  split at h
  · exact PE.imp pe_non fun σ H Q ⟨m, ρ, s, R, p⟩ => post_same p R.st .non rfl
  · rw [beq_iff_eq] at h; subst h
    exact PE.imp pe_bl fun σ H Q ⟨m, ρ, s, R, p⟩ => post_same p R.st (.bl _) rfl
  · have h := of_decide_eq_true h; subst h
    exact PE.imp pe_int fun σ H Q ⟨m, ρ, s, R, p⟩ => post_same p R.st (.int _) rfl
  · have h := of_decide_eq_true h; subst h
    exact PE.imp pe_str fun σ H Q ⟨m, ρ, s, R, p⟩ => post_same p R.st (.str _) rfl
  · cases h
theorem plainIx_ok {e : Expr} (h : notSlice e = true) : PlainIx e := by
  cases e <;> first | (intro o i; rfl) | cases h
theorem truth_ok {e : Expr} (h : plainT e = true) (env : Env) : ∀ whole, isTrue e env whole = (do let v ← whole; standAt e.pos; holding [v] (truthy v)) := by
  intro wh
  cases e <;> first | rfl | cases h
theorem var_ok {i : Nat} {n : Str} {pos : Pos} (x : XOk G q Z W pr X) (h1 : Z.N[i]? = some n) (h2 : visB Z.sc n = true) (h3 : nmB n = true) : PE X (.Name n pos) (tD X.w X.K W pr (runE q (.var i))) := by
  obtain ⟨n1, n2, _⟩ := nmB_ok h3
  refine PE.imp (pe_var (i := i) (by rw [x.N]; exact h1) (visB_ok x h2) n1 n2) fun σ H Q ⟨m, ρ, s, R, p⟩ => ?_
  unfold runE at p
  split at p
  · rename_i d e
    obtain ⟨hs, v, e2, r⟩ := R.at_ i d e
    exact ⟨v, e2, post_same p R.st r hs⟩
  · exact p.elim
theorem glo_ok {n : Str} {pos : Pos} (x : XOk G q Z W pr X) (h1 : gloB Z.sc n = true) (h2 : nmB n = true) (h3 : n ∈ G.cons) : PE X (.Name n pos) (tD X.w X.K W pr (runE q (.glo n))) := by
  obtain ⟨d, u, v, e1, e2, rv, hs, r⟩ := x.cons n h3
  refine PE.imp (pe_glob (gloB_ok x h1) e2 rv (nmB_ok h2).1) fun σ H Q ⟨m, ρ, s, R, p⟩ => ?_
  unfold runE at p
  rw [e1] at p
  exact post_same p R.st (r m H) hs
/-- a comparison by data -/
theorem cmp_k {w : World} {K : PySem.W.Frag} {σ : L2.St} {m : List Addr} {H : Hp} {s : S} {α : Type} {P : List Addr → Hp → R α → Prop} (hP : Pk w K W σ P) {o : COp} {a b : D} {x y : V} {g : Bool → S → R α} {k : VK} (st : StOk w K m H s) (ra : Rp w K m H a x) (rb : Rp w K m H b y)
    (p : P m H ((cmpD o a b s).bind g)) (hk : ∀ c, P m H (g c s) → k (.bl c) H) : rCmp w K o x y H k := by
  cases e : cmpD o a b s with
  | ok c s' =>
    obtain ⟨e1, rfl⟩ := cmp_some e
    rw [e] at p
    exact ⟨m, s', a, b, c, st, ra, rb, e1, hk c p⟩
  | exc C fs s' => exact (cmp_exc e).elim
  | bad => rw [e] at p; exact (hP.bad p).elim
theorem cmp_kT {w : World} {K : PySem.W.Frag} {σ : L2.St} {m : List Addr} {H : Hp} {s : S} {Q : Bool → Hp → Prop} {o : COp} {a b : D} {x y : V} {k : VK} (st : StOk w K m H s) (ra : Rp w K m H a x) (rb : Rp w K m H b y)
    (p : PostT w K W σ m H Q (cmpD o a b s)) (hk : ∀ c, PostT w K W σ m H Q (.ok c s) → k (.bl c) H) : rCmp w K o x y H k := by
  cases e : cmpD o a b s with
  | ok c s' =>
    obtain ⟨e1, rfl⟩ := cmp_some e
    rw [e] at p
    exact ⟨m, s', a, b, c, st, ra, rb, e1, hk c p⟩
  | exc C fs s' => exact (cmp_exc e).elim
  | bad => rw [e] at p; exact p.elim
theorem ite_t {A B : Prop} {k : Bool} (h1 : k = true → A) (h2 : k = false → B) : if k = true then A else B := by
  cases k
  · rw [if_neg (by decide)]; exact h2 rfl
  · rw [if_pos rfl]; exact h1 rfl
theorem bin_ok {o : BOp} {a b : IE} {x y : Expr} {pos : Pos} (ha : PE X x (tD X.w X.K W pr (runE q a))) (hb : PE X y (tD X.w X.K W pr (runE q b))) : PE X (.BinOp x (opOf o) y pos) (tD X.w X.K W pr (runE q (.bin o a b))) :=
  PE.imp (pe_op (op_bin o) ha hb) fun σ H Q ⟨m, ρ, s, R, p⟩ => bE pkE R p fun d s1 m1 v H1 p1 e1 R1 r1 f1 => bE pkE R1 p1 fun d2 s2 m2 v2 H2 p2 e2 R2 r2 f2 => binD_ok R2.st (r1.mono e2) r2 p2
theorem cmpE_ok {o : COp} {a b : IE} {x y : Expr} {pos : Pos} (hu : X.A.units + 65 < cLine) (hm : behindInMarks (cmpOf o) y = false) (ha : PE X x (tD X.w X.K W pr (runE q a))) (hb : PE X y (tD X.w X.K W pr (runE q b))) :
    PE X (.Compare x [cmpOf o] [y] pos) (tD X.w X.K W pr (runE q (.cmp o a b))) :=
  PE.imp (pe_cmpR (op_cmp hu o) ha hb hm) fun σ H Q ⟨m, ρ, s, R, p⟩ => bE pkE R p fun d s1 m1 v H1 p1 e1 R1 r1 f1 => bE pkE R1 p1 fun d2 s2 m2 v2 H2 p2 e2 R2 r2 f2 =>
    cmp_k pkE R2.st (r1.mono e2) r2 p2 fun c p3 => post_same p3 R2.st (.bl c) rfl
theorem chainE_ok {o o' : COp} {a b c : IE} {x y z : Expr} {pos : Pos} (hu : X.A.units + 65 < cLine) (hm : lastMarks [cmpOf o, cmpOf o'] [y, z] = false) (ha : PE X x (tD X.w X.K W pr (runE q a))) (hb : PE X y (tD X.w X.K W pr (runE q b)))
    (hc : PE X z (tD X.w X.K W pr (runE q c))) : PE X (.Compare x [cmpOf o, cmpOf o'] [y, z] pos) (tD X.w X.K W pr (runE q (.chain o o' a b c))) :=
  PE.imp (pe_chain (op_cmp hu o) (op_cmp hu o') ha hb hc hm) fun σ H Q ⟨m, ρ, s, R, p⟩ => bE pkE R p fun d s1 m1 v H1 p1 e1 R1 r1 f1 => bE pkE R1 p1 fun d2 s2 m2 v2 H2 p2 e2 R2 r2 f2 =>
    cmp_k pkE R2.st (r1.mono e2) r2 p2 fun k p3 => ⟨k, rfl, ite_t (fun hk => by
      rw [if_pos hk] at p3
      exact bE pkE R2 p3 fun d3 s3 m3 v3 H3 p4 e3 R3 r3 f3 => cmp_k pkE R3.st (r2.mono e3) r3 p4 fun c p5 => post_same p5 R3.st (.bl c) rfl) fun hk => by
      rw [if_neg (by rw [hk]; decide)] at p3
      exact post_same p3 R2.st (.bl false) rfl⟩
theorem chainT_ok {o o' : COp} {a b c : IE} {x y z : Expr} {pos : Pos} (hu : X.A.units + 65 < cLine) (hm : lastMarks [cmpOf o, cmpOf o'] [y, z] = false) (ha : PE X x (tD X.w X.K W pr (runE q a))) (hb : PE X y (tD X.w X.K W pr (runE q b)))
    (hc : PE X z (tD X.w X.K W pr (runE q c))) : PT X (.Compare x [cmpOf o, cmpOf o'] [y, z] pos) (tT X.w X.K W pr (runT q (.chain o o' a b c))) :=
  PT.imp (pt_chain (op_cmp hu o) (op_cmp hu o') ha hb hc hm) fun σ H Q ⟨m, ρ, s, R, p⟩ => bE pkT R p fun d s1 m1 v H1 p1 e1 R1 r1 f1 => bE pkT R1 p1 fun d2 s2 m2 v2 H2 p2 e2 R2 r2 f2 =>
    cmp_k pkT R2.st (r1.mono e2) r2 p2 fun k p3 => ⟨k, rfl, ite_t (fun hk => by
      rw [if_pos hk] at p3
      exact bE pkT R2 p3 fun d3 s3 m3 v3 H3 p4 e3 R3 r3 f3 => cmp_kT R3.st (r2.mono e3) r3 p4 fun c p5 => ⟨c, rfl, p5 m3 H3 .refl R3.st⟩) fun hk => by
      rw [if_neg (by rw [hk]; decide)] at p3
      exact ⟨false, rfl, p3 m2 H2 .refl R2.st⟩⟩
theorem cmpT_ok {o : COp} {a b : IE} {x y : Expr} {pos : Pos} (hu : X.A.units + 65 < cLine) (hm : behindInMarks (cmpOf o) y = false) (ha : PE X x (tD X.w X.K W pr (runE q a))) (hb : PE X y (tD X.w X.K W pr (runE q b))) :
    PT X (.Compare x [cmpOf o] [y] pos) (tT X.w X.K W pr (runT q (.cmp o a b))) :=
  PT.imp (pt_cmpR (op_cmp hu o) ha hb hm) fun σ H Q ⟨m, ρ, s, R, p⟩ => bE pkT R p fun d s1 m1 v H1 p1 e1 R1 r1 f1 => bE pkT R1 p1 fun d2 s2 m2 v2 H2 p2 e2 R2 r2 f2 =>
    cmp_kT R2.st (r1.mono e2) r2 p2 fun c p3 => ⟨c, rfl, p3 m2 H2 .refl R2.st⟩
theorem andE_ok {a b : IE} {x y : Expr} {r : List Expr} {pos : Pos} (ha : PE X x (tD X.w X.K W pr (runE q a))) (hb : PE X (.BoolOp .And (y :: r) pos) (tD X.w X.K W pr (runE q b))) :
    PE X (.BoolOp .And (x :: y :: r) pos) (tD X.w X.K W pr (runE q (.and a b))) :=
  PE.imp (pe_and ha hb) fun σ H Q ⟨m, ρ, s, R, p⟩ => bE pkE R p fun d s1 m1 v H1 p1 e1 R1 r1 f1 => by
    split at p1
    · cases r1; exact ⟨true, rfl, by rw [if_pos rfl]; exact ⟨m1, ρ, s1, R1, p1⟩⟩
    · cases r1; exact ⟨false, rfl, by rw [if_neg (by decide)]; exact post_same p1 R1.st (.bl false) rfl⟩
    · exact p1.elim
theorem orE_ok {a b : IE} {x y : Expr} {r : List Expr} {pos : Pos} (ha : PE X x (tD X.w X.K W pr (runE q a))) (hb : PE X (.BoolOp .Or (y :: r) pos) (tD X.w X.K W pr (runE q b))) :
    PE X (.BoolOp .Or (x :: y :: r) pos) (tD X.w X.K W pr (runE q (.or a b))) :=
  PE.imp (pe_or ha hb) fun σ H Q ⟨m, ρ, s, R, p⟩ => bE pkE R p fun d s1 m1 v H1 p1 e1 R1 r1 f1 => by
    split at p1
    · cases r1; exact ⟨true, rfl, by rw [if_pos rfl]; exact post_same p1 R1.st (.bl true) rfl⟩
    · cases r1; exact ⟨false, rfl, by rw [if_neg (by decide)]; exact ⟨m1, ρ, s1, R1, p1⟩⟩
    · exact p1.elim
theorem notE_ok {a : IE} {x : Expr} {pos : Pos} (ha : PE X x (tD X.w X.K W pr (runE q a))) : PE X (.UnaryOp .Not x pos) (tD X.w X.K W pr (runE q (.not a))) :=
  PE.imp (pe_not ha) fun σ H Q ⟨m, ρ, s, R, p⟩ => bE pkE R p fun d s1 m1 v H1 p1 e1 R1 r1 f1 => by
    split at p1
    · cases r1; exact ⟨_, rfl, post_same p1 R1.st (.bl _) rfl⟩
    · exact p1.elim
theorem negE_ok {a : IE} {x : Expr} {pos : Pos} (ha : PE X x (tD X.w X.K W pr (runE q a))) : PE X (.UnaryOp .USub x pos) (tD X.w X.K W pr (runE q (.neg a))) :=
  PE.imp (pe_un un_neg ha) fun σ H Q ⟨m, ρ, s, R, p⟩ => bE pkE R p fun d s1 m1 v H1 p1 e1 R1 r1 f1 => by
    split at p1
    · cases r1; exact ⟨_, rfl, post_same p1 R1.st (.int _) rfl⟩
    · exact p1.elim
theorem ifeE_ok {t : IT} {a b : IE} {c x y : Expr} {pos : Pos} (ht : PT X c (tT X.w X.K W pr (runT q t))) (ha : PE X x (tD X.w X.K W pr (runE q a))) (hb : PE X y (tD X.w X.K W pr (runE q b))) :
    PE X (.IfExp c x y pos) (tD X.w X.K W pr (runE q (.ife t a b))) :=
  PE.imp (pe_ifExp ht ha hb) fun σ H Q ⟨m, ρ, s, R, p⟩ => bT pkE R p fun k s1 m1 H1 p1 e1 R1 => ite_t (fun hk => by rw [if_pos hk] at p1; exact ⟨m1, ρ, s1, R1, p1⟩) fun hk => by rw [if_neg (by rw [hk]; decide)] at p1; exact ⟨m1, ρ, s1, R1, p1⟩
theorem tupE_ok {es : List IE} {xs : List Expr} {k : Nat} {pos : Pos} (h : PA X xs (tA X.w X.K W pr (runEs q es))) : PE X (.Tuple xs k pos) (tD X.w X.K W pr (runE q (.tup es))) :=
  PE.imp (pe_tup h) fun σ H Q ⟨m, ρ, s, R, p⟩ => bA pkE R p fun ds s1 m1 vs H1 p1 e1 R1 r1 => by
    split at p1
    · rename_i hz; exact ⟨by rw [r1.length]; exact hz, post_tup p1 R1.st r1⟩
    · exact p1.elim
theorem lstE_ok {es : List IE} {xs : List Expr} {pos : Pos} (h : PA X xs (tA X.w X.K W pr (runEs q es))) : PE X (.List xs pos) (tD X.w X.K W pr (runE q (.lst es))) :=
  PE.imp (pe_lst h) fun σ H Q ⟨m, ρ, s, R, p⟩ => bA pkE R p fun ds s1 m1 vs H1 p1 e1 R1 r1 => by
    split at p1
    · rename_i hz; exact ⟨by rw [r1.length]; exact hz, post_lst p1 R1.st r1⟩
    · exact p1.elim
theorem ixE_ok {a b : IE} {x y : Expr} {pos : Pos} (hu : X.A.units + 65 < cLine) (hi : PlainIx y) (ha : PE X x (tD X.w X.K W pr (runE q a))) (hb : PE X y (tD X.w X.K W pr (runE q b))) : PE X (.Subscript x y pos) (tD X.w X.K W pr (runE q (.ix a b))) :=
  PE.imp (pe_ix (ix_any (by omega)) ha hb hi) fun σ H Q ⟨m, ρ, s, R, p⟩ => bE pkE R p fun d s1 m1 v H1 p1 e1 R1 r1 f1 => bE pkE R1 p1 fun d2 s2 m2 v2 H2 p2 e2 R2 r2 f2 => ixD_ok R2.st (r1.mono e2) r2 p2
theorem slE_ok {a : IE} {lo hi : Option IE} {x : Expr} {l h : Option Expr} {p2 pos : Pos} (ha : PE X x (tD X.w X.K W pr (runE q a))) (hl : PO X l (tO X.w X.K W pr (runO q lo))) (hh : PO X h (tO X.w X.K W pr (runO q hi))) :
    PE X (.Subscript x (.Slice l h none p2) pos) (tD X.w X.K W pr (runE q (.sl a lo hi))) :=
  PE.imp (pe_slice sl_D ha hl hh) fun σ H Q ⟨m, ρ, s, R, p⟩ => bE pkE R p fun d s1 m1 v H1 p1 e1 R1 r1 f1 => bO pkE R1 p1 fun lo s2 m2 H2 p2 e2 R2 => bO pkE R2 p2 fun hi s3 m3 H3 p3 e3 R3 =>
    slD_ok R3.st ((r1.mono e2).mono e3) p3
theorem revE_ok {a : IE} {x : Expr} {k : Nat} {p1 p2 p3 pos : Pos} (ha : PE X x (tD X.w X.K W pr (runE q a))) : PE X (.Subscript x (.Slice none none (some (.UnaryOp .USub (.Constant (.int 1) k p1) p2)) p3) pos) (tD X.w X.K W pr (runE q (.rev a))) :=
  PE.imp (pe_revA ha) fun σ H Q ⟨m, ρ, s, R, p⟩ => bE pkE R p fun d s1 m1 v H1 p1 e1 R1 r1 f1 => by
    unfold revD at p1
    split at p1
    · cases r1 with
      | tup ha rs => exact ⟨_, _, rfl, .inr ⟨ha.sq, post_tup p1 R1.st rs.rev⟩⟩
    · split at p1
      · rename_i xs e
        obtain ⟨a, vs, rfl, sq, rs⟩ := lstOf_sq R1.st r1 e
        exact ⟨_, _, rfl, .inl ⟨sq, post_lst p1 R1.st rs.rev⟩⟩
      · exact p1.elim
theorem bltE_ok {b : Blt} {es : List IE} {x : Expr} {xs : List Expr} {p pos : Pos} (hc : X.calm = true) (hg : Gl X (bltOf b).1) (hm : X.mg (bltOf b).1 = none) (hs : (x :: xs).all notStar = true) (h : PA X (x :: xs) (tZ X.w X.K W pr (runEr q es))) :
    PE X (.Call (.Name (bltOf b).1 p) (x :: xs) [] pos) (tD X.w X.K W pr (runE q (.blt b es))) := by
  have hs2 := hs
  rw [List.all_cons, Bool.and_eq_true] at hs2
  have key : PE X (.Call (.Name (bltOf b).1 p) (x :: xs) [] pos) (tCB (rBlt X.w X.K b) (tZ X.w X.K W pr (runEr q es))) := by
    have cr := cr_blt hc b
    cases b with
    | tuple => exact pe_callTy cr hg hm (by decide +kernel) h (by decide) (by decide) (star_cons hs2.1) (star_any hs2.2)
    | list => exact pe_callTy cr hg hm (by decide +kernel) h (by decide) (by decide) (star_cons hs2.1) (star_any hs2.2)
    | set => exact pe_callTy cr hg hm (by decide +kernel) h (by decide) (by decide) (star_cons hs2.1) (star_any hs2.2)
    | int => exact pe_callTy cr hg hm (by decide +kernel) h (by decide) (by decide) (star_cons hs2.1) (star_any hs2.2)
    | str => exact pe_callTy cr hg hm (by decide +kernel) h (by decide) (by decide) (star_cons hs2.1) (star_any hs2.2)
    | dict => exact pe_callTy cr hg hm (by decide +kernel) h (by decide) (by decide) (star_cons hs2.1) (star_any hs2.2)
    | _ => exact pe_callB cr hg hm (by decide +kernel) h (by decide) (by decide) (star_cons hs2.1) (star_any hs2.2)
  exact PE.imp key fun σ H Q ⟨m, ρ, s, R, p⟩ => bZ pkE R p fun ds s1 m1 vs H1 p1 e1 R1 r1 => bltD_ok R1.st r1 p1
end
end DI

set_option Elab.async false
set_option linter.all false
set_option maxRecDepth 100000
set_option maxHeartbeats 4000000
/-! DI 9: walks: a list or a tuple, enumerate of either. -/
namespace DI
open PySem PySem.Spec PyProof.Rows L2
theorem meets_enumerate_newT (t : Addr) (items : Array Value) :
    Meets (Builtin.«enumerate.__new__» ⟨[.type "enumerate", .ref t], []⟩) (fun _ R s => s.heap.IsTuple t items ∧
      R (.ok (.ret (.ref (s.heap.push { cls := .type "tuple_iterator", data := .fields #[.ref t, .int 0 0] }).objs.size))) { s with heap := (s.heap.push { cls := .type "tuple_iterator", data := .fields #[.ref t, .int 0 0] }).push { cls := .type "enumerate", data := .fields #[.none, .bool false, .ref s.heap.objs.size, rawInt 0, .none, .none] } }) :=
  .of_wp fun prog w A R s h => by
    obtain ⟨hp, g, d, tk, os⟩ := s; obtain ⟨h1, h⟩ := h
    have hsub := sub_enumerate
    have q1 : ∀ {A' : Around} {E : Value → Shared → Prop} {Q : Value → Shared → Prop}, Q (.ref hp.objs.size) ⟨hp.push { cls := .type "tuple_iterator", data := .fields #[.ref t, .int 0 0] }, g, d, tk, os⟩ → wpAny (model prog w) A' (pyIter (.ref t)) Q E ⟨hp, g, d, tk, os⟩ :=
      fun q => wpAny_pyIter_tuple h1 q
    wp_walk using q1
    refine wpAny_stack_any fun st => wpAny_pure ?_
    split
    · rename_i c _ _ _ _ _
      cases (c == Value.type "enumerate")
      · wp_walk using q1
        exact ⟨_, rfl, h⟩
      · wp_walk using q1
        exact ⟨_, rfl, h⟩
    · wp_walk using q1
      exact ⟨_, rfl, h⟩
theorem call_enumerate_tuple {prog : Program} {w : World} {A : Around} {E : Value → Shared → Prop} {s : Shared} {l : Addr} {items : Array Value} {Q : Value → Shared → Prop} (hL : s.heap.IsTuple l items)
    (h : ∀ h', IsEnum h' (s.heap.objs.size + 1) s.heap.objs.size 0 .none → h'.IsTupleIter s.heap.objs.size l 0 → h'.objs.size = s.heap.objs.size + 2 →
      (∀ b o, s.heap.get? b = some o → h'.get? b = some o) → Q (.ref (s.heap.objs.size + 1)) { s with heap := h' }) :
    wpAny (model prog w) A (call (.type "enumerate") [.ref l]) Q E s := by
  refine callType_new F.called_enumerate (by decide) (F.typeCall_enumerate_1 _) (F.newCall_enumerate_1 _) (fun obj => F.args_object_init_2 obj _) F.entry_enumerate_new
    (meets_enumerate_newT l items) ⟨hL, ?_⟩
  have hz : (s.heap.push { cls := .type "tuple_iterator", data := .fields #[.ref l, .int 0 0] }).objs.size = s.heap.objs.size + 1 := Heap.size_push ..
  show _ ∧ _
  rw [hz]
  have he : IsEnum ((s.heap.push { cls := .type "tuple_iterator", data := .fields #[.ref l, .int 0 0] }).push
      { cls := .type "enumerate", data := .fields #[.none, .bool false, .ref s.heap.objs.size, rawInt 0, .none, .none] }) (s.heap.objs.size + 1) s.heap.objs.size 0 .none := by
    have := Heap.get?_push_size (s.heap.push { cls := .type "tuple_iterator", data := .fields #[.ref l, .int 0 0] })
      (o := { cls := .type "enumerate", data := .fields #[.none, .bool false, .ref s.heap.objs.size, rawInt 0, .none, .none] }) rfl
    rw [hz] at this; exact this
  refine ⟨⟨_, he, rfl⟩, h _ he ⟨_, Heap.get?_push_of_some _ (Heap.get?_push_size _ rfl), rfl, rfl⟩ (by rw [Heap.size_push, hz]) fun b o x => Heap.get?_push_of_some _ (Heap.get?_push_of_some _ x)⟩
def IteT (K : PySem.W.Frag) (a : Addr) : It :=
  ⟨fun i H => ∃ (xs : List V) (x : V), SqT K H a xs ∧ xs[i]? = some x, fun i H v H' => ∃ T x, v = .ref T ∧ H T = none ∧ H' = upd H T (.tup [.int (i : Nat), x]) ∧ ∀ xs, SqT K H a xs → xs[i]? = some x, fun i H => ∃ xs : List V, SqT K H a xs ∧ xs.length = i⟩
theorem turn_enumT {P : Program} {w : World} {K : PySem.W.Frag} {elts : List Expr} {kk : Nat} {tpos : Pos} (a e it : Addr) :
    Turn P w K (.Tuple elts kk tpos) (IteT K a) [e, it] e (fun i h => (∃ old, IsEnum h e it ((i : Nat) : Int) old) ∧ h.IsTupleIter it a i ∧ e ≠ it) where
  mem := by simp
  obj := fun i h st b hb => by
    obtain ⟨⟨old, he⟩, ⟨o, ho, hc, hd⟩, _⟩ := st
    have e' : b = e ∨ b = it := by simpa using hb
    rcases e' with z | z
    · rw [z]; exact ⟨_, he, fun v q => nomatch q⟩
    · rw [z]; exact ⟨o, ho, fun v q => by rw [hd] at q; cases q⟩
  keep := fun i h h' st k => let ⟨⟨old, he⟩, hi, hne⟩ := st; ⟨⟨old, k e (by simp) _ he⟩, hi.at fun o q => k it (by simp) o q, hne⟩
  item := by
    intro X hP hw hK hc i pins s σ H E I hf st hg
    subst hP hw hK
    obtain ⟨⟨old, he⟩, hit, hne⟩ := st
    obtain ⟨xs, x, hq, hx⟩ := hg
    obtain ⟨its, rv, p, hz⟩ := I.tuple hq
    obtain ⟨u, hu, ru⟩ := rv.get hx
    have hel : e < s.heap.objs.size := Heap.lt_size he
    have hil : it < s.heap.objs.size := by obtain ⟨_, q, _⟩ := hit; exact Heap.lt_size q
    have pt : s.heap.IsTuple a its.toArray := p
    have nea : a ≠ e := fun z => by
      obtain ⟨o1, q1, q2, _⟩ := pt
      have q3 := he
      unfold IsEnum at q3
      rw [← z, q1] at q3
      cases q3
      exact absurd (Value.type.inj q2) (by decide)
    have neit : a ≠ it := fun z => by
      obtain ⟨o1, q1, q2, _⟩ := pt
      obtain ⟨o2, q3, q4, _⟩ := hit
      rw [z] at q1
      rw [q1] at q3
      cases q3
      rw [q2] at q4
      exact absurd (Value.type.inj q4) (by decide)
    have hh : X.A.in1.handled = none := by
      show X.A.handled = none
      exact I.ok.hd hc
    have hi : i < its.toArray.size := by
      have := (List.getElem?_eq_some_iff.mp hu).1
      simpa using this
    refine wpAny_pyNext_enum_itemD (Draws.tuple hh it a neit its.toArray) he ⟨hit, pt⟩ hi hne (by simp; exact ⟨hne, fun z => nea z.symm⟩) fun x' h' tk hPx ho hst' hT hsz hk => ?_
    have hxu : x' = u := by
      have e2 : its.toArray[i]? = some u := by simpa using hu
      rw [e2] at hPx
      exact (Option.some.inj hPx).symm
    subst hxu
    refine ⟨_, rfl, wpAny_letOwnedTupleGo_enum (s := { s with heap := h', toks := tk + 1 }) ho fun h'' he' sb => ?_⟩
    have hT2 : h''.get? s.heap.objs.size = some { cls := .type "tuple", data := .seq #[.int i tk, x'] } := (sb.2 _ (Nat.ne_of_gt hel)).trans hT
    have new : ObjOk X.prog X.w (upd H s.heap.objs.size (.tup [.int (i : Nat), x])) h'' s.heap.objs.size (.tup [.int (i : Nat), x]) :=
      ⟨by show 2 ≤ sizeLine; decide, [.int i tk, x'], .cons ⟨_, rfl⟩ (.cons ru .nil), ⟨_, hT2, rfl, _, rfl⟩⟩
    have I1 : Inv X pins σ (upd H s.heap.objs.size (.tup [.int (i : Nat), x])) { s with heap := h'', toks := tk + 1 } :=
      I.turnedNew (ch := [e, it]) (fun b ob hb q => (sb.2 b (fun z => hb (by simp [z]))).trans (hk b ob (fun z => hb (by simp [z])) (fun z => hb (by simp [z])) q)) hf (Nat.le_refl _) new
    refine ⟨.ref s.heap.objs.size, _, I1, rfl, ⟨_, x, rfl, I.hok.fresh (Nat.le_refl _), rfl, fun ys hy => by rw [I.tuple_inj hy hq]; exact hx⟩, ⟨⟨x', ?_⟩, hst'.1.at fun o q => (sb.2 it (Ne.symm hne)).trans q, hne⟩, fun b hb => ?_⟩
    · have e1 : ((i + 1 : Nat) : Int) = (i : Int) + 1 := by omega
      rw [e1]; exact he'
    · have hb' : b < s.heap.objs.size := by
        have e' : b = e ∨ b = it := by simpa using hb
        rcases e' with z | z
        · rw [z]; exact hel
        · rw [z]; exact hil
      rw [upd_ne (Nat.ne_of_lt hb')]
      exact (hf b hb).1
  done := by
    intro X hP hw hK hc i pins s σ H E I hf st hg
    subst hP hw hK
    obtain ⟨⟨old, he⟩, hit, hne⟩ := st
    obtain ⟨xs, hq, hx⟩ := hg
    obtain ⟨its, rv, p, hz⟩ := I.tuple hq
    obtain ⟨f0, f1, f2, f3, f4, f5⟩ := hf it (by simp)
    have hl := rv.length
    have pt : s.heap.IsTuple a its.toArray := p
    have neit : a ≠ it := fun z => by
      obtain ⟨o1, q1, q2, _⟩ := pt
      obtain ⟨o2, q3, q4, _⟩ := hit
      rw [z] at q1
      rw [q1] at q3
      cases q3
      rw [q2] at q4
      exact absurd (Value.type.inj q4) (by decide)
    have hh : X.A.in1.handled = none := by
      show X.A.handled = none
      exact I.ok.hd hc
    have hn : i = its.toArray.size := by simp; omega
    subst hn
    exact wpAny_pyNext_enum_endD (Draws.tuple hh it a neit its.toArray) he ⟨hit, pt⟩ fun h' eb => ⟨rfl, I.turned (t' := s.toks) (fun b o hb q => eb b o hb q) f0 f1 f3 f4 f5⟩
  self := fun A i s Q E st h => let ⟨⟨_, he⟩, _⟩ := st; wpAny_pyIter_enum he h
section
variable {X : Cx} {tg : Expr}
def iSeq (K : PySem.W.Frag) (tl : TE) : TI := fun σ H R => tl σ H fun x H1 => ∃ a, x = .ref a ∧ (((∃ xs, SqL K H1 a xs) ∧ R (Itl K a) H1) ∨ ((∃ xs, SqT K H1 a xs) ∧ R (Itt K a) H1))
theorem pi_seq {l : Expr} {tl : TE} (hl : PE X l tl) : PI X tg l (iSeq X.K tl) := by
  refine ⟨fun pins s σ H R I h => ?_⟩
  refine thn (hl.run pins s σ H _ I h) fun v s1 ⟨x, H1, I1, r1, q1⟩ => ?_
  obtain ⟨a, e, q1⟩ := q1
  subst e
  cases r1
  rcases q1 with ⟨⟨xs, hq⟩, q⟩ | ⟨⟨xs, hq⟩, q⟩
  · obtain ⟨its, rv, p, hz⟩ := I1.list hq
    refine wpAny_pyIter_list p.isList ?_
    refine ⟨s1.heap.objs.size, [s1.heap.objs.size], _, _, H1, rfl, I1.kept (t' := s1.toks) fun b o e => Heap.get?_push_of_some _ e, turn_list a _, ⟨_, Heap.get?_push_size _ rfl, rfl, rfl⟩, fun b hb => ?_, q⟩
    have e : b = s1.heap.objs.size := by simpa using hb
    subst e
    exact I1.fpOk (Nat.le_refl _) (I1.hok.fresh (Nat.le_refl _))
  · obtain ⟨its, rv, p, hz⟩ := I1.tuple hq
    refine wpAny_pyIter_tuple (show s1.heap.IsTuple a its.toArray from p) ?_
    refine ⟨s1.heap.objs.size, [s1.heap.objs.size], _, _, H1, rfl, I1.kept (t' := s1.toks) fun b o e => Heap.get?_push_of_some _ e, turn_tuple a _, ⟨_, Heap.get?_push_size _ rfl, rfl, rfl⟩, fun b hb => ?_, q⟩
    have e : b = s1.heap.objs.size := by simpa using hb
    subst e
    exact I1.fpOk (Nat.le_refl _) (I1.hok.fresh (Nat.le_refl _))
def iEnumA (K : PySem.W.Frag) (ta : TA) : TI := fun σ H R => ta σ H fun vs H1 => ∃ a xs, vs = [.ref a] ∧ ((SqL K H1 a xs ∧ R (Ite K a) H1) ∨ (SqT K H1 a xs ∧ R (IteT K a) H1))
theorem pi_enumA {e : Expr} {ta : TA} {p pos tpos : Pos} {elts : List Expr} {kk : Nat} (hg : Gl X "enumerate") (hm : X.mg "enumerate" = none) (ha : PA X [e] ta) (hs : starEach [e] X.env = [(false, eval e X.env)]) :
    PI X (.Tuple elts kk tpos) (.Call (.Name "enumerate" p) [e] [] pos) (iEnumA X.K ta) := by
  refine ⟨fun pins s σ H R I h => ?_⟩
  refine Call_ (ld_blt I hg hm boot_enumerate (PyProof.Rows.callWith_type1 (thn (ha.run pos pins s σ H _ I h) fun us s1 ⟨vs, H1, I1, r1, q1⟩ => ?_) hs rfl))
  obtain ⟨a, xs, ex, q1⟩ := q1
  subst ex
  cases r1 with
  | cons r rr =>
    cases rr
    cases r
    rcases q1 with ⟨hq, q⟩ | ⟨hq, q⟩
    · obtain ⟨its, rv, p', hz⟩ := I1.list hq
      refine call_enumerate_list p'.isList fun h' he hit hsz hk => wpAny_pyIter_enum he ?_
      have I2 : Inv X pins σ H1 { s1 with heap := h' } := I1.kept (t' := s1.toks) hk
      refine ⟨s1.heap.objs.size + 1, [s1.heap.objs.size + 1, s1.heap.objs.size], _, _, H1, rfl, I2, turn_enum a (s1.heap.objs.size + 1) s1.heap.objs.size, ⟨⟨.none, he⟩, hit, Nat.succ_ne_self _⟩, fun b hb => ?_, q⟩
      have e' : b = s1.heap.objs.size + 1 ∨ b = s1.heap.objs.size := by simpa using hb
      have hle : s1.heap.objs.size ≤ b := by
        rcases e' with z | z
        · rw [z]; exact Nat.le_add_right _ _
        · rw [z]; exact Nat.le_refl _
      exact I1.fpOk hle (I1.hok.fresh hle)
    · obtain ⟨its, rv, p', hz⟩ := I1.tuple hq
      refine call_enumerate_tuple (show s1.heap.IsTuple a its.toArray from p') fun h' he hit hsz hk => wpAny_pyIter_enum he ?_
      have I2 : Inv X pins σ H1 { s1 with heap := h' } := I1.kept (t' := s1.toks) hk
      refine ⟨s1.heap.objs.size + 1, [s1.heap.objs.size + 1, s1.heap.objs.size], _, _, H1, rfl, I2, turn_enumT a (s1.heap.objs.size + 1) s1.heap.objs.size, ⟨⟨.none, he⟩, hit, Nat.succ_ne_self _⟩, fun b hb => ?_, q⟩
      have e' : b = s1.heap.objs.size + 1 ∨ b = s1.heap.objs.size := by simpa using hb
      have hle : s1.heap.objs.size ≤ b := by
        rcases e' with z | z
        · rw [z]; exact Nat.le_add_right _ _
        · rw [z]; exact Nat.le_refl _
      exact I1.fpOk hle (I1.hok.fresh hle)
end
end DI

set_option Elab.async false
set_option linter.all false
set_option maxRecDepth 100000
set_option maxHeartbeats 4000000
/-! DI 10: arguments, calls, tests, walks, targets. -/
namespace DI
open PySem PySem.Spec PyProof.Rows L2
section
variable {w : World} {K : PySem.W.Frag} {W : WX} {pr : Option Hdp} {σ : L2.St} {m : List Addr} {H : Hp} {s : S} {ρ : En} {α : Type} {P : List Addr → Hp → R α → Prop}
theorem bind_as {β γ δ : Type} (r : R β) (f : β → S → R γ) (g : γ → S → R δ) : (r.bind f).bind g = r.bind fun a s => (f a s).bind g := by cases r <;> rfl
theorem bE0 {f : En → S → R D} {g : D → S → R α} {k : V → Hp → Prop} (hP : Pk w K W σ P) (R₀ : Rst w K pr m ρ s σ H) (h : P m H ((f ρ s).bind g))
    (hk : ∀ d s1 m1 v H1, P m H (g d s1) → Ex m H m1 H1 → Rst w K pr m1 ρ s1 σ H1 → Rp w K m1 H1 d v → Fresh H d v → k v H1) : tD w K W pr f σ H k := by
  refine ⟨m, ρ, s, R₀, ?_⟩
  cases q : f ρ s with
  | ok d s1 =>
    rw [q] at h
    exact fun m1 v H1 e st rp fr => hk d s1 m1 v H1 h e (R₀.mono e st) rp fr
  | exc C fs s' => rw [q] at h; exact hP.exc h
  | bad => rw [q] at h; exact hP.bad h
theorem bAq {f : En → S → R (List D)} {g : List D → S → R α} {k : List V → Hp → Prop} (hP : Pk w K W σ P) (R₀ : Rst w K pr m ρ s σ H) (h : P m H ((f ρ s).bind g))
    (hk : ∀ ds s1 m1 vs H1, f ρ s = .ok ds s1 → P m1 H1 (g ds s1) → Ex m H m1 H1 → Rst w K pr m1 ρ s1 σ H1 → Rps w K m1 H1 ds vs → k vs H1) : tA w K W pr f σ H k := by
  refine ⟨m, ρ, s, R₀, ?_⟩
  cases q : f ρ s with
  | ok d s1 =>
    rw [q] at h
    exact fun m1 v H1 e st rp => hk d s1 m1 v H1 q (hP.mono e st h) e (R₀.mono e st) rp
  | exc C fs s' => rw [q] at h; exact hP.exc h
  | bad => rw [q] at h; exact hP.bad h
theorem bZq {f : En → S → R (List D)} {g : List D → S → R α} {k : List V → Hp → Prop} (hP : Pk w K W σ P) (R₀ : Rst w K pr m ρ s σ H) (h : P m H ((f ρ s).bind g))
    (hk : ∀ ds s1 m1 vs H1, f ρ s = .ok ds s1 → P m1 H1 (g ds s1) → Ex m H m1 H1 → Rst w K pr m1 ρ s1 σ H1 → Rpz w K m1 H1 ds vs → k vs H1) : tZ w K W pr f σ H k := by
  refine ⟨m, ρ, s, R₀, ?_⟩
  cases q : f ρ s with
  | ok d s1 =>
    rw [q] at h
    exact fun m1 v H1 e st rp => hk d s1 m1 v H1 q (hP.mono e st h) e (R₀.mono e st) rp
  | exc C fs s' => rw [q] at h; exact hP.exc h
  | bad => rw [q] at h; exact hP.bad h
theorem runEr_len {q : Rq} : ∀ {es : List IE} {ρ : En} {s s1 : S} {ds : List D}, runEr q es ρ s = .ok ds s1 → ds.length = es.length
  | [], _, _, _, _, h => by unfold runEr at h; cases h; rfl
  | e :: es, ρ, s, s1, ds, h => by
    unfold runEr at h
    cases e1 : runE q e ρ s with
    | ok d s2 =>
      rw [e1] at h
      have h : R.bind (runEr q es ρ s2) (fun ds s => .ok (d :: ds) s) = .ok ds s1 := h
      cases e2 : runEr q es ρ s2 with
      | ok ds' s3 =>
        rw [e2] at h
        cases h
        simp [runEr_len e2]
      | exc C fs s' => rw [e2] at h; cases h
      | bad => rw [e2] at h; cases h
    | exc C fs s' => rw [e1] at h; cases h
    | bad => rw [e1] at h; cases h
theorem runEs_len {q : Rq} : ∀ {es : List IE} {ρ : En} {s s1 : S} {ds : List D}, runEs q es ρ s = .ok ds s1 → ds.length = es.length
  | [], _, _, _, _, h => by unfold runEs at h; cases h; rfl
  | e :: es, ρ, s, s1, ds, h => by
    unfold runEs at h
    cases e1 : (runE q e ρ s).bind setl with
    | ok d s2 =>
      rw [e1] at h
      cases e2 : runEs q es ρ s2 with
      | ok ds' s3 =>
        have h : R.bind (runEs q es ρ s2) (fun ds s => .ok (d :: ds) s) = .ok ds s1 := h
        rw [e2] at h
        cases h
        simp [runEs_len e2]
      | exc C fs s' =>
        have h : R.bind (runEs q es ρ s2) (fun ds s => .ok (d :: ds) s) = .ok ds s1 := h
        rw [e2] at h; cases h
      | bad =>
        have h : R.bind (runEs q es ρ s2) (fun ds s => .ok (d :: ds) s) = .ok ds s1 := h
        rw [e2] at h; cases h
    | exc C fs s' => rw [e1] at h; cases h
    | bad => rw [e1] at h; cases h
/-- an expression whose value is to be held, then what follows -/
theorem bES {f : En → S → R D} {g : D → S → R α} {k : V → Hp → Prop} (hP : Pk w K W σ P) (R₀ : Rst w K pr m ρ s σ H) (h : P m H (((f ρ s).bind setl).bind g))
    (hk : ∀ d s1 m1 v H1, P m1 H1 (g d s1) → Ex m H m1 H1 → Rst w K pr m1 ρ s1 σ H1 → Rp w K m1 H1 d v → d.shr = true → k v H1) : tD w K W pr f σ H k := by
  rw [bind_as] at h
  refine bE0 hP R₀ h fun d s1 m1 v H1 p1 e1 R1 r1 f1 => ?_
  cases q : setl d s1 with
  | ok d' s2 =>
    rw [q] at p1
    obtain ⟨m2, e2, R2, r2, hs, _⟩ := setl_rst e1 R1 r1 f1 q
    exact hk d' s2 m2 v H1 (hP.mono e2 R2.st p1) e2 R2 r2 hs
  | exc C fs s' => exact (setl_exc q).elim
  | bad => rw [q] at p1; exact (hP.bad p1).elim
end
section
variable {G : Gs} {q : Rq} {Z : Sc} {W : WX} {pr : Option Hdp} {X : Cx}
theorem esNil : PA X [] (tA X.w X.K W pr (runEs q [])) := PA.imp pa_nil fun σ H Q ⟨m, ρ, s, R, p⟩ => p m [] H .refl R.st .nil
theorem esCons {e : IE} {es : List IE} {x : Expr} {xs : List Expr} (hs : notStar x = true) (h : PE X x (tD X.w X.K W pr (runE q e))) (t : PA X xs (tA X.w X.K W pr (runEs q es))) : PA X (x :: xs) (tA X.w X.K W pr (runEs q (e :: es))) :=
  PA.imp (pa_cons h t (star_cons hs)) fun σ H Q ⟨m, ρ, s, R, p⟩ => bES pkA R p fun d s1 m1 v H1 p1 e1 R1 r1 f1 => bA pkA R1 p1 fun ds s2 m2 vs H2 p2 e2 R2 r2 => p2 m2 _ H2 .refl R2.st (.cons f1 (r1.mono e2) r2)
theorem erNil : PA X [] (tZ X.w X.K W pr (runEr q [])) := PA.imp pa_nil fun σ H Q ⟨m, ρ, s, R, p⟩ => p m [] H .refl R.st .nil
theorem erCons {e : IE} {es : List IE} {x : Expr} {xs : List Expr} (hs : notStar x = true) (h : PE X x (tD X.w X.K W pr (runE q e))) (t : PA X xs (tZ X.w X.K W pr (runEr q es))) : PA X (x :: xs) (tZ X.w X.K W pr (runEr q (e :: es))) :=
  PA.imp (pa_cons h t (star_cons hs)) fun σ H Q ⟨m, ρ, s, R, p⟩ => bE pkZ R p fun d s1 m1 v H1 p1 e1 R1 r1 f1 => bZ pkZ R1 p1 fun ds s2 m2 vs H2 p2 e2 R2 r2 => p2 m2 _ H2 .refl R2.st (.cons (r1.mono e2) r2)
theorem oNone : PO X none (tO X.w X.K W pr (runO q none)) := PO.imp po_none fun σ H Q ⟨m, ρ, s, R, p⟩ => p m H .refl R.st
theorem oSome {e : IE} {x : Expr} (h : PE X x (tD X.w X.K W pr (runE q e))) : PO X (some x) (tO X.w X.K W pr (runO q (some e))) :=
  PO.imp (po_some h) fun σ H Q ⟨m, ρ, s, R, p⟩ => bE pkO R p fun d s1 m1 v H1 p1 e1 R1 r1 f1 => by
    split at p1
    · cases r1; exact ⟨_, rfl, p1 m1 H1 .refl R1.st⟩
    · exact p1.elim
/-! ### calls -/
theorem pe_callS0 {k : Nat} {f : Addr} {fd : FuncData} {ps : List Str} {sp : Sp} {E : L2.St → XK} {x : Str} {p pos : Pos} {CX : CXT} (F : FnOk X.prog X.w X.K X.mg X.base CX k f fd ps sp) (hr : Room k X.A) (hg : Gl X x) (hm : X.mg x = some (.ref f)) (hk : PySem.W.keepIn X.K (.ref f) = true) (hb : Binds X.K fd ps [])
    (hx : ∀ σ, PassesAt CX X σ (E σ)) (hdb : (x == ("__debug__" : Str)) = false) : PE X (.Call (.Name x p) [] [] pos) (tCallS sp E tNil) :=
  ⟨fun pins s σ H Q I h => wpAny_Call_Name_kw (ld_glob I hg hm (PySem.W.callWith_K0 I.kIn hk (run_fnS (us := []) F hr hb (hx σ) I .nil h)) hdb)⟩
theorem spF_of {w : World} {K : PySem.W.Frag} {σ : L2.St} {m : List Addr} {H : Hp} {s : S} {Q : VK} {n : Nat} {f : List D → S → R D} {ds : List D} {vs : List V} (st : StOk w K m H s) (r : Rps w K m H ds vs) (hl : ds.length = n) (p : PostE w K W σ m H Q (f ds s)) : spF w K n f vs H Q (WE W σ) := by
  refine ⟨m, s, ds, st, r, hl, ?_⟩
  cases e : f ds s with
  | ok d s' => rw [e] at p; exact p
  | exc C fs s' => rw [e] at p; exact p
  | bad => rw [e] at p; exact p
theorem callE_ok {f : Str} {es : List IE} {xs : List Expr} {p pos : Pos} (x : XOk G q Z W pr X) (hc : Z.calm = true) (hg : Gl X f) (hd : (f == ("__debug__" : Str)) = false) (hf : (f, xs.length) ∈ G.fns) (hs : xs.all notStar = true)
    (hl : xs.length = es.length) (h : PA X xs (tA X.w X.K W pr (runEs q es))) : PE X (.Call (.Name f p) xs [] pos) (tD X.w X.K W pr (runE q (.call f es))) := by
  obtain ⟨fa, fd, ps, k, F, hr, hm, hk, hb, hn⟩ := x.fns hc f _ hf
  have key : PE X (.Call (.Name f p) xs [] pos) (tCallS (spF X.w X.K xs.length (q.c f)) (WE W) (tA X.w X.K W pr (runEs q es))) := by
    cases xs with
    | nil =>
      cases es with
      | nil => exact PE.imp (pe_callS0 F hr hg hm hk hb (passAt x.tk) hd) fun σ H Q ⟨m, ρ, s, R, p⟩ => p m [] H .refl R.st .nil
      | cons _ _ => cases hl
    | cons e xs =>
      rw [List.all_cons, Bool.and_eq_true] at hs
      exact pe_callS F hr hg hm hk hb (passAt x.tk) h hd (star_cons hs.1) (star_any hs.2)
  exact PE.imp key fun σ H Q ⟨m, ρ, s, R, p⟩ => bAq pkE R p fun ds s1 m1 vs H1 e0 p1 e1 R1 r1 => spF_of R1.st r1 ((runEs_len e0).trans hl.symm) p1
theorem isiE_ok {a : IE} {t : Ty} {e : Expr} {p p2 pos : Pos} (hg : Gl X "isinstance") (hm : X.mg "isinstance" = none) (hg2 : Gl X (tyNm t : String)) (hm2 : X.mg (tyNm t : String) = none) (hs : notStar e = true) (h : PE X e (tD X.w X.K W pr (runE q a))) :
    PE X (.Call (.Name "isinstance" p) [e, .Name (tyNm t : String) p2] [] pos) (tD X.w X.K W pr (runE q (.isi a t))) := by
  have hT : PE X (.Name (tyNm t : String) p2) (tC (.ty (tyNm t))) := by
    cases t <;> exact pe_bltn (u := .type _) hg2 hm2 (by decide +kernel) rfl (by decide) (by decide)
  refine PE.imp (pe_callB call_isi hg hm (by decide +kernel) (pa_cons h (pa_cons hT pa_nil) (star_cons hs)) (by decide) (by decide) (star_cons hs) rfl) fun σ H Q ⟨m, ρ, s, R, p⟩ => bE pkE R p fun d s1 m1 v H1 p1 e1 R1 r1 f1 => ?_
  split at p1
  · rename_i k e
    obtain ⟨u, hu, hk⟩ := isT_v R1.st r1 e
    exact ⟨_, _, u, _, k, rfl, .ty _, hu, hk, post_same p1 R1.st (.bl k) rfl⟩
  · exact p1.elim
theorem keyw_nil {env : Env} {pos : Pos} : backToKw pos (keywordEach [] env) = [] := rfl
theorem star_all {es : List Expr} {env : Env} {pos : Pos} (h : es.all notStar = true) : (backTo pos (starEach es env)).all (fun x => !x.1) = true := by
  induction es with
  | nil => rfl
  | cons e es ih =>
    rw [List.all_cons, Bool.and_eq_true] at h
    rw [star_cons h.1]
    show (!false && (backTo pos (starEach es env)).all (fun x => !x.1)) = true
    rw [ih h.2]; rfl
theorem getLast_ix {α : Type} {xs : List α} {d : α} (h : xs.getLast? = some d) : xs[xs.length - 1]? = some d := by
  rw [← h, List.getLast?_eq_getElem?]
theorem Rps.dropLast {w : World} {K : PySem.W.Frag} {m : List Addr} {H : Hp} {xs : List D} {vs : List V} (r : Rps w K m H xs vs) : Rps w K m H xs.dropLast vs.dropLast := by
  rw [List.dropLast_eq_take, List.dropLast_eq_take, r.length]; exact r.take _
theorem Rps.eraseIdx {w : World} {K : PySem.W.Frag} {m : List Addr} {H : Hp} {xs : List D} {vs : List V} (r : Rps w K m H xs vs) (j : Nat) : Rps w K m H (xs.eraseIdx j) (vs.eraseIdx j) := by
  rw [List.eraseIdx_eq_take_drop_succ, List.eraseIdx_eq_take_drop_succ]; exact (r.take _).app (r.drop _)
theorem noF_lst {vs : List V} : NoFrz (some (.lst vs)) := own_lst.2
/-- a list of the store is written -/
theorem wrt {w : World} {K : PySem.W.Frag} {m : List Addr} {H : Hp} {s : S} {i : Nat} {a : Addr} {ws us : List V} {ys : List D} (st : StOk w K m H s) (hi : m[i]? = some a) (ha : H a = some (.lst ws)) (r : Rps w K m H ys us) : Ex m H m (upd H a (.lst us)) ∧ StOk w K m (upd H a (.lst us)) (s.set i (.lst ys)) :=
  have nf : NoFrz (H a) := by rw [ha]; exact noF_lst
  have hw : Ex m H m (upd H a (.lst us)) := Ex.write (List.mem_of_getElem? hi) nf
  ⟨hw, st.write hi ⟨_, upd_same, r.mono hw⟩⟩
/-- what a method of a list does -/
def rMth : Mth → V → List V → Hp → VK → Prop
  | .append => rAppend
  | .extend => rExtend
  | .pop => rPop
  | .popi => rPopAt
  | .index => fun _ _ _ _ => False
def mthId : Mth → String
  | .append => "list.append" | .extend => "list.extend" | .pop => "list.pop" | .popi => "list.pop" | .index => "list.index"
theorem mt_all (mt : Mth) : MtR X (mthId mt) (rMth mt) := by
  cases mt with
  | append => exact mt_append
  | extend => exact mt_extend
  | pop => exact mt_pop
  | popi => exact mt_popAt
  | index => exact fun _ _ _ _ _ _ _ _ _ _ _ _ q => q.elim
theorem mth_post {w : World} {K : PySem.W.Frag} {m : List Addr} {H : Hp} {s : S} {Q : VK} {σ : L2.St} {mt : Mth} {d : D} {ds : List D} {v : V} {vs : List V} (st : StOk w K m H s) (r : Rp w K m H d v) (rs : Rps w K m H ds vs) (p : PostE w K W σ m H Q (mthD mt d ds s)) : rMth mt v vs H Q := by
  unfold mthD at p
  split at p
  · split at p
    · rename_i e3
      split at p
      · rename_i hz
        cases rs with
        | cons hd rd rn =>
        cases rn
        obtain ⟨b, ws, e4, hb2, rs2⟩ := mutOf_h st r (xs := _) e3
        cases e4
        cases r with
        | ref hi =>
        obtain ⟨x1, x2⟩ := wrt st hi hb2 (rs2.app (.cons hd rd .nil))
        exact ⟨_, _, _, rfl, rfl, hb2, by rw [rs2.length]; exact hz, p m .non _ x1 x2 .non fun z => by cases z⟩
      · exact p.elim
    · exact p.elim
  · split at p
    · rename_i e3 e4
      split at p
      · rename_i hz
        cases rs with
        | cons hd rd rn =>
        cases rn
        obtain ⟨b, ws, e5, hb2, rs2⟩ := mutOf_h st r (xs := _) e3
        cases e5
        obtain ⟨b2, ws2, e6, hb3, rs3⟩ := mutOf_h st rd e4
        cases e6
        cases r with
        | ref hi =>
        obtain ⟨x1, x2⟩ := wrt st hi hb2 (rs2.app rs3)
        exact ⟨_, _, _, _, rfl, rfl, hb2, hb3, by rw [rs2.length, rs3.length]; exact hz, p m .non _ x1 x2 .non fun z => by cases z⟩
      · exact p.elim
    · exact p.elim
  · split at p
    · rename_i e3
      split at p
      · rename_i d e4
        cases rs
        obtain ⟨b, ws, e5, hb2, rs2⟩ := mutOf_h st r (xs := _) e3
        cases e5
        cases r with
        | ref hi =>
        obtain ⟨y, ey, ry, hy⟩ := rs2.get (getLast_ix e4)
        obtain ⟨x1, x2⟩ := wrt st hi hb2 rs2.dropLast
        exact ⟨_, _, _, rfl, rfl, hb2, by rw [rs2.length]; exact ey, p m y _ x1 x2 (ry.mono x1) fun z => by rw [hy] at z; cases z⟩
      · exact p.elim
    · exact p.elim
  · split at p
    · rename_i e3
      split at p
      · rename_i hk
        split at p
        · rename_i j ej
          split at p
          · rename_i d e4
            cases rs with
            | cons hd rd rn =>
            cases rn
            cases rd
            obtain ⟨b, ws, e5, hb2, rs2⟩ := mutOf_h st r (xs := _) e3
            cases e5
            cases r with
            | ref hi =>
            obtain ⟨y, ey, ry, hy⟩ := rs2.get e4
            obtain ⟨x1, x2⟩ := wrt st hi hb2 (rs2.eraseIdx j)
            exact ⟨_, _, _, j, _, rfl, rfl, hb2, hk.1, hk.2, by rw [rs2.length]; exact ej, ey, p m y _ x1 x2 (ry.mono x1) fun z => by rw [hy] at z; cases z⟩
          · exact p.elim
        · exact p.elim
      · exact p.elim
    · exact p.elim
  · exact p.elim
theorem mthE_ok {mt : Mth} {nm : Str} {o : IE} {es : List IE} {x : Expr} {ys : List Expr} {apos cpos : Pos} (hnm : (match mt with
      | .append => decide (nm = "append") && decide (ys ≠ [])
      | .extend => decide (nm = "extend") && decide (ys ≠ [])
      | .pop => decide (nm = "pop") && decide (ys = [])
      | .popi => decide (nm = "pop") && decide (ys ≠ [])
      | .index => false) = true) (hb : plainB x = true) (hl : (apos.endLine == cpos.line) = true) (hn : ys.length < 20) (hs : ys.all notStar = true) (hes : ys.length = es.length)
    (ho : PE X x (tD X.w X.K W pr (runE q o))) (h : PA X ys (tA X.w X.K W pr (runEs q es))) : PE X (.Call (.Attribute x nm apos) ys [] cpos) (tD X.w X.K W pr (runE q (.mth mt o es))) := by
  cases ys with
  | nil =>
    cases es with
    | cons _ _ => cases hes
    | nil =>
    cases mt with
    | pop =>
      simp only [Bool.and_eq_true, decide_eq_true_eq] at hnm
      obtain ⟨rfl, _⟩ := hnm
      refine PE.imp (pe_bm0 PySem.F.plainAttrs_list PySem.F.slot_list_pop PySem.F.type_list_pop (mt_all .pop) ho (attr_plain hb) hl) fun σ H Q ⟨m, ρ, s, R, p⟩ => bE pkE R p fun d s1 m1 v H1 p1 e1 R1 r1 f1 => ?_
      split at p1
      · rename_i hm
        obtain ⟨xs, hm⟩ := Option.isSome_iff_exists.mp hm
        obtain ⟨a, vs, rfl, ha, rs⟩ := mutOf_h R1.st r1 hm
        exact ⟨.inl ⟨rfl, _, .of ha⟩, mth_post R1.st r1 .nil p1⟩
      · exact p1.elim
    | _ => simp at hnm
  | cons y ys =>
    have hs2 := hs
    rw [List.all_cons, Bool.and_eq_true] at hs2
    have hfew : ((backTo cpos (starEach (y :: ys) X.env)).all (fun x => !x.1) && (backToKw cpos (keywordEach [] X.env)).all (fun x => x.1.isSome)
        && decide ((y :: ys).length + ([] : List Keyword).length + (if ([] : List Keyword).isEmpty then 0 else 1) < 30)) = true := by
      rw [star_all hs]
      show (true && true && decide ((y :: ys).length + 0 + 0 < 30)) = true
      rw [decide_eq_true (by omega)]; rfl
    have key : PE X (.Call (.Attribute x nm apos) (y :: ys) [] cpos) (tBM X.K "list" (rMth mt) (tD X.w X.K W pr (runE q o)) (tA X.w X.K W pr (runEs q es))) := by
      cases mt with
      | append =>
        simp only [Bool.and_eq_true, decide_eq_true_eq] at hnm
        obtain ⟨rfl, _⟩ := hnm
        exact pe_bm PySem.F.plainAttrs_list PySem.F.slot_list_append PySem.F.type_list_append (mt_all .append) ho h (attr_plain hb) hfew hl (star_cons hs2.1) (star_any hs2.2)
      | extend =>
        simp only [Bool.and_eq_true, decide_eq_true_eq] at hnm
        obtain ⟨rfl, _⟩ := hnm
        exact pe_bm PySem.F.plainAttrs_list PySem.F.slot_list_extend PySem.F.type_list_extend (mt_all .extend) ho h (attr_plain hb) hfew hl (star_cons hs2.1) (star_any hs2.2)
      | pop => simp at hnm
      | popi =>
        simp only [Bool.and_eq_true, decide_eq_true_eq] at hnm
        obtain ⟨rfl, _⟩ := hnm
        exact pe_bm PySem.F.plainAttrs_list PySem.F.slot_list_pop PySem.F.type_list_pop (mt_all .popi) ho h (attr_plain hb) hfew hl (star_cons hs2.1) (star_any hs2.2)
      | index => simp at hnm
    refine PE.imp key fun σ H Q ⟨m, ρ, s, R, p⟩ => bE pkE R p fun d s1 m1 v H1 p1 e1 R1 r1 f1 => ?_
    split at p1
    · rename_i hm
      obtain ⟨xs, hm⟩ := Option.isSome_iff_exists.mp hm
      obtain ⟨a, vs, rfl, ha, rs⟩ := mutOf_h R1.st r1 hm
      exact ⟨.inl ⟨rfl, _, .of ha⟩, bA pkE R1 p1 fun ds s2 m2 us H2 p2 e2 R2 r2 => mth_post R2.st (r1.mono e2) r2 p2⟩
    · exact p1.elim
/-! ### tests -/
theorem andT_ok {a b : IT} {x y : Expr} {r : List Expr} {pos : Pos} (ha : PT X x (tT X.w X.K W pr (runT q a))) (hb : PW X (.BoolOp .And (y :: r) pos) (tT X.w X.K W pr (runT q b))) : PW X (.BoolOp .And (x :: y :: r) pos) (tT X.w X.K W pr (runT q (.and a b))) :=
  PW.imp (pw_and ha hb) fun σ H Q ⟨m, ρ, s, R, p⟩ => bT pkT R p fun k s1 m1 H1 p1 e1 R1 => ite_t (fun hk => by rw [if_pos hk] at p1; exact ⟨m1, ρ, s1, R1, p1⟩) fun hk => by rw [if_neg (by rw [hk]; decide)] at p1; exact p1 m1 H1 .refl R1.st
theorem orT_ok {a b : IT} {x y : Expr} {r : List Expr} {pos : Pos} (ha : PT X x (tT X.w X.K W pr (runT q a))) (hb : PW X (.BoolOp .Or (y :: r) pos) (tT X.w X.K W pr (runT q b))) : PW X (.BoolOp .Or (x :: y :: r) pos) (tT X.w X.K W pr (runT q (.or a b))) :=
  PW.imp (pw_or ha hb) fun σ H Q ⟨m, ρ, s, R, p⟩ => bT pkT R p fun k s1 m1 H1 p1 e1 R1 => ite_t (fun hk => by rw [if_pos hk] at p1; exact p1 m1 H1 .refl R1.st) fun hk => by rw [if_neg (by rw [hk]; decide)] at p1; exact ⟨m1, ρ, s1, R1, p1⟩
theorem notT_ok {a : IT} {x : Expr} {pos : Pos} (ha : PT X x (tT X.w X.K W pr (runT q a))) : PT X (.UnaryOp .Not x pos) (tT X.w X.K W pr (runT q (.not a))) :=
  PT.imp (pt_not ha) fun σ H Q ⟨m, ρ, s, R, p⟩ => bT pkT R p fun k s1 m1 H1 p1 e1 R1 => p1 m1 H1 .refl R1.st
theorem truT_ok {a : IE} {x : Expr} (hp : plainT x = true) (ha : PE X x (tD X.w X.K W pr (runE q a))) : PT X x (tT X.w X.K W pr (runT q (.tru a))) :=
  PT.imp (pt_truth ha (truth_ok hp X.env)) fun σ H Q ⟨m, ρ, s, R, p⟩ => bE pkT R p fun d s1 m1 v H1 p1 e1 R1 r1 f1 => by
    unfold truD at p1
    split at p1
    · cases r1; exact ⟨_, rfl, p1 m1 H1 .refl R1.st⟩
    · exact p1.elim
end
/-! ### walks -/
mutual
theorem same_eq : ∀ {a b : D}, D.same a b = true → a = b
  | .non, b, h => by cases b <;> first | rfl | (unfold D.same at h; cases h)
  | .bl x, b, h => by cases b <;> unfold D.same at h <;> first | (rw [beq_iff_eq] at h; rw [h]) | cases h
  | .int x, b, h => by cases b <;> unfold D.same at h <;> first | (rw [beq_iff_eq] at h; rw [h]) | cases h
  | .str x, b, h => by cases b <;> unfold D.same at h <;> first | (rw [of_decide_eq_true h]) | cases h
  | .tup x, b, h => by cases b <;> unfold D.same at h <;> first | (rw [sames_eq h]) | cases h
  | .ref x, b, h => by cases b <;> unfold D.same at h <;> first | (rw [beq_iff_eq] at h; rw [h]) | cases h
  | .lst x, b, h => by cases b <;> unfold D.same at h <;> first | (rw [sames_eq h]) | cases h
  | .rol x, b, h => by cases b <;> unfold D.same at h <;> first | (rw [sames_eq h]) | cases h
  | .ist x, b, h => by cases b <;> unfold D.same at h <;> first | (rw [beq_iff_eq] at h; rw [h]) | cases h
  | .dic ks x, b, h => by
    cases b <;> unfold D.same at h <;> first | cases h | skip
    rw [Bool.and_eq_true] at h
    rw [of_decide_eq_true h.1, sames_eq h.2]
  | .fn x, b, h => by cases b <;> unfold D.same at h <;> first | (rw [of_decide_eq_true h]) | cases h
theorem sames_eq : ∀ {a b : List D}, D.sames a b = true → a = b
  | [], b, h => by cases b <;> first | rfl | (unfold D.sames at h; cases h)
  | x :: xs, b, h => by
    cases b with
    | nil => unfold D.sames at h; cases h
    | cons y ys =>
      unfold D.sames at h
      rw [Bool.and_eq_true] at h
      rw [same_eq h.1, sames_eq h.2]
end
section
variable {w : World} {K : PySem.W.Frag} {m0 : List Addr} {H0 : Hp} {I : Its} {a : Addr}
theorem walkL (h : ∀ m H s, Ex m0 H0 m H → StOk w K m H s → I.ok s = true → ∃ vs, SqL K H a vs ∧ Rps w K m H I.xs vs) : WalkD w K m0 H0 (Itl K a) I where
  go := fun i m H s hi e st ok => by
    obtain ⟨vs, sq, rs⟩ := h m H s e st ok
    exact ⟨vs, vs[i]'(by rw [rs.length]; exact hi), sq, by simp⟩
  yld := fun i m H s v H' hi e st ok y => by
    obtain ⟨vs, sq, rs⟩ := h m H s e st ok
    obtain ⟨rfl, y⟩ := y
    obtain ⟨v', e1, r, hs⟩ := rs.get (List.getElem?_eq_getElem hi)
    rw [y vs sq] at e1
    cases e1
    exact ⟨_, List.getElem?_eq_getElem hi, hs, .refl, st, r⟩
  stop := fun m H s e st ok => by
    obtain ⟨vs, sq, rs⟩ := h m H s e st ok
    exact ⟨vs, sq, by rw [rs.length]; exact Nat.le_refl _⟩
theorem walkT (h : ∀ m H s, Ex m0 H0 m H → StOk w K m H s → I.ok s = true → ∃ vs, SqT K H a vs ∧ Rps w K m H I.xs vs) : WalkD w K m0 H0 (Itt K a) I where
  go := fun i m H s hi e st ok => by
    obtain ⟨vs, sq, rs⟩ := h m H s e st ok
    exact ⟨vs, vs[i]'(by rw [rs.length]; exact hi), sq, by simp⟩
  yld := fun i m H s v H' hi e st ok y => by
    obtain ⟨vs, sq, rs⟩ := h m H s e st ok
    obtain ⟨rfl, y⟩ := y
    obtain ⟨v', e1, r, hs⟩ := rs.get (List.getElem?_eq_getElem hi)
    rw [y vs sq] at e1
    cases e1
    exact ⟨_, List.getElem?_eq_getElem hi, hs, .refl, st, r⟩
  stop := fun m H s e st ok => by
    obtain ⟨vs, sq, rs⟩ := h m H s e st ok
    exact ⟨vs, sq, by rw [rs.length]; exact Nat.le_refl _⟩
/-- the source of a walk over a list, a tuple: it stands -/
def SrcD (w : World) (K : PySem.W.Frag) (m0 : List Addr) (H0 : Hp) (a : Addr) (I : Its) : Prop :=
  ((∃ vs, SqL K H0 a vs) ∧ ∀ m H s, Ex m0 H0 m H → StOk w K m H s → I.ok s = true → ∃ vs, SqL K H a vs ∧ Rps w K m H I.xs vs) ∨ ((∃ vs, SqT K H0 a vs) ∧ ∀ m H s, Ex m0 H0 m H → StOk w K m H s → I.ok s = true → ∃ vs, SqT K H a vs ∧ Rps w K m H I.xs vs)
theorem seqI_src {d : D} {v : V} {s s' : S} (st : StOk w K m0 H0 s) (r : Rp w K m0 H0 d v) (e : seqI d s = .ok I s') : s' = s ∧ ∃ a, v = .ref a ∧ SrcD w K m0 H0 a I := by
  unfold seqI at e
  split at e
  · cases e
    cases r with
    | tup h rs => exact ⟨rfl, _, rfl, .inr ⟨⟨_, h.sq⟩, fun m H s ex st' _ => ⟨_, (h.mono ex).sq, rs.mono ex⟩⟩⟩
  · cases e
    cases r with
    | lst h n rs => exact ⟨rfl, _, rfl, .inl ⟨⟨_, .of h⟩, fun m H s ex st' _ => ⟨_, .of (ex.old _ _ h n).1, rs.mono ex⟩⟩⟩
  · cases e
    cases r with
    | rol h rs => exact ⟨rfl, _, rfl, .inl ⟨⟨_, h.sq⟩, fun m H s ex st' _ => ⟨_, (h.mono ex).sq, rs.mono ex⟩⟩⟩
  · split at e
    · rename_i i xs e1
      cases e
      cases r with
      | ref h =>
      obtain ⟨a, vs, e2, ha, rs⟩ := mutOf_h st (.ref h) (xs := xs) e1
      cases e2
      refine ⟨rfl, _, rfl, .inl ⟨⟨_, .of ha⟩, fun m H s2 ex st' ok => ?_⟩⟩
      dsimp only at ok
      split at ok
      · rename_i ys e3
        have e4 := sames_eq ok
        subst e4
        obtain ⟨b, us, e5, hb, rs2⟩ := mutOf_h st' (.ref (get_pre ex.pre h)) (xs := ys) e3
        cases e5
        exact ⟨_, .of hb, rs2⟩
      · cases ok
    · cases e
  · cases e
end
section
variable {q : Rq} {W : WX} {pr : Option Hdp} {X : Cx} {tg : Expr}
theorem seqW_ok {a : IE} {x : Expr} (ha : PE X x (tD X.w X.K W pr (runE q a))) : PI X tg x (tI X.w X.K W pr (runI q (.seq a))) := by
  refine PI.imp (pi_seq ha) fun σ H Q ⟨m, ρ, s, R, p⟩ => bE pkI R p fun d s1 m1 v H1 p1 e1 R1 r1 f1 => ?_
  cases e : seqI d s1 with
  | ok I s' =>
    rw [e] at p1
    obtain ⟨rfl, a, rfl, h⟩ := seqI_src R1.st r1 e
    refine ⟨a, rfl, ?_⟩
    rcases h with ⟨h0, h⟩ | ⟨h0, h⟩
    · exact .inl ⟨h0, p1 m1 H1 _ .refl R1.st (walkL h)⟩
    · exact .inr ⟨h0, p1 m1 H1 _ .refl R1.st (walkT h)⟩
  | exc C fs s' => unfold seqI at e; split at e <;> first | cases e | (split at e <;> cases e)
  | bad => rw [e] at p1; exact p1.elim
theorem rangeL_get {lo c : Int} {n i : Nat} (h : i < n) : (rangeL lo n c)[i]? = some (.int (lo + (i : Nat) * c)) := by
  unfold rangeL
  rw [List.getElem?_map, List.getElem?_range h]; rfl
theorem rangeL_len {lo c : Int} {n : Nat} : (rangeL lo n c).length = n := by unfold rangeL; rw [List.length_map, List.length_range]
theorem walkR {w : World} {K : PySem.W.Frag} {m0 : List Addr} {H0 : Hp} {lo : Int} {n : Nat} : WalkD w K m0 H0 (Itr lo n) ⟨rangeL lo n 1, fun _ => true⟩ where
  go := fun i m H s hi e st ok => by rw [rangeL_len] at hi; exact hi
  yld := fun i m H s v H' hi e st ok y => by
    rw [rangeL_len] at hi
    obtain ⟨rfl, rfl⟩ := y
    exact ⟨_, rangeL_get hi, rfl, .refl, st, by rw [Int.mul_one]; exact .int _⟩
  stop := fun m H s e st ok => by show n ≤ (rangeL lo n 1).length; rw [rangeL_len]; exact Nat.le_refl _
theorem walkC {w : World} {K : PySem.W.Frag} {m0 : List Addr} {H0 : Hp} {lo c : Int} {n : Nat} : WalkD w K m0 H0 (Itc lo c n) ⟨rangeL lo n c, fun _ => true⟩ where
  go := fun i m H s hi e st ok => by rw [rangeL_len] at hi; exact hi
  yld := fun i m H s v H' hi e st ok y => by
    rw [rangeL_len] at hi
    obtain ⟨rfl, rfl⟩ := y
    exact ⟨_, rangeL_get hi, rfl, .refl, st, .int _⟩
  stop := fun m H s e st ok => by show n ≤ (rangeL lo n c).length; rw [rangeL_len]; exact Nat.le_refl _
theorem bnd_ok {i : Int} (h : bnd i = true) : -(2 ^ 62) ≤ i ∧ i < 2 ^ 62 := by
  unfold bnd at h
  simp only [Bool.and_eq_true, decide_eq_true_eq] at h
  exact h
theorem rngW_ok {es : List IE} {xs : List Expr} {p pos : Pos} (hg : Gl X "range") (hm : X.mg "range" = none) (hs : xs.all notStar = true) (hl : xs.length = es.length) (hn : 1 ≤ xs.length ∧ xs.length ≤ 3) (h : PA X xs (tZ X.w X.K W pr (runEr q es))) : PI X tg (.Call (.Name "range" p) xs [] pos) (tI X.w X.K W pr (runI q (.range es))) := by
  match xs, hn with
  | [a], _ =>
    rw [List.all_cons, Bool.and_eq_true] at hs
    refine PI.imp (pi_range1 hg hm h (star_cons hs.1)) fun σ H Q ⟨m, ρ, s, R, p⟩ => bZq pkI R p fun ds s1 m1 vs H1 e0 p1 e1 R1 r1 => ?_
    have hd := (runEr_len e0).trans hl.symm
    unfold rngI at p1
    split at p1
    · split at p1
      · rename_i j hb
        cases r1 with | cons r t =>
        cases t
        cases r
        exact ⟨j, rfl, (bnd_ok hb).1, (bnd_ok hb).2, p1 m1 H1 _ .refl R1.st walkR⟩
      · exact p1.elim
    · cases hd
    · cases hd
    · exact p1.elim
  | [a, b], _ =>
    rw [List.all_cons, List.all_cons, Bool.and_eq_true, Bool.and_eq_true] at hs
    refine PI.imp (pi_range2 hg hm h ((star_cons hs.1).trans (by rw [star_cons hs.2.1] <;> rfl)) (star_cons hs.2.1)) fun σ H Q ⟨m, ρ, s, R, p⟩ => bZq pkI R p fun ds s1 m1 vs H1 e0 p1 e1 R1 r1 => ?_
    have hd := (runEr_len e0).trans hl.symm
    unfold rngI at p1
    split at p1
    · cases hd
    · split at p1
      · rename_i i j hb
        rw [Bool.and_eq_true] at hb
        cases r1 with | cons r t =>
        cases t with | cons r' t =>
        cases t
        cases r
        cases r'
        exact ⟨i, j, rfl, ⟨(bnd_ok hb.1).1, (bnd_ok hb.1).2, (bnd_ok hb.2).1, (bnd_ok hb.2).2⟩, p1 m1 H1 _ .refl R1.st walkR⟩
      · exact p1.elim
    · cases hd
    · exact p1.elim
  | [a, b, c], _ =>
    have hs0 := hs
    rw [List.all_cons, Bool.and_eq_true] at hs
    refine PI.imp (pi_range3 hg hm h (star_cons hs.1) (star_any hs.2)) fun σ H Q ⟨m, ρ, s, R, p⟩ => bZq pkI R p fun ds s1 m1 vs H1 e0 p1 e1 R1 r1 => ?_
    have hd := (runEr_len e0).trans hl.symm
    unfold rngI at p1
    split at p1
    · cases hd
    · cases hd
    · split at p1
      · rename_i i j k hb
        rw [Bool.and_eq_true, Bool.and_eq_true] at hb
        have hk : k = -1 := by simpa using hb.2
        subst hk
        cases r1 with | cons r t =>
        cases t with | cons r' t =>
        cases t with | cons r'' t =>
        cases t
        cases r
        cases r'
        cases r''
        exact ⟨i, j, -1, _, rfl, RgC.neg (bnd_ok hb.1.1).1 (bnd_ok hb.1.1).2 (bnd_ok hb.1.2).1 (bnd_ok hb.1.2).2, p1 m1 H1 _ .refl R1.st walkC⟩
      · exact p1.elim
    · exact p1.elim
  | _ :: _ :: _ :: _ :: _, h => simp at h
theorem zip_get {xs : List D} {i : Nat} {d : D} (h : xs[i]? = some d) : (xs.zipIdx.map fun p : D × Nat => D.tup [.int (p.2 : Nat), p.1])[i]? = some (.tup [.int (i : Nat), d]) := by
  rw [List.getElem?_map, List.getElem?_zipIdx, h]
  simp
theorem zip_len {xs : List D} : (xs.zipIdx.map fun p : D × Nat => D.tup [.int (p.2 : Nat), p.1]).length = xs.length := by simp
theorem enum_yld {w : World} {K : PySem.W.Frag} {m : List Addr} {H : Hp} {s : S} {I : Its} {i : Nat} {T : Addr} {x : V} {d : D} (st : StOk w K m H s) (e : I.xs[i]? = some d) (hs : d.shr = true) (r : Rp w K m H d x) (hT : H T = none) :
    ∃ d', (I.xs.zipIdx.map fun p : D × Nat => D.tup [.int (p.2 : Nat), p.1])[i]? = some d' ∧ d'.shr = true ∧ Ex m H m (upd H T (.tup [.int (i : Nat), x])) ∧ StOk w K m (upd H T (.tup [.int (i : Nat), x])) s ∧ Rp w K m (upd H T (.tup [.int (i : Nat), x])) d' (.ref T) :=
  ⟨_, zip_get e, rfl, .new st hT, st.new hT, .tup (.inl ⟨.inl upd_same, st.nin hT⟩) (.cons rfl (.int _) (.cons hs (r.mono (.new st hT)) .nil))⟩
theorem enumW_ok {a : IE} {x : Expr} {elts : List Expr} {kk : Nat} {tpos p pos : Pos} (hg : Gl X "enumerate") (hm : X.mg "enumerate" = none) (hs : notStar x = true) (ha : PE X x (tD X.w X.K W pr (runE q a))) : PI X (.Tuple elts kk tpos) (.Call (.Name "enumerate" p) [x] [] pos) (tI X.w X.K W pr (runI q (.enum a))) := by
  refine PI.imp (pi_enumA hg hm (pa_cons ha pa_nil (star_cons hs)) (star_cons hs)) fun σ H Q ⟨m, ρ, s, R, p⟩ => bE pkI R p fun d s1 m1 v H1 p1 e1 R1 r1 f1 => ?_
  unfold enumI at p1
  cases e : seqI d s1 with
  | ok I s' =>
    rw [e] at p1
    obtain ⟨rfl, a, rfl, h⟩ := seqI_src R1.st r1 e
    rcases h with ⟨⟨us, h0⟩, h⟩ | ⟨⟨us, h0⟩, h⟩
    · refine ⟨a, us, rfl, .inl ⟨h0, p1 m1 H1 _ .refl R1.st ⟨fun i m H s hi e st ok => ?_, fun i m H s v H' hi e st ok y => ?_, fun m H s e st ok => ?_⟩⟩⟩
      · rw [zip_len] at hi
        obtain ⟨vs, sq, rs⟩ := h m H s e st ok
        exact ⟨vs, vs[i]'(by rw [rs.length]; exact hi), sq, by simp⟩
      · rw [zip_len] at hi
        obtain ⟨vs, sq, rs⟩ := h m H s e st ok
        obtain ⟨T, x, rfl, hT, rfl, y⟩ := y
        obtain ⟨v', e2, r, hs⟩ := rs.get (List.getElem?_eq_getElem hi)
        rw [y vs sq] at e2
        cases e2
        exact enum_yld st (List.getElem?_eq_getElem hi) hs r hT
      · rw [zip_len]
        obtain ⟨vs, sq, rs⟩ := h m H s e st ok
        exact ⟨vs, sq, by rw [rs.length]; exact Nat.le_refl _⟩
    · refine ⟨a, us, rfl, .inr ⟨h0, p1 m1 H1 _ .refl R1.st ⟨fun i m H s hi e st ok => ?_, fun i m H s v H' hi e st ok y => ?_, fun m H s e st ok => ?_⟩⟩⟩
      · rw [zip_len] at hi
        obtain ⟨vs, sq, rs⟩ := h m H s e st ok
        exact ⟨vs, vs[i]'(by rw [rs.length]; exact hi), sq, by simp⟩
      · rw [zip_len] at hi
        obtain ⟨vs, sq, rs⟩ := h m H s e st ok
        obtain ⟨T, x, rfl, hT, rfl, y⟩ := y
        obtain ⟨v', e2, r, hs⟩ := rs.get (List.getElem?_eq_getElem hi)
        rw [y vs sq] at e2
        cases e2
        exact enum_yld st (List.getElem?_eq_getElem hi) hs r hT
      · rw [zip_len]
        obtain ⟨vs, sq, rs⟩ := h m H s e st ok
        exact ⟨vs, sq, rs.length⟩
  | exc C fs s' => unfold seqI at e; split at e <;> first | cases e | (split at e <;> cases e)
  | bad => rw [e] at p1; exact p1.elim
end
end DI

set_option Elab.async false
set_option linter.all false
set_option maxRecDepth 100000
set_option maxHeartbeats 4000000
/-! DI 10.5: instances, their fields and methods, defs as values, dicts: expressions. -/
namespace DI
open PySem PySem.Spec PyProof.Rows L2
section
variable {X : Cx} {W : WX}
/-- the def at a may be called so -/
def CallK (X : Cx) (W : WX) (σ : L2.St) (a : Addr) (vs : List V) (H : Hp) (Q : VK) : Prop := ∃ (fd : FuncData) (ps : List Str) (k : Nat) (sp : Sp), FnOk X.prog X.w X.K X.mg X.base (L2.CX X.prog X.w) k a fd ps sp ∧ Room k X.A ∧ Binds X.K fd ps [] ∧ sp vs H Q (WE W σ)
theorem run_callK {pins : List (Addr × Obj)} {σ : L2.St} {H : Hp} {s : Shared} {Q : VK} {us : List Value} {vs : List V} {a : Addr} (tk : Takes X W) (I : Inv X pins σ H s) (r : Vals vs us) (h : CallK X W σ a vs H Q) : wpAny (model X.prog X.w) X.A (call (.ref a) us) (EP X pins σ Q) X.xe s := by
  obtain ⟨fd, ps, k, sp, F, hr, hb, q⟩ := h
  exact run_fnS (E := WE W) F hr hb (passAt tk σ) I r q
def tCallX (X : Cx) (W : WX) (tf : TE) (t : TA) : TE := fun σ H Q => tf σ H fun v H1 => ∃ a, v = .ref a ∧ PySem.W.keepIn X.K (.ref a) = true ∧ t σ H1 fun vs H2 => CallK X W σ a vs H2 Q
theorem pe_callX {f e : Expr} {es : List Expr} {pos : Pos} {tf : TE} {t : TA} (tk : Takes X W) (hf : nameSub f = true) (he : PE X f tf) (ha : PA X (e :: es) t) (hs : (e :: es).all notStar = true) : PE X (.Call f (e :: es) [] pos) (tCallX X W tf t) := by
  rw [List.all_cons, Bool.and_eq_true] at hs
  refine ⟨fun pins s σ H Q I h => ?_⟩
  have key : wpAny (model X.prog X.w) X.A (eval f X.env) (fun f s₁ => wpAny (model X.prog X.w) X.A (callWith pos f [] (backTo pos (starEach (e :: es) X.env)) []) (EP X pins σ Q) X.xe s₁) X.xe s := by
    refine thn (he.run pins s σ H _ I h) fun u s1 ⟨v, H1, I1, rv, a, ev, hk, q⟩ => ?_
    subst ev
    obtain rfl : u = Value.ref a := rv
    exact PySem.W.callWith_K (h₀ := X.base) I.ok.mod.kin hk (thn (ha.run pos pins s1 σ H1 _ I1 q) fun us s2 ⟨vs, H2, I2, r, q2⟩ => ⟨I2.kIn, run_callK tk I2 r q2⟩) (star_cons hs.1) (star_any hs.2)
  cases f with
  | Name x p => exact wpAny_Call_Name_kw key
  | Subscript x y p => exact Call_ key
  | _ => cases hf
theorem pe_callX0 {f : Expr} {pos : Pos} {tf : TE} (tk : Takes X W) (hf : nameSub f = true) (he : PE X f tf) : PE X (.Call f [] [] pos) (tCallX X W tf tNil) := by
  refine ⟨fun pins s σ H Q I h => ?_⟩
  have key : wpAny (model X.prog X.w) X.A (eval f X.env) (fun f s₁ => wpAny (model X.prog X.w) X.A (callWith pos f [] (backTo pos (starEach [] X.env)) []) (EP X pins σ Q) X.xe s₁) X.xe s := by
    refine thn (he.run pins s σ H _ I h) fun u s1 ⟨v, H1, I1, rv, a, ev, hk, q⟩ => ?_
    subst ev
    obtain rfl : u = Value.ref a := rv
    exact PySem.W.callWith_K0 I1.kIn hk (run_callK (us := []) tk I1 .nil q)
  cases f with
  | Name x p => exact wpAny_Call_Name_kw key
  | Subscript x y p => exact Call_ key
  | _ => cases hf
/-- the tree of a method call -/
theorem meth_tree {o : Expr} {m : Str} {apos pos : Pos} {xs : List Expr} (hb : plainB o = true) (hl : (apos.endLine == pos.line) = true) (hn : xs.length < 20) (hs : xs.all notStar = true) :
    eval (.Call (.Attribute o m apos) xs [] pos) X.env = (do
      let ov ← eval o X.env
      standAt apos.atName
      let (f, first) ← holding [ov] (getMethod ov m (do return (← importBound o X.env).getD true))
      callWith pos f first (backTo pos (starEach xs X.env)) (backToKw pos (keywordEach [] X.env))) := by
  refine mcall_of (attr_plain hb) fun ov => ?_
  have hfew : methodCallForm (xs.length + ([] : List Keyword).length) (backTo pos (starEach xs X.env)) (backToKw pos (keywordEach [] X.env)) = true := by
    unfold methodCallForm
    rw [star_all hs]
    show (true && true && decide (xs.length + 0 + 0 < 30)) = true
    rw [decide_eq_true (by omega)]; rfl
  unfold methodCall calleeOf methodCallPos
  rw [hfew]
  simp only [hl, if_true, Bool.not_true, Bool.false_or]
  rfl
def tMethX (X : Cx) (W : WX) (to : TE) (m : Str) (t : TA) : TE := fun σ H Q => to σ H fun x H1 => ∃ a C dx fs g, x = .ref a ∧ H1 a = some (.ins C dx fs) ∧ Cls X.K C ∧ Meth X.K C m g ∧ fs.lookup m = none ∧ t σ H1 fun vs H2 => CallK X W σ g (.ref a :: vs) H2 Q
theorem pe_methX {o e : Expr} {m : Str} {es : List Expr} {apos pos : Pos} {to : TE} {t : TA} (tk : Takes X W) (hb : plainB o = true) (hl : (apos.endLine == pos.line) = true) (hn : (e :: es).length < 20) (hs : (e :: es).all notStar = true) (ho : PE X o to) (ha : PA X (e :: es) t) :
    PE X (.Call (.Attribute o m apos) (e :: es) [] pos) (tMethX X W to m t) := by
  have hs2 := hs
  rw [List.all_cons, Bool.and_eq_true] at hs2
  refine ⟨fun pins s σ H Q I h => ?_⟩
  refine PySem.W.methodCall_KW (thn (ho.run pins s σ H _ I h) fun u s1 ⟨x, H1, I1, rx, a, C, dx, fs, g, ex, ea, c, hm, l, q⟩ => ?_) (meth_tree hb hl hn hs)
  subst ex
  obtain rfl : u = Value.ref a := rx
  refine getmeth_ok I1 ea c hm l ?_
  refine PySem.W.callWith_K (first := [.ref a]) (h₀ := X.base) I.ok.mod.kin hm.kp (thn (ha.run pos pins s1 σ H1 _ I1 q) fun us s2 ⟨vs, H2, I2, r, q2⟩ => ⟨I2.kIn, ?_⟩) (star_cons hs2.1) (star_any hs2.2)
  exact run_callK (us := .ref a :: us) (vs := .ref a :: vs) tk I2 (.cons rfl r) q2
theorem pe_methX0 {o : Expr} {m : Str} {apos pos : Pos} {to : TE} (tk : Takes X W) (hb : plainB o = true) (hl : (apos.endLine == pos.line) = true) (ho : PE X o to) :
    PE X (.Call (.Attribute o m apos) [] [] pos) (tMethX X W to m tNil) := by
  refine ⟨fun pins s σ H Q I h => ?_⟩
  refine PySem.W.methodCall_KW (thn (ho.run pins s σ H _ I h) fun u s1 ⟨x, H1, I1, rx, a, C, dx, fs, g, ex, ea, c, hm, l, q⟩ => ?_) (meth_tree hb hl (by decide) rfl)
  subst ex
  obtain rfl : u = Value.ref a := rx
  refine getmeth_ok I1 ea c hm l ?_
  exact PySem.W.callWith_K0 (first := [.ref a]) I1.kIn hm.kp (run_callK (us := [.ref a]) (vs := [.ref a]) tk I1 (.cons rfl .nil) q)
/-- a new instance -/
def tMakeX (X : Cx) (W : WX) (C fI : Addr) (t : TA) : TE := fun σ H Q => t σ H fun vs H1 => ∀ x dx, H1 x = none → H1 dx = none → dx ≠ x →
  ∃ (fd : FuncData) (ps : List Str) (k : Nat) (sp : Sp), FnOk X.prog X.w X.K X.mg X.base (L2.CX X.prog X.w) k fI fd ps sp ∧ Room (k + 1) X.A ∧ Binds X.K fd ps [] ∧ sp (.ref x :: vs) (upd (upd H1 dx (.own x)) x (.ins C dx [])) (fun v H2 => v = .non ∧ Q (.ref x) H2) (WE W σ)
theorem run_makeX {pins : List (Addr × Obj)} {σ : L2.St} {H : Hp} {s : Shared} {Q : VK} {us : List Value} {vs : List V} {C fI : Addr} (tk : Takes X W) (M : Mk X.K C fI) (I : Inv X pins σ H s) (r : Vals vs us)
    (h : ∀ x dx, H x = none → H dx = none → dx ≠ x → ∃ (fd : FuncData) (ps : List Str) (k : Nat) (sp : Sp), FnOk X.prog X.w X.K X.mg X.base (L2.CX X.prog X.w) k fI fd ps sp ∧ Room (k + 1) X.A ∧ Binds X.K fd ps [] ∧ sp (.ref x :: vs) (upd (upd H dx (.own x)) x (.ins C dx [])) (fun v H2 => v = .non ∧ Q (.ref x) H2) (WE W σ)) :
    wpAny (model X.prog X.w) X.A (call (.ref C) us) (EP X pins σ Q) X.xe s := by
  obtain ⟨fd, ps, k, sp, F, hr, hb, hq⟩ := h (s.heap.objs.size + 1) s.heap.objs.size (I.hok.fresh (Nat.le_succ _)) (I.hok.fresh (Nat.le_refl _)) (Nat.ne_of_lt (Nat.lt_succ_self _))
  have I2 := Inv.made (C := C) I
  have r2 : Vals (V.ref (s.heap.objs.size + 1) :: vs) (Value.ref (s.heap.objs.size + 1) :: us) := .cons rfl r
  have hl : (Value.ref (s.heap.objs.size + 1) :: us).length = ps.length := by
    have e := r2.length
    rw [F.len _ _ _ _ hq] at e
    exact e.symm
  have b := hb { s with heap := (s.heap.push PySem.W.emptyDict).push (PySem.W.instObj C s.heap.objs.size) } (Value.ref (s.heap.objs.size + 1) :: us) I2.kIn (by rw [List.append_nil]; exact hl)
  rw [List.append_nil] at b
  refine wpAny_call (make_map (f := fI) I.kIn M.makes M.init (beq_iff_eq.mp M.fn) (codeAny_mono (F.run _ X.stack _ _ ⟨Value.ref (s.heap.objs.size + 1) :: us, []⟩ (Value.ref (s.heap.objs.size + 1) :: us) _ _ (WE W σ) (hr.make C us [])
    (I2.env0.make C us []) b r2 hq) fun r s' hq' => ?_))
  cases r with
  | error e => exact passAt tk σ pins _ _ e s' I2 hq'
  | ok fl =>
    cases fl with
    | ret u =>
      obtain ⟨v, H', I3, rv, ev, q3⟩ := I2.after hq'
      subst ev
      exact ⟨rv, ⟨V.ref (s.heap.objs.size + 1), H', I3, rfl, q3⟩⟩
    | next => exact False.elim hq'
    | brk => exact False.elim hq'
    | cont => exact False.elim hq'
theorem pe_makeX {x : Str} {e : Expr} {es : List Expr} {p pos : Pos} {C fI : Addr} {t : TA} (tk : Takes X W) (M : Mk X.K C fI) (hg : Gl X x) (hm : X.mg x = some (.ref C)) (ha : PA X (e :: es) t) (hdb : (x == ("__debug__" : Str)) = false) (hs : (e :: es).all notStar = true) :
    PE X (.Call (.Name x p) (e :: es) [] pos) (tMakeX X W C fI t) := by
  rw [List.all_cons, Bool.and_eq_true] at hs
  refine ⟨fun pins s σ H Q I h => ?_⟩
  refine wpAny_Call_Name_kw (ld_glob I hg hm ?_ hdb)
  refine PySem.W.callWith_K (h₀ := X.base) I.ok.mod.kin M.kp (thn (ha.run pos pins s σ H _ I h) fun us s1 ⟨vs, H1, I1, r, q⟩ => ⟨I1.kIn, ?_⟩) (star_cons hs.1) (star_any hs.2)
  exact run_makeX tk M I1 r q
theorem pe_makeX0 {x : Str} {p pos : Pos} {C fI : Addr} (tk : Takes X W) (M : Mk X.K C fI) (hg : Gl X x) (hm : X.mg x = some (.ref C)) (hdb : (x == ("__debug__" : Str)) = false) :
    PE X (.Call (.Name x p) [] [] pos) (tMakeX X W C fI tNil) := by
  refine ⟨fun pins s σ H Q I h => ?_⟩
  refine wpAny_Call_Name_kw (ld_glob I hg hm ?_ hdb)
  exact PySem.W.callWith_K0 I.kIn M.kp (run_makeX (us := []) tk M I .nil h)
end
section
variable {G : Gs} {q : Rq} {Z : Sc} {W : WX} {pr : Option Hdp} {X : Cx}
theorem anyE_ok {x : Expr} : PE X x (tD X.w X.K W pr (runE q .any)) := ⟨fun _ _ _ _ _ _ ⟨_, _, _, _, p⟩ => p.elim⟩
theorem anyT_ok {x : Expr} : PT X x (tT X.w X.K W pr (runT q .any)) := ⟨fun _ _ _ _ _ _ ⟨_, _, _, _, p⟩ => p.elim⟩
theorem anyW_ok {x : Expr} : PW X x (tT X.w X.K W pr (runT q .any)) := ⟨fun _ _ _ _ _ _ _ ⟨_, _, _, _, p⟩ => p.elim⟩
theorem anyI_ok {tg x : Expr} : PI X tg x (tI X.w X.K W pr (runI q .any)) := ⟨fun _ _ _ _ _ _ ⟨_, _, _, _, p⟩ => p.elim⟩
theorem fnvE_ok {f : Str} {pos : Pos} (x : XOk G q Z W pr X) (h1 : gloB Z.sc f = true) (h2 : nmB f = true) (h3 : f ∈ G.fns.map (·.1)) : PE X (.Name f pos) (tD X.w X.K W pr (runE q (.fnv f))) :=
  PE.imp (pe_glob (v := .ref (He.ga X.K f)) (gloB_ok x h1) (x.fnv f h3) rfl (nmB_ok h2).1) fun σ H Q ⟨m, ρ, s, R, p⟩ => post_same p R.st (.fn f) rfl
/-- a call whose args are gathered -/
theorem call_post {w : World} {K : PySem.W.Frag} {σ : L2.St} {m : List Addr} {H : Hp} {s : S} {Q : VK} {n : Nat} {f : List D → S → R D} {ds : List D} {vs : List V} (st : StOk w K m H s) (r : Rps w K m H ds vs) (hl : ∀ ds s, ds.length ≠ n → f ds s = .bad) (p : PostE w K W σ m H Q (f ds s)) : spF w K n f vs H Q (WE W σ) := by
  by_cases h : ds.length = n
  · exact spF_of st r h p
  · rw [hl ds s h] at p; exact p.elim
theorem callxE_ok {a : IE} {es : List IE} {f : Expr} {xs : List Expr} {pos : Pos} (x : XOk G q Z W pr X) (hc : Z.calm = true) (hf : nameSub f = true) (hs : xs.all notStar = true) (hl : xs.length = es.length)
    (he : PE X f (tD X.w X.K W pr (runE q a))) (h : PA X xs (tA X.w X.K W pr (runEs q es))) : PE X (.Call f xs [] pos) (tD X.w X.K W pr (runE q (.callx a es))) := by
  have key : ∀ (t : TA), PE X (.Call f xs [] pos) (tCallX X W (tD X.w X.K W pr (runE q a)) t) → (∀ (m : List Addr) (ρ : En) (s : S) (σ : L2.St) (H : Hp) (Q : List V → Hp → Prop), Rst X.w X.K pr m ρ s σ H → tA X.w X.K W pr (runEs q es) σ H Q → t σ H Q) → PE X (.Call f xs [] pos) (tD X.w X.K W pr (runE q (.callx a es))) := by
    intro t h1 h2
    refine PE.imp h1 fun σ H Q ⟨m, ρ, s, R, p⟩ => bE pkE R p fun d s1 m1 v H1 p1 e1 R1 r1 f1 => ?_
    split at p1
    · rename_i g
      cases r1
      split at p1
      · rename_i hq
        obtain ⟨fd, ps, k, n, F, hr, hk, hb, hn⟩ := x.isf hc g hq
        exact ⟨_, rfl, hk, h2 m1 ρ s1 σ H1 _ R1 (bA pkE R1 p1 fun ds s2 m2 vs H2 p2 e2 R2 r2 => ⟨fd, ps, k, _, F, hr, hb, call_post R2.st r2 hn p2⟩)⟩
      · exact p1.elim
    · exact p1.elim
  cases xs with
  | nil =>
    cases es with
    | nil => exact key tNil (pe_callX0 x.tk hf he) fun m ρ s σ H Q R ⟨m', ρ', s', R', p⟩ => p m' [] H .refl R'.st .nil
    | cons _ _ => cases hl
  | cons e xs => exact key _ (pe_callX x.tk hf he h hs) fun _ _ _ _ _ _ _ h => h
theorem fldE_ok {a : IE} {f : Str} {e : Expr} {pos : Pos} (x : XOk G q Z W pr X) (hb : plainB e = true) (he : PE X e (tD X.w X.K W pr (runE q a))) : PE X (.Attribute e f pos) (tD X.w X.K W pr (runE q (.fld a f))) := by
  refine PE.imp (pe_fld he (attr_plain hb)) fun σ H Q ⟨m, ρ, s, R, p⟩ => bE pkE R p fun d s1 m1 v H1 p1 e1 R1 r1 f1 => ?_
  split at p1
  · rename_i i
    split at p1
    · rename_i C fs e2
      split at p1
      · rename_i hc
        split at p1
        · rename_i d e3
          cases r1 with
          | ref hm =>
          obtain ⟨a, e4, dx, vs, ha, rf⟩ := R1.st.at_ _ _ e2
          rw [hm] at e4; cases e4
          obtain ⟨c, na⟩ := x.cf C f hc
          have key : ∀ {fs : List (Str × D)} {vs : List (Str × V)}, Fs X.w X.K m1 H1 fs vs → ∀ {d : D}, fs.lookup f = some d → ∃ v, vs.lookup f = some v ∧ Rp X.w X.K m1 H1 d v ∧ d.shr = true := by
            intro fs vs h
            induction h with
            | nil => intro d e; cases e
            | @cons g d0 v0 fs vs hs hr _ ih =>
              intro d e
              rw [List.lookup_cons] at e ⊢
              split at e
              · cases e; exact ⟨v0, rfl, hr, hs⟩
              · exact ih e
          obtain ⟨v, ev, rv, hs⟩ := key rf e3
          exact ⟨_, _, dx, vs, v, rfl, ha, c, na, ev, post_same p1 R1.st rv hs⟩
        · exact p1.elim
      · exact p1.elim
    · exact p1.elim
  · exact p1.elim
theorem Fs.none {w : World} {K : PySem.W.Frag} {m : List Addr} {H : Hp} {f : Str} : ∀ {fs : List (Str × D)} {vs : List (Str × V)}, Fs w K m H fs vs → fs.lookup f = none → vs.lookup f = none
  | _, _, .nil, _ => rfl
  | _, _, .cons _ _ r, e => by
    rw [List.lookup_cons] at e ⊢
    split at e
    · cases e
    · exact Fs.none r e
theorem mclE_ok {o : IE} {mn : Str} {es : List IE} {e : Expr} {xs : List Expr} {apos pos : Pos} (x : XOk G q Z W pr X) (hc : Z.calm = true) (hb : plainB e = true) (hln : (apos.endLine == pos.line) = true) (hn : xs.length < 20) (hs : xs.all notStar = true) (hl : xs.length = es.length)
    (he : PE X e (tD X.w X.K W pr (runE q o))) (h : PA X xs (tA X.w X.K W pr (runEs q es))) : PE X (.Call (.Attribute e mn apos) xs [] pos) (tD X.w X.K W pr (runE q (.mcl o mn es))) := by
  have key : ∀ (t : TA), PE X (.Call (.Attribute e mn apos) xs [] pos) (tMethX X W (tD X.w X.K W pr (runE q o)) mn t) → (∀ (σ : L2.St) (H : Hp) (Q : List V → Hp → Prop), tA X.w X.K W pr (runEs q es) σ H Q → t σ H Q) → PE X (.Call (.Attribute e mn apos) xs [] pos) (tD X.w X.K W pr (runE q (.mcl o mn es))) := by
    intro t h1 h2
    refine PE.imp h1 fun σ H Q ⟨m, ρ, s, R, p⟩ => bE pkE R p fun d s1 m1 v H1 p1 e1 R1 r1 f1 => ?_
    split at p1
    · rename_i i
      split at p1
      · rename_i C fs e2
        split at p1
        · rename_i f e3 e4
          cases r1 with
          | ref hm =>
          obtain ⟨a, e5, dx, vs, ha, rf⟩ := R1.st.at_ _ _ e2
          rw [hm] at e5; cases e5
          obtain ⟨fa, fd, ps, k, n, F, hr, c, me, hbd, hbad⟩ := x.mt hc C mn f e3
          refine ⟨_, _, dx, vs, fa, rfl, ha, c, me, rf.none e4, h2 σ H1 _ (bA pkE R1 p1 fun ds s2 m2 us H2 p2 e6 R2 r2 => ⟨fd, ps, k, _, F, hr, hbd, ?_⟩)⟩
          exact call_post (f := q.c f) R2.st (.cons rfl (.ref (get_pre e6.pre hm)) r2) hbad p2
        · exact p1.elim
      · exact p1.elim
    · exact p1.elim
  cases xs with
  | nil =>
    cases es with
    | nil => exact key tNil (pe_methX0 x.tk hb hln he) fun σ H Q ⟨m', ρ', s', R', p⟩ => p m' [] H .refl R'.st .nil
    | cons _ _ => cases hl
  | cons e xs => exact key _ (pe_methX x.tk hb hln hn hs he h) fun _ _ _ h => h
theorem mkE_ok {C : Str} {es : List IE} {xs : List Expr} {p pos : Pos} (x : XOk G q Z W pr X) (hc : Z.calm = true) (hC : C ∈ G.mks) (hg : Gl X C) (hd : (C == ("__debug__" : Str)) = false) (hs : xs.all notStar = true) (hl : xs.length = es.length)
    (h : PA X xs (tA X.w X.K W pr (runEs q es))) : PE X (.Call (.Name C p) xs [] pos) (tD X.w X.K W pr (runE q (.mk C es))) := by
  obtain ⟨f, hq, fI, fd, ps, k, n, M, F, hr, hm, hbd, hbad⟩ := x.mki hc C hC
  have key : ∀ (t : TA), PE X (.Call (.Name C p) xs [] pos) (tMakeX X W (He.ga X.K C) fI t) → (∀ (σ : L2.St) (H : Hp) (Q : List V → Hp → Prop), tA X.w X.K W pr (runEs q es) σ H Q → t σ H Q) → PE X (.Call (.Name C p) xs [] pos) (tD X.w X.K W pr (runE q (.mk C es))) := by
    intro t h1 h2
    refine PE.imp h1 fun σ H Q ⟨m, ρ, s, R, p⟩ => h2 σ H _ (bA pkE R p fun ds s1 m1 vs H1 p1 e1 R1 r1 x dx hx hdx hne => ⟨fd, ps, k, _, F, hr, hbd, ?_⟩)
    rw [hq] at p1
    dsimp only at p1
    -- the new thing
    have hx2 : upd H1 dx (.own x) x = none := by rw [upd_ne (Ne.symm hne)]; exact hx
    have E1 : Ex m1 H1 m1 (upd H1 dx (.own x)) := .new R1.st hdx
    have S1 := R1.st.new (o := .own x) hdx
    have E2 : Ex m1 (upd H1 dx (.own x)) m1 (upd (upd H1 dx (.own x)) x (.ins (He.ga X.K C) dx [])) := .new S1 hx2
    have S2 := S1.new (o := .ins (He.ga X.K C) dx []) hx2
    have nx : x ∉ m1 := R1.st.nin hx
    have ow : Own (upd (upd H1 dx (.own x)) x (.ins (He.ga X.K C) dx []) x) := by rw [upd_same]; exact own_ins
    have S3 := S2.push (ob := .ins C []) ow nx ⟨dx, [], upd_same, .nil⟩
    have E3 : Ex m1 H1 (m1 ++ [x]) (upd (upd H1 dx (.own x)) x (.ins (He.ga X.K C) dx [])) := (E1.trans E2).settle hx
    have r3 : Rps X.w X.K (m1 ++ [x]) (upd (upd H1 dx (.own x)) x (.ins (He.ga X.K C) dx [])) (.ref s1.length :: ds) (.ref x :: vs) := .cons rfl (.ref (by rw [← R1.st.len]; simp)) (r1.mono E3)
    refine call_post (f := q.c f) S3 r3 hbad ?_
    cases e : q.c f (.ref s1.length :: ds) (s1 ++ [.ins C []]) with
    | ok r s2 =>
      rw [e] at p1
      cases r with
      | non =>
        refine fun m2 v H2 ex st rp fr => ?_
        cases rp
        exact ⟨rfl, p1 m2 _ H2 (E3.trans ex) st (.ref (get_pre ex.pre (by rw [← R1.st.len]; simp))) fun z => by cases z⟩
      | _ => exact p1.elim
    | exc C' fs s2 =>
      rw [e] at p1
      exact fun m2 H2 dx' ex st xa => p1 m2 H2 dx' (E3.trans ex) st xa
    | bad => rw [e] at p1; exact p1.elim
  cases xs with
  | nil =>
    cases es with
    | nil => exact key tNil (pe_makeX0 x.tk M hg hm hd) fun σ H Q ⟨m', ρ', s', R', p⟩ => p m' [] H .refl R'.st .nil
    | cons _ _ => cases hl
  | cons e xs => exact key _ (pe_makeX x.tk M hg hm h hd hs) fun _ _ _ h => h
end
end DI

set_option Elab.async false
set_option linter.all false
set_option maxRecDepth 100000
set_option maxHeartbeats 4000000
/-! DI 10.6: dicts: put, displays, get, pairs; locks. -/
namespace DI
open PySem PySem.Spec PyProof.Rows L2
theorem any_hasK {α : Type} (k : Key) : ∀ {ks : List Key} {vs : List α}, ks.length = vs.length → ((ks.zip vs).any fun kv => decide (kv.1 = k)) = hasK k ks
  | [], [], _ => rfl
  | j :: ks, v :: vs, h => by
    rw [List.zip_cons_cons, List.any_cons, any_hasK k (by simpa using h)]; rfl
theorem map_putX (k : Key) (v : V) : ∀ {ks : List Key} {vs : List V}, ks.length = vs.length → ((ks.zip vs).map fun kv => if kv.1 = k then (kv.1, v) else kv) = ks.zip (putX k v ks vs)
  | [], [], _ => rfl
  | j :: ks, u :: vs, h => by
    rw [List.zip_cons_cons, List.map_cons, map_putX k v (by simpa using h)]
    show _ = (j :: ks).zip ((if j = k then v else u) :: putX k v ks vs)
    rw [List.zip_cons_cons]
    by_cases e : j = k
    · rw [if_pos e, if_pos e]
    · rw [if_neg e, if_neg e]
theorem putX_len {α : Type} (k : Key) (v : α) : ∀ {ks : List Key} {vs : List α}, ks.length = vs.length → (putX k v ks vs).length = ks.length
  | [], [], _ => rfl
  | j :: ks, u :: vs, h => by
    show (putX k v ks vs).length + 1 = _
    rw [putX_len k v (by simpa using h)]; rfl
theorem put_len {α : Type} (k : Key) (v : α) {ks : List Key} {vs : List α} (h : ks.length = vs.length) : (putKs k ks).length = (putVs k v ks vs).length := by
  unfold putKs putVs
  split
  · exact (putX_len k v h).symm
  · simp [h]
theorem putKs_le {k : Key} {ks : List Key} : (putKs k ks).length ≤ ks.length + 1 := by
  unfold putKs
  split <;> simp
theorem putK_zip (k : Key) (v : V) {ks : List Key} {vs : List V} (h : ks.length = vs.length) : putK (ks.zip vs) k v = (putKs k ks).zip (putVs k v ks vs) := by
  unfold putK putKs putVs
  rw [any_hasK k h]
  split
  · exact map_putX k v h
  · rw [List.zip_append h]; rfl
theorem merge_zip : ∀ {js : List Key} {us : List V} {ks : List Key} {vs : List V}, ks.length = vs.length → js.length = us.length → mergeK (ks.zip vs) (js.zip us) = (mrg ks vs js us).1.zip (mrg ks vs js us).2 ∧ (mrg ks vs js us).1.length = (mrg ks vs js us).2.length
  | [], [], _, _, h, _ => ⟨rfl, h⟩
  | j :: js, u :: us, ks, vs, h, h2 => by
    have := merge_zip (js := js) (us := us) (put_len j u h) (by simpa using h2)
    rw [List.zip_cons_cons]
    show mergeK (putK (ks.zip vs) j u) (js.zip us) = _ ∧ _
    rw [putK_zip j u h]
    exact this
section
variable {w : World} {K : PySem.W.Frag} {m : List Addr} {H : Hp}
theorem Rps.putX {k : Key} {d : D} {v : V} (hs : d.shr = true) (hd : Rp w K m H d v) : ∀ {ks : List Key} {ds : List D} {vs : List V}, Rps w K m H ds vs → Rps w K m H (DI.putX k d ks ds) (DI.putX k v ks vs)
  | [], _, _, _ => .nil
  | _ :: _, _, _, .nil => .nil
  | j :: ks, _, _, .cons hs0 h r => by
    unfold DI.putX
    by_cases e : j = k
    · rw [if_pos e, if_pos e]; exact .cons hs hd (Rps.putX hs hd r)
    · rw [if_neg e, if_neg e]; exact .cons hs0 h (Rps.putX hs hd r)
theorem Rps.putVs {k : Key} {d : D} {v : V} (hs : d.shr = true) (hd : Rp w K m H d v) {ks : List Key} {ds : List D} {vs : List V} (r : Rps w K m H ds vs) : Rps w K m H (DI.putVs k d ks ds) (DI.putVs k v ks vs) := by
  unfold DI.putVs
  split
  · exact r.putX hs hd
  · exact r.app (.cons hs hd .nil)
theorem Rps.mrg : ∀ {js : List Key} {es : List D} {us : List V} {ks : List Key} {ds : List D} {vs : List V}, Rps w K m H es us → Rps w K m H ds vs → (DI.mrg ks ds js es).1 = (DI.mrg ks vs js us).1 ∧ Rps w K m H (DI.mrg ks ds js es).2 (DI.mrg ks vs js us).2
  | [], _, _, _, _, _, .nil, r => ⟨rfl, r⟩
  | [], _, _, _, _, _, .cons _ _ _, r => ⟨rfl, r⟩
  | _ :: _, _, _, _, _, _, .nil, r => ⟨rfl, r⟩
  | j :: js, _, _, ks, ds, vs, .cons hs h t, r => by
    unfold DI.mrg
    exact Rps.mrg t (r.putVs hs h)
end
theorem Rp.other {w : World} {K : PySem.W.Frag} {m : List Addr} {H : Hp} {a : Addr} {ob : HO} (ha : Own (H a)) {d : D} {v : V} (hs : d.shr = true) (h : Rp w K m H d v) : Rp w K m (upd H a ob) d v := by
  have key : ∀ (d : D) (v : V), d.shr = true → Rp w K m H d v → Rp w K m (upd H a ob) d v := by
    intro d
    induction d using D.rec (motive_2 := fun ds => ∀ vs, Rps w K m H ds vs → Rps w K m (upd H a ob) ds vs) with
    | non => intro v _ h; cases h; exact .non
    | bl b => intro v _ h; cases h; exact .bl b
    | int b => intro v _ h; cases h; exact .int b
    | str b => intro v _ h; cases h; exact .str b
    | tup xs ih =>
      intro v _ h
      cases h with
      | @tup _ vs b t r =>
        refine .tup ?_ (ih _ r)
        rcases t with ⟨t, n⟩ | t
        · have ne : b ≠ a := fun z => by
            subst z
            rcases t with t | ⟨o, t⟩
            · exact ha.1 _ t
            · exact ha.2 _ _ t
          refine .inl ⟨?_, n⟩
          rcases t with t | ⟨o, t⟩
          · exact .inl (by rw [upd_ne ne]; exact t)
          · exact .inr ⟨o, by rw [upd_ne ne]; exact t⟩
        · exact .inr t
    | ref i => intro v _ h; cases h with | ref e => exact .ref e
    | lst xs => intro v h; cases h
    | rol xs ih =>
      intro v _ h
      cases h with
      | @rol _ vs b t r =>
        refine .rol ?_ (ih _ r)
        rcases t with ⟨⟨o, t⟩, n⟩ | t
        · have ne : b ≠ a := fun z => by
            subst z
            exact ha.2 _ _ t
          exact .inl ⟨⟨o, by rw [upd_ne ne]; exact t⟩, n⟩
        · exact .inr t
    | ist xs => intro v h; cases h
    | dic ks xs => intro v h; cases h
    | fn f => intro v _ h; cases h; exact .fn f
    | nil => rename_i z; cases z; exact .nil
    | cons d ds i1 i2 =>
      rename_i vs z
      cases z with
      | cons s h r => exact .cons s (i1 _ s h) (i2 _ r)
  exact key d v hs h
section
variable {w : World} {K : PySem.W.Frag} {W : WX} {pr : Option Hdp} {σ : L2.St} {m : List Addr} {H : Hp} {s : S} {ρ : En} {a : Addr} {ob : HO}
theorem Rps.other (ha : Own (H a)) : ∀ {ds : List D} {vs : List V}, Rps w K m H ds vs → Rps w K m (upd H a ob) ds vs := by
  intro ds
  induction ds with
  | nil => intro vs h; cases h; exact .nil
  | cons d ds ih => intro vs h; cases h with | cons s h r => exact .cons s (h.other ha s) (ih r)
theorem Fs.other (ha : Own (H a)) : ∀ {fs vs}, Fs w K m H fs vs → Fs w K m (upd H a ob) fs vs
  | _, _, .nil => .nil
  | _, _, .cons s h r => .cons s (h.other ha s) (Fs.other ha r)
theorem StOk.other (ha : Own (H a)) (na : a ∉ m) (st : StOk w K m H s) : StOk w K m (upd H a ob) s :=
  ⟨st.len, st.nd, fun i o e => by
    obtain ⟨b, e1, q⟩ := st.at_ i o e
    have ne : b ≠ a := fun z => na (z ▸ List.mem_of_getElem? e1)
    refine ⟨b, e1, ?_⟩
    cases o with
    | lst ds => obtain ⟨vs, q1, q2⟩ := q; exact ⟨vs, by rw [upd_ne ne]; exact q1, q2.other ha⟩
    | ins C fs => obtain ⟨dx, vs, q1, q2⟩ := q; exact ⟨dx, vs, by rw [upd_ne ne]; exact q1, q2.other ha⟩
    | dic lk ks ds => obtain ⟨vs, q1, q2, q3⟩ := q; exact ⟨vs, by rw [upd_ne ne]; exact q1, q2, q3.other ha⟩⟩
theorem Ex.upd0 {m1 : List Addr} {H1 : Hp} {o : HO} (e : Ex m H m1 H1) (h : H a = none) : Ex m H m1 (upd H1 a o) :=
  ⟨e.pre, fun b ob q n => ⟨by rw [upd_ne (ne_of_none q h)]; exact (e.old b ob q n).1, (e.old b ob q n).2⟩, fun b ob u q => by rw [upd_ne (ne_of_none q h)]; exact e.frz b ob u q⟩
end
/-- what stood, stands -/
theorem Ex.ext {m : List Addr} {H H' : Hp} (h : ∀ b o, H b = some o → H' b = some o) : Ex m H m H' := ⟨List.prefix_refl _, fun b o e n => ⟨h b o e, n⟩, fun b o u e => h b _ e⟩
theorem StOk.ext {w : World} {K : PySem.W.Frag} {m : List Addr} {H H' : Hp} {s : S} (st : StOk w K m H s) (h : ∀ b o, H b = some o → H' b = some o) : StOk w K m H' s :=
  ⟨st.len, st.nd, fun i ob e => by
    obtain ⟨a, e1, q⟩ := st.at_ i ob e
    refine ⟨a, e1, q.keep (Ex.ext h) ?_⟩
    cases z : H a with
    | none => exact absurd z q.there
    | some o => exact h a o z⟩
section
variable {G : Gs} {q : Rq} {Z : Sc} {W : WX} {pr : Option Hdp} {X : Cx}
theorem get_val {w : World} {K : PySem.W.Frag} {m : List Addr} {H : Hp} {k : Key} {ks : List Key} {ds : List D} {vs : List V} {x : D} {u : V} (r : Rps w K m H ds vs) (hx : x.shr = true) (rx : Rp w K m H x u) :
    Rp w K m H ((getX k ks ds).getD x) ((getX k ks vs).getD u) ∧ ((getX k ks ds).getD x).shr = true := by
  cases e : getX k ks ds with
  | none =>
    rw [(r.getX (k := k) (ks := ks)).2 e]
    exact ⟨rx, hx⟩
  | some d =>
    obtain ⟨v, e1, rd, hs⟩ := (r.getX (k := k) (ks := ks)).1 d e
    rw [e1]
    exact ⟨rd, hs⟩
theorem dget1E_ok {o a : IE} {x y : Expr} {apos cpos : Pos} (hu : X.A.units + 65 < cLine) (hb : plainB x = true) (hl : (apos.endLine == cpos.line) = true) (hs : notStar y = true) (ho : PE X x (tD X.w X.K W pr (runE q o))) (ha : PE X y (tD X.w X.K W pr (runE q a))) :
    PE X (.Call (.Attribute x "get" apos) [y] [] cpos) (tD X.w X.K W pr (runE q (.dget o [a]))) := by
  have hst : starEach [y] X.env = (false, eval y X.env) :: starEach [] X.env := star_cons hs
  refine PE.imp (pe_dget1 (by omega) ho ha ⟨attr_plain hb, by rw [hst]; rfl, hl, by rw [hst]; rfl⟩) fun σ H Q ⟨m, ρ, s, R, p⟩ => bE pkE R p fun d s1 m1 v H1 p1 e1 R1 r1 f1 => ?_
  split at p1
  · rename_i hd
    obtain ⟨⟨ks, xs⟩, hd⟩ := Option.isSome_iff_exists.mp hd
    obtain ⟨b, vs, rfl, rd, hl, rs⟩ := dicOf_h R1.st r1 hd
    refine ⟨b, rfl, .inl ⟨_, rd⟩, ?_⟩
    unfold runEs at p1
    rw [bind_as] at p1
    refine bES pkE R1 p1 fun d2 s2 m2 v2 H2 p2 e2 R2 r2 hs2 => ?_
    unfold runEs at p2
    have p2 : PostE X.w X.K W σ m2 H2 Q (getD d [d2] s2) := p2
    unfold getD at p2
    split at p2
    · rename_i ks2 xs2 a2 e3 e4
      cases e4
      split at p2
      · rename_i k ek
        obtain ⟨b', vs2, e5, rd2, hl2, rs2⟩ := dicOf_h R2.st (r1.mono e2) e3
        cases e5
        rw [key_v r2 ek]
        obtain ⟨g1, g2⟩ := get_val (k := k) (ks := ks2) rs2 (x := .non) rfl .non
        exact ⟨_, dget_h rd2, post_same p2 R2.st g1 g2⟩
      · exact p2.elim
    · rename_i e4; cases e4
    · exact p2.elim
  · exact p1.elim
theorem dget2E_ok {o a c : IE} {x y z : Expr} {apos cpos : Pos} (hu : X.A.units + 65 < cLine) (hb : plainB x = true) (hl : (apos.endLine == cpos.line) = true) (hs : notStar y = true) (hs2 : notStar z = true) (ho : PE X x (tD X.w X.K W pr (runE q o))) (ha : PE X y (tD X.w X.K W pr (runE q a))) (hc : PE X z (tD X.w X.K W pr (runE q c))) :
    PE X (.Call (.Attribute x "get" apos) [y, z] [] cpos) (tD X.w X.K W pr (runE q (.dget o [a, c]))) := by
  have hst : starEach [y, z] X.env = (false, eval y X.env) :: starEach [z] X.env := star_cons hs
  have hst2 : starEach [z] X.env = (false, eval z X.env) :: starEach [] X.env := star_cons hs2
  refine PE.imp (pe_dget2 (by omega) ho ha hc ⟨attr_plain hb, by rw [hst, hst2]; rfl, hl, by rw [hst, hst2]; rfl⟩) fun σ H Q ⟨m, ρ, s, R, p⟩ => bE pkE R p fun d s1 m1 v H1 p1 e1 R1 r1 f1 => ?_
  split at p1
  · rename_i hd
    obtain ⟨⟨ks, xs⟩, hd⟩ := Option.isSome_iff_exists.mp hd
    obtain ⟨b, vs, rfl, rd, hl, rs⟩ := dicOf_h R1.st r1 hd
    refine ⟨b, rfl, .inl ⟨_, rd⟩, ?_⟩
    unfold runEs at p1
    rw [bind_as] at p1
    refine bES pkE R1 p1 fun d2 s2 m2 v2 H2 p2 e2 R2 r2 hs2 => ?_
    unfold runEs at p2
    rw [bind_as, bind_as] at p2
    refine bES pkE R2 p2 fun d3 s3 m3 v3 H3 p3 e3 R3 r3 hs3 => ?_
    unfold runEs at p3
    have p3 : PostE X.w X.K W σ m3 H3 Q (getD d [d2, d3] s3) := p3
    unfold getD at p3
    split at p3
    · rename_i e5; cases e5
    · rename_i ks2 xs2 a2 x2 e4 e5
      cases e5
      split at p3
      · rename_i k ek
        obtain ⟨b', vs2, e6, rd2, hl2, rs2⟩ := dicOf_h R3.st ((r1.mono e2).mono e3) e4
        cases e6
        rw [key_v r2 ek]
        obtain ⟨g1, g2⟩ := get_val (k := k) (ks := ks2) rs2 hs3 r3
        exact ⟨_, dget_h rd2, post_same p3 R3.st g1 g2⟩
      · exact p3.elim
    · exact p3.elim
  · exact p1.elim
theorem pairs_rps {w : World} {K : PySem.W.Frag} {m : List Addr} {H H' : Hp} (e : Ex m H m H') : ∀ {ks : List Key} {ds : List D} {vs : List V} {ts : List Addr}, ks.length = ds.length → Rps w K m H ds vs → (∀ t ∈ ts, t ∉ m) → Paired (fun (t : Addr) (q : Key × V) => H' t = some (.tup [kV q.1, q.2])) ts (ks.zip vs) →
    Rps w K m H' (prD ks ds) (ts.map V.ref)
  | [], _, _, ts, _, _, _, p => by
    rw [List.zip_nil_left] at p
    cases p; exact .nil
  | k :: ks, _, _, ts, hl, .nil, _, p => by simp at hl
  | k :: ks, _, _, ts, hl, .cons hs h r, hn, p => by
    rw [List.zip_cons_cons] at p
    cases p with
    | @cons t _ ts' _ h1 p =>
      refine .cons rfl ?_ (pairs_rps e (by simpa using hl) r (fun t ht => hn t (List.mem_cons_of_mem _ ht)) p)
      exact .tup (.inl ⟨.inl h1, hn t List.mem_cons_self⟩) (.cons (by cases k <;> rfl) (by cases k <;> constructor) (.cons hs (h.mono e) .nil))
theorem itmsE_ok {b : Blt} {a : IE} {nm : Str} {x : Expr} {p apos cpos pos : Pos} (hc : X.calm = true) (hg : Gl X nm) (hm : X.mg nm = none) (hb : plainB x = true) (hl : (apos.endLine == cpos.line) = true) (hn : (match b with
      | .tuple => decide (nm = "tuple")
      | .list => decide (nm = "list")
      | _ => false) = true) (he : PE X x (tD X.w X.K W pr (runE q a))) : PE X (.Call (.Name nm p) [.Call (.Attribute x "items" apos) [] [] cpos] [] pos) (tD X.w X.K W pr (runE q (.itms b a))) := by
  have key : ∀ (mkO : List V → HO) (mkD : List D → D), (∀ (m : List Addr) (H : Hp) (s : S) (ds : List D) (vs : List V) (σ : L2.St) (Q : VK), PostE X.w X.K W σ m H Q (.ok (mkD ds) s) → StOk X.w X.K m H s → Rps X.w X.K m H ds vs → ∀ (H0 : Hp), (∀ b o, H0 b = some o → H b = some o) → ∀ a, H a = none → Q (.ref a) (upd H a (mkO vs))) →
      PE X (.Call (.Name nm p) [.Call (.Attribute x "items" apos) [] [] cpos] [] pos) (tItems mkO (tD X.w X.K W pr (runE q a))) →
      (∀ (ks : List Key) (xs : List D) (s : S), (match b with
      | .tuple => (.ok (.tup (prD ks xs)) s : DI.R D)
      | .list => .ok (.lst (prD ks xs)) s
      | _ => .bad) = .ok (mkD (prD ks xs)) s) →
      PE X (.Call (.Name nm p) [.Call (.Attribute x "items" apos) [] [] cpos] [] pos) (tD X.w X.K W pr (runE q (.itms b a))) := by
    intro mkO mkD hpost hpe hbq
    refine PE.imp hpe fun σ H Q ⟨m, ρ, s, R, p⟩ => bE pkE R p fun d s1 m1 v H1 p1 e1 R1 r1 f1 => ?_
    split at p1
    · rename_i ks xs hd
      have p1 : PostE X.w X.K W σ m1 H1 Q (.ok (mkD (prD ks xs)) s1) := by
        rw [← hbq ks xs s1]
        exact p1
      obtain ⟨b', vs, rfl, rd, hl, rs⟩ := dicOf_h R1.st r1 hd
      refine ⟨b', _, rfl, rd, fun H' p' ts h1 h2 h3 h4 h5 => ?_⟩
      have ex : Ex m1 H1 m1 H' := Ex.ext h1
      have st := R1.st.ext h1
      exact hpost m1 H' s1 _ _ σ Q (p1.mono ex st) st (pairs_rps ex hl rs (fun t ht => R1.st.nin (h2 t ht)) h5) H1 h1 p' h3
    · exact p1.elim
  cases b with
  | tuple =>
    have hn := of_decide_eq_true hn
    subst hn
    exact key .tup .tup (fun m H s ds vs σ Q p st r H0 _ a ha => post_tup p st r a ha) (pe_tupItems hc he hg hm (attr_plain hb) hl (star_cons rfl)) fun _ _ _ => rfl
  | list =>
    have hn := of_decide_eq_true hn
    subst hn
    exact key .lst .lst (fun m H s ds vs σ Q p st r H0 _ a ha => post_lst p st r a ha) (pe_lstItems hc he hg hm (attr_plain hb) hl (star_cons rfl)) fun _ _ _ => rfl
  | _ => cases hn
/-! ### displays -/
def trs (w : World) (K : PySem.W.Frag) (W : WX) (pr : Option Hdp) (q : Rq) : List IE → List (TE × TE)
  | k :: v :: r => (tD w K W pr (runE q k), tD w K W pr (runE q v)) :: trs w K W pr q r
  | _ => []
theorem ks_post {w : World} {K : PySem.W.Frag} {σ : L2.St} {ρ : En} {α : Type} {P : List Addr → Hp → R α → Prop} (hP : Pk w K W σ P) : ∀ {es : List IE} {m : List Addr} {H : Hp} {s : S} {g : List Key × List D → S → R α} {k : List (V × V) → Hp → Prop}, Rst w K pr m ρ s σ H → P m H ((runKs q es ρ s).bind g) →
    (∀ ks ds s1 m1 vs H1, P m1 H1 (g (ks, ds) s1) → Ex m H m1 H1 → Rst w K pr m1 ρ s1 σ H1 → Rps w K m1 H1 ds vs → ks.length = ds.length → 2 * ks.length = es.length → k ((ks.zip vs).map fun p => (kV p.1, p.2)) H1) → tPairs (trs w K W pr q es) σ H k
  | [], m, H, s, g, k, R₀, h, hk => by
    unfold runKs at h
    exact hk [] [] s m [] H h .refl R₀ .nil rfl rfl
  | [_], m, H, s, g, k, R₀, h, hk => by
    unfold runKs at h
    exact (hP.bad h).elim
  | a :: b :: r, m, H, s, g, k, R₀, h, hk => by
    unfold runKs at h
    rw [bind_as] at h
    refine bE hP R₀ h fun d1 s1 m1 v1 H1 p1 e1 R1 r1 f1 => ?_
    rw [bind_as] at p1
    refine bES hP R1 p1 fun d2 s2 m2 v2 H2 p2 e2 R2 r2 hs2 => ?_
    cases ek : keyD d1 with
    | none =>
      rw [ek] at p2
      exact (hP.bad p2).elim
    | some kk =>
      rw [ek] at p2
      dsimp only at p2
      rw [bind_as] at p2
      refine ks_post hP R2 p2 fun ks ds s3 m3 vs H3 p3 e3 R3 r3 hl he => ?_
      have := hk (kk :: ks) (d2 :: ds) s3 m3 (v2 :: vs) H3 p3 ((e1.trans e2).trans e3) R3 (.cons hs2 (r2.mono e3) r3) (by simp [hl]) (by simp; omega)
      rw [key_v r1 ek]
      exact this
theorem dctE_ok {es : List IE} {ks : List (Option Expr)} {vs : List Expr} {pos : Pos} (hall : ks.all (·.isSome) = true) (hl : ks.length = vs.length) (hel : es.length = 2 * ks.length) (h15 : ks.length ≤ 15) (h : PPs X pos ks vs (trs X.w X.K W pr q es)) :
    PE X (.Dict ks vs pos) (tD X.w X.K W pr (runE q (.dct es))) := by
  cases ks with
  | nil =>
    cases vs with
    | cons _ _ => cases hl
    | nil =>
    cases es with
    | cons _ _ => simp at hel
    | nil => exact PE.imp pe_dnewK fun σ H Q ⟨m, ρ, s, R, p⟩ => fun a ha => post_dic (ks := []) (ds := []) (vs := []) p R.st rfl .nil a ha
  | cons k ks =>
    refine PE.imp (pe_disp h hall hl (by simp) h15) fun σ H Q ⟨m, ρ, s, R, p⟩ => fun b hb => ?_
    have nb : b ∉ m := R.st.nin hb
    have ex0 : Ex m H m (upd H b (.dK [])) := .new R.st hb
    have R' := R.mono ex0 (R.st.new (o := .dK []) hb)
    have hP : Pk X.w X.K W σ (fun m' H' (r : DI.R D) => Ex m H m' H' ∧ PostE X.w X.K W σ m H Q r) := ⟨fun h m' H' dx e st xa => h.2 m' H' dx (h.1.trans e) st xa, fun h => h.2, fun e _ h => ⟨h.1.trans e, h.2⟩⟩
    refine ks_post (σ := σ) hP R' ⟨ex0, p⟩ fun kk ds s1 m1 us H1 p1 e1 R1 r1 hl1 he1 => ?_
    have hb1 : H1 b = some (.dK []) := (e1.old b _ upd_same nb).1
    have nb1 : b ∉ m1 := (e1.old b _ upd_same nb).2
    have hl2 : kk.length = us.length := by rw [r1.length, hl1]
    obtain ⟨z1, z2⟩ := merge_zip (ks := []) (vs := []) (js := kk) (us := us) rfl hl2
    refine ⟨hb1, kk.zip us, rfl, ?_, ?_⟩
    · rw [List.length_zip]; simp only [List.length_cons] at h15 hel; omega
    · have z1 : mergeK [] (kk.zip us) = (mrg [] [] kk us).1.zip (mrg [] [] kk us).2 := z1
      rw [z1]
      obtain ⟨y1, y2⟩ := Rps.mrg (js := kk) (ks := []) r1 .nil
      have own : Own (H1 b) := by rw [hb1]; exact own_dK
      rw [← y1]
      refine p1.2 m1 (.ref b) _ (p1.1.upd0 hb) (R1.st.other own nb1) (.dic upd_same nb1 ?_ (y2.other own)) fun _ => ⟨b, rfl, hb⟩
      rw [y1, z2, y2.length]
/-! ### locks -/
theorem pur_val {m : List Addr} {σ : L2.St} {H : Hp} {ρ : En} : ∀ {p : IE} {s : S} {d : D} {s' : S}, purB p = true → Rst X.w X.K pr m ρ s σ H → runE q p ρ s = .ok d s' → s' = s ∧ ∃ v, Rp X.w X.K m H d v
  | .var i, s, d, s', _, R, h => by
    unfold runE at h
    split at h
    · rename_i d' e
      cases h
      obtain ⟨_, v, _, r⟩ := R.at_ i _ e
      exact ⟨rfl, v, r⟩
    · cases h
  | .fld e f, s, d, s', hp, R, h => by
    unfold runE at h
    cases e1 : runE q e ρ s with
    | ok d1 s1 =>
      rw [e1] at h
      obtain ⟨rfl, v, r⟩ := pur_val (p := e) hp R e1
      dsimp only [DI.R.bind] at h
      split at h
      · rename_i i
        split at h
        · rename_i C fs e2
          split at h
          · split at h
            · rename_i d2 e3
              cases h
              obtain ⟨a, _, dx, vs, _, rf⟩ := R.st.at_ _ _ e2
              have key : ∀ {fs : List (Str × D)} {vs : List (Str × V)}, Fs X.w X.K m H fs vs → ∀ {d : D}, fs.lookup f = some d → ∃ v, Rp X.w X.K m H d v := by
                intro fs vs h
                induction h with
                | nil => intro d e; cases e
                | @cons g d0 v0 fs vs hs hr _ ih =>
                  intro d e
                  rw [List.lookup_cons] at e
                  split at e
                  · cases e; exact ⟨v0, hr⟩
                  · exact ih e
              exact ⟨rfl, key rf e3⟩
            · cases h
          · cases h
        · cases h
      · cases h
    | exc C fs s1 => rw [e1] at h; cases h
    | bad => rw [e1] at h; cases h
/-- while locked -/
theorem lock_in {w : World} {K : PySem.W.Frag} {m : List Addr} {H : Hp} {s : S} {ρ : En} {σ : L2.St} {i : Nat} {a : Addr} {ks : List Key} {xs : List D} {vs : List V} (R : Rst w K pr m ρ s σ H) (hm : m[i]? = some a) (hd : H a = some (.dK (ks.zip vs))) (hl : ks.length = xs.length) (rs : Rps w K m H xs vs) (od : Obj) :
    Rst w K pr m ρ (s.set i (.dic true ks xs)) σ (upd H a (.frz od (.dK (ks.zip vs)))) :=
  have e0 : Ex0 m H m (upd H a (.frz od (.dK (ks.zip vs)))) := Ex0.write (List.mem_of_getElem? hm)
  R.mono0 e0 (R.st.write hm ⟨vs, by rw [if_pos rfl]; exact ⟨od, upd_same⟩, hl, rs.mono0 e0⟩)
theorem lock_ex {m m' : List Addr} {H H' : Hp} {a : Addr} {od : Obj} {u : List (Key × V)} (hm : a ∈ m) (hd : H a = some (.dK u)) (ex : Ex m (upd H a (.frz od (.dK u))) m' H') : Ex m H m' H' := by
  refine ⟨ex.pre, fun b o e n => ?_, fun b o x e => ?_⟩
  · have hb : b ≠ a := fun z => n (by rw [z]; exact hm)
    exact ex.old b o (by rw [upd_ne hb]; exact e) n
  · have hb : b ≠ a := fun z => by rw [z, hd] at e; cases e
    exact ex.frz b o x (by rw [upd_ne hb]; exact e)
theorem lock_ex2 {m m' : List Addr} {H H' : Hp} {a : Addr} {od : Obj} {u : List (Key × V)} {o2 : HO} (hm : a ∈ m) (hd : H a = some (.dK u)) (ex : Ex m (upd H a (.frz od (.dK u))) m' H') : Ex m H m' (upd H' a o2) := by
  have e := lock_ex hm hd ex
  refine ⟨e.pre, fun b o q n => ?_, fun b o x q => ?_⟩
  · have hb : b ≠ a := fun z => n (by rw [z]; exact hm)
    rw [upd_ne hb]; exact e.old b o q n
  · have hb : b ≠ a := fun z => by rw [z, hd] at q; cases q
    rw [upd_ne hb]; exact e.frz b o x q
/-- behind the lock: the store is as it was but for the lock -/
theorem lock_out {w : World} {K : PySem.W.Frag} {m : List Addr} {H : Hp} {s s' : S} {i : Nat} {a : Addr} {od : Obj} {u : List (Key × V)} (st : StOk w K m H s) (hm : m[i]? = some a) (hf : H a = some (.frz od (.dK u))) (h : unlS i s = some s') : StOk w K m (upd H a (.dK u)) s' ∧ Ex0 m H m (upd H a (.dK u)) := by
  have e0 : Ex0 m H m (upd H a (.dK u)) := Ex0.write (List.mem_of_getElem? hm)
  refine ⟨?_, e0⟩
  unfold unlS at h
  split at h
  · rename_i ks xs e
    cases h
    obtain ⟨b, e1, vs, h1, h2, h3⟩ := st.at_ _ _ e
    rw [hm] at e1; cases e1
    rw [if_pos rfl] at h1
    obtain ⟨o, h1⟩ := h1
    rw [hf] at h1
    cases h1
    exact st.write hm ⟨vs, by rw [if_neg (by decide)]; exact upd_same, h2, h3.mono0 e0⟩
  · cases h
theorem lokE_ok {p a : IE} {e : Expr} (hp : purB p = true) (he : PE X e (tD X.w X.K W pr (runE q a))) : PE X e (tD X.w X.K W pr (runE q (.lok p a))) := by
  refine ⟨fun pins sh σ H Q I ⟨m, ρ, s, R, h⟩ => ?_⟩
  unfold runE at h
  split at h
  · rename_i i s1 e1
    obtain ⟨rfl, v, rv⟩ := pur_val hp R e1
    split at h
    · rename_i ks xs e2
      cases rv with
      | @ref _ b hm =>
      obtain ⟨b', e3, vs, hd, hl, rs⟩ := R.st.at_ _ _ e2
      rw [hm] at e3; cases e3
      rw [if_neg (by decide)] at hd
      refine (pe_lock he).run pins sh σ H Q I ⟨_, _, hd, True.intro, fun od => ⟨m, ρ, _, lock_in R hm hd hl rs od, ?_⟩⟩
      cases er : runE q a ρ (List.set s1 i (.dic true ks xs)) with
      | ok d s2 =>
        rw [er] at h
        have h : PostE X.w X.K W σ m H Q (match s2[i]? with
          | some (.dic true ks xs) => .ok d (s2.set i (.dic false ks xs))
          | _ => .bad) := h
        intro m' v' H' ex st rp fr
        have hf := ex.frz _ od _ upd_same
        refine ⟨hf, ?_⟩
        split at h
        · rename_i ks2 xs2 e4
          have hu : unlS i s2 = some (s2.set i (.dic false ks2 xs2)) := by unfold unlS; rw [e4]
          obtain ⟨st2, e0⟩ := lock_out st (get_pre ex.pre hm) hf hu
          refine h m' v' _ (lock_ex2 (List.mem_of_getElem? hm) hd ex) st2 (rp.mono0 e0) fun z => ?_
          obtain ⟨c, ec, hc⟩ := fr z
          refine ⟨c, ec, ?_⟩
          rw [upd_ne fun y => by rw [y, upd_same] at hc; cases hc] at hc
          exact hc
        · exact h.elim
      | exc C fs s2 =>
        rw [er] at h
        exact fun m' H' dx ex st xa => h m' H' dx (lock_ex (List.mem_of_getElem? hm) hd ex) st xa
      | bad => rw [er] at h; exact h.elim
    · exact he.run pins sh σ H Q I ⟨m, ρ, s1, R, h⟩
    · exact h.elim
  · exact h.elim
end
end DI

set_option Elab.async false
set_option linter.all false
set_option maxRecDepth 100000
set_option maxHeartbeats 4000000
/-! DI 10.7: walks of dicts, of two rows. -/
namespace DI
open PySem PySem.Spec PyProof.Rows L2
section
variable {w : World} {K : PySem.W.Frag} {m0 : List Addr} {H0 : Hp}
theorem zip_getV {ks : List Key} {vs : List V} {i : Nat} {k : Key} {v : V} (h : (ks.zip vs)[i]? = some (k, v)) : ks[i]? = some k ∧ vs[i]? = some v := by
  rw [List.getElem?_zip_eq_some] at h
  exact h
theorem walkK {d : Addr} {o : Obj} {ks : List Key} {vs : List V} (hf : H0 d = some (.frz o (.dK (ks.zip vs)))) (hl : ks.length = vs.length) : WalkD w K m0 H0 (Itk d o (ks.zip vs)) ⟨ks.map Kd, fun _ => true⟩ where
  go := fun i m H s hi e st ok => ⟨e.frz d o _ hf, by simp at hi ⊢; omega⟩
  yld := fun i m H s v H' hi e st ok y => by
    obtain ⟨rfl, k, u, e1, rfl⟩ := y
    obtain ⟨e2, _⟩ := zip_getV e1
    refine ⟨Kd k, by rw [List.getElem?_map, e2]; rfl, by cases k <;> rfl, .refl, st, by cases k <;> constructor⟩
  stop := fun m H s e st ok => ⟨e.frz d o _ hf, by simp; omega⟩
theorem walkP {d : Addr} {o : Obj} {ks : List Key} {ds : List D} {vs : List V} (hf : H0 d = some (.frz o (.dK (ks.zip vs)))) (hl : ks.length = ds.length) (rs : Rps w K m0 H0 ds vs) : WalkD w K m0 H0 (Iti d o (ks.zip vs)) ⟨prD ks ds, fun _ => true⟩ where
  go := fun i m H s hi e st ok => ⟨e.frz d o _ hf, by
    have := rs.length
    unfold prD at hi
    simp at hi ⊢; omega⟩
  yld := fun i m H s v H' hi e st ok y => by
    obtain ⟨T, k, u, e1, rfl, hT, rfl⟩ := y
    obtain ⟨e2, e3⟩ := zip_getV e1
    have hi2 : i < ds.length := by
      unfold prD at hi
      simp at hi; omega
    obtain ⟨u', e4, r, hs⟩ := rs.get (List.getElem?_eq_getElem hi2)
    rw [e3] at e4; cases e4
    have ex := Ex.new st (o := .tup [kV k, u]) hT
    refine ⟨.tup [Kd k, ds[i]], ?_, rfl, ex, st.new hT, .tup (.inl ⟨.inl upd_same, st.nin hT⟩) (.cons (by cases k <;> rfl) (by cases k <;> constructor) (.cons hs ((r.mono e).mono ex) .nil))⟩
    unfold prD
    rw [List.getElem?_map, (List.getElem?_zip_eq_some (z := (k, ds[i]))).mpr ⟨e2, List.getElem?_eq_getElem hi2⟩]; rfl
  stop := fun m H s e st ok => ⟨e.frz d o _ hf, by
    have := rs.length
    unfold prD
    simp; omega⟩
theorem prs_get {xs ys : List D} {i : Nat} {x y : D} (h1 : xs[i]? = some x) (h2 : ys[i]? = some y) : (prs xs ys)[i]? = some (.tup [x, y]) := by
  unfold prs
  rw [List.getElem?_map, (List.getElem?_zip_eq_some (z := (x, y))).mpr ⟨h1, h2⟩]; rfl
theorem prs_len {xs ys : List D} : (prs xs ys).length = min xs.length ys.length := by unfold prs; simp
theorem pair_yld {m : List Addr} {H : Hp} {s : S} {T : Addr} {x y : V} {d e : D} (st : StOk w K m H s) (hT : H T = none) (hd : d.shr = true) (he : e.shr = true) (rd : Rp w K m H d x) (re : Rp w K m H e y) :
    Ex m H m (upd H T (.tup [x, y])) ∧ StOk w K m (upd H T (.tup [x, y])) s ∧ Rp w K m (upd H T (.tup [x, y])) (.tup [d, e]) (.ref T) :=
  have ex := Ex.new st (o := .tup [x, y]) hT
  ⟨ex, st.new hT, .tup (.inl ⟨.inl upd_same, st.nin hT⟩) (.cons hd (rd.mono ex) (.cons he (re.mono ex) .nil))⟩
theorem walkZL {I J : Its} {a b : Addr} (h1 : ∀ m H s, Ex m0 H0 m H → StOk w K m H s → I.ok s = true → ∃ vs, SqL K H a vs ∧ Rps w K m H I.xs vs) (h2 : ∀ m H s, Ex m0 H0 m H → StOk w K m H s → J.ok s = true → ∃ vs, SqL K H b vs ∧ Rps w K m H J.xs vs) :
    WalkD w K m0 H0 (Itz K a b) ⟨prs I.xs J.xs, fun s => I.ok s && J.ok s⟩ where
  go := fun i m H s hi e st ok => by
    have ok : (I.ok s && J.ok s) = true := ok
    rw [Bool.and_eq_true] at ok
    rw [prs_len] at hi
    obtain ⟨vs, sq, rs⟩ := h1 m H s e st ok.1
    obtain ⟨us, sq2, rs2⟩ := h2 m H s e st ok.2
    exact ⟨vs, us, vs[i]'(by rw [rs.length]; omega), us[i]'(by rw [rs2.length]; omega), sq, sq2, by simp, by simp⟩
  yld := fun i m H s v H' hi e st ok y => by
    have ok : (I.ok s && J.ok s) = true := ok
    rw [Bool.and_eq_true] at ok
    rw [prs_len] at hi
    obtain ⟨vs, sq, rs⟩ := h1 m H s e st ok.1
    obtain ⟨us, sq2, rs2⟩ := h2 m H s e st ok.2
    obtain ⟨T, x, z, rfl, hT, rfl, y1, y2⟩ := y
    have hi1 : i < I.xs.length := by omega
    have hi2 : i < J.xs.length := by omega
    obtain ⟨v', e2, r, hs⟩ := rs.get (List.getElem?_eq_getElem hi1)
    obtain ⟨u', e3, r2, hs2⟩ := rs2.get (List.getElem?_eq_getElem hi2)
    rw [y1 vs sq] at e2; cases e2
    rw [y2 us sq2] at e3; cases e3
    obtain ⟨g1, g2, g3⟩ := pair_yld st hT hs hs2 r r2
    exact ⟨_, prs_get (List.getElem?_eq_getElem hi1) (List.getElem?_eq_getElem hi2), rfl, g1, g2, g3⟩
  stop := fun m H s e st ok => by
    have ok : (I.ok s && J.ok s) = true := ok
    rw [Bool.and_eq_true] at ok
    obtain ⟨vs, sq, rs⟩ := h1 m H s e st ok.1
    obtain ⟨us, sq2, rs2⟩ := h2 m H s e st ok.2
    exact ⟨vs, us, sq, sq2, by rw [prs_len, rs.length, rs2.length]; omega⟩
theorem walkZT {I J : Its} {a b : Addr} (h1 : ∀ m H s, Ex m0 H0 m H → StOk w K m H s → I.ok s = true → ∃ vs, SqT K H a vs ∧ Rps w K m H I.xs vs) (h2 : ∀ m H s, Ex m0 H0 m H → StOk w K m H s → J.ok s = true → ∃ vs, SqT K H b vs ∧ Rps w K m H J.xs vs) :
    WalkD w K m0 H0 (RZ.ItzT K a b) ⟨prs I.xs J.xs, fun s => I.ok s && J.ok s⟩ where
  go := fun i m H s hi e st ok => by
    have ok : (I.ok s && J.ok s) = true := ok
    rw [Bool.and_eq_true] at ok
    rw [prs_len] at hi
    obtain ⟨vs, sq, rs⟩ := h1 m H s e st ok.1
    obtain ⟨us, sq2, rs2⟩ := h2 m H s e st ok.2
    exact ⟨vs, us, vs[i]'(by rw [rs.length]; omega), us[i]'(by rw [rs2.length]; omega), sq, sq2, by simp, by simp⟩
  yld := fun i m H s v H' hi e st ok y => by
    have ok : (I.ok s && J.ok s) = true := ok
    rw [Bool.and_eq_true] at ok
    rw [prs_len] at hi
    obtain ⟨vs, sq, rs⟩ := h1 m H s e st ok.1
    obtain ⟨us, sq2, rs2⟩ := h2 m H s e st ok.2
    obtain ⟨T, x, z, rfl, hT, rfl, y1, y2⟩ := y
    have hi1 : i < I.xs.length := by omega
    have hi2 : i < J.xs.length := by omega
    obtain ⟨v', e2, r, hs⟩ := rs.get (List.getElem?_eq_getElem hi1)
    obtain ⟨u', e3, r2, hs2⟩ := rs2.get (List.getElem?_eq_getElem hi2)
    rw [y1 vs sq] at e2; cases e2
    rw [y2 us sq2] at e3; cases e3
    obtain ⟨g1, g2, g3⟩ := pair_yld st hT hs hs2 r r2
    exact ⟨_, prs_get (List.getElem?_eq_getElem hi1) (List.getElem?_eq_getElem hi2), rfl, g1, g2, g3⟩
  stop := fun m H s e st ok => by
    have ok : (I.ok s && J.ok s) = true := ok
    rw [Bool.and_eq_true] at ok
    obtain ⟨vs, sq, rs⟩ := h1 m H s e st ok.1
    obtain ⟨us, sq2, rs2⟩ := h2 m H s e st ok.2
    exact ⟨vs, us, sq, sq2, by rw [prs_len, rs.length, rs2.length]; omega⟩
/-- a list's source is a list, a tuple's a tuple -/
theorem seqI_kind {d : D} {v : V} {s s' : S} {I : Its} (st : StOk w K m0 H0 s) (r : Rp w K m0 H0 d v) (e : seqI d s = .ok I s') : s' = s ∧ ∃ a, v = .ref a ∧
    (((d.lstOf s).isSome = true ∧ (∃ vs, SqL K H0 a vs) ∧ ∀ m H s, Ex m0 H0 m H → StOk w K m H s → I.ok s = true → ∃ vs, SqL K H a vs ∧ Rps w K m H I.xs vs) ∨
     ((d.lstOf s).isSome = false ∧ (∃ vs, SqT K H0 a vs) ∧ ∀ m H s, Ex m0 H0 m H → StOk w K m H s → I.ok s = true → ∃ vs, SqT K H a vs ∧ Rps w K m H I.xs vs)) := by
  unfold seqI at e
  split at e
  · cases e
    cases r with
    | tup h rs => exact ⟨rfl, _, rfl, .inr ⟨rfl, ⟨_, h.sq⟩, fun m H s ex st' _ => ⟨_, (h.mono ex).sq, rs.mono ex⟩⟩⟩
  · cases e
    cases r with
    | lst h n rs => exact ⟨rfl, _, rfl, .inl ⟨rfl, ⟨_, .of h⟩, fun m H s ex st' _ => ⟨_, .of (ex.old _ _ h n).1, rs.mono ex⟩⟩⟩
  · cases e
    cases r with
    | rol h rs => exact ⟨rfl, _, rfl, .inl ⟨rfl, ⟨_, h.sq⟩, fun m H s ex st' _ => ⟨_, (h.mono ex).sq, rs.mono ex⟩⟩⟩
  · split at e
    · rename_i i xs e1
      cases e
      cases r with
      | ref h =>
      obtain ⟨a, vs, e2, ha, rs⟩ := mutOf_h st (.ref h) (xs := xs) e1
      cases e2
      refine ⟨rfl, _, rfl, .inl ⟨by show (lk s _).isSome = true; rw [e1]; rfl, ⟨_, .of ha⟩, fun m H s2 ex st' ok => ?_⟩⟩
      dsimp only at ok
      split at ok
      · rename_i ys e3
        have e4 := sames_eq ok
        subst e4
        obtain ⟨b, us, e5, hb, rs2⟩ := mutOf_h st' (.ref (get_pre ex.pre h)) (xs := ys) e3
        cases e5
        exact ⟨_, .of hb, rs2⟩
      · cases ok
    · cases e
  · cases e
end
section
variable {q : Rq} {W : WX} {pr : Option Hdp} {X : Cx} {tg : Expr}
theorem lk_frz {w : World} {K : PySem.W.Frag} {m : List Addr} {H : Hp} {s : S} {i : Nat} {a : Addr} {ks : List Key} {xs : List D} (st : StOk w K m H s) (hm : m[i]? = some a) (e : s[i]? = some (.dic true ks xs)) : ∃ (o : Obj) (vs : List V), H a = some (.frz o (.dK (ks.zip vs))) ∧ ks.length = xs.length ∧ Rps w K m H xs vs := by
  obtain ⟨b, e1, vs, h1, h2, h3⟩ := st.at_ _ _ e
  rw [hm] at e1; cases e1
  rw [if_pos rfl] at h1
  obtain ⟨o, h1⟩ := h1
  exact ⟨o, vs, h1, h2, h3⟩
theorem walkTx {w : World} {K : PySem.W.Frag} {m0 : List Addr} {H0 : Hp} {z : Str} : WalkD w K m0 H0 (L2.Its z) ⟨z.cps.toList.map fun c => .str ⟨#[c]⟩, fun _ => true⟩ where
  go := fun i m H s hi e st ok => by
    rw [List.length_map] at hi
    show i < z.cps.size
    simpa using hi
  yld := fun i m H s v H' hi e st ok y => by
    obtain ⟨rfl, c, hc, rfl⟩ := y
    exact ⟨_, by rw [List.getElem?_map, Array.getElem?_toList, hc]; rfl, rfl, .refl, st, .str _⟩
  stop := fun m H s e st ok => by
    show z.cps.size ≤ _
    simp
theorem txtW_ok {a : IE} {x : Expr} (ha : PE X x (tD X.w X.K W pr (runE q a))) : PI X tg x (tI X.w X.K W pr (runI q (.txt a))) := by
  refine PI.imp (pi_str ha) fun σ H Q ⟨m, ρ, s, R, p⟩ => bE pkI R p fun d s1 m1 v H1 p1 e1 R1 r1 f1 => ?_
  unfold txtI at p1
  split at p1
  · cases r1
    exact ⟨_, rfl, p1 m1 H1 _ .refl R1.st walkTx⟩
  · exact p1.elim
theorem dkW_ok {a : IE} {x : Expr} (ha : PE X x (tD X.w X.K W pr (runE q a))) : PI X tg x (tI X.w X.K W pr (runI q (.dk a))) := by
  refine PI.imp (pi_keys ha) fun σ H Q ⟨m, ρ, s, R, p⟩ => bE pkI R p fun d s1 m1 v H1 p1 e1 R1 r1 f1 => ?_
  unfold keysI at p1
  split at p1
  · rename_i i
    split at p1
    · rename_i ks xs e
      cases r1 with
      | ref hm =>
      obtain ⟨o, vs, h1, h2, h3⟩ := lk_frz R1.st hm e
      exact ⟨_, o, rfl, .inl ⟨_, h1, p1 m1 H1 _ .refl R1.st (walkK h1 (by rw [h3.length, h2]))⟩⟩
    · exact p1.elim
  · exact p1.elim
theorem diW_ok {a : IE} {x : Expr} {elts : List Expr} {kk : Nat} {tpos apos cpos : Pos} (hb : plainB x = true) (hl : (apos.endLine == cpos.line) = true) (ha : PE X x (tD X.w X.K W pr (runE q a))) : PI X (.Tuple elts kk tpos) (.Call (.Attribute x "items" apos) [] [] cpos) (tI X.w X.K W pr (runI q (.di a))) := by
  refine PI.imp (pi_items ha (attr_plain hb) hl) fun σ H Q ⟨m, ρ, s, R, p⟩ => bE pkI R p fun d s1 m1 v H1 p1 e1 R1 r1 f1 => ?_
  unfold pairsI at p1
  split at p1
  · rename_i i
    split at p1
    · rename_i ks xs e
      cases r1 with
      | ref hm =>
      obtain ⟨o, vs, h1, h2, h3⟩ := lk_frz R1.st hm e
      exact ⟨_, o, _, rfl, h1, p1 m1 H1 _ .refl R1.st (walkP h1 h2 h3)⟩
    · exact p1.elim
  · exact p1.elim
theorem zipW_ok {a b : IE} {x y : Expr} {elts : List Expr} {kk : Nat} {tpos p pos : Pos} (hg : Gl X "zip") (hm : X.mg "zip" = none) (hs : notStar x = true) (hs2 : notStar y = true) (ha : PE X x (tD X.w X.K W pr (runE q a))) (hb : PE X y (tD X.w X.K W pr (runE q b))) :
    PI X (.Tuple elts kk tpos) (.Call (.Name "zip" p) [x, y] [] pos) (tI X.w X.K W pr (runI q (.zip a b))) := by
  refine PI.imp (RZ.pi_zipA hg hm (pa_cons ha (pa_cons hb pa_nil (star_cons hs2)) (star_cons hs)) (star_cons hs) (star_any (by rw [List.all_cons, hs2]; rfl))) fun σ H Q ⟨m, ρ, s, R, p⟩ => bE pkI R p fun d s1 m1 v H1 p1 e1 R1 r1 f1 => bE pkI R1 p1 fun d2 s2 m2 v2 H2 p2 e2 R2 r2 f2 => ?_
  unfold zipI at p2
  split at p2
  · rename_i I _ J _ eI eJ
    split at p2
    · rename_i hk
      obtain ⟨_, a1, rfl, h1⟩ := seqI_kind R2.st (r1.mono e2) eI
      obtain ⟨_, a2, rfl, h2⟩ := seqI_kind R2.st r2 eJ
      rcases h1 with ⟨k1, ⟨us, q1⟩, h1⟩ | ⟨k1, ⟨us, q1⟩, h1⟩ <;> rcases h2 with ⟨k2, ⟨ws, q2⟩, h2⟩ | ⟨k2, ⟨ws, q2⟩, h2⟩
      · exact ⟨a1, a2, us, ws, rfl, .inl ⟨q1, q2, p2 m2 H2 _ .refl R2.st (walkZL h1 h2)⟩⟩
      · rw [k1, k2] at hk; cases hk
      · rw [k1, k2] at hk; cases hk
      · exact ⟨a1, a2, us, ws, rfl, .inr ⟨q1, q2, p2 m2 H2 _ .refl R2.st (walkZT h1 h2)⟩⟩
    · exact p2.elim
  · exact p2.elim
end
end DI

set_option Elab.async false
set_option linter.all false
set_option maxRecDepth 100000
set_option maxHeartbeats 4000000
/-! DI 11: targets, comprehensions. -/
namespace DI
open PySem PySem.Spec PyProof.Rows L2
def PostG (w : World) (K : PySem.W.Frag) (pr : Option Hdp) (σ0 : L2.St) (vs : List Nat) (m0 : List Addr) (H0 : Hp) (Q : L2.St → Hp → Prop) : R En → Prop
  | .ok ρ' s' => ∀ m' σ' H', Ex m0 H0 m' H' → Rst w K pr m' ρ' s' σ' H' → (∀ j, j ∉ vs → σ'[j]? = σ0[j]?) → σ'.length = σ0.length → Q σ' H'
  | _ => False
def gD (w : World) (K : PySem.W.Frag) (pr : Option Hdp) (vs : List Nat) (f : D → En → S → R En) : TG := fun v σ H Q =>
  ∃ m0 H0 m ρ s d, Ex m0 H0 m H ∧ Rst w K pr m ρ s σ H ∧ Rp w K m H d v ∧ Fresh H0 d v ∧ PostG w K pr σ vs m0 H0 Q (f d ρ s)
def gDs (w : World) (K : PySem.W.Frag) (pr : Option Hdp) (ns : List Nat) (f : List D → En → S → R En) : TGs := fun vs σ H Q =>
  ∃ m0 H0 m ρ s ds, Ex m0 H0 m H ∧ Rst w K pr m ρ s σ H ∧ Rps w K m0 H0 ds vs ∧ PostG w K pr σ ns m0 H0 Q (f ds ρ s)
section
variable {w : World} {K : PySem.W.Frag} {W : WX} {pr : Option Hdp} {σ : L2.St} {m : List Addr} {H : Hp} {s : S} {ρ : En}
theorem PostG.mono {vs : List Nat} {m1 : List Addr} {H1 : Hp} {Q : L2.St → Hp → Prop} {r : R En} (e : Ex m H m1 H1) (p : PostG w K pr σ vs m H Q r) : PostG w K pr σ vs m1 H1 Q r := by
  cases r with
  | ok ρ' s' => exact fun m' σ' H' e' => p m' σ' H' (e.trans e')
  | exc C fs s' => exact p
  | bad => exact p
/-- a name is given a value -/
theorem Rst.set {i : Nat} {d : D} {v : V} (R₀ : Rst w K pr m ρ s σ H) (hs : d.shr = true) (r : Rp w K m H d v) (hi : i < ρ.length) (hp : ∀ p, pr = some p → i ≠ p.i) : Rst w K pr m (ρ.set i (some d)) s (σ.set i (some v)) H := by
  refine ⟨R₀.st, by simp [R₀.len], fun j d' e => ?_, fun p e => ?_⟩
  · by_cases hj : i = j
    · subst hj
      rw [List.getElem?_set_self hi] at e
      cases e
      exact ⟨hs, v, by rw [List.getElem?_set_self (by rw [← R₀.len]; exact hi)], r⟩
    · rw [List.getElem?_set_ne hj] at e
      rw [List.getElem?_set_ne hj]
      exact R₀.at_ j d' e
  · rw [List.getElem?_set_ne (hp p e)]
    exact R₀.pin p e
theorem bEn {α : Type} {P : List Addr → Hp → R α → Prop} {f : En → S → R D} {g : D → S → R α} {k : V → Hp → Prop} (hb : ∀ m H, ¬ P m H .bad) (hm : ∀ m H m1 H1 r, Ex m H m1 H1 → P m H r → P m1 H1 r) (R₀ : Rst w K pr m ρ s σ H) (h : P m H (((f ρ s).nox).bind g))
    (hk : ∀ d s1 m1 v H1, P m1 H1 (g d s1) → Ex m H m1 H1 → Rst w K pr m1 ρ s1 σ H1 → Rp w K m1 H1 d v → Fresh H d v → k v H1) : tD w K W pr f σ H k := by
  refine ⟨m, ρ, s, R₀, ?_⟩
  cases q : f ρ s with
  | ok d s1 =>
    rw [q] at h
    exact fun m1 v H1 e st rp fr => hk d s1 m1 v H1 (hm _ _ _ _ _ e h) e (R₀.mono e st) rp fr
  | exc C fs s' => rw [q] at h; exact (hb _ _ h).elim
  | bad => rw [q] at h; exact hb _ _ h
end
section
variable {G : Gs} {q : Rq} {Z : Sc} {W : WX} {pr : Option Hdp} {X : Cx}
theorem nmG_ok {i : Nat} {n : Str} {pos : Pos} (x : XOk G q Z W pr X) (hi : Z.N[i]? = some n) (hl : locB Z n = true) : PG X (.Name n pos) (gD X.w X.K pr [i] (runG q (.nm i))) := by
  have hx : Loc X.env.scope n ∧ (X.fn n = true ∨ X.env.scope.names.lookup n = some .local) := by
    rw [x.sc, x.fn]
    unfold locB at hl
    unfold L2.Loc
    split at hl
    · rename_i e; rw [e]; simp
    · rename_i e; rw [e]; simp [hl]
    · cases hl
  refine PG.imp (pg_name (i := i) (by rw [x.N]; exact x.nd) (by rw [x.N]; exact hi) hx.1 hx.2) fun v σ H Q ⟨m0, H0, m, ρ, s, d, e, R, r, fr, p⟩ => ?_
  unfold runG at p
  cases e1 : setl d s with
  | ok d' s' =>
    rw [e1] at p
    obtain ⟨m', e2, R2, r2, hs, _⟩ := setl_rst e R r fr e1
    have p : PostG X.w X.K pr σ [i] m0 H0 Q (if i < ρ.length ∧ hdOk q.hd i = true then .ok (ρ.set i (some d')) s' else .bad) := p
    split at p
    · rename_i h
      refine p m' _ H e2 (R2.set hs r2 h.1 fun pp ep => ?_) (fun j hj => ?_) (by simp)
      · have h2 := h.2
        rw [x.hd, ep] at h2
        exact of_decide_eq_true h2
      · rw [List.getElem?_set_ne]
        simp at hj
        exact fun z => hj z.symm
    · exact p.elim
  | exc C fs s' => exact (setl_exc e1).elim
  | bad => rw [e1] at p; exact p.elim
theorem assign_star {e : Expr} {es : List Expr} {env : Env} (h : notStar e = true) : assignEach (e :: es) env = (false, assign e env) :: assignEach es env := by
  cases e <;> first | rfl | cases h
theorem assign_len {es : List Expr} {env : Env} (h : es.all notStar = true) : (assignEach es env).length = es.length ∧ (assignEach es env).findIdx? (·.1) = none := by
  induction es with
  | nil => exact ⟨rfl, rfl⟩
  | cons e es ih =>
    rw [List.all_cons, Bool.and_eq_true] at h
    rw [assign_star h.1]
    refine ⟨by simp [(ih h.2).1], ?_⟩
    rw [List.findIdx?_cons, (ih h.2).2]
    rfl
theorem gsNil : PGs X [] (gDs X.w X.K pr [] (runGs q [])) := by
  refine ⟨fun pins s σ H vs us Q I r h => ?_⟩
  obtain ⟨m0, H0, m, ρ, s1, ds, e, R, rs, p⟩ := h
  refine pgs_nil.run pins s σ H vs us Q I r ?_
  cases rs with
  | nil => exact ⟨rfl, p m σ H e R (fun _ _ => rfl) rfl⟩
  | cons _ _ _ => exact p.elim
theorem gsCons {g : IG} {gs : List IG} {e : Expr} {es : List Expr} {n1 n2 : List Nat} (hs : notStar e = true) (h1 : PG X e (gD X.w X.K pr n1 (runG q g))) (h2 : PGs X es (gDs X.w X.K pr n2 (runGs q gs))) : PGs X (e :: es) (gDs X.w X.K pr (n1 ++ n2) (runGs q (g :: gs))) := by
  refine ⟨fun pins s σ H vs us Q I r h => ?_⟩
  refine (pgs_cons h1 h2 (by rw [assign_star hs]; rfl)).run pins s σ H vs us Q I r ?_
  obtain ⟨m0, H0, m, ρ, s1, ds, ex, R, rs, p⟩ := h
  cases rs with
  | nil => exact p.elim
  | @cons d ds v vs hd rd rs =>
    refine ⟨v, vs, rfl, m0, H0, m, ρ, s1, d, ex, R, rd.mono ex, fun z => (by rw [hd] at z; cases z), ?_⟩
    unfold runGs at p
    cases e1 : runG q g d ρ s1 with
    | ok ρ1 s2 =>
      rw [e1] at p
      have p : PostG X.w X.K pr σ (n1 ++ n2) m0 H0 Q (runGs q gs ds ρ1 s2) := p
      intro m1 σ1 H1 ex1 R1 fr1 len1
      refine ⟨m0, H0, m1, ρ1, s2, ds, ex1, R1, rs, ?_⟩
      cases e2 : runGs q gs ds ρ1 s2 with
      | ok ρ2 s3 =>
        rw [e2] at p
        exact fun m2 σ2 H2 ex2 R2 fr2 len2 => p m2 σ2 H2 ex2 R2 (fun j hj => by
          rw [List.mem_append] at hj
          rw [fr2 j fun z => hj (.inr z), fr1 j fun z => hj (.inl z)]) (len2.trans len1)
      | exc C fs s' => rw [e2] at p; exact p
      | bad => rw [e2] at p; exact p
    | exc C fs s' => rw [e1] at p; exact p.elim
    | bad => rw [e1] at p; exact p.elim
theorem tupG_ok {gs : List IG} {es : List Expr} {k : Nat} {pos : Pos} {ns : List Nat} (hc : X.calm = true) (hs : es.all notStar = true) (hl : gs.length = es.length) (h : PGs X es (gDs X.w X.K pr ns (runGs q gs))) : PG X (.Tuple es k pos) (gD X.w X.K pr ns (runG q (.tup gs))) := by
  refine PG.imp (pg_tup hc h (assign_len hs).1 (assign_len hs).2) fun v σ H Q ⟨m0, H0, m, ρ, s, d, e, R, r, fr, p⟩ => ?_
  have lenGs : ∀ {gs : List IG} {ds : List D} {ρ : En} {s : S} {Q : L2.St → Hp → Prop} {m0 H0}, PostG X.w X.K pr σ ns m0 H0 Q (runGs q gs ds ρ s) → ds.length = gs.length := by
    intro gs
    induction gs with
    | nil => intro ds ρ s Q m0 H0 p; cases ds with
      | nil => rfl
      | cons _ _ => exact p.elim
    | cons g gs ih =>
      intro ds ρ s Q m0 H0 p
      cases ds with
      | nil => exact p.elim
      | cons d ds =>
        unfold runGs at p
        cases e1 : runG q g d ρ s with
        | ok ρ1 s2 =>
          rw [e1] at p
          have p : PostG X.w X.K pr σ ns m0 H0 Q (runGs q gs ds ρ1 s2) := p
          simp [ih p]
        | exc C fs s' => rw [e1] at p; exact p.elim
        | bad => rw [e1] at p; exact p.elim
  unfold runG at p
  split at p
  · rename_i ds
    cases r with
    | @tup _ vs a ta rs =>
      have hn := lenGs p
      exact ⟨a, vs, rfl, ta.sq, by rw [rs.length, hn, hl], m, H, m, ρ, s, ds, .refl, R, rs, p.mono e⟩
  · exact p.elim
theorem sub_assign {o i : Expr} {pos : Pos} {env : Env} (h : notSlice i = true) : ∀ v, assign (.Subscript o i pos) env v = (do
      let ov ← holding [v] (eval o env)
      let iv ← holding [v, ov] (eval i env)
      standAt pos
      holding [v, ov, iv] (setItem ov iv v)
      release [v, ov, iv] []) := by
  intro v
  cases i <;> first | rfl | cases h
theorem PSet.or {t t' : TSet} (h : PSet X t) (h' : PSet X t') : PSet X (fun o i v H Q => t o i v H Q ∨ t' o i v H Q) := by
  intro pins s σ H o i v ov iv u Q I ro ri rv q
  rcases q with q | q
  · exact h pins s σ H o i v ov iv u Q I ro ri rv q
  · exact h' pins s σ H o i v ov iv u Q I ro ri rv q
def rSetDk : TSet := fun o i v H Q => ∃ a H', o = .ref a ∧ DPut H a i v H' ∧ Q H'
theorem set_dk (hu : X.A.units + 1 < cLine) : PSet X rSetDk := by
  intro pins s σ H o i v ov iv u Q I ro ri rv h
  obtain ⟨a, H', rfl, g, q⟩ := h
  cases ro
  exact d_setItem hu I g ri rv fun s' J => ⟨H', J, q⟩
theorem putDk_h {w : World} {K : PySem.W.Frag} {m : List Addr} {H : Hp} {s s' : S} {i : Nat} {a : Addr} {k : Key} {d : D} {v : V} (st : StOk w K m H s) (hm : m[i]? = some a) (hs : d.shr = true) (rd : Rp w K m H d v) (h : putDk s i k d = some s') :
    ∃ H', DPut H a (kV k) v H' ∧ Ex m H m H' ∧ StOk w K m H' s' := by
  unfold putDk at h
  split at h
  · rename_i ks xs e
    split at h
    · rename_i hz
      cases h
      obtain ⟨b, e1, vs, h1, h2, h3⟩ := st.at_ _ _ e
      rw [hm] at e1; cases e1
      rw [if_neg (by decide)] at h1
      have hl : ks.length = vs.length := by rw [h3.length, h2]
      have hw : Ex m H m (upd H a (.dK (putK (ks.zip vs) k v))) := Ex.write (List.mem_of_getElem? hm) (by rw [h1]; exact own_dK.2)
      refine ⟨_, DPut.k h1 (by rw [List.length_zip]; omega), hw, st.write hm ⟨putVs k v ks vs, ?_, put_len k d h2, (h3.putVs hs rd).mono hw⟩⟩
      rw [if_neg (by decide), upd_same, putK_zip k v hl]
    · cases h
  · cases h
theorem subG_ok {a b : IE} {o i : Expr} {pos : Pos} (hu : X.A.units + 65 < cLine) (hn : notSlice i = true) (ho : PE X o (tD X.w X.K W pr (runE q a))) (hi : PE X i (tD X.w X.K W pr (runE q b))) : PG X (.Subscript o i pos) (gD X.w X.K pr [] (runG q (.sub a b))) := by
  refine PG.imp (pg_sub ho hi (PSet.or set_list (set_dk (by omega))) (sub_assign hn)) fun v σ H Q ⟨m0, H0, m, ρ, s, d, e, R, r, fr, p⟩ => ?_
  unfold runG at p
  cases e1 : setl d s with
  | ok d' s' =>
    rw [e1] at p
    obtain ⟨m', e2, R2, r2, hs, _⟩ := setl_rst e R r fr e1
    have p := p.mono e2
    refine bEn (P := fun m H r => PostG X.w X.K pr σ [] m H Q r) (fun _ _ z => z) (fun _ _ _ _ _ e p => p.mono e) R2 p fun x s3 m3 v3 H3 p3 e3 R3 r3 f3 => ?_
    refine bEn (P := fun m H r => PostG X.w X.K pr σ [] m H Q r) (fun _ _ z => z) (fun _ _ _ _ _ e p => p.mono e) R3 p3 fun y s4 m4 v4 H4 p4 e4 R4 r4 f4 => ?_
    unfold subD at p4
    have r3' := r3.mono e4
    have r2' := (r2.mono e3).mono e4
    split at p4
    · rename_i s5 e5
      split at e5
      · split at e5
        · rename_i xs e6
          split at e5
          · rename_i j e7
            cases e5
            obtain ⟨p, us, e8, hp, rs⟩ := mutOf_h R4.st r3' (xs := xs) e6
            cases r4
            subst e8
            cases r3' with
            | ref hm =>
            refine .inl ⟨p, us, _, j, rfl, rfl, hp, by rw [rs.length]; exact e7, ?_⟩
            obtain ⟨hw, st⟩ := wrt R4.st hm hp (rs.set hs r2' j)
            exact p4 m4 σ _ hw (R4.mono hw st) (fun _ _ => rfl) rfl
          · cases e5
        · cases r3' with
          | ref hm =>
          cases r4
          obtain ⟨H5, g1, g2, g3⟩ := putDk_h R4.st hm hs r2' e5
          exact .inr ⟨_, H5, rfl, g1, p4 m4 σ _ g2 (R4.mono g2 g3) (fun _ _ => rfl) rfl⟩
      · cases r3' with
        | ref hm =>
        cases r4
        obtain ⟨H5, g1, g2, g3⟩ := putDk_h R4.st hm hs r2' e5
        exact .inr ⟨_, H5, rfl, g1, p4 m4 σ _ g2 (R4.mono g2 g3) (fun _ _ => rfl) rfl⟩
      · cases e5
    · exact p4.elim
  | exc C fs s' => exact (setl_exc e1).elim
  | bad => rw [e1] at p; exact p.elim
end
/-! ### comprehensions -/
section
variable {w : World} {K : PySem.W.Frag} {W : WX} {pr : Option Hdp} {σ : L2.St} {m : List Addr} {H : Hp} {s : S} {ρ : En} {a : Addr} {vs0 vs1 : List V}
theorem wip_len (ρ : En) : ∀ vs : List Nat, (wip ρ vs).length = ρ.length
  | [] => rfl
  | v :: vs => by unfold wip; rw [List.length_set, wip_len ρ vs]
theorem wip_some {ρ : En} {i : Nat} {d : D} : ∀ {vs : List Nat}, (wip ρ vs)[i]? = some (some d) → ρ[i]? = some (some d) ∧ i ∉ vs
  | [], h => ⟨h, by simp⟩
  | v :: vs, h => by
    unfold wip at h
    by_cases hi : v = i
    · subst hi
      by_cases hv : v < (wip ρ vs).length
      · rw [List.getElem?_set_self hv] at h; cases h
      · rw [List.getElem?_eq_none (by simpa using hv)] at h; cases h
    · rw [List.getElem?_set_ne hi] at h
      obtain ⟨h1, h2⟩ := wip_some h
      exact ⟨h1, by simp only [List.mem_cons, not_or]; exact ⟨fun e => hi e.symm, h2⟩⟩
theorem wipe_at {σ : L2.St} {i : Nat} : ∀ {vs : List Nat}, i ∉ vs → (wipe σ vs)[i]? = σ[i]?
  | [], _ => rfl
  | v :: vs, h => by
    unfold wipe
    rw [List.getElem?_set_ne (fun z => h (by simp [z]))]
    exact wipe_at fun z => h (List.mem_cons_of_mem _ z)
theorem Rst.wipe (R : Rst w K none m ρ s σ H) (vs : List Nat) : Rst w K none m (wip ρ vs) s (wipe σ vs) H :=
  ⟨R.st, by rw [wip_len, wipe_length]; exact R.len, fun i d e => by
    obtain ⟨h1, h2⟩ := wip_some e
    rw [wipe_at h2]
    exact R.at_ i d h1, fun p e => by cases e⟩
/-- wiped, they are alike -/
theorem wipe_eq {σ1 σ2 : L2.St} {vs : List Nat} (h : ∀ j, j ∉ vs → σ2[j]? = σ1[j]?) (hl : σ2.length = σ1.length) : wipe σ2 vs = wipe σ1 vs := by
  have wipe_in : ∀ {σ : L2.St} {i : Nat} {vs : List Nat}, i ∈ vs → i < σ.length → (wipe σ vs)[i]? = some none := by
    intro σ i vs
    induction vs with
    | nil => intro h; cases h
    | cons v vs ih =>
      intro h hl
      unfold L2.wipe
      by_cases hv : v = i
      · subst hv
        rw [List.getElem?_set_self (by rw [wipe_length]; exact hl)]
      · rw [List.getElem?_set_ne hv]
        rcases List.mem_cons.mp h with z | z
        · exact absurd z.symm hv
        · exact ih z hl
  apply List.ext_getElem?
  intro i
  by_cases hi : i ∈ vs
  · by_cases hl1 : i < σ1.length
    · rw [wipe_in hi (by omega), wipe_in hi hl1]
    · rw [List.getElem?_eq_none (by rw [wipe_length]; omega), List.getElem?_eq_none (by rw [wipe_length]; omega)]
  · rw [wipe_at hi, wipe_at hi]
    exact h i hi
theorem wipe_wipe {σ : L2.St} {vs : List Nat} : wipe (wipe σ vs) vs = wipe σ vs := wipe_eq (fun j hj => wipe_at hj) (wipe_length _ _)
end
end DI

set_option Elab.async false
set_option linter.all false
set_option maxRecDepth 100000
set_option maxHeartbeats 4000000
/-! DI 12: comprehensions; all expressions. -/
namespace DI
open PySem PySem.Spec PyProof.Rows L2
section
variable {G : Gs} {q : Rq} {Z : Sc} {W : WX} {pr : Option Hdp} {X : Cx}
theorem XOk.blk (x : XOk G q Z W pr X) (scope : Scope) (s : Shared) (H : Hp) (C : Addr) (cl : List (Str × Addr)) (fp : List Addr) : Z.calm = true → XOk G q (Z.blk scope) (fun _ _ _ _ => False) pr (X.blk s H scope (compEnvC scope cl C X.env) fp) := fun hc =>
  ⟨x.N, x.nd, by show relS scope X.env.scope = relS scope Z.sc; rw [x.sc], rfl, takes_none5, x.hu, x.cal, x.free, x.cons, x.fns, x.fnv, x.isf, x.mt, x.cf, x.mki, PassesOwn.never, x.hd, x.xk, x.cl, x.ix, x.mkx, fun p e => by rw [(x.cal hc).2] at e; cases e⟩
theorem notSet_ok {e : Expr} {env : Env} (h : notSet e = true) : ∀ x, foldedSetIterable e env x = pure x := by
  intro x
  cases e <;> first | rfl | cases h
theorem lcE_ok {own : List (Str × Nat)} {elt : IE} {g : IG} {it : II} {t : Option IT} {e tg iter : Expr} {ifs : List Expr} {scope : Scope} (x : XOk G q Z W pr X) (hc : Z.calm = true) (ok : blkC Z.N Z.sc scope own = true)
    (hsl : ∀ i ∈ g.slots, i ∈ own.map (·.2)) (hset : notSet iter = true) (hi : PI X tg iter (tI X.w X.K W pr (runI q it)))
    (hg : ∀ (s : Shared) (H : Hp) (C : Addr) (cl : List (Str × Addr)) (fp : List Addr), PG (X.blk s H scope (compEnvC scope cl C X.env) fp) tg (gD X.w X.K pr g.slots (runG q g)))
    (ht : ∀ (s : Shared) (H : Hp) (C : Addr) (cl : List (Str × Addr)) (fp : List Addr), PTs (X.blk s H scope (compEnvC scope cl C X.env) fp) ifs (tT X.w X.K (fun _ _ _ _ => False) pr (runTo q t)))
    (he : ∀ (s : Shared) (H : Hp) (C : Addr) (cl : List (Str × Addr)) (fp : List Addr), PE (X.blk s H scope (compEnvC scope cl C X.env) fp) e (tD X.w X.K (fun _ _ _ _ => False) pr (runE q elt))) :
    (∀ σ H Q, tD X.w X.K W pr (runE q (.lc own elt g it t)) σ H Q → tLc (tI X.w X.K W pr (runI q it)) (gD X.w X.K pr g.slots (runG q g)) (tT X.w X.K (fun _ _ _ _ => False) pr (runTo q t)) (tD X.w X.K (fun _ _ _ _ => False) pr (runE q elt)) (own.map (·.2)) σ H Q) := by
  obtain ⟨hcx, rfl⟩ := x.cal hc
  rintro σ H Q ⟨m, ρ, s, R, p⟩
  refine bI pkE R p fun I s1 m1 J H1 p1 e1 R1 wk => ?_
  intro D hD
  have nD : D ∉ m1 := R1.st.nin hD
  -- the turn
  obtain ⟨turn, hturn⟩ : ∃ turn : DI.D → DI.S → DI.R (Option DI.D), turn = fun x s => (runG q g x (wip ρ (own.map (·.2))) s).bind fun ρ' s => (runTo q t ρ' s).bind fun k s => if k = true then ((runE q elt ρ' s).bind setl).bind fun d s => .ok (some d) s else .ok none s := ⟨_, rfl⟩
  have p1 : PostE X.w X.K W σ m1 H1 Q (lcL turn I.ok I.xs [] s1) := by rw [hturn]; exact p1
  refine ⟨fun i k Hh => k = I.xs.length - i ∧ i ≤ I.xs.length ∧ ∃ m s acc vs, Hh D = some (.lst vs) ∧ D ∉ m ∧ Rps X.w X.K m Hh acc vs ∧ StOk X.w X.K m Hh s ∧ Ex m1 H1 m Hh ∧ PostE X.w X.K W σ m1 H1 Q (lcL turn I.ok (I.xs.drop i) acc s),
    ⟨I.xs.length, by simp, Nat.zero_le _, m1, s1, [], [], upd_same, nD, .nil, R1.st.new hD, .new R1.st hD, p1⟩, ?_⟩
  rintro i k Hh ⟨rfl, hi, m2, s2, acc, vs, hv, nD2, rs, st, ex, p2⟩
  by_cases hlt : i < I.xs.length
  · have ed : I.xs.drop i = I.xs[i] :: I.xs.drop (i + 1) := List.drop_eq_getElem_cons hlt
    rw [ed] at p2
    unfold lcL at p2
    split at p2
    · rename_i hok
      refine .inr ⟨wk.go i m2 Hh s2 hlt ex st hok, fun H' => i + 1 ≤ I.xs.length ∧ ∃ m s acc vs, H' D = some (.lst vs) ∧ D ∉ m ∧ Rps X.w X.K m H' acc vs ∧ StOk X.w X.K m H' s ∧ Ex m1 H1 m H' ∧ PostE X.w X.K W σ m1 H1 Q (lcL turn I.ok (I.xs.drop (i + 1)) acc s),
        fun H' h => ⟨I.xs.length - (i + 1), by omega, rfl, h.1, h.2⟩, fun v H' y => ?_⟩
      obtain ⟨d, e2, hd, ex2, st2, rd⟩ := wk.yld i m2 Hh s2 v H' hlt ex st hok y
      rw [List.getElem?_eq_getElem hlt] at e2
      cases e2
      have hv2 : H' D = some (.lst vs) := (ex2.old D _ hv nD2).1
      have R2 := ((R1.mono (ex.trans ex2) st2).wipe (own.map (·.2)))
      refine ⟨m2, H', m2, wip ρ (own.map (·.2)), s2, _, .refl, R2, rd, fun z => (by rw [hd] at z; cases z), ?_⟩
      -- what the turn does
      cases eg : runG q g I.xs[i] (wip ρ (own.map (·.2))) s2 with
      | ok ρ' s3 =>
        intro m3 σ3 H3 ex3 R3 fr3 len3
        refine ⟨(wipe_eq (fun j hj => (fr3 j fun z => hj (hsl j z))) len3).trans wipe_wipe, ?_⟩
        refine ⟨m3, ρ', s3, R3, ?_⟩
        have et1 : turn I.xs[i] s2 = (runTo q t ρ' s3).bind fun k s => if k = true then ((runE q elt ρ' s).bind setl).bind fun d s => .ok (some d) s else .ok none s := by
          rw [hturn]
          show (runG q g I.xs[i] (wip ρ (own.map (·.2))) s2).bind _ = _
          rw [eg]
        cases et : runTo q t ρ' s3 with
        | ok k s4 =>
          rw [et] at et1
          have et2 : turn I.xs[i] s2 = if k = true then ((runE q elt ρ' s4).bind setl).bind fun d s => .ok (some d) s else .ok none s4 := et1
          intro m4 H4 ex4 st4
          have R4 := R3.mono ex4 st4
          refine ite_t (fun hk => ?_) fun hk => ?_
          · rw [if_pos hk] at et2
            refine ⟨m4, ρ', s4, R4, ?_⟩
            cases ee : runE q elt ρ' s4 with
            | ok d' s5 =>
              rw [ee] at et2
              intro m5 v5 H5 ex5 st5 r5 f5
              cases es : setl d' s5 with
              | ok d6 s6 =>
                have et3 : turn I.xs[i] s2 = .ok (some d6) s6 := by
                  rw [et2]
                  show ((setl d' s5).bind fun d s => .ok (some d) s) = _
                  rw [es]
                rw [et3] at p2
                dsimp only at p2
                split at p2
                · rename_i hz
                  obtain ⟨m6, ex6, st6, r6, hs6, k6, k7, _⟩ := setl_ok ex5 st5 r5 f5 es
                  have exA := (ex2.trans ex3).trans ex4
                  have exB : Ex m2 Hh m5 H5 := exA.trans ex5
                  have hv5 : H5 D = some (.lst vs) := (exB.old D _ hv nD2).1
                  have nD5 : D ∉ m5 := (exB.old D _ hv nD2).2
                  have nD6 : D ∉ m6 := k7 (by rw [((exA.old D _ hv nD2).1)]; simp) nD5
                  have ex16 : Ex m1 H1 m6 H5 := by
                    -- from the start of the element: what is settled was new there
                    refine ⟨((ex.trans exA).pre).trans ex6.pre, fun b o q1 q2 => ?_, fun b o u q1 => ex6.frz b o u ((ex.trans exA).frz b o u q1)⟩
                    have := (ex.trans exA).old b o q1 q2
                    exact ex6.old b o this.1 this.2
                  have rs5 : Rps X.w X.K m6 H5 acc vs := by
                    have h5 := rs.mono exB
                    have key : ∀ {ds vs}, Rps X.w X.K m5 H5 ds vs → Rps X.w X.K m6 H5 ds vs := by
                      intro ds
                      induction ds with
                      | nil => intro vs h; cases h; exact .nil
                      | cons d ds ih => intro vs h; cases h with | cons a b c => exact .cons a (k6 a b) (ih c)
                    exact key h5
                  refine ⟨vs, hv5, by rw [rs5.length]; exact hz, hlt, m6, s6, acc ++ [d6], vs ++ [v5], upd_same, nD6, (rs5.app (.cons hs6 r6 .nil)).other (by rw [hv5]; exact own_lst), st6.other (by rw [hv5]; exact own_lst) nD6, ex16.upd0 hD, p2⟩
                · exact p2.elim
              | exc C fs s' => exact (setl_exc es).elim
              | bad =>
                have et3 : turn I.xs[i] s2 = .bad := by
                  rw [et2]
                  show ((setl d' s5).bind fun d s => .ok (some d) s) = _
                  rw [es]
                rw [et3] at p2
                exact p2.elim
            | exc C fs s' => rw [ee] at et2; rw [et2] at p2; exact p2.elim
            | bad => rw [ee] at et2; rw [et2] at p2; exact p2.elim
          · rw [if_neg (by rw [hk]; decide)] at et2
            rw [et2] at p2
            have exA := (ex2.trans ex3).trans ex4
            exact ⟨hlt, m4, s4, acc, vs, (exA.old D _ hv nD2).1, (exA.old D _ hv nD2).2, rs.mono exA, st4, ex.trans exA, p2⟩
        | exc C fs s' => rw [et] at et1; rw [et1] at p2; exact p2.elim
        | bad => rw [et] at et1; rw [et1] at p2; exact p2.elim
      | exc C fs s' =>
        have et1 : turn I.xs[i] s2 = .exc C fs s' := by
          rw [hturn]
          show (runG q g I.xs[i] (wip ρ (own.map (·.2))) s2).bind _ = _
          rw [eg]
        rw [et1] at p2; exact p2.elim
      | bad =>
        have et1 : turn I.xs[i] s2 = .bad := by
          rw [hturn]
          show (runG q g I.xs[i] (wip ρ (own.map (·.2))) s2).bind _ = _
          rw [eg]
        rw [et1] at p2; exact p2.elim
    · exact p2.elim
  · have ei : i = I.xs.length := by omega
    subst ei
    rw [List.drop_length] at p2
    unfold lcL at p2
    split at p2
    · rename_i hok
      exact .inl ⟨wk.stop m2 Hh s2 ex st hok, p2 m2 (.ref D) Hh ex st (.lst hv nD2 rs) fun _ => ⟨D, rfl, hD⟩⟩
    · exact p2.elim
theorem dcE_ok {own : List (Str × Nat)} {kt elt : IE} {g : IG} {it : II} {t : Option IT} {kx e tg iter : Expr} {ifs : List Expr} {scope : Scope} (x : XOk G q Z W pr X) (hc : Z.calm = true) (ok : blkC Z.N Z.sc scope own = true)
    (hsl : ∀ i ∈ g.slots, i ∈ own.map (·.2)) (hset : notSet iter = true) (hi : PI X tg iter (tI X.w X.K W pr (runI q it)))
    (hg : ∀ (s : Shared) (H : Hp) (C : Addr) (cl : List (Str × Addr)) (fp : List Addr), PG (X.blk s H scope (compEnvC scope cl C X.env) fp) tg (gD X.w X.K pr g.slots (runG q g)))
    (ht : ∀ (s : Shared) (H : Hp) (C : Addr) (cl : List (Str × Addr)) (fp : List Addr), PTs (X.blk s H scope (compEnvC scope cl C X.env) fp) ifs (tT X.w X.K (fun _ _ _ _ => False) pr (runTo q t)))
    (hk : ∀ (s : Shared) (H : Hp) (C : Addr) (cl : List (Str × Addr)) (fp : List Addr), PE (X.blk s H scope (compEnvC scope cl C X.env) fp) kx (tD X.w X.K (fun _ _ _ _ => False) pr (runE q kt)))
    (he : ∀ (s : Shared) (H : Hp) (C : Addr) (cl : List (Str × Addr)) (fp : List Addr), PE (X.blk s H scope (compEnvC scope cl C X.env) fp) e (tD X.w X.K (fun _ _ _ _ => False) pr (runE q elt))) :
    (∀ σ H Q, tD X.w X.K W pr (runE q (.dc own kt elt g it t)) σ H Q → tDc (tI X.w X.K W pr (runI q it)) (gD X.w X.K pr g.slots (runG q g)) (tT X.w X.K (fun _ _ _ _ => False) pr (runTo q t)) (tD X.w X.K (fun _ _ _ _ => False) pr (runE q kt)) (tD X.w X.K (fun _ _ _ _ => False) pr (runE q elt)) (own.map (·.2)) σ H Q) := by
  obtain ⟨hcx, rfl⟩ := x.cal hc
  rintro σ H Q ⟨m, ρ, s, R, p⟩
  refine bI pkE R p fun I s1 m1 J H1 p1 e1 R1 wk => ?_
  intro D hD
  have nD : D ∉ m1 := R1.st.nin hD
  -- the turn
  obtain ⟨turn, hturn⟩ : ∃ turn : DI.D → DI.S → DI.R (Option (Key × DI.D)), turn = fun x s => (runG q g x (wip ρ (own.map (·.2))) s).bind fun ρ' s => (runTo q t ρ' s).bind fun c s => if c = true then (runE q kt ρ' s).bind fun a s => ((runE q elt ρ' s).bind setl).bind fun d s => (match keyD a with | some k => (.ok (some (k, d)) s : DI.R (Option (Key × DI.D))) | none => .bad) else .ok none s := ⟨_, rfl⟩
  have p1 : PostE X.w X.K W σ m1 H1 Q (dcL turn I.ok I.xs [] [] s1) := by rw [hturn]; exact p1
  refine ⟨fun i k Hh => k = I.xs.length - i ∧ i ≤ I.xs.length ∧ ∃ m s ks acc vs, Hh D = some (.dK (ks.zip vs)) ∧ ks.length = acc.length ∧ D ∉ m ∧ Rps X.w X.K m Hh acc vs ∧ StOk X.w X.K m Hh s ∧ Ex m1 H1 m Hh ∧ PostE X.w X.K W σ m1 H1 Q (dcL turn I.ok (I.xs.drop i) ks acc s),
    ⟨I.xs.length, by simp, Nat.zero_le _, m1, s1, [], [], [], upd_same, rfl, nD, .nil, R1.st.new hD, .new R1.st hD, p1⟩, ?_⟩
  rintro i k Hh ⟨rfl, hi, m2, s2, ks, acc, vs, hv, hlk, nD2, rs, st, ex, p2⟩
  by_cases hlt : i < I.xs.length
  · have ed : I.xs.drop i = I.xs[i] :: I.xs.drop (i + 1) := List.drop_eq_getElem_cons hlt
    rw [ed] at p2
    unfold dcL at p2
    split at p2
    · rename_i hok
      refine .inr ⟨wk.go i m2 Hh s2 hlt ex st hok, fun H' => i + 1 ≤ I.xs.length ∧ ∃ m s ks acc vs, H' D = some (.dK (ks.zip vs)) ∧ ks.length = acc.length ∧ D ∉ m ∧ Rps X.w X.K m H' acc vs ∧ StOk X.w X.K m H' s ∧ Ex m1 H1 m H' ∧ PostE X.w X.K W σ m1 H1 Q (dcL turn I.ok (I.xs.drop (i + 1)) ks acc s),
        fun H' h => ⟨I.xs.length - (i + 1), by omega, rfl, h.1, h.2⟩, fun v H' y => ?_⟩
      obtain ⟨d, e2, hd, ex2, st2, rd⟩ := wk.yld i m2 Hh s2 v H' hlt ex st hok y
      rw [List.getElem?_eq_getElem hlt] at e2
      cases e2
      have hv2 : H' D = some (.dK (ks.zip vs)) := (ex2.old D _ hv nD2).1
      have R2 := ((R1.mono (ex.trans ex2) st2).wipe (own.map (·.2)))
      refine ⟨m2, H', m2, wip ρ (own.map (·.2)), s2, _, .refl, R2, rd, fun z => (by rw [hd] at z; cases z), ?_⟩
      -- what the turn does
      cases eg : runG q g I.xs[i] (wip ρ (own.map (·.2))) s2 with
      | ok ρ' s3 =>
        intro m3 σ3 H3 ex3 R3 fr3 len3
        refine ⟨(wipe_eq (fun j hj => (fr3 j fun z => hj (hsl j z))) len3).trans wipe_wipe, ?_⟩
        refine ⟨m3, ρ', s3, R3, ?_⟩
        have et1 : turn I.xs[i] s2 = (runTo q t ρ' s3).bind fun c s => if c = true then (runE q kt ρ' s).bind fun a s => ((runE q elt ρ' s).bind setl).bind fun d s => (match keyD a with | some k => (.ok (some (k, d)) s : DI.R (Option (Key × DI.D))) | none => .bad) else .ok none s := by
          rw [hturn]
          show (runG q g I.xs[i] (wip ρ (own.map (·.2))) s2).bind _ = _
          rw [eg]
        cases et : runTo q t ρ' s3 with
        | ok k s4 =>
          rw [et] at et1
          have et2 : turn I.xs[i] s2 = if k = true then (runE q kt ρ' s4).bind fun a s => ((runE q elt ρ' s).bind setl).bind fun d s => (match keyD a with | some k => (.ok (some (k, d)) s : DI.R (Option (Key × DI.D))) | none => .bad) else .ok none s4 := et1
          intro m4 H4 ex4 st4
          have R4 := R3.mono ex4 st4
          refine ite_t (fun hk => ?_) fun hk => ?_
          · rw [if_pos hk] at et2
            refine ⟨m4, ρ', s4, R4, ?_⟩
            cases ek : runE q kt ρ' s4 with
            | ok a' s45 =>
              rw [ek] at et2
              have et2 : turn I.xs[i] s2 = ((runE q elt ρ' s45).bind setl).bind fun d s => (match keyD a' with | some k => (.ok (some (k, d)) s : DI.R (Option (Key × DI.D))) | none => .bad) := et2
              intro m45 va H45 ex45 st45 ra fa
              have R45 := R4.mono ex45 st45
              refine ⟨m45, ρ', s45, R45, ?_⟩
              cases ee : runE q elt ρ' s45 with
              | ok d' s5 =>
                rw [ee] at et2
                intro m5 v5 H5 ex5 st5 r5 f5
                cases es : setl d' s5 with
                | ok d6 s6 =>
                  have et3 : turn I.xs[i] s2 = (match keyD a' with | some k => (.ok (some (k, d6)) s6 : DI.R (Option (Key × DI.D))) | none => .bad) := by
                    rw [et2]
                    show ((setl d' s5).bind _) = _
                    rw [es]
                  cases hk2 : keyD a' with
                  | none => rw [hk2] at et3; rw [et3] at p2; exact p2.elim
                  | some kk =>
                  rw [hk2] at et3
                  rw [et3] at p2
                  dsimp only at p2
                  split at p2
                  · rename_i hz
                    obtain ⟨m6, ex6, st6, r6, hs6, k6, k7, _⟩ := setl_ok ex5 st5 r5 f5 es
                    have exA := ((ex2.trans ex3).trans ex4).trans ex45
                    have exB : Ex m2 Hh m5 H5 := exA.trans ex5
                    have hv5 : H5 D = some (.dK (ks.zip vs)) := (exB.old D _ hv nD2).1
                    have nD5 : D ∉ m5 := (exB.old D _ hv nD2).2
                    have nD6 : D ∉ m6 := k7 (by rw [((exA.old D _ hv nD2).1)]; simp) nD5
                    have ex16 : Ex m1 H1 m6 H5 := by
                      refine ⟨((ex.trans exA).pre).trans ex6.pre, fun b o q1 q2 => ?_, fun b o u q1 => ex6.frz b o u ((ex.trans exA).frz b o u q1)⟩
                      have := (ex.trans exA).old b o q1 q2
                      exact ex6.old b o this.1 this.2
                    have rs5 : Rps X.w X.K m6 H5 acc vs := by
                      have h5 := rs.mono exB
                      have key : ∀ {ds vs}, Rps X.w X.K m5 H5 ds vs → Rps X.w X.K m6 H5 ds vs := by
                        intro ds
                        induction ds with
                        | nil => intro vs h; cases h; exact .nil
                        | cons d ds ih => intro vs h; cases h with | cons a b c => exact .cons a (k6 a b) (ih c)
                      exact key h5
                    have hlv : ks.length = vs.length := by rw [rs5.length, hlk]
                    have ow : Own (H5 D) := by rw [hv5]; exact own_dK
                    refine ⟨ks.zip vs, kk, key_v ra hk2, hv5, by rw [List.length_zip]; omega, hlt, m6, s6, putKs kk ks, putVs kk d6 ks acc, putVs kk v5 ks vs, ?_, put_len kk d6 hlk, nD6, (rs5.putVs hs6 r6).other ow, st6.other ow nD6, ex16.upd0 hD, p2⟩
                    rw [upd_same, putK_zip kk v5 hlv]
                  · exact p2.elim
                | exc C fs s' => exact (setl_exc es).elim
                | bad =>
                  have et3 : turn I.xs[i] s2 = .bad := by
                    rw [et2]
                    show ((setl d' s5).bind _) = _
                    rw [es]
                  rw [et3] at p2
                  exact p2.elim
              | exc C fs s' => rw [ee] at et2; rw [et2] at p2; exact p2.elim
              | bad => rw [ee] at et2; rw [et2] at p2; exact p2.elim
            | exc C fs s' => rw [ek] at et2; rw [et2] at p2; exact p2.elim
            | bad => rw [ek] at et2; rw [et2] at p2; exact p2.elim
          · rw [if_neg (by rw [hk]; decide)] at et2
            rw [et2] at p2
            have exA := (ex2.trans ex3).trans ex4
            exact ⟨hlt, m4, s4, ks, acc, vs, (exA.old D _ hv nD2).1, hlk, (exA.old D _ hv nD2).2, rs.mono exA, st4, ex.trans exA, p2⟩
        | exc C fs s' => rw [et] at et1; rw [et1] at p2; exact p2.elim
        | bad => rw [et] at et1; rw [et1] at p2; exact p2.elim
      | exc C fs s' =>
        have et1 : turn I.xs[i] s2 = .exc C fs s' := by
          rw [hturn]
          show (runG q g I.xs[i] (wip ρ (own.map (·.2))) s2).bind _ = _
          rw [eg]
        rw [et1] at p2; exact p2.elim
      | bad =>
        have et1 : turn I.xs[i] s2 = .bad := by
          rw [hturn]
          show (runG q g I.xs[i] (wip ρ (own.map (·.2))) s2).bind _ = _
          rw [eg]
        rw [et1] at p2; exact p2.elim
    · exact p2.elim
  · have ei : i = I.xs.length := by omega
    subst ei
    rw [List.drop_length] at p2
    unfold dcL at p2
    split at p2
    · rename_i hok
      exact .inl ⟨wk.stop m2 Hh s2 ex st hok, p2 m2 (.ref D) Hh ex st (.dic hv nD2 hlk rs) fun _ => ⟨D, rfl, hD⟩⟩
    · exact p2.elim
end
end DI

set_option Elab.async false
set_option linter.all false
set_option maxRecDepth 100000
set_option maxHeartbeats 4000000
/-! DI 12b: exceptions: held by a name, made, their __init__. -/
namespace PySem.W
open PySem PySem.Spec PySem.Calls PyProof.Rows
section
variable {prog : Program} {w : World} {A : Around} {E : Value → Shared → Prop} {s : Shared} {K : Frag} {x D : Addr} {ox od : Obj}
theorem di_classE {Q : Option Value → Shared → Prop} (hga : findIn K (.ref D) "__getattribute__" = some (some (.builtin "BaseException.__getattribute__"))) (hgt : findIn K (.ref D) "__getattr__" = some none) (hsub : subIn K (.ref D) (.type "BaseException") = some true)
    (hdct : hasDictIn K D = true) (ha : findIn K (.ref D) "__class__" = some (some (.builtin "object.__class__")))
    (hn : specialIn K (.builtin "object.__class__") "__get__" = some (some (.builtin "getset_descriptor.__get__"))) (htk : takesIn K (.builtin "object.__class__") = some true) (hm : mroIn K D (.type "object") = some true)
    (X : K.In s.heap) (I : InstAt s.heap x ox D (some od)) (h : Q (some (.ref D)) { s with toks := s.toks + 1 }) : wpAny (model prog w) A (getAttr? (.ref x) "__class__") Q E s := by
  have hf : findObj K D (some od) "__class__" = some (.bind (.builtin "getset_descriptor.__get__") (.builtin "object.__class__")) := findObj_data (by obtain ⟨cd, hc, _⟩ := any_some hdct; rw [hc]; rfl) ha hn htk
  obtain ⟨hp, g, d, t, os⟩ := s
  have L0 := I.type (M := model prog w)
  have L1 := looks_findIn (M := model prog w) X hga
  have L2 := looks_findIn (M := model prog w) X hgt
  have L3 := looks_find (M := model prog w) X I hf
  have sub : Looks (model prog w) hp (isInstance (.ref x) (.type "BaseException")) true := L0.andThen (looks_subIn X hsub)
  have hx0 : (false && onTheHeap (Value.builtin "BaseException.__getattribute__")) = false := rfl
  have hx2 : (Value.builtin "BaseException.__getattribute__" == Value.builtin "object.__getattribute__") = false := by decide +kernel
  have hx1 : (onTheHeap (Value.ref D) && Value.builtin "BaseException.__getattribute__" == Value.builtin "object.__getattribute__") = false := by rw [hx2]; rfl
  unfold getAttr? getAttrBy? getAttrBy
  refine wpAny_bind (wpAny_mkText (wpAny_bind (wpAny_attempt (wpAny_holding (wpAny_bind (L0.at (wpAny_bind (L1.at ?_))))))))
  show wpAny _ _ (if (onTheHeap (Value.ref D) && Value.builtin "BaseException.__getattribute__" == Value.builtin "object.__getattribute__") = true then _ else _) _ _ _
  rw [hx1, if_neg Bool.false_ne_true]
  unfold getAttrByItsOwn hookBefore
  refine wpAny_bind ?_
  rw [if_pos (show onTheHeap (Value.ref D) = true from rfl)]
  refine L2.at ?_
  refine wpAny_bind (wpAny_attempt (wpAny_holding ?_))
  unfold callGetattribute
  rw [hx0, if_neg Bool.false_ne_true]
  unfold boundAndCalled
  rw [PySem.F.excAttr_ValueError.ga.bind (.ref x)]
  refine wpAny_bind (wpAny_pure ?_)
  show wpAny _ _ (call (.builtin "BaseException.__getattribute__") [.ref x, .str "__class__" t]) _ _ _
  refine wpAny_call (codeAny_call_builtin PySem.F.excAttr_ValueError.ga.plain PySem.F.entry_bexc_ga ?_)
  refine @check_slot (model prog w) _ _ ⟨hp, g, d, t + 1, os⟩ "BaseException.__getattribute__" "BaseException" "__getattribute__" (.ref x) [.str "__class__" t] [] _ (by decide +kernel) (by decide +kernel) sub (PySem.F.args_bexc_ga (.ref x) (.str "__class__" t)) ?_
  unfold Builtin.«object.__getattribute__»
  refine wpAny_bind (wpAny_of_eq (a := ((Value.ref x : Value), [Value.str "__class__" t])) (by first | rfl | (simp only [slotArgs]; rfl)) ?_)
  refine wpAny_bind (wpAny_pure (wpAny_bind (L0.at (wpAny_bind (L3.at ?_)))))
  show wpAny _ _ (holding [Value.builtin "object.__class__"] (call (.builtin "getset_descriptor.__get__") [.builtin "object.__class__", .ref x, .ref D]) >>= ret) _ _ _
  refine wpAny_bind (wpAny_holding (wpAny_call (class_get (s := ⟨hp, g, d, t + 1, os⟩) (ox := ox) (od := some od) X I hm ?_)))
  refine wpAny_pure ?_
  show wpAny _ _ (handedOut (.ref D)) _ _ _
  rw [handedOut_of (v := .ref D) rfl]
  first
    | exact wpAny_pure (wpAny_pure h)
    | exact wpAny_pure h
    | exact wpAny_pure (wpAny_bind (wpAny_pure (wpAny_pure h)))
theorem di_kitx (hga : findIn K (.ref D) "__getattribute__" = some (some (.builtin "BaseException.__getattribute__"))) (hgt : findIn K (.ref D) "__getattr__" = some none) (hsub : subIn K (.ref D) (.type "BaseException") = some true) (hdct : hasDictIn K D = true) (ha : findIn K (.ref D) "__class__" = some (some (.builtin "object.__class__")))
    (hn : specialIn K (.builtin "object.__class__") "__get__" = some (some (.builtin "getset_descriptor.__get__"))) (htk : takesIn K (.builtin "object.__class__") = some true) (hm : mroIn K D (.type "object") = some true) :
    KitX K (.ref x) (.ref D) (fun h => InstAt h x ox D (some od)) where
  ty := fun _ _ _ I => I.type
  it := fun _ _ X _ => by
    obtain ⟨cdD, hcD, _⟩ := any_some hdct
    unfold clsIn at hcD
    split at hcD
    · rename_i c' d' cd' sl' ho
      intro A' Q' E' s' k q
      unfold isType loadHead
      exact wpAny_bind (wpAny_loadPart (k _ _ (X _ _ ho)) (wpAny_pure q))
    · cases hcD
  ne := fun h tp dd its n sl X htp => by
    obtain ⟨cdD, hcD, _⟩ := any_some hdct
    refine Bool.eq_false_iff.mpr fun q => ?_
    have e : D = tp := Value.ref.inj (beq_iff_eq.mp q)
    subst e
    unfold clsIn at hcD
    split at hcD
    · rename_i c' d' cd' sl' ho
      have z := (X _ _ ho).symm.trans htp
      cases z
    · cases hcD
  ca := fun X I k => di_classE hga hgt hsub hdct ha hn htk hm X I k
end
end PySem.W
namespace DI
open PySem PySem.Spec PyProof.Rows L2
/-- isinstance(e, c), e held by a suite, with a dict -/
def rIsX (K : PySem.W.Frag) (C a dd : Addr) : List V → Hp → VK → Prop := fun xs H Q => ∃ (c : V) (cv : Value) (b : Bool) (fs : List (Str × V)), xs = [.ref a, c] ∧ (∀ u, RelV c u → u = cv) ∧ H dd = some (.xd fs) ∧ PySem.W.kitOne K (.ref C) cv = some b ∧ Q (.bl b) H
theorem call_isX {X : Cx} {a C dd : Addr} {oe : Obj} {pn : List (Addr × Obj)} (T : ExcC X.K C) (hz : Zc (.ref C) (some dd) oe) (hf : ∃ vs, oe.data = .fields vs) : CallR (X.suite a ((a, oe) :: pn)) (.builtin "isinstance") (rIsX X.K C a dd) := by
  intro pins s σ H xs us Q I r h
  obtain ⟨c, cv, b, fs, rfl, hcv, ed, e, q⟩ := h
  cases r with
  | cons rx rr =>
    cases rr with
    | cons rt rr =>
      cases rr
      cases rx
      have ec := hcv _ rt
      subst ec
      obtain ⟨hget, _⟩ := I.pin (a, oe) (List.mem_append.mpr (.inl List.mem_cons_self))
      obtain ⟨vs, hv⟩ := hf
      have hx : ObjOk X.prog X.w H s.heap dd (.xd fs) := I.hok dd _ ed
      obtain ⟨mA, hns, _⟩ := hx
      obtain ⟨od, ho, _⟩ := lookIn_ns hns
      have J : PySem.W.InstAt s.heap a oe C (some od) := ⟨hget, hz.1, by unfold PySem.W.notCls; rw [hv] <;> rfl, by rw [hz.2]; exact ho⟩
      exact PySem.W.kia_one (PySem.W.di_kitx T.hg T.hk T.hs T.hd T.ha T.hn T.ht T.hm) I.kIn J e (fun z => nomatch z) fun tk => ⟨.bl b, H, I.kept (t' := tk) fun _ _ z => z, rfl, q⟩
section
variable {G : Gs} {q : Rq} {Z : Sc} {W : WX} {pr : Option Hdp} {X : Cx}
theorem fs_look {w : World} {K : PySem.W.Frag} {m : List Addr} {H : Hp} {f : Str} {d : D} : ∀ {fs : List (Str × D)} {vs : List (Str × V)}, Fs w K m H fs vs → fs.lookup f = some d → ∃ v, vs.lookup f = some v ∧ d.shr = true ∧ Rp w K m H d v
  | _, _, .nil, h => by cases h
  | _, _, .cons (f := g) (d := d') (v := v') hs r t, h => by
    rw [lookup_put]
    have key : ∀ {l : List (Str × D)}, ((g, d') :: l).lookup f = if f = g then some d' else l.lookup f := by
      intro l
      by_cases h : f = g
      · subst h; simp [List.lookup]
      · have e : (f == g) = false := by simpa using h
        rw [if_neg h]; simp [List.lookup, e]
    rw [key] at h
    by_cases e : f = g
    · rw [if_pos e] at h ⊢
      cases h
      exact ⟨_, rfl, hs, r⟩
    · rw [if_neg e] at h ⊢
      exact fs_look t h
theorem efld_ok {i : Nat} {n f : Str} {p1 pos : Pos} (x : XOk G q Z W pr X) (h1 : Z.N[i]? = some n) (h2 : visB Z.sc n = true) (h3 : nmB n = true) : PE X (.Attribute (.Name n p1) f pos) (tD X.w X.K W pr (runE q (.efld i f))) := by
  obtain ⟨n1, n2, _⟩ := nmB_ok h3
  cases hp : pr with
  | none =>
    refine ⟨fun pins s σ H Q I h => ?_⟩
    obtain ⟨m, ρ, s, R, p⟩ := h
    unfold runE at p
    rw [x.hd, hp] at p
    exact p.elim
  | some P =>
    obtain ⟨X0, oe, pn, ex, hz, hf⟩ := x.su P hp
    have hN : X.N[i]? = some n := by rw [x.N]; exact h1
    have hv : Vis X.env.scope n := visB_ok x h2
    by_cases ht : ∃ fl, q.ex P.C = some fl ∧ f ∈ fl
    · obtain ⟨fl, e1, e2⟩ := ht
      have T := x.xk _ _ e1
      have hh : q.hd = some (P.i, P.C, P.fs) := by rw [x.hd, hp]; rfl
      clear x
      subst ex
      refine PE.imp (pe_xf (X := X0) (C := He.ga X0.K P.C) T.xf (T.no f e2) hz hf (pe_var (i := i) hN hv n1 n2) rfl) fun σ H Q ⟨m, ρ, s, R, p⟩ => ?_
      unfold runE at p
      rw [hh] at p
      dsimp only at p
      split at p
      · rename_i hc
        obtain ⟨s1, x1⟩ := R.pin P rfl
        obtain ⟨⟨vs, hx, hfs⟩, _⟩ := x1
        split at p
        · rename_i d hl
          obtain ⟨v, e3, hs, r⟩ := fs_look hfs hl
          rw [← hc.1] at s1
          exact ⟨.ref P.a, s1, rfl, rfl, P.dx, vs, v, rfl, hx, e3, post_same p R.st r hs⟩
        · exact p.elim
      · exact p.elim
    · refine ⟨fun pins s σ H Q I h => ?_⟩
      obtain ⟨m, ρ, s, R, p⟩ := h
      unfold runE at p
      rw [x.hd, hp] at p
      dsimp only [Option.map] at p
      split at p
      · rename_i hc
        exfalso
        obtain ⟨hc1, hc2⟩ := hc
        unfold Rq.fld at hc2
        split at hc2
        · rename_i fl e1
          exact ht ⟨fl, e1, of_decide_eq_true hc2⟩
        · cases hc2
      · exact p.elim
theorem clsP {k : Str} {c : Value} {p : Pos} (hg : Gl X k) (h : ClsV X.mg k c) (h3 : nmB k = true) : ∃ v, PE X (.Name k p) (tC v) ∧ ∀ u, RelV v u → u = c := by
  obtain ⟨n1, n2, n3⟩ := nmB_ok h3
  rcases h with ⟨hm, a, rfl⟩ | ⟨hm, hb, T, rfl⟩
  · exact ⟨.ref a, pe_glob hg hm rfl n1, fun u e => e⟩
  · exact ⟨.ty T, pe_bltn hg hm hb rfl n3 n1, fun u e => e⟩
theorem eisi_ok {i : Nat} {n k : Str} {p1 p2 p3 pos : Pos} (x : XOk G q Z W pr X) (hg : Gl X "isinstance") (hm : X.mg "isinstance" = none) (h1 : Z.N[i]? = some n) (h2 : visB Z.sc n = true) (h3 : nmB n = true) (hk : Gl X k) (hk3 : nmB k = true) :
    PE X (.Call (.Name "isinstance" p1) [.Name n p2, .Name k p3] [] pos) (tD X.w X.K W pr (runE q (.eisi i k))) := by
  obtain ⟨n1, n2, _⟩ := nmB_ok h3
  cases hp : pr with
  | none =>
    refine ⟨fun pins s σ H Q I h => ?_⟩
    obtain ⟨m, ρ, s, R, p⟩ := h
    unfold runE at p
    rw [x.hd, hp] at p
    exact p.elim
  | some P =>
    obtain ⟨X0, oe, pn, ex, hz, hf⟩ := x.su P hp
    have hN : X.N[i]? = some n := by rw [x.N]; exact h1
    have hv : Vis X.env.scope n := visB_ok x h2
    have hh : q.hd = some (P.i, P.C, P.fs) := by rw [x.hd, hp]; rfl
    cases hi : q.isx P.C k with
    | none =>
      refine ⟨fun pins s σ H Q I h => ?_⟩
      obtain ⟨m, ρ, s, R, p⟩ := h
      unfold runE at p
      rw [hh] at p
      dsimp only at p
      rw [hi] at p
      split at p <;> exact p.elim
    | some b =>
      obtain ⟨T, c, hc, _, hkit⟩ := x.ix _ _ _ hi
      obtain ⟨v, pc, hu⟩ := clsP (p := p3) hk hc hk3
      clear x
      subst ex
      refine PE.imp (pe_callB (call_isX (X := X0) (C := He.ga X0.K P.C) T hz hf) hg hm (by decide +kernel) (pa_cons (pe_var (i := i) hN hv n1 n2) (pa_cons pc pa_nil)) (by decide) (by decide) rfl rfl) fun σ H Q ⟨m, ρ, s, R, p⟩ => ?_
      unfold runE at p
      rw [hh] at p
      dsimp only at p
      rw [hi] at p
      split at p
      · rename_i hc
        obtain ⟨s1, x1⟩ := R.pin P rfl
        obtain ⟨⟨vs, hx, hfs⟩, _⟩ := x1
        rw [← hc] at s1
        exact ⟨.ref P.a, s1, v, c, b, vs, rfl, hu, hx, hkit, post_same p R.st (.bl b) rfl⟩
      · exact p.elim
end
end DI

set_option Elab.async false
set_option linter.all false
set_option maxRecDepth 100000
set_option maxHeartbeats 4000000
/-! DI 13: all expressions. -/
namespace DI
open PySem PySem.Spec PyProof.Rows L2
theorem PTs.imp {X : Cx} {e : List Expr} {t t' : TT} (h : PTs X e t) (i : ∀ σ H Q, t' σ H Q → t σ H Q) : PTs X e t' := ⟨fun pins s σ H Q I q => h.run pins s σ H Q I (i _ _ _ q)⟩
theorem ba {a b : Bool} (h : (a && b) = true) : a = true ∧ b = true := by rwa [Bool.and_eq_true] at h
theorem bn {a : Bool} (h : (!a) = true) : a = false := by simpa using h
mutual
theorem sE {G : Gs} : ∀ (ir : IE) {q : Rq} {Z : Sc} {W : WX} {pr : Option Hdp} {X : Cx}, XOk G q Z W pr X → ∀ {e : Expr}, chkE G Z ir e = true → PE X e (tD X.w X.K W pr (runE q ir))
  | .con d, q, Z, W, pr, X, x, e, h => chkC_ok h
  | .var i, q, Z, W, pr, X, x, e, h => by
    cases e with
    | Name n pos => exact var_ok x (of_decide_eq_true (ba h).1) (ba (ba h).2).1 (ba (ba h).2).2
    | _ => cases h
  | .glo n, q, Z, W, pr, X, x, e, h => by
    cases e with
    | Name y pos =>
      obtain ⟨h1, k2⟩ := ba h
      obtain ⟨h2, k3⟩ := ba k2
      obtain ⟨h3, k4⟩ := ba k3
      have h1 := of_decide_eq_true h1
      subst h1
      exact glo_ok x h2 h3 (of_decide_eq_true k4)
    | _ => cases h
  | .bin o a b, q, Z, W, pr, X, x, e, h => by
    cases e with
    | BinOp l op r pos =>
      obtain ⟨h1, k2⟩ := ba h
      obtain ⟨h2, k3⟩ := ba k2
      have h1 := opB_eq h1
      subst h1
      exact bin_ok (sE a x h2) (sE b x k3)
    | _ => cases h
  | .neg a, q, Z, W, pr, X, x, e, h => by
    cases e with
    | UnaryOp op l pos =>
      cases op with
      | USub => exact negE_ok (sE a x h)
      | _ => cases h
    | _ => cases h
  | .cmp o a b, q, Z, W, pr, X, x, e, h => by
    unfold chkE at h
    split at h
    · obtain ⟨h1, k2⟩ := ba h
      obtain ⟨h2, k3⟩ := ba k2
      obtain ⟨h3, k4⟩ := ba k3
      have h1 := cmpB_eq h1
      subst h1
      exact cmpE_ok x.hu (bn h2) (sE a x h3) (sE b x k4)
    · cases h
  | .chain o o' a b c, q, Z, W, pr, X, x, e, h => by
    unfold chkE at h
    split at h
    · obtain ⟨h1, k2⟩ := ba h
      obtain ⟨h2, k3⟩ := ba k2
      obtain ⟨h3, k4⟩ := ba k3
      obtain ⟨h4, k5⟩ := ba k4
      obtain ⟨h5, k6⟩ := ba k5
      have h1 := cmpB_eq h1
      subst h1
      have h2 := cmpB_eq h2
      subst h2
      exact chainE_ok x.hu (bn h3) (sE a x h4) (sE b x h5) (sE c x k6)
    · cases h
  | .and a b, q, Z, W, pr, X, x, e, h => by
    unfold chkE at h
    split at h
    · obtain ⟨h1, h2⟩ := ba h
      split at h2
      · exact andE_ok (sE a x h1) (pe_one (sE b x h2))
      · exact andE_ok (sE a x h1) (sE b x h2)
    · cases h
  | .or a b, q, Z, W, pr, X, x, e, h => by
    unfold chkE at h
    split at h
    · obtain ⟨h1, h2⟩ := ba h
      split at h2
      · exact orE_ok (sE a x h1) (pe_one (sE b x h2))
      · exact orE_ok (sE a x h1) (sE b x h2)
    · cases h
  | .not a, q, Z, W, pr, X, x, e, h => by
    cases e with
    | UnaryOp op l pos =>
      cases op with
      | Not => exact notE_ok (sE a x h)
      | _ => cases h
    | _ => cases h
  | .ife t a b, q, Z, W, pr, X, x, e, h => by
    cases e with
    | IfExp c l r pos =>
      obtain ⟨h1, k2⟩ := ba h
      obtain ⟨h2, k3⟩ := ba k2
      exact ifeE_ok (sT t x h1).1 (sE a x h2) (sE b x k3)
    | _ => cases h
  | .tup es, q, Z, W, pr, X, x, e, h => by
    cases e with
    | Tuple xs k pos => exact tupE_ok (sEs es x h)
    | _ => cases h
  | .lst es, q, Z, W, pr, X, x, e, h => by
    cases e with
    | List xs pos => exact lstE_ok (sEs es x h)
    | _ => cases h
  | .ix a b, q, Z, W, pr, X, x, e, h => by
    cases e with
    | Subscript l r pos =>
      obtain ⟨h1, k2⟩ := ba h
      obtain ⟨h2, k3⟩ := ba k2
      exact ixE_ok x.hu (plainIx_ok h1) (sE a x h2) (sE b x k3)
    | _ => cases h
  | .sl a lo hi, q, Z, W, pr, X, x, e, h => by
    unfold chkE at h
    split at h
    · obtain ⟨h1, k2⟩ := ba h
      obtain ⟨h2, k3⟩ := ba k2
      exact slE_ok (sE a x h1) (sO lo x h2) (sO hi x k3)
    · cases h
  | .rev a, q, Z, W, pr, X, x, e, h => by
    unfold chkE at h
    split at h
    · obtain ⟨h1, k2⟩ := ba h
      have h1 := of_decide_eq_true h1
      subst h1
      exact revE_ok (sE a x k2)
    · cases h
  | .call f es, q, Z, W, pr, X, x, e, h => by
    unfold chkE at h
    split at h
    · obtain ⟨h1, k2⟩ := ba h
      obtain ⟨h2, k3⟩ := ba k2
      obtain ⟨h3, k4⟩ := ba k3
      obtain ⟨h4, k5⟩ := ba k4
      obtain ⟨h5, k6⟩ := ba k5
      have h1 := of_decide_eq_true h1
      subst h1
      obtain ⟨s1, s2⟩ := chkEs_star k6
      exact callE_ok x h4 (gloB_ok x h2) (nmB_ok h3).1 (of_decide_eq_true h5) s1 s2 (sEs es x k6)
    · cases h
  | .blt b es, q, Z, W, pr, X, x, e, h => by
    unfold chkE at h
    split at h
    · obtain ⟨h1, k2⟩ := ba h
      obtain ⟨h2, k3⟩ := ba k2
      obtain ⟨h3, k4⟩ := ba k3
      obtain ⟨h4, k5⟩ := ba k4
      have h1 := of_decide_eq_true h1
      subst h1
      exact bltE_ok (x.cal h3).1 (gloB_ok x h2) (x.free _ (of_decide_eq_true h4)) (chkEs_star k5).1 (sEr es x k5)
    · cases h
  | .isi a t, q, Z, W, pr, X, x, e, h => by
    unfold chkE at h
    split at h
    · obtain ⟨h1, k2⟩ := ba h
      obtain ⟨h2, k3⟩ := ba k2
      obtain ⟨h3, k4⟩ := ba k3
      obtain ⟨h4, k5⟩ := ba k4
      obtain ⟨h5, k6⟩ := ba k5
      obtain ⟨h6, k7⟩ := ba k6
      obtain ⟨h7, k8⟩ := ba k7
      have h1 := of_decide_eq_true h1
      subst h1
      have h4 := of_decide_eq_true h4
      subst h4
      exact isiE_ok (gloB_ok x h2) (x.free _ (of_decide_eq_true h3)) (gloB_ok x h5) (x.free _ (of_decide_eq_true h6)) h7 (sE a x k8)
    · cases h
  | .mth mt o es, q, Z, W, pr, X, x, e, h => by
    unfold chkE at h
    split at h
    · obtain ⟨h1, k2⟩ := ba h
      obtain ⟨h2, k3⟩ := ba k2
      obtain ⟨h3, k4⟩ := ba k3
      obtain ⟨h4, k5⟩ := ba k4
      obtain ⟨h5, k6⟩ := ba k5
      obtain ⟨s1, s2⟩ := chkEs_star k6
      exact mthE_ok h1 h2 h3 (of_decide_eq_true h4) s1 s2 (sE o x h5) (sEs es x k6)
    · cases h
  | .any, q, Z, W, pr, X, x, e, h => anyE_ok
  | .fnv f, q, Z, W, pr, X, x, e, h => by
    cases e with
    | Name y pos =>
      obtain ⟨h1, k2⟩ := ba h
      obtain ⟨h2, k3⟩ := ba k2
      obtain ⟨h3, k4⟩ := ba k3
      have h1 := of_decide_eq_true h1
      subst h1
      exact fnvE_ok x h2 h3 (of_decide_eq_true k4)
    | _ => cases h
  | .callx a es, q, Z, W, pr, X, x, e, h => by
    unfold chkE at h
    split at h
    · obtain ⟨h1, k2⟩ := ba h
      obtain ⟨h2, k3⟩ := ba k2
      obtain ⟨h3, k4⟩ := ba k3
      obtain ⟨s1, s2⟩ := chkEs_star k4
      exact callxE_ok x h1 h2 s1 s2 (sE a x h3) (sEs es x k4)
    · cases h
  | .dct es, q, Z, W, pr, X, x, e, h => by
    unfold chkE at h
    split at h
    · obtain ⟨h1, h2⟩ := ba h
      obtain ⟨g1, g2⟩ := chkKs_len h1
      obtain ⟨g3, g4⟩ := sKs es (pos := _) x h1
      exact dctE_ok g1 g2 g3 (of_decide_eq_true h2) g4
    · cases h
  | .dc own kt elt g it t, q, Z, W, pr, X, x, e, h => by
    unfold chkE at h
    split at h
    · obtain ⟨h1, k2⟩ := ba h
      obtain ⟨h2, k3⟩ := ba k2
      obtain ⟨h3, k4⟩ := ba k3
      obtain ⟨h4, k5⟩ := ba k4
      obtain ⟨h5, k6⟩ := ba k5
      obtain ⟨h6, k7⟩ := ba k6
      obtain ⟨h7, k8⟩ := ba k7
      obtain ⟨h8, k9⟩ := ba k8
      obtain ⟨h9, k10⟩ := ba k9
      have h1 := of_decide_eq_true h1
      subst h1
      have ht := sTo t (x := x) h2 h8
      have hg := fun s H C cl fp => sG g (x.blk _ s H C cl fp h2) h7
      have hk := fun s H C cl fp => sE kt (x.blk _ s H C cl fp h2) h9
      have he := fun s H C cl fp => sE elt (x.blk _ s H C cl fp h2) k10
      have hi := sI it x h6
      refine PE.imp (pe_dc (x.cal h2).1 (by rw [x.N]; exact x.nd) hi (blkOk_by (by rw [x.N, x.sc]; exact h3)) hg ht hk he (notSet_ok h5)) (dcE_ok x h2 h3 (of_decide_eq_true h4) h5 hi hg ht hk he)
    · cases h
  | .dget o es, q, Z, W, pr, X, x, e, h => by
    unfold chkE at h
    split at h
    · obtain ⟨h1, k2⟩ := ba h
      obtain ⟨h2, k3⟩ := ba k2
      obtain ⟨h3, k4⟩ := ba k3
      obtain ⟨h4, k5⟩ := ba k4
      obtain ⟨h5, k6⟩ := ba k5
      have h1 := of_decide_eq_true h1
      subst h1
      have h4 := of_decide_eq_true h4
      rename_i ys _ _
      cases es with
      | nil =>
        cases ys with
        | nil => exact absurd h4.1 (by decide)
        | cons _ _ => cases k6
      | cons a es =>
        cases ys with
        | nil => cases k6
        | cons y ys =>
          obtain ⟨a1, a2⟩ := ba k6
          obtain ⟨c2, a3⟩ := ba a2
          cases es with
          | nil =>
            cases ys with
            | nil => exact dget1E_ok x.hu h2 h3 a1 (sE o x h5) (sE a x c2)
            | cons _ _ => cases a3
          | cons b es =>
            cases ys with
            | nil => cases a3
            | cons z ys =>
              obtain ⟨b1, b2⟩ := ba a3
              obtain ⟨d2, b3⟩ := ba b2
              cases es with
              | nil =>
                cases ys with
                | nil => exact dget2E_ok x.hu h2 h3 a1 b1 (sE o x h5) (sE a x c2) (sE b x d2)
                | cons _ _ => cases b3
              | cons _ _ =>
                cases ys with
                | nil => cases b3
                | cons _ _ => simp at h4
    · cases h
  | .itms b a, q, Z, W, pr, X, x, e, h => by
    unfold chkE at h
    split at h
    · obtain ⟨h1, k2⟩ := ba h
      obtain ⟨h2, k3⟩ := ba k2
      obtain ⟨h3, k4⟩ := ba k3
      obtain ⟨h4, k5⟩ := ba k4
      obtain ⟨h5, k6⟩ := ba k5
      obtain ⟨h6, k7⟩ := ba k6
      obtain ⟨h7, k8⟩ := ba k7
      have h1 := of_decide_eq_true h1
      subst h1
      exact itmsE_ok (x.cal h3).1 (gloB_ok x h2) (x.free _ (of_decide_eq_true h4)) h5 h6 h7 (sE a x k8)
    · cases h
  | .fld a f, q, Z, W, pr, X, x, e, h => by
    cases e with
    | Attribute l y pos =>
      obtain ⟨h1, k2⟩ := ba h
      obtain ⟨h2, k3⟩ := ba k2
      have h1 := of_decide_eq_true h1
      subst h1
      exact fldE_ok x h2 (sE a x k3)
    | _ => cases h
  | .mk C es, q, Z, W, pr, X, x, e, h => by
    unfold chkE at h
    split at h
    · obtain ⟨h1, k2⟩ := ba h
      obtain ⟨h2, k3⟩ := ba k2
      obtain ⟨h3, k4⟩ := ba k3
      obtain ⟨h4, k5⟩ := ba k4
      obtain ⟨h5, k6⟩ := ba k5
      have h1 := of_decide_eq_true h1
      subst h1
      obtain ⟨s1, s2⟩ := chkEs_star k6
      exact mkE_ok x h4 (of_decide_eq_true h5) (gloB_ok x h2) (nmB_ok h3).1 s1 s2 (sEs es x k6)
    · cases h
  | .mcl o m es, q, Z, W, pr, X, x, e, h => by
    unfold chkE at h
    split at h
    · obtain ⟨h1, k2⟩ := ba h
      obtain ⟨h2, k3⟩ := ba k2
      obtain ⟨h3, k4⟩ := ba k3
      obtain ⟨h4, k5⟩ := ba k4
      obtain ⟨h5, k6⟩ := ba k5
      obtain ⟨h6, k7⟩ := ba k6
      have h1 := of_decide_eq_true h1
      subst h1
      obtain ⟨s1, s2⟩ := chkEs_star k7
      exact mclE_ok x h5 h2 h3 (of_decide_eq_true h4) s1 s2 (sE o x h6) (sEs es x k7)
    · cases h
  | .lok p a, q, Z, W, pr, X, x, e, h => by
    obtain ⟨h1, h2⟩ := ba h
    exact lokE_ok h1 (sE a x h2)
  | .lc own elt g it t, q, Z, W, pr, X, x, e, h => by
    unfold chkE at h
    split at h
    · obtain ⟨h1, k2⟩ := ba h
      obtain ⟨h2, k3⟩ := ba k2
      obtain ⟨h3, k4⟩ := ba k3
      obtain ⟨h4, k5⟩ := ba k4
      obtain ⟨h5, k6⟩ := ba k5
      obtain ⟨h6, k7⟩ := ba k6
      obtain ⟨h7, k8⟩ := ba k7
      obtain ⟨h8, k9⟩ := ba k8
      have h1 := of_decide_eq_true h1
      subst h1
      have ht := sTo t (x := x) h2 h8
      have hg := fun s H C cl fp => sG g (x.blk _ s H C cl fp h2) h7
      have he := fun s H C cl fp => sE elt (x.blk _ s H C cl fp h2) k9
      have hi := sI it x h6
      refine PE.imp (pe_lc (x.cal h2).1 (by rw [x.N]; exact x.nd) hi (blkOk_by (by rw [x.N, x.sc]; exact h3)) hg ht he (notSet_ok h5)) (lcE_ok x h2 h3 (of_decide_eq_true h4) h5 hi hg ht he)
    · cases h
  | .efld i f, q, Z, W, pr, X, x, e, h => by
    unfold chkE at h
    split at h
    · obtain ⟨h1, k2⟩ := ba h
      obtain ⟨h2, k3⟩ := ba k2
      obtain ⟨h3, h4⟩ := ba k3
      have h4 := of_decide_eq_true h4
      subst h4
      exact efld_ok x (of_decide_eq_true h1) h2 h3
    · cases h
  | .eisi i k, q, Z, W, pr, X, x, e, h => by
    unfold chkE at h
    split at h
    · obtain ⟨h1, k2⟩ := ba h
      obtain ⟨h2, k3⟩ := ba k2
      obtain ⟨h3, k4⟩ := ba k3
      obtain ⟨h4, k5⟩ := ba k4
      obtain ⟨h5, k6⟩ := ba k5
      obtain ⟨h6, k7⟩ := ba k6
      obtain ⟨h7, k8⟩ := ba k7
      obtain ⟨h8, h9⟩ := ba k8
      have h1 := of_decide_eq_true h1
      subst h1
      have h7 := of_decide_eq_true h7
      subst h7
      exact eisi_ok x (gloB_ok x h2) (x.free _ (of_decide_eq_true h3)) (of_decide_eq_true h4) h5 h6 (gloB_ok x h8) h9
    · cases h
theorem sTo {G : Gs} : ∀ (t : Option IT) {q : Rq} {Z : Sc} {W : WX} {pr : Option Hdp} {X : Cx}, (x : XOk G q Z W pr X) → Z.calm = true → ∀ {scope : Scope} {ifs : List Expr}, (match t, ifs with
          | none, [] => true
          | some t, [c] => chkT G (Z.blk scope) t c
          | _, _ => false) = true → ∀ (s : Shared) (H : Hp) (C : Addr) (cl : List (Str × Addr)) (fp : List Addr), PTs (X.blk s H scope (compEnvC scope cl C X.env) fp) ifs (tT X.w X.K (fun _ _ _ _ => False) pr (runTo q t))
  | none, q, Z, W, pr, X, x, hc, scope, ifs, h, s, H, C, cl, fp => by
    cases ifs with
    | nil => exact PTs.imp pts_nil fun σ H Q ⟨m, ρ, s, R, p⟩ => p m H .refl R.st
    | cons _ _ => cases h
  | some t, q, Z, W, pr, X, x, hc, scope, ifs, h, s, H, C, cl, fp => by
    cases ifs with
    | nil => cases h
    | cons c r =>
      cases r with
      | nil => exact pts_one (sT t (x.blk scope s H C cl fp hc) h).1
      | cons _ _ => cases h
theorem sKs {G : Gs} : ∀ (es : List IE) {q : Rq} {Z : Sc} {W : WX} {pr : Option Hdp} {X : Cx} {pos : Pos}, XOk G q Z W pr X → ∀ {ks : List (Option Expr)} {vs : List Expr}, chkKs G Z es ks vs = true → es.length = 2 * ks.length ∧ PPs X pos ks vs (trs X.w X.K W pr q es)
  | [], q, Z, W, pr, X, pos, x, ks, vs, h => by
    cases ks with
    | cons _ _ => cases h
    | nil =>
      cases vs with
      | nil => exact ⟨rfl, pps_nil⟩
      | cons _ _ => cases h
  | [_], q, Z, W, pr, X, pos, x, ks, vs, h => by cases h
  | a :: b :: r, q, Z, W, pr, X, pos, x, ks, vs, h => by
    cases ks with
    | nil => cases h
    | cons k ks =>
      cases k with
      | none => cases h
      | some k =>
        cases vs with
        | nil => cases h
        | cons v vs =>
          obtain ⟨h1, k2⟩ := ba h
          obtain ⟨h2, k3⟩ := ba k2
          obtain ⟨g1, g2⟩ := sKs r (pos := pos) x k3
          exact ⟨by simp; omega, pps_cons (sE a x h1) (sE b x h2) g2⟩
theorem sEs {G : Gs} : ∀ (es : List IE) {q : Rq} {Z : Sc} {W : WX} {pr : Option Hdp} {X : Cx}, XOk G q Z W pr X → ∀ {xs : List Expr}, chkEs G Z es xs = true → PA X xs (tA X.w X.K W pr (runEs q es))
  | [], q, Z, W, pr, X, x, xs, h => by
    cases xs with
    | nil => exact esNil
    | cons _ _ => cases h
  | e :: es, q, Z, W, pr, X, x, xs, h => by
    cases xs with
    | nil => cases h
    | cons y ys =>
      obtain ⟨h1, k2⟩ := ba h
      obtain ⟨h2, k3⟩ := ba k2
      exact esCons h1 (sE e x h2) (sEs es x k3)
theorem sEr {G : Gs} : ∀ (es : List IE) {q : Rq} {Z : Sc} {W : WX} {pr : Option Hdp} {X : Cx}, XOk G q Z W pr X → ∀ {xs : List Expr}, chkEs G Z es xs = true → PA X xs (tZ X.w X.K W pr (runEr q es))
  | [], q, Z, W, pr, X, x, xs, h => by
    cases xs with
    | nil => exact erNil
    | cons _ _ => cases h
  | e :: es, q, Z, W, pr, X, x, xs, h => by
    cases xs with
    | nil => cases h
    | cons y ys =>
      obtain ⟨h1, k2⟩ := ba h
      obtain ⟨h2, k3⟩ := ba k2
      exact erCons h1 (sE e x h2) (sEr es x k3)
theorem sO {G : Gs} : ∀ (o : Option IE) {q : Rq} {Z : Sc} {W : WX} {pr : Option Hdp} {X : Cx}, XOk G q Z W pr X → ∀ {y : Option Expr}, chkO G Z o y = true → PO X y (tO X.w X.K W pr (runO q o))
  | none, q, Z, W, pr, X, x, y, h => by
    cases y with
    | none => exact oNone
    | some _ => cases h
  | some e, q, Z, W, pr, X, x, y, h => by
    cases y with
    | none => cases h
    | some y => exact oSome (sE e x h)
theorem sT {G : Gs} : ∀ (ir : IT) {q : Rq} {Z : Sc} {W : WX} {pr : Option Hdp} {X : Cx}, XOk G q Z W pr X → ∀ {e : Expr}, chkT G Z ir e = true → PT X e (tT X.w X.K W pr (runT q ir)) ∧ ∀ op vs pos, e = .BoolOp op vs pos → PW X e (tT X.w X.K W pr (runT q ir))
  | .and a b, q, Z, W, pr, X, x, e, h => by
    unfold chkT at h
    split at h
    · obtain ⟨h1, h2⟩ := ba h
      split at h2
      · exact ⟨(andT_ok (sT a x h1).1 (pw_and1 (sT b x h2).1)).pt, fun _ _ _ _ => andT_ok (sT a x h1).1 (pw_and1 (sT b x h2).1)⟩
      · have := andT_ok (sT a x h1).1 ((sT b x h2).2 _ _ _ rfl)
        exact ⟨this.pt, fun _ _ _ _ => this⟩
    · cases h
  | .or a b, q, Z, W, pr, X, x, e, h => by
    unfold chkT at h
    split at h
    · obtain ⟨h1, h2⟩ := ba h
      split at h2
      · exact ⟨(orT_ok (sT a x h1).1 (pw_or1 (sT b x h2).1)).pt, fun _ _ _ _ => orT_ok (sT a x h1).1 (pw_or1 (sT b x h2).1)⟩
      · have := orT_ok (sT a x h1).1 ((sT b x h2).2 _ _ _ rfl)
        exact ⟨this.pt, fun _ _ _ _ => this⟩
    · cases h
  | .not a, q, Z, W, pr, X, x, e, h => by
    cases e with
    | UnaryOp op l pos =>
      cases op with
      | Not => exact ⟨notT_ok (sT a x h).1, fun _ _ _ z => by cases z⟩
      | _ => cases h
    | _ => cases h
  | .cmp o a b, q, Z, W, pr, X, x, e, h => by
    unfold chkT at h
    split at h
    · obtain ⟨h1, k2⟩ := ba h
      obtain ⟨h2, k3⟩ := ba k2
      obtain ⟨h3, k4⟩ := ba k3
      have h1 := cmpB_eq h1
      subst h1
      exact ⟨cmpT_ok x.hu (bn h2) (sE a x h3) (sE b x k4), fun _ _ _ z => by cases z⟩
    · cases h
  | .chain o o' a b c, q, Z, W, pr, X, x, e, h => by
    unfold chkT at h
    split at h
    · obtain ⟨h1, k2⟩ := ba h
      obtain ⟨h2, k3⟩ := ba k2
      obtain ⟨h3, k4⟩ := ba k3
      obtain ⟨h4, k5⟩ := ba k4
      obtain ⟨h5, k6⟩ := ba k5
      have h1 := cmpB_eq h1
      subst h1
      have h2 := cmpB_eq h2
      subst h2
      exact ⟨chainT_ok x.hu (bn h3) (sE a x h4) (sE b x h5) (sE c x k6), fun _ _ _ z => by cases z⟩
    · cases h
  | .tru a, q, Z, W, pr, X, x, e, h => by
    obtain ⟨h1, k2⟩ := ba h
    exact ⟨truT_ok h1 (sE a x k2), fun _ _ _ z => by rw [z] at h1; cases h1⟩
  | .any, q, Z, W, pr, X, x, e, h => ⟨anyT_ok, fun _ _ _ _ => anyW_ok⟩
theorem sI {G : Gs} : ∀ (ir : II) {q : Rq} {Z : Sc} {W : WX} {pr : Option Hdp} {X : Cx}, XOk G q Z W pr X → ∀ {tg e : Expr}, chkI G Z ir tg e = true → PI X tg e (tI X.w X.K W pr (runI q ir))
  | .seq a, q, Z, W, pr, X, x, tg, e, h => seqW_ok (sE a x h)
  | .range es, q, Z, W, pr, X, x, tg, e, h => by
    unfold chkI at h
    split at h
    · obtain ⟨h1, k2⟩ := ba h
      obtain ⟨h2, k3⟩ := ba k2
      obtain ⟨h3, k4⟩ := ba k3
      obtain ⟨h4, k5⟩ := ba k4
      have h1 := of_decide_eq_true h1
      subst h1
      obtain ⟨s1, s2⟩ := chkEs_star k5
      exact rngW_ok (gloB_ok x h2) (x.free _ (of_decide_eq_true h3)) s1 s2 (of_decide_eq_true h4) (sEr es x k5)
    · cases h
  | .enum a, q, Z, W, pr, X, x, tg, e, h => by
    unfold chkI at h
    split at h
    · split at h
      · obtain ⟨h1, k2⟩ := ba h
        obtain ⟨h2, k3⟩ := ba k2
        obtain ⟨h3, k4⟩ := ba k3
        obtain ⟨h4, k5⟩ := ba k4
        have h1 := of_decide_eq_true h1
        subst h1
        exact enumW_ok (gloB_ok x h2) (x.free _ (of_decide_eq_true h3)) h4 (sE a x k5)
      · cases h
    · cases h
  | .any, q, Z, W, pr, X, x, tg, e, h => anyI_ok
  | .dk a, q, Z, W, pr, X, x, tg, e, h => dkW_ok (sE a x h)
  | .txt a, q, Z, W, pr, X, x, tg, e, h => txtW_ok (sE a x h)
  | .di a, q, Z, W, pr, X, x, tg, e, h => by
    unfold chkI at h
    split at h
    · split at h
      · obtain ⟨h1, k2⟩ := ba h
        obtain ⟨h2, k3⟩ := ba k2
        obtain ⟨h3, k4⟩ := ba k3
        have h1 := of_decide_eq_true h1
        subst h1
        exact diW_ok h2 h3 (sE a x k4)
      · cases h
    · cases h
  | .zip a b, q, Z, W, pr, X, x, tg, e, h => by
    unfold chkI at h
    split at h
    · split at h
      · obtain ⟨h1, k2⟩ := ba h
        obtain ⟨h2, k3⟩ := ba k2
        obtain ⟨h3, k4⟩ := ba k3
        obtain ⟨h4, k5⟩ := ba k4
        obtain ⟨h5, k6⟩ := ba k5
        obtain ⟨h6, k7⟩ := ba k6
        have h1 := of_decide_eq_true h1
        subst h1
        exact zipW_ok (gloB_ok x h2) (x.free _ (of_decide_eq_true h3)) h4 h5 (sE a x h6) (sE b x k7)
      · cases h
    · cases h
theorem sG {G : Gs} : ∀ (ir : IG) {q : Rq} {Z : Sc} {W : WX} {pr : Option Hdp} {X : Cx}, XOk G q Z W pr X → ∀ {e : Expr}, chkG G Z ir e = true → PG X e (gD X.w X.K pr ir.slots (runG q ir))
  | .nm i, q, Z, W, pr, X, x, e, h => by
    cases e with
    | Name n pos => exact nmG_ok x (of_decide_eq_true (ba h).1) (ba h).2
    | _ => cases h
  | .tup gs, q, Z, W, pr, X, x, e, h => by
    cases e with
    | Tuple xs k pos =>
      obtain ⟨h1, k2⟩ := ba h
      obtain ⟨s1, s2, s3⟩ := sGs gs x k2
      exact tupG_ok (x.cal h1).1 s1 s2 s3
    | _ => cases h
  | .sub o i, q, Z, W, pr, X, x, e, h => by
    cases e with
    | Subscript l r pos =>
      obtain ⟨h1, k2⟩ := ba h
      obtain ⟨h2, k3⟩ := ba k2
      exact subG_ok x.hu h1 (sE o x h2) (sE i x k3)
    | _ => cases h
theorem sGs {G : Gs} : ∀ (gs : List IG) {q : Rq} {Z : Sc} {W : WX} {pr : Option Hdp} {X : Cx}, XOk G q Z W pr X → ∀ {xs : List Expr}, chkGs G Z gs xs = true → xs.all notStar = true ∧ gs.length = xs.length ∧ PGs X xs (gDs X.w X.K pr (IG.slots.slotss gs) (runGs q gs))
  | [], q, Z, W, pr, X, x, xs, h => by
    cases xs with
    | nil => exact ⟨rfl, rfl, gsNil⟩
    | cons _ _ => cases h
  | g :: gs, q, Z, W, pr, X, x, xs, h => by
    cases xs with
    | nil => cases h
    | cons y ys =>
      obtain ⟨h1, k2⟩ := ba h
      obtain ⟨h2, k3⟩ := ba k2
      obtain ⟨s1, s2, s3⟩ := sGs gs x k3
      exact ⟨by rw [List.all_cons, h1, s1]; rfl, by simp [s2], gsCons h1 (sG g x h2) s3⟩
end
end DI

set_option Elab.async false
set_option linter.all false
set_option maxRecDepth 100000
set_option maxHeartbeats 4000000
/-! DI 14: statements but raise and try. -/
namespace DI
open PySem PySem.Spec PyProof.Rows L2
section
variable {w : World} {K : PySem.W.Frag} {W : WX} {pr : Option Hdp} {σ : L2.St} {m : List Addr} {H : Hp} {s : S} {ρ : En} {D : Ends}
theorem exS (R₀ : Rst w K pr m ρ s σ H) {C fs} {s' : S} (h : PostS w K W pr m H D (.exc C fs ρ s')) : ∀ m' H' dx, Ex m H m' H' → StOk w K m' H' s' → ExcAt w K m' H' dx fs → W (.ref (He.ga K C)) (some dx) σ H' :=
  fun m' H' dx e st x => h m' σ H' dx e (R₀.mono e st) x
theorem sE0 {f : En → S → R DI.D} {g : DI.D → S → RS} {k : V → Hp → Prop} (R₀ : Rst w K pr m ρ s σ H) (h : PostS w K W pr m H D ((f ρ s).thn ρ g))
    (hk : ∀ d s1 m1 v H1, PostS w K W pr m H D (g d s1) → Ex m H m1 H1 → Rst w K pr m1 ρ s1 σ H1 → Rp w K m1 H1 d v → Fresh H d v → k v H1) : tD w K W pr f σ H k := by
  refine ⟨m, ρ, s, R₀, ?_⟩
  cases q : f ρ s with
  | ok d s1 => rw [q] at h; exact fun m1 v H1 e st rp fr => hk d s1 m1 v H1 h e (R₀.mono e st) rp fr
  | exc C fs s' => rw [q] at h; exact exS R₀ h
  | bad => rw [q] at h; exact h
theorem sE1 {f : En → S → R DI.D} {g : DI.D → S → RS} {k : V → Hp → Prop} (R₀ : Rst w K pr m ρ s σ H) (h : PostS w K W pr m H D ((f ρ s).thn ρ g))
    (hk : ∀ d s1 m1 v H1, PostS w K W pr m1 H1 D (g d s1) → Ex m H m1 H1 → Rst w K pr m1 ρ s1 σ H1 → Rp w K m1 H1 d v → Fresh H d v → k v H1) : tD w K W pr f σ H k :=
  sE0 R₀ h fun d s1 m1 v H1 p e R1 r f => hk d s1 m1 v H1 (p.mono e R1.st) e R1 r f
theorem sT1 {f : En → S → R Bool} {g : Bool → S → RS} {k : Bool → Hp → Prop} (R₀ : Rst w K pr m ρ s σ H) (h : PostS w K W pr m H D ((f ρ s).thn ρ g))
    (hk : ∀ d s1 m1 H1, PostS w K W pr m1 H1 D (g d s1) → Ex m H m1 H1 → Rst w K pr m1 ρ s1 σ H1 → k d H1) : tT w K W pr f σ H k := by
  refine ⟨m, ρ, s, R₀, ?_⟩
  cases q : f ρ s with
  | ok d s1 => rw [q] at h; exact fun m1 H1 e st => hk d s1 m1 H1 (PostS.mono e st h) e (R₀.mono e st)
  | exc C fs s' => rw [q] at h; exact exS R₀ h
  | bad => rw [q] at h; exact h
theorem sA1 {f : En → S → R (List DI.D)} {g : List DI.D → S → RS} {k : List V → Hp → Prop} (R₀ : Rst w K pr m ρ s σ H) (h : PostS w K W pr m H D ((f ρ s).thn ρ g))
    (hk : ∀ ds s1 m1 vs H1, f ρ s = .ok ds s1 → PostS w K W pr m1 H1 D (g ds s1) → Ex m H m1 H1 → Rst w K pr m1 ρ s1 σ H1 → Rps w K m1 H1 ds vs → k vs H1) : tA w K W pr f σ H k := by
  refine ⟨m, ρ, s, R₀, ?_⟩
  cases q : f ρ s with
  | ok d s1 => rw [q] at h; exact fun m1 vs H1 e st r => hk d s1 m1 vs H1 q (PostS.mono e st h) e (R₀.mono e st) r
  | exc C fs s' => rw [q] at h; exact exS R₀ h
  | bad => rw [q] at h; exact h
theorem sI1 {f : En → S → R Its} {g : Its → S → RS} {k : It → Hp → Prop} (R₀ : Rst w K pr m ρ s σ H) (h : PostS w K W pr m H D ((f ρ s).thn ρ g))
    (hk : ∀ I s1 m1 J H1, PostS w K W pr m1 H1 D (g I s1) → Ex m H m1 H1 → Rst w K pr m1 ρ s1 σ H1 → WalkD w K m1 H1 J I → k J H1) : tI w K W pr f σ H k := by
  refine ⟨m, ρ, s, R₀, ?_⟩
  cases q : f ρ s with
  | ok d s1 => rw [q] at h; exact fun m1 H1 J e st r => hk d s1 m1 J H1 (PostS.mono e st h) e (R₀.mono e st) r
  | exc C fs s' => rw [q] at h; exact exS R₀ h
  | bad => rw [q] at h; exact h
end
section
variable {G : Gs} {q : Rq} {Z : Sc} {W : WX} {pr : Option Hdp} {X : Cx}
theorem asgS_ok {g : IG} {e : IE} {tg v : Expr} {pos : Pos} (hs : notStar tg = true) (hsw : swapsWithSole [tg] v pos.line X.env = pure false) (hw : swappedStores [tg] v X.env = pure none) (he : PE X v (tD X.w X.K W pr (runE q e)))
    (hg : PG X tg (gD X.w X.K pr g.slots (runG q g))) : PS X (.Assign [tg] v pos) (tS X.w X.K W pr (runS q (.asg g e))) := by
  refine PS.imp (ps_asg he hg hsw hw (by rw [assign_star hs]; rfl)) fun D σ H ⟨m, ρ, s, R, p⟩ => sE0 R p fun d s1 m1 v H1 p1 e1 R1 r1 f1 => ?_
  refine ⟨m, H, m1, ρ, s1, d, e1, R1, r1, f1, ?_⟩
  cases eg : runG q g d ρ s1 with
  | ok ρ' s' => rw [eg] at p1; exact fun m' σ' H' ex R' _ _ => p1 m' σ' H' ex R'
  | exc C fs s' => rw [eg] at p1; exact p1
  | bad => rw [eg] at p1; exact p1
/-- name = [..] that is stored within the comprehension's frame -/
theorem asgLc_ok {i : Nat} {own : List (Str × Nat)} {elt : IE} {g : IG} {it : II} {t : Option IT} {n : Str} {py pos spos : Pos} {e tg iter : Expr} {ifs : List Expr} {scope : Scope} (x : XOk G q Z W pr X) (hN : Z.N[i]? = some n) (hl : X.env.scope.names.lookup n = some .local)
    (hsw : swapsWith (.ListComp e [⟨tg, iter, ifs, 0⟩] scope pos) (some (.Name n py)) spos.line X.env = pure true) (hc : Z.calm = true) (ok : blkC Z.N Z.sc scope own = true)
    (hsl : ∀ i ∈ g.slots, i ∈ own.map (·.2)) (hset : notSet iter = true) (hi : PI X tg iter (tI X.w X.K W pr (runI q it)))
    (hg : ∀ (s : Shared) (H : Hp) (C : Addr) (cl : List (Str × Addr)) (fp : List Addr), PG (X.blk s H scope (compEnvC scope cl C X.env) fp) tg (gD X.w X.K pr g.slots (runG q g)))
    (ht : ∀ (s : Shared) (H : Hp) (C : Addr) (cl : List (Str × Addr)) (fp : List Addr), PTs (X.blk s H scope (compEnvC scope cl C X.env) fp) ifs (tT X.w X.K (fun _ _ _ _ => False) pr (runTo q t)))
    (he : ∀ (s : Shared) (H : Hp) (C : Addr) (cl : List (Str × Addr)) (fp : List Addr), PE (X.blk s H scope (compEnvC scope cl C X.env) fp) e (tD X.w X.K (fun _ _ _ _ => False) pr (runE q elt))) :
    PS X (.Assign [.Name n py] (.ListComp e [⟨tg, iter, ifs, 0⟩] scope pos) spos) (tS X.w X.K W pr (runS q (.asg (.nm i) (.lc own elt g it t)))) := by
  refine PS.imp (ps_setLc (i := i) (x.cal hc).1 (by rw [x.N]; exact x.nd) (by rw [x.N]; exact hN) hl hsw hi (blkOk_by (by rw [x.N, x.sc]; exact ok)) hg ht he (notSet_ok hset)) fun D σ H ⟨m, ρ, s, R, p⟩ => ?_
  refine lcE_ok x hc ok hsl hset hi hg ht he σ H _ (sE0 R p fun d s1 m1 v H1 p1 e1 R1 r1 f1 => ?_)
  unfold runG at p1
  cases e2 : setl d s1 with
  | ok d' s' =>
    rw [e2] at p1
    obtain ⟨m', e3, R2, r2, hs, _⟩ := setl_rst e1 R1 r1 f1 e2
    have p1 : PostS X.w X.K W pr m H D ((if i < ρ.length ∧ hdOk q.hd i = true then (DI.R.ok (ρ.set i (some d')) s' : DI.R En) else .bad).nox.thn ρ fun ρ s => .nx ρ s) := p1
    split at p1
    · rename_i h
      exact p1 m' _ H1 e3 (R2.set hs r2 h.1 fun pp ep => (by
        have h2 := h.2
        rw [x.hd, ep] at h2
        exact of_decide_eq_true h2))
    · exact p1.elim
  | exc C fs s' => exact (setl_exc e2).elim
  | bad => rw [e2] at p1; exact p1.elim
def rAug (o : BOp) : R2 := fun x y H Q => match o with
  | .add => rI0 (fun i j => .int (i + j)) x y H Q ∨ (∃ i j, x = .str i ∧ y = .str j ∧ i.length + j.length ≤ sizeLine ∧ Q (.str (i ++ j)) H)
  | .sub => rI0 (fun i j => .int (i - j)) x y H Q
  | .mul => rI CMul (fun i j => .int (i * j)) x y H Q
  | _ => False
theorem op_aug (o : BOp) : OpR X (inplaceOp (opOf o)) (rAug o) := by
  cases o with
  | add => exact iop_add.or iop_add_str
  | sub => exact iop_sub
  | mul => exact iop_mul
  | fdiv => exact fun _ _ _ _ _ _ _ _ _ _ _ _ q => q.elim
  | mod => exact fun _ _ _ _ _ _ _ _ _ _ _ _ q => q.elim
  | pow => exact fun _ _ _ _ _ _ _ _ _ _ _ _ q => q.elim
theorem augS_ok {i : Nat} {o : BOp} {e : IE} {n : Str} {v : Expr} {p' pos : Pos} (x : XOk G q Z W pr X) (hi : Z.N[i]? = some n) (hl : locB Z n = true) (he : PE X v (tD X.w X.K W pr (runE q e))) : PS X (.AugAssign (.Name n p') (opOf o) v pos) (tS X.w X.K W pr (runS q (.aug i o e))) := by
  have hx : L2.Loc X.env.scope n ∧ (X.fn n = true ∨ X.env.scope.names.lookup n = some .local) := by
    rw [x.sc, x.fn]
    unfold locB at hl
    unfold L2.Loc
    split at hl
    · rename_i e; rw [e]; simp
    · rename_i e; rw [e]; simp [hl]
    · cases hl
  refine PS.imp (ps_aug (i := i) (by rw [x.N]; exact x.nd) (by rw [x.N]; exact hi) hx.1 he (ti := rAug o) (op_aug o) hx.2) fun D σ H ⟨m, ρ, s, R, p⟩ => ?_
  unfold runS at p
  split at p
  · rename_i d ed
    obtain ⟨hd, v, ev, rd⟩ := R.at_ i d ed
    refine ⟨v, ev, sE1 R p fun d2 s1 m1 v2 H1 p1 e1 R1 r1 f1 => ?_⟩
    have hil : i < ρ.length := (List.getElem?_eq_some_iff.mp ed).1
    split at p1
    · rename_i hh
      have hpp : ∀ p, pr = some p → i ≠ p.i := fun pp ep => by
        rw [x.hd, ep] at hh
        exact of_decide_eq_true hh
      have rd1 := rd.mono e1
      have fin : ∀ z zv, z.shr = true → Rp X.w X.K m1 H1 z zv → PostS X.w X.K W pr m1 H1 D (.nx (ρ.set i (some z)) s1) → D.nx (σ.set i (some zv)) H1 := fun z zv hz rz p => p m1 _ H1 .refl (R1.set hz rz hil hpp)
      unfold augD at p1
      split at p1
      · cases rd1; cases r1
        split at p1
        · exact .inl ⟨_, _, rfl, rfl, fin _ _ rfl (.int _) p1⟩
        · exact ⟨_, _, rfl, rfl, fin _ _ rfl (.int _) p1⟩
        · split at p1
          · rename_i hz; exact ⟨_, _, rfl, rfl, hz, fin _ _ rfl (.int _) p1⟩
          · exact p1.elim
        · exact p1.elim
      · cases rd1; cases r1
        split at p1
        · split at p1
          · rename_i hz; exact .inr ⟨_, _, rfl, rfl, hz, fin _ _ rfl (.str _) p1⟩
          · exact p1.elim
        · exact p1.elim
      · exact p1.elim
    · exact p1.elim
  · exact p.elim
theorem exprS_ok {e : IE} {v : Expr} {pos : Pos} (hs : swapsWith v none pos.line X.env = pure false) (he : PE X v (tD X.w X.K W pr (runE q e))) : PS X (.Expr v pos) (tS X.w X.K W pr (runS q (.expr e))) :=
  PS.imp (ps_expr he hs) fun D σ H ⟨m, ρ, s, R, p⟩ => sE1 R p fun d s1 m1 v H1 p1 e1 R1 r1 f1 => p1 m1 σ H1 .refl R1
theorem retN_ok {pos : Pos} : PS X (.Return none pos) (tS X.w X.K W pr (runS q (.ret none))) :=
  PS.imp ps_retN fun D σ H ⟨m, ρ, s, R, p⟩ => p m .non H .refl R.st .non fun z => by cases z
theorem ret_ok {e : IE} {v : Expr} {pos : Pos} (he : PE X v (tD X.w X.K W pr (runE q e))) : PS X (.Return (some v) pos) (tS X.w X.K W pr (runS q (.ret (some e)))) :=
  PS.imp (ps_ret he) fun D σ H ⟨m, ρ, s, R, p⟩ => sE0 R p fun d s1 m1 v H1 p1 e1 R1 r1 f1 => p1 m1 v H1 e1 R1.st r1 f1
theorem ifS_ok {t : IT} {a b : List IS} {c : Expr} {x y : List Stmt} {pos : Pos} (ht : PT X c (tT X.w X.K W pr (runT q t))) (ha : PSs X x (tS X.w X.K W pr (runSs q a))) (hb : PSs X y (tS X.w X.K W pr (runSs q b))) : PS X (.If c x y pos) (tS X.w X.K W pr (runS q (.ife t a b))) :=
  PS.imp (ps_if ht ha hb) fun D σ H ⟨m, ρ, s, R, p⟩ => sT1 R p fun k s1 m1 H1 p1 e1 R1 => ite_t (fun hk => by rw [if_pos hk] at p1; exact ⟨m1, ρ, s1, R1, p1⟩) fun hk => by rw [if_neg (by rw [hk]; decide)] at p1; exact ⟨m1, ρ, s1, R1, p1⟩
theorem seqS_nil : PSs X [] (tS X.w X.K W pr (runSs q [])) := PSs.imp pss_nil fun D σ H ⟨m, ρ, s, R, p⟩ => p m σ H .refl R
theorem seqS_cons {st : IS} {r : List IS} {x : Stmt} {xs : List Stmt} (h : PS X x (tS X.w X.K W pr (runS q st))) (t : PSs X xs (tS X.w X.K W pr (runSs q r))) : PSs X (x :: xs) (tS X.w X.K W pr (runSs q (st :: r))) := by
  refine PSs.imp (pss_cons h t) fun D σ H ⟨m, ρ, s, R, p⟩ => ⟨m, ρ, s, R, ?_⟩
  unfold runSs at p
  cases e : runS q st ρ s with
  | nx ρ' s' => rw [e] at p; exact fun m' σ' H' ex R' => ⟨m', ρ', s', R', PostS.mono ex R'.st p⟩
  | rt d s' => rw [e] at p; exact p
  | bk ρ' s' => rw [e] at p; exact p
  | ct ρ' s' => rw [e] at p; exact p
  | exc C fs ρ' s' => rw [e] at p; exact p
  | bad => rw [e] at p; exact p
theorem forS_ok {g : IG} {it : II} {body : List IS} {tg iter : Expr} {bs : List Stmt} {pos : Pos} (x : XOk G q Z W pr X) (hc : X.calm = true) (hset : notSet iter = true) (hi : PI X tg iter (tI X.w X.K W pr (runI q it))) (hg : PG X tg (gD X.w X.K pr g.slots (runG q g)))
    (hb : PSs X bs (tS X.w X.K W pr (runSs q body))) : PS X (.For tg iter bs [] pos) (tS X.w X.K W pr (runS q (.fo g it body))) := by
  refine PS.imp (ps_for x.po hc hi hg hb (notSet_ok hset)) fun D σ H ⟨m, ρ, s, R, p⟩ => sI1 R p fun I s1 m1 J H1 p1 e1 R1 wk => ?_
  refine ⟨fun i k σ Hh => k = I.xs.length - i ∧ i ≤ I.xs.length ∧ ∃ m ρ s, Ex m1 H1 m Hh ∧ Rst X.w X.K pr m ρ s σ Hh ∧ PostS X.w X.K W pr m Hh D (foL (fun x ρ s => runG q g x ρ s) (fun ρ s => runSs q body ρ s) I.ok (I.xs.drop i) ρ s),
    ⟨_, rfl, Nat.zero_le _, m1, ρ, s1, .refl, R1, p1⟩, ?_⟩
  rintro i k σ2 Hh ⟨rfl, hi, m2, ρ2, s2, ex, R2, p2⟩
  by_cases hlt : i < I.xs.length
  · have ed : I.xs.drop i = I.xs[i] :: I.xs.drop (i + 1) := List.drop_eq_getElem_cons hlt
    rw [ed] at p2
    unfold foL at p2
    split at p2
    · rename_i hok
      refine .inr ⟨wk.go i m2 Hh s2 hlt ex R2.st hok, fun σ' H' => i + 1 ≤ I.xs.length ∧ ∃ m ρ s, Ex m1 H1 m H' ∧ Rst X.w X.K pr m ρ s σ' H' ∧ PostS X.w X.K W pr m H' D (foL (fun x ρ s => runG q g x ρ s) (fun ρ s => runSs q body ρ s) I.ok (I.xs.drop (i + 1)) ρ s),
        fun σ' H' h => ⟨I.xs.length - (i + 1), by omega, rfl, h.1, h.2⟩, fun v H' y => ?_⟩
      obtain ⟨d, e2, hd, ex2, st2, rd⟩ := wk.yld i m2 Hh s2 v H' hlt ex R2.st hok y
      rw [List.getElem?_eq_getElem hlt] at e2
      cases e2
      have R3 := R2.mono ex2 st2
      have p2 := p2.mono ex2 st2
      refine ⟨m2, H', m2, ρ2, s2, _, .refl, R3, rd, fun z => (by rw [hd] at z; cases z), ?_⟩
      cases eg : runG q g I.xs[i] ρ2 s2 with
      | ok ρ3 s3 =>
        rw [eg] at p2
        dsimp only at p2
        intro m3 σ3 H3 ex3 R3' _ _
        have p3 := PostS.mono ex3 R3'.st p2
        have exA := (ex.trans ex2).trans ex3
        refine ⟨m3, ρ3, s3, R3', ?_⟩
        cases eb : runSs q body ρ3 s3 with
        | nx ρ4 s4 =>
          rw [eb] at p3
          exact fun m4 σ4 H4 ex4 R4 => ⟨hlt, m4, ρ4, s4, exA.trans ex4, R4, PostS.mono ex4 R4.st p3⟩
        | ct ρ4 s4 =>
          rw [eb] at p3
          exact fun m4 σ4 H4 ex4 R4 => ⟨hlt, m4, ρ4, s4, exA.trans ex4, R4, PostS.mono ex4 R4.st p3⟩
        | bk ρ4 s4 => rw [eb] at p3; exact p3
        | rt d s4 => rw [eb] at p3; exact p3
        | exc C fs ρ4 s4 => rw [eb] at p3; exact p3
        | bad => rw [eb] at p3; exact p3
      | exc C fs s' => rw [eg] at p2; exact p2
      | bad => rw [eg] at p2; exact p2
    · exact p2.elim
  · have ei : i = I.xs.length := by omega
    subst ei
    rw [List.drop_length] at p2
    unfold foL at p2
    split at p2
    · rename_i hok
      exact .inl ⟨wk.stop m2 Hh s2 ex R2.st hok, p2 m2 σ2 Hh .refl R2⟩
    · exact p2.elim
theorem whlS_ok {t : IT} {body : List IS} {c : Expr} {bs : List Stmt} {pos : Pos} (x : XOk G q Z W pr X) (ht : PT X c (tT X.w X.K W pr (runT q t))) (hb : PSs X bs (tS X.w X.K W pr (runSs q body))) : PS X (.While c bs [] pos) (tS X.w X.K W pr (runS q (.whl t body))) := by
  refine PS.imp (ps_while x.po ht hb) fun D σ H ⟨m, ρ, s, R, p⟩ => ?_
  refine ⟨fun n σ H => ∃ m ρ s, Rst X.w X.K pr m ρ s σ H ∧ PostS X.w X.K W pr m H D (whL (fun ρ s => runT q t ρ s) (fun ρ s => runSs q body ρ s) n ρ s), ⟨q.fuel, m, ρ, s, R, p⟩, ?_⟩
  rintro n σ2 H2 ⟨m2, ρ2, s2, R2, p2⟩
  cases n with
  | zero => exact p2.elim
  | succ n =>
    unfold whL at p2
    refine ⟨m2, ρ2, s2, R2, ?_⟩
    cases et : runT q t ρ2 s2 with
    | ok k s3 =>
      rw [et] at p2
      intro m3 H3 ex3 st3
      have R3 := R2.mono ex3 st3
      cases k with
      | true =>
        rw [if_pos rfl]
        dsimp only at p2
        have p3 := PostS.mono ex3 st3 p2
        refine ⟨fun σ' H' => ∃ m ρ s, Rst X.w X.K pr m ρ s σ' H' ∧ PostS X.w X.K W pr m H' D (whL (fun ρ s => runT q t ρ s) (fun ρ s => runSs q body ρ s) n ρ s), fun σ' H' h => ⟨n, Nat.lt_succ_self n, h⟩, m3, ρ2, s3, R3, ?_⟩
        cases eb : runSs q body ρ2 s3 with
        | nx ρ4 s4 => rw [eb] at p3; exact fun m4 σ4 H4 ex4 R4 => ⟨m4, ρ4, s4, R4, PostS.mono ex4 R4.st p3⟩
        | ct ρ4 s4 => rw [eb] at p3; exact fun m4 σ4 H4 ex4 R4 => ⟨m4, ρ4, s4, R4, PostS.mono ex4 R4.st p3⟩
        | bk ρ4 s4 => rw [eb] at p3; exact p3
        | rt d s4 => rw [eb] at p3; exact p3
        | exc C fs ρ4 s4 => rw [eb] at p3; exact p3
        | bad => rw [eb] at p3; exact p3
      | false =>
        rw [if_neg (by decide)]
        exact p2 m3 σ2 H3 ex3 R3
    | exc C fs s' => rw [et] at p2; exact exS R2 p2
    | bad => rw [et] at p2; exact p2
/-- name = {k: v for ..} stored within the comprehension's frame -/
theorem ps_setDc {i : Nat} {y : Str} {py : Pos} {kx vx tg iter : Expr} {ifs : List Expr} {scope : Scope} {own : List (Str × Nat)} {pos spos : Pos} {wi : TI} {g : TG} {tt : TT} {tk tv : TE} (hc : X.calm = true) (hN : X.N.Nodup) (hy : X.N[i]? = some y) (hyl : X.env.scope.names.lookup y = some .local)
    (hsw : swapsWith (.DictComp kx vx [⟨tg, iter, ifs, 0⟩] scope pos) (some (.Name y py)) spos.line X.env = pure true) (hi : PI X tg iter wi) (ok : BlkOk X.N X.env.scope scope own)
    (hg : ∀ (s : Shared) (H : Hp) (C : Addr) (cl : List (Str × Addr)) (fp : List Addr), PG (X.blk s H scope (compEnvC scope cl C X.env) fp) tg g) (ht : ∀ (s : Shared) (H : Hp) (C : Addr) (cl : List (Str × Addr)) (fp : List Addr), PTs (X.blk s H scope (compEnvC scope cl C X.env) fp) ifs tt)
    (hk : ∀ (s : Shared) (H : Hp) (C : Addr) (cl : List (Str × Addr)) (fp : List Addr), PE (X.blk s H scope (compEnvC scope cl C X.env) fp) kx tk)
    (he : ∀ (s : Shared) (H : Hp) (C : Addr) (cl : List (Str × Addr)) (fp : List Addr), PE (X.blk s H scope (compEnvC scope cl C X.env) fp) vx tv) (hs : ∀ x, foldedSetIterable iter X.env x = pure x) :
    PS X (.Assign [.Name y py] (.DictComp kx vx [⟨tg, iter, ifs, 0⟩] scope pos) spos) (tAsg (tDc wi g tt tk tv (own.map (·.2))) (gName i)) := by
  refine ⟨fun pins s σ H D I h => ?_⟩
  rw [exec_Assign_Name_used _ _ _ _ hsw]
  refine wpAny_bind (wpAny_standAt (wpAny_bind ?_))
  show wpAny _ X.A (do let _ ← comprehension (.DictComp kx vx [⟨tg, iter, ifs, 0⟩] scope pos) scope X.env (firstIterPos [⟨tg, iter, ifs, 0⟩] pos) newDict false (eval iter X.env) (some (assign (.Name y py) X.env))) _ _ s
  have h : tDc wi g tt tk tv (own.map (·.2)) σ H (fun x H1 => gName i x σ H1 D.nx) := h
  refine wpAny_bind (thn (dc_core (Qf := fun _ s' => SP X pins D .next s') hc hN I hi ok hg ht hk he hs h fun L C s' m H' I' q hn f => ?_) fun _ s' hq => wpAny_pure (wpAny_pure hq))
  show wpAny _ _ (assign (.Name y py) X.env (.ref L)) _ _ _
  refine wpAny_assign_Name (store_ok2 (v := V.ref L) I' hN hy (.inl hyl) rfl (fun s2 I2 ⟨a, sb, ha⟩ => ?_) (.inr hyl))
  obtain ⟨f0, f1, f2, f3, f4, f5⟩ := f
  have haC : C ≠ a := by
    rcases ha with z | z
    · rw [z]; exact f1
    · exact fun e => f4 y a z e.symm
  refine ⟨m, hn.sameBut sb haC, fun h3 sb3 => ?_⟩
  exact ⟨_, H', I2.turned (t' := s2.toks) (fun b o hb e => (sb3.2 b hb).trans e) f0 f1 f3 f4 f5, q⟩
theorem asgDc_ok {i : Nat} {own : List (Str × Nat)} {kt elt : IE} {g : IG} {it : II} {t : Option IT} {n : Str} {py pos spos : Pos} {kx e tg iter : Expr} {ifs : List Expr} {scope : Scope} (x : XOk G q Z W pr X) (hN : Z.N[i]? = some n) (hl : X.env.scope.names.lookup n = some .local)
    (hsw : swapsWith (.DictComp kx e [⟨tg, iter, ifs, 0⟩] scope pos) (some (.Name n py)) spos.line X.env = pure true) (hc : Z.calm = true) (ok : blkC Z.N Z.sc scope own = true)
    (hsl : ∀ i ∈ g.slots, i ∈ own.map (·.2)) (hset : notSet iter = true) (hi : PI X tg iter (tI X.w X.K W pr (runI q it)))
    (hg : ∀ (s : Shared) (H : Hp) (C : Addr) (cl : List (Str × Addr)) (fp : List Addr), PG (X.blk s H scope (compEnvC scope cl C X.env) fp) tg (gD X.w X.K pr g.slots (runG q g)))
    (ht : ∀ (s : Shared) (H : Hp) (C : Addr) (cl : List (Str × Addr)) (fp : List Addr), PTs (X.blk s H scope (compEnvC scope cl C X.env) fp) ifs (tT X.w X.K (fun _ _ _ _ => False) pr (runTo q t)))
    (hk : ∀ (s : Shared) (H : Hp) (C : Addr) (cl : List (Str × Addr)) (fp : List Addr), PE (X.blk s H scope (compEnvC scope cl C X.env) fp) kx (tD X.w X.K (fun _ _ _ _ => False) pr (runE q kt)))
    (he : ∀ (s : Shared) (H : Hp) (C : Addr) (cl : List (Str × Addr)) (fp : List Addr), PE (X.blk s H scope (compEnvC scope cl C X.env) fp) e (tD X.w X.K (fun _ _ _ _ => False) pr (runE q elt))) :
    PS X (.Assign [.Name n py] (.DictComp kx e [⟨tg, iter, ifs, 0⟩] scope pos) spos) (tS X.w X.K W pr (runS q (.asg (.nm i) (.dc own kt elt g it t)))) := by
  refine PS.imp (ps_setDc (i := i) (x.cal hc).1 (by rw [x.N]; exact x.nd) (by rw [x.N]; exact hN) hl hsw hi (blkOk_by (by rw [x.N, x.sc]; exact ok)) hg ht hk he (notSet_ok hset)) fun D σ H ⟨m, ρ, s, R, p⟩ => ?_
  refine dcE_ok x hc ok hsl hset hi hg ht hk he σ H _ (sE0 R p fun d s1 m1 v H1 p1 e1 R1 r1 f1 => ?_)
  unfold runG at p1
  cases e2 : setl d s1 with
  | ok d' s' =>
    rw [e2] at p1
    obtain ⟨m', e3, R2, r2, hs, _⟩ := setl_rst e1 R1 r1 f1 e2
    have p1 : PostS X.w X.K W pr m H D ((if i < ρ.length ∧ hdOk q.hd i = true then (DI.R.ok (ρ.set i (some d')) s' : DI.R En) else .bad).nox.thn ρ fun ρ s => .nx ρ s) := p1
    split at p1
    · rename_i h
      exact p1 m' _ H1 e3 (R2.set hs r2 h.1 fun pp ep => (by
        have h2 := h.2
        rw [x.hd, ep] at h2
        exact of_decide_eq_true h2))
    · exact p1.elim
  | exc C fs s' => exact (setl_exc e2).elim
  | bad => rw [e2] at p1; exact p1.elim
theorem anyS_ok {st : Stmt} : PS X st (tS X.w X.K W pr (runS q .any)) := ⟨fun _ _ _ _ _ _ ⟨_, _, _, _, p⟩ => p.elim⟩
/-! ### fields -/
theorem sES1 {w : World} {K : PySem.W.Frag} {σ : L2.St} {m : List Addr} {H : Hp} {s : S} {ρ : En} {D : Ends} {f : En → S → DI.R DI.D} {g : DI.D → S → RS} {k : V → Hp → Prop} (R₀ : Rst w K pr m ρ s σ H) (h : PostS w K W pr m H D (((f ρ s).bind setl).thn ρ g))
    (hk : ∀ d s1 m1 v H1, PostS w K W pr m1 H1 D (g d s1) → Ex m H m1 H1 → Rst w K pr m1 ρ s1 σ H1 → Rp w K m1 H1 d v → d.shr = true → k v H1) : tD w K W pr f σ H k := by
  refine ⟨m, ρ, s, R₀, ?_⟩
  cases e : f ρ s with
  | ok d s1 =>
    rw [e] at h
    intro m1 v H1 ex st rp fr
    have R1 := R₀.mono ex st
    cases e2 : setl d s1 with
    | ok d' s2 =>
      have h : PostS w K W pr m H D ((setl d s1).thn ρ g) := h
      rw [e2] at h
      obtain ⟨m2, ex2, R2, r2, hs, _⟩ := setl_rst ex R1 rp fr e2
      exact hk d' s2 m2 v H1 (PostS.mono ex2 R2.st h) ex2 R2 r2 hs
    | exc C fs s' => exact (setl_exc e2).elim
    | bad =>
      have h : PostS w K W pr m H D ((setl d s1).thn ρ g) := h
      rw [e2] at h; exact h.elim
  | exc C fs s' => rw [e] at h; exact exS R₀ h
  | bad => rw [e] at h; exact h
theorem Fs.len {w : World} {K : PySem.W.Frag} {m : List Addr} {H : Hp} : ∀ {fs : List (Str × DI.D)} {vs : List (Str × V)}, Fs w K m H fs vs → vs.length = fs.length
  | _, _, .nil => rfl
  | _, _, .cons _ _ r => by simp [Fs.len r]
theorem Fs.put {w : World} {K : PySem.W.Frag} {m : List Addr} {H : Hp} {f : Str} {d : DI.D} {v : V} (hs : d.shr = true) (hd : Rp w K m H d v) : ∀ {fs : List (Str × DI.D)} {vs : List (Str × V)}, Fs w K m H fs vs → Fs w K m H (putFd f d fs) (putF f v vs)
  | _, _, .nil => .cons hs hd .nil
  | _, _, .cons (f := g) h0 h r => by
    unfold putFd putF
    by_cases e : g = f
    · rw [if_pos e, if_pos e]; exact .cons hs hd r
    · rw [if_neg e, if_neg e]; exact .cons h0 h (Fs.put hs hd r)
theorem putFl_h {w : World} {K : PySem.W.Frag} {m : List Addr} {H : Hp} {s s' : S} {x d : DI.D} {f : Str} {v u : V} (st : StOk w K m H s) (r : Rp w K m H x v) (hs : d.shr = true) (rd : Rp w K m H d u) (h : putFl q x f d s = some s') :
    ∃ a C dx vs, v = .ref a ∧ H a = some (.ins (He.ga K C) dx vs) ∧ q.cf C f = true ∧ vs.length < 1000 ∧ Ex m H m (upd H a (.ins (He.ga K C) dx (putF f u vs))) ∧ StOk w K m (upd H a (.ins (He.ga K C) dx (putF f u vs))) s' := by
  unfold putFl at h
  split at h
  · split at h
    · rename_i C fs e
      split at h
      · rename_i hc
        cases h
        cases r with
        | ref hm =>
        obtain ⟨b, e1, dx, vs, ha, rf⟩ := st.at_ _ _ e
        rw [hm] at e1; cases e1
        have hw : ∀ o, Ex m H m (upd H _ o) := fun o => Ex.write (List.mem_of_getElem? hm) (by rw [ha]; exact own_ins.2)
        exact ⟨_, C, dx, vs, rfl, ha, hc.1, by rw [rf.len]; exact hc.2, hw _, st.write hm ⟨dx, _, upd_same, (rf.put hs rd).mono (hw _)⟩⟩
      · cases h
    · cases h
  · cases h
theorem noSw {v o : Expr} {f : Str} {pos' : Pos} {l : Nat} : swapsWith v (some (.Attribute o f pos')) l X.env = pure false := by
  cases v <;> rfl
theorem fstS_ok {o e : IE} {f : Str} {ox v : Expr} {pos' pos : Pos} (x : XOk G q Z W pr X) (ho : PE X ox (tD X.w X.K W pr (runE q o))) (he : PE X v (tD X.w X.K W pr (runE q e))) : PS X (.Assign [.Attribute ox f pos'] v pos) (tS X.w X.K W pr (runS q (.fst o f e))) := by
  refine PS.imp (ps_fld ho he noSw) fun D σ H ⟨m, ρ, s, R, p⟩ => sES1 R p fun d s1 m1 v1 H1 p1 e1 R1 r1 hs1 => sE1 R1 p1 fun y s2 m2 v2 H2 p2 e2 R2 r2 f2 => ?_
  split at p2
  · rename_i s3 hp
    obtain ⟨a, C, dx, vs, rfl, ha, hc, hz, hw, st⟩ := putFl_h R2.st r2 hs1 (r1.mono e2) hp
    obtain ⟨c, na⟩ := x.cf C f hc
    exact ⟨a, _, dx, vs, rfl, ha, c, na, hz, p2 m2 σ _ hw (R2.mono hw st)⟩
  · exact p2.elim
theorem fauS_ok {o e : IE} {f : Str} {op : BOp} {ox v : Expr} {tpos pos : Pos} (x : XOk G q Z W pr X) (ho : PE X ox (tD X.w X.K W pr (runE q o))) (he : PE X v (tD X.w X.K W pr (runE q e))) : PS X (.AugAssign (.Attribute ox f tpos) (opOf op) v pos) (tS X.w X.K W pr (runS q (.fau o f op e))) := by
  have hin : InOp X (opOf op) (rAug op) := fun pins s σ H x y u v Q I rx ry h => op_aug op pins s σ H x y u v Q I rx ry h
  refine PS.imp (ps_fldaug ho he hin) fun D σ H ⟨m, ρ, s, R, p⟩ => sE1 R p fun y s1 m1 v1 H1 p1 e1 R1 r1 f1 => ?_
  split at p1
  · rename_i i
    split at p1
    · rename_i C fs e2
      split at p1
      · rename_i hc
        split at p1
        · rename_i d e3
          obtain ⟨a, rfl, hm⟩ : ∃ a, v1 = .ref a ∧ m1[i]? = some a := by cases r1 with | ref hm => exact ⟨_, rfl, hm⟩
          obtain ⟨a', e4, dx, vs, ha, rf⟩ := R1.st.at_ _ _ e2
          rw [hm] at e4; cases e4
          obtain ⟨c, na⟩ := x.cf C f hc
          have key : ∀ {fs : List (Str × DI.D)} {vs : List (Str × V)}, Fs X.w X.K m1 H1 fs vs → ∀ {d : DI.D}, fs.lookup f = some d → ∃ v, vs.lookup f = some v ∧ Rp X.w X.K m1 H1 d v ∧ d.shr = true := by
            intro fs vs h
            induction h with
            | nil => intro d e; cases e
            | @cons g d0 v0 fs vs hs hr _ ih =>
              intro d e
              rw [List.lookup_cons] at e ⊢
              split at e
              · cases e; exact ⟨v0, rfl, hr, hs⟩
              · exact ih e
          obtain ⟨u, ev, ru, hsu⟩ := key rf e3
          refine ⟨a, _, dx, vs, u, rfl, ha, c, na, ev, sE1 R1 p1 fun z s2 m2 v2 H2 p2 e5 R2 r2 f2 => ?_⟩
          have ru2 := ru.mono e5
          have fin : ∀ (zz : DI.D) (zv : V), zz.shr = true → Rp X.w X.K m2 H2 zz zv → PostS X.w X.K W pr m2 H2 D (if clsAt s2 i = some C then (match putFl q (.ref i) f zz s2 with
              | some s => .nx ρ s
              | none => .bad) else .bad) → ∃ dx' fs', H2 a = some (.ins (He.ga X.K C) dx' fs') ∧ fs'.length < 1000 ∧ D.nx σ (upd H2 a (.ins (He.ga X.K C) dx' (putF f zv fs'))) := by
            intro zz zv hz rz p3
            split at p3
            · rename_i hcl
              split at p3
              · rename_i s3 hp
                obtain ⟨a2, C', dx', vs', ea, ha', hc', hz', hw, st⟩ := putFl_h R2.st (r1.mono e5) hz rz hp
                cases ea
                -- the class is the same
                unfold clsAt at hcl
                split at hcl
                · rename_i C2 fs2 e6
                  cases hcl
                  obtain ⟨b, e7, dx2, vs2, ha2, _⟩ := R2.st.at_ _ _ e6
                  rw [get_pre e5.pre hm] at e7; cases e7
                  have hh := ha'
                  rw [ha2] at hh
                  have hC : He.ga X.K C' = He.ga X.K C := by injection hh with hh; injection hh with h1 h2 h3; exact h1.symm
                  rw [hC] at ha' hw st
                  exact ⟨dx', vs', ha', hz', p3 m2 σ _ hw (R2.mono hw st)⟩
                · cases hcl
              · exact p3.elim
            · exact p3.elim
          unfold augD at p2
          split at p2
          · cases ru2; cases r2
            split at p2
            · exact .inl ⟨_, _, rfl, rfl, fin _ _ rfl (.int _) p2⟩
            · exact ⟨_, _, rfl, rfl, fin _ _ rfl (.int _) p2⟩
            · split at p2
              · rename_i hz; exact ⟨_, _, rfl, rfl, hz, fin _ _ rfl (.int _) p2⟩
              · exact p2.elim
            · exact p2.elim
          · cases ru2; cases r2
            split at p2
            · split at p2
              · rename_i hz; exact .inr ⟨_, _, rfl, rfl, hz, fin _ _ rfl (.str _) p2⟩
              · exact p2.elim
            · exact p2.elim
          · exact p2.elim
        · exact p1.elim
      · exact p1.elim
    · exact p1.elim
  · exact p1.elim
/-! ### a statement while a dict is locked -/
theorem lokS_ok {p : IE} {st : IS} {x : Stmt} (hp : purB p = true) (hs : PS X x (tS X.w X.K W pr (runS q st))) : PS X x (tS X.w X.K W pr (runS q (.lok p st))) := by
  refine ⟨fun pins sh σ H D I ⟨m, ρ, s, R, h⟩ => ?_⟩
  unfold runS at h
  split at h
  · rename_i i s1 e1
    obtain ⟨rfl, v, rv⟩ := pur_val hp R e1
    split at h
    · rename_i ks xs e2
      cases rv with
      | @ref _ b hm =>
      obtain ⟨b', e3, vs, hd, hl, rs⟩ := R.st.at_ _ _ e2
      rw [hm] at e3; cases e3
      rw [if_neg (by decide)] at hd
      refine (ps_lock hs).run pins sh σ H D I ⟨_, _, hd, True.intro, fun od => ⟨m, ρ, _, lock_in R hm hd hl rs od, ?_⟩⟩
      have nxt : ∀ {s2 : S} {m' : List Addr} {σ' : L2.St} {H' : Hp} {ρ2 : En} {s3 : S}, Ex m (upd H b (.frz od (.dK (ks.zip vs)))) m' H' → Rst X.w X.K pr m' ρ2 s2 σ' H' → unlS i s2 = some s3 → H' b = some (.frz od (.dK (ks.zip vs))) ∧ Rst X.w X.K pr m' ρ2 s3 σ' (upd H' b (.dK (ks.zip vs))) ∧ Ex m H m' (upd H' b (.dK (ks.zip vs))) := by
        intro s2 m' σ' H' ρ2 s3 ex R2 hu
        have hf := ex.frz b od _ upd_same
        obtain ⟨st2, e0⟩ := lock_out R2.st (get_pre ex.pre hm) hf hu
        exact ⟨hf, R2.mono0 e0 st2, lock_ex2 (List.mem_of_getElem? hm) hd ex⟩
      cases er : runS q st ρ (List.set s1 i (.dic true ks xs)) with
      | nx ρ2 s2 =>
        rw [er] at h
        have h : PostS X.w X.K W pr m H D (match unlS i s2 with
          | some s => .nx ρ2 s
          | none => .bad) := h
        cases hu : unlS i s2 with
        | none => rw [hu] at h; exact h.elim
        | some s3 =>
          rw [hu] at h
          intro m' σ' H' ex R2
          obtain ⟨a1, a2, a3⟩ := nxt ex R2 hu
          exact ⟨a1, h m' σ' _ a3 a2⟩
      | bk ρ2 s2 =>
        rw [er] at h
        have h : PostS X.w X.K W pr m H D (match unlS i s2 with
          | some s => .bk ρ2 s
          | none => .bad) := h
        cases hu : unlS i s2 with
        | none => rw [hu] at h; exact h.elim
        | some s3 =>
          rw [hu] at h
          intro m' σ' H' ex R2
          obtain ⟨a1, a2, a3⟩ := nxt ex R2 hu
          exact ⟨a1, h m' σ' _ a3 a2⟩
      | ct ρ2 s2 =>
        rw [er] at h
        have h : PostS X.w X.K W pr m H D (match unlS i s2 with
          | some s => .ct ρ2 s
          | none => .bad) := h
        cases hu : unlS i s2 with
        | none => rw [hu] at h; exact h.elim
        | some s3 =>
          rw [hu] at h
          intro m' σ' H' ex R2
          obtain ⟨a1, a2, a3⟩ := nxt ex R2 hu
          exact ⟨a1, h m' σ' _ a3 a2⟩
      | rt d s2 =>
        rw [er] at h
        have h : PostS X.w X.K W pr m H D (match unlS i s2 with
          | some s => .rt d s
          | none => .bad) := h
        cases hu : unlS i s2 with
        | none => rw [hu] at h; exact h.elim
        | some s3 =>
          rw [hu] at h
          intro m' v' H' ex st2 rp fr
          have hf := ex.frz b od _ upd_same
          obtain ⟨st3, e0⟩ := lock_out st2 (get_pre ex.pre hm) hf hu
          refine ⟨hf, h m' v' _ (lock_ex2 (List.mem_of_getElem? hm) hd ex) st3 (rp.mono0 e0) fun z => ?_⟩
          obtain ⟨c, ec, hc⟩ := fr z
          refine ⟨c, ec, ?_⟩
          rw [upd_ne fun y => by rw [y, upd_same] at hc; cases hc] at hc
          exact hc
      | exc C fs ρ2 s2 =>
        rw [er] at h
        exact fun m' σ' H' dx ex R2 xa => h m' σ' H' dx (lock_ex (List.mem_of_getElem? hm) hd ex) R2 xa
      | bad => rw [er] at h; exact h.elim
    · exact hs.run pins sh σ H D I ⟨m, ρ, s1, R, h⟩
    · exact h.elim
  · exact h.elim
end
end DI

set_option Elab.async false
set_option linter.all false
set_option maxRecDepth 100000
set_option maxHeartbeats 4000000
/-! DI 15: raise, try. -/
namespace DI
open PySem PySem.Spec PyProof.Rows L2
/-! ### try, several clauses, each with a name or without -/
def Ends.un (D : Ends) : Option Nat → Ends
  | none => D
  | some i => { nx := fun σ' H' => D.nx (σ'.set i none) H', rt := D.rt, bk := fun σ' H' => D.bk (σ'.set i none) H', ct := fun σ' H' => D.ct (σ'.set i none) H' }
def held (a : Addr) (σ : L2.St) : Option Nat → L2.St
  | none => σ
  | some i => σ.set i (some (.ref a))
abbrev Cl := Value × Option Nat × (Addr → Value → Option Addr → TS)
def wAll (K : PySem.W.Frag) (Wout : WX) (D : Ends) : List Cl → WX
  | [] => Wout
  | (c, i, ts) :: r => fun cls d σ H => ∃ b, PySem.W.exmOne K cls c = some b ∧ (b = true → ∀ a, H a = none → ts a cls d (Ends.un D i) (held a σ i) H) ∧ (b = false → wAll K Wout D r cls d σ H)
inductive ClsOk (X : Cx) : List ExceptHandler → List Cl → Prop
  | nil : ClsOk X [] []
  | cons {x : Str} {c : Value} {ts : Addr → Value → Option Addr → TS} {b₀ : Stmt} {suite : List Stmt} {np pos' : Pos} {hds : List ExceptHandler} {l : List Cl} (hc : Names X x c)
      (hsu : ∀ (a : Addr) (oe : Obj) (cls : Value) (d : Option Addr) (pn : List (Addr × Obj)), Zc cls d oe → (∃ vs, oe.data = .fields vs) → PSs (X.suite a ((a, oe) :: pn)) (b₀ :: suite) (ts a cls d)) (r : ClsOk X hds l) :
      ClsOk X (.ExceptHandler (some (.Name x np)) none (b₀ :: suite) pos' :: hds) ((c, none, ts) :: l)
  | as {x n : Str} {c : Value} {i : Nat} {ts : Addr → Value → Option Addr → TS} {b₀ : Stmt} {suite : List Stmt} {np pos' : Pos} {hds : List ExceptHandler} {l : List Cl} (hi : X.N[i]? = some n) (hln : X.env.kindOf n = some .local) (hc : Names X x c)
      (hsu : ∀ (a : Addr) (oe : Obj) (cls : Value) (d : Option Addr) (pn : List (Addr × Obj)), Zc cls d oe → (∃ vs, oe.data = .fields vs) → PSs (X.suite a ((a, oe) :: pn)) (b₀ :: suite) (ts a cls d)) (r : ClsOk X hds l) :
      ClsOk X (.ExceptHandler (some (.Name x np)) (some n) (b₀ :: suite) pos' :: hds) ((c, some i, ts) :: l)
section
variable {X : Cx} {body : List Stmt} {h₀ : ExceptHandler} {hds : List ExceptHandler} {l : List Cl} {pos : Pos} {tb : WX → TS} {Wout : WX}
theorem ps_try_all (hs : X.stack = X.env :: X.outer) (hf : X.env.frame = some X.env.locals) (hN : X.N.Nodup) (tk : Takes X Wout)
    (hb : ∀ (W : WX) (pn : List (Addr × Obj)) (xe : Value → Shared → Prop), Takes (X.tr pn xe) W → PassesOwn (model X.prog X.w) X.A X.env xe → PSs (X.tr pn xe) body (tb W))
    (hh : ClsOk X (h₀ :: hds) l) : PS X (.Try body (h₀ :: hds) [] [] pos) (fun D σ H => tb (wAll X.K Wout D l) D σ H) := by
  refine ⟨fun pins s σ H D I h => ?_⟩
  have ok := I.ok
  have hfr : X.A.frames = some (X.env :: X.outer) := by rw [ok.frames, hs]
  refine wpAny_Try_except ?_
  refine wpAny_mono ((hb (wAll X.K Wout D l) (X.pn ++ pins) (fun e s₁ => wpAny (model X.prog X.w) X.A (noteFrame e X.env) (fun _ s₂ => wpAny (model X.prog X.w) X.A (setFlight e none) (fun _ s₃ =>
    wpAny (model X.prog X.w) X.A (handleBy e X.env (h₀ :: hds)) (SP X pins D) X.xe s₃) X.xe s₂) X.xe s₁) (fun u s' xx => ?_) PassesOwn.looking).run [] s σ H D (I.toTry _) h) (fun f s1 hsp => ?_) (fun e s1 he => he)
  · obtain ⟨a, B, sI, pins', σ', H', cls, d, rfl, J', nb, up, sky, na, os, ag, w⟩ := xx
    have J : Inv X pins σ' H' sI := J'.ofTry ok
    have sky' : Sky B (X.env :: X.outer) a (Zc cls d) X.env.locals s'.heap := by rw [← hs]; exact sky
    show wpAny (model X.prog X.w) X.A (noteFrame (.ref a) X.env) _ _ _
    refine Sky.land Zc.steady hfr hf sky' fun h3 fl3 up3 => ?_
    have J3 : Inv X pins σ' H' { s' with heap := h3 } := J.landed nb fl3.1 (up.trans up3) os ag
    obtain ⟨oe3, vs3, he3, hz3, hd3⟩ := fl3.there
    have notFr : ∀ {h : Heap} {o : Obj} {vs : Array Value}, h.FunFrames B (X.env :: X.outer) → h.get? a = some o → o.data = .fields vs → a ∉ frs (X.env :: X.outer) := fun {h o vs} ff e dd hm => by
      obtain ⟨_, o', e', hnf⟩ := ff.mem hm
      rw [e] at e'; cases e'
      exact hnf _ dd
    have nfr := notFr fl3.2.2.1 he3 hd3
    have nL : a ≠ X.env.locals := fun z => nfr (List.mem_filterMap.mpr ⟨X.env, List.mem_cons_self, by rw [hf, z]⟩)
    have nF : a ∉ X.fs := fun hm => by
      obtain ⟨e, he, q⟩ := List.mem_filterMap.mp hm
      exact nfr (List.mem_filterMap.mpr ⟨e, List.mem_cons_of_mem _ he, q⟩)
    have S3 := J3.suite he3 hd3 na nL nF
    have look : ∀ {x : Str} {c : Value} {np : Pos} {b : Bool} {Q : Bool → Shared → Prop} {E : Value → Shared → Prop}, Names X x c → PySem.W.exmOne X.K cls c = some b → Q b { s' with heap := h3 } →
        ∀ {Q : Value → Shared → Prop}, Q c { s' with heap := h3 } → wpAny (model X.prog X.w) (X.A.mark (some (.ref a))) (eval (.Name x np) X.env) Q E { s' with heap := h3 } := fun {x c np b Q E} hc _ _ {Q} q => by
      obtain ⟨hg, hdbg, hm | ⟨hm, hv, hnn⟩⟩ := hc
      · exact ld_glob (X := X.suite a ((a, oe3) :: (X.pn ++ pins))) S3 hg hm q hdbg
      · exact ld_blt (X := X.suite a ((a, oe3) :: (X.pn ++ pins))) S3 hg hm hv q hnn hdbg
    have test : ∀ {x : Str} {c : Value} {np : Pos} {Q : Value → Shared → Prop} {E : Value → Shared → Prop}, Names X x c → Q c { s' with heap := h3 } → wpAny (model X.prog X.w) (X.A.mark (some (.ref a))) (eval (.Name x np) X.env) Q E { s' with heap := h3 } := fun {x c np Q E} hc q => by
      obtain ⟨hg, hdbg, hm | ⟨hm, hv, hnn⟩⟩ := hc
      · exact ld_glob (X := X.suite a ((a, oe3) :: (X.pn ++ pins))) S3 hg hm q hdbg
      · exact ld_blt (X := X.suite a ((a, oe3) :: (X.pn ++ pins))) S3 hg hm hv q hnn hdbg
    have LT : PySem.W.Looks (model X.prog X.w) h3 (typeOf (.ref a)) cls := fun A Q E s k q => wpAny_typeOf_ref (k _ _ he3) (by rw [hz3.1]; exact q)
    have go : ∀ {hds' : List ExceptHandler} {l' : List Cl}, ClsOk X hds' l' → wAll X.K Wout D l' cls d σ' H' →
        wpAny (model X.prog X.w) X.A (handleBy (.ref a) X.env hds') (SP X pins D) X.xe { s' with heap := h3 } := by
      intro hds' l' hk
      induction hk with
      | nil =>
        intro w
        refine wpAny_handleBy_nil ?_
        obtain ⟨k1, k2, k3, oe, vs, T, oT, ts', he, hz, hd, h1, hr⟩ := id fl3
        unfold PySem.passOn
        refine wpAny_bind (wpAny_field he hd h1 ?_)
        rw [if_neg (show ¬ ((Value.ref T == Value.none) = true) from by simp)]
        have fin : wpAny (model X.prog X.w) X.A (setFlight (.ref a) X.env.frame) (fun _ s4 => wpAny (model X.prog X.w) X.A (throw (.ref a) : Sem Flow) (SP X pins D) X.xe s4) X.xe { s' with heap := h3 } := by
          rw [hf]
          refine HandSPX.setFlight_upZ fl3 fun h4 hh4 up4 => wpAny_throw (tk _ _ ?_)
          exact ⟨a, B, sI, pins, σ', H', cls, d, rfl, J, nb, (up.trans up3).trans up4, .inr (.inr (by rw [hs]; exact hh4)), na, os, ag, w⟩
        first
          | exact wpAny_bind (wpAny_pure (wpAny_bind fin))
          | exact wpAny_bind fin
      | @cons x c ts b₀ suite np pos' hds2 l2 hc hsu r ih =>
        intro w
        obtain ⟨b, hb1, hyes, hno⟩ := w
        refine wpAny_handleBy_cons (codeAny_handlers_test ?_) (by intro q; cases q)
        have LM := PySem.W.exm_one (M := model X.prog X.w) (J3.kIn) LT hb1
        refine test hc (LM.here ?_)
        cases b with
        | true =>
          refine codeAny_handlers_suite ?_
          refine HandSPX.lands_againZ fl3 fun h4 fl4 up4 => ?_
          have J4 : Inv X pins σ' H' { s' with heap := h4 } := J.landed nb fl4.1 ((up.trans up3).trans up4) os ag
          obtain ⟨oe4, vs4, he4, hz4, hd4⟩ := fl4.there
          have S4 := J4.suite he4 hd4 na nL nF
          refine wpAny_mono ((hsu a oe4 cls d (X.pn ++ pins) hz4 ⟨_, hd4⟩).run [] _ _ H' _ S4 (hyes rfl a na)) (fun f s6 hsp => ?_) (fun _ _ z => False.elim z)
          cases f with
          | next =>
            obtain ⟨σ6, H6, S6, q6⟩ := hsp
            exact ⟨_, _, S6.unsuite ok, q6⟩
          | brk =>
            obtain ⟨σ6, H6, S6, q6⟩ := hsp
            exact ⟨_, _, S6.unsuite ok, q6⟩
          | cont =>
            obtain ⟨σ6, H6, S6, q6⟩ := hsp
            exact ⟨_, _, S6.unsuite ok, q6⟩
          | ret u =>
            obtain ⟨v6, σ6, H6, S6, r6, q6⟩ := hsp
            exact ⟨_, _, _, S6.unsuite ok, r6, q6⟩
        | false =>
          show wpAny _ X.A (handleBy (.ref a) X.env hds2) _ _ _
          exact ih (hno rfl)
      | @as x n c i ts b₀ suite np pos' hds2 l2 hi hln hc hsu r ih =>
        intro w
        obtain ⟨b, hb1, hyes, hno⟩ := w
        refine wpAny_handleBy_cons (codeAny_handlers_test ?_) (by intro q; cases q)
        have LM := PySem.W.exm_one (M := model X.prog X.w) (J3.kIn) LT hb1
        refine test hc (LM.here ?_)
        cases b with
        | true =>
          refine codeAny_handlers_suite_as ?_
          refine HandSPX.lands_againZ fl3 fun h4 fl4 up4 => ?_
          have J4 : Inv X pins σ' H' { s' with heap := h4 } := J.landed nb fl4.1 ((up.trans up3).trans up4) os ag
          obtain ⟨oe4, vs4, he4, hz4, hd4⟩ := fl4.there
          have S4 := J4.suite he4 hd4 na nL nF
          refine store_ok (X := X.suite a ((a, oe4) :: (X.pn ++ pins))) (v := .ref a) S4 hN hi (.inl hln) rfl (fun s5 S5 => ?_) (.inr hln)
          refine wpAny_mono ((hsu a oe4 cls d (X.pn ++ pins) hz4 ⟨_, hd4⟩).run [] s5 _ H' _ S5 (hyes rfl a na)) (fun f s6 hsp => ?_) (fun _ _ z => False.elim z)
          have end_ : ∀ {σ6 : L2.St} {H6 : Hp} {Q : Shared → Prop}, Inv (X.suite a ((a, oe4) :: (X.pn ++ pins))) [] σ6 H6 s6 → (∀ s7, Inv X pins (σ6.set i none) H6 s7 → Q s7) →
              wpAny (model X.prog X.w) X.A (do bindName X.env n .none; unbindBehindTheSuite X.env n pos') (fun _ s7 => Q s7) X.xe s6 := fun {σ6 H6 Q} S6 hq => gone_ok (S6.unsuite ok) hN hi hln hq
          cases f with
          | next =>
            obtain ⟨σ6, H6, S6, q6⟩ := hsp
            exact end_ S6 fun s7 J7 => ⟨_, _, J7, q6⟩
          | brk =>
            obtain ⟨σ6, H6, S6, q6⟩ := hsp
            exact end_ S6 fun s7 J7 => ⟨_, _, J7, q6⟩
          | cont =>
            obtain ⟨σ6, H6, S6, q6⟩ := hsp
            exact end_ S6 fun s7 J7 => ⟨_, _, J7, q6⟩
          | ret u =>
            obtain ⟨v6, σ6, H6, S6, r6, q6⟩ := hsp
            exact end_ S6 fun s7 J7 => ⟨_, _, _, J7, r6, q6⟩
        | false =>
          show wpAny _ X.A (handleBy (.ref a) X.env hds2) _ _ _
          exact ih (hno rfl)
    exact go hh w
  · cases f with
    | next =>
      obtain ⟨σ', H', J', q⟩ := hsp
      exact wpAny_execs_nil ⟨σ', H', J'.ofTry ok, q⟩
    | brk =>
      obtain ⟨σ', H', J', q⟩ := hsp
      exact ⟨σ', H', J'.ofTry ok, q⟩
    | cont =>
      obtain ⟨σ', H', J', q⟩ := hsp
      exact ⟨σ', H', J'.ofTry ok, q⟩
    | ret u =>
      obtain ⟨v, σ', H', J', r, q⟩ := hsp
      exact ⟨v, σ', H', J'.ofTry ok, r, q⟩
end
/-! ### raise -/
section
variable {G : Gs} {q : Rq} {Z : Sc} {W : WX} {pr : Option Hdp} {X : Cx}
theorem fs_zip {w : World} {K : PySem.W.Frag} {m : List Addr} {H : Hp} : ∀ {fl : List Str} {ds : List D} {vs : List V}, Rps w K m H ds vs → Fs w K m H (fl.zip ds) (fl.zip vs)
  | [], _, _, _ => .nil
  | _ :: _, _, _, .nil => .nil
  | _ :: _, _, _, .cons hs r t => .cons hs r (fs_zip t)
theorem fs_app {w : World} {K : PySem.W.Frag} {m : List Addr} {H : Hp} {fs' : List (Str × D)} {vs' : List (Str × V)} (h' : Fs w K m H fs' vs') : ∀ {fs : List (Str × D)} {vs : List (Str × V)}, Fs w K m H fs vs → Fs w K m H (fs ++ fs') (vs ++ vs')
  | _, _, .nil => h'
  | _, _, .cons hs r t => .cons hs r (fs_app h' t)
theorem fs_rev {w : World} {K : PySem.W.Frag} {m : List Addr} {H : Hp} : ∀ {fs : List (Str × D)} {vs : List (Str × V)}, Fs w K m H fs vs → Fs w K m H fs.reverse vs.reverse
  | _, _, .nil => .nil
  | _, _, .cons hs r t => by
    rw [List.reverse_cons, List.reverse_cons]
    exact fs_app (.cons hs r .nil) (fs_rev t)
theorem raise_ok {C : Str} {es : List IE} {e : Expr} {xs : List Expr} {p pos pos' : Pos} (x : XOk G q Z W pr X) (hc : Z.calm = true) (hg : Gl X C) (hd : (C == ("__debug__" : Str)) = false) (hs : (e :: xs).all notStar = true) (hl : es.length ≤ 1000)
    (h : PA X (e :: xs) (tA X.w X.K W pr (runEs q es))) : PS X (.Raise (some (.Call (.Name C p) (e :: xs) [] pos)) none pos') (tS X.w X.K W pr (runS q (.raise C es))) := by
  cases he : q.ex C with
  | none =>
    refine ⟨fun pins s σ H D I h => ?_⟩
    obtain ⟨m, ρ, s, R, p⟩ := h
    unfold runS at p
    rw [he] at p
    exact p.elim
  | some fl =>
    obtain ⟨fI, fd, ps, k, iC, tI, F, hr, hb, hm⟩ := x.mkx hc _ _ he
    have T := x.xk _ _ he
    obtain ⟨bb, Tox⟩ := T.ox
    have hs2 := hs
    rw [List.all_cons, Bool.and_eq_true] at hs2
    refine PS.imp (ps_raise (x.cal hc).1 x.tk (pmk_oexA (dvs := []) Tox iC tI F hr hb .nil (passes_call (W := W) x.tk (fun _ _ _ _ z => z.elim)) hg hm h hd (star_cons hs2.1) (star_any hs2.2))) fun Dd σ H ⟨m, ρ, s, R, p⟩ => ?_
    unfold runS at p
    rw [he] at p
    dsimp only at p
    refine sA1 R p fun ds s1 m1 vs H1 e0 p1 e1 R1 r1 => ?_
    split at p1
    · rename_i hlen
      have hvl : vs.length = fl.length := by rw [r1.length]; exact hlen
      refine ⟨?_, fun a ha => ⟨a, vs, by rw [List.append_nil], hvl, upd_same, fun dx hx hne => ⟨rfl, dx, (fl.zip vs).reverse, upd_same, ?_, ?_, ?_⟩⟩⟩
      · rw [r1.length, runEs_len e0]; exact hl
      · rw [upd_ne hne, upd_same]
      · rw [upd_ne hne] at hx; exact hx
      · rw [upd_ne hne] at hx
        have eH : upd (del (upd (upd (upd H1 a (exo a (He.ga X.K C) none)) dx (exd dx (fl.zip vs).reverse)) a (exo a (He.ga X.K C) (some dx))) a) dx (.xd (fl.zip vs).reverse) = upd H1 dx (.xd (fl.zip vs).reverse) := by
          funext b
          by_cases hb : b = dx
          · rw [hb, upd_same, upd_same]
          · rw [upd_ne hb, upd_ne hb]
            by_cases hba : b = a
            · rw [hba, del_same, ha]
            · rw [del_ne hba, upd_ne hba, upd_ne hb, upd_ne hba]
        rw [eH]
        have st' := R1.st.new (o := .xd (fl.zip vs).reverse) hx
        have ex' := Ex.new R1.st (o := .xd (fl.zip vs).reverse) hx
        exact p1 m1 _ _ dx ex' (R1.mono ex' st') ⟨⟨_, upd_same, (fs_rev (fs_zip r1)).mono ex'⟩, R1.st.nin hx⟩
    · exact p1.elim
end
end DI
namespace DI
open PySem PySem.Spec PyProof.Rows L2
theorem PSs.ex {α : Type} {X : Cx} {ss : List Stmt} {t : α → TS} (h : ∀ z, PSs X ss (t z)) : PSs X ss (fun D σ H => ∃ z, t z D σ H) := ⟨fun pins s σ H D I ⟨z, q⟩ => (h z).run pins s σ H D I q⟩
theorem PSs.ands {P : Prop} {X : Cx} {ss : List Stmt} {t : TS} (h : P → PSs X ss t) : PSs X ss (fun D σ H => P ∧ t D σ H) := ⟨fun pins s σ H D I ⟨z, q⟩ => (h z).run pins s σ H D I q⟩
section
variable {w : World} {K : PySem.W.Frag} {W : WX} {m : List Addr} {H : Hp} {σ : L2.St} {s : S} {ρ : En}
theorem Rst.hold (R₀ : Rst w K none m ρ s σ H) {i : Nat} {a : Addr} {C : Str} {dx : Addr} {fs : List (Str × D)} (hi : i < ρ.length) (x : ExcAt w K m H dx fs) : Rst w K (some ⟨i, a, C, dx, fs⟩) m (ρ.set i none) s (σ.set i (some (.ref a))) H := by
  refine ⟨R₀.st, by simp [R₀.len], fun j d e => ?_, fun p e => ?_⟩
  · by_cases hj : i = j
    · subst hj
      rw [List.getElem?_set_self hi] at e; cases e
    · rw [List.getElem?_set_ne hj] at e
      rw [List.getElem?_set_ne hj]
      exact R₀.at_ j d e
  · cases e
    exact ⟨List.getElem?_set_self (by rw [← R₀.len]; exact hi), x⟩
theorem Rst.drop {p : Hdp} (R₀ : Rst w K (some p) m ρ s σ H) (i : Nat) : Rst w K none m (ρ.set i none) s (σ.set i none) H := by
  refine ⟨R₀.st, by simp [R₀.len], fun j d e => ?_, (fun p e => by cases e)⟩
  by_cases hj : i = j
  · subst hj
    by_cases hl : i < ρ.length
    · rw [List.getElem?_set_self hl] at e; cases e
    · rw [List.getElem?_eq_none (by simpa using hl)] at e; cases e
  · rw [List.getElem?_set_ne hj] at e
    rw [List.getElem?_set_ne hj]
    exact R₀.at_ j d e
theorem suite_end {p : Hdp} {D : Ends} {r : RS} {i : Nat} (h : PostS w K W none m H D (suiteEnd (some i) r)) : PostS w K (fun _ _ _ _ => False) (some p) m H (Ends.un D (some i)) r := by
  cases r with
  | nx ρ s => exact fun m' σ' H' e R' => h m' _ H' e (R'.drop i)
  | rt d s => exact h
  | bk ρ s => exact fun m' σ' H' e R' => h m' _ H' e (R'.drop i)
  | ct ρ s => exact fun m' σ' H' e R' => h m' _ H' e (R'.drop i)
  | exc C fs ρ s => exact h.elim
  | bad => exact h.elim
theorem suite_end0 {D : Ends} {r : RS} (h : PostS w K W none m H D (suiteEnd none r)) : PostS w K (fun _ _ _ _ => False) none m H (Ends.un D none) r := by
  cases r with
  | nx ρ s => exact h
  | rt d s => exact h
  | bk ρ s => exact h
  | ct ρ s => exact h
  | exc C fs ρ s => exact h.elim
  | bad => exact h.elim
/-- a clause's reading -/
def tSu (w : World) (K : PySem.W.Frag) (q : Rq) (i : Option Nat) (body : List IS) : Addr → Value → Option Addr → TS := fun a cls d D σ H =>
  ∃ (C : Str), cls = .ref (He.ga K C) ∧ (match i with
    | some i => ∃ dx, d = some dx ∧ ∃ fs, tS w K (fun _ _ _ _ => False) (some ⟨i, a, C, dx, fs⟩) (runSs { q with hd := some (i, C, fs) } body) D σ H
    | none => tS w K (fun _ _ _ _ => False) none (runSs { q with hd := none } body) D σ H)
/-- the clauses, one after the other -/
inductive ClsIs (w : World) (K : PySem.W.Frag) (q : Rq) (N : Nat → Prop) : List (Str × Option Nat × List IS) → List Cl → Prop
  | nil : ClsIs w K q N [] []
  | cons {k : Str} {i : Option Nat} {body : List IS} {hs : List (Str × Option Nat × List IS)} {c : Value} {l : List Cl} (hx : ∀ C b, q.isx C k = some b → PySem.W.exmOne K (.ref (He.ga K C)) c = some b) (r : ClsIs w K q N hs l) :
      ClsIs w K q N ((k, i, body) :: hs) ((c, i, tSu w K q i body) :: l)
theorem hs_ok {q : Rq} {N : Nat → Prop} {D : Ends} : ∀ {hs : List (Str × Option Nat × List IS)} {l : List Cl}, ClsIs w K q N hs l → ∀ {C : Str} {fs : List (Str × DI.D)} {ρ : En} {s : S} {m : List Addr} {H : Hp}, PostS w K W none m H D (runHs q C fs hs ρ s) →
    ∀ m' σ' H' dx, Ex m H m' H' → Rst w K none m' ρ s σ' H' → ExcAt w K m' H' dx fs → wAll K W D l (.ref (He.ga K C)) (some dx) σ' H'
  | _, _, .nil, C, fs, ρ, s, m, H, p => fun m' σ' H' dx e R' x => by
    unfold runHs at p
    exact p m' σ' H' dx e R' x
  | _, _, .cons (k := k) (i := i) (body := body) hx r, C, fs, ρ, s, m, H, p => fun m' σ' H' dx e R' x => by
    unfold runHs at p
    cases hi : q.isx C k with
    | none => rw [hi] at p; exact p.elim
    | some b =>
      rw [hi] at p
      refine ⟨b, hx _ _ hi, fun hb a ha => ?_, fun hb => ?_⟩
      · subst hb
        refine ⟨C, rfl, ?_⟩
        cases i with
        | none =>
          dsimp only at p ⊢
          exact ⟨m', ρ, s, R', suite_end0 (PostS.mono e R'.st p)⟩
        | some i =>
          dsimp only at p ⊢
          split at p
          · rename_i hl
            have R2 := R'.hold (a := a) (C := C) hl x
            exact ⟨dx, rfl, fs, m', _, s, R2, suite_end (PostS.mono e R'.st p)⟩
          · exact p.elim
      · subst hb
        exact hs_ok r p m' σ' H' dx e R' x
end
section
variable {G : Gs} {q : Rq} {Z : Sc} {W : WX} {pr : Option Hdp} {X : Cx}
theorem XOk.tr (x : XOk G q Z W none X) {W' : WX} {pn : List (Addr × Obj)} {xe : Value → Shared → Prop} (tk : Takes (X.tr pn xe) W') (po : PassesOwn (model X.prog X.w) X.A X.env xe) : XOk G q Z W' none (X.tr pn xe) :=
  ⟨x.N, x.nd, x.sc, x.fn, tk, x.hu, x.cal, x.free, x.cons, x.fns, x.fnv, x.isf, x.mt, x.cf, x.mki, po, x.hd, x.xk, x.cl, x.ix, x.mkx, (fun p e => by cases e)⟩
theorem XOk.su0 (x : XOk G q Z W none X) (a : Addr) (pn : List (Addr × Obj)) : XOk G { q with hd := none } { Z with calm := false } (fun _ _ _ _ => False) none (X.suite a pn) :=
  ⟨x.N, x.nd, x.sc, x.fn, takes_none5, x.hu, (fun e => by cases e), x.free, x.cons, (fun e => by cases e), x.fnv, (fun e => by cases e), (fun e => by cases e), x.cf, (fun e => by cases e), PassesOwn.never, rfl, x.xk, x.cl, x.ix, (fun e => by cases e), (fun p e => by cases e)⟩
theorem XOk.su1 (x : XOk G q Z W none X) {a : Addr} {oe : Obj} {pn : List (Addr × Obj)} {i : Nat} {C : Str} {dx : Addr} {fs : List (Str × D)} (hz : Zc (.ref (He.ga X.K C)) (some dx) oe) (hf : ∃ vs, oe.data = .fields vs) :
    XOk G { q with hd := some (i, C, fs) } { Z with calm := false } (fun _ _ _ _ => False) (some ⟨i, a, C, dx, fs⟩) (X.suite a ((a, oe) :: pn)) :=
  ⟨x.N, x.nd, x.sc, x.fn, takes_none5, x.hu, (fun e => by cases e), x.free, x.cons, (fun e => by cases e), x.fnv, (fun e => by cases e), (fun e => by cases e), x.cf, (fun e => by cases e), PassesOwn.never, rfl, x.xk, x.cl, x.ix, (fun e => by cases e), fun p e => by cases e; exact ⟨X, oe, pn, rfl, hz, hf⟩⟩
theorem ClsV.uni {mg : Str → Option Value} {k : Str} {c c' : Value} (h : ClsV mg k c) (h' : ClsV mg k c') : c = c' := by
  rcases h with ⟨h1, _⟩ | ⟨h1, h2, _⟩ <;> rcases h' with ⟨g1, _⟩ | ⟨g1, g2, _⟩
  · rw [h1] at g1; exact Option.some.inj g1
  · rw [h1] at g1; cases g1
  · rw [h1] at g1; cases g1
  · rw [h2] at g2; exact Option.some.inj g2
theorem clsNames {k : Str} {c : Value} (hg : Gl X k) (h : ClsV X.mg k c) (h3 : nmB k = true) : Names X k c := by
  obtain ⟨n1, n2, n3⟩ := nmB_ok h3
  refine ⟨hg, n1, ?_⟩
  rcases h with ⟨hm, a, rfl⟩ | ⟨hm, hb, T, rfl⟩
  · exact .inl hm
  · exact .inr ⟨hm, hb, n3⟩
theorem try_ok {body : List IS} {hs : List (Str × Option Nat × List IS)} {bs : List Stmt} {h₀ : ExceptHandler} {hds : List ExceptHandler} {l : List Cl} {pos : Pos} (x : XOk G q Z W none X) (hs1 : X.stack = X.env :: X.outer) (hf : X.env.frame = some X.env.locals)
    (hb : ∀ (W : WX) (pn : List (Addr × Obj)) (xe : Value → Shared → Prop), Takes (X.tr pn xe) W → PassesOwn (model X.prog X.w) X.A X.env xe → PSs (X.tr pn xe) bs (tS X.w X.K W none (runSs q body)))
    (hh : ClsOk X (h₀ :: hds) l) (hi : ClsIs X.w X.K q (fun _ => True) hs l) : PS X (.Try bs (h₀ :: hds) [] [] pos) (tS X.w X.K W none (runS q (.tr body hs))) := by
  refine PS.imp (ps_try_all hs1 hf (by rw [x.N]; exact x.nd) x.tk hb hh) fun D σ H ⟨m, ρ, s, R, p⟩ => ⟨m, ρ, s, R, ?_⟩
  unfold runS at p
  cases e : runSs q body ρ s with
  | nx ρ' s' => rw [e] at p; exact p
  | rt d s' => rw [e] at p; exact p
  | bk ρ' s' => rw [e] at p; exact p
  | ct ρ' s' => rw [e] at p; exact p
  | exc C fs ρ' s' =>
    rw [e] at p
    exact hs_ok hi p
  | bad => rw [e] at p; exact p
end
end DI

set_option Elab.async false
set_option linter.all false
set_option maxRecDepth 100000
set_option maxHeartbeats 4000000
/-! DI 16: all statements. -/
namespace DI
open PySem PySem.Spec PyProof.Rows L2
/-- a, b = x, y : in which order the names are stored -/
def sw1 (sc : Scope) (ts vs : List Expr) : Bool := !(ts.length == 2 || ts.length == 3) || vs.length != ts.length || sc.kind != .function
def sw2 (vs : List Expr) : Bool := vs.any fun | .Starred .. => true | _ => false
def swNs (sc : Scope) (ts : List Expr) : List Str := ts.filterMap fun
    | .Name id pos => if sc.names.lookup id == some .local && pos.line == (ts.head?.map (·.pos.line)).getD 0 then some id else none
    | _ => none
def sw3 (sc : Scope) (ts : List Expr) : Bool := (swNs sc ts).length != ts.length || (swNs sc ts).eraseDups.length != (swNs sc ts).length
def swC (sc : Scope) (ts vs : List Expr) : Option (Option (List Str)) :=
  if sc.kind.isAnnotationScope = true then none else
  if sw1 sc ts vs = true then some none else
  if sw2 vs = true then some none else
  if sw3 sc ts = true then some none else
  if vs.all (foldedForSure 8) = true then some none else
  if vs.all (constantsAlone 8) = true then none else some (some (swNs sc ts))
theorem swC_ok {sc : Scope} {env : Env} {ts vs : List Expr} {p p' : Pos} {r : Option (List Str)} {kt k2} (he : env.scope = sc) (h : swC sc ts vs = some r) : swappedStores [.Tuple ts kt p] (.Tuple vs k2 p') env = pure r := by
  have e0 : swappedStores [.Tuple ts kt p] (.Tuple vs k2 p') env = (if (!(ts.length == 2 || ts.length == 3) || vs.length != ts.length || (if sc.kind.isAnnotationScope = true then ScopeKind.function else sc.kind) != .function) = true then pure none else
      if sw2 vs = true then pure none else if sw3 sc ts = true then pure none else if vs.all (foldedForSure 8) = true then pure none else
      if vs.all (constantsAlone 8) = true then (do unsupported "assign.tuple-of-constant-expressions:order-of-the-stores"; pure (some (swNs sc ts))) else pure (some (swNs sc ts))) := by
    subst he
    rfl
  rw [e0]
  unfold swC at h
  by_cases h0 : sc.kind.isAnnotationScope = true
  · rw [if_pos h0] at h; cases h
  rw [if_neg h0] at h
  have e1 : (!(ts.length == 2 || ts.length == 3) || vs.length != ts.length || (if sc.kind.isAnnotationScope = true then ScopeKind.function else sc.kind) != .function) = sw1 sc ts vs := by rw [if_neg h0]; rfl
  rw [e1]
  by_cases h1 : sw1 sc ts vs = true
  · rw [if_pos h1] at h ⊢; cases h; rfl
  rw [if_neg h1] at h ⊢
  by_cases h2 : sw2 vs = true
  · rw [if_pos h2] at h ⊢; cases h; rfl
  rw [if_neg h2] at h ⊢
  by_cases h3 : sw3 sc ts = true
  · rw [if_pos h3] at h ⊢; cases h; rfl
  rw [if_neg h3] at h ⊢
  by_cases h4 : vs.all (foldedForSure 8) = true
  · rw [if_pos h4] at h ⊢; cases h; rfl
  rw [if_neg h4] at h ⊢
  by_cases h5 : vs.all (constantsAlone 8) = true
  · rw [if_pos h5] at h; cases h
  rw [if_neg h5] at h ⊢
  cases h; rfl
theorem swC_len {sc : Scope} {ts vs : List Expr} {l : List Str} (h : swC sc ts vs = some (some l)) : (ts.length = 2 ∨ ts.length = 3) ∧ vs.length = ts.length := by
  unfold swC at h
  by_cases h0 : sc.kind.isAnnotationScope = true
  · rw [if_pos h0] at h; cases h
  rw [if_neg h0] at h
  by_cases h1 : sw1 sc ts vs = true
  · rw [if_pos h1] at h; cases h
  unfold sw1 at h1
  simp only [Bool.or_eq_true, not_or, Bool.not_eq_true', bne_iff_ne, beq_iff_eq, Bool.not_eq_false, Decidable.not_not] at h1
  refine ⟨?_, h1.1.2⟩
  have := h1.1.1
  simpa using this
def swN (sc : Scope) (tg v : Expr) : Bool := match tg, v with
  | .Tuple ts _ _, .Tuple vs _ _ => (match swC sc ts vs with
    | some none => true
    | _ => false)
  | .List _ _, _ => false
  | _, _ => true
theorem swN_ok {env : Env} {tg v : Expr} (h : swN env.scope tg v = true) : swappedStores [tg] v env = pure none := by
  cases tg with
  | Tuple a b c =>
    cases v with
    | Tuple a' b' c' =>
      unfold swN at h
      dsimp only at h
      split at h
      · rename_i e; exact swC_ok rfl e
      · cases h
    | _ => rfl
  | List a b => cases h
  | _ => rfl
def noComp : Expr → Bool
  | .ListComp _ _ _ _ => false
  | .SetComp _ _ _ _ => false
  | .DictComp _ _ _ _ _ => false
  | _ => true
theorem noComp_ok {v : Expr} {t : Option Expr} {l : Nat} {env : Env} (h : noComp v = true) : swapsWith v t l env = pure false := by
  cases v <;> first | rfl | cases h
def isLc : Expr → Bool
  | .ListComp _ _ _ _ => true
  | .DictComp _ _ _ _ _ => true
  | _ => false
def namesB (S : Sc) : List Nat → List Expr → Bool
  | [], [] => true
  | i :: is, .Name x _ :: xs => (match S.N[i]? with
    | some y => y == x
    | none => false) && ((S.sc.names.lookup x == some .local) && (!is.contains i && namesB S is xs))
  | _, _ => false
def namesOf : List Expr → List Str
  | .Name x _ :: r => x :: namesOf r
  | _ => []
/-- a lock stands around the statement, not within -/
def notLok : IE → Bool
  | .lok _ _ => false
  | _ => true
mutual
def chkS (G : Gs) (S : Sc) : IS → Stmt → Bool
  | .asg g e, st => (match st with
    | .Assign [tg] v _ => notStar tg && ((noComp v || (isLc v && notLok e)) && (swN S.sc tg v && (chkE G S e v && chkG G S g tg)))
    | _ => false)
  | .par is es, st => (match st with
    | .Assign [.Tuple ts _ _] (.Tuple vs _ _) _ => S.calm && (namesB S is ts && ((match swC S.sc ts vs with
      | some (some l) => l == namesOf ts
      | _ => false) && chkEs G S es vs))
    | _ => false)
  | .aug i o e, st => (match st with
    | .AugAssign (.Name n _) op v _ => opB o op && ((match S.N[i]? with
      | some y => y == n
      | none => false) && (locB S n && chkE G S e v))
    | _ => false)
  | .expr e, st => (match st with
    | .Expr v _ => noComp v && chkE G S e v
    | _ => false)
  | .ret none, st => (match st with
    | .Return none _ => true
    | _ => false)
  | .ret (some e), st => (match st with
    | .Return (some v) _ => chkE G S e v
    | _ => false)
  | .ife t a b, st => (match st with
    | .If c x y _ => chkT G S t c && (chkSs G S a x && chkSs G S b y)
    | _ => false)
  | .fo g it body, st => (match st with
    | .For tg iter bs [] _ => S.calm && (notSet iter && (chkI G S it tg iter && (chkG G S g tg && chkSs G S body bs)))
    | _ => false)
  | .whl t body, st => (match st with
    | .While c bs [] _ => chkT G S t c && chkSs G S body bs
    | _ => false)
  | .brk, st => (match st with
    | .Break _ => true
    | _ => false)
  | .cnt, st => (match st with
    | .Continue _ => true
    | _ => false)
  | .pass, st => (match st with
    | .Pass _ => true
    | _ => false)
  | .raise C es, st => (match st with
    | .Raise (some (.Call (.Name y _) (x :: xs) [] _)) none _ => (C == y) && (gloB S.sc y && (nmB y && (S.calm && (decide (es.length ≤ 1000) && chkEs G S es (x :: xs)))))
    | _ => false)
  | .any, _ => true
  | .fst o f e, st => (match st with
    | .Assign [.Attribute x y _] v _ => (f == y) && (chkE G S o x && chkE G S e v)
    | _ => false)
  | .fau o f op e, st => (match st with
    | .AugAssign (.Attribute x y _) op' v _ => (f == y) && (opB op op' && (chkE G S o x && chkE G S e v))
    | _ => false)
  | .lok p a, st => purB p && chkS G S a st
  | .tr body hs, st => (match st with
    | .Try bs (h :: hds) [] [] _ => S.calm && (chkSs G S body bs && chkHs G S hs (h :: hds))
    | _ => false)
def chkSs (G : Gs) (S : Sc) : List IS → List Stmt → Bool
  | [], [] => true
  | a :: r, x :: xs => chkS G S a x && chkSs G S r xs
  | _, _ => false
def chkHs (G : Gs) (S : Sc) : List (Str × Option Nat × List IS) → List ExceptHandler → Bool
  | [], [] => true
  | (k, i, body) :: hs, h :: hds => (match h with
    | .ExceptHandler (some (.Name x _)) nm (b₀ :: suite) _ => (k == x) && (gloB S.sc x && (nmB x && (G.cls.contains x && ((match i, nm with
      | none, none => true
      | some i, some n => (match S.N[i]? with
        | some y => y == n
        | none => false) && (S.sc.names.lookup n == some .local)
      | _, _ => false) && chkSs G { S with calm := false } body (b₀ :: suite)))))
    | _ => false) && chkHs G S hs hds
  | _, _ => false
end
section
variable {G : Gs} {q : Rq} {Z : Sc} {W : WX} {pr : Option Hdp} {X : Cx}
theorem slot_is {N : List Str} {i : Nat} {n : Str} (h : (match N[i]? with
      | some y => y == n
      | none => false) = true) : N[i]? = some n := by
  split at h
  · rename_i y e; rw [e, eq_of_beq h]
  · cases h
theorem par_ok {is : List Nat} {es : List IE} {ts vs : List Expr} {kt k2 p p' pos} (x : XOk G q Z W pr X) (hc : Z.calm = true) (hn : namesB Z is ts = true) (hw : (match swC Z.sc ts vs with
      | some (some l) => l == namesOf ts
      | _ => false) = true) (hs : vs.length = es.length) (h : PA X vs (tA X.w X.K W pr (runEs q es))) : PS X (.Assign [.Tuple ts kt p] (.Tuple vs k2 p') pos) (tS X.w X.K W pr (runS q (.par is es))) := by
  split at hw
  rotate_left
  · cases hw
  rename_i l el
  have hl := eq_of_beq hw
  subst hl
  have hw2 := swC_ok (env := X.env) (p := p) (p' := p') (kt := kt) (k2 := k2) x.sc el
  obtain ⟨hlen, hvl⟩ := swC_len el
  obtain ⟨hcx, rfl⟩ := x.cal hc
  have one : ∀ {i : Nat} {is : List Nat} {ts : List Expr}, namesB Z (i :: is) ts = true → ∃ n pn r, ts = .Name n pn :: r ∧ X.N[i]? = some n ∧ X.env.scope.names.lookup n = some .local ∧ i ∉ is ∧ namesB Z is r = true := by
    intro i is ts h
    unfold namesB at h
    split at h
    · cases ‹_ :: _ = []›
    · rename_i i' is' n pn r e1
      cases e1
      obtain ⟨h1, h2⟩ := ba h
      obtain ⟨h2, h3⟩ := ba h2
      obtain ⟨h3, h4⟩ := ba h3
      refine ⟨n, pn, r, rfl, ?_, ?_, ?_, h4⟩
      · rw [x.N]; exact slot_is h1
      · rw [x.sc]; exact eq_of_beq h2
      · intro hm
        rw [List.contains_iff_mem.mpr hm] at h3; cases h3
    · cases h
  have nil : ∀ {is : List Nat} {ts : List Expr}, namesB Z is ts = true → is.length = ts.length := by
    intro is
    induction is with
    | nil => intro ts h; cases ts with
      | nil => rfl
      | cons _ _ => unfold namesB at h; cases h
    | cons i is ih => intro ts h; obtain ⟨n, pn, r, rfl, _, _, _, h'⟩ := one h; simp [ih h']
  have hil := nil hn
  have set1 : ∀ {m : List Addr} {H : Hp} {s : S} {ρ : En} {σ : L2.St} {i : Nat} {d : D} {v : V}, Rst X.w X.K none m ρ s σ H → d.shr = true → Rp X.w X.K m H d v → i < ρ.length → Rst X.w X.K none m (ρ.set i (some d)) s (σ.set i (some v)) H := fun R a b c => R.set a b c (fun p e => by cases e)
  rcases hlen with h2 | h3
  · obtain ⟨i, j, rfl⟩ : ∃ i j, is = [i, j] := by
      match is, hil.trans h2 with
      | [i, j], _ => exact ⟨i, j, rfl⟩
    obtain ⟨n1, p1, r1, rfl, a1, b1, c1, d1⟩ := one hn
    obtain ⟨n2, p2, r2, rfl, a2, b2, c2, d2⟩ := one d1
    cases r2 with
    | cons _ _ => unfold namesB at d2; cases d2
    | nil =>
    obtain ⟨e1, e2, rfl⟩ : ∃ e1 e2, vs = [e1, e2] := by
      match vs, hvl.trans h2 with
      | [i, j], _ => exact ⟨i, j, rfl⟩
    refine PS.imp (ps_par hcx (by rw [x.N]; exact x.nd) a1 a2 (fun z => c1 (by rw [z]; exact List.mem_cons_self)) b1 b2 h hw2) fun D σ H ⟨m, ρ, s, R, p⟩ => sA1 R p fun ds s1 m1 us H1 e0 p1 ex R1 r => ?_
    have dl := (runEs_len e0).trans hs.symm
    match ds, dl with
    | [d1, d2], _ =>
    cases r with
    | cons s1' q1 t1 =>
    cases t1 with
    | cons s2' q2 t2 =>
    cases t2
    refine ⟨_, _, rfl, ?_⟩
    split at p1
    · rename_i hh
      have hb := hh.2
      simp only [List.all_cons, List.all_nil, Bool.and_true, Bool.and_eq_true, decide_eq_true_eq] at hb
      exact p1 m1 _ H1 .refl (set1 (set1 R1 s1' q1 hb.1.2) s2' q2 (by simpa using hb.2.2))
    · exact p1.elim
  · obtain ⟨i, j, k, rfl⟩ : ∃ i j k, is = [i, j, k] := by
      match is, hil.trans h3 with
      | [i, j, k], _ => exact ⟨i, j, k, rfl⟩
    obtain ⟨n1, p1, r1, rfl, a1, b1, c1, d1⟩ := one hn
    obtain ⟨n2, p2, r2, rfl, a2, b2, c2, d2⟩ := one d1
    obtain ⟨n3, p3, r3, rfl, a3, b3, c3, d3⟩ := one d2
    cases r3 with
    | cons _ _ => unfold namesB at d3; cases d3
    | nil =>
    obtain ⟨e1, e2, e3, rfl⟩ : ∃ e1 e2 e3, vs = [e1, e2, e3] := by
      match vs, hvl.trans h3 with
      | [i, j, k], _ => exact ⟨i, j, k, rfl⟩
    refine PS.imp (ps_par3 hcx (by rw [x.N]; exact x.nd) a1 a2 a3 (fun z => c1 (by rw [z]; exact List.mem_cons_self)) (fun z => c1 (by rw [z]; simp)) (fun z => c2 (by rw [z]; exact List.mem_cons_self)) b1 b2 b3 h hw2) fun D σ H ⟨m, ρ, s, R, p⟩ => sA1 R p fun ds s1 m1 us H1 e0 p1 ex R1 r => ?_
    have dl := (runEs_len e0).trans hs.symm
    match ds, dl with
    | [d1, d2, d3], _ =>
    cases r with
    | cons s1' q1 t1 =>
    cases t1 with
    | cons s2' q2 t2 =>
    cases t2 with
    | cons s3' q3 t3 =>
    cases t3
    refine ⟨_, _, _, rfl, ?_⟩
    split at p1
    · rename_i hh
      have hb := hh.2
      simp only [List.all_cons, List.all_nil, Bool.and_true, Bool.and_eq_true, decide_eq_true_eq] at hb
      exact p1 m1 _ H1 .refl (set1 (set1 (set1 R1 s1' q1 hb.1.2) s2' q2 (by simpa using hb.2.1.2)) s3' q3 (by simpa using hb.2.2.2))
    · exact p1.elim
/-- a comprehension to a name, on one line or not -/
theorem lcS_ok {i : Nat} {own : List (Str × Nat)} {elt : IE} {g : IG} {it : II} {t : Option IT} {n : Str} {py pos spos : Pos} {e tg iter : Expr} {ifs : List Expr} {k : Int} {scope : Scope} (x : XOk G q Z W pr X) (hN : Z.N[i]? = some n) (hl : locB Z n = true)
    (h : chkE G Z (.lc own elt g it t) (.ListComp e [⟨tg, iter, ifs, k⟩] scope pos) = true) : PS X (.Assign [.Name n py] (.ListComp e [⟨tg, iter, ifs, k⟩] scope pos) spos) (tS X.w X.K W pr (runS q (.asg (.nm i) (.lc own elt g it t)))) := by
  have h0 := h
  unfold chkE at h
  obtain ⟨h1, k2⟩ := ba h
  obtain ⟨h2, k3⟩ := ba k2
  obtain ⟨h3, k4⟩ := ba k3
  obtain ⟨h4, k5⟩ := ba k4
  obtain ⟨h5, k6⟩ := ba k5
  obtain ⟨h6, k7⟩ := ba k6
  obtain ⟨h7, k8⟩ := ba k7
  obtain ⟨h8, k9⟩ := ba k8
  have h1 := of_decide_eq_true h1
  subst h1
  have key : ∀ b : Bool, swapsWith (.ListComp e [⟨tg, iter, ifs, 0⟩] scope pos) (some (.Name n py)) spos.line X.env = pure b → (b = true → X.env.scope.names.lookup n = some .local) → PS X (.Assign [.Name n py] (.ListComp e [⟨tg, iter, ifs, 0⟩] scope pos) spos) (tS X.w X.K W pr (runS q (.asg (.nm i) (.lc own elt g it t)))) := by
    intro b hb hloc
    cases b with
    | false => exact asgS_ok rfl hb rfl (sE (.lc own elt g it t) x h0) (nmG_ok x hN hl)
    | true => exact asgLc_ok x hN (hloc rfl) hb h2 h3 (of_decide_eq_true h4) h5 (sI it x h6) (fun s H C cl fp => sG g (x.blk _ s H C cl fp h2) h7) (sTo t (x := x) h2 h8) (fun s H C cl fp => sE elt (x.blk _ s H C cl fp h2) k9)
  refine key (X.env.blockKind == .function && X.env.kindOf n == some .local && py.line == pos.line
      && !(scope.names.any fun (n', k) => n' == n && (k == .local || k == .cell))) rfl fun hb => ?_
  exact eq_of_beq (ba (ba (ba hb).1).1).2
theorem dcS_ok {i : Nat} {own : List (Str × Nat)} {kt elt : IE} {g : IG} {it : II} {t : Option IT} {n : Str} {py pos spos : Pos} {kx e tg iter : Expr} {ifs : List Expr} {k : Int} {scope : Scope} (x : XOk G q Z W pr X) (hN : Z.N[i]? = some n) (hl : locB Z n = true)
    (h : chkE G Z (.dc own kt elt g it t) (.DictComp kx e [⟨tg, iter, ifs, k⟩] scope pos) = true) : PS X (.Assign [.Name n py] (.DictComp kx e [⟨tg, iter, ifs, k⟩] scope pos) spos) (tS X.w X.K W pr (runS q (.asg (.nm i) (.dc own kt elt g it t)))) := by
  have h0 := h
  unfold chkE at h
  obtain ⟨h1, k2⟩ := ba h
  obtain ⟨h2, k3⟩ := ba k2
  obtain ⟨h3, k4⟩ := ba k3
  obtain ⟨h4, k5⟩ := ba k4
  obtain ⟨h5, k6⟩ := ba k5
  obtain ⟨h6, k7⟩ := ba k6
  obtain ⟨h7, k8⟩ := ba k7
  obtain ⟨h8, k9⟩ := ba k8
  obtain ⟨h9, k10⟩ := ba k9
  have h1 := of_decide_eq_true h1
  subst h1
  have key : ∀ b : Bool, swapsWith (.DictComp kx e [⟨tg, iter, ifs, 0⟩] scope pos) (some (.Name n py)) spos.line X.env = pure b → (b = true → X.env.scope.names.lookup n = some .local) → PS X (.Assign [.Name n py] (.DictComp kx e [⟨tg, iter, ifs, 0⟩] scope pos) spos) (tS X.w X.K W pr (runS q (.asg (.nm i) (.dc own kt elt g it t)))) := by
    intro b hb hloc
    cases b with
    | false => exact asgS_ok rfl hb rfl (sE (.dc own kt elt g it t) x h0) (nmG_ok x hN hl)
    | true => exact asgDc_ok x hN (hloc rfl) hb h2 h3 (of_decide_eq_true h4) h5 (sI it x h6) (fun s H C cl fp => sG g (x.blk _ s H C cl fp h2) h7) (sTo t (x := x) h2 h8) (fun s H C cl fp => sE kt (x.blk _ s H C cl fp h2) h9) (fun s H C cl fp => sE elt (x.blk _ s H C cl fp h2) k10)
  refine key (X.env.blockKind == .function && X.env.kindOf n == some .local && py.line == pos.line
      && !(scope.names.any fun (n', k) => n' == n && (k == .local || k == .cell))) rfl fun hb => ?_
  exact eq_of_beq (ba (ba (ba hb).1).1).2
theorem asg_ok {g : IG} {e : IE} {tg v : Expr} {pos : Pos} (x : XOk G q Z W pr X) (h1 : notStar tg = true) (h2 : (noComp v || (isLc v && notLok e)) = true) (h3 : swN Z.sc tg v = true) (h4 : chkE G Z e v = true) (h5 : chkG G Z g tg = true) : PS X (.Assign [tg] v pos) (tS X.w X.K W pr (runS q (.asg g e))) := by
  have hsw : swappedStores [tg] v X.env = pure none := swN_ok (by rw [x.sc]; exact h3)
  by_cases hv : noComp v = true
  · exact asgS_ok h1 (noComp_ok hv) hsw (sE e x h4) (sG g x h5)
  · obtain ⟨hv2, hv3⟩ : isLc v = true ∧ notLok e = true := by
      rcases Bool.or_eq_true_iff.mp h2 with h | h
      · exact absurd h hv
      · exact ba h
    cases v with
    | ListComp e' gens scope pos' =>
      by_cases hn : ∃ n py, tg = .Name n py
      · obtain ⟨n, py, rfl⟩ := hn
        cases g with
        | nm i =>
          cases e with
          | lc own elt g it t =>
            have h4' := h4
            unfold chkE at h4'
            split at h4'
            · rename_i e1 tg1 iter1 ifs1 k1 sc1 pos1 ee
              cases ee
              exact lcS_ok x (of_decide_eq_true (ba h5).1) (ba h5).2 h4
            · cases h4'
          | con d => unfold chkE chkC at h4; cases d <;> cases h4
          | any => exact ⟨fun _ _ _ _ _ _ ⟨_, _, _, _, p⟩ => (show False from p).elim⟩
          | lok p a => cases hv3
          | _ => cases h4
        | _ => cases h5
      · refine asgS_ok h1 ?_ hsw (sE e x h4) (sG g x h5)
        cases tg <;> first | rfl | exact absurd ⟨_, _, rfl⟩ hn
    | DictComp kx' e' gens scope pos' =>
      by_cases hn : ∃ n py, tg = .Name n py
      · obtain ⟨n, py, rfl⟩ := hn
        cases g with
        | nm i =>
          cases e with
          | dc own kt elt g it t =>
            have h4' := h4
            unfold chkE at h4'
            split at h4'
            · rename_i e1 tg1 iter1 ifs1 k1 sc1 pos1 ee
              cases ee
              exact dcS_ok x (of_decide_eq_true (ba h5).1) (ba h5).2 h4
            · cases h4'
          | con d => unfold chkE chkC at h4; cases d <;> cases h4
          | any => exact ⟨fun _ _ _ _ _ _ ⟨_, _, _, _, p⟩ => (show False from p).elim⟩
          | lok p a => cases hv3
          | _ => cases h4
        | _ => cases h5
      · refine asgS_ok h1 ?_ hsw (sE e x h4) (sG g x h5)
        cases tg <;> first | rfl | exact absurd ⟨_, _, rfl⟩ hn
    | _ => cases hv2
end
mutual
theorem sS {G : Gs} : ∀ (ir : IS) {q : Rq} {Z : Sc} {W : WX} {pr : Option Hdp} {X : Cx}, XOk G q Z W pr X → X.stack = X.env :: X.outer → X.env.frame = some X.env.locals → ∀ {st : Stmt}, chkS G Z ir st = true → PS X st (tS X.w X.K W pr (runS q ir))
  | .asg g e, q, Z, W, pr, X, x, hk, hf, st, h => by
    unfold chkS at h
    split at h
    · obtain ⟨h1, k2⟩ := ba h
      obtain ⟨h2, k3⟩ := ba k2
      obtain ⟨h3, k4⟩ := ba k3
      obtain ⟨h4, h5⟩ := ba k4
      exact asg_ok x h1 h2 h3 h4 h5
    · cases h
  | .par is es, q, Z, W, pr, X, x, hk, hf, st, h => by
    unfold chkS at h
    split at h
    · obtain ⟨h1, k2⟩ := ba h
      obtain ⟨h2, k3⟩ := ba k2
      obtain ⟨h3, h4⟩ := ba k3
      exact par_ok x h1 h2 h3 (chkEs_star h4).2 (sEs es x h4)
    · cases h
  | .aug i o e, q, Z, W, pr, X, x, hk, hf, st, h => by
    unfold chkS at h
    split at h
    · obtain ⟨h1, k2⟩ := ba h
      obtain ⟨h2, k3⟩ := ba k2
      obtain ⟨h3, h4⟩ := ba k3
      have h1 := opB_eq h1
      subst h1
      exact augS_ok x (slot_is h2) h3 (sE e x h4)
    · cases h
  | .expr e, q, Z, W, pr, X, x, hk, hf, st, h => by
    unfold chkS at h
    split at h
    · obtain ⟨h1, h2⟩ := ba h
      exact exprS_ok (noComp_ok h1) (sE e x h2)
    · cases h
  | .ret none, q, Z, W, pr, X, x, hk, hf, st, h => by
    unfold chkS at h
    split at h
    · exact retN_ok
    · cases h
  | .ret (some e), q, Z, W, pr, X, x, hk, hf, st, h => by
    unfold chkS at h
    split at h
    · exact ret_ok (sE e x h)
    · cases h
  | .ife t a b, q, Z, W, pr, X, x, hk, hf, st, h => by
    unfold chkS at h
    split at h
    · obtain ⟨h1, k2⟩ := ba h
      obtain ⟨h2, h3⟩ := ba k2
      exact ifS_ok (sT t x h1).1 (sSs a x hk hf h2) (sSs b x hk hf h3)
    · cases h
  | .fo g it body, q, Z, W, pr, X, x, hk, hf, st, h => by
    unfold chkS at h
    split at h
    · obtain ⟨h1, k2⟩ := ba h
      obtain ⟨h2, k3⟩ := ba k2
      obtain ⟨h3, k4⟩ := ba k3
      obtain ⟨h4, h5⟩ := ba k4
      exact forS_ok x (x.cal h1).1 h2 (sI it x h3) (sG g x h4) (sSs body x hk hf h5)
    · cases h
  | .whl t body, q, Z, W, pr, X, x, hk, hf, st, h => by
    unfold chkS at h
    split at h
    · obtain ⟨h1, h2⟩ := ba h
      exact whlS_ok x (sT t x h1).1 (sSs body x hk hf h2)
    · cases h
  | .brk, q, Z, W, pr, X, x, hk, hf, st, h => by
    unfold chkS at h
    split at h
    · exact PS.imp ps_break fun D σ H ⟨m, ρ, s, R, p⟩ => p m σ H .refl R
    · cases h
  | .cnt, q, Z, W, pr, X, x, hk, hf, st, h => by
    unfold chkS at h
    split at h
    · exact PS.imp ps_continue fun D σ H ⟨m, ρ, s, R, p⟩ => p m σ H .refl R
    · cases h
  | .pass, q, Z, W, pr, X, x, hk, hf, st, h => by
    unfold chkS at h
    split at h
    · exact PS.imp ps_pass fun D σ H ⟨m, ρ, s, R, p⟩ => p m σ H .refl R
    · cases h
  | .raise C es, q, Z, W, pr, X, x, hk, hf, st, h => by
    unfold chkS at h
    split at h
    · obtain ⟨h1, k2⟩ := ba h
      obtain ⟨h2, k3⟩ := ba k2
      obtain ⟨h3, k4⟩ := ba k3
      obtain ⟨h4, k5⟩ := ba k4
      obtain ⟨h5, h6⟩ := ba k5
      have h1 := eq_of_beq h1
      subst h1
      exact raise_ok x h4 (gloB_ok x h2) (nmB_ok h3).1 (chkEs_star h6).1 (of_decide_eq_true h5) (sEs es x h6)
    · cases h
  | .tr body hs, q, Z, W, pr, X, x, hk, hf, st, h => by
    unfold chkS at h
    split at h
    · obtain ⟨h1, k2⟩ := ba h
      obtain ⟨h2, h3⟩ := ba k2
      obtain ⟨hcx, rfl⟩ := x.cal h1
      obtain ⟨l, hh, hi⟩ := sHs hs x hk hf h3
      exact try_ok x hk hf (fun W pn xe tk po => sSs body (x.tr tk po) hk hf h2) hh hi
    · cases h
  | .any, q, Z, W, pr, X, x, hk, hf, st, h => anyS_ok
  | .fst o f e, q, Z, W, pr, X, x, hk, hf, st, h => by
    unfold chkS at h
    split at h
    · obtain ⟨h1, k2⟩ := ba h
      obtain ⟨h2, h3⟩ := ba k2
      have h1 := eq_of_beq h1
      subst h1
      exact fstS_ok x (sE o x h2) (sE e x h3)
    · cases h
  | .fau o f op e, q, Z, W, pr, X, x, hk, hf, st, h => by
    unfold chkS at h
    split at h
    · obtain ⟨h1, k2⟩ := ba h
      obtain ⟨h2, k3⟩ := ba k2
      obtain ⟨h3, h4⟩ := ba k3
      have h1 := eq_of_beq h1
      subst h1
      have h2 := opB_eq h2
      subst h2
      exact fauS_ok x (sE o x h3) (sE e x h4)
    · cases h
  | .lok p a, q, Z, W, pr, X, x, hk, hf, st, h => by
    obtain ⟨h1, h2⟩ := ba h
    exact lokS_ok h1 (sS a x hk hf h2)
theorem sSs {G : Gs} : ∀ (ir : List IS) {q : Rq} {Z : Sc} {W : WX} {pr : Option Hdp} {X : Cx}, XOk G q Z W pr X → X.stack = X.env :: X.outer → X.env.frame = some X.env.locals → ∀ {st : List Stmt}, chkSs G Z ir st = true → PSs X st (tS X.w X.K W pr (runSs q ir))
  | [], q, Z, W, pr, X, x, hk, hf, st, h => by
    cases st with
    | nil => exact seqS_nil
    | cons _ _ => cases h
  | a :: r, q, Z, W, pr, X, x, hk, hf, st, h => by
    cases st with
    | nil => cases h
    | cons y ys =>
      obtain ⟨h1, h2⟩ := ba h
      exact seqS_cons (sS a x hk hf h1) (sSs r x hk hf h2)
theorem sHs {G : Gs} : ∀ (hs : List (Str × Option Nat × List IS)) {q : Rq} {Z : Sc} {W : WX} {X : Cx}, XOk G q Z W none X → X.stack = X.env :: X.outer → X.env.frame = some X.env.locals → ∀ {hds : List ExceptHandler}, chkHs G Z hs hds = true →
    ∃ l, ClsOk X hds l ∧ ClsIs X.w X.K q (fun _ => True) hs l
  | [], q, Z, W, X, x, hk, hf, hds, h => by
    cases hds with
    | nil => exact ⟨[], .nil, .nil⟩
    | cons _ _ => cases h
  | (k, i, body) :: hs, q, Z, W, X, x, hk, hf, hds, h => by
    cases hds with
    | nil => cases h
    | cons hd hds =>
      obtain ⟨h1, h2⟩ := ba h
      obtain ⟨l, a1, a2⟩ := sHs hs x hk hf h2
      split at h1
      · rename_i y np nm b₀ suite pos'
        obtain ⟨g1, k2⟩ := ba h1
        obtain ⟨g2, k3⟩ := ba k2
        obtain ⟨g3, k4⟩ := ba k3
        obtain ⟨g4, k5⟩ := ba k4
        obtain ⟨g5, g6⟩ := ba k5
        have g1 := eq_of_beq g1
        subst g1
        obtain ⟨c, hc⟩ := x.cl _ (List.contains_iff_mem.mp g4)
        have hn := clsNames (gloB_ok x g2) hc g3
        have hx : ∀ C b, q.isx C k = some b → PySem.W.exmOne X.K (.ref (He.ga X.K C)) c = some b := fun C b e => by
          obtain ⟨_, c', hc', e1, _⟩ := x.ix C k b e
          rw [hc.uni hc']; exact e1
        refine ⟨(c, i, tSu X.w X.K q i body) :: l, ?_, .cons hx a2⟩
        cases i with
        | none =>
          cases nm with
          | some n => cases g5
          | none =>
            refine .cons hn (fun a oe cls d pn hz hfl => ?_) a1
            exact PSs.ex fun C => PSs.ands fun ec => sSs body (x.su0 a _) hk hf g6
        | some i =>
          cases nm with
          | none => cases g5
          | some n =>
            obtain ⟨g7, g8⟩ := ba g5
            refine .as (by rw [x.N]; exact slot_is g7) (by show X.env.scope.names.lookup n = _; rw [x.sc]; exact eq_of_beq g8) hn (fun a oe cls d pn hz hfl => ?_) a1
            refine PSs.ex fun C => PSs.ands fun ec => PSs.ex fun dx => PSs.ands fun ed => PSs.ex fun fs => ?_
            subst ec ed
            exact sSs body (x.su1 hz hfl) hk hf g6
      · cases h1
end
end DI

set_option Elab.async false
set_option linter.all false
set_option maxRecDepth 100000
set_option maxHeartbeats 4000000
/-! DI 17: own exceptions' __init__; the facts of a class. -/
namespace DI
open PySem PySem.Spec PyProof.Rows L2
/-! ### what the written part must say of an own exception -/
def oexB (b : Bool) (K : PySem.W.Frag) (C : Addr) : Bool := (match K.lookup C with
  | some ⟨.type "type", _, .cls cd, sl⟩ => (match cd.mro, sl.toList with
    | .ref C' :: bm, [_, _, _, _, some (.builtin n), _] => decide (C' = C) && (decide (n = newB b) && (!cd.hasDel && (cd.hasDict && mroB b bm)))
    | _, _ => false)
  | _ => false) && (decide (PySem.W.findIn K (.ref C) "__setattr__" = some (some (.builtin "object.__setattr__"))) && (decide (PySem.W.subIn K (.ref C) (.type "BaseException") = some true) && (decide (PySem.W.typeIn K (.ref C) = some (.type "type")) && PySem.W.keepIn K (.ref C))))
theorem oexB_ok {b : Bool} {K : PySem.W.Frag} {C : Addr} (h : oexB b K C = true) : OexA K b C := by
  obtain ⟨q, h⟩ := ba h
  obtain ⟨h1, h⟩ := ba h
  obtain ⟨h2, h⟩ := ba h
  obtain ⟨h3, h4⟩ := ba h
  refine ⟨?_, of_decide_eq_true h1, of_decide_eq_true h2, of_decide_eq_true h3, h4⟩
  split at q
  · rename_i dd cd sl ho
    split at q
    · rename_i C' bm k0 k1 k2 k3 n k5 hm hs
      obtain ⟨q1, q⟩ := ba q
      obtain ⟨q2, q⟩ := ba q
      obtain ⟨q3, q⟩ := ba q
      obtain ⟨q4, q5⟩ := ba q
      have q1 := of_decide_eq_true q1
      have q2 := of_decide_eq_true q2
      have q3x : cd.hasDel = false := bn q3
      clear q q3
      obtain ⟨nm, bs, mro, ns, qn, hd, sn, sub, ab, col, del⟩ := cd
      dsimp only at hm q3x q4
      subst hm q3x q4 q1 q2
      have hsl : sl = #[k0, k1, k2, k3, some (.builtin (newB b)), k5] := by
        obtain ⟨l⟩ := sl
        simp only at hs
        rw [hs]
      subst hsl
      exact ⟨nm, qn, ns, bs, bm, sn, sub, ab, col, dd, k0, k1, k2, k3, k5, ho, q5⟩
    · cases q
  · cases q
def exkB (K : PySem.W.Frag) (C : Str) (fl : List Str) : Bool := xfB K (He.ga K C) && ((fl.all fun f => decide (PySem.W.findIn K (.ref (He.ga K C)) f = some none)) && (oexB true K (He.ga K C) || oexB false K (He.ga K C)))
theorem exkB_ok {K : PySem.W.Frag} {C : Str} {fl : List Str} (h : exkB K C fl = true) : ExcK K C fl := by
  obtain ⟨h1, h⟩ := ba h
  obtain ⟨h2, h3⟩ := ba h
  refine ⟨xfB_ok h1, fun f hf => of_decide_eq_true (List.all_eq_true.mp h2 f hf), ?_⟩
  rcases Bool.or_eq_true_iff.mp h3 with h3 | h3
  · exact ⟨true, oexB_ok h3⟩
  · exact ⟨false, oexB_ok h3⟩
def excB (K : PySem.W.Frag) (D : Addr) : Bool := decide (PySem.W.findIn K (.ref D) "__getattribute__" = some (some (.builtin "BaseException.__getattribute__"))) && (decide (PySem.W.findIn K (.ref D) "__getattr__" = some none) && (decide (PySem.W.subIn K (.ref D) (.type "BaseException") = some true) &&
  (PySem.W.hasDictIn K D && (decide (PySem.W.findIn K (.ref D) "__class__" = some (some (.builtin "object.__class__"))) && (decide (PySem.W.specialIn K (.builtin "object.__class__") "__get__" = some (some (.builtin "getset_descriptor.__get__"))) &&
  (decide (PySem.W.takesIn K (.builtin "object.__class__") = some true) && decide (PySem.W.mroIn K D (.type "object") = some true)))))))
theorem excB_ok {K : PySem.W.Frag} {D : Addr} (h : excB K D = true) : ExcC K D := by
  obtain ⟨h1, h⟩ := ba h
  obtain ⟨h2, h⟩ := ba h
  obtain ⟨h3, h⟩ := ba h
  obtain ⟨h4, h⟩ := ba h
  obtain ⟨h5, h⟩ := ba h
  obtain ⟨h6, h⟩ := ba h
  obtain ⟨h7, h8⟩ := ba h
  exact ⟨of_decide_eq_true h1, of_decide_eq_true h2, of_decide_eq_true h3, h4, of_decide_eq_true h5, of_decide_eq_true h6, of_decide_eq_true h7, of_decide_eq_true h8⟩
/-- Base.__init__ is ValueError's, Exception's -/
def inhB (b : Bool) (K : PySem.W.Frag) (B : Addr) : Bool := decide (PySem.W.specialIn K (.ref B) "__getattribute__" = some (some (.builtin "type.__getattribute__"))) && (PySem.W.readsIn K B (.type "type") &&
  (match PySem.W.findCls K (.ref B) (.type "type") "__init__" with
  | some (.val (.builtin n)) => decide (n = iniId b)
  | _ => false))
structure InhC (b : Bool) (K : PySem.W.Frag) (B : Addr) : Prop where
  ga : PySem.W.specialIn K (.ref B) "__getattribute__" = some (some (.builtin "type.__getattribute__"))
  rd : PySem.W.readsIn K B (.type "type") = true
  fi : PySem.W.findCls K (.ref B) (.type "type") "__init__" = some (.val (.builtin (iniId b)))
theorem inhB_ok {b : Bool} {K : PySem.W.Frag} {B : Addr} (h : inhB b K B = true) : InhC b K B := by
  obtain ⟨h1, h⟩ := ba h
  obtain ⟨h2, h3⟩ := ba h
  refine ⟨of_decide_eq_true h1, h2, ?_⟩
  split at h3
  · rename_i n e
    rw [e, of_decide_eq_true h3]
  · cases h3
section
variable {X : Cx} {o e : Expr} {es : List Expr} {to te : TE} {ta : TA} {f : Str} {p p' p1 p2 pos : Pos}
/-- Base.__init__(self, ..), Base an own class whose __init__ is ValueError's -/
theorem pe_inh {b : Bool} {B : Str} {R0 : Addr} (T : InhC b X.K R0) (hg : Gl X B) (hm : X.mg B = some (.ref R0)) (hd : (B == ("__debug__" : Str)) = false) (hl : (p2.endLine == pos.line) = true) (hlen : (e :: es).length < 30) (hst : (e :: es).all notStar = true) (ha : PA X (e :: es) ta)
    (he : starEach (e :: es) X.env = (false, eval e X.env) :: starEach es X.env) (hpl : (backTo pos (starEach es X.env)).any (·.1) = false) :
    PE X (.Call (.Attribute (.Name B p1) "__init__" p2) (e :: es) [] pos) (tVeA X.K b ta) := by
  refine ⟨fun pins s σ H Q I h => ?_⟩
  have hfew : methodCallForm ((e :: es).length + ([] : List Keyword).length) (backTo pos (starEach (e :: es) X.env)) (backToKw pos (keywordEach [] X.env)) = true := by
    unfold methodCallForm
    rw [star_all hst]
    show (true && true && decide ((e :: es).length + 0 + 0 < 30)) = true
    rw [decide_eq_true (by omega)]; rfl
  have hc : eval (.Call (.Attribute (.Name B p1) "__init__" p2) (e :: es) [] pos) X.env = (do
      let ov ← eval (.Name B p1) X.env
      standAt p2.atName
      let (f, first) ← holding [ov] (getMethod ov "__init__" (do return (← importBound (.Name B p1) X.env).getD true))
      callWith pos f first (backTo pos (starEach (e :: es) X.env)) (backToKw pos (keywordEach [] X.env))) := by
    show (do let ov ← eval (.Name B p1) X.env; standAt p2.atName; methodCall (.Name B p1) "__init__" p2 pos X.env ov ((e :: es).length + ([] : List Keyword).length) (backTo pos (starEach (e :: es) X.env)) (backToKw pos (keywordEach [] X.env))) = _
    unfold methodCall calleeOf methodCallPos
    rw [hfew]
    simp only [hl, if_true, Bool.not_true, Bool.false_or]
    rfl
  refine PySem.W.methodCall_KW (ld_glob I hg hm ?_ hd) hc
  refine PySem.W.method_cls I.kIn T.ga (PySem.W.cls_value I.kIn T.rd T.fi (by cases b <;> rfl) ?_)
  show wpAny _ _ (callWith pos (Value.builtin (iniId b)) [] (backTo pos (starEach (e :: es) X.env)) []) _ _ _
  refine PyProof.Rows.callWith_method1 (thn (ha.run pos pins _ σ H _ (I.tok _) h) fun us s1 ⟨vs, H1, I1, r1, a, C, ws, ev, hl, T, ea, q⟩ => ?_) he hpl
  subst ev
  cases r1 with
  | @cons _ u0 _ ur ra rw' =>
    obtain rfl : u0 = Value.ref a := ra
    have hlen : ur.length ≤ sizeLine := by
      rw [← Paired.length rw', sizeLine_eq]
      omega
    exact oinit_okA T I1 ea hlen fun s' J => ⟨.non, H1, J, rfl, q⟩
theorem boot_B : ∀ b : Bool, bootBuiltins (basB b : String) = some (.type (basB b))
  | true => by decide +kernel
  | false => by decide +kernel
/-- ValueError.__init__(self, ..), Exception.__init__(self, ..) -/
theorem pe_bin {b : Bool} (hg : Gl X (basB b : String)) (hm : X.mg (basB b : String) = none) (vV : PySem.W.findCls X.K (.type (basB b)) (.type "type") "__init__" = some (.val (.builtin (iniId b)))) (hl : (p2.endLine == pos.line) = true) (hlen : (e :: es).length < 20) (hst : (e :: es).all notStar = true) (ha : PA X (e :: es) ta)
    (he : starEach (e :: es) X.env = (false, eval e X.env) :: starEach es X.env) (hpl : (backTo pos (starEach es X.env)).any (·.1) = false) :
    PE X (.Call (.Attribute (.Name (basB b : String) p1) "__init__" p2) (e :: es) [] pos) (tVeA X.K b ta) := by
  refine ⟨fun pins s σ H Q I h => ?_⟩
  have hc := meth_tree (X := X) (o := .Name (basB b : String) p1) (m := "__init__") (apos := p2) (pos := pos) rfl hl (xs := e :: es) hlen hst
  refine PySem.W.methodCall_KW (ld_blt I hg hm (boot_B b) ?_ (by cases b <;> decide) (by cases b <;> decide)) hc
  obtain ⟨m, fr⟩ := I.fr
  refine PySem.W.method_type fr I.ok.mod.kin (typ_B b) (by cases b <;> decide +kernel) vV (by cases b <;> decide +kernel) ?_
  show wpAny _ _ (callWith pos (Value.builtin (iniId b)) [] (backTo pos (starEach (e :: es) X.env)) []) _ _ _
  refine PyProof.Rows.callWith_method1 (thn (ha.run pos pins _ σ H _ (I.tok _) h) fun us s1 ⟨vs, H1, I1, r1, a, C, ws, ev, hl, T, ea, q⟩ => ?_) he hpl
  subst ev
  cases r1 with
  | @cons _ u0 _ ur ra rw' =>
    obtain rfl : u0 = Value.ref a := ra
    have hlen : ur.length ≤ sizeLine := by
      rw [← Paired.length rw', sizeLine_eq]
      omega
    exact oinit_okA T I1 ea hlen fun s' J => ⟨.non, H1, J, rfl, q⟩
/-- what stands at the head of an __init__ -/
def Bas (K : PySem.W.Frag) (mg : Str → Option Value) (b : Bool) (B : Str) : Prop := (InhC b K (He.ga K B) ∧ mg B = some (.ref (He.ga K B))) ∨ (B = (basB b : String) ∧ mg B = none ∧ PySem.W.findCls K (.type (basB b)) (.type "type") "__init__" = some (.val (.builtin (iniId b))))
theorem pe_bas {b : Bool} {B : Str} (T : Bas X.K X.mg b B) (hg : Gl X B) (hd : (B == ("__debug__" : Str)) = false) (hl : (p2.endLine == pos.line) = true) (hlen : (e :: es).length < 20) (hst : (e :: es).all notStar = true) (ha : PA X (e :: es) ta)
    (he : starEach (e :: es) X.env = (false, eval e X.env) :: starEach es X.env) (hpl : (backTo pos (starEach es X.env)).any (·.1) = false) :
    PE X (.Call (.Attribute (.Name B p1) "__init__" p2) (e :: es) [] pos) (tVeA X.K b ta) := by
  rcases T with ⟨T, hm⟩ | ⟨rfl, hm, vV⟩
  · exact pe_inh T hg hm hd hl (by omega) hst ha he hpl
  · exact pe_bin hg hm vV hl hlen hst ha he hpl
/-! ### self, then names -/
def tVs : List Nat → TA
  | [] => tNil
  | i :: is => tCons (tVar i) (tVs is)
theorem tVs_ok {σ : L2.St} {H : Hp} {Q : List V → Hp → Prop} : ∀ {is : List Nat} {vs : List V}, is.map (fun i => σ[i]?) = vs.map (fun v => some (some v)) → Q vs H → tVs is σ H Q := by
  intro is
  induction is generalizing Q with
  | nil =>
    intro vs h q
    cases vs with
    | nil => exact q
    | cons _ _ => cases h
  | cons i is ih =>
    intro vs h q
    cases vs with
    | nil => cases h
    | cons v vs =>
      simp only [List.map_cons, List.cons.injEq] at h
      exact ⟨v, h.1, ih (Q := fun xs H2 => Q (v :: xs) H2) h.2 q⟩
/-- plain names at slots -/
def nmsB (N : List Str) (sc : Scope) : List Nat → List Expr → Bool
  | [], [] => true
  | i :: is, .Name x _ :: xs => decide (N[i]? = some x) && (visB sc x && (nmB x && nmsB N sc is xs))
  | _, _ => false
theorem nms_ok {N : List Str} {sc : Scope} (hN : X.N = N) (hs : X.env.scope = sc) : ∀ {is : List Nat} {xs : List Expr}, nmsB N sc is xs = true → PA X xs (tVs is) ∧ xs.all notStar = true := by
  intro is
  induction is with
  | nil =>
    intro xs h
    cases xs with
    | nil => exact ⟨pa_nil, rfl⟩
    | cons _ _ => cases h
  | cons i is ih =>
    intro xs h
    unfold nmsB at h
    split at h
    · cases ‹_ :: _ = []›
    · rename_i i' is' x p xs e1
      cases e1
      obtain ⟨h1, h⟩ := ba h
      obtain ⟨h2, h⟩ := ba h
      obtain ⟨h3, h4⟩ := ba h
      obtain ⟨a, b⟩ := ih h4
      have hv : Vis X.env.scope x := by
        rw [hs]
        unfold visB at h2
        unfold Vis
        split at h2 <;> first | (rename_i e; rw [e]; simp) | cases h2
      obtain ⟨n1, n2, _⟩ := nmB_ok h3
      exact ⟨pa_cons (pe_var (by rw [hN]; exact of_decide_eq_true h1) hv n1 n2) a (star_cons (e := .Name x p) rfl), by rw [List.all_cons, b]; rfl⟩
    · cases h
/-- self.f = f, .. -/
def fldB (N : List Str) (sc : Scope) : Nat → List Str → List Stmt → Bool
  | _, [], [] => true
  | i, f :: fl, .Assign [.Attribute (.Name s _) g _] (.Name x _) _ :: r => decide (f = g) && (decide (N[0]? = some s) && (visB sc s && (nmB s && (decide (N[i]? = some x) && (visB sc x && (nmB x && fldB N sc (i + 1) fl r))))))
  | _, _, _ => false
def tFl (K : PySem.W.Frag) (b : Bool) : Nat → List Str → TS
  | _, [] => tNext
  | i, f :: fl => tSeq (tOstA K b f (tVar 0) (tVar i)) (tFl K b (i + 1) fl)
theorem fld_ok {b : Bool} {N : List Str} {sc : Scope} (hN : X.N = N) (hs : X.env.scope = sc) : ∀ {fl : List Str} {i : Nat} {r : List Stmt}, fldB N sc i fl r = true → PSs X r (tFl X.K b i fl) := by
  have vis : ∀ {x : Str}, visB sc x = true → Vis X.env.scope x := fun h2 => by
    rw [hs]
    unfold visB at h2
    unfold Vis
    split at h2 <;> first | (rename_i e; rw [e]; simp) | cases h2
  intro fl
  induction fl with
  | nil =>
    intro i r h
    cases r with
    | nil => exact pss_nil
    | cons _ _ => unfold fldB at h; cases h
  | cons f fl ih =>
    intro i r h
    unfold fldB at h
    split at h
    · cases ‹_ :: _ = []›
    · rename_i i' f' fl' s q1 g q2 x q3 q4 r e1 
      cases e1
      obtain ⟨h1, h⟩ := ba h
      obtain ⟨h2, h⟩ := ba h
      obtain ⟨h3, h⟩ := ba h
      obtain ⟨h4, h⟩ := ba h
      obtain ⟨h5, h⟩ := ba h
      obtain ⟨h6, h⟩ := ba h
      obtain ⟨h7, h8⟩ := ba h
      have h1 := of_decide_eq_true h1
      subst h1
      obtain ⟨n1, n2, _⟩ := nmB_ok h4
      obtain ⟨m1, m2, _⟩ := nmB_ok h7
      exact pss_cons (ps_ostA (pe_var (i := 0) (by rw [hN]; exact of_decide_eq_true h2) (vis h3) n1 n2) (pe_var (by rw [hN]; exact of_decide_eq_true h5) (vis h6) m1 m2) rfl) (ih h8)
    · cases h
end
/-- the fields but the first -/
theorem tFl_more {b : Bool} {K : PySem.W.Frag} {C : Addr} (T : OexA K b C) {a dx : Addr} (hne : dx ≠ a) {D : Ends} {σ : L2.St} (h0 : σ[0]? = some (some (.ref a))) : ∀ {fl : List Str} {vs : List V} {i : Nat} {H : Hp} {fs : List (Str × V)}, (∀ f ∈ fl, PySem.W.findIn K (.ref C) f = some none) →
    fl.length = vs.length → (∀ j v, vs[j]? = some v → σ[i + j]? = some (some v)) → H a = some (exo a C (some dx)) → H dx = some (exd dx fs) → fs.length + fl.length ≤ 900 → D.nx σ (upd H dx (exd dx ((fl.zip vs).reverse ++ fs))) → tFl K b i fl D σ H := by
  intro fl
  induction fl with
  | nil =>
    intro vs i H fs _ _ _ ha hd _ q
    have e : upd H dx (exd dx (([].zip vs).reverse ++ fs)) = H := by
      funext b
      by_cases hb : b = dx
      · rw [hb, upd_same, hd]; rfl
      · rw [upd_ne hb]
    rw [e] at q
    exact q
  | cons f fl ih =>
    intro vs i H fs hno hl hv ha hd hz q
    cases vs with
    | nil => cases hl
    | cons v vs =>
      refine ⟨v, by simpa using hv 0 v rfl, .ref a, h0, a, C, rfl, T, hno f List.mem_cons_self, .inr ⟨dx, fs, ha, hd, by simp at hz; omega, ?_⟩⟩
      refine ih (vs := vs) (fun g hg => hno g (List.mem_cons_of_mem _ hg)) (by simpa using hl) (fun j w e => by
        have := hv (j + 1) w e
        rwa [show i + 1 + j = i + (j + 1) by omega]) (by rw [upd_ne (fun z => hne z.symm)]; exact ha) upd_same (by simp at hz ⊢; omega) ?_
      have e : upd (upd H dx (exd dx ((f, v) :: fs))) dx (exd dx ((fl.zip vs).reverse ++ ((f, v) :: fs))) = upd H dx (exd dx (((f :: fl).zip (v :: vs)).reverse ++ fs)) := by
        funext b
        by_cases hb : b = dx
        · rw [hb, upd_same, upd_same]; simp
        · rw [upd_ne hb, upd_ne hb, upd_ne hb]
      rw [e]
      exact q
/-- an __init__: Base.__init__(self, ..), then self.f = f, .. -/
def iniB (B : Str) (is : List Nat) (N : List Str) (sc : Scope) (fl : List Str) (body : List Stmt) : Bool := match body with
  | .Expr (.Call (.Attribute (.Name b _) g p2) (e :: es) [] p3) _ :: r => decide (b = B) && (decide (g = "__init__") && (gloB sc b && (nmB b && ((p2.endLine == p3.line) && (decide ((e :: es).length < 20) && (nmsB N sc (0 :: is) (e :: es) && fldB N sc 1 fl r))))))
  | _ => false
theorem ini_ok {P : Program} {w : World} {K : PySem.W.Frag} {mg : Str → Option Value} {base : Heap} {C B self x qual : Str} {fl ns : List Str} {is : List Nat} {params : Arguments} {body : List Stmt} {scope : Scope} {fI : Addr} {fd : FuncData}
    {bb : Bool} (F : FunD K x qual params body scope [] [] fI fd) (T : ExcK K C fl) (To : OexA K bb (He.ga K C)) (TB : Bas K mg bb B) (Sc : FnScope (self :: ns) (self :: ns) scope) (hn : ns.length = fl.length) (hne : fl ≠ []) (hz : fl.length ≤ 900)
    (his : ∀ i ∈ is, 1 ≤ i ∧ i < fl.length + 1) (hil : is.length ≤ 1000) (h : iniB B is (self :: ns) scope fl body = true) : FnOk P w K mg base (L2.CX P w) 1 fI fd (self :: ns) (spX K C fl) := by
  refine F.ok Sc (fun vs H Q E q => ?_) (fun cdv A outer s H vs Q E hr q => ?_)
  · obtain ⟨a, vs', rfl, hl, _⟩ := q
    simp [hl, hn]
  · obtain ⟨a, vs', rfl, hl, ha, hq⟩ := q
    unfold iniB at h
    split at h
    · rename_i b p1 g p2 e es p3 p4 r
      obtain ⟨h1, h⟩ := ba h
      obtain ⟨h2, h⟩ := ba h
      obtain ⟨h3, h⟩ := ba h
      obtain ⟨h4, h⟩ := ba h
      obtain ⟨h5, h⟩ := ba h
      obtain ⟨h5', h⟩ := ba h
      obtain ⟨h6, h7⟩ := ba h
      have h1 := of_decide_eq_true h1
      have h2 := of_decide_eq_true h2
      subst h1 h2
      obtain ⟨n1, n2, _⟩ := nmB_ok h4
      obtain ⟨pa, st⟩ := nms_ok (X := cxOf (L2.CX P w) P w K mg base (self :: ns) qual scope fI cdv A outer s H E) rfl rfl h6
      have st2 := st
      rw [List.all_cons, Bool.and_eq_true] at st2
      have hg : Gl (cxOf (L2.CX P w) P w K mg base (self :: ns) qual scope fI cdv A outer s H E) b := by
        show scope.names.lookup b = some .globalImplicit
        unfold gloB at h3
        split at h3 <;> first | assumption | cases h3
      refine ⟨_, pss_cons (ps_expr (pe_bas TB hg n1 h5 (of_decide_eq_true h5') st pa (star_cons st2.1) (star_any st2.2)) (noComp_ok rfl)) (fld_ok (b := bb) rfl rfl h7), ?_⟩
      have hst : L2.start (self :: ns) (V.ref a :: vs') = some (.ref a) :: vs'.map some := by
        unfold L2.start
        rw [show (self :: ns).length - (V.ref a :: vs').length = 0 by simp [hl, hn]]
        simp
      rw [hst]
      have σi : ∀ j v, vs'[j]? = some v → (some (V.ref a) :: vs'.map some)[1 + j]? = some (some v) := fun j v e => by
        rw [show 1 + j = j + 1 by omega, List.getElem?_cons_succ, List.getElem?_map, e]; rfl
      have key : ∀ is : List Nat, (∀ i ∈ is, 1 ≤ i ∧ i < fl.length + 1) → ∃ ws : List V, is.map (fun i => (some (V.ref a) :: vs'.map some)[i]?) = ws.map (fun v => some (some v)) := by
        intro is
        induction is with
        | nil => intro _; exact ⟨[], rfl⟩
        | cons i is ih =>
          intro his
          obtain ⟨ws, e⟩ := ih fun j hj => his j (List.mem_cons_of_mem _ hj)
          obtain ⟨i1, i2⟩ := his i List.mem_cons_self
          have hlt : i - 1 < vs'.length := by omega
          refine ⟨vs'[i - 1] :: ws, ?_⟩
          rw [List.map_cons, List.map_cons, e]
          have := σi (i - 1) _ (List.getElem?_eq_getElem hlt)
          rw [show 1 + (i - 1) = i by omega] at this
          rw [this]
      obtain ⟨ws, hws⟩ := key is his
      have hwl : ws.length ≤ 1000 := by
        have := congrArg List.length hws
        simp at this
        omega
      refine tVs_ok (vs := .ref a :: ws) (by rw [List.map_cons, List.map_cons, hws]; rfl) ⟨a, He.ga K C, ws, rfl, hwl, To, ha, ?_⟩
      cases fl with
      | nil => exact (hne rfl).elim
      | cons f fl =>
        cases vs' with
        | nil => cases hl
        | cons v vs' =>
          refine ⟨v, rfl, .ref a, rfl, a, He.ga K C, rfl, To, T.no f List.mem_cons_self, .inl ⟨ha, fun dx hx hdx => ?_⟩⟩
          refine tFl_more (a := a) (dx := dx) (vs := vs') (fs := [(f, v)]) To hdx rfl (fun g hg => T.no g (List.mem_cons_of_mem _ hg)) (by simpa using hl.symm) (fun j w' e => ?_) upd_same (by rw [upd_ne hdx, upd_same]) (by simp at hz ⊢; omega) ?_
          · have := σi (j + 1) w' e
            rwa [show 1 + 1 + j = 1 + (j + 1) by omega]
          · have e : upd (upd (upd H dx (exd dx [(f, v)])) a (exo a (He.ga K C) (some dx))) dx (exd dx ((fl.zip vs').reverse ++ [(f, v)])) = upd (upd H dx (exd dx ((f :: fl).zip (v :: vs')).reverse)) a (exo a (He.ga K C) (some dx)) := by
              funext b
              by_cases hb : b = dx
              · rw [hb, upd_same, upd_ne hdx, upd_same]; simp
              · rw [upd_ne hb]
                by_cases hba : b = a
                · rw [hba, upd_same, upd_same]
                · rw [upd_ne hba, upd_ne hb, upd_ne hba, upd_ne hb]
            show Q .non _
            rw [e]
            exact hq dx hx hdx
    · cases h
end DI

set_option Elab.async false
set_option linter.all false
set_option maxRecDepth 100000
set_option maxHeartbeats 4000000
/-! DI 18: defs keep what the code over data does; the facts behind the top. -/
namespace DI
open PySem PySem.Spec PyProof.Rows L2
/-! ### what is said of a program -/
structure Ini where
  C : Str
  fl : List Str
  B : Str
  self : Str
  ns : List Str
  is : List Nat
  fn : He.DefD
structure Cfg where
  ds : List Df
  fns : List He.DefD
  free : List Str
  cons : List (Str × D)
  cls : List Str
  inis : List Ini
  isx : List (Str × Str × Bool)
  fuel : Nat
  /-- class, name, def; class, field; class, its __init__ -/
  mts : List (Str × Str × Str)
  cfs : List (Str × Str)
  mks : List (Str × Str)
def lkm (l : List (Str × Str × Str)) (C m : Str) : Option Str := match l with
  | [] => none
  | (a, b, f) :: t => if a = C ∧ b = m then some f else lkm t C m
def lk1 (l : List (Str × Str)) (C : Str) : Option Str := match l with
  | [] => none
  | (a, f) :: t => if a = C then some f else lk1 t C
theorem lkm_mem {l : List (Str × Str × Str)} {C m f : Str} (h : lkm l C m = some f) : (C, m, f) ∈ l := by
  induction l with
  | nil => cases h
  | cons p t ih =>
    obtain ⟨a, c, r⟩ := p
    unfold lkm at h
    split at h
    · rename_i e; cases h; rw [e.1, e.2]; exact List.mem_cons_self
    · exact List.mem_cons_of_mem _ (ih h)
theorem lk1_some {l : List (Str × Str)} {C : Str} (h : C ∈ l.map (·.1)) : ∃ f, lk1 l C = some f ∧ (C, f) ∈ l := by
  induction l with
  | nil => cases h
  | cons p t ih =>
    obtain ⟨y, d⟩ := p
    unfold lk1
    by_cases e : y = C
    · rw [if_pos e]; exact ⟨d, rfl, by rw [e]; exact List.mem_cons_self⟩
    · rw [if_neg e]
      rw [List.map_cons, List.mem_cons] at h
      rcases h with h | h
      · exact absurd h.symm e
      · obtain ⟨d, a, b⟩ := ih h; exact ⟨d, a, List.mem_cons_of_mem _ b⟩
def lk2 (l : List (Str × Str × Bool)) (C k : Str) : Option Bool := match l with
  | [] => none
  | (a, b, r) :: t => if a = C ∧ b = k then some r else lk2 t C k
def lkI (l : List Ini) (C : Str) : Option (List Str) := match l with
  | [] => none
  | i :: t => if i.C = C then some i.fl else lkI t C
def lkC (l : List (Str × D)) (x : Str) : Option D := match l with
  | [] => none
  | (y, d) :: t => if y = x then some d else lkC t x
theorem lk2_mem {l : List (Str × Str × Bool)} {C k : Str} {b : Bool} (h : lk2 l C k = some b) : (C, k, b) ∈ l := by
  induction l with
  | nil => cases h
  | cons p t ih =>
    obtain ⟨a, c, r⟩ := p
    unfold lk2 at h
    split at h
    · rename_i e; cases h; rw [e.1, e.2]; exact List.mem_cons_self
    · exact List.mem_cons_of_mem _ (ih h)
theorem lkI_mem {l : List Ini} {C : Str} {fl : List Str} (h : lkI l C = some fl) : ∃ i ∈ l, i.C = C ∧ i.fl = fl := by
  induction l with
  | nil => cases h
  | cons i t ih =>
    unfold lkI at h
    split at h
    · rename_i e; cases h; exact ⟨i, List.mem_cons_self, e, rfl⟩
    · obtain ⟨j, hj, e⟩ := ih h; exact ⟨j, List.mem_cons_of_mem _ hj, e⟩
theorem lkC_some {l : List (Str × D)} {x : Str} (h : x ∈ l.map (·.1)) : ∃ d, lkC l x = some d ∧ (x, d) ∈ l := by
  induction l with
  | nil => cases h
  | cons p t ih =>
    obtain ⟨y, d⟩ := p
    unfold lkC
    by_cases e : y = x
    · rw [if_pos e]; exact ⟨d, rfl, by rw [e]; exact List.mem_cons_self⟩
    · rw [if_neg e]
      rw [List.map_cons, List.mem_cons] at h
      rcases h with h | h
      · exact absurd h.symm e
      · obtain ⟨d, a, b⟩ := ih h; exact ⟨d, a, List.mem_cons_of_mem _ b⟩
namespace Cfg
def G (c : Cfg) : Gs := ⟨(c.ds.filter fun d => d.cls.isNone).map fun d => (d.name, d.nP), c.cons.map (·.1), c.free, c.cls, c.mks.map (·.1)⟩
def q0 (c : Cfg) : Rq := { c := fun _ _ _ => .bad, gl := lkC c.cons, hd := none, isx := lk2 c.isx, ex := lkI c.inis, fuel := c.fuel, mt := lkm c.mts, cf := fun C f => c.cfs.any fun p => decide (p.1 = C) && decide (p.2 = f), mkI := lk1 c.mks, isf := fun f => c.ds.any fun d => d.cls.isNone && decide (d.name = f) }
def q (c : Cfg) (k : Nat) : Rq := { c.q0 with c := callN c.ds c.q0 k }
end Cfg
/-! ### constants -/
mutual
def conB (K : PySem.W.Frag) : D → Value → Bool
  | .non, u => (match u with
    | .none => true
    | _ => false)
  | .bl b, u => (match u with
    | .bool c => b == c
    | _ => false)
  | .int i, u => (match u with
    | .int j _ => decide (i = j)
    | _ => false)
  | .str x, u => (match u with
    | .str y _ => decide (x = y)
    | _ => false)
  | .tup ds, u => (match u with
    | .ref a => (match K.lookup a with
      | some ⟨.type c, _, .seq its _, _⟩ => decide (c = "tuple") && (decide (its.size ≤ sizeLine) && consB K ds its.toList)
      | _ => false)
    | _ => false)
  | _, _ => false
def consB (K : PySem.W.Frag) : List D → List Value → Bool
  | [], us => us.isEmpty
  | d :: ds, us => (match us with
    | u :: us => d.shr && (conB K d u && consB K ds us)
    | [] => false)
end
mutual
theorem conB_ok {w : World} {K : PySem.W.Frag} : ∀ {d : D} {u : Value}, conB K d u = true → ∃ v, RelV v u ∧ ∀ m H, Rp w K m H d v
  | .non, u, h => by
    unfold conB at h
    split at h
    · exact ⟨.non, rfl, fun _ _ => .non⟩
    · cases h
  | .bl b, u, h => by
    unfold conB at h
    split at h
    · have e := eq_of_beq h
      subst e
      exact ⟨.bl b, rfl, fun _ _ => .bl b⟩
    · cases h
  | .int i, u, h => by
    unfold conB at h
    split at h
    · have e := of_decide_eq_true h
      subst e
      exact ⟨.int i, ⟨_, rfl⟩, fun _ _ => .int i⟩
    · cases h
  | .str x, u, h => by
    unfold conB at h
    split at h
    · have e := of_decide_eq_true h
      subst e
      exact ⟨.str x, ⟨_, rfl⟩, fun _ _ => .str x⟩
    · cases h
  | .tup ds, u, h => by
    unfold conB at h
    split at h
    · rename_i a
      split at h
      · rename_i c dd its n sl e
        obtain ⟨h1, h⟩ := ba h
        obtain ⟨h2, h3⟩ := ba h
        obtain ⟨vs, r, p⟩ := consB_ok (w := w) h3
        exact ⟨.ref a, rfl, fun m H => .tup (.inr ⟨_, its, n, e, congrArg Value.type (of_decide_eq_true h1), rfl, of_decide_eq_true h2, r⟩) (p m H)⟩
      · cases h
    · cases h
  | .ref i, u, h => by cases h
  | .lst xs, u, h => by cases h
  | .rol xs, u, h => by cases h
  | .ist ns, u, h => by cases h
  | .dic ks xs, u, h => by cases h
  | .fn f, u, h => by cases h
theorem consB_ok {w : World} {K : PySem.W.Frag} : ∀ {ds : List D} {us : List Value}, consB K ds us = true → ∃ vs, Vals vs us ∧ ∀ m H, Rps w K m H ds vs
  | [], us, h => by
    unfold consB at h
    cases us with
    | nil => exact ⟨[], .nil, fun _ _ => .nil⟩
    | cons _ _ => cases h
  | d :: ds, us, h => by
    unfold consB at h
    split at h
    · obtain ⟨h1, h⟩ := ba h
      obtain ⟨h2, h3⟩ := ba h
      obtain ⟨v, r, p⟩ := conB_ok (w := w) h2
      obtain ⟨vs, rs, ps⟩ := consB_ok (w := w) h3
      exact ⟨v :: vs, .cons r rs, fun m H => .cons h1 (p m H) (ps m H)⟩
    · cases h
end
/-! ### binding -/
def Bd (fn : He.DefD) (ps : List Str) : Prop := ∀ (kV doc pm : Value) (an : Option Addr) (cdv ct : Value) (us : List Value), us.length = ps.length → bindArgs (PySem.W.fnOf fn.name fn.qual fn.params fn.body fn.scope .none kV doc pm an cdv ct) ⟨us, []⟩ = pure (ps.zip us)

/-! ### defs -/
def fnScB (N P : List Str) (sc : Scope) : Bool := (match sc.kind with
  | .function => true
  | _ => false) && (!sc.isCoroutine && (!sc.isGenerator && (decide N.Nodup && (decide (N.take P.length = P) && ((P.all fun x => decide (sc.names.lookup x = some .local) || decide (sc.names.lookup x = some .cell)) && sc.names.all fun y => !decide (y.2 = .free))))))
theorem fnScB_ok {N P : List Str} {sc : Scope} (h : fnScB N P sc = true) : FnScope N P sc := by
  obtain ⟨h1, h⟩ := ba h
  obtain ⟨h2, h⟩ := ba h
  obtain ⟨h3, h⟩ := ba h
  obtain ⟨h4, h⟩ := ba h
  obtain ⟨h5, h⟩ := ba h
  obtain ⟨h6, h7⟩ := ba h
  refine ⟨?_, bn h2, bn h3, of_decide_eq_true h4, of_decide_eq_true h5, fun x hx => ?_, fun y hy => ?_⟩
  · split at h1
    · assumption
    · cases h1
  · rcases Bool.or_eq_true_iff.mp (List.all_eq_true.mp h6 x hx) with z | z
    · exact .inl (of_decide_eq_true z)
    · exact .inr (of_decide_eq_true z)
  · have := List.all_eq_true.mp h7 y hy
    exact of_decide_eq_false (bn this)
def dfB (G : Gs) (d : Df) (fn : He.DefD) : Bool := decide (fn.at_ = d.at_) && (fn.dfl.isEmpty && (fn.kwd.isEmpty && (decide (d.nP ≤ d.N.length) && (fnScB d.N (d.N.take d.nP) fn.scope && chkSs G ⟨d.N, fn.scope, fun _ => true, true⟩ d.body fn.body))))
inductive DefsOk (G : Gs) : List Df → List He.DefD → Prop
  | nil : DefsOk G [] []
  | cons {d fn ds fns} : dfB G d fn = true → Bd fn (d.N.take d.nP) → DefsOk G ds fns → DefsOk G (d :: ds) (fn :: fns)
theorem DefsOk.get {G : Gs} {ds : List Df} {fns : List He.DefD} (h : DefsOk G ds fns) {d : Df} (hd : d ∈ ds) : ∃ fn, fn ∈ fns ∧ dfB G d fn = true ∧ Bd fn (d.N.take d.nP) := by
  induction h with
  | nil => cases hd
  | cons a b r ih =>
    rcases List.mem_cons.mp hd with e | hd
    · subst e; exact ⟨_, List.mem_cons_self, a, b⟩
    · obtain ⟨fn, q1, q2⟩ := ih hd
      exact ⟨fn, List.mem_cons_of_mem _ q1, q2⟩
def initB (i : Ini) : Bool := decide (i.fn.at_ = (i.C, some ("__init__" : Str))) && (i.fn.dfl.isEmpty && (i.fn.kwd.isEmpty && (fnScB (i.self :: i.ns) (i.self :: i.ns) i.fn.scope && (decide (i.ns.length = i.fl.length) && (!i.fl.isEmpty && (decide (i.fl.length ≤ 900) &&
  ((i.is.all fun j => decide (1 ≤ j ∧ j < i.fl.length + 1)) && (decide (i.is.length ≤ 1000) && iniB i.B i.is (i.self :: i.ns) i.fn.scope i.fl i.fn.body))))))))
def InitsOk (l : List Ini) : Prop := ∀ i ∈ l, initB i = true ∧ Bd i.fn (i.self :: i.ns)
/-! ### the facts -/
def gloK (K : PySem.W.Frag) (x : Str) : Bool := He.eqO (PySem.W.nsIn K mainGlobals x) (some (some (.ref (He.ga K x))))
def clsVal (K : PySem.W.Frag) (k : Str) : Option Value := match PySem.W.nsIn K mainGlobals k with
  | some (some (.ref a)) => some (.ref a)
  | some none => (match bootBuiltins k with
    | some (.type T) => some (.type T)
    | _ => none)
  | _ => none
/-- what stands at the head of an __init__ -/
def basK (b : Bool) (K : PySem.W.Frag) (C B : Str) : Bool := oexB b K (He.ga K C) && ((gloK K B && inhB b K (He.ga K B)) || (decide (B = (basB b : String)) && (He.eqO (PySem.W.nsIn K mainGlobals B) (some none) && (match PySem.W.findCls K (.type (basB b)) (.type "type") "__init__" with
  | some (.val (.builtin n)) => decide (n = iniId b)
  | _ => false))))
def initK (K : PySem.W.Frag) (i : Ini) : Bool := exkB K i.C i.fl && (gloK K i.C && ((basK true K i.C i.B || basK false K i.C i.B) && (He.eqO (PySem.W.findIn K (.ref (He.ga K i.C)) "__init__") (some (some (.ref (He.fAd K (i.C, some ("__init__" : Str)))))) &&
  decide (PySem.W.typeIn K (.ref (He.fAd K (i.C, some ("__init__" : Str)))) = some (.type "function")))))
def clsKB (K : PySem.W.Frag) (a : Addr) : Bool := PySem.W.plainGet K a Str.empty && (PySem.W.hasDictIn K a && (PySem.W.plainOver K a && He.eqO (PySem.W.findIn K (.ref a) "__setattr__") (some (some (.builtin "object.__setattr__")))))
theorem clsKB_ok {K : PySem.W.Frag} {a : Addr} (h : clsKB K a = true) : Cls K a := by
  obtain ⟨h1, h⟩ := ba h
  obtain ⟨h2, h⟩ := ba h
  obtain ⟨h3, h4⟩ := ba h
  exact ⟨h1, h2, h3, He.eqO_ok h4⟩
def methKB (K : PySem.W.Frag) (C : Addr) (m : Str) (f : Addr) : Bool := He.eqO (PySem.W.findIn K (.ref C) m) (some (some (.ref f))) && (PySem.W.isFn K (.ref f) && PySem.W.keepIn K (.ref f))
theorem methKB_ok {K : PySem.W.Frag} {C f : Addr} {m : Str} (h : methKB K C m f = true) : Meth K C m f := by
  obtain ⟨h1, h⟩ := ba h
  obtain ⟨h2, h3⟩ := ba h
  exact ⟨He.eqO_ok h1, h2, h3⟩
def dOf (ds : List Df) (f : Str) : Option Df := ds.find? fun d => decide (d.name = f)
theorem dOf_ok {ds : List Df} {f : Str} {d : Df} (h : dOf ds f = some d) : d ∈ ds ∧ d.name = f := ⟨List.mem_of_find?_eq_some h, of_decide_eq_true (by simpa using List.find?_some h)⟩
def mtK (ds : List Df) (K : PySem.W.Frag) (p : Str × Str × Str) : Bool := match dOf ds p.2.2 with
  | some d => clsKB K (He.ga K p.1) && methKB K (He.ga K p.1) p.2.1 (He.fAd K d.at_)
  | none => false
def cfK (K : PySem.W.Frag) (p : Str × Str) : Bool := clsKB K (He.ga K p.1) && He.eqO (PySem.W.findIn K (.ref (He.ga K p.1)) p.2) (some none)
def mkK (ds : List Df) (K : PySem.W.Frag) (p : Str × Str) : Bool := match dOf ds p.2 with
  | some d => gloK K p.1 && (PySem.W.makesIn K (He.ga K p.1) && (He.eqO (PySem.W.findIn K (.ref (He.ga K p.1)) "__init__") (some (some (.ref (He.fAd K d.at_)))) && (PySem.W.isFn K (.ref (He.fAd K d.at_)) && PySem.W.keepIn K (.ref (He.ga K p.1)))))
  | none => false
def isxK (K : PySem.W.Frag) (p : Str × Str × Bool) : Bool := excB K (He.ga K p.1) && (match clsVal K p.2.1 with
  | some c => decide (PySem.W.exmOne K (.ref (He.ga K p.1)) c = some p.2.2) && decide (PySem.W.kitOne K (.ref (He.ga K p.1)) c = some p.2.2)
  | none => false)
def factK (c : Cfg) (K : PySem.W.Frag) : Bool := (c.free.all fun x => He.eqO (PySem.W.nsIn K mainGlobals x) (some none)) && ((c.cons.all fun p => p.2.shr && (match PySem.W.nsIn K mainGlobals p.1 with
    | some (some u) => conB K p.2 u
    | _ => false)) && ((c.ds.all fun d => !d.cls.isNone || gloK K d.name) && ((c.inis.all fun i => initK K i) && ((c.isx.all fun p => isxK K p) && ((c.cls.all fun k => (clsVal K k).isSome) && ((c.mts.all fun p => mtK c.ds K p) && ((c.cfs.all fun p => cfK K p) && c.mks.all fun p => mkK c.ds K p)))))))
def allFn (c : Cfg) : List He.DefD := c.fns ++ c.inis.map (·.fn)
def obsX (c : Cfg) (K : PySem.W.Frag) : He.AlD := (factK c K && (allFn c).all fun d => d.ok K, (allFn c).map fun d => He.fnW K d.at_)
def valX (c : Cfg) : He.AlD := (true, (allFn c).map He.DefD.val)
def SaysX (c : Cfg) (K : PySem.W.Frag) : Prop := obsX c K = valX c
def obsXG (n : Nat) (c : Cfg) (g : Addr → Option Obj) : He.AlD := obsX c (He.frG g (cStatics :: He.asD g n))
def hookX (n : Nat) (c : Cfg) : PySem.W.Hook where
  α := He.AlD
  obs := fun s => obsXG n c s.heap.get?
  val := fun _ => valX c
  says := fun _ h => ∃ K : PySem.W.Frag, K.In h ∧ SaysX c K
  of := fun _ _ e => ⟨_, He.frG_in, e⟩
  keeps := fun _ _ _ ⟨K, hK, c⟩ k => ⟨K, PySem.W.Frag.In.keeps hK k, c⟩
theorem obsXG_eq {n : Nat} {c : Cfg} {g : Addr → Option Obj} {s : Shared} (h : ∀ a, g a = s.heap.get? a) : obsXG n c g = (hookX n c).obs s := by
  have e : g = s.heap.get? := funext h
  rw [e] <;> rfl
section
variable {c : Cfg} {K : PySem.W.Frag} {P : Program} {w : World} {h base : Heap} {mg : Str → Option Value}
theorem SaysX.facts (s : SaysX c K) : factK c K = true := (ba (show (factK c K && (allFn c).all fun d => d.ok K) = true from congrArg (fun z : He.AlD => z.1) s)).1
theorem SaysX.def_ (s : SaysX c K) {d : He.DefD} (hd : d ∈ allFn c) : ∃ fd, FunD K d.name d.qual d.params d.body d.scope (d.dvs K) (d.kws K) (He.fAd K d.at_) fd := by
  have c2 := (ba (show (factK c K && (allFn c).all fun d => d.ok K) = true from congrArg (fun z : He.AlD => z.1) s)).2
  have e : (allFn c).map (fun d => He.fnW K d.at_) = (allFn c).map He.DefD.val := congrArg (fun z : He.AlD => z.2) s
  obtain ⟨i, hi⟩ := List.getElem?_of_mem hd
  have e2 : ((allFn c).map fun d => He.fnW K d.at_)[i]? = ((allFn c).map He.DefD.val)[i]? := by rw [e]
  rw [List.getElem?_map, List.getElem?_map, hi] at e2
  exact He.DefD.funD (Option.some.inj e2) (List.all_eq_true.mp c2 d hd)
theorem SaysX.def0 (s : SaysX c K) {d : He.DefD} (hd : d ∈ allFn c) (h1 : d.dfl.isEmpty = true) (h2 : d.kwd.isEmpty = true) : ∃ fd, FunD K d.name d.qual d.params d.body d.scope [] [] (He.fAd K d.at_) fd := by
  obtain ⟨fd, F⟩ := s.def_ hd
  have e1 : d.dvs K = [] := by unfold He.DefD.dvs; rw [List.isEmpty_iff.mp h1]; rfl
  have e2 : d.kws K = [] := by unfold He.DefD.kws; rw [List.isEmpty_iff.mp h2]; rfl
  rw [e1, e2] at F
  exact ⟨fd, F⟩
theorem gloK_ok (X : K.In h) (G : h.Ns mainGlobals mg) {x : Str} (c : gloK K x = true) : mg x = some (.ref (He.ga K x)) := PySem.W.mg_of X G (He.eqO_ok c)
theorem clsVal_ok (X : K.In h) (G : h.Ns mainGlobals mg) {k : Str} {v : Value} (e : clsVal K k = some v) : ClsV mg k v := by
  unfold clsVal at e
  split at e
  · rename_i a h1
    cases e
    exact .inl ⟨PySem.W.mg_of X G h1, a, rfl⟩
  · rename_i h1
    split at e
    · rename_i T h2
      cases e
      exact .inr ⟨PySem.W.mg_none_of X G h1, h2, T, rfl⟩
    · cases e
  · cases e
/-- what the module says, at a base -/
structure KOk (c : Cfg) (P : Program) (w : World) (K : PySem.W.Frag) (mg : Str → Option Value) (base : Heap) : Prop where
  free : ∀ x ∈ c.free, mg x = none
  cons : ∀ x ∈ c.cons.map (·.1), ∃ d u v, lkC c.cons x = some d ∧ mg x = some u ∧ RelV v u ∧ d.shr = true ∧ ∀ m H, Rp w K m H d v
  xk : ∀ C fl, lkI c.inis C = some fl → ExcK K C fl
  cl : ∀ k ∈ c.cls, ∃ v, ClsV mg k v
  ix : ∀ C k b, lk2 c.isx C k = some b → ExcC K (He.ga K C) ∧ ∃ v, ClsV mg k v ∧ PySem.W.exmOne K (.ref (He.ga K C)) v = some b ∧ PySem.W.kitOne K (.ref (He.ga K C)) v = some b
  mkx : ∀ C fl, lkI c.inis C = some fl → ∃ (fI : Addr) (fd : FuncData) (ps : List Str), PySem.W.findIn K (.ref (He.ga K C)) "__init__" = some (some (.ref fI)) ∧ PySem.W.typeIn K (.ref fI) = some (.type "function") ∧
    FnOk P w K mg base (L2.CX P w) 1 fI fd ps (spX K C fl) ∧ Binds K fd ps [] ∧ mg C = some (.ref (He.ga K C))
  glo : ∀ d ∈ c.ds, d.cls = none → mg d.name = some (.ref (He.ga K d.name))
  mt : ∀ C m f, lkm c.mts C m = some f → ∃ d ∈ c.ds, d.name = f ∧ dOf c.ds f = some d ∧ Cls K (He.ga K C) ∧ Meth K (He.ga K C) m (He.fAd K d.at_)
  cf : ∀ C f, (C, f) ∈ c.cfs → Cls K (He.ga K C) ∧ NoAttr K (He.ga K C) f
  mki : ∀ C ∈ c.mks.map (·.1), ∃ f, lk1 c.mks C = some f ∧ ∃ d ∈ c.ds, d.name = f ∧ dOf c.ds f = some d ∧ Mk K (He.ga K C) (He.fAd K d.at_) ∧ mg C = some (.ref (He.ga K C))
theorem kok_of (s : SaysX c K) (X : K.In h) (G : h.Ns mainGlobals mg) (hi : InitsOk c.inis) : KOk c P w K mg base := by
  obtain ⟨f1, f⟩ := ba s.facts
  obtain ⟨f2, f⟩ := ba f
  obtain ⟨f3, f⟩ := ba f
  obtain ⟨f4, f⟩ := ba f
  obtain ⟨f5, f⟩ := ba f
  obtain ⟨f6, f⟩ := ba f
  obtain ⟨f7, f⟩ := ba f
  obtain ⟨f8, f9⟩ := ba f
  have ini : ∀ {C : Str} {fl : List Str}, lkI c.inis C = some fl → ∃ i ∈ c.inis, i.C = C ∧ i.fl = fl ∧ initK K i = true := fun e => by
    obtain ⟨i, hm, a, b⟩ := lkI_mem e
    exact ⟨i, hm, a, b, List.all_eq_true.mp f4 i hm⟩
  refine ⟨fun x hx => PySem.W.mg_none_of X G (He.eqO_ok (List.all_eq_true.mp f1 x hx)), fun x hx => ?_, fun C fl e => ?_, fun k hk => ?_, fun C k b e => ?_, fun C fl e => ?_, fun d hd hc => ?_, fun C m f e => ?_, fun C f e => ?_, fun C e => ?_⟩
  · obtain ⟨d, e1, hm⟩ := lkC_some hx
    have := List.all_eq_true.mp f2 _ hm
    obtain ⟨h1, h2⟩ := ba this
    split at h2
    · rename_i u hu
      obtain ⟨v, r, p⟩ := conB_ok (w := w) h2
      exact ⟨d, u, v, e1, PySem.W.mg_of X G hu, r, h1, p⟩
    · cases h2
  · obtain ⟨i, hm, rfl, rfl, hk⟩ := ini e
    exact exkB_ok (ba hk).1
  · obtain ⟨v, e⟩ := Option.isSome_iff_exists.mp (List.all_eq_true.mp f6 k hk)
    exact ⟨v, clsVal_ok X G e⟩
  · have := List.all_eq_true.mp f5 _ (lk2_mem e)
    obtain ⟨h1, h2⟩ := ba this
    split at h2
    · rename_i v hv
      obtain ⟨h3, h4⟩ := ba h2
      exact ⟨excB_ok h1, v, clsVal_ok X G hv, of_decide_eq_true h3, of_decide_eq_true h4⟩
    · cases h2
  · obtain ⟨i, hm, rfl, rfl, hk⟩ := ini e
    obtain ⟨k1, hk⟩ := ba hk
    obtain ⟨k2, hk⟩ := ba hk
    obtain ⟨k3, hk⟩ := ba hk
    obtain ⟨k5, k6⟩ := ba hk
    obtain ⟨b, hb⟩ := hi i hm
    obtain ⟨b1, b⟩ := ba b
    obtain ⟨b2, b⟩ := ba b
    obtain ⟨b3, b⟩ := ba b
    obtain ⟨b4, b⟩ := ba b
    obtain ⟨b5, b⟩ := ba b
    obtain ⟨b6, b⟩ := ba b
    obtain ⟨b7, b⟩ := ba b
    obtain ⟨b8, b⟩ := ba b
    obtain ⟨b9, b10⟩ := ba b
    obtain ⟨fd, F⟩ := s.def0 (d := i.fn) (List.mem_append_right _ (List.mem_map.mpr ⟨i, hm, rfl⟩)) b2 b3
    rw [of_decide_eq_true b1] at F
    have bas : ∀ {b : Bool}, basK b K i.C i.B = true → OexA K b (He.ga K i.C) ∧ Bas K mg b i.B := by
      intro b h
      obtain ⟨h1, h2⟩ := ba h
      refine ⟨oexB_ok h1, ?_⟩
      rcases Bool.or_eq_true_iff.mp h2 with h2 | h2
      · obtain ⟨h3, h4⟩ := ba h2
        exact .inl ⟨inhB_ok h4, gloK_ok X G h3⟩
      · obtain ⟨h3, h4⟩ := ba h2
        obtain ⟨h4, h5⟩ := ba h4
        refine .inr ⟨of_decide_eq_true h3, PySem.W.mg_none_of X G (He.eqO_ok h4), ?_⟩
        split at h5
        · rename_i n e; rw [e, of_decide_eq_true h5]
        · cases h5
    obtain ⟨bb, To, TB⟩ : ∃ b, OexA K b (He.ga K i.C) ∧ Bas K mg b i.B := by
      rcases Bool.or_eq_true_iff.mp k3 with k3 | k3
      · exact ⟨true, bas k3⟩
      · exact ⟨false, bas k3⟩
    refine ⟨_, fd, _, He.eqO_ok k5, of_decide_eq_true k6, ini_ok F (exkB_ok k1) To TB (fnScB_ok b4) (of_decide_eq_true b5) (fun z => by rw [z] at b6; cases b6) (of_decide_eq_true b7) (fun j hj => of_decide_eq_true (List.all_eq_true.mp b8 j hj)) (of_decide_eq_true b9) b10, F.bindsN hb, gloK_ok X G k2⟩
  · have := List.all_eq_true.mp f3 d hd
    rw [hc] at this
    exact gloK_ok X G (by simpa using this)
  · have := List.all_eq_true.mp f7 _ (lkm_mem e)
    unfold mtK at this
    split at this
    · rename_i d e1
      obtain ⟨h1, h2⟩ := ba this
      obtain ⟨hd, hn⟩ := dOf_ok e1
      exact ⟨d, hd, hn, e1, clsKB_ok h1, methKB_ok h2⟩
    · cases this
  · have := List.all_eq_true.mp f8 _ e
    obtain ⟨h1, h2⟩ := ba this
    exact ⟨clsKB_ok h1, He.eqO_ok h2⟩
  · obtain ⟨f, e1, hm⟩ := lk1_some e
    have := List.all_eq_true.mp f9 _ hm
    unfold mkK at this
    split at this
    · rename_i d e2
      obtain ⟨h1, h⟩ := ba this
      obtain ⟨h2, h⟩ := ba h
      obtain ⟨h3, h⟩ := ba h
      obtain ⟨h4, h5⟩ := ba h
      obtain ⟨hd, hn⟩ := dOf_ok e2
      exact ⟨f, e1, d, hd, hn, e2, ⟨h2, He.eqO_ok h3, h4, h5⟩, gloK_ok X G h1⟩
    · cases this
theorem callN_bad {ds : List Df} {q : Rq} {f : Str} {d : Df} (h : dOf ds f = some d) : ∀ (k : Nat) (as : List D) (s : DI.S), as.length ≠ d.nP → callN ds q k f as s = .bad
  | 0, _, _, _ => rfl
  | k + 1, as, s, hl => by
    show (match ds.find? (fun d' => decide (d'.name = f)) with
      | some d' => if as.length = d'.nP then runF { q with c := callN ds q k } d'.N.length d'.body as s else .bad
      | none => .bad) = _
    rw [show ds.find? (fun d' => decide (d'.name = f)) = some d from h]
    exact if_neg hl
theorem dOf_mem {ds : List Df} (hnd : (ds.map fun d : Df => d.name).Nodup) {d : Df} (hm : d ∈ ds) : dOf ds d.name = some d := by
  have key : ∀ l : List Df, (l.map fun d : Df => d.name).Nodup → d ∈ l → l.find? (fun d' => decide (d'.name = d.name)) = some d := by
    intro l
    induction l with
    | nil => intro _ h; cases h
    | cons y l ihl =>
      intro hn hmem
      rw [List.map_cons, List.nodup_cons] at hn
      rw [List.find?_cons]
      by_cases hy : y.name = d.name
      · rw [decide_eq_true hy]
        rcases List.mem_cons.mp hmem with z | z
        · rw [z]
        · exact absurd (List.mem_map.mpr ⟨d, z, hy.symm⟩) hn.1
      · rw [decide_eq_false hy]
        rcases List.mem_cons.mp hmem with z | z
        · exact absurd (by rw [z]) hy
        · exact ihl hn.2 z
  exact key _ hnd hm
theorem at_none {d : Df} (K : PySem.W.Frag) (h : d.cls = none) : He.fAd K d.at_ = He.ga K d.name := by
  unfold Df.at_
  rw [h]; rfl
/-- a body's context -/
theorem xok_body {c : Cfg} {k : Nat} {N : List Str} {scope : Scope} {qual : Str} {f : Addr} {cdv : Value} {A : Around} {outer : List Env} {s : Shared} {H : Hp} {E : XK} (ko : KOk c P w K mg base) (hnd : (c.ds.map fun d : Df => d.name).Nodup) (hN : N.Nodup) (hr : Room (2 * k + 3) (A.deeper (envOfC qual scope s.heap.objs.size f cdv)))
    (hf : ∀ d ∈ c.ds, ∃ (fd : FuncData), FnOk P w K mg base (L2.CX P w) (2 * k + 2) (He.fAd K d.at_) fd (d.N.take d.nP) (spF w K d.nP (callN c.ds c.q0 k d.name)) ∧ PySem.W.keepIn K (.ref (He.fAd K d.at_)) = true ∧ Binds K fd (d.N.take d.nP) [] ∧ (d.N.take d.nP).length = d.nP) :
    XOk c.G (c.q k) ⟨N, scope, fun _ => true, true⟩ (fun cls d _ H => E cls d H) none (cxOf (L2.CX P w) P w K mg base N qual scope f cdv A outer s H E) where
  N := rfl
  nd := hN
  sc := rfl
  fn := rfl
  tk := takes_of rfl rfl rfl rfl
  hu := by have := hr.un; show (A.deeper (envOfC qual scope s.heap.objs.size f cdv)).units + 65 < cLine; omega
  cal := fun _ => ⟨rfl, rfl⟩
  free := ko.free
  cons := ko.cons
  fns := fun _ g n hg => by
    obtain ⟨d, hd, e⟩ := List.mem_map.mp (show (g, n) ∈ (c.ds.filter fun d => d.cls.isNone).map fun d => (d.name, d.nP) from hg)
    cases e
    obtain ⟨hd, hn⟩ := List.mem_filter.mp hd
    have hn : d.cls = none := by simpa using hn
    obtain ⟨fd, F, b, e, l⟩ := hf d hd
    rw [at_none K hn] at F b
    exact ⟨_, fd, _, 2 * k + 2, F, hr.mono (by omega), ko.glo d hd hn, b, e, l⟩
  fnv := fun g hg => by
    obtain ⟨p, hp, e⟩ := List.mem_map.mp hg
    obtain ⟨d, hd, e2⟩ := List.mem_map.mp (show p ∈ (c.ds.filter fun d => d.cls.isNone).map fun d => (d.name, d.nP) from hp)
    subst e2; subst e
    obtain ⟨hd, hn⟩ := List.mem_filter.mp hd
    exact ko.glo d hd (by simpa using hn)
  isf := fun _ g hg => by
    obtain ⟨d, hd, h⟩ := List.any_eq_true.mp (show (c.ds.any fun d => d.cls.isNone && decide (d.name = g)) = true from hg)
    obtain ⟨hn, hg⟩ := ba h
    have hn : d.cls = none := by simpa using hn
    have hg := of_decide_eq_true hg
    subst hg
    obtain ⟨fd, F, b, e, l⟩ := hf d hd
    rw [at_none K hn] at F b
    exact ⟨fd, _, 2 * k + 2, d.nP, F, hr.mono (by omega), b, e, callN_bad (dOf_mem hnd hd) k⟩
  mt := fun _ C m g e => by
    obtain ⟨d, hd, hn, hdo, c1, c2⟩ := ko.mt C m g e
    obtain ⟨fd, F, b, bi, l⟩ := hf d hd
    subst hn
    exact ⟨_, fd, _, 2 * k + 2, d.nP, F, hr.mono (by omega), c1, c2, bi, callN_bad hdo k⟩
  cf := fun C g e => by
    obtain ⟨p, hp, h⟩ := List.any_eq_true.mp (show (c.cfs.any fun p => decide (p.1 = C) && decide (p.2 = g)) = true from e)
    obtain ⟨h1, h2⟩ := ba h
    have h1 := of_decide_eq_true h1
    have h2 := of_decide_eq_true h2
    subst h1; subst h2
    exact ko.cf _ _ hp
  mki := fun _ C hC => by
    obtain ⟨g, e1, d, hd, hn, hdo, c1, c2⟩ := ko.mki C hC
    obtain ⟨fd, F, b, e, l⟩ := hf d hd
    subst hn
    exact ⟨_, e1, _, fd, _, 2 * k + 2, d.nP, c1, F, hr, c2, e, callN_bad hdo k⟩
  po := passes_of rfl
  hd := rfl
  xk := ko.xk
  cl := ko.cl
  ix := ko.ix
  mkx := fun _ C fl e => by
    obtain ⟨fI, fd, ps, a, b, F, d, g⟩ := ko.mkx C fl e
    exact ⟨fI, fd, ps, 1, a, b, F, hr.mono (by omega), d, g⟩
  su := fun p e => by cases e
theorem start_eq {N : List Str} {ds : List D} {vs : List V} (h : ds.length = vs.length) : True := trivial
theorem rps_get {m : List Addr} {H : Hp} : ∀ {ds : List D} {vs : List V}, Rps w K m H ds vs → ∀ (i : Nat) (d : D), ds[i]? = some d → d.shr = true ∧ ∃ v, vs[i]? = some v ∧ Rp w K m H d v
  | _, _, .nil, i, d, e => by cases e
  | _, _, .cons hs r t, i, d, e => by
    cases i with
    | zero => cases e; exact ⟨hs, _, rfl, r⟩
    | succ i =>
      obtain ⟨a, v, b, c⟩ := rps_get t i d (by simpa using e)
      exact ⟨a, v, by simpa using b, c⟩
theorem rst_start {m : List Addr} {H : Hp} {s : DI.S} {N : List Str} {ds : List D} {vs : List V} (st : StOk w K m H s) (r : Rps w K m H ds vs) : Rst w K none m (ds.map some ++ List.replicate (N.length - ds.length) none) s (L2.start N vs) H := by
  have hl : vs.length = ds.length := r.length
  refine ⟨st, by unfold L2.start; simp [hl], fun i d e => ?_, fun p z => by cases z⟩
  have hi : i < ds.length := by
    apply Classical.byContradiction
    intro hn
    rw [List.getElem?_append_right (by simp; omega)] at e
    rw [List.getElem?_replicate] at e
    split at e <;> cases e
  rw [List.getElem?_append_left (by simpa using hi), List.getElem?_map] at e
  have e1 : ds[i]? = some d := by
    cases q : ds[i]? with
    | none => rw [q] at e; cases e
    | some d' => rw [q] at e; cases e; rfl
  obtain ⟨a, v, b, c⟩ := rps_get r i d e1
  refine ⟨a, v, ?_, c⟩
  unfold L2.start
  rw [List.getElem?_append_left (by simp; omega), List.getElem?_map, b]; rfl
theorem fns_ok {c : Cfg} (s : SaysX c K) (X : K.In h) (G : h.Ns mainGlobals mg) (ko : KOk c P w K mg base) (hd : DefsOk c.G c.ds c.fns) (hnd : (c.ds.map fun d : Df => d.name).Nodup) : ∀ (k : Nat), ∀ d ∈ c.ds,
    ∃ (fd : FuncData), FnOk P w K mg base (L2.CX P w) (2 * k + 2) (He.fAd K d.at_) fd (d.N.take d.nP) (spF w K d.nP (callN c.ds c.q0 k d.name)) ∧ PySem.W.keepIn K (.ref (He.fAd K d.at_)) = true ∧ Binds K fd (d.N.take d.nP) [] ∧ (d.N.take d.nP).length = d.nP ∧ ∃ (oc : Value) (od : Option Addr) (osl : Array (Option Value)), K.lookup (He.fAd K d.at_) = some ⟨oc, od, .func fd, osl⟩ := by
  have here : ∀ d ∈ c.ds, ∃ (fn : He.DefD) (fd : FuncData), FunD K fn.name fn.qual fn.params fn.body fn.scope [] [] (He.fAd K d.at_) fd ∧ Binds K fd (d.N.take d.nP) [] ∧ (d.N.take d.nP).length = d.nP ∧ FnScope d.N (d.N.take d.nP) fn.scope ∧ chkSs c.G ⟨d.N, fn.scope, fun _ => true, true⟩ d.body fn.body = true := by
    intro d hm
    obtain ⟨fn, hfn, b, hb⟩ := hd.get hm
    obtain ⟨b1, b⟩ := ba b
    obtain ⟨b2, b⟩ := ba b
    obtain ⟨b3, b⟩ := ba b
    obtain ⟨b4, b⟩ := ba b
    obtain ⟨b5, b6⟩ := ba b
    obtain ⟨fd, F⟩ := s.def0 (d := fn) (List.mem_append_left _ hfn) b2 b3
    rw [of_decide_eq_true b1] at F
    exact ⟨fn, fd, F, F.bindsN hb, by rw [List.length_take]; have := of_decide_eq_true b4; omega, fnScB_ok b5, b6⟩
  intro k
  induction k with
  | zero =>
    intro d hm
    obtain ⟨fn, fd, F, hb, hl, S, ch⟩ := here d hm
    have hlk : ∃ (oc : Value) (od : Option Addr) (osl : Array (Option Value)), K.lookup (He.fAd K d.at_) = some ⟨oc, od, .func fd, osl⟩ := by
      obtain ⟨oc, od, _, _, _, _, _, _, _, osl, _, lk, _⟩ := F.ex
      exact ⟨oc, od, osl, lk⟩
    refine ⟨fd, ⟨fun vs H Q E q => ?_, fun A outer s H args us vs Q E hr he hbd hv q => ?_⟩, F.kp, hb, hl, hlk⟩
    · obtain ⟨m, s, ds, _, r, e, _⟩ := q
      rw [r.length, e, hl]
    · obtain ⟨m, s, ds, _, r, e, p⟩ := q
      exact p.elim
  | succ k ih =>
    intro d hm
    obtain ⟨fn, fd, F, hb, hl, S, ch⟩ := here d hm
    have hlk : ∃ (oc : Value) (od : Option Addr) (osl : Array (Option Value)), K.lookup (He.fAd K d.at_) = some ⟨oc, od, .func fd, osl⟩ := by
      obtain ⟨oc, od, _, _, _, _, _, _, _, osl, _, lk, _⟩ := F.ex
      exact ⟨oc, od, osl, lk⟩
    refine ⟨fd, ?_, F.kp, hb, hl, hlk⟩
    rw [show 2 * (k + 1) + 2 = (2 * k + 3) + 1 by omega]
    refine F.ok (k := 2 * k + 3) S (fun vs H Q E q => ?_) (fun cdv A outer s H vs Q E hr q => ?_)
    · obtain ⟨m, s, ds, _, r, e, _⟩ := q
      rw [r.length, e, hl]
    · have x := xok_body (c := c) (k := k) (N := d.N) (scope := fn.scope) (qual := fn.qual) (f := He.fAd K d.at_) (cdv := cdv) (A := A) (outer := outer) (s := s) (H := H) (E := E) ko hnd S.nd hr fun d hd => let ⟨fd, a, b, c, e, _⟩ := ih d hd; ⟨fd, a, b, c, e⟩
      refine ⟨_, sSs d.body x rfl rfl ch, ?_⟩
      obtain ⟨m, st, ds, sok, r, e, p⟩ := q
      have hfind : c.ds.find? (fun d' => decide (d'.name = d.name)) = some d := dOf_mem hnd hm
      have ec : callN c.ds c.q0 (k + 1) d.name ds st = runF (c.q k) d.N.length d.body ds st := by
        show (match c.ds.find? (fun d' => decide (d'.name = d.name)) with
          | some d' => if ds.length = d'.nP then runF { c.q0 with c := callN c.ds c.q0 k } d'.N.length d'.body ds st else .bad
          | none => .bad) = _
        rw [hfind]
        show (if ds.length = d.nP then _ else _) = _
        rw [if_pos e]; rfl
      rw [ec] at p
      unfold runF at p
      refine ⟨m, _, st, rst_start sok r, ?_⟩
      show PostS w K (fun cls d _ H => E cls d H) none m H _ (runSs (c.q k) d.body (ds.map some ++ List.replicate (d.N.length - ds.length) none) st)
      cases er : runSs (c.q k) d.body (ds.map some ++ List.replicate (d.N.length - ds.length) none) st with
      | nx ρ s' => rw [er] at p; exact fun m' σ' H' ex R' => p m' .non H' ex R'.st .non fun z => by cases z
      | rt d' s' => rw [er] at p; exact p
      | bk ρ s' => rw [er] at p; exact p.elim
      | ct ρ s' => rw [er] at p; exact p.elim
      | exc C fs ρ s' => rw [er] at p; exact fun m' σ' H' dx ex R' xa => p m' H' dx ex R'.st xa
      | bad => rw [er] at p; exact p.elim
end
end DI

set_option Elab.async false
set_option linter.all false
set_option maxRecDepth 100000
set_option maxHeartbeats 4000000
/-! DI 19: a law. -/
namespace DI
open PySem PySem.Spec PyProof.Rows L2
theorem law_facts {c : Cfg} {K : PySem.W.Frag} {P : Program} {w : World} {h : Heap} {mg : Str → Option Value} {f : Addr} {k : Nat} {x : Str} {d : Df} (s : SaysX c K) (X : K.In h) (G : h.Ns mainGlobals mg) (hi : InitsOk c.inis) (hd : DefsOk c.G c.ds c.fns) (hnd : (c.ds.map fun d : Df => d.name).Nodup)
    (hm : d ∈ c.ds) (hcl : d.cls = none) (hN : d.N.take d.nP = [x]) (hfa : mg d.name = some (.ref f)) :
    ∃ fd : FuncData, (∀ (s : Shared) (v : Value), BindsTo s fd ⟨[v], []⟩ [(x, v)]) ∧ ∀ base : Heap, K.In base → base.Ns mainGlobals mg → FnOk P w K mg base (L2.CX P w) (2 * k + 2) f fd [x] (spF w K 1 (callN c.ds c.q0 k d.name)) := by
  have go := fun base : Heap => fns_ok (P := P) (w := w) (base := base) s X G (kok_of s X G hi) hd hnd k d hm
  obtain ⟨fd, _, _, _, hl, oc, od, osl, lk⟩ := go h
  have hg := (kok_of (P := P) (w := w) (base := h) s X G hi).glo d hm hcl
  have ef : f = He.ga K d.name := by
    rw [hfa] at hg
    cases hg; rfl
  subst ef
  have hn : d.nP = 1 := by rw [← hl, hN]; rfl
  have ea := at_none K hcl
  rw [ea] at lk
  obtain ⟨fn, hfn, b, hb⟩ := hd.get hm
  obtain ⟨b1, b⟩ := ba b
  obtain ⟨b2, b⟩ := ba b
  obtain ⟨b3, b⟩ := ba b
  obtain ⟨fd2, F⟩ := s.def0 (d := fn) (List.mem_append_left _ hfn) b2 b3
  rw [of_decide_eq_true b1, ea] at F
  have e2 : fd2 = fd := by
    obtain ⟨oc2, od2, _, _, _, _, _, _, _, osl2, _, lk2, _⟩ := F.ex
    have lk2 : K.lookup (He.ga K d.name) = _ := lk2
    rw [lk] at lk2
    cases lk2; rfl
  subst e2
  rw [hN] at hb
  refine ⟨fd2, fun s v => F.bindsA (ps := [x]) hb s [v] rfl, fun base _ _ => ?_⟩
  obtain ⟨fd3, F3, _, _, _, oc3, od3, osl3, lk3⟩ := go base
  rw [ea] at lk3 F3
  rw [lk] at lk3
  cases lk3
  rw [hN, hn] at F3
  exact F3
theorem law_sp {w : World} {K : PySem.W.Frag} {H : Hp} {a : Addr} {ns : List Int} {f : List D → S → R D} (hO : Only H) (hS : SqL K H a (ns.map V.int)) (hf : ∃ s', f [.rol (ns.map .int)] [] = .ok (.bl true) s') : spF w K 1 f [.ref a] H (fun v _ => v = .bl true) fun _ _ _ => False := by
  have hr : RolAt K [] H a (ns.map V.int) := by
    rcases hS with (h | h) | h
    · rcases hO a with z | ⟨o, xs, z⟩ <;> rw [z] at h <;> cases h
    · exact .inl ⟨h, by simp⟩
    · exact .inr h
  have ri : ∀ ns : List Int, Rps w K [] H (ns.map D.int) (ns.map V.int) := by
    intro ns
    induction ns with
    | nil => exact .nil
    | cons n ns ih => exact .cons rfl (.int n) ih
  refine ⟨[], [], [.rol (ns.map .int)], ⟨rfl, List.nodup_nil, fun i o e => by cases e⟩, .cons rfl (.rol hr (ri ns)) .nil, rfl, ?_⟩
  obtain ⟨s', e⟩ := hf
  rw [e]
  intro m' v H' _ _ r _
  cases r; rfl
/-- the goal behind the head -/
theorem walkX {l : PySem.W.OpenLaw} {n k : Nat} {q : Program} {loose : List Str} {XP : (Str → Option Value) → Heap → Prop} {d : DefRec} {c : Cfg} {nh : Nat} {df : Df} {x : Str}
    (hn : l.most = some n) (hn2 : n ≤ sizeLine) (hdf : d.params.defaults = []) (hr : Room (2 * k + 2) callerA) (hi : InitsOk c.inis) (hd : DefsOk c.G c.ds c.fns) (hnd : (c.ds.map fun d : Df => d.name).Nodup) (hm : df ∈ c.ds) (hcl : df.cls = none) (hN : df.N.take df.nP = [x]) (hname : d.name = df.name)
    (hcall : ∀ ns : List Int, ns.length ≤ n → ∃ s', callN c.ds c.q0 k df.name [.rol (ns.map .int)] [] = .ok (.bl true) s') :
    PySem.W.WalkO q loose XP (hookX nh c).says l.row.toRowW d [] (fun f vs => PySem.call f vs) := by
  refine Att.attach_call hn hdf fun w s₀ s₁ mg mb fa o pm cd doc a vs ns G Y ho hd' hcd hmg hobj hints hlen hg => ?_
  obtain ⟨K, KX, sy⟩ := Y
  rw [hname] at hmg
  obtain ⟨fd, hb, hF⟩ := law_facts (P := l.prog) (w := w) (k := k) (x := x) sy KX G.T.g hi hd hnd hm hcl hN hmg
  exact law_call KX G.T.g G.T.b G.T.builtins G.T.nolimit hg hobj hints (Nat.le_trans hlen hn2) hr hF hb (fun H hO hS => law_sp hO hS (hcall ns hlen)) fun H e s' h => by
    obtain ⟨_, _, _, _, _, _, _, _, _, _, _, _, z⟩ := h
    exact z
end DI

set_option Elab.async false
set_option linter.all false
set_option maxRecDepth 100000
set_option maxHeartbeats 4000000
/-! DI 20: what code over data comes to, by wishes. -/
namespace DI
open PySem L2
/-- what is wanted of an exception -/
abbrev Xt := Str → List (Str × D) → S → Prop
@[irreducible] def Wp {α : Type} (E : Xt) (r : R α) (P : α → S → Prop) : Prop := match r with
  | .ok a s => P a s
  | .exc C fs s => E C fs s
  | .bad => False
structure Kt where
  nx : En → S → Prop
  rt : D → S → Prop := fun _ _ => False
  bk : En → S → Prop := fun _ _ => False
  ct : En → S → Prop := fun _ _ => False
  ex : Str → List (Str × D) → En → S → Prop := fun _ _ _ _ => False
@[irreducible] def Ws (r : RS) (Q : Kt) : Prop := match r with
  | .nx ρ s => Q.nx ρ s
  | .rt d s => Q.rt d s
  | .bk ρ s => Q.bk ρ s
  | .ct ρ s => Q.ct ρ s
  | .exc C fs ρ s => Q.ex C fs ρ s
  | .bad => False
section
variable {α β : Type} {P : α → S → Prop} {s : S} {ρ : En} {q : Rq} {E : Xt}
theorem wp_ok {a : α} : Wp E (.ok a s) P = P a s := by with_unfolding_all rfl
theorem wp_bad : Wp E (.bad : R α) P = False := by with_unfolding_all rfl
theorem wp_bind {r : R α} {f : α → S → R β} {P : β → S → Prop} : Wp E (r.bind f) P = Wp E r fun a s => Wp E (f a s) P := by cases r <;> with_unfolding_all rfl
theorem wp_ite {c : Prop} [Decidable c] {a b : R α} : Wp E (if c then a else b) P = if c then Wp E a P else Wp E b P := by split <;> with_unfolding_all rfl
theorem Wp.imp {r : R α} {P' : α → S → Prop} (h : Wp E r P) (i : ∀ a s, P a s → P' a s) : Wp E r P' := by
  cases r with
  | ok a s => with_unfolding_all exact i a s h
  | exc C fs s => with_unfolding_all exact h
  | bad => with_unfolding_all exact h
theorem Wp.impE {r : R α} {E' : Xt} (h : Wp E r P) (i : ∀ C fs s, E C fs s → E' C fs s) : Wp E' r P := by
  cases r with
  | ok a s => with_unfolding_all exact h
  | exc C fs s => with_unfolding_all exact i C fs s h
  | bad => with_unfolding_all exact h
/-- nothing is raised -/
abbrev E0 : Xt := fun _ _ _ => False
theorem Wp.eq {r : R α} (h : Wp E0 r P) : ∃ a s, r = .ok a s ∧ P a s := by
  cases r with
  | ok a s => with_unfolding_all exact ⟨a, s, rfl, h⟩
  | exc C fs s => with_unfolding_all exact h.elim
  | bad => with_unfolding_all exact h.elim
theorem Wp.up {r : R α} (h : Wp E0 r P) : Wp E r P := h.impE fun _ _ _ z => z.elim
theorem Wp.of {r : R α} {a : α} {s' : S} (h : r = .ok a s') (p : P a s') : Wp E r P := by rw [h]; with_unfolding_all exact p
theorem Wp.ofx {r : R α} {C : Str} {fs : List (Str × D)} {s' : S} (h : r = .exc C fs s') (p : E C fs s') : Wp E r P := by rw [h]; with_unfolding_all exact p
theorem Wp.is {r : R α} {a : α} {s' : S} (h : r = .ok a s') : Wp E r P = P a s' := by rw [h]; with_unfolding_all rfl
theorem wp_exc {C : Str} {fs : List (Str × D)} {s' : S} : Wp E (.exc C fs s' : R α) P = E C fs s' := by with_unfolding_all rfl
theorem Ws.imp {r : RS} {Q Q' : Kt} (h : Ws r Q) (h1 : ∀ ρ s, Q.nx ρ s → Q'.nx ρ s) (h2 : ∀ d s, Q.rt d s → Q'.rt d s) (h3 : ∀ ρ s, Q.bk ρ s → Q'.bk ρ s) (h4 : ∀ ρ s, Q.ct ρ s → Q'.ct ρ s) (h5 : ∀ C fs ρ s, Q.ex C fs ρ s → Q'.ex C fs ρ s) : Ws r Q' := by
  cases r with
  | nx ρ s => with_unfolding_all exact h1 _ _ h
  | rt d s => with_unfolding_all exact h2 _ _ h
  | bk ρ s => with_unfolding_all exact h3 _ _ h
  | ct ρ s => with_unfolding_all exact h4 _ _ h
  | exc C fs ρ s => with_unfolding_all exact h5 _ _ _ _ h
  | bad => with_unfolding_all exact h
/-! ### expressions -/
variable {PD : D → S → Prop} {PL : List D → S → Prop} {PB : Bool → S → Prop} {PO : Option Int → S → Prop} {PI : Its → S → Prop} {PN : En → S → Prop} {Q : Kt}
theorem we_con {d : D} : Wp E (runE q (.con d) ρ s) PD = PD d s := by unfold runE; with_unfolding_all rfl
theorem we_var {i : Nat} {d : D} (h : ρ[i]? = some (some d)) : Wp E (runE q (.var i) ρ s) PD = PD d s := by unfold runE; rw [h]; with_unfolding_all rfl
theorem we_glo {x : Str} {d : D} (h : q.gl x = some d) : Wp E (runE q (.glo x) ρ s) PD = PD d s := by unfold runE; rw [h]; with_unfolding_all rfl
theorem we_bin {o : BOp} {a b : IE} : Wp E (runE q (.bin o a b) ρ s) PD = Wp E (runE q a ρ s) fun x s => Wp E (runE q b ρ s) fun y s => Wp E (binD o x y s) PD := by
  rw [runE, wp_bind]; congr 1; funext x s; rw [wp_bind]
theorem we_neg {a : IE} : Wp E (runE q (.neg a) ρ s) PD = Wp E (runE q a ρ s) fun x s => ∃ i, x = .int i ∧ PD (.int (-i)) s := by
  rw [runE, wp_bind]; congr 1; funext x s
  cases x <;> simp [Wp]
theorem we_cmp {o : COp} {a b : IE} : Wp E (runE q (.cmp o a b) ρ s) PD = Wp E (runE q a ρ s) fun x s => Wp E (runE q b ρ s) fun y s => Wp E (cmpD o x y s) fun k s => PD (.bl k) s := by
  rw [runE, wp_bind]; congr 1; funext x s; rw [wp_bind]; congr 1; funext y s; rw [wp_bind]; with_unfolding_all rfl
theorem we_chain {o o' : COp} {a b c : IE} : Wp E (runE q (.chain o o' a b c) ρ s) PD = Wp E (runE q a ρ s) fun x s => Wp E (runE q b ρ s) fun y s => Wp E (cmpD o x y s) fun k s => if k = true then Wp E (runE q c ρ s) fun z s => Wp E (cmpD o' y z s) fun k s => PD (.bl k) s else PD (.bl false) s := by
  rw [runE, wp_bind]; congr 1; funext x s; rw [wp_bind]; congr 1; funext y s; rw [wp_bind]; congr 1; funext k s; rw [wp_ite, wp_bind]; congr 1; (congr 1; funext z s; rw [wp_bind]; with_unfolding_all rfl); with_unfolding_all rfl
theorem we_and {a b : IE} : Wp E (runE q (.and a b) ρ s) PD = Wp E (runE q a ρ s) fun x s => ∃ k, x = .bl k ∧ if k = true then Wp E (runE q b ρ s) PD else PD (.bl false) s := by
  rw [runE, wp_bind]; congr 1; funext x s
  cases x with
  | bl k => cases k <;> simp [Wp]
  | _ => simp [Wp]
theorem we_or {a b : IE} : Wp E (runE q (.or a b) ρ s) PD = Wp E (runE q a ρ s) fun x s => ∃ k, x = .bl k ∧ if k = true then PD (.bl true) s else Wp E (runE q b ρ s) PD := by
  rw [runE, wp_bind]; congr 1; funext x s
  cases x with
  | bl k => cases k <;> simp [Wp]
  | _ => simp [Wp]
theorem we_not {a : IE} : Wp E (runE q (.not a) ρ s) PD = Wp E (runE q a ρ s) fun x s => ∃ k, x = .bl k ∧ PD (.bl (!k)) s := by
  rw [runE, wp_bind]; congr 1; funext x s
  cases x <;> simp [Wp]
theorem we_ife {t : IT} {a b : IE} : Wp E (runE q (.ife t a b) ρ s) PD = Wp E (runT q t ρ s) fun k s => if k = true then Wp E (runE q a ρ s) PD else Wp E (runE q b ρ s) PD := by
  rw [runE, wp_bind]; congr 1; funext k s; rw [wp_ite]
theorem we_tup {es : List IE} : Wp E (runE q (.tup es) ρ s) PD = Wp E (runEs q es ρ s) fun ds s => ds.length ≤ sizeLine ∧ PD (.tup ds) s := by
  rw [runE, wp_bind]; congr 1; funext ds s; rw [wp_ite, wp_ok, wp_bad]; by_cases h : ds.length ≤ sizeLine <;> simp [h]
theorem we_lst {es : List IE} : Wp E (runE q (.lst es) ρ s) PD = Wp E (runEs q es ρ s) fun ds s => ds.length ≤ sizeLine ∧ PD (.lst ds) s := by
  rw [runE, wp_bind]; congr 1; funext ds s; rw [wp_ite, wp_ok, wp_bad]; by_cases h : ds.length ≤ sizeLine <;> simp [h]
theorem we_ix {a b : IE} : Wp E (runE q (.ix a b) ρ s) PD = Wp E (runE q a ρ s) fun x s => Wp E (runE q b ρ s) fun y s => Wp E (ixD x y s) PD := by
  rw [runE, wp_bind]; congr 1; funext x s; rw [wp_bind]
theorem we_sl {a : IE} {l h : Option IE} : Wp E (runE q (.sl a l h) ρ s) PD = Wp E (runE q a ρ s) fun x s => Wp E (runO q l ρ s) fun l s => Wp E (runO q h ρ s) fun h s => Wp E (slD x l h s) PD := by
  rw [runE, wp_bind]; congr 1; funext x s; rw [wp_bind]; congr 1; funext y s; rw [wp_bind]
theorem we_rev {a : IE} : Wp E (runE q (.rev a) ρ s) PD = Wp E (runE q a ρ s) fun x s => Wp E (revD x s) PD := by rw [runE, wp_bind]
theorem we_revt {xs : List D} : Wp E (revD (.tup xs) s) PD = PD (.tup xs.reverse) s := by with_unfolding_all rfl
theorem we_call {f : Str} {es : List IE} : Wp E (runE q (.call f es) ρ s) PD = Wp E (runEs q es ρ s) fun ds s => Wp E (q.c f ds s) PD := by rw [runE, wp_bind]
theorem we_blt {b : Blt} {es : List IE} : Wp E (runE q (.blt b es) ρ s) PD = Wp E (runEr q es ρ s) fun ds s => Wp E (bltD b ds s) PD := by rw [runE, wp_bind]
theorem we_isi {a : IE} {t : Ty} : Wp E (runE q (.isi a t) ρ s) PD = Wp E (runE q a ρ s) fun d s => ∃ k, isT d t s = some k ∧ PD (.bl k) s := by
  rw [runE, wp_bind]; congr 1; funext x s
  cases h : isT x t s <;> simp [Wp]
theorem we_app {o e : IE} : Wp E (runE q (.mth .append o [e]) ρ s) PD = Wp E (runE q o ρ s) fun d s => (d.mutOf s).isSome = true ∧ Wp E (runEs q [e] ρ s) fun ds s => Wp E (mthD .append d ds s) PD := by
  rw [runE, wp_bind]; congr 1; funext x s; rw [wp_ite, wp_bind, wp_bad]; by_cases h : (x.mutOf s).isSome = true <;> simp [h]
/-- a comprehension's turn -/
def turnD (q : Rq) (own : List (Str × Nat)) (elt : IE) (g : IG) (t : Option IT) (ρ : En) : D → S → R (Option D) := fun x s => (runG q g x (wip ρ (own.map (·.2))) s).bind fun ρ' s => (runTo q t ρ' s).bind fun k s => if k = true then ((runE q elt ρ' s).bind setl).bind fun d s => .ok (some d) s else .ok none s
theorem we_lc {own : List (Str × Nat)} {elt : IE} {g : IG} {it : II} {t : Option IT} : Wp E (runE q (.lc own elt g it t) ρ s) PD = Wp E (runI q it ρ s) fun I s => Wp E (lcL (turnD q own elt g t ρ) I.ok I.xs [] s) PD := by rw [runE, wp_bind]; with_unfolding_all rfl
theorem wt_turn {own : List (Str × Nat)} {elt : IE} {g : IG} {t : Option IT} {x : D} {P : Option D → S → Prop} : Wp E (turnD q own elt g t ρ x s) P = Wp E (runG q g x (wip ρ (own.map (·.2))) s) fun ρ' s => Wp E (runTo q t ρ' s) fun k s => if k = true then Wp E (runE q elt ρ' s) fun d s => Wp E (setl d s) fun d s => P (some d) s else P none s := by
  unfold turnD
  rw [wp_bind]; congr 1; funext ρ' s; rw [wp_bind]; congr 1; funext k s; rw [wp_ite, wp_bind, wp_bind]; with_unfolding_all rfl
theorem wa_nil : Wp E (runEs q [] ρ s) PL = PL [] s := by rw [runEs]; with_unfolding_all rfl
theorem wa_cons {e : IE} {es : List IE} : Wp E (runEs q (e :: es) ρ s) PL = Wp E (runE q e ρ s) fun d s => Wp E (setl d s) fun d s => Wp E (runEs q es ρ s) fun ds s => PL (d :: ds) s := by
  rw [runEs, wp_bind, wp_bind]; congr 1; funext d s; congr 1; funext d s; rw [wp_bind]; with_unfolding_all rfl
theorem wr_nil : Wp E (runEr q [] ρ s) PL = PL [] s := by rw [runEr]; with_unfolding_all rfl
theorem wr_cons {e : IE} {es : List IE} : Wp E (runEr q (e :: es) ρ s) PL = Wp E (runE q e ρ s) fun d s => Wp E (runEr q es ρ s) fun ds s => PL (d :: ds) s := by
  rw [runEr, wp_bind]; congr 1; funext d s; rw [wp_bind]; with_unfolding_all rfl
theorem wo_none : Wp E (runO q none ρ s) PO = PO none s := by rw [runO]; with_unfolding_all rfl
theorem wo_some {e : IE} : Wp E (runO q (some e) ρ s) PO = Wp E (runE q e ρ s) fun d s => ∃ i, d = .int i ∧ PO (some i) s := by
  rw [runO, wp_bind]; congr 1; funext x s
  cases x <;> simp [Wp]
theorem wto_none : Wp E (runTo q none ρ s) PB = PB true s := by rw [runTo]; with_unfolding_all rfl
theorem wto_some {t : IT} : Wp E (runTo q (some t) ρ s) PB = Wp E (runT q t ρ s) PB := by rw [runTo]
theorem wt_and {a b : IT} : Wp E (runT q (.and a b) ρ s) PB = Wp E (runT q a ρ s) fun k s => if k = true then Wp E (runT q b ρ s) PB else PB false s := by
  rw [runT, wp_bind]; congr 1; funext k s; rw [wp_ite]; with_unfolding_all rfl
theorem wt_or {a b : IT} : Wp E (runT q (.or a b) ρ s) PB = Wp E (runT q a ρ s) fun k s => if k = true then PB true s else Wp E (runT q b ρ s) PB := by
  rw [runT, wp_bind]; congr 1; funext k s; rw [wp_ite]; with_unfolding_all rfl
theorem wt_not {a : IT} : Wp E (runT q (.not a) ρ s) PB = Wp E (runT q a ρ s) fun k s => PB (!k) s := by rw [runT, wp_bind]; with_unfolding_all rfl
theorem wt_cmp {o : COp} {a b : IE} : Wp E (runT q (.cmp o a b) ρ s) PB = Wp E (runE q a ρ s) fun x s => Wp E (runE q b ρ s) fun y s => Wp E (cmpD o x y s) PB := by
  rw [runT, wp_bind]; congr 1; funext x s; rw [wp_bind]
theorem wt_chain {o o' : COp} {a b c : IE} : Wp E (runT q (.chain o o' a b c) ρ s) PB = Wp E (runE q a ρ s) fun x s => Wp E (runE q b ρ s) fun y s => Wp E (cmpD o x y s) fun k s => if k = true then Wp E (runE q c ρ s) fun z s => Wp E (cmpD o' y z s) PB else PB false s := by
  rw [runT, wp_bind]; congr 1; funext x s; rw [wp_bind]; congr 1; funext y s; rw [wp_bind]; congr 1; funext k s; rw [wp_ite, wp_bind]; with_unfolding_all rfl
theorem wt_tru {a : IE} : Wp E (runT q (.tru a) ρ s) PB = Wp E (runE q a ρ s) fun d s => ∃ k, d = .bl k ∧ PB k s := by
  rw [runT, wp_bind]; congr 1; funext x s
  cases x <;> simp [Wp, truD]
theorem wi_seq {a : IE} : Wp E (runI q (.seq a) ρ s) PI = Wp E (runE q a ρ s) fun d s => Wp E (seqI d s) PI := by rw [runI, wp_bind]
theorem wi_range {es : List IE} : Wp E (runI q (.range es) ρ s) PI = Wp E (runEr q es ρ s) fun ds s => Wp E (rngI ds s) PI := by rw [runI, wp_bind]
theorem wi_enum {a : IE} : Wp E (runI q (.enum a) ρ s) PI = Wp E (runE q a ρ s) fun d s => Wp E (enumI d s) PI := by rw [runI, wp_bind]
theorem wg_nm {i : Nat} {d : D} : Wp E (runG q (.nm i) d ρ s) PN = Wp E (setl d s) fun d s => (i < ρ.length ∧ hdOk q.hd i = true) ∧ PN (ρ.set i (some d)) s := by
  rw [runG, wp_bind]; congr 1; funext d s; rw [wp_ite, wp_ok, wp_bad]; by_cases h : i < ρ.length ∧ hdOk q.hd i = true <;> simp [h]
theorem wg_tup {gs : List IG} {ds : List D} : Wp E (runG q (.tup gs) (.tup ds) ρ s) PN = Wp E (runGs q gs ds ρ s) PN := by rw [runG]
theorem wg_nil : Wp E (runGs q [] [] ρ s) PN = PN ρ s := by rw [runGs]; with_unfolding_all rfl
theorem wg_cons {g : IG} {gs : List IG} {d : D} {ds : List D} : Wp E (runGs q (g :: gs) (d :: ds) ρ s) PN = Wp E (runG q g d ρ s) fun ρ s => Wp E (runGs q gs ds ρ s) PN := by rw [runGs, wp_bind]
theorem wp_nox {r : R α} : Wp E r.nox P = Wp E0 r P := by cases r <;> with_unfolding_all rfl
theorem wg_sub {o i : IE} {d : D} : Wp E (runG q (.sub o i) d ρ s) PN = Wp E (setl d s) fun d s => Wp E0 (runE q o ρ s) fun x s => Wp E0 (runE q i ρ s) fun y s => ∃ s', subD x y d s = some s' ∧ PN ρ s' := by
  rw [runG, wp_bind]; congr 1; funext d s; rw [wp_bind, wp_nox]; congr 1; funext x s; rw [wp_bind, wp_nox]; congr 1; funext y s
  cases h : subD x y d s <;> simp [Wp]
/-! ### statements -/
theorem ws_nil : Ws (runSs q [] ρ s) Q = Q.nx ρ s := by rw [runSs]; with_unfolding_all rfl
theorem ws_cons {st : IS} {r : List IS} : Ws (runSs q (st :: r) ρ s) Q = Ws (runS q st ρ s) { Q with nx := fun ρ s => Ws (runSs q r ρ s) Q } := by
  rw [runSs]; cases h : runS q st ρ s <;> with_unfolding_all rfl
/-- what a statement wants of an exception -/
def Kt.xt (Q : Kt) (ρ : En) : Xt := fun C fs s => Q.ex C fs ρ s
theorem Wp.thn {r : R α} {f : α → S → RS} (h : Wp (Q.xt ρ) r fun a s => Ws (f a s) Q) : Ws (r.thn ρ f) Q := by
  cases r with
  | ok a s => with_unfolding_all exact h
  | exc C fs s => with_unfolding_all exact h
  | bad => with_unfolding_all exact h.elim
theorem ws_asg {g : IG} {e : IE} (h : Wp (Q.xt ρ) (runE q e ρ s) fun d s => Wp E0 (runG q g d ρ s) fun ρ s => Q.nx ρ s) : Ws (runS q (.asg g e) ρ s) Q := by
  rw [runS]
  refine Wp.thn (h.imp fun d s h => Wp.thn ?_)
  rw [wp_nox]; with_unfolding_all exact h
theorem ws_aug {i : Nat} {o : BOp} {e : IE} {x : D} (hx : ρ[i]? = some (some x)) (h : Wp (Q.xt ρ) (runE q e ρ s) fun y s => hdOk q.hd i = true ∧ Wp (Q.xt ρ) (augD o x y s) fun z s => Q.nx (ρ.set i (some z)) s) : Ws (runS q (.aug i o e) ρ s) Q := by
  rw [runS, hx]
  refine Wp.thn (h.imp fun d s h => ?_)
  rw [if_pos h.1]
  with_unfolding_all exact Wp.thn h.2
theorem ws_par {is : List Nat} {es : List IE} (h : Wp (Q.xt ρ) (runEs q es ρ s) fun ds s => (is.length = ds.length ∧ (is.all fun i => hdOk q.hd i && decide (i < ρ.length)) = true) ∧ Q.nx (setPar is ds ρ) s) : Ws (runS q (.par is es) ρ s) Q := by
  rw [runS]
  refine Wp.thn (h.imp fun d s h => ?_)
  rw [if_pos h.1]
  with_unfolding_all exact h.2
theorem ws_expr {e : IE} (h : Wp (Q.xt ρ) (runE q e ρ s) fun _ s => Q.nx ρ s) : Ws (runS q (.expr e) ρ s) Q := by rw [runS]; with_unfolding_all exact Wp.thn h
theorem ws_ret0 (h : Q.rt .non s) : Ws (runS q (.ret none) ρ s) Q := by rw [runS]; with_unfolding_all exact h
theorem ws_ret {e : IE} (h : Wp (Q.xt ρ) (runE q e ρ s) fun d s => Q.rt d s) : Ws (runS q (.ret (some e)) ρ s) Q := by rw [runS]; with_unfolding_all exact Wp.thn h
theorem ws_fst {o e : IE} {f : Str} (h : Wp (Q.xt ρ) (runE q e ρ s) fun d s => Wp (Q.xt ρ) (setl d s) fun d s => Wp (Q.xt ρ) (runE q o ρ s) fun x s => ∃ s', putFl q x f d s = some s' ∧ Q.nx ρ s') : Ws (runS q (.fst o f e) ρ s) Q := by
  rw [runS]
  refine Wp.thn ?_
  rw [wp_bind]
  refine h.imp fun d s h => h.imp fun d s h => Wp.thn (h.imp fun x s h => ?_)
  obtain ⟨s', e1, h⟩ := h
  rw [e1]; with_unfolding_all exact h
theorem ws_raise {C : Str} {fl : List Str} {es : List IE} (hx : q.ex C = some fl) (h : Wp (Q.xt ρ) (runEs q es ρ s) fun ds s => ds.length = fl.length ∧ Q.ex C (fl.zip ds).reverse ρ s) : Ws (runS q (.raise C es) ρ s) Q := by
  rw [runS, hx]
  refine Wp.thn (h.imp fun d s h => ?_)
  rw [if_pos h.1]
  with_unfolding_all exact h.2
theorem ws_tr {body : List IS} {hs : List (Str × Option Nat × List IS)} (h : Ws (runSs q body ρ s) { Q with ex := fun C fs ρ s => Ws (runHs q C fs hs ρ s) Q }) : Ws (runS q (.tr body hs) ρ s) Q := by
  rw [runS]
  cases e : runSs q body ρ s with
  | nx ρ s => rw [e] at h; with_unfolding_all exact h
  | rt d s => rw [e] at h; with_unfolding_all exact h
  | bk ρ s => rw [e] at h; with_unfolding_all exact h
  | ct ρ s => rw [e] at h; with_unfolding_all exact h
  | exc C fs ρ s => rw [e] at h; with_unfolding_all exact h
  | bad => rw [e] at h; with_unfolding_all exact h
theorem wh_nil {C : Str} {fs : List (Str × D)} : Ws (runHs q C fs [] ρ s) Q = Q.ex C fs ρ s := by rw [runHs]; with_unfolding_all rfl
theorem wh_no {C k : Str} {fs : List (Str × D)} {i : Option Nat} {body : List IS} {r : List (Str × Option Nat × List IS)} (h : q.isx C k = some false) : Ws (runHs q C fs ((k, i, body) :: r) ρ s) Q = Ws (runHs q C fs r ρ s) Q := by
  have e : runHs q C fs ((k, i, body) :: r) ρ s = runHs q C fs r ρ s := by
    conv => lhs; unfold runHs
    rw [h]
  rw [e]
/-- a suite's end -/
def Kt.su (Q : Kt) (i : Nat) : Kt := { nx := fun ρ s => Q.nx (ρ.set i none) s, rt := Q.rt, bk := fun ρ s => Q.bk (ρ.set i none) s, ct := fun ρ s => Q.ct (ρ.set i none) s }
theorem wh_as {C k : Str} {fs : List (Str × D)} {i : Nat} {body : List IS} {r : List (Str × Option Nat × List IS)} (h : q.isx C k = some true) (hi : i < ρ.length) (hw : Ws (runSs { q with hd := some (i, C, fs) } body (ρ.set i none) s) (Q.su i)) : Ws (runHs q C fs ((k, some i, body) :: r) ρ s) Q := by
  rw [runHs, h]
  dsimp only
  rw [if_pos hi]
  cases e : runSs { q with hd := some (i, C, fs) } body (ρ.set i none) s <;> rw [e] at hw <;> with_unfolding_all exact hw
theorem wh_yes {C k : Str} {fs : List (Str × D)} {body : List IS} {r : List (Str × Option Nat × List IS)} (h : q.isx C k = some true) (hw : Ws (runSs { q with hd := none } body ρ s) { nx := Q.nx, rt := Q.rt, bk := Q.bk, ct := Q.ct }) : Ws (runHs q C fs ((k, none, body) :: r) ρ s) Q := by
  rw [runHs, h]
  dsimp only
  cases e : runSs { q with hd := none } body ρ s <;> rw [e] at hw <;> with_unfolding_all exact hw
theorem ws_ife {t : IT} {a b : List IS} (h : Wp (Q.xt ρ) (runT q t ρ s) fun k s => if k = true then Ws (runSs q a ρ s) Q else Ws (runSs q b ρ s) Q) : Ws (runS q (.ife t a b) ρ s) Q := by
  rw [runS]; refine Wp.thn (h.imp fun k s h => ?_)
  split at h
  · rename_i e; rw [if_pos e]; with_unfolding_all exact h
  · rename_i e; rw [if_neg e]; with_unfolding_all exact h
theorem ws_if1 {t : IT} {a b : List IS} (h : Wp E0 (runT q t ρ s) fun k s' => k = true ∧ s' = s) (k : Ws (runSs q a ρ s) Q) : Ws (runS q (.ife t a b) ρ s) Q := ws_ife (h.up.imp fun k' s' z => by rw [if_pos z.1, z.2]; with_unfolding_all exact k)
theorem ws_if0 {t : IT} {a b : List IS} (h : Wp E0 (runT q t ρ s) fun k s' => k = false ∧ s' = s) (k : Ws (runSs q b ρ s) Q) : Ws (runS q (.ife t a b) ρ s) Q := ws_ife (h.up.imp fun k' s' z => by rw [if_neg (by rw [z.1]; with_unfolding_all exact Bool.false_ne_true), z.2]; with_unfolding_all exact k)
/-- a test that does not hold, nothing else -/
theorem ws_skip {t : IT} {a : List IS} {r : List IS} (h : Wp E0 (runT q t ρ s) fun k s' => k = false ∧ s' = s) (k : Ws (runSs q r ρ s) Q) : Ws (runSs q (.ife t a [] :: r) ρ s) Q := by
  rw [ws_cons]
  refine ws_if0 h ?_
  rw [ws_nil]; with_unfolding_all exact k
/-- a test that holds, its suite does not go on -/
theorem ws_take {t : IT} {a b : List IS} {r : List IS} (h : Wp E0 (runT q t ρ s) fun k s' => k = true ∧ s' = s) (k : Ws (runSs q a ρ s) { Q with nx := fun ρ s => Ws (runSs q r ρ s) Q }) : Ws (runSs q (.ife t a b :: r) ρ s) Q := by
  rw [ws_cons]
  with_unfolding_all exact ws_if1 h k
theorem ws_1 {st : IS} (h : Ws (runS q st ρ s) Q) : Ws (runSs q [st] ρ s) Q := by
  rw [ws_cons]
  with_unfolding_all exact h.imp (fun ρ s m => by show Ws (runSs q [] ρ s) Q; rw [ws_nil]; with_unfolding_all exact m) (fun _ _ z => z) (fun _ _ z => z) (fun _ _ z => z) (fun _ _ _ _ z => z)
theorem ws_rets {e : IE} {r : List IS} (h : Wp (Q.xt ρ) (runE q e ρ s) fun d s => Q.rt d s) : Ws (runSs q (.ret (some e) :: r) ρ s) Q := by
  rw [ws_cons]; with_unfolding_all exact ws_ret h
theorem ws_asgs {g : IG} {e : IE} {r : List IS} (h : Wp (Q.xt ρ) (runE q e ρ s) fun d s => Wp E0 (runG q g d ρ s) fun ρ s => Ws (runSs q r ρ s) Q) : Ws (runSs q (.asg g e :: r) ρ s) Q := by
  rw [ws_cons]; with_unfolding_all exact ws_asg h
/-- a for: Inv holds of what is walked, ahead of each turn -/
theorem ws_fo {g : IG} {it : II} {body : List IS} (h : Wp (Q.xt ρ) (runI q it ρ s) fun I s => ∃ Inv : List D → En → S → Prop, Inv I.xs ρ s ∧ (∀ ρ s, Inv [] ρ s → I.ok s = true ∧ Q.nx ρ s) ∧
    ∀ x xs ρ s, Inv (x :: xs) ρ s → I.ok s = true ∧ Wp E0 (runG q g x ρ s) fun ρ s => Ws (runSs q body ρ s) { nx := fun ρ s => Inv xs ρ s, rt := Q.rt, bk := Q.nx, ct := fun ρ s => Inv xs ρ s, ex := Q.ex }) : Ws (runS q (.fo g it body) ρ s) Q := by
  rw [runS]
  refine Wp.thn (h.imp fun I s h => ?_)
  obtain ⟨Inv, h0, he, hs⟩ := h
  have key : ∀ xs ρ s, Inv xs ρ s → Ws (foL (fun x ρ s => runG q g x ρ s) (fun ρ s => runSs q body ρ s) I.ok xs ρ s) Q := by
    intro xs
    induction xs with
    | nil =>
      intro ρ s h
      unfold foL
      obtain ⟨a, b⟩ := he ρ s h
      rw [if_pos a]; with_unfolding_all exact b
    | cons x xs ih =>
      intro ρ s h
      unfold foL
      obtain ⟨a, b⟩ := hs x xs ρ s h
      rw [if_pos a]
      obtain ⟨ρ', s', e, b⟩ := b.eq
      simp only [e]
      cases eb : runSs q body ρ' s' with
      | nx ρ s => rw [eb] at b; with_unfolding_all exact ih ρ s b
      | ct ρ s => rw [eb] at b; with_unfolding_all exact ih ρ s b
      | bk ρ s => rw [eb] at b; with_unfolding_all exact b
      | rt d s => rw [eb] at b; with_unfolding_all exact b
      | exc C fs ρ s => rw [eb] at b; with_unfolding_all exact b
      | bad => rw [eb] at b; with_unfolding_all exact b
  with_unfolding_all exact key _ _ _ h0
/-- a comprehension: Inv holds of what is walked and what was gathered -/
theorem wl_inv {turn : D → S → R (Option D)} {ok : S → Bool} {xs : List D} (Inv : List D → List D → S → Prop) (h0 : Inv xs [] s) (he : ∀ acc s, Inv [] acc s → ok s = true ∧ PD (.lst acc) s)
    (hs : ∀ x xs acc s, Inv (x :: xs) acc s → ok s = true ∧ Wp E0 (turn x s) fun o s => match o with
      | some d => acc.length < sizeLine ∧ Inv xs (acc ++ [d]) s
      | none => Inv xs acc s) : Wp E (lcL turn ok xs [] s) PD := by
  have key : ∀ xs acc s, Inv xs acc s → Wp E (lcL turn ok xs acc s) PD := by
    intro xs
    induction xs with
    | nil =>
      intro acc s h
      unfold lcL
      obtain ⟨a, b⟩ := he acc s h
      rw [if_pos a]; with_unfolding_all exact b
    | cons x xs ih =>
      intro acc s h
      unfold lcL
      obtain ⟨a, b⟩ := hs x xs acc s h
      rw [if_pos a]
      obtain ⟨o, s', e, b⟩ := b.eq
      simp only [e]
      cases o with
      | none => with_unfolding_all exact ih acc s' b
      | some d =>
        dsimp only
        rw [if_pos b.1]
        with_unfolding_all exact ih _ _ b.2
  with_unfolding_all exact key _ _ _ h0
/-- whose turns leave the store -/
theorem wl_pure {turn : D → S → R (Option D)} {ok : S → Bool} {xs : List D} (f : D → Option D) (hok : ok s = true) (hl : xs.length ≤ sizeLine) (h : ∀ x ∈ xs, Wp E0 (turn x s) fun o s' => o = f x ∧ s' = s) (hp : PD (.lst (xs.filterMap f)) s) : Wp E (lcL turn ok xs [] s) PD := by
  refine wl_inv (fun r acc s' => s' = s ∧ (∃ pre, xs = pre ++ r ∧ acc = pre.filterMap f)) ⟨rfl, [], rfl, rfl⟩ ?_ ?_
  · rintro acc s' ⟨rfl, pre, e1, rfl⟩
    rw [List.append_nil] at e1
    subst e1
    with_unfolding_all exact ⟨hok, hp⟩
  · rintro x r acc s' ⟨rfl, pre, e1, rfl⟩
    refine ⟨hok, (h x (by rw [e1]; simp)).imp ?_⟩
    rintro o s'' ⟨rfl, rfl⟩
    cases e : f x with
    | none => with_unfolding_all exact ⟨rfl, pre ++ [x], by rw [e1]; simp, by simp [e]⟩
    | some d =>
      have l1 : (pre.filterMap f).length ≤ pre.length := List.length_filterMap_le _ _
      have l2 : pre.length < xs.length := by rw [e1]; simp
      with_unfolding_all exact ⟨by omega, rfl, pre ++ [x], by rw [e1]; simp, by simp [e]⟩
theorem wl_map {turn : D → S → R (Option D)} {ok : S → Bool} {xs : List D} (f : D → D) (hok : ok s = true) (hl : xs.length ≤ sizeLine) (h : ∀ x ∈ xs, Wp E0 (turn x s) fun o s' => o = some (f x) ∧ s' = s) (hp : PD (.lst (xs.map f)) s) : Wp E (lcL turn ok xs [] s) PD :=
  wl_pure (fun x => some (f x)) hok hl h (by rw [List.filterMap_eq_map']; with_unfolding_all exact hp)
/-- a def's body -/
theorem wf_run {n : Nat} {body : List IS} {ds : List D} (h : Ws (runSs q body (ds.map some ++ List.replicate (n - ds.length) none) s) { nx := fun _ s => PD .non s, rt := PD, ex := fun C fs _ s => E C fs s }) : Wp E (runF q n body ds s) PD := by
  unfold runF
  cases e : runSs q body (ds.map some ++ List.replicate (n - ds.length) none) s with
  | nx ρ s => rw [e] at h; with_unfolding_all exact h
  | rt d s => rw [e] at h; with_unfolding_all exact h
  | bk ρ s => rw [e] at h; with_unfolding_all exact h
  | ct ρ s => rw [e] at h; with_unfolding_all exact h
  | exc C fs ρ s => rw [e] at h; with_unfolding_all exact h
  | bad => rw [e] at h; with_unfolding_all exact h
theorem we_varm {i : Nat} : Wp E (runE q (.var i) ρ s) PD = (match ρ[i]? with
  | some (some d) => PD d s
  | _ => False) := by
  unfold runE
  split <;> simp_all [Wp]
theorem we_glom {x : Str} : Wp E (runE q (.glo x) ρ s) PD = (match q.gl x with
  | some d => PD d s
  | _ => False) := by
  unfold runE
  split <;> simp_all [Wp]
/-! ### on numbers -/
variable {i j : Int}
theorem wb_add : Wp E (binD .add (.int i) (.int j) s) PD = PD (.int (i + j)) s := by with_unfolding_all rfl
theorem wb_sub : Wp E (binD .sub (.int i) (.int j) s) PD = PD (.int (i - j)) s := by with_unfolding_all rfl
theorem wb_mul : Wp E (binD .mul (.int i) (.int j) s) PD = (((-(2 ^ 64) < i ∧ i < 2 ^ 64) ∨ (-(2 ^ 64) < j ∧ j < 2 ^ 64)) ∧ PD (.int (i * j)) s) := by
  show Wp E (if (-(2 ^ 64) < i ∧ i < 2 ^ 64) ∨ (-(2 ^ 64) < j ∧ j < 2 ^ 64) then .ok (.int (i * j)) s else .bad) PD = _
  rw [wp_ite, wp_ok, wp_bad]; by_cases h : (-(2 ^ 64) < i ∧ i < 2 ^ 64) ∨ (-(2 ^ 64) < j ∧ j < 2 ^ 64) <;> simp [h]
theorem wb_fdiv : Wp E (binD .fdiv (.int i) (.int j) s) PD = ((j ≠ 0 ∧ j.natAbs < 1073741824) ∧ PD (.int (i.fdiv j)) s) := by
  show Wp E (if j ≠ 0 ∧ j.natAbs < 1073741824 then .ok (.int (i.fdiv j)) s else .bad) PD = _
  rw [wp_ite, wp_ok, wp_bad]; by_cases h : j ≠ 0 ∧ j.natAbs < 1073741824 <;> simp [h]
theorem wb_mod : Wp E (binD .mod (.int i) (.int j) s) PD = (j ≠ 0 ∧ PD (.int (i.fmod j)) s) := by
  show Wp E (if j ≠ 0 then .ok (.int (i.fmod j)) s else .bad) PD = _
  rw [wp_ite, wp_ok, wp_bad]; by_cases h : j = 0 <;> simp [h]
theorem wb_pow : Wp E (binD .pow (.int i) (.int j) s) PD = ((0 ≤ j ∧ j ≤ 1000000 ∧ i.natAbs < 2 ^ 64) ∧ PD (.int (i ^ j.toNat)) s) := by
  show Wp E (if 0 ≤ j ∧ j ≤ 1000000 ∧ i.natAbs < 2 ^ 64 then .ok (.int (i ^ j.toNat)) s else .bad) PD = _
  rw [wp_ite, wp_ok, wp_bad]; by_cases h : 0 ≤ j ∧ j ≤ 1000000 ∧ i.natAbs < 2 ^ 64 <;> simp [h]
theorem eqD_int : eqD s (.int i) (.int j) = some (decide (i = j)) := by
  unfold eqD
  rw [if_pos (by rfl)]
  congr 1
  with_unfolding_all exact decide_eq_decide.mpr ⟨fun h => by injection h, fun h => by rw [h]⟩
theorem wc_eq : Wp E (cmpD .eq (.int i) (.int j) s) PB = PB (decide (i = j)) s := by
  unfold cmpD cmpO; dsimp only; rw [eqD_int]; with_unfolding_all rfl
theorem wc_ne : Wp E (cmpD .ne (.int i) (.int j) s) PB = PB (!decide (i = j)) s := by
  unfold cmpD cmpO; dsimp only; rw [eqD_int]; with_unfolding_all rfl
theorem wc_lt : Wp E (cmpD .lt (.int i) (.int j) s) PB = PB (decide (i < j)) s := by with_unfolding_all rfl
theorem wc_le : Wp E (cmpD .le (.int i) (.int j) s) PB = PB (decide (i ≤ j)) s := by with_unfolding_all rfl
theorem wc_gt : Wp E (cmpD .gt (.int i) (.int j) s) PB = PB (decide (j < i)) s := by with_unfolding_all rfl
theorem wc_ge : Wp E (cmpD .ge (.int i) (.int j) s) PB = PB (decide (j ≤ i)) s := by with_unfolding_all rfl
theorem wx_int : Wp E (bltD .int [.int i] s) PD = PD (.int i) s := by with_unfolding_all rfl
theorem wz_int : Wp E (setl (.int i) s) PD = PD (.int i) s := by with_unfolding_all rfl
theorem wz_str {x : Str} : Wp E (setl (.str x) s) PD = PD (.str x) s := by with_unfolding_all rfl
theorem wz_bl {x : Bool} : Wp E (setl (.bl x) s) PD = PD (.bl x) s := by with_unfolding_all rfl
theorem wz_non : Wp E (setl .non s) PD = PD .non s := by with_unfolding_all rfl
theorem wz_tup {xs : List D} : Wp E (setl (.tup xs) s) PD = PD (.tup xs) s := by with_unfolding_all rfl
theorem wz_rol {xs : List D} : Wp E (setl (.rol xs) s) PD = PD (.rol xs) s := by with_unfolding_all rfl
theorem wz_ref {r : Nat} : Wp E (setl (.ref r) s) PD = PD (.ref r) s := by with_unfolding_all rfl
theorem wz_lst {xs : List D} : Wp E (setl (.lst xs) s) PD = PD (.ref s.length) (s ++ [.lst xs]) := by with_unfolding_all rfl
theorem wz_shr {d : D} (h : d.shr = true) : Wp E (setl d s) PD = PD d s := by cases d <;> first | with_unfolding_all rfl | cases h
theorem wx_len {r : Nat} {xs : List D} (h : lk s r = some xs) : Wp E (bltD .len [.ref r] s) PD = PD (.int xs.length) s := by
  unfold bltD D.seqOf D.lstOf; dsimp only; rw [h]; with_unfolding_all rfl
theorem wx_lent {xs : List D} : Wp E (bltD .len [.tup xs] s) PD = PD (.int xs.length) s := by with_unfolding_all rfl
theorem wx_lenl {xs : List D} : Wp E (bltD .len [.lst xs] s) PD = PD (.int xs.length) s := by with_unfolding_all rfl
theorem wx_lenr {xs : List D} : Wp E (bltD .len [.rol xs] s) PD = PD (.int xs.length) s := by with_unfolding_all rfl
theorem seq_dic {a : D} {xs : List D} (ha : a.seqOf s = some xs) : a.dicOf s = none := by
  cases a with
  | ref r =>
    have h : lk s r = some xs := ha
    have h := lk_some.mp h
    show dk s r = none
    unfold dk
    rw [h]
  | dic _ _ => cases ha
  | _ => rfl
theorem wix {a d : D} {xs : List D} (ha : a.seqOf s = some xs) (h : atI xs i = some d) : Wp E (ixD a (.int i) s) PD = PD d s := by
  have hd := seq_dic ha
  cases a with
  | str x => cases ha
  | _ => unfold ixD; dsimp only; rw [hd]; dsimp only; rw [ha]; dsimp only; rw [h]; with_unfolding_all rfl
theorem wixr {r : Nat} {d : D} {xs : List D} (ha : lk s r = some xs) (h : atI xs i = some d) : Wp E (ixD (.ref r) (.int i) s) PD = PD d s := wix (a := .ref r) ha h
theorem wsub {r : Nat} {d : D} {xs : List D} {j : Nat} (ha : lk s r = some xs) (h : ixN xs.length i = some j) : subD (.ref r) (.int i) d s = some (s.set r (.lst (xs.set j d))) := by
  unfold subD; dsimp only; rw [ha]; dsimp only; rw [h]
theorem lk_set {r : Nat} {xs : List D} {o : O} (h : lk s r = some xs) : lk (s.set r o) r = (match o with
  | .lst ys => some ys
  | _ => none) := by
  have h := lk_some.mp h
  unfold lk
  rw [List.getElem?_set_self (List.getElem?_eq_some_iff.mp h).1]
  cases o <;> with_unfolding_all rfl
theorem lk_set_ne {r r' : Nat} {o : O} (h : r ≠ r') : lk (s.set r o) r' = lk s r' := by
  unfold lk
  rw [List.getElem?_set_ne h]
theorem lk_new {o : O} : lk (s ++ [o]) s.length = (match o with
  | .lst ys => some ys
  | _ => none) := by
  unfold lk
  rw [List.getElem?_append_right (Nat.le_refl _)]
  simp
  cases o <;> with_unfolding_all rfl
theorem lk_app {t : S} {r : Nat} {xs : List D} (h : lk s r = some xs) : lk (s ++ t) r = some xs := by
  have h := lk_some.mp h
  with_unfolding_all exact lk_some.mpr (by rw [List.getElem?_append_left (List.getElem?_eq_some_iff.mp h).1]; with_unfolding_all exact h)
theorem lk_lt {r : Nat} {xs : List D} (h : lk s r = some xs) : r < s.length := (List.getElem?_eq_some_iff.mp (lk_some.mp h)).1
theorem lk_new1 {xs : List D} : lk (s ++ [.lst xs]) s.length = some xs := lk_new
theorem ws_cut {st : IS} {r : List IS} (M : En → S → Prop) (h : Ws (runS q st ρ s) { Q with nx := M }) (h2 : ∀ ρ s, M ρ s → Ws (runSs q r ρ s) Q) : Ws (runSs q (st :: r) ρ s) Q := by
  rw [ws_cons]
  with_unfolding_all exact h.imp (fun ρ s m => h2 ρ s m) (fun _ _ z => z) (fun _ _ z => z) (fun _ _ z => z) (fun _ _ _ _ z => z)
theorem ite_p {c : Prop} [Decidable c] {A B : Prop} (h1 : c → A) (h2 : ¬ c → B) : if c then A else B := by
  by_cases h : c
  · rw [if_pos h]; with_unfolding_all exact h1 h
  · rw [if_neg h]; with_unfolding_all exact h2 h
theorem ite_b {b : Bool} {A B : Prop} (h1 : b = true → A) (h2 : b = false → B) : if b = true then A else B := by
  cases b
  · rw [if_neg Bool.false_ne_true]; with_unfolding_all exact h2 rfl
  · rw [if_pos rfl]; with_unfolding_all exact h1 rfl
theorem ite_f {A B : Prop} : (if false = true then A else B) = B := if_neg Bool.false_ne_true
theorem ite_tt {A B : Prop} : (if true = true then A else B) = A := if_pos rfl
theorem eqD_bl {a b : Bool} : eqD s (.bl a) (.bl b) = some (decide (a = b)) := by
  unfold eqD
  rw [if_pos (by rfl)]
  congr 1
  with_unfolding_all exact decide_eq_decide.mpr ⟨fun h => by injection h, fun h => by rw [h]⟩
theorem eqD_str {a b : Str} : eqD s (.str a) (.str b) = some (decide (a = b)) := by
  unfold eqD
  rw [if_pos (by rfl)]
  congr 1
  with_unfolding_all exact decide_eq_decide.mpr ⟨fun h => by injection h, fun h => by rw [h]⟩
theorem wc_eqb {a b : Bool} : Wp E (cmpD .eq (.bl a) (.bl b) s) PB = PB (decide (a = b)) s := by
  unfold cmpD cmpO; dsimp only; rw [eqD_bl]; with_unfolding_all rfl
theorem wc_neb {a b : Bool} : Wp E (cmpD .ne (.bl a) (.bl b) s) PB = PB (!decide (a = b)) s := by
  unfold cmpD cmpO; dsimp only; rw [eqD_bl]; with_unfolding_all rfl
theorem wc_eqs {a b : Str} : Wp E (cmpD .eq (.str a) (.str b) s) PB = PB (decide (a = b)) s := by
  unfold cmpD cmpO; dsimp only; rw [eqD_str]; with_unfolding_all rfl
theorem wc_nes {a b : Str} : Wp E (cmpD .ne (.str a) (.str b) s) PB = PB (!decide (a = b)) s := by
  unfold cmpD cmpO; dsimp only; rw [eqD_str]; with_unfolding_all rfl
theorem wri_1 {n : Nat} (h : n < 2 ^ 62) : Wp E (rngI [.int (n : Int)] s) PI = PI ⟨rangeL 0 n 1, fun _ => true⟩ s := by
  have hb : bnd (n : Int) = true := by
    unfold bnd
    rw [decide_eq_true (by omega), decide_eq_true (by omega)]; with_unfolding_all rfl
  unfold rngI
  dsimp only
  rw [if_pos hb]
  with_unfolding_all rfl
theorem rangeL_1 {n : Nat} : rangeL 0 n 1 = (List.range n).map fun (k : Nat) => D.int (k : Int) := by
  unfold rangeL
  with_unfolding_all exact List.map_congr_left fun k _ => by simp
theorem wl_rng {turn : D → S → R (Option D)} {ok : S → Bool} {n : Nat} (g : Nat → Option D) (hok : ok s = true) (hl : n ≤ sizeLine) (h : ∀ k, k < n → Wp E0 (turn (.int (k : Nat)) s) fun o s' => o = g k ∧ s' = s) (hp : PD (.lst ((List.range n).filterMap g)) s) : Wp E (lcL turn ok (rangeL 0 n 1) [] s) PD := by
  rw [rangeL_1]
  refine wl_inv (fun r acc s' => s' = s ∧ ∃ a b, List.range n = a ++ b ∧ r = b.map (fun (k : Nat) => D.int (k : Int)) ∧ acc = a.filterMap g) ⟨rfl, [], _, rfl, rfl, rfl⟩ ?_ ?_
  · rintro acc s' ⟨rfl, a, b, e1, e2, rfl⟩
    have : b = [] := by cases b with
      | nil => with_unfolding_all rfl
      | cons _ _ => cases e2
    subst this
    rw [List.append_nil] at e1
    subst e1
    with_unfolding_all exact ⟨hok, hp⟩
  · rintro x r acc s' ⟨rfl, a, b, e1, e2, rfl⟩
    cases b with
    | nil => cases e2
    | cons k b =>
      rw [List.map_cons] at e2
      cases e2
      have hk : k < n := List.mem_range.mp (by rw [e1]; simp)
      refine ⟨hok, (h k hk).imp ?_⟩
      rintro o s'' ⟨rfl, rfl⟩
      have l3 : a.length < n := by have := congrArg List.length e1; simp at this; omega
      have l1 : (a.filterMap g).length ≤ a.length := List.length_filterMap_le _ _
      cases e : g k with
      | none => with_unfolding_all exact ⟨rfl, a ++ [k], b, by rw [e1]; simp, rfl, by simp [e]⟩
      | some d => with_unfolding_all exact ⟨by omega, rfl, a ++ [k], b, by rw [e1]; simp, rfl, by simp [e]⟩
theorem atI_nat {α : Type} {xs : List α} {n : Nat} {x : α} (h : xs[n]? = some x) : atI xs (n : Int) = some x := by
  have hl := (List.getElem?_eq_some_iff.mp h).1
  unfold atI ixN
  rw [if_pos (Int.natCast_nonneg n), if_pos (by omega)]
  simpa using h
theorem wixt {xs : List D} {d : D} {n : Nat} (h : xs[n]? = some d) : Wp E (ixD (.tup xs) (.int (n : Int)) s) PD = PD d s := wix (a := .tup xs) rfl (atI_nat h)
theorem wixl {xs : List D} {d : D} {n : Nat} (h : xs[n]? = some d) : Wp E (ixD (.lst xs) (.int (n : Int)) s) PD = PD d s := wix (a := .lst xs) rfl (atI_nat h)
end
mutual
theorem same_rfl : ∀ {a : D}, D.same a a = true
  | .non => rfl
  | .bl _ => by unfold D.same; exact beq_self_eq_true _
  | .int _ => by unfold D.same; exact beq_self_eq_true _
  | .str _ => by unfold D.same; exact decide_eq_true rfl
  | .tup xs => by unfold D.same; exact sames_rfl
  | .ref _ => by unfold D.same; exact beq_self_eq_true _
  | .lst xs => by unfold D.same; exact sames_rfl
  | .rol xs => by unfold D.same; exact sames_rfl
  | .ist _ => by unfold D.same; exact beq_self_eq_true _
  | .dic ks xs => by unfold D.same; rw [sames_rfl]; simp
  | .fn _ => by unfold D.same; exact decide_eq_true rfl
theorem sames_rfl : ∀ {a : List D}, D.sames a a = true
  | [] => rfl
  | x :: xs => by unfold D.sames; rw [same_rfl, sames_rfl]; rfl
end
theorem sames_ix : ∀ {xs ys : List D}, xs.length = ys.length → (D.sames xs ys = true ↔ ∀ (k : Nat) (x y : D), xs[k]? = some x → ys[k]? = some y → D.same x y = true)
  | [], [], _ => ⟨fun _ k x y h => (by cases h), fun _ => rfl⟩
  | x :: xs, y :: ys, h => by
    have ih := sames_ix (xs := xs) (ys := ys) (by simpa using h)
    unfold D.sames
    rw [Bool.and_eq_true, ih]
    constructor
    · rintro ⟨h1, h2⟩ k a b ha hb
      cases k with
      | zero => cases ha; cases hb; exact h1
      | succ k => exact h2 k a b (by simpa using ha) (by simpa using hb)
    · intro h
      exact ⟨h 0 x y rfl rfl, fun k a b ha hb => h (k + 1) a b (by simpa using ha) (by simpa using hb)⟩
  | [], _ :: _, h => by cases h
  | _ :: _, [], h => by cases h
/-- plain: no list, no set; tuples of at most n -/
def D.dep : D → Nat
  | .tup xs => D.deps xs + 1
  | _ => 0
where D.deps : List D → Nat
  | [] => 0
  | x :: xs => max x.dep (D.deps xs)
mutual
def D.pl (n : Nat) : D → Bool
  | .non => true
  | .bl _ => true
  | .int _ => true
  | .str _ => true
  | .tup xs => decide (xs.length ≤ n) && D.pls n xs
  | _ => false
def D.pls (n : Nat) : List D → Bool
  | [] => true
  | d :: ds => d.pl n && D.pls n ds
end
theorem pls_mem {n : Nat} {x : D} : ∀ {xs : List D}, D.pls n xs = true → x ∈ xs → x.pl n = true
  | y :: ys, h, hm => by
    unfold D.pls at h
    rw [Bool.and_eq_true] at h
    rcases List.mem_cons.mp hm with e | hm
    · rw [e]; exact h.1
    · exact pls_mem h.2 hm
  | [], _, hm => by cases hm
theorem pls_of {n : Nat} : ∀ {xs : List D}, (∀ x ∈ xs, x.pl n = true) → D.pls n xs = true
  | [], _ => rfl
  | y :: ys, h => by
    unfold D.pls
    rw [h y List.mem_cons_self, pls_of fun x hx => h x (List.mem_cons_of_mem _ hx)]; rfl
theorem pl_tup {n : Nat} {xs : List D} (h : (D.tup xs).pl n = true) : xs.length ≤ n ∧ ∀ x ∈ xs, x.pl n = true := by
  unfold D.pl at h
  rw [Bool.and_eq_true] at h
  exact ⟨of_decide_eq_true h.1, fun x hx => pls_mem h.2 hx⟩
theorem dep_mem {x : D} {xs : List D} (h : x ∈ xs) : x.dep < (D.tup xs).dep := by
  have key : ∀ {xs : List D}, x ∈ xs → x.dep ≤ D.dep.D.deps xs := by
    intro xs
    induction xs with
    | nil => intro h; cases h
    | cons y ys ih =>
      intro h
      unfold D.dep.D.deps
      rcases List.mem_cons.mp h with e | h
      · rw [e]; exact Nat.le_max_left _ _
      · exact Nat.le_trans (ih h) (Nat.le_max_right _ _)
  show x.dep < D.dep.D.deps xs + 1
  have := key h
  omega
def D.isInt : D → Bool
  | .int _ => true
  | _ => false
theorem pl_shr {n : Nat} {d : D} (h : d.pl n = true) : d.shr = true := by
  cases d <;> first | rfl | exact nomatch h
end DI

set_option Elab.async false
set_option linter.all false
set_option maxRecDepth 100000
set_option maxHeartbeats 4000000
/-! DI 21: wishes: walks, lists, built-ins. -/
namespace DI
open PySem L2
section
variable {α β : Type} {P : α → S → Prop} {s : S} {ρ : En} {q : Rq} {E : Xt} {PD : D → S → Prop} {PL : List D → S → Prop} {PB : Bool → S → Prop} {PO : Option Int → S → Prop} {PI : Its → S → Prop} {PN : En → S → Prop} {Q : Kt}
theorem wi_tup {xs : List D} : Wp E (seqI (.tup xs) s) PI = PI ⟨xs, fun _ => true⟩ s := by with_unfolding_all rfl
theorem wi_lst {xs : List D} : Wp E (seqI (.lst xs) s) PI = PI ⟨xs, fun _ => true⟩ s := by with_unfolding_all rfl
theorem wi_rol {xs : List D} : Wp E (seqI (.rol xs) s) PI = PI ⟨xs, fun _ => true⟩ s := by with_unfolding_all rfl
/-- a list of ours, walked: it must stand -/
def okR (r : Nat) (xs : List D) (s : S) : Bool := match lk s r with
  | some ys => D.sames ys xs
  | none => false
theorem okR_ok {r : Nat} {xs : List D} (h : lk s r = some xs) : okR r xs s = true := by
  unfold okR; rw [h]; exact sames_rfl
theorem wi_ref {r : Nat} {xs : List D} (h : lk s r = some xs) : Wp E (seqI (.ref r) s) PI = PI ⟨xs, okR r xs⟩ s := by
  unfold seqI; dsimp only; rw [h]; with_unfolding_all rfl
theorem we_tupI {xs : List D} : Wp E (enumI (.tup xs) s) PI = PI ⟨xs.zipIdx.map fun p => .tup [.int (p.2 : Nat), p.1], fun _ => true⟩ s := by with_unfolding_all rfl
theorem intsD_map (ns : List Int) : intsD (ns.map .int) = some ns := by
  induction ns with
  | nil => rfl
  | cons n ns ih => rw [List.map_cons, intsD, ih]; rfl
theorem blsD_map (ns : List Bool) : blsD (ns.map .bl) = some ns := by
  induction ns with
  | nil => rfl
  | cons n ns ih => rw [List.map_cons, blsD, ih]; rfl
theorem wx_all {bs : List Bool} : Wp E (bltD .all [.lst (bs.map .bl)] s) PD = PD (.bl (bs.all id)) s := by
  have : bltD .all [.lst (bs.map .bl)] s = .ok (.bl (bs.all id)) s := by
    show (match (some (bs.map D.bl)).bind blsD with
      | some bs => R.ok (D.bl (bs.all id)) s
      | none => .bad) = _
    rw [show (some (bs.map D.bl)).bind blsD = blsD (bs.map D.bl) from rfl, blsD_map]
  rw [this, wp_ok]
theorem wx_any {bs : List Bool} : Wp E (bltD .any [.lst (bs.map .bl)] s) PD = PD (.bl (bs.any id)) s := by
  have : bltD .any [.lst (bs.map .bl)] s = .ok (.bl (bs.any id)) s := by
    show (match (some (bs.map D.bl)).bind blsD with
      | some bs => R.ok (D.bl (bs.any id)) s
      | none => .bad) = _
    rw [show (some (bs.map D.bl)).bind blsD = blsD (bs.map D.bl) from rfl, blsD_map]
  rw [this, wp_ok]
theorem wx_sum {ns : List Int} : Wp E (bltD .sum [.lst (ns.map .int)] s) PD = PD (.int ns.sum) s := by
  have : bltD .sum [.lst (ns.map .int)] s = .ok (.int ns.sum) s := by
    show (match (some (ns.map D.int)).bind intsD with
      | some ns => R.ok (D.int ns.sum) s
      | none => .bad) = _
    rw [show (some (ns.map D.int)).bind intsD = intsD (ns.map D.int) from rfl, intsD_map]
  rw [this, wp_ok]
theorem wx_max {ns : List Int} (h : ns ≠ []) : Wp E (bltD .max [.lst (ns.map .int)] s) PD = PD (.int (maxL ns)) s := by
  have : bltD .max [.lst (ns.map .int)] s = .ok (.int (maxL ns)) s := by
    show (match (some (ns.map D.int)).bind intsD with
      | some ns => if ns ≠ [] then R.ok (D.int (maxL ns)) s else .bad
      | none => .bad) = _
    rw [show (some (ns.map D.int)).bind intsD = intsD (ns.map D.int) from rfl, intsD_map]
    dsimp only
    rw [if_pos h]
  rw [this, wp_ok]
theorem wx_tuplel {xs : List D} : Wp E (bltD .tuple [.lst xs] s) PD = PD (.tup xs) s := by with_unfolding_all rfl
theorem wx_tuplet {xs : List D} : Wp E (bltD .tuple [.tup xs] s) PD = PD (.tup xs) s := by with_unfolding_all rfl
theorem wx_tupler {r : Nat} {xs : List D} (h : lk s r = some xs) : Wp E (bltD .tuple [.ref r] s) PD = PD (.tup xs) s := by
  have : bltD .tuple [.ref r] s = .ok (.tup xs) s := by
    show (match lk s r with
      | some xs => R.ok (D.tup xs) s
      | none => (match (D.ref r).dicOf s with
        | some (ks, _) => .ok (.tup (ks.map Kd)) s
        | none => .bad)) = _
    rw [h]
  rw [this, wp_ok]
theorem wx_listt {xs : List D} : Wp E (bltD .list [.tup xs] s) PD = PD (.lst xs) s := by with_unfolding_all rfl
theorem wb_tmul {d : D} {n : Nat} (h1 : 1 ≤ n) (h2 : n ≤ 1000) : Wp E (binD .mul (.tup [d]) (.int (n : Int)) s) PD = PD (.tup (List.replicate n d)) s := by
  have : binD .mul (.tup [d]) (.int (n : Int)) s = .ok (.tup (List.replicate n d)) s := by
    show (if [d] ≠ [] ∧ (n : Int) = 1 then R.ok (D.tup [d]) s else if [d] ≠ [] ∧ 2 ≤ (n : Int) ∧ (n : Int) ≤ 1000 ∧ [d].length ≤ 1000 then .ok (.tup (List.replicate (n : Int).toNat [d]).flatten) s else .bad) = _
    by_cases h : n = 1
    · subst h
      rw [if_pos ⟨by simp, rfl⟩]; rfl
    · rw [if_neg (fun z => h (by omega)), if_pos ⟨by simp, by omega, by omega, by simp⟩]
      congr 2
      rw [Int.toNat_natCast]
      clear h h1 h2
      induction n with
      | zero => rfl
      | succ n ih => rw [List.replicate_succ, List.flatten_cons, ih]; rfl
  rw [this, wp_ok]
theorem wb_tadd {xs ys : List D} (h : xs.length + ys.length ≤ sizeLine) : Wp E (binD .add (.tup xs) (.tup ys) s) PD = PD (.tup (xs ++ ys)) s := by
  have : binD .add (.tup xs) (.tup ys) s = .ok (.tup (xs ++ ys)) s := by
    show (if xs.length + ys.length ≤ sizeLine then R.ok (D.tup (xs ++ ys)) s else .bad) = _
    rw [if_pos h]
  rw [this, wp_ok]
theorem wb_ladd {a b : D} {xs ys : List D} (ha : a.mutOf s = some xs) (hb : b.mutOf s = some ys) (h : xs.length + ys.length ≤ sizeLine) : Wp E (binD .add a b s) PD = PD (.lst (xs ++ ys)) s := by
  have : binD .add a b s = .ok (.lst (xs ++ ys)) s := by
    show addD a b s = _
    unfold addD
    split
    · cases ha
    · cases ha
    · cases ha
    · rw [ha, hb]
      dsimp only
      rw [if_pos h]
  rw [this, wp_ok]
theorem wb_lmul {xs : List D} {n : Nat} (h : n ≤ 1000) (h2 : xs.length ≤ 1000) : Wp E (binD .mul (.lst xs) (.int (n : Int)) s) PD = PD (.lst (List.replicate n xs).flatten) s := by
  have : binD .mul (.lst xs) (.int (n : Int)) s = .ok (.lst (List.replicate n xs).flatten) s := by
    show mulD (.lst xs) (.int (n : Int)) s = _
    unfold mulD
    dsimp only [D.mutOf]
    have h3 : (n : Int) ≤ 1000 := by omega
    have h4 : -(2 ^ 63) ≤ (n : Int) := Int.le_trans (by decide) (Int.natCast_nonneg n)
    have h5 : (n : Int) < 2 ^ 63 := Int.lt_of_le_of_lt h3 (by decide)
    have h6 : xs.length * (n : Int).toNat ≤ sizeLine := by
      rw [Int.toNat_natCast]
      exact Nat.le_trans (Nat.mul_le_mul h2 h) (by decide)
    rw [if_pos ⟨h4, h5, h6⟩, Int.toNat_natCast]
  rw [this, wp_ok]
theorem wm_app {r : Nat} {xs : List D} {d : D} (h : lk s r = some xs) (hl : xs.length < sizeLine) : Wp E (mthD .append (.ref r) [d] s) PD = PD .non (s.set r (.lst (xs ++ [d]))) := by
  have : mthD .append (.ref r) [d] s = .ok .non (s.set r (.lst (xs ++ [d]))) := by
    show (match lk s r with
      | some xs => if xs.length < sizeLine then R.ok D.non (s.set r (.lst (xs ++ [d]))) else .bad
      | none => .bad) = _
    rw [h]
    dsimp only
    rw [if_pos hl]
  rw [this, wp_ok]
theorem mut_ref {r : Nat} {xs : List D} (h : lk s r = some xs) : (D.ref r).mutOf s = some xs := h
theorem mut_lst {xs : List D} : (D.lst xs).mutOf s = some xs := rfl
theorem wri_d {n : Nat} (h : n < 2 ^ 62) : Wp E (rngI [.int ((n : Int) - 1), .int (-1), .int (-1)] s) PI = PI ⟨(List.range n).map fun (k : Nat) => .int ((n - 1 - k : Nat) : Int), fun _ => true⟩ s := by
  have : rngI [.int ((n : Int) - 1), .int (-1), .int (-1)] s = .ok ⟨(List.range n).map fun (k : Nat) => .int ((n - 1 - k : Nat) : Int), fun _ => true⟩ s := by
    unfold rngI
    dsimp only
    have hb : bnd ((n : Int) - 1) = true := by
      unfold bnd
      rw [decide_eq_true (by omega), decide_eq_true (by omega)]; rfl
    have hb2 : (bnd ((n : Int) - 1) && bnd (-1) && ((-1 : Int) == -1)) = true := by rw [hb, show bnd (-1) = true by decide +kernel]; rfl
    rw [if_pos hb2]
    refine congrArg (fun l => R.ok (⟨l, fun _ => true⟩ : Its) s) ?_
    rw [show ((n : Int) - 1 - (-1)).toNat = n by omega]
    unfold rangeL
    refine List.map_congr_left fun k hk => ?_
    have := List.mem_range.mp hk
    exact congrArg D.int (by omega)
  rw [this, wp_ok]
theorem wri_2 {a b : Nat} (ha : a < 2 ^ 62) (hb : b < 2 ^ 62) : Wp E (rngI [.int (a : Int), .int (b : Int)] s) PI = PI ⟨(List.range (b - a)).map fun (k : Nat) => .int ((a + k : Nat) : Int), fun _ => true⟩ s := by
  have : rngI [.int (a : Int), .int (b : Int)] s = .ok ⟨(List.range (b - a)).map fun (k : Nat) => .int ((a + k : Nat) : Int), fun _ => true⟩ s := by
    unfold rngI
    dsimp only
    have h1 : bnd (a : Int) = true := by
      unfold bnd
      rw [decide_eq_true (by omega), decide_eq_true (by omega)]; rfl
    have h2 : bnd (b : Int) = true := by
      unfold bnd
      rw [decide_eq_true (by omega), decide_eq_true (by omega)]; rfl
    rw [if_pos (by rw [h1, h2]; rfl)]
    refine congrArg (fun l => R.ok (⟨l, fun _ => true⟩ : Its) s) ?_
    rw [show ((b : Int) - a).toNat = b - a by omega]
    unfold rangeL
    refine List.map_congr_left fun k hk => ?_
    exact congrArg D.int (by omega)
  rw [this, wp_ok]
/-- the end of a list -/
theorem atI_last {α : Type} {xs : List α} {x : α} (h : xs.getLast? = some x) : atI xs (-1) = some x := by
  rw [List.getLast?_eq_getElem?] at h
  have hl : 0 < xs.length := by
    cases xs with
    | nil => cases h
    | cons _ _ => simp
  unfold atI ixN
  rw [if_neg (by decide), if_pos (by omega)]
  show xs[((-1 : Int) + xs.length).toNat]? = _
  rw [show ((-1 : Int) + xs.length).toNat = xs.length - 1 by omega]
  exact h
theorem maxL_cons {i : Int} {r : List Int} (h : r ≠ []) : maxL (i :: r) = max i (maxL r) := by
  cases r with
  | nil => exact (h rfl).elim
  | cons j r =>
    show (let m := maxL (j :: r); if i < m then m else i) = _
    dsimp only
    split <;> omega
theorem maxL_2 {i j : Int} : maxL [i, j] = max i j := by rw [maxL_cons (by simp)]; rfl
theorem maxL_mem : ∀ {ns : List Int}, ns ≠ [] → maxL ns ∈ ns
  | [i], _ => by simp [maxL]
  | i :: j :: r, _ => by
    rw [maxL_cons (by simp)]
    have := maxL_mem (ns := j :: r) (by simp)
    by_cases h : i ≤ maxL (j :: r)
    · rw [Int.max_eq_right h]; exact List.mem_cons_of_mem _ this
    · rw [Int.max_eq_left (by omega)]; exact List.mem_cons_self
theorem maxL_ge : ∀ {ns : List Int} {i : Int}, i ∈ ns → i ≤ maxL ns
  | [j], i, h => by simp at h; subst h; exact Int.le_refl _
  | j :: k :: r, i, h => by
    rw [maxL_cons (by simp)]
    rcases List.mem_cons.mp h with h | h
    · subst h; exact Int.le_max_left _ _
    · exact Int.le_trans (maxL_ge h) (Int.le_max_right _ _)
theorem maxL_eq {ns : List Int} {m : Int} (h : m ∈ ns) (g : ∀ i ∈ ns, i ≤ m) : maxL ns = m := by
  have h1 : ns ≠ [] := by rintro rfl; cases h
  exact Int.le_antisymm (g _ (maxL_mem h1)) (maxL_ge h)
end
theorem wisT {d : D} {ty : Ty} {s : S} {P : Bool → Prop} : (∃ k, isT d ty s = some k ∧ P k) = (match isT d ty s with
  | some k => P k
  | none => False) := by
  cases isT d ty s <;> simp
theorem ex_bl {b : Bool} {P : Bool → Prop} : (∃ k, D.bl b = D.bl k ∧ P k) = P b := by
  refine propext ⟨?_, fun h => ⟨b, rfl, h⟩⟩
  rintro ⟨k, e, h⟩
  cases e; exact h
theorem ex_int {i : Int} {P : Int → Prop} : (∃ k, D.int i = D.int k ∧ P k) = P i := by
  refine propext ⟨?_, fun h => ⟨i, rfl, h⟩⟩
  rintro ⟨k, e, h⟩
  cases e; exact h
theorem ite_tf {A B : Prop} : (if true = false then A else B) = B := if_neg (by decide)
theorem ite_ff {A B : Prop} : (if false = false then A else B) = A := if_pos rfl
theorem it_non_int {b : Bool} {i : Int} {x : Str} {xs : List D} {s : S} : isT .non .int s = some false := rfl
theorem it_non_bool {b : Bool} {i : Int} {x : Str} {xs : List D} {s : S} : isT .non .bool s = some false := rfl
theorem it_non_str {b : Bool} {i : Int} {x : Str} {xs : List D} {s : S} : isT .non .str s = some false := rfl
theorem it_non_tuple {b : Bool} {i : Int} {x : Str} {xs : List D} {s : S} : isT .non .tuple s = some false := rfl
theorem it_non_list {b : Bool} {i : Int} {x : Str} {xs : List D} {s : S} : isT .non .list s = some false := rfl
theorem it_non_dict {b : Bool} {i : Int} {x : Str} {xs : List D} {s : S} : isT .non .dict s = some false := rfl
theorem it_bl_int {b : Bool} {i : Int} {x : Str} {xs : List D} {s : S} : isT (.bl b) .int s = some true := rfl
theorem it_bl_bool {b : Bool} {i : Int} {x : Str} {xs : List D} {s : S} : isT (.bl b) .bool s = some true := rfl
theorem it_bl_str {b : Bool} {i : Int} {x : Str} {xs : List D} {s : S} : isT (.bl b) .str s = some false := rfl
theorem it_bl_tuple {b : Bool} {i : Int} {x : Str} {xs : List D} {s : S} : isT (.bl b) .tuple s = some false := rfl
theorem it_bl_list {b : Bool} {i : Int} {x : Str} {xs : List D} {s : S} : isT (.bl b) .list s = some false := rfl
theorem it_bl_dict {b : Bool} {i : Int} {x : Str} {xs : List D} {s : S} : isT (.bl b) .dict s = some false := rfl
theorem it_int_int {b : Bool} {i : Int} {x : Str} {xs : List D} {s : S} : isT (.int i) .int s = some true := rfl
theorem it_int_bool {b : Bool} {i : Int} {x : Str} {xs : List D} {s : S} : isT (.int i) .bool s = some false := rfl
theorem it_int_str {b : Bool} {i : Int} {x : Str} {xs : List D} {s : S} : isT (.int i) .str s = some false := rfl
theorem it_int_tuple {b : Bool} {i : Int} {x : Str} {xs : List D} {s : S} : isT (.int i) .tuple s = some false := rfl
theorem it_int_list {b : Bool} {i : Int} {x : Str} {xs : List D} {s : S} : isT (.int i) .list s = some false := rfl
theorem it_int_dict {b : Bool} {i : Int} {x : Str} {xs : List D} {s : S} : isT (.int i) .dict s = some false := rfl
theorem it_str_int {b : Bool} {i : Int} {x : Str} {xs : List D} {s : S} : isT (.str x) .int s = some false := rfl
theorem it_str_bool {b : Bool} {i : Int} {x : Str} {xs : List D} {s : S} : isT (.str x) .bool s = some false := rfl
theorem it_str_str {b : Bool} {i : Int} {x : Str} {xs : List D} {s : S} : isT (.str x) .str s = some true := rfl
theorem it_str_tuple {b : Bool} {i : Int} {x : Str} {xs : List D} {s : S} : isT (.str x) .tuple s = some false := rfl
theorem it_str_list {b : Bool} {i : Int} {x : Str} {xs : List D} {s : S} : isT (.str x) .list s = some false := rfl
theorem it_str_dict {b : Bool} {i : Int} {x : Str} {xs : List D} {s : S} : isT (.str x) .dict s = some false := rfl
theorem it_tup_int {b : Bool} {i : Int} {x : Str} {xs : List D} {s : S} : isT (.tup xs) .int s = some false := rfl
theorem it_tup_bool {b : Bool} {i : Int} {x : Str} {xs : List D} {s : S} : isT (.tup xs) .bool s = some false := rfl
theorem it_tup_str {b : Bool} {i : Int} {x : Str} {xs : List D} {s : S} : isT (.tup xs) .str s = some false := rfl
theorem it_tup_tuple {b : Bool} {i : Int} {x : Str} {xs : List D} {s : S} : isT (.tup xs) .tuple s = some true := rfl
theorem it_tup_list {b : Bool} {i : Int} {x : Str} {xs : List D} {s : S} : isT (.tup xs) .list s = some false := rfl
theorem it_tup_dict {b : Bool} {i : Int} {x : Str} {xs : List D} {s : S} : isT (.tup xs) .dict s = some false := rfl
theorem it_lst_int {b : Bool} {i : Int} {x : Str} {xs : List D} {s : S} : isT (.lst xs) .int s = some false := rfl
theorem it_lst_bool {b : Bool} {i : Int} {x : Str} {xs : List D} {s : S} : isT (.lst xs) .bool s = some false := rfl
theorem it_lst_str {b : Bool} {i : Int} {x : Str} {xs : List D} {s : S} : isT (.lst xs) .str s = some false := rfl
theorem it_lst_tuple {b : Bool} {i : Int} {x : Str} {xs : List D} {s : S} : isT (.lst xs) .tuple s = some false := rfl
theorem it_lst_list {b : Bool} {i : Int} {x : Str} {xs : List D} {s : S} : isT (.lst xs) .list s = some true := rfl
theorem it_lst_dict {b : Bool} {i : Int} {x : Str} {xs : List D} {s : S} : isT (.lst xs) .dict s = some false := rfl
theorem it_rol_int {b : Bool} {i : Int} {x : Str} {xs : List D} {s : S} : isT (.rol xs) .int s = some false := rfl
theorem it_rol_bool {b : Bool} {i : Int} {x : Str} {xs : List D} {s : S} : isT (.rol xs) .bool s = some false := rfl
theorem it_rol_str {b : Bool} {i : Int} {x : Str} {xs : List D} {s : S} : isT (.rol xs) .str s = some false := rfl
theorem it_rol_tuple {b : Bool} {i : Int} {x : Str} {xs : List D} {s : S} : isT (.rol xs) .tuple s = some false := rfl
theorem it_rol_list {b : Bool} {i : Int} {x : Str} {xs : List D} {s : S} : isT (.rol xs) .list s = some true := rfl
theorem it_rol_dict {b : Bool} {i : Int} {x : Str} {xs : List D} {s : S} : isT (.rol xs) .dict s = some false := rfl
section
variable {E : Xt} {s : S} {PD : D → S → Prop} {a b c : D} {r : List D}
theorem wix0 : Wp E (ixD (.tup (a :: r)) (.int 0) s) PD = PD a s := wixt (n := 0) rfl
theorem wix1 : Wp E (ixD (.tup (a :: b :: r)) (.int 1) s) PD = PD b s := wixt (n := 1) rfl
theorem wix2 : Wp E (ixD (.tup (a :: b :: c :: r)) (.int 2) s) PD = PD c s := wixt (n := 2) rfl
end
theorem map_tt {α : Type} {xs : List α} : xs.map (fun _ => D.bl true) = (List.replicate xs.length true).map .bl := by
  rw [List.map_replicate, List.map_const']
theorem all_rep {n : Nat} : (List.replicate n true).all id = true := by simp
theorem sl0 : (0 ≤ sizeLine) = True := propext ⟨fun _ => trivial, fun _ => by decide⟩
theorem sl1 : (1 ≤ sizeLine) = True := propext ⟨fun _ => trivial, fun _ => by decide⟩
theorem sl2 : (2 ≤ sizeLine) = True := propext ⟨fun _ => trivial, fun _ => by decide⟩
theorem sl3 : (3 ≤ sizeLine) = True := propext ⟨fun _ => trivial, fun _ => by decide⟩
theorem sl4 : (4 ≤ sizeLine) = True := propext ⟨fun _ => trivial, fun _ => by decide⟩
theorem sl5 : (5 ≤ sizeLine) = True := propext ⟨fun _ => trivial, fun _ => by decide⟩
theorem sl6 : (6 ≤ sizeLine) = True := propext ⟨fun _ => trivial, fun _ => by decide⟩
theorem sl10 : (10 ≤ sizeLine) = True := propext ⟨fun _ => trivial, fun _ => by decide⟩
theorem ex_lst {s : S} {r : Nat} {xs : List D} {P : List D → Prop} (h : lk s r = some xs) : (∃ ys, (D.ref r).lstOf s = some ys ∧ P ys) = P xs := by
  refine propext ⟨?_, fun z => ⟨xs, h, z⟩⟩
  rintro ⟨ys, e, z⟩
  rw [show (D.ref r).lstOf s = lk s r from rfl, h] at e
  cases e; exact z
theorem ex_lstl {s : S} {xs : List D} {P : List D → Prop} : (∃ ys, (D.lst xs).lstOf s = some ys ∧ P ys) = P xs := by
  refine propext ⟨?_, fun z => ⟨xs, rfl, z⟩⟩
  rintro ⟨ys, e, z⟩
  cases e; exact z
theorem wixlast {E : Xt} {s : S} {PD : D → S → Prop} {xs : List D} {x : D} (h : xs.getLast? = some x) : Wp E (ixD (.tup xs) (.int (-1)) s) PD = PD x s := wix (a := .tup xs) rfl (atI_last h)
section
variable {E : Xt} {s : S} {PD : D → S → Prop} {ι : Type}
theorem wl_m {turn : D → S → R (Option D)} {ok : S → Bool} {l : List ι} (e : ι → D) (f : ι → Option D) (hok : ok s = true) (hl : l.length ≤ sizeLine) (h : ∀ i ∈ l, Wp E0 (turn (e i) s) fun o s' => o = f i ∧ s' = s) (hp : PD (.lst (l.filterMap f)) s) : Wp E (lcL turn ok (l.map e) [] s) PD := by
  refine wl_inv (fun r acc s' => s' = s ∧ ∃ a b, l = a ++ b ∧ r = b.map e ∧ acc = a.filterMap f) ⟨rfl, [], _, rfl, rfl, rfl⟩ ?_ ?_
  · rintro acc s' ⟨rfl, a, b, e1, e2, rfl⟩
    have : b = [] := by cases b with
      | nil => rfl
      | cons _ _ => cases e2
    subst this
    rw [List.append_nil] at e1
    subst e1
    exact ⟨hok, hp⟩
  · rintro x r acc s' ⟨rfl, a, b, e1, e2, rfl⟩
    cases b with
    | nil => cases e2
    | cons k b =>
      rw [List.map_cons] at e2
      cases e2
      refine ⟨hok, (h k (by rw [e1]; simp)).imp ?_⟩
      rintro o s'' ⟨rfl, rfl⟩
      have l3 : a.length < l.length := by have := congrArg List.length e1; simp at this; omega
      have l1 : (a.filterMap f).length ≤ a.length := List.length_filterMap_le _ _
      cases e : f k with
      | none => exact ⟨rfl, a ++ [k], b, by rw [e1]; simp, rfl, by simp [e]⟩
      | some d => exact ⟨by omega, rfl, a ++ [k], b, by rw [e1]; simp, rfl, by simp [e]⟩
theorem wl_mm {turn : D → S → R (Option D)} {ok : S → Bool} {l : List ι} (e f : ι → D) (hok : ok s = true) (hl : l.length ≤ sizeLine) (h : ∀ i ∈ l, Wp E0 (turn (e i) s) fun o s' => o = some (f i) ∧ s' = s) (hp : PD (.lst (l.map f)) s) : Wp E (lcL turn ok (l.map e) [] s) PD :=
  wl_m e (fun i => some (f i)) hok hl h (by rw [List.filterMap_eq_map']; exact hp)
theorem cut_take {xs : List D} {k : Nat} (h : k ≤ xs.length) : cutD xs none (some (k : Int)) = xs.take k := by
  unfold cutD
  have e1 : HT.sIx xs.length 0 none = 0 := rfl
  have e2 : HT.sIx xs.length xs.length (some (k : Int)) = k := by
    rw [HT.sIx_nat]; omega
  rw [e1, e2]; simp
theorem cut_drop {xs : List D} {k : Nat} (h : k ≤ xs.length) : cutD xs (some (k : Int)) none = xs.drop k := by
  unfold cutD
  have e1 : HT.sIx xs.length xs.length none = xs.length := rfl
  have e2 : HT.sIx xs.length 0 (some (k : Int)) = k := by
    rw [HT.sIx_nat]; omega
  rw [e1, e2]
  exact List.take_of_length_le (by simp)
theorem ws_slt {xs : List D} {lo hi : Option Int} : Wp E (slD (.tup xs) lo hi s) PD = PD (.tup (cutD xs lo hi)) s := by with_unfolding_all rfl
end
theorem fm_congr {α β : Type} {f g : α → Option β} : ∀ {l : List α}, (∀ x ∈ l, f x = g x) → l.filterMap f = l.filterMap g
  | [], _ => rfl
  | x :: xs, h => by
    rw [List.filterMap_cons, List.filterMap_cons, h x List.mem_cons_self, fm_congr fun y hy => h y (List.mem_cons_of_mem _ hy)]
theorem fm_filter {α : Type} {p : α → Bool} : ∀ {l : List α}, (l.filterMap fun x => if p x = true then some x else none) = l.filter p
  | [] => rfl
  | x :: xs => by
    rw [List.filterMap_cons, List.filter_cons]
    by_cases h : p x = true
    · rw [if_pos h, if_pos h, fm_filter]
    · rw [if_neg h, if_neg h, fm_filter]
theorem wx_maxr {E : Xt} {s : S} {PD : D → S → Prop} {r : Nat} {ns : List Int} (hl : lk s r = some (ns.map .int)) (h : ns ≠ []) : Wp E (bltD .max [.ref r] s) PD = PD (.int (maxL ns)) s := by
  have : bltD .max [.ref r] s = .ok (.int (maxL ns)) s := by
    show (match (lk s r).bind intsD with
      | some ns => if ns ≠ [] then R.ok (D.int (maxL ns)) s else .bad
      | none => .bad) = _
    rw [hl, show (some (ns.map D.int)).bind intsD = intsD (ns.map D.int) from rfl, intsD_map]
    dsimp only
    rw [if_pos h]
  rw [this, wp_ok]
end DI

set_option Elab.async false
set_option linter.all false
set_option maxRecDepth 100000
set_option maxHeartbeats 4000000
/-! DI 22: wishes about objects, dicts, calls of what is told. -/
namespace DI
open PySem L2
section
variable {E : Xt} {q : Rq} {ρ : En} {s : S} {PD : D → S → Prop} {PI : Its → S → Prop} {PS : Option S → Prop}
theorem wz_dic {ks : List Key} {xs : List D} : Wp E (setl (.dic ks xs) s) PD = PD (.ref s.length) (s ++ [.dic false ks xs]) := by with_unfolding_all rfl
theorem wz_fn {f : Str} : Wp E (setl (.fn f) s) PD = PD (.fn f) s := by with_unfolding_all rfl
theorem we_fnv {f : Str} : Wp E (runE q (.fnv f) ρ s) PD = PD (.fn f) s := by rw [runE]; with_unfolding_all rfl
theorem we_mcl {o : IE} {m : Str} {es : List IE} : Wp E (runE q (.mcl o m es) ρ s) PD = Wp E (runE q o ρ s) fun d s => ∃ i C fs f, d = .ref i ∧ s[i]? = some (.ins C fs) ∧ q.mt C m = some f ∧ fs.lookup m = none ∧ Wp E (runEs q es ρ s) fun ds s => Wp E (q.c f (d :: ds) s) PD := by
  rw [runE, wp_bind]; congr 1; funext d s
  refine propext ⟨fun h => ?_, ?_⟩
  · cases d with
    | ref i =>
      cases h1 : s[i]? with
      | none => simp only [h1] at h; rw [wp_bad] at h; exact h.elim
      | some o =>
        cases o with
        | ins C fs =>
          cases h2 : q.mt C m with
          | none => simp only [h1, h2] at h; rw [wp_bad] at h; exact h.elim
          | some f =>
            cases h3 : fs.lookup m with
            | none => simp only [h1, h2, h3] at h; rw [wp_bind] at h; exact ⟨i, C, fs, f, rfl, h1, h2, h3, h⟩
            | some x => simp only [h1, h2, h3] at h; rw [wp_bad] at h; exact h.elim
        | _ => simp only [h1] at h; rw [wp_bad] at h; exact h.elim
    | _ => rw [wp_bad] at h; exact h.elim
  · rintro ⟨i, C, fs, f, rfl, h1, h2, h3, h⟩
    simp only [h1, h2, h3]
    rw [wp_bind]; exact h
theorem we_mk {C f : Str} {es : List IE} (hm : q.mkI C = some f) : Wp E (runE q (.mk C es) ρ s) PD = Wp E (runEs q es ρ s) fun ds s => Wp E (q.c f (.ref s.length :: ds) (s ++ [.ins C []])) fun r s' => r = .non ∧ PD (.ref s.length) s' := by
  rw [runE, wp_bind]; congr 1; funext ds s
  simp only [hm]
  rw [wp_bind]; congr 1; funext r s'
  cases r <;> simp [Wp]
theorem we_dct0 : Wp E (runE q (.dct []) ρ s) PD = PD (.dic [] []) s := by
  rw [runE, runKs]; with_unfolding_all rfl
theorem we_itms {b : Blt} {e : IE} : Wp E (runE q (.itms b e) ρ s) PD = Wp E (runE q e ρ s) fun d s => ∃ ks xs, d.dicOf s = some (ks, xs) ∧ (match b with
    | .tuple => PD (.tup (prD ks xs)) s
    | .list => PD (.lst (prD ks xs)) s
    | _ => False) := by
  rw [runE, wp_bind]; congr 1; funext d s
  cases h : d.dicOf s with
  | none => simp [Wp]
  | some p =>
    obtain ⟨ks, xs⟩ := p
    have key : ∀ {P : List Key → List D → Prop}, P ks xs = ∃ k x, some (ks, xs) = some (k, x) ∧ P k x := fun {P} => propext ⟨fun h => ⟨_, _, rfl, h⟩, fun ⟨k, x, e, h⟩ => by cases e; exact h⟩
    cases b with
    | tuple => simp only; rw [wp_ok]; exact key (P := fun ks xs => PD (.tup (prD ks xs)) s)
    | list => simp only; rw [wp_ok]; exact key (P := fun ks xs => PD (.lst (prD ks xs)) s)
    | _ => simp [Wp]
theorem we_fld {e : IE} {f : Str} : Wp E (runE q (.fld e f) ρ s) PD = Wp E (runE q e ρ s) fun d s => ∃ i C fs x, d = .ref i ∧ s[i]? = some (.ins C fs) ∧ q.cf C f = true ∧ fs.lookup f = some x ∧ PD x s := by
  rw [runE, wp_bind]; congr 1; funext d s
  refine propext ⟨fun h => ?_, ?_⟩
  · cases d with
    | ref i =>
      cases h1 : s[i]? with
      | none => simp only [h1] at h; rw [wp_bad] at h; exact h.elim
      | some o =>
        cases o with
        | ins C fs =>
          by_cases h2 : q.cf C f = true
          · cases h3 : fs.lookup f with
            | none => simp only [h1, h2, h3] at h; rw [if_pos trivial, wp_bad] at h; exact h.elim
            | some x => simp only [h1, h2, h3] at h; rw [if_pos trivial, wp_ok] at h; exact ⟨i, C, fs, x, rfl, h1, h2, h3, h⟩
          · simp only [h1] at h; rw [if_neg h2, wp_bad] at h; exact h.elim
        | _ => simp only [h1] at h; rw [wp_bad] at h; exact h.elim
    | _ => rw [wp_bad] at h; exact h.elim
  · rintro ⟨i, C, fs, x, rfl, h1, h2, h3, h⟩
    simp only [h1]
    rw [if_pos h2]; simp only [h3]
    rw [wp_ok]; exact h
theorem we_callx {e : IE} {es : List IE} : Wp E (runE q (.callx e es) ρ s) PD = Wp E (runE q e ρ s) fun d s => ∃ f, d = .fn f ∧ q.isf f = true ∧ Wp E (runEs q es ρ s) fun ds s => Wp E (q.c f ds s) PD := by
  rw [runE, wp_bind]; congr 1; funext d s
  refine propext ⟨fun h => ?_, ?_⟩
  · cases d with
    | fn f =>
      by_cases h2 : q.isf f = true
      · simp only [h2] at h; rw [if_pos trivial, wp_bind] at h; exact ⟨f, rfl, h2, h⟩
      · simp only at h; rw [if_neg h2, wp_bad] at h; exact h.elim
    | _ => rw [wp_bad] at h; exact h.elim
  · rintro ⟨f, rfl, h2, h⟩
    simp only
    rw [if_pos h2, wp_bind]; exact h
/-- a held exception's field -/
theorem we_efld {i : Nat} {f C : Str} {fs : List (Str × D)} {d : D} (h : q.hd = some (i, C, fs)) (hf : q.fld C f = true) (hl : fs.lookup f = some d) : Wp E (runE q (.efld i f) ρ s) PD = PD d s := by
  rw [runE]
  simp only [h]
  rw [if_pos ⟨trivial, hf⟩]
  simp only [hl]
  rw [wp_ok]
/-- the end of a store -/
theorem app_at {l : S} (k : Nat) : (s ++ l)[s.length + k]? = l[k]? := by
  rw [List.getElem?_append_right (by omega)]
  congr 1; omega
theorem app_at0 {l : S} : (s ++ l)[s.length]? = l[0]? := by
  rw [List.getElem?_append_right (by omega)]
  congr 1; omega
theorem set_at {l : S} {o : O} (k : Nat) : (s ++ l).set (s.length + k) o = s ++ l.set k o := by
  rw [List.set_append_right _ _ (by omega)]
  congr 2; omega
theorem set_at0 {l : S} {o : O} : (s ++ l).set s.length o = s ++ l.set 0 o := by
  rw [List.set_append_right _ _ (by omega)]
  congr 2; omega
/-- a dict gathered: as many turns, the store left -/
theorem wd_inv {turn : D → S → R (Option (Key × D))} {ok : S → Bool} {xs : List D} (Inv : List D → List Key → List D → S → Prop) (h0 : Inv xs [] [] s) (he : ∀ ks vs s, Inv [] ks vs s → ok s = true ∧ PD (.dic ks vs) s)
    (hs : ∀ x xs ks vs s, Inv (x :: xs) ks vs s → ok s = true ∧ Wp E0 (turn x s) fun o s => match o with
      | some p => ks.length < sizeLine ∧ Inv xs (putKs p.1 ks) (putVs p.1 p.2 ks vs) s
      | none => Inv xs ks vs s) : Wp E (dcL turn ok xs [] [] s) PD := by
  have key : ∀ xs ks vs s, Inv xs ks vs s → Wp E (dcL turn ok xs ks vs s) PD := by
    intro xs
    induction xs with
    | nil =>
      intro ks vs s h
      unfold dcL
      obtain ⟨a, b⟩ := he ks vs s h
      rw [if_pos a, wp_ok]; exact b
    | cons x xs ih =>
      intro ks vs s h
      unfold dcL
      obtain ⟨a, b⟩ := hs x xs ks vs s h
      rw [if_pos a]
      obtain ⟨o, s', e, b⟩ := b.eq
      simp only [e]
      cases o with
      | none => exact ih _ _ s' b
      | some d =>
        obtain ⟨k, d⟩ := d
        dsimp only
        rw [if_pos b.1]
        exact ih _ _ _ b.2
  exact key _ _ _ _ h0
def turnK (q : Rq) (own : List (Str × Nat)) (k v : IE) (g : IG) (t : Option IT) (ρ : En) : D → S → R (Option (Key × D)) := fun x s => (runG q g x (wip ρ (own.map (·.2))) s).bind fun ρ' s => (runTo q t ρ' s).bind fun c s => if c = true then (runE q k ρ' s).bind fun a s => ((runE q v ρ' s).bind setl).bind fun d s => (match keyD a with
      | some k => .ok (some (k, d)) s
      | none => .bad) else .ok none s
theorem we_dc {own : List (Str × Nat)} {k v : IE} {g : IG} {it : II} {t : Option IT} : Wp E (runE q (.dc own k v g it t) ρ s) PD = Wp E (runI q it ρ s) fun I s => Wp E (dcL (turnK q own k v g t ρ) I.ok I.xs [] [] s) PD := by rw [runE, wp_bind]; with_unfolding_all rfl
/-- the last text of the guide's list of rules: a walk over a row of ours that nobody else holds -/
theorem ws_fol {g : IG} {it : II} {body : List IS} {Q : Kt} {l : List D} {ok : S → Bool} (h : Wp (Q.xt ρ) (runI q it ρ s) fun I s' => I = ⟨l, ok⟩ ∧ s' = s) (Inv : List D → En → S → Prop) (h0 : Inv l ρ s) (he : ∀ ρ s, Inv [] ρ s → ok s = true ∧ Q.nx ρ s)
    (hs : ∀ x xs ρ s, Inv (x :: xs) ρ s → ok s = true ∧ Wp E0 (runG q g x ρ s) fun ρ s => Ws (runSs q body ρ s) { nx := fun ρ s => Inv xs ρ s, rt := Q.rt, bk := Q.nx, ct := fun ρ s => Inv xs ρ s, ex := Q.ex }) : Ws (runS q (.fo g it body) ρ s) Q := by
  refine ws_fo (h.imp ?_)
  rintro I s' ⟨rfl, rfl⟩
  exact ⟨Inv, h0, he, hs⟩
end
end DI

set_option Elab.async false
set_option linter.all false
set_option maxRecDepth 100000
set_option maxHeartbeats 0
namespace DI.L
open PySem PySem.Spec PyProof.Rows L2
abbrev RW : PySem.W.OpenLaw := PySem.Challenge.rw_remaderight_k00_whole_contents_and_state
abbrev PW : Program := PySem.Challenge.pw_remaderight_k00_whole_contents_and_state
def top (i : Nat) : Stmt := PW.main.body.getD i (.Pass ⟨0, 0, 0, 0⟩)
def topC (i j : Nat) : Stmt := match top i with
  | .ClassDef _ _ _ b _ _ _ _ _ _ _ => b.getD j (.Pass ⟨0, 0, 0, 0⟩)
  | _ => .Pass ⟨0, 0, 0, 0⟩
def mkD (x : Str) (i : Nat) : He.DefD := ⟨(x, none), x, x, defArgs (top i), defBody (top i), defScope (top i), [], []⟩
def mkI (C q : Str) (i j : Nat) : He.DefD := ⟨(C, some ("__init__" : Str)), "__init__", q, defArgs (topC i j), defBody (topC i j), defScope (topC i j), [], []⟩
def mkM (C m q : Str) (i j : Nat) : He.DefD := ⟨(C, some m), m, q, defArgs (topC i j), defBody (topC i j), defScope (topC i j), [], []⟩
def d_is_whole : Df := ⟨("is_whole" : Str), 1, [("value" : Str)], [(.ret (some (.and (.isi (.var 0) .int) (.not (.isi (.var 0) .bool)))))], none⟩
def d_is_word : Df := ⟨("is_word" : Str), 1, [("value" : Str), ("sign" : Str)], [(.ret (some (.and (.isi (.var 0) .str) (.and (.chain .lt .le (.con (.int 0)) (.blt .len [(.var 0)]) (.con (.int 8))) (.blt .all [(.lc [(("sign" : Str), 1)] (.cmp .inn (.var 1) (.glo ("SIGNS" : Str))) (.nm 1) (.txt (.var 0)) none)])))))], none⟩
def d_is_content : Df := ⟨("is_content" : Str), 1, [("value" : Str), ("one" : Str)], [(.ret (some (.and (.isi (.var 0) .tuple) (.and (.cmp .le (.blt .len [(.var 0)]) (.glo ("MOST_WORDS" : Str))) (.blt .all [(.lc [(("one" : Str), 1)] (.call ("is_word" : Str) [(.var 1)]) (.nm 1) (.seq (.var 0)) none)])))))], none⟩
def d_is_why : Df := ⟨("is_why" : Str), 1, [("value" : Str)], [(.ife (.or (.not (.tru (.isi (.var 0) .tuple))) (.or (.cmp .eq (.blt .len [(.var 0)]) (.con (.int 0))) (.or (.not (.tru (.isi (.ix (.var 0) (.con (.int 0))) .str))) (.cmp .nin (.ix (.var 0) (.con (.int 0))) (.glo ("WHYS" : Str)))))) [(.ret (some (.con (.bl false))))] []), (.ife (.cmp .inn (.ix (.var 0) (.con (.int 0))) (.tup [(.con (.str ("name" : Str))), (.con (.str ("long" : Str))), (.con (.str ("ring" : Str)))])) [(.ret (some (.cmp .eq (.blt .len [(.var 0)]) (.con (.int 1)))))] []), (.ret (some (.and (.cmp .eq (.blt .len [(.var 0)]) (.con (.int 2))) (.ife (.cmp .eq (.ix (.var 0) (.con (.int 0))) (.con (.str ("fail" : Str)))) (.call ("is_content" : Str) [(.ix (.var 0) (.con (.int 1)))]) (.call ("is_word" : Str) [(.ix (.var 0) (.con (.int 1)))])))))], none⟩
def d_is_state : Df := ⟨("is_state" : Str), 1, [("value" : Str)], [(.ife (.or (.not (.tru (.isi (.var 0) .tuple))) (.or (.cmp .eq (.blt .len [(.var 0)]) (.con (.int 0))) (.not (.tru (.isi (.ix (.var 0) (.con (.int 0))) .str))))) [(.ret (some (.con (.bl false))))] []), (.ife (.cmp .eq (.ix (.var 0) (.con (.int 0))) (.con (.str ("absent" : Str)))) [(.ret (some (.cmp .eq (.blt .len [(.var 0)]) (.con (.int 1)))))] []), (.ife (.cmp .eq (.ix (.var 0) (.con (.int 0))) (.con (.str ("made" : Str)))) [(.ret (some (.and (.cmp .eq (.blt .len [(.var 0)]) (.con (.int 2))) (.call ("is_content" : Str) [(.ix (.var 0) (.con (.int 1)))]))))] []), (.ret (some (.and (.cmp .eq (.ix (.var 0) (.con (.int 0))) (.con (.str ("failed" : Str)))) (.and (.cmp .eq (.blt .len [(.var 0)]) (.con (.int 2))) (.call ("is_why" : Str) [(.ix (.var 0) (.con (.int 1)))])))))], none⟩
def d_is_result : Df := ⟨("is_result" : Str), 1, [("value" : Str)], [(.ret (some (.and (.call ("is_state" : Str) [(.var 0)]) (.cmp .ne (.ix (.var 0) (.con (.int 0))) (.con (.str ("absent" : Str)))))))], none⟩
def d_joined : Df := ⟨("joined" : Str), 2, [("one" : Str), ("two" : Str)], [(.ret (some (.ife (.cmp .le (.bin .add (.blt .len [(.var 0)]) (.blt .len [(.var 1)])) (.glo ("MOST_WORDS" : Str))) (.bin .add (.var 0) (.var 1)) (.con .non))))], none⟩
def d_once : Df := ⟨("once" : Str), 1, [("content" : Str), ("word" : Str)], [(.ret (some (.blt .tuple [(.dc [(("word" : Str), 1)] (.var 1) (.con (.bl true)) (.nm 1) (.seq (.var 0)) none)])))], none⟩
def d_turned : Df := ⟨("turned" : Str), 1, [("content" : Str)], [(.ret (some (.rev (.var 0))))], none⟩
def d_counted : Df := ⟨("counted" : Str), 1, [("content" : Str)], [(.ret (some (.tup [(.blt .str [(.blt .len [(.var 0)])])])))], none⟩
def d_is_name : Df := ⟨("is_name" : Str), 1, [("value" : Str)], [(.ret (some (.and (.call ("is_word" : Str) [(.var 0)]) (.cmp .nin (.var 0) (.glo ("RESERVED" : Str))))))], none⟩
def d_look_at_project : Df := ⟨("look_at_project" : Str), 1, [("value" : Str), ("one" : Str), ("bodies" : Str), ("parts" : Str), ("known" : Str)], [(.ife (.or (.not (.tru (.isi (.var 0) .tuple))) (.or (.cmp .ne (.blt .len [(.var 0)]) (.con (.int 4))) (.or (.not (.tru (.isi (.ix (.var 0) (.con (.int 0))) .str))) (.cmp .ne (.ix (.var 0) (.con (.int 0))) (.con (.str ("project" : Str))))))) [(.raise ("BadProject" : Str) [(.con .non), (.con (.str ("project" : Str)))])] []), (.ife (.not (.tru (.blt .all [(.lc [(("one" : Str), 1)] (.isi (.var 1) .tuple) (.nm 1) (.seq (.sl (.var 0) (some (.con (.int 1))) none)) none)]))) [(.raise ("BadProject" : Str) [(.con .non), (.con (.str ("project" : Str)))])] []), (.ife (.or (.cmp .gt (.blt .len [(.ix (.var 0) (.con (.int 1)))]) (.glo ("MOST_FILES" : Str))) (.or (.cmp .gt (.blt .len [(.ix (.var 0) (.con (.int 2)))]) (.glo ("MOST_PARTS" : Str))) (.cmp .gt (.blt .len [(.ix (.var 0) (.con (.int 3)))]) (.glo ("MOST_RULES" : Str))))) [(.raise ("BadProject" : Str) [(.con .non), (.con (.str ("many" : Str)))])] []), (.asg (.nm 4) (.dct [])), (.fo (.nm 1) (.seq (.ix (.var 0) (.con (.int 1)))) [(.ife (.or (.not (.tru (.isi (.var 1) .tuple))) (.or (.cmp .ne (.blt .len [(.var 1)]) (.con (.int 2))) (.or (.not (.tru (.call ("is_name" : Str) [(.ix (.var 1) (.con (.int 0)))]))) (.cmp .inn (.ix (.var 1) (.con (.int 0))) (.var 4))))) [(.raise ("BadProject" : Str) [(.con .non), (.con (.str ("file" : Str)))])] []), (.ife (.not (.tru (.call ("is_content" : Str) [(.ix (.var 1) (.con (.int 1)))]))) [(.raise ("BadProject" : Str) [(.ix (.var 1) (.con (.int 0))), (.con (.str ("content" : Str)))])] []), (.asg (.sub (.var 4) (.ix (.var 1) (.con (.int 0)))) (.con (.bl true)))]), (.asg (.nm 3) (.dct [])), (.fo (.nm 1) (.seq (.ix (.var 0) (.con (.int 2)))) [(.expr .any), (.asg (.sub (.var 3) (.ix (.var 1) (.con (.int 0)))) (.blt .len [(.ix (.var 1) (.con (.int 1)))]))]), (.asg (.nm 2) (.call ("parts_of" : Str) [(.var 0)])), (.fo (.nm 1) (.seq (.ix (.var 0) (.con (.int 3)))) [(.expr .any), (.ife (.tru .any) [(.raise ("BadProject" : Str) [(.ix (.var 1) (.con (.int 0))), (.con (.str ("large" : Str)))])] []), (.ife (.cmp .inn (.ix (.var 1) (.con (.int 0))) (.var 4)) [(.raise ("BadProject" : Str) [(.ix (.var 1) (.con (.int 0))), (.con (.str ("known" : Str)))])] []), (.asg (.sub (.var 4) (.ix (.var 1) (.con (.int 0)))) (.con (.bl true)))])], none⟩
def d_rule_of : Df := ⟨("rule_of" : Str), 2, [("project" : Str), ("target" : Str), ("one" : Str), ("found" : Str)], [(.asg (.nm 3) (.lc [(("one" : Str), 2)] (.var 2) (.nm 2) (.seq (.ix (.var 0) (.con (.int 3)))) (some (.cmp .eq (.ix (.var 2) (.con (.int 0))) (.var 1))))), (.ret (some (.ife (.cmp .eq (.blt .len [(.var 3)]) (.con (.int 1))) (.ix (.var 3) (.con (.int 0))) (.con .non))))], none⟩
def d_parts_of : Df := ⟨("parts_of" : Str), 1, [("project" : Str), ("tree" : Str), ("params" : Str), ("name" : Str)], [(.ret (some (.dc [(("name" : Str), 3), (("params" : Str), 2), (("tree" : Str), 1)] (.var 3) (.tup [(.var 2), (.var 1)]) (.tup [(.nm 3), (.nm 2), (.nm 1)]) (.seq (.ix (.var 0) (.con (.int 2)))) none)))], none⟩
def d_task_step : Df := ⟨("task_step" : Str), 3, [("project" : Str), ("target" : Str), ("known" : Str), ("told" : Str), ("found" : Str), ("task" : Str), ("rule" : Str)], [(.asg (.nm 6) (.call ("rule_of" : Str) [(.var 0), (.var 1)])), (.ife (.cmp .isv (.var 6) (.con .non)) [(.raise ("BadProject" : Str) [(.con .non), (.con (.str ("target" : Str)))])] []), (.asg (.nm 5) (.mk ("Task" : Str) [(.var 0), (.var 2)])), (.tr [(.asg (.nm 4) (.tup [(.con (.str ("made" : Str))), (.mcl (.var 5) ("worth" : Str) [(.ix (.var 6) (.con (.int 3))), (.dct [])])]))] [(("Asks" : Str), some 3, [(.asg (.nm 4) (.tup [(.con (.str ("asks" : Str))), (.efld 3 ("asked" : Str))]))]), (("Fails" : Str), some 3, [(.asg (.nm 4) (.tup [(.con (.str ("failed" : Str))), (.efld 3 ("why" : Str))]))])]), (.ret (some (.bin .add (.var 4) (.tup [(.itms .tuple (.fld (.var 5) ("reads" : Str)))]))))], none⟩
def d_look_at_sources : Df := ⟨("look_at_sources" : Str), 2, [("project" : Str), ("value" : Str), ("name" : Str)], [(.ife (.or (.not (.tru (.isi (.var 1) .dict))) (.not (.tru (.blt .all [(.lok (.var 1) (.lc [(("name" : Str), 2)] (.and (.call ("is_name" : Str) [(.var 2)]) (.call ("is_content" : Str) [(.ix (.var 1) (.var 2))])) (.nm 2) (.dk (.var 1)) none))])))) [(.raise ("BadStore" : Str) [(.con (.str ("sources" : Str)))])] []), (.ife (.tru (.blt .any [(.lok (.var 1) (.lc [(("name" : Str), 2)] (.cmp .isn (.call ("rule_of" : Str) [(.var 0), (.var 2)]) (.con .non)) (.nm 2) (.dk (.var 1)) none))])) [(.raise ("BadStore" : Str) [(.con (.str ("sources" : Str)))])] [])], none⟩
def d_look_at_goals : Df := ⟨("look_at_goals" : Str), 1, [("value" : Str), ("one" : Str)], [(.ife (.or (.not (.tru (.isi (.var 0) .tuple))) (.not (.tru (.blt .all [(.lc [(("one" : Str), 1)] (.call ("is_name" : Str) [(.var 1)]) (.nm 1) (.seq (.var 0)) none)])))) [(.raise ("BadPlan" : Str) [(.con (.str ("goals" : Str)))])] []), (.ife (.cmp .ne (.blt .len [(.dc [(("one" : Str), 1)] (.var 1) (.con (.bl true)) (.nm 1) (.seq (.var 0)) none)]) (.blt .len [(.var 0)])) [(.raise ("BadPlan" : Str) [(.con (.str ("goals" : Str)))])] [])], none⟩
def d_runs_always : Df := ⟨("runs_always" : Str), 2, [("target" : Str), ("known" : Str)], [(.ret (some (.tup [(.con (.str ("run" : Str)))])))], none⟩
def d_bring : Df := ⟨("bring" : Str), 4, [("project" : Str), ("sources" : Str), ("goals" : Str), ("decide" : Str), ("goal" : Str), ("build" : Str)], [(.expr (.call ("look_at_project" : Str) [(.var 0)])), (.expr (.call ("look_at_sources" : Str) [(.var 0), (.var 1)])), (.expr (.call ("look_at_goals" : Str) [(.var 2)])), (.asg (.nm 5) .any), (.fo (.nm 4) (.seq (.var 2)) [(.expr .any)]), (.ret (some (.var 5)))], none⟩
def d_clean : Df := ⟨("clean" : Str), 3, [("project" : Str), ("sources" : Str), ("goals" : Str), ("build" : Str)], [(.asg (.nm 3) (.call ("bring" : Str) [(.var 0), (.var 1), (.var 2), (.fnv ("runs_always" : Str))])), (.ret (some (.tup [(.blt .dict [(.fld (.var 3) ("known" : Str))]), .any])))], none⟩
def d_tokens_of : Df := ⟨("tokens_of" : Str), 1, [("text" : Str), ("at" : Str), ("line" : Str), ("end" : Str), ("sign" : Str), ("found" : Str)], [(.ife (.or (.not (.tru (.isi (.var 0) .str))) (.cmp .gt (.blt .len [(.var 0)]) (.glo ("MOST_SIGNS" : Str)))) [(.raise ("BadText" : Str) [(.con (.int 0)), (.con (.str ("text" : Str)))])] []), (.par [5, 1, 2] [(.lst []), (.con (.int 0)), (.con (.int 1))]), (.whl (.cmp .lt (.var 1) (.blt .len [(.var 0)])) [(.asg (.nm 4) (.ix (.var 0) (.var 1))), (.asg (.nm 3) (.var 1)), (.whl (.and (.cmp .lt (.var 3) (.blt .len [(.var 0)])) (.cmp .inn (.ix (.var 0) (.var 3)) (.glo ("SIGNS" : Str)))) [(.aug 3 .add (.con (.int 1)))]), (.ife (.cmp .gt (.var 3) (.var 1)) [(.ife (.cmp .gt (.bin .sub (.var 3) (.var 1)) (.con (.int 8))) [(.raise ("BadText" : Str) [(.var 2), (.con (.str ("long" : Str)))])] []), (.expr (.mth .append (.var 5) [(.tup [(.sl (.var 0) (some (.var 1)) (some (.var 3))), (.var 2)])])), (.asg (.nm 1) (.var 3)), .cnt] []), (.ife (.cmp .inn (.var 4) (.glo ("MARKS" : Str))) [(.expr (.mth .append (.var 5) [(.tup [(.var 4), (.var 2)])]))] [(.ife (.cmp .eq (.var 4) (.con (.str ("\n" : Str)))) [(.aug 2 .add (.con (.int 1)))] [(.ife (.cmp .ne (.var 4) (.con (.str (" " : Str)))) [(.raise ("BadText" : Str) [(.var 2), (.con (.str ("sign" : Str)))])] [])])]), (.aug 1 .add (.con (.int 1)))]), (.ret (some (.var 5)))], none⟩
def d_read_project : Df := ⟨("read_project" : Str), 1, [("text" : Str), ("found" : Str)], [(.asg (.nm 1) (.mcl (.mk ("Reader" : Str) [(.call ("tokens_of" : Str) [(.var 0)])]) ("whole" : Str) [])), (.expr (.call ("look_at_project" : Str) [(.var 1)])), (.ret (some (.var 1)))], none⟩
def d__law_draws : Df := ⟨("_law_draws" : Str), 1, [("script" : Str)], [(.ret (some (.lst [(.blt .list [(.var 0)]), (.con (.int 0)), (.con (.int 0)), (.con (.int 1))])))], none⟩
def d__law_draw : Df := ⟨("_law_draw" : Str), 2, [("draws" : Str), ("limit" : Str), ("value" : Str), ("cell" : Str)], [(.ife (.and (.cmp .eq (.ix (.var 0) (.con (.int 2))) (.con (.int 0))) (.cmp .lt (.ix (.var 0) (.con (.int 1))) (.blt .len [(.ix (.var 0) (.con (.int 0)))]))) [(.asg (.nm 3) (.ix (.ix (.var 0) (.con (.int 0))) (.ix (.var 0) (.con (.int 1))))), (.asg (.sub (.var 0) (.con (.int 1))) (.bin .add (.ix (.var 0) (.con (.int 1))) (.con (.int 1)))), (.ife (.cmp .ge (.var 3) (.bin .pow (.con (.int 10)) (.con (.int 18)))) [(.asg (.sub (.var 0) (.con (.int 2))) (.var 3))] []), (.asg (.sub (.var 0) (.con (.int 3))) (.bin .mod (.blt .int [(.bin .add (.bin .add (.bin .mul (.ix (.var 0) (.con (.int 3))) (.con (.int 48271))) (.var 3)) (.con (.int 13)))]) (.con (.int 2147483647))))] []), (.ife (.cmp .gt (.ix (.var 0) (.con (.int 2))) (.con (.int 0))) [(.asg (.nm 2) (.bin .mod (.blt .int [(.ix (.var 0) (.con (.int 2)))]) (.var 1))), (.asg (.sub (.var 0) (.con (.int 2))) (.bin .fdiv (.ix (.var 0) (.con (.int 2))) (.var 1))), (.ret (some (.var 2)))] []), (.asg (.sub (.var 0) (.con (.int 3))) (.bin .mod (.blt .int [(.bin .add (.bin .mul (.ix (.var 0) (.con (.int 3))) (.con (.int 69621))) (.con (.int 7)))]) (.con (.int 2147483629)))), (.ret (some (.bin .mod (.blt .int [(.bin .fdiv (.ix (.var 0) (.con (.int 3))) (.con (.int 11)))]) (.var 1))))], none⟩
def d__law_pick : Df := ⟨("_law_pick" : Str), 2, [("draws" : Str), ("row" : Str)], [(.ret (some (.ix (.var 1) (.call ("_law_draw" : Str) [(.var 0), (.blt .len [(.var 1)])]))))], none⟩
def d__law_same : Df := ⟨("_law_same" : Str), 2, [("actual" : Str), ("expected" : Str), ("k" : Str)], [(.ife (.or (.tru (.isi (.var 1) .tuple)) (.tru (.isi (.var 1) .list))) [(.ife (.or (.cmp .ne (.isi (.var 0) .tuple) (.isi (.var 1) .tuple)) (.cmp .ne (.isi (.var 0) .list) (.isi (.var 1) .list))) [(.ret (some (.con (.bl false))))] []), (.ife (.cmp .ne (.blt .len [(.var 0)]) (.blt .len [(.var 1)])) [(.ret (some (.con (.bl false))))] []), (.ret (some (.cmp .eq (.blt .len [(.lc [(("k" : Str), 2)] (.var 2) (.nm 2) (.range [(.blt .len [(.var 1)])]) (some (.not (.tru (.call ("_law_same" : Str) [(.ix (.var 0) (.var 2)), (.ix (.var 1) (.var 2))])))))]) (.con (.int 0)))))] []), (.ife (.or (.tru (.isi (.var 1) .bool)) (.tru (.isi (.var 0) .bool))) [(.ret (some (.and (.isi (.var 1) .bool) (.and (.isi (.var 0) .bool) (.cmp .eq (.var 0) (.var 1))))))] []), (.ife (.or (.cmp .isv (.var 1) (.con .non)) (.cmp .isv (.var 0) (.con .non))) [(.ret (some (.and (.cmp .isv (.var 1) (.con .non)) (.cmp .isv (.var 0) (.con .non)))))] []), (.ife (.or (.tru (.isi (.var 1) .str)) (.tru (.isi (.var 0) .str))) [(.ret (some (.and (.isi (.var 1) .str) (.and (.isi (.var 0) .str) (.cmp .eq (.var 0) (.var 1))))))] []), (.ret (some (.and (.isi (.var 0) .int) (.and (.isi (.var 1) .int) (.cmp .eq (.var 0) (.var 1))))))], none⟩
def d__law_words : Df := ⟨("_law_words" : Str), 2, [("draws" : Str), ("many" : Str), ("k" : Str)], [(.ret (some (.blt .tuple [(.lc [(("k" : Str), 2)] (.call ("_law_pick" : Str) [(.var 0), (.lst [(.con (.str ("a" : Str))), (.con (.str ("b" : Str))), (.con (.str ("c10" : Str))), (.con (.str ("7" : Str))), (.con (.str ("zzzzzzzz" : Str))), (.con (.str ("x1" : Str))), (.con (.str ("10" : Str))), (.con (.str ("9" : Str)))])]) (.nm 2) (.range [(.var 1)]) none)])))], none⟩
def d__law_error : Df := ⟨("_law_error" : Str), 1, [("k" : Str), ("e" : Str), ("word" : Str), ("project" : Str)], [(.asg (.tup [(.nm 2), (.nm 3)]) (.tup [(.con (.str ("none" : Str))), (.tup [(.con (.str ("project" : Str))), (.tup []), (.tup []), (.tup [])])])), (.tr [(.ife (.cmp .eq (.var 0) (.con (.int 0))) [(.expr (.call ("read_project" : Str) [(.con .non)]))] [(.ife (.cmp .eq (.var 0) (.con (.int 1))) [(.expr (.call ("look_at_project" : Str) [(.con .non)]))] [(.ife (.cmp .eq (.var 0) (.con (.int 2))) [(.expr (.call ("clean" : Str) [(.var 3), (.con .non), (.tup [])]))] [(.expr (.call ("clean" : Str) [(.var 3), (.dct []), (.con .non)]))])])])] [(("RemadeError" : Str), some 1, [(.asg (.nm 2) (.ife (.tru (.eisi 1 ("BadText" : Str))) (.con (.str ("text" : Str))) (.ife (.tru (.eisi 1 ("BadProject" : Str))) (.con (.str ("project" : Str))) (.ife (.tru (.eisi 1 ("BadStore" : Str))) (.con (.str ("store" : Str))) (.ife (.tru (.eisi 1 ("BadPlan" : Str))) (.con (.str ("plan" : Str))) (.con (.str ("other" : Str)))))))), (.asg (.nm 2) (.ife (.and (.tru (.eisi 1 ("ValueError" : Str))) (.not (.tru (.eisi 1 ("Refused" : Str))))) (.var 2) (.con (.str ("none" : Str)))))])]), (.ret (some (.var 2)))], none⟩
def d__law_made : Df := ⟨("_law_made" : Str), 1, [("tree" : Str)], [(.ret (some (.call ("task_step" : Str) [(.tup [(.con (.str ("project" : Str))), (.tup []), (.tup []), (.tup [(.tup [(.con (.str ("t" : Str))), (.tup []), (.con (.int 1)), (.var 0)])])]), (.con (.str ("t" : Str))), (.dct [])])))], none⟩
def d_law : Df := ⟨("law" : Str), 1, [("script" : Str), ("one" : Str), ("words" : Str), ("state" : Str), ("bad" : Str), ("good" : Str), ("made" : Str), ("word" : Str), ("tells" : Str), ("k" : Str), ("back" : Str), ("first" : Str), ("due" : Str), ("whole" : Str), ("two" : Str), ("turn" : Str), ("draws" : Str)], [(.asg (.nm 16) (.call ("_law_draws" : Str) [(.var 0)])), (.ife (.cmp .ne (.lc [(("k" : Str), 9)] (.call ("_law_error" : Str) [(.var 9)]) (.nm 9) (.range [(.con (.int 4))]) none) (.lst [(.con (.str ("text" : Str))), (.con (.str ("project" : Str))), (.con (.str ("store" : Str))), (.con (.str ("plan" : Str)))])) [(.ret (some (.con (.bl false))))] []), (.fo (.nm 15) (.range [(.con (.int 3))]) [(.asg (.tup [(.nm 1), (.nm 14)]) (.tup [(.call ("_law_words" : Str) [(.var 16), (.call ("_law_pick" : Str) [(.var 16), (.lst [(.con (.int 0)), (.con (.int 1)), (.con (.int 3)), (.con (.int 20)), (.con (.int 39)), (.con (.int 40))])])]), (.call ("_law_words" : Str) [(.var 16), (.call ("_law_pick" : Str) [(.var 16), (.lst [(.con (.int 0)), (.con (.int 1)), (.con (.int 2)), (.con (.int 20))])])])])), (.asg (.nm 13) (.bin .add (.var 1) (.var 14))), (.ife (.or (.not (.tru (.call ("_law_same" : Str) [(.call ("joined" : Str) [(.var 1), (.var 14)]), (.ife (.cmp .le (.blt .len [(.var 13)]) (.con (.int 40))) (.var 13) (.con .non))]))) (.cmp .isn (.call ("is_content" : Str) [(.var 1)]) (.con (.bl true)))) [(.ret (some (.con (.bl false))))] []), (.asg (.nm 12) (.ife (.cmp .le (.blt .len [(.var 13)]) (.con (.int 40))) (.tup [(.con (.str ("made" : Str))), (.var 13)]) (.tup [(.con (.str ("failed" : Str))), (.tup [(.con (.str ("long" : Str)))])]))), (.ife (.not (.tru (.call ("_law_same" : Str) [(.call ("_law_made" : Str) [(.tup [(.con (.str ("join" : Str))), (.tup [(.con (.str ("words" : Str))), (.var 1)]), (.tup [(.con (.str ("words" : Str))), (.var 14)])])]), (.bin .add (.var 12) (.tup [(.tup [])]))]))) [(.ret (some (.con (.bl false))))] []), (.asg (.nm 11) (.blt .tuple [(.lc [(("k" : Str), 9)] (.ix (.var 1) (.var 9)) (.nm 9) (.range [(.blt .len [(.var 1)])]) (some (.cmp .nin (.ix (.var 1) (.var 9)) (.sl (.var 1) none (some (.var 9))))))])), (.asg (.nm 10) (.blt .tuple [(.lc [(("k" : Str), 9)] (.ix (.var 1) (.bin .sub (.bin .sub (.blt .len [(.var 1)]) (.con (.int 1))) (.var 9))) (.nm 9) (.range [(.blt .len [(.var 1)])]) none)])), (.ife (.not (.tru (.call ("_law_same" : Str) [(.tup [(.call ("once" : Str) [(.var 1)]), (.call ("turned" : Str) [(.var 1)]), (.call ("counted" : Str) [(.var 1)])]), (.tup [(.var 11), (.var 10), (.tup [(.blt .str [(.blt .len [(.var 1)])])])])]))) [(.ret (some (.con (.bl false))))] []), (.asg (.nm 8) (.lst [(.tup [(.con (.str ("once" : Str))), (.var 11)]), (.tup [(.con (.str ("turned" : Str))), (.var 10)]), (.tup [(.con (.str ("count" : Str))), (.tup [(.blt .str [(.blt .len [(.var 1)])])])]), (.tup [(.con (.str ("sorted" : Str))), (.blt .tuple [(.blt .sorted [(.var 1)])])]), (.tup [(.con (.str ("first" : Str))), (.sl (.var 1) none (some (.con (.int 1))))]), (.tup [(.con (.str ("rest" : Str))), (.sl (.var 1) (some (.con (.int 1))) none)])])), (.fo (.tup [(.nm 7), (.nm 6)]) (.seq (.var 8)) [(.ife (.not (.tru (.call ("_law_same" : Str) [(.call ("_law_made" : Str) [(.tup [(.var 7), (.tup [(.con (.str ("words" : Str))), (.var 1)])])]), (.tup [(.con (.str ("made" : Str))), (.var 6), (.tup [])])]))) [(.ret (some (.con (.bl false))))] [])]), (.ife (.or (.not (.tru (.call ("_law_same" : Str) [(.call ("_law_made" : Str) [(.tup [(.con (.str ("fail" : Str))), (.tup [(.con (.str ("words" : Str))), (.var 1)])])]), (.tup [(.con (.str ("failed" : Str))), (.tup [(.con (.str ("fail" : Str))), (.var 1)]), (.tup [])])]))) (.or (.cmp .isn (.call ("is_state" : Str) [(.tup [(.con (.str ("made" : Str))), (.var 1)])]) (.con (.bl true))) (.cmp .isn (.call ("is_result" : Str) [(.tup [(.con (.str ("made" : Str))), (.var 1)])]) (.con (.bl true))))) [(.ret (some (.con (.bl false))))] []), (.ife (.or (.not (.tru (.call ("_law_same" : Str) [(.call ("is_content" : Str) [(.bin .add (.var 1) (.tup [(.con (.str ("a" : Str)))]))]), (.cmp .lt (.blt .len [(.var 1)]) (.con (.int 40)))]))) (.or (.cmp .isn (.call ("is_content" : Str) [(.blt .list [(.var 1)])]) (.con (.bl false))) (.cmp .isn (.call ("is_content" : Str) [(.bin .add (.sl (.var 1) none (some (.con (.int 39)))) (.tup [(.con (.int 1))]))]) (.con (.bl false))))) [(.ret (some (.con (.bl false))))] [])]), (.asg (.nm 5) (.lst [(.tup [(.con (.str ("made" : Str))), (.tup [])]), (.tup [(.con (.str ("failed" : Str))), (.tup [(.con (.str ("fail" : Str))), (.tup [(.con (.str ("a" : Str)))])])]), (.tup [(.con (.str ("failed" : Str))), (.tup [(.con (.str ("name" : Str)))])]), (.tup [(.con (.str ("failed" : Str))), (.tup [(.con (.str ("long" : Str)))])]), (.tup [(.con (.str ("failed" : Str))), (.tup [(.con (.str ("absent" : Str))), (.con (.str ("a" : Str)))])]), (.tup [(.con (.str ("failed" : Str))), (.tup [(.con (.str ("below" : Str))), (.con (.str ("9" : Str)))])]), (.tup [(.con (.str ("failed" : Str))), (.tup [(.con (.str ("ring" : Str)))])])])), (.fo (.nm 3) (.seq (.bin .add (.var 5) (.lst [(.tup [(.con (.str ("absent" : Str)))])]))) [(.ife (.or (.cmp .isn (.call ("is_state" : Str) [(.var 3)]) (.con (.bl true))) (.not (.tru (.call ("_law_same" : Str) [(.call ("is_result" : Str) [(.var 3)]), (.cmp .ne (.var 3) (.tup [(.con (.str ("absent" : Str)))]))])))) [(.ret (some (.con (.bl false))))] []), (.ife (.and (.cmp .eq (.ix (.var 3) (.con (.int 0))) (.con (.str ("failed" : Str)))) (.cmp .isn (.call ("is_why" : Str) [(.ix (.var 3) (.con (.int 1)))]) (.con (.bl true)))) [(.ret (some (.con (.bl false))))] [])]), (.asg (.nm 4) (.lst [(.con .non), (.tup []), (.con (.str ("absent" : Str))), (.tup [(.con (.str ("absent" : Str))), (.con (.str ("a" : Str)))]), (.tup [(.con (.str ("made" : Str)))]), (.tup [(.con (.str ("made" : Str))), (.tup [(.con (.str ("A" : Str)))])]), (.tup [(.con (.str ("made" : Str))), (.lst [(.con (.str ("a" : Str)))])]), (.tup [(.con (.str ("failed" : Str)))]), (.tup [(.con (.str ("failed" : Str))), (.con (.str ("ring" : Str)))]), (.tup [(.con (.str ("failed" : Str))), (.tup [(.con (.str ("ring" : Str))), (.con (.str ("a" : Str)))])])])), (.asg (.nm 4) (.bin .add (.var 4) (.lst [(.tup [(.con (.str ("failed" : Str))), (.tup [(.con (.str ("below" : Str)))])]), (.tup [(.con (.str ("failed" : Str))), (.tup [(.con (.str ("absent" : Str))), (.con (.str ("" : Str)))])]), (.tup [(.con (.str ("failed" : Str))), (.tup [(.con (.str ("fail" : Str))), (.con (.str ("a" : Str)))])])]))), (.fo (.nm 3) (.seq (.bin .add (.var 4) (.lst [(.lst [(.con (.str ("made" : Str))), (.tup [])]), (.tup [(.con (.str ("failed" : Str))), (.tup [(.con (.str ("odd" : Str)))])]), (.tup [(.con (.int 1)), (.tup [])]), (.tup [(.con (.str ("failed" : Str))), (.tup [(.con (.str ("below" : Str))), (.con (.str ("abcdefghi" : Str)))])]), (.tup [(.con (.str ("failed" : Str))), (.tup [])])]))) [(.ife (.or (.cmp .isn (.call ("is_state" : Str) [(.var 3)]) (.con (.bl false))) (.cmp .isn (.call ("is_result" : Str) [(.var 3)]) (.con (.bl false)))) [(.ret (some (.con (.bl false))))] [])]), (.asg (.nm 2) (.lc [(("one" : Str), 1)] (.call ("is_word" : Str) [(.var 1)]) (.nm 1) (.seq (.tup [(.con (.str ("a" : Str))), (.con (.str ("abcdefgh" : Str))), (.con (.str ("0" : Str))), (.con (.str ("abcdefghi" : Str))), (.con (.str ("" : Str))), (.con (.str ("A" : Str))), (.con (.str ("a b" : Str))), (.con (.str ("a-" : Str))), (.con .non), (.con (.int 1)), (.tup [(.con (.str ("a" : Str)))])])) none)), (.ife (.or (.cmp .ne (.var 2) (.bin .add (.lst [(.con (.bl true)), (.con (.bl true)), (.con (.bl true))]) (.bin .mul (.lst [(.con (.bl false))]) (.con (.int 8))))) (.cmp .ne (.lc [(("one" : Str), 1)] (.call ("is_whole" : Str) [(.var 1)]) (.nm 1) (.seq (.tup [(.con (.int 0)), (.neg (.con (.int 5))), (.con (.bl true)), (.con .non), (.con (.str ("1" : Str)))])) none) (.lst [(.con (.bl true)), (.con (.bl true)), (.con (.bl false)), (.con (.bl false)), (.con (.bl false))]))) [(.ret (some (.con (.bl false))))] []), (.ret (some (.cmp .isv (.call ("rule_of" : Str) [(.tup [(.con (.str ("project" : Str))), (.tup []), (.tup []), (.tup [(.tup [(.con (.str ("t" : Str))), (.tup []), (.con (.int 1)), (.tup [(.con (.str ("words" : Str))), (.tup [])])])])]), (.con (.str ("u" : Str)))]) (.con .non))))], none⟩
def d_Task___init__ : Df := ⟨("Task.__init__" : Str), 3, [("self" : Str), ("project" : Str), ("known" : Str)], [(.fst (.var 0) ("parts" : Str) (.call ("parts_of" : Str) [(.var 1)])), (.fst (.var 0) ("known" : Str) (.var 2)), (.fst (.var 0) ("reads" : Str) (.dct []))], (some (("Task" : Str), ("__init__" : Str)))⟩
def d_Task_worth : Df := ⟨("Task.worth" : Str), 3, [("self" : Str), ("tree" : Str), ("names" : Str), ("one" : Str), ("handed" : Str), ("body" : Str), ("params" : Str), ("within" : Str)], [(.ife (.cmp .eq (.ix (.var 1) (.con (.int 0))) (.con (.str ("words" : Str)))) [(.ret (some (.ix (.var 1) (.con (.int 1)))))] []), (.ife (.cmp .eq (.ix (.var 1) (.con (.int 0))) (.con (.str ("name" : Str)))) [(.ret (some (.ix (.var 2) (.ix (.var 1) (.con (.int 1))))))] []), (.ife (.cmp .eq (.ix (.var 1) (.con (.int 0))) (.con (.str ("let" : Str)))) [(.asg (.nm 7) (.blt .dict [(.var 2)])), (.asg (.sub (.var 7) (.ix (.var 1) (.con (.int 1)))) (.mcl (.var 0) ("worth" : Str) [(.ix (.var 1) (.con (.int 2))), (.var 2)])), (.ret (some (.mcl (.var 0) ("worth" : Str) [(.ix (.var 1) (.con (.int 3))), (.var 7)])))] []), (.ife (.cmp .eq (.ix (.var 1) (.con (.int 0))) (.con (.str ("if" : Str)))) [(.ret (some (.mcl (.var 0) ("worth" : Str) [(.ife (.tru (.mcl (.var 0) ("holds" : Str) [(.ix (.var 1) (.con (.int 1))), (.var 2)])) (.ix (.var 1) (.con (.int 2))) (.ix (.var 1) (.con (.int 3)))), (.var 2)])))] []), (.ife (.cmp .eq (.ix (.var 1) (.con (.int 0))) (.con (.str ("call" : Str)))) [(.asg (.tup [(.nm 6), (.nm 5)]) (.ix (.fld (.var 0) ("parts" : Str)) (.ix (.var 1) (.con (.int 1))))), (.asg (.nm 4) (.lc [(("one" : Str), 3)] (.mcl (.var 0) ("worth" : Str) [(.var 3), (.var 2)]) (.nm 3) (.seq (.ix (.var 1) (.con (.int 2)))) none)), (.ret (some (.mcl (.var 0) ("worth" : Str) [(.var 5), (.blt .dict [.any])])))] []), (.ife (.cmp .eq (.ix (.var 1) (.con (.int 0))) (.con (.str ("join" : Str)))) [(.asg (.nm 3) (.mcl (.var 0) ("worth" : Str) [(.ix (.var 1) (.con (.int 1))), (.var 2)])), (.ret (some (.mcl (.var 0) ("kept" : Str) [(.call ("joined" : Str) [(.var 3), (.mcl (.var 0) ("worth" : Str) [(.ix (.var 1) (.con (.int 2))), (.var 2)])])])))] []), (.ret (some (.mcl (.var 0) ("single" : Str) [(.ix (.var 1) (.con (.int 0))), (.mcl (.var 0) ("worth" : Str) [(.ix (.var 1) (.con (.int 1))), (.var 2)])])))], (some (("Task" : Str), ("worth" : Str)))⟩
def d_Task_kept : Df := ⟨("Task.kept" : Str), 2, [("self" : Str), ("content" : Str)], [(.ife (.cmp .isv (.var 1) (.con .non)) [(.raise ("Fails" : Str) [(.tup [(.con (.str ("long" : Str)))])])] []), (.ret (some (.var 1)))], (some (("Task" : Str), ("kept" : Str)))⟩
def d_Task_single : Df := ⟨("Task.single" : Str), 3, [("self" : Str), ("word" : Str), ("content" : Str), ("found" : Str), ("name" : Str)], [(.ife (.cmp .eq (.var 1) (.con (.str ("read" : Str)))) [(.ife (.cmp .ne (.blt .len [(.var 2)]) (.con (.int 1))) [(.raise ("Fails" : Str) [(.tup [(.con (.str ("name" : Str)))])])] []), (.ret (some (.mcl (.var 0) ("read" : Str) [(.ix (.var 2) (.con (.int 0)))])))] []), (.ife (.cmp .eq (.var 1) (.con (.str ("all" : Str)))) [(.asg (.nm 3) (.tup [])), (.fo (.nm 4) (.seq (.var 2)) [(.asg (.nm 3) (.mcl (.var 0) ("kept" : Str) [(.call ("joined" : Str) [(.var 3), (.mcl (.var 0) ("read" : Str) [(.var 4)])])]))]), (.ret (some (.var 3)))] []), (.ife (.cmp .eq (.var 1) (.con (.str ("fail" : Str)))) [(.raise ("Fails" : Str) [(.tup [(.con (.str ("fail" : Str))), (.var 2)])])] []), (.ife (.cmp .inn (.var 1) (.tup [(.con (.str ("first" : Str))), (.con (.str ("rest" : Str)))])) [(.ret (some (.ife (.cmp .eq (.var 1) (.con (.str ("first" : Str)))) (.sl (.var 2) none (some (.con (.int 1)))) (.sl (.var 2) (some (.con (.int 1))) none))))] []), (.ife (.cmp .eq (.var 1) (.con (.str ("sorted" : Str)))) [(.ret (some (.blt .tuple [(.blt .sorted [(.var 2)])])))] []), (.ret (some (.callx (.ix (.dct [(.con (.str ("turned" : Str))), (.fnv ("turned" : Str)), (.con (.str ("once" : Str))), (.fnv ("once" : Str)), (.con (.str ("count" : Str))), (.fnv ("counted" : Str))]) (.var 1)) [(.var 2)])))], (some (("Task" : Str), ("single" : Str)))⟩
def d_Reader___init__ : Df := ⟨("Reader.__init__" : Str), 2, [("self" : Str), ("tokens" : Str)], [(.fst (.var 0) ("tokens" : Str) (.var 1)), (.fst (.var 0) ("at" : Str) (.con (.int 0))), (.fst (.var 0) ("deep" : Str) (.con (.int 0))), (.fst (.var 0) ("files" : Str) (.lst [])), (.fst (.var 0) ("parts" : Str) (.lst [])), (.fst (.var 0) ("rules" : Str) (.lst []))], (some (("Reader" : Str), ("__init__" : Str)))⟩
def ds : List Df := [d_is_whole, d_is_word, d_is_content, d_is_why, d_is_state, d_is_result, d_joined, d_once, d_turned, d_counted, d_is_name, d_look_at_project, d_rule_of, d_parts_of, d_task_step, d_look_at_sources, d_look_at_goals, d_runs_always, d_bring, d_clean, d_tokens_of, d_read_project, d__law_draws, d__law_draw, d__law_pick, d__law_same, d__law_words, d__law_error, d__law_made, d_law, d_Task___init__, d_Task_worth, d_Task_kept, d_Task_single, d_Reader___init__]
def fns : List He.DefD := [mkD ("is_whole" : Str) 5, mkD ("is_word" : Str) 6, mkD ("is_content" : Str) 7, mkD ("is_why" : Str) 8, mkD ("is_state" : Str) 9, mkD ("is_result" : Str) 10, mkD ("joined" : Str) 11, mkD ("once" : Str) 12, mkD ("turned" : Str) 13, mkD ("counted" : Str) 14, mkD ("is_name" : Str) 32, mkD ("look_at_project" : Str) 38, mkD ("rule_of" : Str) 42, mkD ("parts_of" : Str) 43, mkD ("task_step" : Str) 49, mkD ("look_at_sources" : Str) 52, mkD ("look_at_goals" : Str) 53, mkD ("runs_always" : Str) 54, mkD ("bring" : Str) 56, mkD ("clean" : Str) 57, mkD ("tokens_of" : Str) 62, mkD ("read_project" : Str) 64, mkD ("_law_draws" : Str) 66, mkD ("_law_draw" : Str) 67, mkD ("_law_pick" : Str) 68, mkD ("_law_same" : Str) 69, mkD ("_law_words" : Str) 70, mkD ("_law_error" : Str) 71, mkD ("_law_made" : Str) 72, mkD ("law" : Str) 73, mkM ("Task" : Str) ("__init__" : Str) ("Task.__init__" : Str) 48 0, mkM ("Task" : Str) ("worth" : Str) ("Task.worth" : Str) 48 1, mkM ("Task" : Str) ("kept" : Str) ("Task.kept" : Str) 48 2, mkM ("Task" : Str) ("single" : Str) ("Task.single" : Str) 48 3, mkM ("Reader" : Str) ("__init__" : Str) ("Reader.__init__" : Str) 63 0]
def inis : List Ini := [⟨("BadText" : Str), [("line" : Str), ("word" : Str)], ("RemadeError" : Str), ("self" : Str), [("line" : Str), ("word" : Str)], [1, 2], mkI ("BadText" : Str) ("BadText.__init__" : Str) 17 0⟩, ⟨("BadProject" : Str), [("place" : Str), ("word" : Str)], ("RemadeError" : Str), ("self" : Str), [("place" : Str), ("word" : Str)], [1, 2], mkI ("BadProject" : Str) ("BadProject.__init__" : Str) 18 0⟩, ⟨("BadStore" : Str), [("word" : Str)], ("RemadeError" : Str), ("self" : Str), [("word" : Str)], [1], mkI ("BadStore" : Str) ("BadStore.__init__" : Str) 19 0⟩, ⟨("BadPlan" : Str), [("word" : Str)], ("RemadeError" : Str), ("self" : Str), [("word" : Str)], [1], mkI ("BadPlan" : Str) ("BadPlan.__init__" : Str) 20 0⟩, ⟨("Refused" : Str), [("word" : Str)], ("RemadeError" : Str), ("self" : Str), [("word" : Str)], [1], mkI ("Refused" : Str) ("Refused.__init__" : Str) 21 0⟩, ⟨("Asks" : Str), [("asked" : Str)], ("Exception" : Str), ("self" : Str), [("name" : Str)], [1], mkI ("Asks" : Str) ("Asks.__init__" : Str) 46 0⟩, ⟨("Fails" : Str), [("why" : Str)], ("Exception" : Str), ("self" : Str), [("why" : Str)], [1], mkI ("Fails" : Str) ("Fails.__init__" : Str) 47 0⟩]
def cfg : Cfg := { ds := ds, fns := fns, free := [("all" : Str), ("any" : Str), ("bool" : Str), ("dict" : Str), ("int" : Str), ("isinstance" : Str), ("len" : Str), ("list" : Str), ("range" : Str), ("sorted" : Str), ("str" : Str), ("tuple" : Str)], cons := [(("MARKS" : Str), (.str ("=;,()[]+" : Str))), (("MOST_FILES" : Str), (.int 12)), (("MOST_PARTS" : Str), (.int 6)), (("MOST_RULES" : Str), (.int 16)), (("MOST_SIGNS" : Str), (.int 8000)), (("MOST_WORDS" : Str), (.int 40)), (("RESERVED" : Str), (.tup [(.str ("file" : Str)), (.str ("part" : Str)), (.str ("rule" : Str)), (.str ("from" : Str)), (.str ("takes" : Str)), (.str ("read" : Str)), (.str ("all" : Str)), (.str ("first" : Str)), (.str ("rest" : Str)), (.str ("turned" : Str)), (.str ("sorted" : Str)), (.str ("once" : Str)), (.str ("count" : Str)), (.str ("if" : Str)), (.str ("same" : Str)), (.str ("has" : Str)), (.str ("empty" : Str)), (.str ("then" : Str)), (.str ("else" : Str)), (.str ("let" : Str)), (.str ("in" : Str)), (.str ("fail" : Str))])), (("SIGNS" : Str), (.str ("abcdefghijklmnopqrstuvwxyz0123456789" : Str))), (("WHYS" : Str), (.tup [(.str ("fail" : Str)), (.str ("name" : Str)), (.str ("long" : Str)), (.str ("absent" : Str)), (.str ("below" : Str)), (.str ("ring" : Str))]))], cls := [("Asks" : Str), ("BadPlan" : Str), ("BadProject" : Str), ("BadStore" : Str), ("BadText" : Str), ("Fails" : Str), ("Refused" : Str), ("RemadeError" : Str), ("ValueError" : Str)], inis := inis, isx := [(("BadText" : Str), ("Asks" : Str), false), (("BadText" : Str), ("BadPlan" : Str), false), (("BadText" : Str), ("BadProject" : Str), false), (("BadText" : Str), ("BadStore" : Str), false), (("BadText" : Str), ("BadText" : Str), true), (("BadText" : Str), ("Fails" : Str), false), (("BadText" : Str), ("Refused" : Str), false), (("BadText" : Str), ("RemadeError" : Str), true), (("BadText" : Str), ("ValueError" : Str), true), (("BadProject" : Str), ("Asks" : Str), false), (("BadProject" : Str), ("BadPlan" : Str), false), (("BadProject" : Str), ("BadProject" : Str), true), (("BadProject" : Str), ("BadStore" : Str), false), (("BadProject" : Str), ("BadText" : Str), false), (("BadProject" : Str), ("Fails" : Str), false), (("BadProject" : Str), ("Refused" : Str), false), (("BadProject" : Str), ("RemadeError" : Str), true), (("BadProject" : Str), ("ValueError" : Str), true), (("BadStore" : Str), ("Asks" : Str), false), (("BadStore" : Str), ("BadPlan" : Str), false), (("BadStore" : Str), ("BadProject" : Str), false), (("BadStore" : Str), ("BadStore" : Str), true), (("BadStore" : Str), ("BadText" : Str), false), (("BadStore" : Str), ("Fails" : Str), false), (("BadStore" : Str), ("Refused" : Str), false), (("BadStore" : Str), ("RemadeError" : Str), true), (("BadStore" : Str), ("ValueError" : Str), true), (("BadPlan" : Str), ("Asks" : Str), false), (("BadPlan" : Str), ("BadPlan" : Str), true), (("BadPlan" : Str), ("BadProject" : Str), false), (("BadPlan" : Str), ("BadStore" : Str), false), (("BadPlan" : Str), ("BadText" : Str), false), (("BadPlan" : Str), ("Fails" : Str), false), (("BadPlan" : Str), ("Refused" : Str), false), (("BadPlan" : Str), ("RemadeError" : Str), true), (("BadPlan" : Str), ("ValueError" : Str), true), (("Refused" : Str), ("Asks" : Str), false), (("Refused" : Str), ("BadPlan" : Str), false), (("Refused" : Str), ("BadProject" : Str), false), (("Refused" : Str), ("BadStore" : Str), false), (("Refused" : Str), ("BadText" : Str), false), (("Refused" : Str), ("Fails" : Str), false), (("Refused" : Str), ("Refused" : Str), true), (("Refused" : Str), ("RemadeError" : Str), true), (("Refused" : Str), ("ValueError" : Str), true), (("Asks" : Str), ("Asks" : Str), true), (("Asks" : Str), ("BadPlan" : Str), false), (("Asks" : Str), ("BadProject" : Str), false), (("Asks" : Str), ("BadStore" : Str), false), (("Asks" : Str), ("BadText" : Str), false), (("Asks" : Str), ("Fails" : Str), false), (("Asks" : Str), ("Refused" : Str), false), (("Asks" : Str), ("RemadeError" : Str), false), (("Asks" : Str), ("ValueError" : Str), false), (("Fails" : Str), ("Asks" : Str), false), (("Fails" : Str), ("BadPlan" : Str), false), (("Fails" : Str), ("BadProject" : Str), false), (("Fails" : Str), ("BadStore" : Str), false), (("Fails" : Str), ("BadText" : Str), false), (("Fails" : Str), ("Fails" : Str), true), (("Fails" : Str), ("Refused" : Str), false), (("Fails" : Str), ("RemadeError" : Str), false), (("Fails" : Str), ("ValueError" : Str), false)], fuel := 200, mts := [(("Task" : Str), ("worth" : Str), ("Task.worth" : Str)), (("Task" : Str), ("kept" : Str), ("Task.kept" : Str)), (("Task" : Str), ("single" : Str), ("Task.single" : Str))], cfs := [(("Task" : Str), ("parts" : Str)), (("Task" : Str), ("known" : Str)), (("Task" : Str), ("reads" : Str)), (("Reader" : Str), ("tokens" : Str)), (("Reader" : Str), ("at" : Str)), (("Reader" : Str), ("deep" : Str)), (("Reader" : Str), ("files" : Str)), (("Reader" : Str), ("parts" : Str)), (("Reader" : Str), ("rules" : Str))], mks := [(("Task" : Str), ("Task.__init__" : Str)), (("Reader" : Str), ("Reader.__init__" : Str))] }
theorem hdefs : DefsOk cfg.G cfg.ds cfg.fns := by
  refine .cons (by decide +kernel) (fun _ _ _ _ _ _ us hl => match us, hl with | [_], _ => rfl) (.cons (by decide +kernel) (fun _ _ _ _ _ _ us hl => match us, hl with | [_], _ => rfl) (.cons (by decide +kernel) (fun _ _ _ _ _ _ us hl => match us, hl with | [_], _ => rfl) (.cons (by decide +kernel) (fun _ _ _ _ _ _ us hl => match us, hl with | [_], _ => rfl) (.cons (by decide +kernel) (fun _ _ _ _ _ _ us hl => match us, hl with | [_], _ => rfl) (.cons (by decide +kernel) (fun _ _ _ _ _ _ us hl => match us, hl with | [_], _ => rfl) (.cons (by decide +kernel) (fun _ _ _ _ _ _ us hl => match us, hl with | [_, _], _ => rfl) (.cons (by decide +kernel) (fun _ _ _ _ _ _ us hl => match us, hl with | [_], _ => rfl) (.cons (by decide +kernel) (fun _ _ _ _ _ _ us hl => match us, hl with | [_], _ => rfl) (.cons (by decide +kernel) (fun _ _ _ _ _ _ us hl => match us, hl with | [_], _ => rfl) (.cons (by decide +kernel) (fun _ _ _ _ _ _ us hl => match us, hl with | [_], _ => rfl) (.cons (by decide +kernel) (fun _ _ _ _ _ _ us hl => match us, hl with | [_], _ => rfl) (.cons (by decide +kernel) (fun _ _ _ _ _ _ us hl => match us, hl with | [_, _], _ => rfl) (.cons (by decide +kernel) (fun _ _ _ _ _ _ us hl => match us, hl with | [_], _ => rfl) (.cons (by decide +kernel) (fun _ _ _ _ _ _ us hl => match us, hl with | [_, _, _], _ => rfl) (.cons (by decide +kernel) (fun _ _ _ _ _ _ us hl => match us, hl with | [_, _], _ => rfl) (.cons (by decide +kernel) (fun _ _ _ _ _ _ us hl => match us, hl with | [_], _ => rfl) (.cons (by decide +kernel) (fun _ _ _ _ _ _ us hl => match us, hl with | [_, _], _ => rfl) (.cons (by decide +kernel) (fun _ _ _ _ _ _ us hl => match us, hl with | [_, _, _, _], _ => rfl) (.cons (by decide +kernel) (fun _ _ _ _ _ _ us hl => match us, hl with | [_, _, _], _ => rfl) (.cons (by decide +kernel) (fun _ _ _ _ _ _ us hl => match us, hl with | [_], _ => rfl) (.cons (by decide +kernel) (fun _ _ _ _ _ _ us hl => match us, hl with | [_], _ => rfl) (.cons (by decide +kernel) (fun _ _ _ _ _ _ us hl => match us, hl with | [_], _ => rfl) (.cons (by decide +kernel) (fun _ _ _ _ _ _ us hl => match us, hl with | [_, _], _ => rfl) (.cons (by decide +kernel) (fun _ _ _ _ _ _ us hl => match us, hl with | [_, _], _ => rfl) (.cons (by decide +kernel) (fun _ _ _ _ _ _ us hl => match us, hl with | [_, _], _ => rfl) (.cons (by decide +kernel) (fun _ _ _ _ _ _ us hl => match us, hl with | [_, _], _ => rfl) (.cons (by decide +kernel) (fun _ _ _ _ _ _ us hl => match us, hl with | [_], _ => rfl) (.cons (by decide +kernel) (fun _ _ _ _ _ _ us hl => match us, hl with | [_], _ => rfl) (.cons (by decide +kernel) (fun _ _ _ _ _ _ us hl => match us, hl with | [_], _ => rfl) (.cons (by decide +kernel) (fun _ _ _ _ _ _ us hl => match us, hl with | [_, _, _], _ => rfl) (.cons (by decide +kernel) (fun _ _ _ _ _ _ us hl => match us, hl with | [_, _, _], _ => rfl) (.cons (by decide +kernel) (fun _ _ _ _ _ _ us hl => match us, hl with | [_, _], _ => rfl) (.cons (by decide +kernel) (fun _ _ _ _ _ _ us hl => match us, hl with | [_, _, _], _ => rfl) (.cons (by decide +kernel) (fun _ _ _ _ _ _ us hl => match us, hl with | [_, _], _ => rfl) (.nil)))))))))))))))))))))))))))))))))))
theorem hinis : InitsOk cfg.inis := by
  intro i hi
  simp only [cfg, inis, List.mem_cons, List.not_mem_nil, or_false] at hi
  rcases hi with rfl | rfl | rfl | rfl | rfl | rfl | rfl
  · exact ⟨by decide +kernel, fun _ _ _ _ _ _ us hl => match us, hl with | [_, _, _], _ => rfl⟩
  · exact ⟨by decide +kernel, fun _ _ _ _ _ _ us hl => match us, hl with | [_, _, _], _ => rfl⟩
  · exact ⟨by decide +kernel, fun _ _ _ _ _ _ us hl => match us, hl with | [_, _], _ => rfl⟩
  · exact ⟨by decide +kernel, fun _ _ _ _ _ _ us hl => match us, hl with | [_, _], _ => rfl⟩
  · exact ⟨by decide +kernel, fun _ _ _ _ _ _ us hl => match us, hl with | [_, _], _ => rfl⟩
  · exact ⟨by decide +kernel, fun _ _ _ _ _ _ us hl => match us, hl with | [_, _], _ => rfl⟩
  · exact ⟨by decide +kernel, fun _ _ _ _ _ _ us hl => match us, hl with | [_, _], _ => rfl⟩
theorem hnd : (cfg.ds.map fun d : Df => d.name).Nodup := by decide +kernel
-- law at 73; names __name__ SIGNS LETTERS MOST_WORDS WHYS is_whole is_word is_content is_why is_state is_result joined once turned counted RemadeError BadText BadProject BadStore BadPlan Refused RESERVED SINGLES TESTS MOST_NODES MOST_DEEP MOST_FILES MOST_PARTS MOST_RULES MOST_RESOLVED is_name is_variable is_expression nodes_of if_nodes summed look_at_project look_at_part look_at_rule is_large rule_of parts_of Resolver Asks Fails Task task_step RING look_at_sources look_at_goals runs_always Bringing bring clean MARKS MOST_SIGNS MOST_WITHIN tokens_of Reader read_project _law_draws _law_draw _law_pick _law_same _law_words _law_error _law_made
def names : List Str := [("__name__" : Str), ("SIGNS" : Str), ("LETTERS" : Str), ("MOST_WORDS" : Str), ("WHYS" : Str), ("is_whole" : Str), ("is_word" : Str), ("is_content" : Str), ("is_why" : Str), ("is_state" : Str), ("is_result" : Str), ("joined" : Str), ("once" : Str), ("turned" : Str), ("counted" : Str), ("RemadeError" : Str), ("BadText" : Str), ("BadProject" : Str), ("BadStore" : Str), ("BadPlan" : Str), ("Refused" : Str), ("RESERVED" : Str), ("SINGLES" : Str), ("TESTS" : Str), ("MOST_NODES" : Str), ("MOST_DEEP" : Str), ("MOST_FILES" : Str), ("MOST_PARTS" : Str), ("MOST_RULES" : Str), ("MOST_RESOLVED" : Str), ("is_name" : Str), ("is_variable" : Str), ("is_expression" : Str), ("nodes_of" : Str), ("if_nodes" : Str), ("summed" : Str), ("look_at_project" : Str), ("look_at_part" : Str), ("look_at_rule" : Str), ("is_large" : Str), ("rule_of" : Str), ("parts_of" : Str), ("Resolver" : Str), ("Asks" : Str), ("Fails" : Str), ("Task" : Str), ("task_step" : Str), ("RING" : Str), ("look_at_sources" : Str), ("look_at_goals" : Str), ("runs_always" : Str), ("Bringing" : Str), ("bring" : Str), ("clean" : Str), ("MARKS" : Str), ("MOST_SIGNS" : Str), ("MOST_WITHIN" : Str), ("tokens_of" : Str), ("Reader" : Str), ("read_project" : Str), ("_law_draws" : Str), ("_law_draw" : Str), ("_law_pick" : Str), ("_law_same" : Str), ("_law_words" : Str), ("_law_error" : Str), ("_law_made" : Str)]
def lawI : Nat := 73
end DI.L

set_option Elab.async false
set_option linter.all false
set_option maxRecDepth 100000
set_option maxHeartbeats 0
namespace DI.L
open PySem PySem.Spec PyProof.Rows L2
abbrev ORow : PySem.W.OpenRow := PySem.W.OpenLaw.row RW
abbrev hk : PySem.W.Hook := hookX 4 cfg
def ob (s : PySem.W.SharedT) : He.AlD := obsXG 4 cfg (HandSHeadRun.getT s)
theorem ob_eq (s : PySem.W.SharedT) : ob s = hk.obs s.abs := obsXG_eq (HandSHeadRun.getT_eq s)
open PySem.W HandSHeadRun in
noncomputable abbrev TopE (w : World) (os : OsState) : Option PySem.W.SharedT := HandSHeadRun.endF (HandSHeadRun.stepQ (HandSHeadRun.denQ HandSHeadRun.tabQ) ORow.prog w) 6000 ORow.prog w os
theorem parts {s : Option PySem.W.SharedT} {α β : Type} {f : PySem.W.SharedT → α} {g : PySem.W.SharedT → β} {h : PySem.W.SharedT → He.AlD} {a : α} {b : β} {c : Bool} {d : List He.FnW} (e : s.map (fun s => (f s, g s)) = some (a, b)) (e2 : s.map (fun s => (h s).1) = some c) (e3 : s.map (fun s => (h s).2) = some d) :
    s.map (fun s => (f s, g s, h s)) = some (a, b, c, d) := by
  cases s with
  | none => cases e
  | some s =>
    have e := Option.some.inj e
    have e2 := Option.some.inj e2
    have e3 := Option.some.inj e3
    obtain ⟨x1, x2⟩ := Prod.mk.inj e
    show some (f s, g s, h s) = _
    have x3 : h s = (c, d) := by rw [← e2, ← e3]
    rw [x1, x2, x3]
open PySem.W HandSHeadRun in
theorem runAF (w : World) (os : OsState) : (TopE (w.withFollow "special-get-raises" false) os).map (fun s => (HandSHeadRun.looksF ORow.prog (boot_heap (w.withFollow "special-get-raises" false).params) s.abs, HandSHeadRun.seenQ (PySem.W.view ORow.prog [lawI]) names (importedModules ORow.prog.main.body) (fun s => PySem.W.xlAt (PySem.W.view ORow.prog [lawI]) [] s && PySem.W.recOk ORow.toRowW.records s) s.abs)) = some (true, PySem.W.openGood (PySem.W.view ORow.prog [lawI]) names) := by kernel_rfl
theorem runBF (w : World) (os : OsState) : (TopE (w.withFollow "special-get-raises" false) os).map (fun s => (ob s).1) = some true := by kernel_rfl
theorem runCF (w : World) (os : OsState) : (TopE (w.withFollow "special-get-raises" false) os).map (fun s => (ob s).2) = some (valX cfg).2 := by kernel_rfl
theorem hdF (w : World) : HandSHeadRun.RunEq ORow (PySem.W.view ORow.prog [lawI]) hk ob 6000 names (w.withFollow "special-get-raises" false) := fun os => parts (runAF w os) (runBF w os) (runCF w os)
open PySem.W HandSHeadRun in
theorem runAT (w : World) (os : OsState) : (TopE (w.withFollow "special-get-raises" true) os).map (fun s => (HandSHeadRun.looksF ORow.prog (boot_heap (w.withFollow "special-get-raises" true).params) s.abs, HandSHeadRun.seenQ (PySem.W.view ORow.prog [lawI]) names (importedModules ORow.prog.main.body) (fun s => PySem.W.xlAt (PySem.W.view ORow.prog [lawI]) [] s && PySem.W.recOk ORow.toRowW.records s) s.abs)) = some (true, PySem.W.openGood (PySem.W.view ORow.prog [lawI]) names) := by kernel_rfl
theorem runBT (w : World) (os : OsState) : (TopE (w.withFollow "special-get-raises" true) os).map (fun s => (ob s).1) = some true := by kernel_rfl
theorem runCT (w : World) (os : OsState) : (TopE (w.withFollow "special-get-raises" true) os).map (fun s => (ob s).2) = some (valX cfg).2 := by kernel_rfl
theorem hdT (w : World) : HandSHeadRun.RunEq ORow (PySem.W.view ORow.prog [lawI]) hk ob 6000 names (w.withFollow "special-get-raises" true) := fun os => parts (runAT w os) (runBT w os) (runCT w os)
theorem run (w : World) : HandSHeadRun.RunEq ORow (PySem.W.view ORow.prog [lawI]) hk ob 6000 names w := PySem.W.byRow2 "special-get-raises" hdF hdT w
end DI.L
namespace DI.L
open PySem PySem.W PySem.Calls PyProof.Rows
theorem fin (hcall : ∀ ns : List Int, ns.length ≤ 63 → ∃ s', callN cfg.ds cfg.q0 40 d_law.name [.rol (ns.map .int)] [] = .ok (.bl true) s') : PySem.Challenge.rw_remaderight_k00_whole_contents_and_state.Holds := by
  w_on; o_law
  refine HandSHeadRun.head_any (r := OpenLaw.row RW) (q := view (OpenLaw.row RW).prog [lawI]) (H := hk) (ob := ob) (M := 6000) (loose := names) (d := HandSHeadRun.topDef (OpenLaw.row RW).prog lawI) (kwd := []) ob_eq
    (by kernel_rfl) (fun s => by kernel_rfl) run (by kernel_rfl) (by kernel_rfl) (by kernel_rfl) (by rfl) (by first | assumption | decide +kernel) (by decide +kernel) ⟨rfl, rfl, rfl, rfl, rfl, by decide +kernel⟩ ?hw ?hc
  case hw => w_witness2
  case hc => exact walkX (k := 40) (n := 63) (df := d_law) rfl (by decide) (by kernel_rfl) ⟨rfl, by decide, by decide⟩ hinis hdefs hnd (List.mem_of_getElem? (i := 29) rfl) rfl rfl (by kernel_rfl) hcall
end DI.L

set_option Elab.async false
set_option linter.all false
set_option maxRecDepth 100000
set_option maxHeartbeats 4000000
/-! the plain law of k00, A: the draws. -/
namespace DI
open PySem L2
theorem hdq {c : Cfg} {k i : Nat} : hdOk (c.q k).hd i = true := rfl
namespace L
abbrev cl (k : Nat) (f : Str) (as : List D) (s : S) : R D := callN cfg.ds cfg.q0 k f as s
theorem hqc {k : Nat} : (cfg.q k).c = callN cfg.ds cfg.q0 k := rfl
theorem c_draw (k : Nat) (a b : D) (s : S) : cl (k+1) "_law_draw" [a, b] s = runF (cfg.q k) 4 d__law_draw.body [a, b] s := by kernel_rfl
/-- the draws: the i-th thing, started from s₀ -/
structure D4 (s₀ : S) (i j : Nat) (ns : List Int) (a b c : Int) (s : S) : Prop where
  hi : lk s i = some [.ref j, .int a, .int b, .int c]
  hj : lk s j = some (ns.map .int)
  ne : i ≠ j
  is : ∃ xs, s = s₀.set i (.lst xs)
theorem D4.put {s₀ i j ns a b c s} (h : D4 s₀ i j ns a b c s) {a' b' c' : Int} : D4 s₀ i j ns a' b' c' (s.set i (.lst [.ref j, .int a', .int b', .int c'])) := by
  obtain ⟨hi, hj, ne, xs, rfl⟩ := h
  refine ⟨by rw [lk_set hi], by rw [lk_set_ne ne]; exact hj, ne, [.ref j, .int a', .int b', .int c'], ?_⟩
  rw [List.set_set]
theorem D4.sub1 {s₀ i j ns a b c s} (h : D4 s₀ i j ns a b c s) {v : Int} {P : S → Prop} (hp : D4 s₀ i j ns v b c (s.set i (.lst [.ref j, .int v, .int b, .int c])) → P (s.set i (.lst [.ref j, .int v, .int b, .int c]))) : ∃ s', subD (.ref i) (.int 1) (.int v) s = some s' ∧ P s' :=
  ⟨_, wsub h.hi (j := 1) rfl, hp h.put⟩
theorem D4.sub2 {s₀ i j ns a b c s} (h : D4 s₀ i j ns a b c s) {v : Int} {P : S → Prop} (hp : D4 s₀ i j ns a v c (s.set i (.lst [.ref j, .int a, .int v, .int c])) → P (s.set i (.lst [.ref j, .int a, .int v, .int c]))) : ∃ s', subD (.ref i) (.int 2) (.int v) s = some s' ∧ P s' :=
  ⟨_, wsub h.hi (j := 2) rfl, hp h.put⟩
theorem D4.sub3 {s₀ i j ns a b c s} (h : D4 s₀ i j ns a b c s) {v : Int} {P : S → Prop} (hp : D4 s₀ i j ns a b v (s.set i (.lst [.ref j, .int a, .int b, .int v])) → P (s.set i (.lst [.ref j, .int a, .int b, .int v]))) : ∃ s', subD (.ref i) (.int 3) (.int v) s = some s' ∧ P s' :=
  ⟨_, wsub h.hi (j := 3) rfl, hp h.put⟩
theorem D4.ix0 {s₀ i j ns a b c s} (h : D4 s₀ i j ns a b c s) {E : Xt} {P : D → S → Prop} : Wp E (ixD (.ref i) (.int 0) s) P = P (.ref j) s := wixr h.hi rfl
theorem D4.ix1 {s₀ i j ns a b c s} (h : D4 s₀ i j ns a b c s) {E : Xt} {P : D → S → Prop} : Wp E (ixD (.ref i) (.int 1) s) P = P (.int a) s := wixr h.hi rfl
theorem D4.ix2 {s₀ i j ns a b c s} (h : D4 s₀ i j ns a b c s) {E : Xt} {P : D → S → Prop} : Wp E (ixD (.ref i) (.int 2) s) P = P (.int b) s := wixr h.hi rfl
theorem D4.ix3 {s₀ i j ns a b c s} (h : D4 s₀ i j ns a b c s) {E : Xt} {P : D → S → Prop} : Wp E (ixD (.ref i) (.int 3) s) P = P (.int c) s := wixr h.hi rfl
def Dr (s : S) (i : Nat) : Prop := ∃ (j : Nat) (ns : List Int) (a b c : Int), lk s i = some [.ref j, .int a, .int b, .int c] ∧ lk s j = some (ns.map .int) ∧ i ≠ j ∧ 0 ≤ a ∧ 0 ≤ b
theorem D4.dr {s₀ i j ns a b c s} (h : D4 s₀ i j ns a b c s) (ha : 0 ≤ a) (hb : 0 ≤ b) : Dr s i := ⟨j, ns, a, b, c, h.hi, h.hj, h.ne, ha, hb⟩
theorem set_same {s : S} {i : Nat} {xs : List D} (h : lk s i = some xs) : s.set i (.lst xs) = s := by
  have h := lk_some.mp h
  obtain ⟨h1, h2⟩ := List.getElem?_eq_some_iff.mp h
  rw [← h2]; exact List.set_getElem_self h1
theorem s_draw (k : Nat) (i : Nat) (n : Int) (s : S) (h : Dr s i) (h1 : 1 ≤ n) (h2 : n < 1073741824) : Wp E0 (cl (k+1) "_law_draw" [.ref i, .int n] s) fun d s' => ∃ (v : Int) (xs : List D), d = .int v ∧ s' = s.set i (.lst xs) ∧ 0 ≤ v ∧ v < n ∧ Dr s' i := by
  rw [c_draw]
  obtain ⟨j, ns, a, b, c, hi, hj, hij, ha, hb⟩ := h
  have h4 : D4 s i j ns a b c s := ⟨hi, hj, hij, _, (set_same hi).symm⟩
  refine wf_run ?_
  show Ws (runSs (cfg.q k) d__law_draw.body [some (.ref i), some (.int n), none, none] s) _
  unfold d__law_draw
  refine ws_cut (fun ρ s' => ∃ o a b c, ρ = [some (.ref i), some (.int n), none, o] ∧ D4 s i j ns a b c s' ∧ 0 ≤ a ∧ 0 ≤ b) (ws_ife ?_) ?_
  · simp only [we_con, we_varm, we_glom, we_bin, we_neg, we_cmp, we_chain, we_and, we_or, we_not, we_ife, we_tup, we_lst, we_ix, we_sl, we_rev, we_call, we_blt, we_isi, we_app, we_lc, wa_nil, wa_cons, wr_nil, wr_cons, wo_none, wo_some, wto_none, wto_some, wt_and, wt_or, wt_not, wt_cmp, wt_chain, wt_tru, wi_seq, wi_range, wi_enum, wg_nm, wg_tup, wg_nil, wg_cons, wg_sub, wp_ok, wp_bad, wp_nox, wb_add, wb_sub, wb_mul, wb_fdiv, wb_mod, wb_pow, wc_eq, wc_ne, wc_lt, wc_le, wc_gt, wc_ge, wc_eqb, wc_neb, wc_eqs, wc_nes, wx_int, wx_lent, wx_lenl, wx_lenr, wz_int, wz_str, wz_bl, wz_non, wz_tup, wz_rol, wz_ref, wz_lst, List.getElem?_cons_zero, List.getElem?_cons_succ, List.set_cons_zero, List.set_cons_succ, List.length_cons, List.length_nil, wi_tup, wi_lst, wi_rol, wx_tuplel, wx_tuplet, wx_listt, wto_some, hdq, hqc, ite_f, ite_tt, decide_eq_true_eq, Bool.not_eq_true', h4.ix2]
    refine ite_p (fun hb0 => ?_) fun hb0 => ?_
    · simp only [we_con, we_varm, we_glom, we_bin, we_neg, we_cmp, we_chain, we_and, we_or, we_not, we_ife, we_tup, we_lst, we_ix, we_sl, we_rev, we_call, we_blt, we_isi, we_app, we_lc, wa_nil, wa_cons, wr_nil, wr_cons, wo_none, wo_some, wto_none, wto_some, wt_and, wt_or, wt_not, wt_cmp, wt_chain, wt_tru, wi_seq, wi_range, wi_enum, wg_nm, wg_tup, wg_nil, wg_cons, wg_sub, wp_ok, wp_bad, wp_nox, wb_add, wb_sub, wb_mul, wb_fdiv, wb_mod, wb_pow, wc_eq, wc_ne, wc_lt, wc_le, wc_gt, wc_ge, wc_eqb, wc_neb, wc_eqs, wc_nes, wx_int, wx_lent, wx_lenl, wx_lenr, wz_int, wz_str, wz_bl, wz_non, wz_tup, wz_rol, wz_ref, wz_lst, List.getElem?_cons_zero, List.getElem?_cons_succ, List.set_cons_zero, List.set_cons_succ, List.length_cons, List.length_nil, wi_tup, wi_lst, wi_rol, wx_tuplel, wx_tuplet, wx_listt, wto_some, hdq, hqc, ite_f, ite_tt, decide_eq_true_eq, Bool.not_eq_true', h4.ix1, h4.ix0, wx_len hj, List.length_map]
      refine ite_p (fun hlt => ?_) fun hlt => ?_
      · rw [ws_cons]
        refine ws_asg ?_
        obtain ⟨n', rfl⟩ := Int.eq_ofNat_of_zero_le ha
        have hn' : n' < ns.length := by omega
        have hat : atI (ns.map D.int) (n' : Int) = some (.int ns[n']) := atI_nat (by rw [List.getElem?_map, List.getElem?_eq_getElem hn']; rfl)
        simp only [we_con, we_varm, we_glom, we_bin, we_neg, we_cmp, we_chain, we_and, we_or, we_not, we_ife, we_tup, we_lst, we_ix, we_sl, we_rev, we_call, we_blt, we_isi, we_app, we_lc, wa_nil, wa_cons, wr_nil, wr_cons, wo_none, wo_some, wto_none, wto_some, wt_and, wt_or, wt_not, wt_cmp, wt_chain, wt_tru, wi_seq, wi_range, wi_enum, wg_nm, wg_tup, wg_nil, wg_cons, wg_sub, wp_ok, wp_bad, wp_nox, wb_add, wb_sub, wb_mul, wb_fdiv, wb_mod, wb_pow, wc_eq, wc_ne, wc_lt, wc_le, wc_gt, wc_ge, wc_eqb, wc_neb, wc_eqs, wc_nes, wx_int, wx_lent, wx_lenl, wx_lenr, wz_int, wz_str, wz_bl, wz_non, wz_tup, wz_rol, wz_ref, wz_lst, List.getElem?_cons_zero, List.getElem?_cons_succ, List.set_cons_zero, List.set_cons_succ, List.length_cons, List.length_nil, wi_tup, wi_lst, wi_rol, wx_tuplel, wx_tuplet, wx_listt, wto_some, hdq, hqc, ite_f, ite_tt, decide_eq_true_eq, Bool.not_eq_true', h4.ix1, h4.ix0]
        refine (wixr hj hat).mpr ?_
        simp only [we_con, we_varm, we_glom, we_bin, we_neg, we_cmp, we_chain, we_and, we_or, we_not, we_ife, we_tup, we_lst, we_ix, we_sl, we_rev, we_call, we_blt, we_isi, we_app, we_lc, wa_nil, wa_cons, wr_nil, wr_cons, wo_none, wo_some, wto_none, wto_some, wt_and, wt_or, wt_not, wt_cmp, wt_chain, wt_tru, wi_seq, wi_range, wi_enum, wg_nm, wg_tup, wg_nil, wg_cons, wg_sub, wp_ok, wp_bad, wp_nox, wb_add, wb_sub, wb_mul, wb_fdiv, wb_mod, wb_pow, wc_eq, wc_ne, wc_lt, wc_le, wc_gt, wc_ge, wc_eqb, wc_neb, wc_eqs, wc_nes, wx_int, wx_lent, wx_lenl, wx_lenr, wz_int, wz_str, wz_bl, wz_non, wz_tup, wz_rol, wz_ref, wz_lst, List.getElem?_cons_zero, List.getElem?_cons_succ, List.set_cons_zero, List.set_cons_succ, List.length_cons, List.length_nil, wi_tup, wi_lst, wi_rol, wx_tuplel, wx_tuplet, wx_listt, wto_some, hdq, hqc, ite_f, ite_tt, decide_eq_true_eq, Bool.not_eq_true']
        refine ⟨by decide, ?_⟩
        rw [ws_cons]
        refine ws_asg ?_
        simp only [we_con, we_varm, we_glom, we_bin, we_neg, we_cmp, we_chain, we_and, we_or, we_not, we_ife, we_tup, we_lst, we_ix, we_sl, we_rev, we_call, we_blt, we_isi, we_app, we_lc, wa_nil, wa_cons, wr_nil, wr_cons, wo_none, wo_some, wto_none, wto_some, wt_and, wt_or, wt_not, wt_cmp, wt_chain, wt_tru, wi_seq, wi_range, wi_enum, wg_nm, wg_tup, wg_nil, wg_cons, wg_sub, wp_ok, wp_bad, wp_nox, wb_add, wb_sub, wb_mul, wb_fdiv, wb_mod, wb_pow, wc_eq, wc_ne, wc_lt, wc_le, wc_gt, wc_ge, wc_eqb, wc_neb, wc_eqs, wc_nes, wx_int, wx_lent, wx_lenl, wx_lenr, wz_int, wz_str, wz_bl, wz_non, wz_tup, wz_rol, wz_ref, wz_lst, List.getElem?_cons_zero, List.getElem?_cons_succ, List.set_cons_zero, List.set_cons_succ, List.length_cons, List.length_nil, wi_tup, wi_lst, wi_rol, wx_tuplel, wx_tuplet, wx_listt, wto_some, hdq, hqc, ite_f, ite_tt, decide_eq_true_eq, Bool.not_eq_true', h4.ix1]
        refine h4.sub1 fun h4 => ?_
        refine ws_cut (fun ρ s' => ∃ b, ρ = [some (.ref i), some (.int n), none, some (.int ns[n'])] ∧ D4 s i j ns (n' + 1) b c s' ∧ 0 ≤ b) (ws_ife ?_) ?_
        · simp only [we_con, we_varm, we_glom, we_bin, we_neg, we_cmp, we_chain, we_and, we_or, we_not, we_ife, we_tup, we_lst, we_ix, we_sl, we_rev, we_call, we_blt, we_isi, we_app, we_lc, wa_nil, wa_cons, wr_nil, wr_cons, wo_none, wo_some, wto_none, wto_some, wt_and, wt_or, wt_not, wt_cmp, wt_chain, wt_tru, wi_seq, wi_range, wi_enum, wg_nm, wg_tup, wg_nil, wg_cons, wg_sub, wp_ok, wp_bad, wp_nox, wb_add, wb_sub, wb_mul, wb_fdiv, wb_mod, wb_pow, wc_eq, wc_ne, wc_lt, wc_le, wc_gt, wc_ge, wc_eqb, wc_neb, wc_eqs, wc_nes, wx_int, wx_lent, wx_lenl, wx_lenr, wz_int, wz_str, wz_bl, wz_non, wz_tup, wz_rol, wz_ref, wz_lst, List.getElem?_cons_zero, List.getElem?_cons_succ, List.set_cons_zero, List.set_cons_succ, List.length_cons, List.length_nil, wi_tup, wi_lst, wi_rol, wx_tuplel, wx_tuplet, wx_listt, wto_some, hdq, hqc, ite_f, ite_tt, decide_eq_true_eq, Bool.not_eq_true']
          refine ⟨by decide, ite_p (fun hc => ?_) fun hc => ?_⟩
          · rw [ws_cons]
            refine ws_asg ?_
            simp only [we_con, we_varm, we_glom, we_bin, we_neg, we_cmp, we_chain, we_and, we_or, we_not, we_ife, we_tup, we_lst, we_ix, we_sl, we_rev, we_call, we_blt, we_isi, we_app, we_lc, wa_nil, wa_cons, wr_nil, wr_cons, wo_none, wo_some, wto_none, wto_some, wt_and, wt_or, wt_not, wt_cmp, wt_chain, wt_tru, wi_seq, wi_range, wi_enum, wg_nm, wg_tup, wg_nil, wg_cons, wg_sub, wp_ok, wp_bad, wp_nox, wb_add, wb_sub, wb_mul, wb_fdiv, wb_mod, wb_pow, wc_eq, wc_ne, wc_lt, wc_le, wc_gt, wc_ge, wc_eqb, wc_neb, wc_eqs, wc_nes, wx_int, wx_lent, wx_lenl, wx_lenr, wz_int, wz_str, wz_bl, wz_non, wz_tup, wz_rol, wz_ref, wz_lst, List.getElem?_cons_zero, List.getElem?_cons_succ, List.set_cons_zero, List.set_cons_succ, List.length_cons, List.length_nil, wi_tup, wi_lst, wi_rol, wx_tuplel, wx_tuplet, wx_listt, wto_some, hdq, hqc, ite_f, ite_tt, decide_eq_true_eq, Bool.not_eq_true']
            refine h4.sub2 fun h4 => ?_
            rw [ws_nil]
            exact ⟨_, rfl, h4, Int.le_trans (by decide) hc⟩
          · rw [ws_nil]
            exact ⟨_, rfl, h4, hb⟩
        · rintro ρ s2 ⟨b', rfl, h4, hb'⟩
          rw [ws_cons]
          refine ws_asg ?_
          simp only [we_con, we_varm, we_glom, we_bin, we_neg, we_cmp, we_chain, we_and, we_or, we_not, we_ife, we_tup, we_lst, we_ix, we_sl, we_rev, we_call, we_blt, we_isi, we_app, we_lc, wa_nil, wa_cons, wr_nil, wr_cons, wo_none, wo_some, wto_none, wto_some, wt_and, wt_or, wt_not, wt_cmp, wt_chain, wt_tru, wi_seq, wi_range, wi_enum, wg_nm, wg_tup, wg_nil, wg_cons, wg_sub, wp_ok, wp_bad, wp_nox, wb_add, wb_sub, wb_mul, wb_fdiv, wb_mod, wb_pow, wc_eq, wc_ne, wc_lt, wc_le, wc_gt, wc_ge, wc_eqb, wc_neb, wc_eqs, wc_nes, wx_int, wx_lent, wx_lenl, wx_lenr, wz_int, wz_str, wz_bl, wz_non, wz_tup, wz_rol, wz_ref, wz_lst, List.getElem?_cons_zero, List.getElem?_cons_succ, List.set_cons_zero, List.set_cons_succ, List.length_cons, List.length_nil, wi_tup, wi_lst, wi_rol, wx_tuplel, wx_tuplet, wx_listt, wto_some, hdq, hqc, ite_f, ite_tt, decide_eq_true_eq, Bool.not_eq_true', h4.ix3]
          refine ⟨.inr (by decide), by decide, h4.sub3 fun h4 => ?_⟩
          rw [ws_nil]
          exact ⟨_, _, _, _, rfl, h4, by omega, hb'⟩
      · rw [ws_nil]
        exact ⟨_, _, _, _, rfl, h4, ha, hb⟩
    · rw [ws_nil]
      exact ⟨_, _, _, _, rfl, h4, ha, hb⟩
  · rintro ρ s2 ⟨o, a, b, c, rfl, h4, ha, hb⟩
    have fin : ∀ {s' : S} {v a b c : Int}, D4 s i j ns a b c s' → 0 ≤ a → 0 ≤ b → ∃ (v' : Int) (xs : List D), D.int (v.fmod n) = .int v' ∧ s' = s.set i (.lst xs) ∧ 0 ≤ v' ∧ v' < n ∧ Dr s' i := fun {s' v a b c} h4 ha hb => by
      obtain ⟨xs, e⟩ := h4.is
      exact ⟨_, xs, rfl, e, Int.fmod_nonneg_of_pos v (by omega), Int.fmod_lt_of_pos v (by omega), h4.dr ha hb⟩
    refine ws_cut (fun ρ s' => ρ = [some (.ref i), some (.int n), none, o] ∧ s' = s2) (ws_ife ?_) ?_
    · simp only [we_con, we_varm, we_glom, we_bin, we_neg, we_cmp, we_chain, we_and, we_or, we_not, we_ife, we_tup, we_lst, we_ix, we_sl, we_rev, we_call, we_blt, we_isi, we_app, we_lc, wa_nil, wa_cons, wr_nil, wr_cons, wo_none, wo_some, wto_none, wto_some, wt_and, wt_or, wt_not, wt_cmp, wt_chain, wt_tru, wi_seq, wi_range, wi_enum, wg_nm, wg_tup, wg_nil, wg_cons, wg_sub, wp_ok, wp_bad, wp_nox, wb_add, wb_sub, wb_mul, wb_fdiv, wb_mod, wb_pow, wc_eq, wc_ne, wc_lt, wc_le, wc_gt, wc_ge, wc_eqb, wc_neb, wc_eqs, wc_nes, wx_int, wx_lent, wx_lenl, wx_lenr, wz_int, wz_str, wz_bl, wz_non, wz_tup, wz_rol, wz_ref, wz_lst, List.getElem?_cons_zero, List.getElem?_cons_succ, List.set_cons_zero, List.set_cons_succ, List.length_cons, List.length_nil, wi_tup, wi_lst, wi_rol, wx_tuplel, wx_tuplet, wx_listt, wto_some, hdq, hqc, ite_f, ite_tt, decide_eq_true_eq, Bool.not_eq_true', h4.ix2]
      refine ite_p (fun hb0 => ?_) fun hb0 => ?_
      · rw [ws_cons]
        refine ws_asg ?_
        simp only [we_con, we_varm, we_glom, we_bin, we_neg, we_cmp, we_chain, we_and, we_or, we_not, we_ife, we_tup, we_lst, we_ix, we_sl, we_rev, we_call, we_blt, we_isi, we_app, we_lc, wa_nil, wa_cons, wr_nil, wr_cons, wo_none, wo_some, wto_none, wto_some, wt_and, wt_or, wt_not, wt_cmp, wt_chain, wt_tru, wi_seq, wi_range, wi_enum, wg_nm, wg_tup, wg_nil, wg_cons, wg_sub, wp_ok, wp_bad, wp_nox, wb_add, wb_sub, wb_mul, wb_fdiv, wb_mod, wb_pow, wc_eq, wc_ne, wc_lt, wc_le, wc_gt, wc_ge, wc_eqb, wc_neb, wc_eqs, wc_nes, wx_int, wx_lent, wx_lenl, wx_lenr, wz_int, wz_str, wz_bl, wz_non, wz_tup, wz_rol, wz_ref, wz_lst, List.getElem?_cons_zero, List.getElem?_cons_succ, List.set_cons_zero, List.set_cons_succ, List.length_cons, List.length_nil, wi_tup, wi_lst, wi_rol, wx_tuplel, wx_tuplet, wx_listt, wto_some, hdq, hqc, ite_f, ite_tt, decide_eq_true_eq, Bool.not_eq_true', h4.ix2]
        refine ⟨by omega, by decide, ?_⟩
        rw [ws_cons]
        refine ws_asg ?_
        simp only [we_con, we_varm, we_glom, we_bin, we_neg, we_cmp, we_chain, we_and, we_or, we_not, we_ife, we_tup, we_lst, we_ix, we_sl, we_rev, we_call, we_blt, we_isi, we_app, we_lc, wa_nil, wa_cons, wr_nil, wr_cons, wo_none, wo_some, wto_none, wto_some, wt_and, wt_or, wt_not, wt_cmp, wt_chain, wt_tru, wi_seq, wi_range, wi_enum, wg_nm, wg_tup, wg_nil, wg_cons, wg_sub, wp_ok, wp_bad, wp_nox, wb_add, wb_sub, wb_mul, wb_fdiv, wb_mod, wb_pow, wc_eq, wc_ne, wc_lt, wc_le, wc_gt, wc_ge, wc_eqb, wc_neb, wc_eqs, wc_nes, wx_int, wx_lent, wx_lenl, wx_lenr, wz_int, wz_str, wz_bl, wz_non, wz_tup, wz_rol, wz_ref, wz_lst, List.getElem?_cons_zero, List.getElem?_cons_succ, List.set_cons_zero, List.set_cons_succ, List.length_cons, List.length_nil, wi_tup, wi_lst, wi_rol, wx_tuplel, wx_tuplet, wx_listt, wto_some, hdq, hqc, ite_f, ite_tt, decide_eq_true_eq, Bool.not_eq_true', h4.ix2]
        refine ⟨⟨by omega, by omega⟩, h4.sub2 fun h4 => ?_⟩
        rw [ws_cons]
        refine ws_ret ?_
        simp only [we_con, we_varm, we_glom, we_bin, we_neg, we_cmp, we_chain, we_and, we_or, we_not, we_ife, we_tup, we_lst, we_ix, we_sl, we_rev, we_call, we_blt, we_isi, we_app, we_lc, wa_nil, wa_cons, wr_nil, wr_cons, wo_none, wo_some, wto_none, wto_some, wt_and, wt_or, wt_not, wt_cmp, wt_chain, wt_tru, wi_seq, wi_range, wi_enum, wg_nm, wg_tup, wg_nil, wg_cons, wg_sub, wp_ok, wp_bad, wp_nox, wb_add, wb_sub, wb_mul, wb_fdiv, wb_mod, wb_pow, wc_eq, wc_ne, wc_lt, wc_le, wc_gt, wc_ge, wc_eqb, wc_neb, wc_eqs, wc_nes, wx_int, wx_lent, wx_lenl, wx_lenr, wz_int, wz_str, wz_bl, wz_non, wz_tup, wz_rol, wz_ref, wz_lst, List.getElem?_cons_zero, List.getElem?_cons_succ, List.set_cons_zero, List.set_cons_succ, List.length_cons, List.length_nil, wi_tup, wi_lst, wi_rol, wx_tuplel, wx_tuplet, wx_listt, wto_some, hdq, hqc, ite_f, ite_tt, decide_eq_true_eq, Bool.not_eq_true']
        exact fin h4 ha (Int.fdiv_nonneg hb (by omega))
      · rw [ws_nil]
        exact ⟨rfl, rfl⟩
    · rintro ρ s' ⟨rfl, rfl⟩
      rw [ws_cons]
      refine ws_asg ?_
      simp only [we_con, we_varm, we_glom, we_bin, we_neg, we_cmp, we_chain, we_and, we_or, we_not, we_ife, we_tup, we_lst, we_ix, we_sl, we_rev, we_call, we_blt, we_isi, we_app, we_lc, wa_nil, wa_cons, wr_nil, wr_cons, wo_none, wo_some, wto_none, wto_some, wt_and, wt_or, wt_not, wt_cmp, wt_chain, wt_tru, wi_seq, wi_range, wi_enum, wg_nm, wg_tup, wg_nil, wg_cons, wg_sub, wp_ok, wp_bad, wp_nox, wb_add, wb_sub, wb_mul, wb_fdiv, wb_mod, wb_pow, wc_eq, wc_ne, wc_lt, wc_le, wc_gt, wc_ge, wc_eqb, wc_neb, wc_eqs, wc_nes, wx_int, wx_lent, wx_lenl, wx_lenr, wz_int, wz_str, wz_bl, wz_non, wz_tup, wz_rol, wz_ref, wz_lst, List.getElem?_cons_zero, List.getElem?_cons_succ, List.set_cons_zero, List.set_cons_succ, List.length_cons, List.length_nil, wi_tup, wi_lst, wi_rol, wx_tuplel, wx_tuplet, wx_listt, wto_some, hdq, hqc, ite_f, ite_tt, decide_eq_true_eq, Bool.not_eq_true', h4.ix3]
      refine ⟨.inr (by decide), by decide, h4.sub3 fun h4 => ?_⟩
      rw [ws_cons]
      refine ws_ret ?_
      simp only [we_con, we_varm, we_glom, we_bin, we_neg, we_cmp, we_chain, we_and, we_or, we_not, we_ife, we_tup, we_lst, we_ix, we_sl, we_rev, we_call, we_blt, we_isi, we_app, we_lc, wa_nil, wa_cons, wr_nil, wr_cons, wo_none, wo_some, wto_none, wto_some, wt_and, wt_or, wt_not, wt_cmp, wt_chain, wt_tru, wi_seq, wi_range, wi_enum, wg_nm, wg_tup, wg_nil, wg_cons, wg_sub, wp_ok, wp_bad, wp_nox, wb_add, wb_sub, wb_mul, wb_fdiv, wb_mod, wb_pow, wc_eq, wc_ne, wc_lt, wc_le, wc_gt, wc_ge, wc_eqb, wc_neb, wc_eqs, wc_nes, wx_int, wx_lent, wx_lenl, wx_lenr, wz_int, wz_str, wz_bl, wz_non, wz_tup, wz_rol, wz_ref, wz_lst, List.getElem?_cons_zero, List.getElem?_cons_succ, List.set_cons_zero, List.set_cons_succ, List.length_cons, List.length_nil, wi_tup, wi_lst, wi_rol, wx_tuplel, wx_tuplet, wx_listt, wto_some, hdq, hqc, ite_f, ite_tt, decide_eq_true_eq, Bool.not_eq_true', h4.ix3]
      exact ⟨⟨by decide, by decide⟩, by omega, fin h4 ha hb⟩
end L
end DI

set_option Elab.async false
set_option linter.all false
set_option maxRecDepth 100000
set_option maxHeartbeats 4000000
/-! the plain law of k00, B: the law's small defs. -/
namespace DI.L
open PySem L2
theorem lt62 {n : Nat} (h : n ≤ 1000000) : n < 2 ^ 62 := Nat.lt_of_le_of_lt h (by decide)
theorem leL {n : Nat} (h : n ≤ 1000000) : n ≤ sizeLine := Nat.le_trans h (by decide)
theorem c_same (k : Nat) (a b : D) (s : S) : cl (k+1) "_law_same" [a, b] s = runF (cfg.q k) 3 d__law_same.body [a, b] s := by kernel_rfl
theorem c_draws (k : Nat) (a : D) (s : S) : cl (k+1) "_law_draws" [a] s = runF (cfg.q k) 1 d__law_draws.body [a] s := by kernel_rfl
theorem c_pick (k : Nat) (a b : D) (s : S) : cl (k+1) "_law_pick" [a, b] s = runF (cfg.q k) 2 d__law_pick.body [a, b] s := by kernel_rfl
theorem s_draws {k : Nat} {ns : List Int} {s : S} : Wp E0 (cl (k+1) "_law_draws" [.rol (ns.map .int)] s) fun d s' => d = .lst [.ref s.length, .int 0, .int 0, .int 1] ∧ s' = s ++ [.lst (ns.map .int)] := by
  rw [c_draws]
  exact .of rfl ⟨rfl, rfl⟩
theorem same_flat {k : Nat} {a e : D} {s : S} (ha : ∀ xs, a ≠ .tup xs) (he : ∀ xs, e ≠ .tup xs) {n : Nat} (pa : a.pl n = true) (pe : e.pl n = true) : cl (k+1) "_law_same" [a, e] s = .ok (.bl (D.same a e)) s := by
  rw [c_same]
  have key : ∀ {b : Bool}, Wp E0 (runF (cfg.q k) 3 d__law_same.body [a, e] s) (fun d s' => d = .bl b ∧ s' = s) → runF (cfg.q k) 3 d__law_same.body [a, e] s = .ok (.bl b) s := fun h => by
    obtain ⟨d, s', e, rfl, rfl⟩ := h.eq
    exact e
  cases a with
  | tup xs => exact (ha xs rfl).elim
  | non => cases e <;> first | exact (he _ rfl).elim | rfl | exact nomatch pe
  | bl x =>
    cases e with
    | tup xs => exact (he xs rfl).elim
    | bl y => cases x <;> cases y <;> rfl
    | _ => first | rfl | exact nomatch pe
  | int x =>
    cases e with
    | tup xs => exact (he xs rfl).elim
    | int y =>
      refine key (wf_run ?_)
      show Ws (runSs (cfg.q k) d__law_same.body [some (.int x), some (.int y), none] s) _
      unfold D.same
      refine ws_skip (.of rfl ⟨rfl, rfl⟩) ?_
      refine ws_skip (.of rfl ⟨rfl, rfl⟩) ?_
      refine ws_skip (.of rfl ⟨rfl, rfl⟩) ?_
      refine ws_skip (.of rfl ⟨rfl, rfl⟩) ?_
      rw [ws_cons]
      refine ws_ret ?_
      simp only [we_con, we_varm, we_glom, we_bin, we_neg, we_cmp, we_chain, we_and, we_or, we_not, we_ife, we_tup, we_lst, we_ix, we_sl, we_rev, we_call, we_blt, we_isi, we_app, we_lc, wa_nil, wa_cons, wr_nil, wr_cons, wo_none, wo_some, wto_none, wto_some, wt_and, wt_or, wt_not, wt_cmp, wt_chain, wt_tru, wi_seq, wi_range, wi_enum, wg_nm, wg_tup, wg_nil, wg_cons, wg_sub, wp_ok, wp_bad, wp_nox, wb_add, wb_sub, wb_mul, wb_fdiv, wb_mod, wb_pow, wc_eq, wc_ne, wc_lt, wc_le, wc_gt, wc_ge, wc_eqb, wc_neb, wc_eqs, wc_nes, wx_int, wx_lent, wx_lenl, wx_lenr, wz_int, wz_str, wz_bl, wz_non, wz_tup, wz_rol, wz_ref, wz_lst, List.getElem?_cons_zero, List.getElem?_cons_succ, List.set_cons_zero, List.set_cons_succ, List.length_cons, List.length_nil, wi_tup, wi_lst, wi_rol, wx_tuplel, wx_tuplet, wx_listt, wto_some, hdq, hqc, ite_f, ite_tt, decide_eq_true_eq, Bool.not_eq_true']
      refine ⟨true, rfl, true, rfl, true, rfl, true, rfl, ?_⟩
      rw [if_pos rfl]
      exact ⟨congrArg D.bl (by rw [Bool.eq_iff_iff]; simp), trivial⟩
    | _ => first | rfl | exact nomatch pe
  | str x =>
    cases e with
    | tup xs => exact (he xs rfl).elim
    | str y =>
      refine key (wf_run ?_)
      show Ws (runSs (cfg.q k) d__law_same.body [some (.str x), some (.str y), none] s) _
      unfold D.same
      refine ws_skip (.of rfl ⟨rfl, rfl⟩) ?_
      refine ws_skip (.of rfl ⟨rfl, rfl⟩) ?_
      refine ws_skip (.of rfl ⟨rfl, rfl⟩) ?_
      rw [ws_cons]
      refine ws_ife ?_
      simp only [we_con, we_varm, we_glom, we_bin, we_neg, we_cmp, we_chain, we_and, we_or, we_not, we_ife, we_tup, we_lst, we_ix, we_sl, we_rev, we_call, we_blt, we_isi, we_app, we_lc, wa_nil, wa_cons, wr_nil, wr_cons, wo_none, wo_some, wto_none, wto_some, wt_and, wt_or, wt_not, wt_cmp, wt_chain, wt_tru, wi_seq, wi_range, wi_enum, wg_nm, wg_tup, wg_nil, wg_cons, wg_sub, wp_ok, wp_bad, wp_nox, wb_add, wb_sub, wb_mul, wb_fdiv, wb_mod, wb_pow, wc_eq, wc_ne, wc_lt, wc_le, wc_gt, wc_ge, wc_eqb, wc_neb, wc_eqs, wc_nes, wx_int, wx_lent, wx_lenl, wx_lenr, wz_int, wz_str, wz_bl, wz_non, wz_tup, wz_rol, wz_ref, wz_lst, List.getElem?_cons_zero, List.getElem?_cons_succ, List.set_cons_zero, List.set_cons_succ, List.length_cons, List.length_nil, wi_tup, wi_lst, wi_rol, wx_tuplel, wx_tuplet, wx_listt, wto_some, hdq, hqc, ite_f, ite_tt, decide_eq_true_eq, Bool.not_eq_true']
      refine ⟨true, rfl, true, rfl, ?_⟩
      rw [if_pos rfl, if_pos trivial, ws_cons]
      refine ws_ret ?_
      simp only [we_con, we_varm, we_glom, we_bin, we_neg, we_cmp, we_chain, we_and, we_or, we_not, we_ife, we_tup, we_lst, we_ix, we_sl, we_rev, we_call, we_blt, we_isi, we_app, we_lc, wa_nil, wa_cons, wr_nil, wr_cons, wo_none, wo_some, wto_none, wto_some, wt_and, wt_or, wt_not, wt_cmp, wt_chain, wt_tru, wi_seq, wi_range, wi_enum, wg_nm, wg_tup, wg_nil, wg_cons, wg_sub, wp_ok, wp_bad, wp_nox, wb_add, wb_sub, wb_mul, wb_fdiv, wb_mod, wb_pow, wc_eq, wc_ne, wc_lt, wc_le, wc_gt, wc_ge, wc_eqb, wc_neb, wc_eqs, wc_nes, wx_int, wx_lent, wx_lenl, wx_lenr, wz_int, wz_str, wz_bl, wz_non, wz_tup, wz_rol, wz_ref, wz_lst, List.getElem?_cons_zero, List.getElem?_cons_succ, List.set_cons_zero, List.set_cons_succ, List.length_cons, List.length_nil, wi_tup, wi_lst, wi_rol, wx_tuplel, wx_tuplet, wx_listt, wto_some, hdq, hqc, ite_f, ite_tt, decide_eq_true_eq, Bool.not_eq_true']
      refine ⟨true, rfl, true, rfl, ?_⟩
      rw [if_pos rfl]
      refine ⟨true, rfl, true, rfl, ?_⟩
      rw [if_pos rfl]
      exact ⟨trivial, trivial⟩
    | _ => first | rfl | exact nomatch pe
  | _ => exact nomatch pa
theorem same_tup {n : Nat} (hn : n ≤ 1000) {k : Nat} {xs ys : List D} {s : S} (px : (D.tup xs).pl n = true) (py : (D.tup ys).pl n = true)
    (ih : ∀ (a e : D) (s : S), a ∈ xs → e ∈ ys → Wp E0 (cl k "_law_same" [a, e] s) fun d s' => d = .bl (D.same a e) ∧ s' = s) : Wp E0 (cl (k+1) "_law_same" [.tup xs, .tup ys] s) fun d s' => d = .bl (D.same (.tup xs) (.tup ys)) ∧ s' = s := by
  rw [c_same]
  refine wf_run ?_
  show Ws (runSs (cfg.q k) d__law_same.body [some (.tup xs), some (.tup ys), none] s) _
  unfold d__law_same
  refine ws_take (.of rfl ⟨rfl, rfl⟩) ?_
  refine ws_skip (.of rfl ⟨rfl, rfl⟩) ?_
  have lx := pl_tup px
  have ly := pl_tup py
  by_cases hl : xs.length = ys.length
  · refine ws_skip ?_ ?_
    · simp only [we_con, we_varm, we_glom, we_bin, we_neg, we_cmp, we_chain, we_and, we_or, we_not, we_ife, we_tup, we_lst, we_ix, we_sl, we_rev, we_call, we_blt, we_isi, we_app, we_lc, wa_nil, wa_cons, wr_nil, wr_cons, wo_none, wo_some, wto_none, wto_some, wt_and, wt_or, wt_not, wt_cmp, wt_chain, wt_tru, wi_seq, wi_range, wi_enum, wg_nm, wg_tup, wg_nil, wg_cons, wg_sub, wp_ok, wp_bad, wp_nox, wb_add, wb_sub, wb_mul, wb_fdiv, wb_mod, wb_pow, wc_eq, wc_ne, wc_lt, wc_le, wc_gt, wc_ge, wc_eqb, wc_neb, wc_eqs, wc_nes, wx_int, wx_lent, wx_lenl, wx_lenr, wz_int, wz_str, wz_bl, wz_non, wz_tup, wz_rol, wz_ref, wz_lst, List.getElem?_cons_zero, List.getElem?_cons_succ, List.set_cons_zero, List.set_cons_succ, List.length_cons, List.length_nil, wi_tup, wi_lst, wi_rol, wx_tuplel, wx_tuplet, wx_listt, wto_some, hdq, hqc, ite_f, ite_tt, decide_eq_true_eq, Bool.not_eq_true']
      rw [hl]
      simp
    refine ws_rets ?_
    simp only [we_con, we_varm, we_glom, we_bin, we_neg, we_cmp, we_chain, we_and, we_or, we_not, we_ife, we_tup, we_lst, we_ix, we_sl, we_rev, we_call, we_blt, we_isi, we_app, we_lc, wa_nil, wa_cons, wr_nil, wr_cons, wo_none, wo_some, wto_none, wto_some, wt_and, wt_or, wt_not, wt_cmp, wt_chain, wt_tru, wi_seq, wi_range, wi_enum, wg_nm, wg_tup, wg_nil, wg_cons, wg_sub, wp_ok, wp_bad, wp_nox, wb_add, wb_sub, wb_mul, wb_fdiv, wb_mod, wb_pow, wc_eq, wc_ne, wc_lt, wc_le, wc_gt, wc_ge, wc_eqb, wc_neb, wc_eqs, wc_nes, wx_int, wx_lent, wx_lenl, wx_lenr, wz_int, wz_str, wz_bl, wz_non, wz_tup, wz_rol, wz_ref, wz_lst, List.getElem?_cons_zero, List.getElem?_cons_succ, List.set_cons_zero, List.set_cons_succ, List.length_cons, List.length_nil, wi_tup, wi_lst, wi_rol, wx_tuplel, wx_tuplet, wx_listt, wto_some, hdq, hqc, ite_f, ite_tt, decide_eq_true_eq, Bool.not_eq_true']
    rw [wri_1 (n := ys.length) (lt62 (by omega))]
    refine wl_rng (fun j => if D.same (xs.getD j .non) (ys.getD j .non) = true then none else some (.int (j : Nat))) rfl (leL (by omega)) (fun j hj => ?_) ?_
    · rw [wt_turn]
      have hx : xs[j]? = some xs[j] := List.getElem?_eq_getElem (by omega)
      have hy : ys[j]? = some ys[j] := List.getElem?_eq_getElem hj
      simp only [we_con, we_varm, we_glom, we_bin, we_neg, we_cmp, we_chain, we_and, we_or, we_not, we_ife, we_tup, we_lst, we_ix, we_sl, we_rev, we_call, we_blt, we_isi, we_app, we_lc, wa_nil, wa_cons, wr_nil, wr_cons, wo_none, wo_some, wto_none, wto_some, wt_and, wt_or, wt_not, wt_cmp, wt_chain, wt_tru, wi_seq, wi_range, wi_enum, wg_nm, wg_tup, wg_nil, wg_cons, wg_sub, wp_ok, wp_bad, wp_nox, wb_add, wb_sub, wb_mul, wb_fdiv, wb_mod, wb_pow, wc_eq, wc_ne, wc_lt, wc_le, wc_gt, wc_ge, wc_eqb, wc_neb, wc_eqs, wc_nes, wx_int, wx_lent, wx_lenl, wx_lenr, wz_int, wz_str, wz_bl, wz_non, wz_tup, wz_rol, wz_ref, wz_lst, List.getElem?_cons_zero, List.getElem?_cons_succ, List.set_cons_zero, List.set_cons_succ, List.length_cons, List.length_nil, wi_tup, wi_lst, wi_rol, wx_tuplel, wx_tuplet, wx_listt, wto_some, hdq, hqc, ite_f, ite_tt, decide_eq_true_eq, Bool.not_eq_true', wip, List.map_cons, List.map_nil, wixt hx, wixt hy]
      refine ⟨⟨by decide, trivial⟩, ?_⟩
      rw [wz_shr (pl_shr (lx.2 _ (List.getElem_mem (by omega)))), wz_shr (pl_shr (ly.2 _ (List.getElem_mem hj)))]
      refine (ih _ _ s (List.getElem_mem (by omega)) (List.getElem_mem hj)).imp ?_
      rintro d s1 ⟨rfl, rfl⟩
      refine ⟨_, rfl, ?_⟩
      have ex : xs.getD j .non = xs[j] := by rw [List.getD_eq_getElem?_getD, hx]; rfl
      have ey : ys.getD j .non = ys[j] := by rw [List.getD_eq_getElem?_getD, hy]; rfl
      rw [ex, ey]
      cases hs : D.same xs[j] ys[j]
      · rw [if_pos rfl]; exact ⟨rfl, rfl⟩
      · rw [if_neg (by simp)]; exact ⟨rfl, rfl⟩
    · simp only [we_con, we_varm, we_glom, we_bin, we_neg, we_cmp, we_chain, we_and, we_or, we_not, we_ife, we_tup, we_lst, we_ix, we_sl, we_rev, we_call, we_blt, we_isi, we_app, we_lc, wa_nil, wa_cons, wr_nil, wr_cons, wo_none, wo_some, wto_none, wto_some, wt_and, wt_or, wt_not, wt_cmp, wt_chain, wt_tru, wi_seq, wi_range, wi_enum, wg_nm, wg_tup, wg_nil, wg_cons, wg_sub, wp_ok, wp_bad, wp_nox, wb_add, wb_sub, wb_mul, wb_fdiv, wb_mod, wb_pow, wc_eq, wc_ne, wc_lt, wc_le, wc_gt, wc_ge, wc_eqb, wc_neb, wc_eqs, wc_nes, wx_int, wx_lent, wx_lenl, wx_lenr, wz_int, wz_str, wz_bl, wz_non, wz_tup, wz_rol, wz_ref, wz_lst, List.getElem?_cons_zero, List.getElem?_cons_succ, List.set_cons_zero, List.set_cons_succ, List.length_cons, List.length_nil, wi_tup, wi_lst, wi_rol, wx_tuplel, wx_tuplet, wx_listt, wto_some, hdq, hqc, ite_f, ite_tt, decide_eq_true_eq, Bool.not_eq_true']
      refine ⟨congrArg D.bl ?_, trivial⟩
      show _ = D.sames xs ys
      rw [Bool.eq_iff_iff, decide_eq_true_eq, sames_ix hl]
      constructor
      · intro h j x y hx hy
        have hj : j < ys.length := (List.getElem?_eq_some_iff.mp hy).1
        have h0 : (List.range ys.length).filterMap (fun j => if D.same (xs.getD j .non) (ys.getD j .non) = true then none else some (D.int (j : Nat))) = [] := List.eq_nil_of_length_eq_zero (by omega)
        have := List.filterMap_eq_nil_iff.mp h0 j (List.mem_range.mpr hj)
        rw [List.getD_eq_getElem?_getD, List.getD_eq_getElem?_getD, hx, hy] at this
        by_cases hs : D.same x y = true
        · exact hs
        · rw [show (some x).getD D.non = x from rfl, show (some y).getD D.non = y from rfl, if_neg hs] at this
          cases this
      · intro h
        have h0 : (List.range ys.length).filterMap (fun j => if D.same (xs.getD j .non) (ys.getD j .non) = true then none else some (D.int (j : Nat))) = [] := by
          refine List.filterMap_eq_nil_iff.mpr fun j hj => ?_
          have hj := List.mem_range.mp hj
          have hx : xs[j]? = some xs[j] := List.getElem?_eq_getElem (by omega)
          have hy : ys[j]? = some ys[j] := List.getElem?_eq_getElem hj
          rw [List.getD_eq_getElem?_getD, List.getD_eq_getElem?_getD, hx, hy]
          exact if_pos (h j _ _ hx hy)
        rw [h0]; rfl
  · refine ws_take ?_ ?_
    · simp only [we_con, we_varm, we_glom, we_bin, we_neg, we_cmp, we_chain, we_and, we_or, we_not, we_ife, we_tup, we_lst, we_ix, we_sl, we_rev, we_call, we_blt, we_isi, we_app, we_lc, wa_nil, wa_cons, wr_nil, wr_cons, wo_none, wo_some, wto_none, wto_some, wt_and, wt_or, wt_not, wt_cmp, wt_chain, wt_tru, wi_seq, wi_range, wi_enum, wg_nm, wg_tup, wg_nil, wg_cons, wg_sub, wp_ok, wp_bad, wp_nox, wb_add, wb_sub, wb_mul, wb_fdiv, wb_mod, wb_pow, wc_eq, wc_ne, wc_lt, wc_le, wc_gt, wc_ge, wc_eqb, wc_neb, wc_eqs, wc_nes, wx_int, wx_lent, wx_lenl, wx_lenr, wz_int, wz_str, wz_bl, wz_non, wz_tup, wz_rol, wz_ref, wz_lst, List.getElem?_cons_zero, List.getElem?_cons_succ, List.set_cons_zero, List.set_cons_succ, List.length_cons, List.length_nil, wi_tup, wi_lst, wi_rol, wx_tuplel, wx_tuplet, wx_listt, wto_some, hdq, hqc, ite_f, ite_tt, decide_eq_true_eq, Bool.not_eq_true']
      simp; omega
    refine ws_rets ?_
    simp only [we_con, we_varm, we_glom, we_bin, we_neg, we_cmp, we_chain, we_and, we_or, we_not, we_ife, we_tup, we_lst, we_ix, we_sl, we_rev, we_call, we_blt, we_isi, we_app, we_lc, wa_nil, wa_cons, wr_nil, wr_cons, wo_none, wo_some, wto_none, wto_some, wt_and, wt_or, wt_not, wt_cmp, wt_chain, wt_tru, wi_seq, wi_range, wi_enum, wg_nm, wg_tup, wg_nil, wg_cons, wg_sub, wp_ok, wp_bad, wp_nox, wb_add, wb_sub, wb_mul, wb_fdiv, wb_mod, wb_pow, wc_eq, wc_ne, wc_lt, wc_le, wc_gt, wc_ge, wc_eqb, wc_neb, wc_eqs, wc_nes, wx_int, wx_lent, wx_lenl, wx_lenr, wz_int, wz_str, wz_bl, wz_non, wz_tup, wz_rol, wz_ref, wz_lst, List.getElem?_cons_zero, List.getElem?_cons_succ, List.set_cons_zero, List.set_cons_succ, List.length_cons, List.length_nil, wi_tup, wi_lst, wi_rol, wx_tuplel, wx_tuplet, wx_listt, wto_some, hdq, hqc, ite_f, ite_tt, decide_eq_true_eq, Bool.not_eq_true']
    refine ⟨congrArg D.bl ?_, trivial⟩
    show _ = D.sames xs ys
    cases h : D.sames xs ys with
    | false => rfl
    | true =>
      exfalso
      have key : ∀ {xs ys : List D}, D.sames xs ys = true → xs.length = ys.length := by
        intro xs
        induction xs with
        | nil => intro ys h; cases ys with
          | nil => rfl
          | cons _ _ => cases h
        | cons x xs ih => intro ys h; cases ys with
          | nil => cases h
          | cons y ys => unfold D.sames at h; rw [Bool.and_eq_true] at h; simp [ih h.2]
      exact hl (key h)
/-- two of them compared -/
theorem s_same {n : Nat} (hn : n ≤ 1000) : ∀ (k : Nat) (a e : D) (s : S), e.dep ≤ k → a.pl n = true → e.pl n = true → Wp E0 (cl (k+1) "_law_same" [a, e] s) fun d s' => d = .bl (D.same a e) ∧ s' = s := by
  have other : ∀ (k : Nat) (a e : D) (s : S), (∀ xs ys, ¬ (a = .tup xs ∧ e = .tup ys)) → a.pl n = true → e.pl n = true → Wp E0 (cl (k+1) "_law_same" [a, e] s) fun d s' => d = .bl (D.same a e) ∧ s' = s := by
    intro k a e s hne pa pe
    by_cases ha : ∃ xs, a = .tup xs
    · obtain ⟨xs, rfl⟩ := ha
      refine .of (a := .bl (D.same (.tup xs) e)) (s' := s) ?_ ⟨rfl, rfl⟩
      rw [c_same]
      cases e with
      | tup ys => exact (hne _ _ ⟨rfl, rfl⟩).elim
      | _ => first | rfl | exact nomatch pe
    · by_cases he : ∃ ys, e = .tup ys
      · obtain ⟨ys, rfl⟩ := he
        refine .of (a := .bl (D.same a (.tup ys))) (s' := s) ?_ ⟨rfl, rfl⟩
        rw [c_same]
        cases a with
        | tup xs => exact (hne _ _ ⟨rfl, rfl⟩).elim
        | _ => first | rfl | exact nomatch pa
      · exact .of (same_flat (fun xs h => ha ⟨xs, h⟩) (fun xs h => he ⟨xs, h⟩) pa pe) ⟨rfl, rfl⟩
  intro k
  induction k with
  | zero =>
    intro a e s hd pa pe
    refine other 0 a e s (fun xs ys h => ?_) pa pe
    obtain ⟨_, rfl⟩ := h
    unfold D.dep at hd; omega
  | succ k ih =>
    intro a e s hd pa pe
    by_cases h : ∃ xs ys, a = .tup xs ∧ e = .tup ys
    · obtain ⟨xs, ys, rfl, rfl⟩ := h
      exact same_tup hn pa pe fun a e s ha he => ih a e s (by have := dep_mem he; omega) ((pl_tup pa).2 _ ha) ((pl_tup pe).2 _ he)
    · exact other (k + 1) a e s (fun xs ys z => h ⟨xs, ys, z⟩) pa pe
/-- all but the i-th thing stands -/
def Keep (i : Nat) (s s' : S) : Prop := ∀ r xs, r ≠ i → lk s r = some xs → lk s' r = some xs
theorem Keep.rfl' {i : Nat} {s : S} : Keep i s s := fun _ _ _ h => h
theorem Keep.trans {i : Nat} {s s1 s2 : S} (a : Keep i s s1) (b : Keep i s1 s2) : Keep i s s2 := fun r xs h e => b r xs h (a r xs h e)
theorem Keep.set {i : Nat} {s : S} {o : O} : Keep i s (s.set i o) := fun r xs h e => by rw [lk_set_ne (Ne.symm h)]; exact e
theorem Keep.app {i : Nat} {s t : S} : Keep i s (s ++ t) := fun r xs h e => lk_app e
theorem Dr.lt {s : S} {i : Nat} (h : Dr s i) : i < s.length := by
  obtain ⟨j, ns, a, b, c, hi, _⟩ := h
  exact lk_lt hi
theorem Dr.app {s t : S} {i : Nat} (h : Dr s i) : Dr (s ++ t) i := by
  obtain ⟨j, ns, a, b, c, hi, hj, ne, ha, hb⟩ := h
  exact ⟨j, ns, a, b, c, lk_app hi, lk_app hj, ne, ha, hb⟩
/-- a draw, as it is used -/
theorem w_draw {E : Xt} {k i : Nat} {n : Int} {s : S} {P : D → S → Prop} (h : Dr s i) (h1 : 1 ≤ n) (h2 : n < 1073741824) (i2 : ∀ (v : Nat) s', (v : Int) < n → Dr s' i → Keep i s s' → P (.int (v : Int)) s') : Wp E (callN cfg.ds cfg.q0 (k+1) "_law_draw" [.ref i, .int n] s) P := by
  refine Wp.up ((s_draw k i n s h h1 h2).imp ?_)
  rintro d s' ⟨v, xs, rfl, rfl, h0, hv, hD⟩
  obtain ⟨m, rfl⟩ := Int.eq_ofNat_of_zero_le h0
  exact i2 m _ hv hD Keep.set
theorem c_pick2 (k : Nat) (a b : D) (s : S) : cl (k+1) "_law_pick" [a, b] s = runF (cfg.q k) 2 d__law_pick.body [a, b] s := by kernel_rfl
theorem s_pick {E : Xt} {k i r : Nat} {xs : List D} {s : S} {P : D → S → Prop} (h : Dr s i) (hl : lk s r = some xs) (hne : r ≠ i) (h1 : 1 ≤ xs.length) (h2 : xs.length ≤ 1000) (i2 : ∀ d s', d ∈ xs → Dr s' i → Keep i s s' → P d s') : Wp E (callN cfg.ds cfg.q0 (k+2) "_law_pick" [.ref i, .ref r] s) P := by
  show Wp E (cl (k+2) "_law_pick" [.ref i, .ref r] s) P
  rw [c_pick2]
  refine wf_run ?_
  show Ws (runSs (cfg.q (k+1)) d__law_pick.body [some (.ref i), some (.ref r)] s) _
  unfold d__law_pick
  refine ws_rets ?_
  simp only [we_con, we_varm, we_glom, we_bin, we_neg, we_cmp, we_chain, we_and, we_or, we_not, we_ife, we_tup, we_lst, we_ix, we_sl, we_rev, we_call, we_blt, we_isi, we_app, we_lc, wa_nil, wa_cons, wr_nil, wr_cons, wo_none, wo_some, wto_none, wto_some, wt_and, wt_or, wt_not, wt_cmp, wt_chain, wt_tru, wi_seq, wi_range, wi_enum, wg_nm, wg_tup, wg_nil, wg_cons, wg_sub, wp_ok, wp_bad, wp_nox, wb_add, wb_sub, wb_mul, wb_fdiv, wb_mod, wb_pow, wc_eq, wc_ne, wc_lt, wc_le, wc_gt, wc_ge, wc_eqb, wc_neb, wc_eqs, wc_nes, wx_int, wx_lent, wx_lenl, wx_lenr, wz_int, wz_str, wz_bl, wz_non, wz_tup, wz_rol, wz_ref, wz_lst, List.getElem?_cons_zero, List.getElem?_cons_succ, List.set_cons_zero, List.set_cons_succ, List.length_cons, List.length_nil, wi_tup, wi_lst, wi_rol, wx_tuplel, wx_tuplet, wx_listt, wto_some, hdq, hqc, ite_f, ite_tt, decide_eq_true_eq, Bool.not_eq_true', wisT, ex_bl, ex_int, ite_tf, ite_ff, wix0, wix1, wix2, Nat.reduceAdd, Nat.reduceLT, sl0, sl1, sl2, sl3, sl4, sl5, sl6, sl10, if_true, true_and, and_true, List.map_cons, List.map_nil, wip, wt_turn, it_non_int, it_non_bool, it_non_str, it_non_tuple, it_non_list, it_non_dict, it_bl_int, it_bl_bool, it_bl_str, it_bl_tuple, it_bl_list, it_bl_dict, it_int_int, it_int_bool, it_int_str, it_int_tuple, it_int_list, it_int_dict, it_str_int, it_str_bool, it_str_str, it_str_tuple, it_str_list, it_str_dict, it_tup_int, it_tup_bool, it_tup_str, it_tup_tuple, it_tup_list, it_tup_dict, it_lst_int, it_lst_bool, it_lst_str, it_lst_tuple, it_lst_list, it_lst_dict, it_rol_int, it_rol_bool, it_rol_str, it_rol_tuple, it_rol_list, it_rol_dict, we_revt, we_fnv, wz_dic, wz_fn, we_dct0]
  rw [wx_len hl]
  simp only [we_con, we_varm, we_glom, we_bin, we_neg, we_cmp, we_chain, we_and, we_or, we_not, we_ife, we_tup, we_lst, we_ix, we_sl, we_rev, we_call, we_blt, we_isi, we_app, we_lc, wa_nil, wa_cons, wr_nil, wr_cons, wo_none, wo_some, wto_none, wto_some, wt_and, wt_or, wt_not, wt_cmp, wt_chain, wt_tru, wi_seq, wi_range, wi_enum, wg_nm, wg_tup, wg_nil, wg_cons, wg_sub, wp_ok, wp_bad, wp_nox, wb_add, wb_sub, wb_mul, wb_fdiv, wb_mod, wb_pow, wc_eq, wc_ne, wc_lt, wc_le, wc_gt, wc_ge, wc_eqb, wc_neb, wc_eqs, wc_nes, wx_int, wx_lent, wx_lenl, wx_lenr, wz_int, wz_str, wz_bl, wz_non, wz_tup, wz_rol, wz_ref, wz_lst, List.getElem?_cons_zero, List.getElem?_cons_succ, List.set_cons_zero, List.set_cons_succ, List.length_cons, List.length_nil, wi_tup, wi_lst, wi_rol, wx_tuplel, wx_tuplet, wx_listt, wto_some, hdq, hqc, ite_f, ite_tt, decide_eq_true_eq, Bool.not_eq_true', wisT, ex_bl, ex_int, ite_tf, ite_ff, wix0, wix1, wix2, Nat.reduceAdd, Nat.reduceLT, sl0, sl1, sl2, sl3, sl4, sl5, sl6, sl10, if_true, true_and, and_true, List.map_cons, List.map_nil, wip, wt_turn, it_non_int, it_non_bool, it_non_str, it_non_tuple, it_non_list, it_non_dict, it_bl_int, it_bl_bool, it_bl_str, it_bl_tuple, it_bl_list, it_bl_dict, it_int_int, it_int_bool, it_int_str, it_int_tuple, it_int_list, it_int_dict, it_str_int, it_str_bool, it_str_str, it_str_tuple, it_str_list, it_str_dict, it_tup_int, it_tup_bool, it_tup_str, it_tup_tuple, it_tup_list, it_tup_dict, it_lst_int, it_lst_bool, it_lst_str, it_lst_tuple, it_lst_list, it_lst_dict, it_rol_int, it_rol_bool, it_rol_str, it_rol_tuple, it_rol_list, it_rol_dict, we_revt, we_fnv, wz_dic, wz_fn, we_dct0]
  refine w_draw h (by omega) (by omega) fun v s' hv hD hK => ?_
  have hv2 : v < xs.length := by omega
  rw [wixr (hK r xs hne hl) (atI_nat (List.getElem?_eq_getElem hv2))]
  exact i2 _ _ (List.getElem_mem hv2) hD hK
def W8 : List Str := ["a", "b", "c10", "7", "zzzzzzzz", "x1", "10", "9"]
theorem c_words (k : Nat) (a b : D) (s : S) : cl (k+1) "_law_words" [a, b] s = runF (cfg.q k) 3 d__law_words.body [a, b] s := by kernel_rfl
theorem s_words {E : Xt} {k i n : Nat} {s : S} {P : D → S → Prop} (h : Dr s i) (hn : n ≤ 1000) (i2 : ∀ (ws : List Str) s', ws.length = n → (∀ x ∈ ws, x ∈ W8) → Dr s' i → P (.tup (ws.map .str)) s') : Wp E (callN cfg.ds cfg.q0 (k+3) "_law_words" [.ref i, .int (n : Nat)] s) P := by
  show Wp E (cl (k+3) "_law_words" [.ref i, .int (n : Nat)] s) P
  rw [c_words]
  refine wf_run ?_
  show Ws (runSs (cfg.q (k+2)) d__law_words.body [some (.ref i), some (.int (n : Nat)), none] s) _
  unfold d__law_words
  refine ws_rets ?_
  simp only [we_con, we_varm, we_glom, we_bin, we_neg, we_cmp, we_chain, we_and, we_or, we_not, we_ife, we_tup, we_lst, we_ix, we_sl, we_rev, we_call, we_blt, we_isi, we_app, we_lc, wa_nil, wa_cons, wr_nil, wr_cons, wo_none, wo_some, wto_none, wto_some, wt_and, wt_or, wt_not, wt_cmp, wt_chain, wt_tru, wi_seq, wi_range, wi_enum, wg_nm, wg_tup, wg_nil, wg_cons, wg_sub, wp_ok, wp_bad, wp_nox, wb_add, wb_sub, wb_mul, wb_fdiv, wb_mod, wb_pow, wc_eq, wc_ne, wc_lt, wc_le, wc_gt, wc_ge, wc_eqb, wc_neb, wc_eqs, wc_nes, wx_int, wx_lent, wx_lenl, wx_lenr, wz_int, wz_str, wz_bl, wz_non, wz_tup, wz_rol, wz_ref, wz_lst, List.getElem?_cons_zero, List.getElem?_cons_succ, List.set_cons_zero, List.set_cons_succ, List.length_cons, List.length_nil, wi_tup, wi_lst, wi_rol, wx_tuplel, wx_tuplet, wx_listt, wto_some, hdq, hqc, ite_f, ite_tt, decide_eq_true_eq, Bool.not_eq_true', wisT, ex_bl, ex_int, ite_tf, ite_ff, wix0, wix1, wix2, Nat.reduceAdd, Nat.reduceLT, sl0, sl1, sl2, sl3, sl4, sl5, sl6, sl10, if_true, true_and, and_true, List.map_cons, List.map_nil, wip, wt_turn, it_non_int, it_non_bool, it_non_str, it_non_tuple, it_non_list, it_non_dict, it_bl_int, it_bl_bool, it_bl_str, it_bl_tuple, it_bl_list, it_bl_dict, it_int_int, it_int_bool, it_int_str, it_int_tuple, it_int_list, it_int_dict, it_str_int, it_str_bool, it_str_str, it_str_tuple, it_str_list, it_str_dict, it_tup_int, it_tup_bool, it_tup_str, it_tup_tuple, it_tup_list, it_tup_dict, it_lst_int, it_lst_bool, it_lst_str, it_lst_tuple, it_lst_list, it_lst_dict, it_rol_int, it_rol_bool, it_rol_str, it_rol_tuple, it_rol_list, it_rol_dict, we_revt, we_fnv, wz_dic, wz_fn, we_dct0]
  rw [wri_1 (lt62 (by omega))]
  refine wl_inv (fun r acc s' => ∃ ws : List Str, acc = ws.map .str ∧ ws.length + r.length = n ∧ (∀ x ∈ ws, x ∈ W8) ∧ Dr s' i ∧ ∀ x ∈ r, ∃ j : Int, x = .int j) ⟨[], rfl, by simp [rangeL], by simp, h, fun x hx => ?_⟩ ?_ ?_
  · obtain ⟨j, _, rfl⟩ := List.mem_map.mp hx
    exact ⟨_, rfl⟩
  · rintro acc s' ⟨ws, rfl, hl, hw, hD, _⟩
    refine ⟨rfl, ?_⟩
    simp only [we_con, we_varm, we_glom, we_bin, we_neg, we_cmp, we_chain, we_and, we_or, we_not, we_ife, we_tup, we_lst, we_ix, we_sl, we_rev, we_call, we_blt, we_isi, we_app, we_lc, wa_nil, wa_cons, wr_nil, wr_cons, wo_none, wo_some, wto_none, wto_some, wt_and, wt_or, wt_not, wt_cmp, wt_chain, wt_tru, wi_seq, wi_range, wi_enum, wg_nm, wg_tup, wg_nil, wg_cons, wg_sub, wp_ok, wp_bad, wp_nox, wb_add, wb_sub, wb_mul, wb_fdiv, wb_mod, wb_pow, wc_eq, wc_ne, wc_lt, wc_le, wc_gt, wc_ge, wc_eqb, wc_neb, wc_eqs, wc_nes, wx_int, wx_lent, wx_lenl, wx_lenr, wz_int, wz_str, wz_bl, wz_non, wz_tup, wz_rol, wz_ref, wz_lst, List.getElem?_cons_zero, List.getElem?_cons_succ, List.set_cons_zero, List.set_cons_succ, List.length_cons, List.length_nil, wi_tup, wi_lst, wi_rol, wx_tuplel, wx_tuplet, wx_listt, wto_some, hdq, hqc, ite_f, ite_tt, decide_eq_true_eq, Bool.not_eq_true', wisT, ex_bl, ex_int, ite_tf, ite_ff, wix0, wix1, wix2, Nat.reduceAdd, Nat.reduceLT, sl0, sl1, sl2, sl3, sl4, sl5, sl6, sl10, if_true, true_and, and_true, List.map_cons, List.map_nil, wip, wt_turn, it_non_int, it_non_bool, it_non_str, it_non_tuple, it_non_list, it_non_dict, it_bl_int, it_bl_bool, it_bl_str, it_bl_tuple, it_bl_list, it_bl_dict, it_int_int, it_int_bool, it_int_str, it_int_tuple, it_int_list, it_int_dict, it_str_int, it_str_bool, it_str_str, it_str_tuple, it_str_list, it_str_dict, it_tup_int, it_tup_bool, it_tup_str, it_tup_tuple, it_tup_list, it_tup_dict, it_lst_int, it_lst_bool, it_lst_str, it_lst_tuple, it_lst_list, it_lst_dict, it_rol_int, it_rol_bool, it_rol_str, it_rol_tuple, it_rol_list, it_rol_dict, we_revt, we_fnv, wz_dic, wz_fn, we_dct0]
    exact i2 ws s' (by simpa using hl) hw hD
  · rintro x xs acc s' ⟨ws, rfl, hl, hw, hD, hx⟩
    refine ⟨rfl, ?_⟩
    obtain ⟨j, rfl⟩ := hx x List.mem_cons_self
    simp only [we_con, we_varm, we_glom, we_bin, we_neg, we_cmp, we_chain, we_and, we_or, we_not, we_ife, we_tup, we_lst, we_ix, we_sl, we_rev, we_call, we_blt, we_isi, we_app, we_lc, wa_nil, wa_cons, wr_nil, wr_cons, wo_none, wo_some, wto_none, wto_some, wt_and, wt_or, wt_not, wt_cmp, wt_chain, wt_tru, wi_seq, wi_range, wi_enum, wg_nm, wg_tup, wg_nil, wg_cons, wg_sub, wp_ok, wp_bad, wp_nox, wb_add, wb_sub, wb_mul, wb_fdiv, wb_mod, wb_pow, wc_eq, wc_ne, wc_lt, wc_le, wc_gt, wc_ge, wc_eqb, wc_neb, wc_eqs, wc_nes, wx_int, wx_lent, wx_lenl, wx_lenr, wz_int, wz_str, wz_bl, wz_non, wz_tup, wz_rol, wz_ref, wz_lst, List.getElem?_cons_zero, List.getElem?_cons_succ, List.set_cons_zero, List.set_cons_succ, List.length_cons, List.length_nil, wi_tup, wi_lst, wi_rol, wx_tuplel, wx_tuplet, wx_listt, wto_some, hdq, hqc, ite_f, ite_tt, decide_eq_true_eq, Bool.not_eq_true', wisT, ex_bl, ex_int, ite_tf, ite_ff, wix0, wix1, wix2, Nat.reduceAdd, Nat.reduceLT, sl0, sl1, sl2, sl3, sl4, sl5, sl6, sl10, if_true, true_and, and_true, List.map_cons, List.map_nil, wip, wt_turn, it_non_int, it_non_bool, it_non_str, it_non_tuple, it_non_list, it_non_dict, it_bl_int, it_bl_bool, it_bl_str, it_bl_tuple, it_bl_list, it_bl_dict, it_int_int, it_int_bool, it_int_str, it_int_tuple, it_int_list, it_int_dict, it_str_int, it_str_bool, it_str_str, it_str_tuple, it_str_list, it_str_dict, it_tup_int, it_tup_bool, it_tup_str, it_tup_tuple, it_tup_list, it_tup_dict, it_lst_int, it_lst_bool, it_lst_str, it_lst_tuple, it_lst_list, it_lst_dict, it_rol_int, it_rol_bool, it_rol_str, it_rol_tuple, it_rol_list, it_rol_dict, we_revt, we_fnv, wz_dic, wz_fn, we_dct0]
    refine ⟨leL (by decide), ?_⟩
    refine s_pick hD.app lk_new1 (Nat.ne_of_gt hD.lt) (by simp) (by simp) fun d s2 hd hD2 _ => ?_
    obtain ⟨w, hw2, rfl⟩ : ∃ w, w ∈ W8 ∧ d = .str w := by
      simp only [List.mem_cons, List.not_mem_nil, or_false] at hd
      rcases hd with rfl | rfl | rfl | rfl | rfl | rfl | rfl | rfl <;> exact ⟨_, by decide, rfl⟩
    simp only [we_con, we_varm, we_glom, we_bin, we_neg, we_cmp, we_chain, we_and, we_or, we_not, we_ife, we_tup, we_lst, we_ix, we_sl, we_rev, we_call, we_blt, we_isi, we_app, we_lc, wa_nil, wa_cons, wr_nil, wr_cons, wo_none, wo_some, wto_none, wto_some, wt_and, wt_or, wt_not, wt_cmp, wt_chain, wt_tru, wi_seq, wi_range, wi_enum, wg_nm, wg_tup, wg_nil, wg_cons, wg_sub, wp_ok, wp_bad, wp_nox, wb_add, wb_sub, wb_mul, wb_fdiv, wb_mod, wb_pow, wc_eq, wc_ne, wc_lt, wc_le, wc_gt, wc_ge, wc_eqb, wc_neb, wc_eqs, wc_nes, wx_int, wx_lent, wx_lenl, wx_lenr, wz_int, wz_str, wz_bl, wz_non, wz_tup, wz_rol, wz_ref, wz_lst, List.getElem?_cons_zero, List.getElem?_cons_succ, List.set_cons_zero, List.set_cons_succ, List.length_cons, List.length_nil, wi_tup, wi_lst, wi_rol, wx_tuplel, wx_tuplet, wx_listt, wto_some, hdq, hqc, ite_f, ite_tt, decide_eq_true_eq, Bool.not_eq_true', wisT, ex_bl, ex_int, ite_tf, ite_ff, wix0, wix1, wix2, Nat.reduceAdd, Nat.reduceLT, sl0, sl1, sl2, sl3, sl4, sl5, sl6, sl10, if_true, true_and, and_true, List.map_cons, List.map_nil, wip, wt_turn, it_non_int, it_non_bool, it_non_str, it_non_tuple, it_non_list, it_non_dict, it_bl_int, it_bl_bool, it_bl_str, it_bl_tuple, it_bl_list, it_bl_dict, it_int_int, it_int_bool, it_int_str, it_int_tuple, it_int_list, it_int_dict, it_str_int, it_str_bool, it_str_str, it_str_tuple, it_str_list, it_str_dict, it_tup_int, it_tup_bool, it_tup_str, it_tup_tuple, it_tup_list, it_tup_dict, it_lst_int, it_lst_bool, it_lst_str, it_lst_tuple, it_lst_list, it_lst_dict, it_rol_int, it_rol_bool, it_rol_str, it_rol_tuple, it_rol_list, it_rol_dict, we_revt, we_fnv, wz_dic, wz_fn, we_dct0]
    rw [List.length_cons] at hl
    refine ⟨by rw [List.length_map]; exact Nat.lt_of_lt_of_le (by omega : ws.length < 1000) (by decide), ws ++ [w], by simp, by simp; omega, fun x hx2 => ?_, hD2, fun x hx2 => hx x (List.mem_cons_of_mem _ hx2)⟩
    rcases List.mem_append.mp hx2 with z | z
    · exact hw x z
    · rw [List.mem_singleton.mp z]; exact hw2
end DI.L

set_option Elab.async false
set_option linter.all false
set_option maxRecDepth 100000
set_option maxHeartbeats 4000000
/-! the plain law of k00, C: words, contents. -/
namespace DI.L
open PySem L2
theorem g_most {k : Nat} : (cfg.q k).gl "MOST_WORDS" = some (.int 40) := by kernel_rfl
theorem s_word {k : Nat} {x : Str} {s : S} (h : x ∈ W8) : cl (k+1) "is_word" [.str x] s = .ok (.bl true) s := by
  simp only [W8, List.mem_cons, List.not_mem_nil, or_false] at h
  rcases h with rfl | rfl | rfl | rfl | rfl | rfl | rfl | rfl <;> kernel_rfl
theorem s_word1 {k : Nat} {s : S} : cl (k+1) "is_word" [.int 1] s = .ok (.bl false) s := by kernel_rfl
theorem c_content (k : Nat) (d : D) (s : S) : cl (k+1) "is_content" [d] s = runF (cfg.q k) 2 d_is_content.body [d] s := by kernel_rfl
/-- a row of words, and perhaps a number behind -/
theorem s_contentG {k : Nat} {ds : List D} {f : D → Bool} {s : S} (hl : ds.length ≤ 1000) (h : ∀ d ∈ ds, d.shr = true ∧ cl (k+1) "is_word" [d] s = .ok (.bl (f d)) s) : Wp E0 (cl (k+2) "is_content" [.tup ds] s) fun d s' => d = .bl (decide (ds.length ≤ 40) && ds.all f) ∧ s' = s := by
  rw [c_content]
  refine wf_run ?_
  show Ws (runSs (cfg.q (k+1)) d_is_content.body [some (.tup ds), none] s) _
  unfold d_is_content
  refine ws_rets ?_
  simp only [we_con, we_varm, we_glom, we_bin, we_neg, we_cmp, we_chain, we_and, we_or, we_not, we_ife, we_tup, we_lst, we_ix, we_sl, we_rev, we_call, we_blt, we_isi, we_app, we_lc, wa_nil, wa_cons, wr_nil, wr_cons, wo_none, wo_some, wto_none, wto_some, wt_and, wt_or, wt_not, wt_cmp, wt_chain, wt_tru, wi_seq, wi_range, wi_enum, wg_nm, wg_tup, wg_nil, wg_cons, wg_sub, wp_ok, wp_bad, wp_nox, wb_add, wb_sub, wb_mul, wb_fdiv, wb_mod, wb_pow, wc_eq, wc_ne, wc_lt, wc_le, wc_gt, wc_ge, wc_eqb, wc_neb, wc_eqs, wc_nes, wx_int, wx_lent, wx_lenl, wx_lenr, wz_int, wz_str, wz_bl, wz_non, wz_tup, wz_rol, wz_ref, wz_lst, List.getElem?_cons_zero, List.getElem?_cons_succ, List.set_cons_zero, List.set_cons_succ, List.length_cons, List.length_nil, wi_tup, wi_lst, wi_rol, wx_tuplel, wx_tuplet, wx_listt, wto_some, hdq, hqc, ite_f, ite_tt, decide_eq_true_eq, Bool.not_eq_true', wisT, ex_bl, ex_int, ite_tf, ite_ff, wix0, wix1, wix2, Nat.reduceAdd, Nat.reduceLT, sl0, sl1, sl2, sl3, sl4, sl5, sl6, sl10, if_true, true_and, and_true, List.map_cons, List.map_nil, wip, wt_turn, it_non_int, it_non_bool, it_non_str, it_non_tuple, it_non_list, it_non_dict, it_bl_int, it_bl_bool, it_bl_str, it_bl_tuple, it_bl_list, it_bl_dict, it_int_int, it_int_bool, it_int_str, it_int_tuple, it_int_list, it_int_dict, it_str_int, it_str_bool, it_str_str, it_str_tuple, it_str_list, it_str_dict, it_tup_int, it_tup_bool, it_tup_str, it_tup_tuple, it_tup_list, it_tup_dict, it_lst_int, it_lst_bool, it_lst_str, it_lst_tuple, it_lst_list, it_lst_dict, it_rol_int, it_rol_bool, it_rol_str, it_rol_tuple, it_rol_list, it_rol_dict, we_revt, we_fnv, wz_dic, wz_fn, we_dct0, g_most]
  by_cases h40 : (ds.length : Int) ≤ 40
  · have h40' : ds.length ≤ 40 := by omega
    rw [if_pos h40, decide_eq_true h40']
    refine wl_map (fun d => .bl (f d)) rfl (leL (by omega)) (fun d hd => ?_) ?_
    · simp only [we_con, we_varm, we_glom, we_bin, we_neg, we_cmp, we_chain, we_and, we_or, we_not, we_ife, we_tup, we_lst, we_ix, we_sl, we_rev, we_call, we_blt, we_isi, we_app, we_lc, wa_nil, wa_cons, wr_nil, wr_cons, wo_none, wo_some, wto_none, wto_some, wt_and, wt_or, wt_not, wt_cmp, wt_chain, wt_tru, wi_seq, wi_range, wi_enum, wg_nm, wg_tup, wg_nil, wg_cons, wg_sub, wp_ok, wp_bad, wp_nox, wb_add, wb_sub, wb_mul, wb_fdiv, wb_mod, wb_pow, wc_eq, wc_ne, wc_lt, wc_le, wc_gt, wc_ge, wc_eqb, wc_neb, wc_eqs, wc_nes, wx_int, wx_lent, wx_lenl, wx_lenr, wz_int, wz_str, wz_bl, wz_non, wz_tup, wz_rol, wz_ref, wz_lst, List.getElem?_cons_zero, List.getElem?_cons_succ, List.set_cons_zero, List.set_cons_succ, List.length_cons, List.length_nil, wi_tup, wi_lst, wi_rol, wx_tuplel, wx_tuplet, wx_listt, wto_some, hdq, hqc, ite_f, ite_tt, decide_eq_true_eq, Bool.not_eq_true', wisT, ex_bl, ex_int, ite_tf, ite_ff, wix0, wix1, wix2, Nat.reduceAdd, Nat.reduceLT, sl0, sl1, sl2, sl3, sl4, sl5, sl6, sl10, if_true, true_and, and_true, List.map_cons, List.map_nil, wip, wt_turn, it_non_int, it_non_bool, it_non_str, it_non_tuple, it_non_list, it_non_dict, it_bl_int, it_bl_bool, it_bl_str, it_bl_tuple, it_bl_list, it_bl_dict, it_int_int, it_int_bool, it_int_str, it_int_tuple, it_int_list, it_int_dict, it_str_int, it_str_bool, it_str_str, it_str_tuple, it_str_list, it_str_dict, it_tup_int, it_tup_bool, it_tup_str, it_tup_tuple, it_tup_list, it_tup_dict, it_lst_int, it_lst_bool, it_lst_str, it_lst_tuple, it_lst_list, it_lst_dict, it_rol_int, it_rol_bool, it_rol_str, it_rol_tuple, it_rol_list, it_rol_dict, we_revt, we_fnv, wz_dic, wz_fn, we_dct0]
      rw [wz_shr (h d hd).1, wz_shr (h d hd).1]
      refine .of (h d hd).2 ?_
      simp only [we_con, we_varm, we_glom, we_bin, we_neg, we_cmp, we_chain, we_and, we_or, we_not, we_ife, we_tup, we_lst, we_ix, we_sl, we_rev, we_call, we_blt, we_isi, we_app, we_lc, wa_nil, wa_cons, wr_nil, wr_cons, wo_none, wo_some, wto_none, wto_some, wt_and, wt_or, wt_not, wt_cmp, wt_chain, wt_tru, wi_seq, wi_range, wi_enum, wg_nm, wg_tup, wg_nil, wg_cons, wg_sub, wp_ok, wp_bad, wp_nox, wb_add, wb_sub, wb_mul, wb_fdiv, wb_mod, wb_pow, wc_eq, wc_ne, wc_lt, wc_le, wc_gt, wc_ge, wc_eqb, wc_neb, wc_eqs, wc_nes, wx_int, wx_lent, wx_lenl, wx_lenr, wz_int, wz_str, wz_bl, wz_non, wz_tup, wz_rol, wz_ref, wz_lst, List.getElem?_cons_zero, List.getElem?_cons_succ, List.set_cons_zero, List.set_cons_succ, List.length_cons, List.length_nil, wi_tup, wi_lst, wi_rol, wx_tuplel, wx_tuplet, wx_listt, wto_some, hdq, hqc, ite_f, ite_tt, decide_eq_true_eq, Bool.not_eq_true', wisT, ex_bl, ex_int, ite_tf, ite_ff, wix0, wix1, wix2, Nat.reduceAdd, Nat.reduceLT, sl0, sl1, sl2, sl3, sl4, sl5, sl6, sl10, if_true, true_and, and_true, List.map_cons, List.map_nil, wip, wt_turn, it_non_int, it_non_bool, it_non_str, it_non_tuple, it_non_list, it_non_dict, it_bl_int, it_bl_bool, it_bl_str, it_bl_tuple, it_bl_list, it_bl_dict, it_int_int, it_int_bool, it_int_str, it_int_tuple, it_int_list, it_int_dict, it_str_int, it_str_bool, it_str_str, it_str_tuple, it_str_list, it_str_dict, it_tup_int, it_tup_bool, it_tup_str, it_tup_tuple, it_tup_list, it_tup_dict, it_lst_int, it_lst_bool, it_lst_str, it_lst_tuple, it_lst_list, it_lst_dict, it_rol_int, it_rol_bool, it_rol_str, it_rol_tuple, it_rol_list, it_rol_dict, we_revt, we_fnv, wz_dic, wz_fn, we_dct0]
    · rw [show ds.map (fun d => D.bl (f d)) = (ds.map f).map .bl by rw [List.map_map]; rfl, wx_all]
      refine ⟨congrArg D.bl ?_, rfl⟩
      rw [List.all_map]; simp
  · have h40' : ¬ ds.length ≤ 40 := by omega
    rw [if_neg h40, decide_eq_false h40']; rfl
theorem s_content {k : Nat} {ws : List Str} {s : S} (hl : ws.length ≤ 1000) (h : ∀ x ∈ ws, x ∈ W8) : Wp E0 (cl (k+2) "is_content" [.tup (ws.map .str)] s) fun d s' => d = .bl (decide (ws.length ≤ 40)) ∧ s' = s := by
  refine (s_contentG (f := fun _ => true) (by simpa using hl) fun d hd => ?_).imp fun d s' ⟨a, b⟩ => ⟨?_, b⟩
  · obtain ⟨w, hw, rfl⟩ := List.mem_map.mp hd
    exact ⟨rfl, s_word (h w hw)⟩
  · rw [a, List.length_map]
    congr 1
    simp
theorem c_joined (k : Nat) (a b : D) (s : S) : cl (k+1) "joined" [a, b] s = runF (cfg.q k) 2 d_joined.body [a, b] s := by kernel_rfl
theorem s_joined {k : Nat} {xs ys : List D} {s : S} (hx : xs.length ≤ 1000) (hy : ys.length ≤ 1000) : Wp E0 (cl (k+1) "joined" [.tup xs, .tup ys] s) fun d s' => d = (if xs.length + ys.length ≤ 40 then .tup (xs ++ ys) else .non) ∧ s' = s := by
  rw [c_joined]
  refine wf_run ?_
  show Ws (runSs (cfg.q k) d_joined.body [some (.tup xs), some (.tup ys)] s) _
  unfold d_joined
  refine ws_rets ?_
  simp only [we_con, we_varm, we_glom, we_bin, we_neg, we_cmp, we_chain, we_and, we_or, we_not, we_ife, we_tup, we_lst, we_ix, we_sl, we_rev, we_call, we_blt, we_isi, we_app, we_lc, wa_nil, wa_cons, wr_nil, wr_cons, wo_none, wo_some, wto_none, wto_some, wt_and, wt_or, wt_not, wt_cmp, wt_chain, wt_tru, wi_seq, wi_range, wi_enum, wg_nm, wg_tup, wg_nil, wg_cons, wg_sub, wp_ok, wp_bad, wp_nox, wb_add, wb_sub, wb_mul, wb_fdiv, wb_mod, wb_pow, wc_eq, wc_ne, wc_lt, wc_le, wc_gt, wc_ge, wc_eqb, wc_neb, wc_eqs, wc_nes, wx_int, wx_lent, wx_lenl, wx_lenr, wz_int, wz_str, wz_bl, wz_non, wz_tup, wz_rol, wz_ref, wz_lst, List.getElem?_cons_zero, List.getElem?_cons_succ, List.set_cons_zero, List.set_cons_succ, List.length_cons, List.length_nil, wi_tup, wi_lst, wi_rol, wx_tuplel, wx_tuplet, wx_listt, wto_some, hdq, hqc, ite_f, ite_tt, decide_eq_true_eq, Bool.not_eq_true', wisT, ex_bl, ex_int, ite_tf, ite_ff, wix0, wix1, wix2, Nat.reduceAdd, Nat.reduceLT, sl0, sl1, sl2, sl3, sl4, sl5, sl6, sl10, if_true, true_and, and_true, List.map_cons, List.map_nil, wip, wt_turn, it_non_int, it_non_bool, it_non_str, it_non_tuple, it_non_list, it_non_dict, it_bl_int, it_bl_bool, it_bl_str, it_bl_tuple, it_bl_list, it_bl_dict, it_int_int, it_int_bool, it_int_str, it_int_tuple, it_int_list, it_int_dict, it_str_int, it_str_bool, it_str_str, it_str_tuple, it_str_list, it_str_dict, it_tup_int, it_tup_bool, it_tup_str, it_tup_tuple, it_tup_list, it_tup_dict, it_lst_int, it_lst_bool, it_lst_str, it_lst_tuple, it_lst_list, it_lst_dict, it_rol_int, it_rol_bool, it_rol_str, it_rol_tuple, it_rol_list, it_rol_dict, we_revt, we_fnv, wz_dic, wz_fn, we_dct0, g_most]
  by_cases h40 : xs.length + ys.length ≤ 40
  · rw [if_pos h40, if_pos (by omega), wb_tadd (leL (by omega))]
    exact ⟨rfl, rfl⟩
  · rw [if_neg h40, if_neg (by omega)]
theorem c_turned (k : Nat) (a : D) (s : S) : cl (k+1) "turned" [a] s = runF (cfg.q k) 1 d_turned.body [a] s := by kernel_rfl
theorem s_turned {k : Nat} {xs : List D} {s : S} : cl (k+1) "turned" [.tup xs] s = .ok (.tup xs.reverse) s := by
  rw [c_turned]; rfl
theorem c_counted (k : Nat) (a : D) (s : S) : cl (k+1) "counted" [a] s = runF (cfg.q k) 1 d_counted.body [a] s := by kernel_rfl
def numS (n : Nat) : D := .str (toString (n : Int) : String)
theorem wx_strn {E : Xt} {n : Nat} {s : S} {PD : D → S → Prop} (h : n ≤ 1000) : Wp E (bltD .str [.int (n : Int)] s) PD = PD (numS n) s := by
  have : bltD .str [.int (n : Int)] s = .ok (numS n) s := by
    show (if ((n : Int)).natAbs.log2 < 1920 then R.ok (D.str (toString (n : Int) : String)) s else .bad) = _
    rw [if_pos (Nat.lt_of_le_of_lt (Nat.log2_le_self _) (by omega))]; rfl
  rw [this, wp_ok]
theorem s_counted {k : Nat} {xs : List D} {s : S} (hx : xs.length ≤ 1000) : Wp E0 (cl (k+1) "counted" [.tup xs] s) fun d s' => d = .tup [numS xs.length] ∧ s' = s := by
  rw [c_counted]
  refine wf_run ?_
  show Ws (runSs (cfg.q k) d_counted.body [some (.tup xs)] s) _
  unfold d_counted
  refine ws_rets ?_
  simp only [we_con, we_varm, we_glom, we_bin, we_neg, we_cmp, we_chain, we_and, we_or, we_not, we_ife, we_tup, we_lst, we_ix, we_sl, we_rev, we_call, we_blt, we_isi, we_app, we_lc, wa_nil, wa_cons, wr_nil, wr_cons, wo_none, wo_some, wto_none, wto_some, wt_and, wt_or, wt_not, wt_cmp, wt_chain, wt_tru, wi_seq, wi_range, wi_enum, wg_nm, wg_tup, wg_nil, wg_cons, wg_sub, wp_ok, wp_bad, wp_nox, wb_add, wb_sub, wb_mul, wb_fdiv, wb_mod, wb_pow, wc_eq, wc_ne, wc_lt, wc_le, wc_gt, wc_ge, wc_eqb, wc_neb, wc_eqs, wc_nes, wx_int, wx_lent, wx_lenl, wx_lenr, wz_int, wz_str, wz_bl, wz_non, wz_tup, wz_rol, wz_ref, wz_lst, List.getElem?_cons_zero, List.getElem?_cons_succ, List.set_cons_zero, List.set_cons_succ, List.length_cons, List.length_nil, wi_tup, wi_lst, wi_rol, wx_tuplel, wx_tuplet, wx_listt, wto_some, hdq, hqc, ite_f, ite_tt, decide_eq_true_eq, Bool.not_eq_true', wisT, ex_bl, ex_int, ite_tf, ite_ff, wix0, wix1, wix2, Nat.reduceAdd, Nat.reduceLT, sl0, sl1, sl2, sl3, sl4, sl5, sl6, sl10, if_true, true_and, and_true, List.map_cons, List.map_nil, wip, wt_turn, it_non_int, it_non_bool, it_non_str, it_non_tuple, it_non_list, it_non_dict, it_bl_int, it_bl_bool, it_bl_str, it_bl_tuple, it_bl_list, it_bl_dict, it_int_int, it_int_bool, it_int_str, it_int_tuple, it_int_list, it_int_dict, it_str_int, it_str_bool, it_str_str, it_str_tuple, it_str_list, it_str_dict, it_tup_int, it_tup_bool, it_tup_str, it_tup_tuple, it_tup_list, it_tup_dict, it_lst_int, it_lst_bool, it_lst_str, it_lst_tuple, it_lst_list, it_lst_dict, it_rol_int, it_rol_bool, it_rol_str, it_rol_tuple, it_rol_list, it_rol_dict, we_revt, we_fnv, wz_dic, wz_fn, we_dct0]
  rw [wx_strn hx]
  unfold numS
  simp only [we_con, we_varm, we_glom, we_bin, we_neg, we_cmp, we_chain, we_and, we_or, we_not, we_ife, we_tup, we_lst, we_ix, we_sl, we_rev, we_call, we_blt, we_isi, we_app, we_lc, wa_nil, wa_cons, wr_nil, wr_cons, wo_none, wo_some, wto_none, wto_some, wt_and, wt_or, wt_not, wt_cmp, wt_chain, wt_tru, wi_seq, wi_range, wi_enum, wg_nm, wg_tup, wg_nil, wg_cons, wg_sub, wp_ok, wp_bad, wp_nox, wb_add, wb_sub, wb_mul, wb_fdiv, wb_mod, wb_pow, wc_eq, wc_ne, wc_lt, wc_le, wc_gt, wc_ge, wc_eqb, wc_neb, wc_eqs, wc_nes, wx_int, wx_lent, wx_lenl, wx_lenr, wz_int, wz_str, wz_bl, wz_non, wz_tup, wz_rol, wz_ref, wz_lst, List.getElem?_cons_zero, List.getElem?_cons_succ, List.set_cons_zero, List.set_cons_succ, List.length_cons, List.length_nil, wi_tup, wi_lst, wi_rol, wx_tuplel, wx_tuplet, wx_listt, wto_some, hdq, hqc, ite_f, ite_tt, decide_eq_true_eq, Bool.not_eq_true', wisT, ex_bl, ex_int, ite_tf, ite_ff, wix0, wix1, wix2, Nat.reduceAdd, Nat.reduceLT, sl0, sl1, sl2, sl3, sl4, sl5, sl6, sl10, if_true, true_and, and_true, List.map_cons, List.map_nil, wip, wt_turn, it_non_int, it_non_bool, it_non_str, it_non_tuple, it_non_list, it_non_dict, it_bl_int, it_bl_bool, it_bl_str, it_bl_tuple, it_bl_list, it_bl_dict, it_int_int, it_int_bool, it_int_str, it_int_tuple, it_int_list, it_int_dict, it_str_int, it_str_bool, it_str_str, it_str_tuple, it_str_list, it_str_dict, it_tup_int, it_tup_bool, it_tup_str, it_tup_tuple, it_tup_list, it_tup_dict, it_lst_int, it_lst_bool, it_lst_str, it_lst_tuple, it_lst_list, it_lst_dict, it_rol_int, it_rol_bool, it_rol_str, it_rol_tuple, it_rol_list, it_rol_dict, we_revt, we_fnv, wz_dic, wz_fn, we_dct0]
theorem snoc_ind {α : Type} {P : List α → Prop} (h0 : P []) (hs : ∀ l x, P l → P (l ++ [x])) (l : List α) : P l := by
  have key : ∀ l : List α, P l.reverse := by
    intro l
    induction l with
    | nil => exact h0
    | cons x l ih => rw [List.reverse_cons]; exact hs _ _ ih
  have := key l.reverse
  rwa [List.reverse_reverse] at this
/-- each where it comes first -/
def firsts (ws : List Str) : List Str := ws.foldl (fun acc w => if w ∈ acc then acc else acc ++ [w]) []
theorem firsts_snoc (ws : List Str) (w : Str) : firsts (ws ++ [w]) = if w ∈ firsts ws then firsts ws else firsts ws ++ [w] := by
  unfold firsts
  rw [List.foldl_append]; rfl
theorem mem_firsts : ∀ {ws : List Str} {x : Str}, x ∈ firsts ws ↔ x ∈ ws := by
  intro ws
  refine snoc_ind (P := fun ws => ∀ {x : Str}, x ∈ firsts ws ↔ x ∈ ws) Iff.rfl (fun ws w ih {x} => ?_) ws
  rw [firsts_snoc, List.mem_append, List.mem_singleton]
  split
  · rename_i h
    rw [ih]
    exact ⟨.inl, fun z => z.elim id fun e => by rw [e]; exact ih.mp h⟩
  · rw [List.mem_append, List.mem_singleton, ih]
theorem firsts_len (ws : List Str) : (firsts ws).length ≤ ws.length := by
  refine snoc_ind (P := fun ws => (firsts ws).length ≤ ws.length) (Nat.le_refl _) (fun ws w ih => ?_) ws
  · show (firsts (ws ++ [w])).length ≤ (ws ++ [w]).length
    rw [firsts_snoc]
    split
    · simp; omega
    · simp; omega
theorem hasK_inr {w : Str} : ∀ {l : List Str}, hasK (.inr w) (l.map .inr) = decide (w ∈ l)
  | [] => rfl
  | x :: l => by
    show (decide ((.inr x : Key) = .inr w) || hasK (.inr w) (l.map .inr)) = _
    rw [hasK_inr, Bool.eq_iff_iff, Bool.or_eq_true, decide_eq_true_eq, decide_eq_true_eq, decide_eq_true_eq, List.mem_cons]
    exact ⟨fun z => z.imp (fun e => by injection e with e; exact e.symm) id, fun z => z.imp (fun e => by rw [e]) id⟩
theorem putKs_inr {w : Str} {l : List Str} : putKs (.inr w) (l.map .inr) = (if w ∈ l then l else l ++ [w]).map .inr := by
  unfold putKs
  rw [hasK_inr]
  by_cases h : w ∈ l
  · rw [decide_eq_true h, if_pos rfl, if_pos h]
  · rw [decide_eq_false h, if_neg (by decide), if_neg h, List.map_append]; rfl
theorem c_once (k : Nat) (a : D) (s : S) : cl (k+1) "once" [a] s = runF (cfg.q k) 2 d_once.body [a] s := by kernel_rfl
theorem s_once {k : Nat} {ws : List Str} {s : S} (hl : ws.length ≤ 1000) : Wp E0 (cl (k+1) "once" [.tup (ws.map .str)] s) fun d s' => d = .tup ((firsts ws).map .str) ∧ s' = s := by
  rw [c_once]
  refine wf_run ?_
  show Ws (runSs (cfg.q k) d_once.body [some (.tup (ws.map .str)), none] s) _
  unfold d_once
  refine ws_rets ?_
  rw [we_blt, wr_cons, we_dc]
  simp only [we_con, we_varm, we_glom, we_bin, we_neg, we_cmp, we_chain, we_and, we_or, we_not, we_ife, we_tup, we_lst, we_ix, we_sl, we_rev, we_call, we_blt, we_isi, we_app, we_lc, wa_nil, wa_cons, wr_nil, wr_cons, wo_none, wo_some, wto_none, wto_some, wt_and, wt_or, wt_not, wt_cmp, wt_chain, wt_tru, wi_seq, wi_range, wi_enum, wg_nm, wg_tup, wg_nil, wg_cons, wg_sub, wp_ok, wp_bad, wp_nox, wb_add, wb_sub, wb_mul, wb_fdiv, wb_mod, wb_pow, wc_eq, wc_ne, wc_lt, wc_le, wc_gt, wc_ge, wc_eqb, wc_neb, wc_eqs, wc_nes, wx_int, wx_lent, wx_lenl, wx_lenr, wz_int, wz_str, wz_bl, wz_non, wz_tup, wz_rol, wz_ref, wz_lst, List.getElem?_cons_zero, List.getElem?_cons_succ, List.set_cons_zero, List.set_cons_succ, List.length_cons, List.length_nil, wi_tup, wi_lst, wi_rol, wx_tuplel, wx_tuplet, wx_listt, wto_some, hdq, hqc, ite_f, ite_tt, decide_eq_true_eq, Bool.not_eq_true', wisT, ex_bl, ex_int, ite_tf, ite_ff, wix0, wix1, wix2, Nat.reduceAdd, Nat.reduceLT, sl0, sl1, sl2, sl3, sl4, sl5, sl6, sl10, if_true, true_and, and_true, List.map_cons, List.map_nil, wip, wt_turn, it_non_int, it_non_bool, it_non_str, it_non_tuple, it_non_list, it_non_dict, it_bl_int, it_bl_bool, it_bl_str, it_bl_tuple, it_bl_list, it_bl_dict, it_int_int, it_int_bool, it_int_str, it_int_tuple, it_int_list, it_int_dict, it_str_int, it_str_bool, it_str_str, it_str_tuple, it_str_list, it_str_dict, it_tup_int, it_tup_bool, it_tup_str, it_tup_tuple, it_tup_list, it_tup_dict, it_lst_int, it_lst_bool, it_lst_str, it_lst_tuple, it_lst_list, it_lst_dict, it_rol_int, it_rol_bool, it_rol_str, it_rol_tuple, it_rol_list, it_rol_dict, we_revt, we_fnv, wz_dic, wz_fn, we_dct0]
  refine wd_inv (fun r ks vs s' => s' = s ∧ ∃ a b, ws = a ++ b ∧ r = b.map .str ∧ ks = (firsts a).map .inr) ⟨rfl, [], ws, rfl, rfl, rfl⟩ ?_ ?_
  · rintro ks vs s' ⟨rfl, a, b, e1, e2, rfl⟩
    have : b = [] := by cases b with
      | nil => rfl
      | cons _ _ => cases e2
    subst this
    rw [List.append_nil] at e1
    subst e1
    refine ⟨rfl, ?_⟩
    show Wp _ (R.ok (D.tup ((List.map Sum.inr (firsts ws)).map Kd)) s') _
    rw [wp_ok, List.map_map]
    exact ⟨rfl, rfl⟩
  · rintro x r ks vs s' ⟨rfl, a, b, e1, e2, rfl⟩
    cases b with
    | nil => cases e2
    | cons w b =>
      rw [List.map_cons] at e2
      cases e2
      refine ⟨rfl, ?_⟩
      unfold turnK
      rw [wp_bind]
      simp only [we_con, we_varm, we_glom, we_bin, we_neg, we_cmp, we_chain, we_and, we_or, we_not, we_ife, we_tup, we_lst, we_ix, we_sl, we_rev, we_call, we_blt, we_isi, we_app, we_lc, wa_nil, wa_cons, wr_nil, wr_cons, wo_none, wo_some, wto_none, wto_some, wt_and, wt_or, wt_not, wt_cmp, wt_chain, wt_tru, wi_seq, wi_range, wi_enum, wg_nm, wg_tup, wg_nil, wg_cons, wg_sub, wp_ok, wp_bad, wp_nox, wb_add, wb_sub, wb_mul, wb_fdiv, wb_mod, wb_pow, wc_eq, wc_ne, wc_lt, wc_le, wc_gt, wc_ge, wc_eqb, wc_neb, wc_eqs, wc_nes, wx_int, wx_lent, wx_lenl, wx_lenr, wz_int, wz_str, wz_bl, wz_non, wz_tup, wz_rol, wz_ref, wz_lst, List.getElem?_cons_zero, List.getElem?_cons_succ, List.set_cons_zero, List.set_cons_succ, List.length_cons, List.length_nil, wi_tup, wi_lst, wi_rol, wx_tuplel, wx_tuplet, wx_listt, wto_some, hdq, hqc, ite_f, ite_tt, decide_eq_true_eq, Bool.not_eq_true', wisT, ex_bl, ex_int, ite_tf, ite_ff, wix0, wix1, wix2, Nat.reduceAdd, Nat.reduceLT, sl0, sl1, sl2, sl3, sl4, sl5, sl6, sl10, if_true, true_and, and_true, List.map_cons, List.map_nil, wip, wt_turn, it_non_int, it_non_bool, it_non_str, it_non_tuple, it_non_list, it_non_dict, it_bl_int, it_bl_bool, it_bl_str, it_bl_tuple, it_bl_list, it_bl_dict, it_int_int, it_int_bool, it_int_str, it_int_tuple, it_int_list, it_int_dict, it_str_int, it_str_bool, it_str_str, it_str_tuple, it_str_list, it_str_dict, it_tup_int, it_tup_bool, it_tup_str, it_tup_tuple, it_tup_list, it_tup_dict, it_lst_int, it_lst_bool, it_lst_str, it_lst_tuple, it_lst_list, it_lst_dict, it_rol_int, it_rol_bool, it_rol_str, it_rol_tuple, it_rol_list, it_rol_dict, we_revt, we_fnv, wz_dic, wz_fn, we_dct0]
      rw [wp_bind, wto_none, wp_ite, if_pos rfl, wp_bind]
      simp only [we_con, we_varm, we_glom, we_bin, we_neg, we_cmp, we_chain, we_and, we_or, we_not, we_ife, we_tup, we_lst, we_ix, we_sl, we_rev, we_call, we_blt, we_isi, we_app, we_lc, wa_nil, wa_cons, wr_nil, wr_cons, wo_none, wo_some, wto_none, wto_some, wt_and, wt_or, wt_not, wt_cmp, wt_chain, wt_tru, wi_seq, wi_range, wi_enum, wg_nm, wg_tup, wg_nil, wg_cons, wg_sub, wp_ok, wp_bad, wp_nox, wb_add, wb_sub, wb_mul, wb_fdiv, wb_mod, wb_pow, wc_eq, wc_ne, wc_lt, wc_le, wc_gt, wc_ge, wc_eqb, wc_neb, wc_eqs, wc_nes, wx_int, wx_lent, wx_lenl, wx_lenr, wz_int, wz_str, wz_bl, wz_non, wz_tup, wz_rol, wz_ref, wz_lst, List.getElem?_cons_zero, List.getElem?_cons_succ, List.set_cons_zero, List.set_cons_succ, List.length_cons, List.length_nil, wi_tup, wi_lst, wi_rol, wx_tuplel, wx_tuplet, wx_listt, wto_some, hdq, hqc, ite_f, ite_tt, decide_eq_true_eq, Bool.not_eq_true', wisT, ex_bl, ex_int, ite_tf, ite_ff, wix0, wix1, wix2, Nat.reduceAdd, Nat.reduceLT, sl0, sl1, sl2, sl3, sl4, sl5, sl6, sl10, if_true, true_and, and_true, List.map_cons, List.map_nil, wip, wt_turn, it_non_int, it_non_bool, it_non_str, it_non_tuple, it_non_list, it_non_dict, it_bl_int, it_bl_bool, it_bl_str, it_bl_tuple, it_bl_list, it_bl_dict, it_int_int, it_int_bool, it_int_str, it_int_tuple, it_int_list, it_int_dict, it_str_int, it_str_bool, it_str_str, it_str_tuple, it_str_list, it_str_dict, it_tup_int, it_tup_bool, it_tup_str, it_tup_tuple, it_tup_list, it_tup_dict, it_lst_int, it_lst_bool, it_lst_str, it_lst_tuple, it_lst_list, it_lst_dict, it_rol_int, it_rol_bool, it_rol_str, it_rol_tuple, it_rol_list, it_rol_dict, we_revt, we_fnv, wz_dic, wz_fn, we_dct0]
      rw [wp_bind, wp_bind]
      simp only [we_con, we_varm, we_glom, we_bin, we_neg, we_cmp, we_chain, we_and, we_or, we_not, we_ife, we_tup, we_lst, we_ix, we_sl, we_rev, we_call, we_blt, we_isi, we_app, we_lc, wa_nil, wa_cons, wr_nil, wr_cons, wo_none, wo_some, wto_none, wto_some, wt_and, wt_or, wt_not, wt_cmp, wt_chain, wt_tru, wi_seq, wi_range, wi_enum, wg_nm, wg_tup, wg_nil, wg_cons, wg_sub, wp_ok, wp_bad, wp_nox, wb_add, wb_sub, wb_mul, wb_fdiv, wb_mod, wb_pow, wc_eq, wc_ne, wc_lt, wc_le, wc_gt, wc_ge, wc_eqb, wc_neb, wc_eqs, wc_nes, wx_int, wx_lent, wx_lenl, wx_lenr, wz_int, wz_str, wz_bl, wz_non, wz_tup, wz_rol, wz_ref, wz_lst, List.getElem?_cons_zero, List.getElem?_cons_succ, List.set_cons_zero, List.set_cons_succ, List.length_cons, List.length_nil, wi_tup, wi_lst, wi_rol, wx_tuplel, wx_tuplet, wx_listt, wto_some, hdq, hqc, ite_f, ite_tt, decide_eq_true_eq, Bool.not_eq_true', wisT, ex_bl, ex_int, ite_tf, ite_ff, wix0, wix1, wix2, Nat.reduceAdd, Nat.reduceLT, sl0, sl1, sl2, sl3, sl4, sl5, sl6, sl10, if_true, true_and, and_true, List.map_cons, List.map_nil, wip, wt_turn, it_non_int, it_non_bool, it_non_str, it_non_tuple, it_non_list, it_non_dict, it_bl_int, it_bl_bool, it_bl_str, it_bl_tuple, it_bl_list, it_bl_dict, it_int_int, it_int_bool, it_int_str, it_int_tuple, it_int_list, it_int_dict, it_str_int, it_str_bool, it_str_str, it_str_tuple, it_str_list, it_str_dict, it_tup_int, it_tup_bool, it_tup_str, it_tup_tuple, it_tup_list, it_tup_dict, it_lst_int, it_lst_bool, it_lst_str, it_lst_tuple, it_lst_list, it_lst_dict, it_rol_int, it_rol_bool, it_rol_str, it_rol_tuple, it_rol_list, it_rol_dict, we_revt, we_fnv, wz_dic, wz_fn, we_dct0]
      show Wp E0 (R.ok (some ((Sum.inr w : Key), D.bl true)) s') _
      rw [wp_ok]
      have := firsts_len a
      have l2 := congrArg List.length e1
      rw [List.length_append] at l2
      refine ⟨by rw [List.length_map]; exact Nat.lt_of_lt_of_le (by omega : _ < 1001) (by decide), rfl, a ++ [w], b, by rw [e1]; simp, rfl, ?_⟩
      rw [firsts_snoc]; exact putKs_inr
/-- as the law tells it -/
theorem firsts_law : ∀ (ws : List Str), (List.range ws.length).filterMap (fun k => if ws.getD k "" ∈ ws.take k then none else some (ws.getD k "")) = firsts ws := by
  refine snoc_ind rfl fun ws w ih => ?_
  · rw [firsts_snoc, ← ih, List.length_append, List.length_singleton, List.range_succ, List.filterMap_append]
    have e1 : (List.range ws.length).filterMap (fun k => if (ws ++ [w]).getD k "" ∈ (ws ++ [w]).take k then none else some ((ws ++ [w]).getD k "")) = (List.range ws.length).filterMap (fun k => if ws.getD k "" ∈ ws.take k then none else some (ws.getD k "")) := by
      refine fm_congr fun k hk => ?_
      have hk := List.mem_range.mp hk
      rw [List.getD_eq_getElem?_getD, List.getElem?_append_left hk, List.take_append_of_le_length (by omega), ← List.getD_eq_getElem?_getD]
    rw [e1, ih]
    have e2 : (ws ++ [w]).getD ws.length "" = w := by rw [List.getD_eq_getElem?_getD, List.getElem?_append_right (by omega)]; simp
    have e3 : (ws ++ [w]).take ws.length = ws := by rw [List.take_append_of_le_length (by omega), List.take_length]
    rw [List.filterMap_cons, List.filterMap_nil, e2, e3]
    by_cases h : w ∈ ws
    · rw [if_pos h, if_pos (mem_firsts.mpr h)]; simp
    · rw [if_neg h, if_neg fun z => h (mem_firsts.mp z)]
end DI.L

set_option Elab.async false
set_option linter.all false
set_option maxRecDepth 100000
set_option maxHeartbeats 4000000
/-! the plain law of k00, D: a task of one rule. -/
namespace DI.L
open PySem L2
structure TaskAt (s : S) (r : Nat) : Prop where
  h : ∃ a b c, s[r]? = some (.ins "Task" [("parts", .ref a), ("known", .ref b), ("reads", .ref c)]) ∧ s[c]? = some (.dic false [] [])
theorem w_mcl {k r i : Nat} {m f : Str} {es : List IE} {ρ : En} {s : S} {E : Xt} {PD : D → S → Prop} (hρ : ρ[i]? = some (some (.ref r))) (hT : TaskAt s r) (hm : (cfg.q k).mt "Task" m = some f) (h1 : (decide (m = ("parts" : Str)) || (decide (m = ("known" : Str)) || decide (m = ("reads" : Str)))) = false)
    (h : Wp E (runEs (cfg.q k) es ρ s) fun ds s => Wp E (callN cfg.ds cfg.q0 k f (.ref r :: ds) s) PD) : Wp E (runE (cfg.q k) (.mcl (.var i) m es) ρ s) PD := by
  obtain ⟨a, b, c, e, _⟩ := hT.h
  rw [we_mcl, we_var hρ]
  refine ⟨r, _, _, f, rfl, e, hm, ?_, h⟩
  rw [Bool.or_eq_false_iff, Bool.or_eq_false_iff] at h1
  have n1 := of_decide_eq_false h1.1
  have n2 := of_decide_eq_false h1.2.1
  have n3 := of_decide_eq_false h1.2.2
  simp only [List.lookup]
  rw [beq_false_of_ne n1, beq_false_of_ne n2, beq_false_of_ne n3]
theorem c_worth (k : Nat) (a b c : D) (s : S) : cl (k+1) "Task.worth" [a, b, c] s = runF (cfg.q k) 8 d_Task_worth.body [a, b, c] s := by kernel_rfl
theorem s_worthW {k : Nat} {a x n : D} {s : S} : cl (k+1) "Task.worth" [a, .tup [.str "words", x], n] s = .ok x s := by kernel_rfl
theorem s_kept {k : Nat} {a : D} {xs : List D} {s : S} : cl (k+1) "Task.kept" [a, .tup xs] s = .ok (.tup xs) s := by kernel_rfl
theorem s_keptN {k : Nat} {a : D} {s : S} : cl (k+1) "Task.kept" [a, .non] s = .exc "Fails" [("why", .tup [.str "long"])] s := by kernel_rfl
theorem m_worth {k : Nat} : (cfg.q k).mt "Task" "worth" = some "Task.worth" := by kernel_rfl
theorem m_kept {k : Nat} : (cfg.q k).mt "Task" "kept" = some "Task.kept" := by kernel_rfl
theorem m_single {k : Nat} : (cfg.q k).mt "Task" "single" = some "Task.single" := by kernel_rfl
/-- joined -/
theorem s_worthJ {k r n : Nat} {xs ys : List D} {s : S} (hT : TaskAt s r) (hx : xs.length ≤ 1000) (hy : ys.length ≤ 1000) :
    Wp (fun (C : Str) (fs : List (Str × D)) s' => C = "Fails" ∧ fs = [(("why" : Str), D.tup [.str "long"])] ∧ s' = s ∧ ¬ xs.length + ys.length ≤ 40) (cl (k+3) "Task.worth" [.ref r, .tup [.str "join", .tup [.str "words", .tup xs], .tup [.str "words", .tup ys]], .ref n] s) fun d s' => d = .tup (xs ++ ys) ∧ s' = s ∧ xs.length + ys.length ≤ 40 := by
  rw [c_worth]
  refine wf_run ?_
  show Ws (runSs (cfg.q (k+2)) d_Task_worth.body [some (.ref r), some (.tup [.str "join", .tup [.str "words", .tup xs], .tup [.str "words", .tup ys]]), some (.ref n), none, none, none, none, none] s) _
  unfold d_Task_worth
  refine ws_skip (.of (by kernel_rfl) ⟨rfl, rfl⟩) ?_
  refine ws_skip (.of (by kernel_rfl) ⟨rfl, rfl⟩) ?_
  refine ws_skip (.of (by kernel_rfl) ⟨rfl, rfl⟩) ?_
  refine ws_skip (.of (by kernel_rfl) ⟨rfl, rfl⟩) ?_
  refine ws_skip (.of (by kernel_rfl) ⟨rfl, rfl⟩) ?_
  refine ws_take (.of (by kernel_rfl) ⟨rfl, rfl⟩) ?_
  refine ws_asgs ?_
  refine w_mcl rfl hT m_worth (by decide +kernel) ?_
  simp only [we_con, we_varm, we_glom, we_bin, we_neg, we_cmp, we_chain, we_and, we_or, we_not, we_ife, we_tup, we_lst, we_ix, we_sl, we_rev, we_call, we_blt, we_isi, we_app, we_lc, wa_nil, wa_cons, wr_nil, wr_cons, wo_none, wo_some, wto_none, wto_some, wt_and, wt_or, wt_not, wt_cmp, wt_chain, wt_tru, wi_seq, wi_range, wi_enum, wg_nm, wg_tup, wg_nil, wg_cons, wg_sub, wp_ok, wp_bad, wp_nox, wb_add, wb_sub, wb_mul, wb_fdiv, wb_mod, wb_pow, wc_eq, wc_ne, wc_lt, wc_le, wc_gt, wc_ge, wc_eqb, wc_neb, wc_eqs, wc_nes, wx_int, wx_lent, wx_lenl, wx_lenr, wz_int, wz_str, wz_bl, wz_non, wz_tup, wz_rol, wz_ref, wz_lst, List.getElem?_cons_zero, List.getElem?_cons_succ, List.set_cons_zero, List.set_cons_succ, List.length_cons, List.length_nil, wi_tup, wi_lst, wi_rol, wx_tuplel, wx_tuplet, wx_listt, wto_some, hdq, hqc, ite_f, ite_tt, decide_eq_true_eq, Bool.not_eq_true', wisT, ex_bl, ex_int, ite_tf, ite_ff, wix0, wix1, wix2, Nat.reduceAdd, Nat.reduceLT, sl0, sl1, sl2, sl3, sl4, sl5, sl6, sl10, if_true, true_and, and_true, List.map_cons, List.map_nil, wip, wt_turn, it_non_int, it_non_bool, it_non_str, it_non_tuple, it_non_list, it_non_dict, it_bl_int, it_bl_bool, it_bl_str, it_bl_tuple, it_bl_list, it_bl_dict, it_int_int, it_int_bool, it_int_str, it_int_tuple, it_int_list, it_int_dict, it_str_int, it_str_bool, it_str_str, it_str_tuple, it_str_list, it_str_dict, it_tup_int, it_tup_bool, it_tup_str, it_tup_tuple, it_tup_list, it_tup_dict, it_lst_int, it_lst_bool, it_lst_str, it_lst_tuple, it_lst_list, it_lst_dict, it_rol_int, it_rol_bool, it_rol_str, it_rol_tuple, it_rol_list, it_rol_dict, we_revt, we_fnv, wz_dic, wz_fn, we_dct0]
  refine .of s_worthW ?_
  simp only [we_con, we_varm, we_glom, we_bin, we_neg, we_cmp, we_chain, we_and, we_or, we_not, we_ife, we_tup, we_lst, we_ix, we_sl, we_rev, we_call, we_blt, we_isi, we_app, we_lc, wa_nil, wa_cons, wr_nil, wr_cons, wo_none, wo_some, wto_none, wto_some, wt_and, wt_or, wt_not, wt_cmp, wt_chain, wt_tru, wi_seq, wi_range, wi_enum, wg_nm, wg_tup, wg_nil, wg_cons, wg_sub, wp_ok, wp_bad, wp_nox, wb_add, wb_sub, wb_mul, wb_fdiv, wb_mod, wb_pow, wc_eq, wc_ne, wc_lt, wc_le, wc_gt, wc_ge, wc_eqb, wc_neb, wc_eqs, wc_nes, wx_int, wx_lent, wx_lenl, wx_lenr, wz_int, wz_str, wz_bl, wz_non, wz_tup, wz_rol, wz_ref, wz_lst, List.getElem?_cons_zero, List.getElem?_cons_succ, List.set_cons_zero, List.set_cons_succ, List.length_cons, List.length_nil, wi_tup, wi_lst, wi_rol, wx_tuplel, wx_tuplet, wx_listt, wto_some, hdq, hqc, ite_f, ite_tt, decide_eq_true_eq, Bool.not_eq_true', wisT, ex_bl, ex_int, ite_tf, ite_ff, wix0, wix1, wix2, Nat.reduceAdd, Nat.reduceLT, sl0, sl1, sl2, sl3, sl4, sl5, sl6, sl10, if_true, true_and, and_true, List.map_cons, List.map_nil, wip, wt_turn, it_non_int, it_non_bool, it_non_str, it_non_tuple, it_non_list, it_non_dict, it_bl_int, it_bl_bool, it_bl_str, it_bl_tuple, it_bl_list, it_bl_dict, it_int_int, it_int_bool, it_int_str, it_int_tuple, it_int_list, it_int_dict, it_str_int, it_str_bool, it_str_str, it_str_tuple, it_str_list, it_str_dict, it_tup_int, it_tup_bool, it_tup_str, it_tup_tuple, it_tup_list, it_tup_dict, it_lst_int, it_lst_bool, it_lst_str, it_lst_tuple, it_lst_list, it_lst_dict, it_rol_int, it_rol_bool, it_rol_str, it_rol_tuple, it_rol_list, it_rol_dict, we_revt, we_fnv, wz_dic, wz_fn, we_dct0]
  refine ws_rets ?_
  refine w_mcl rfl hT m_kept (by decide +kernel) ?_
  rw [wa_cons, we_call, wa_cons]
  simp only [we_con, we_varm, we_glom, we_bin, we_neg, we_cmp, we_chain, we_and, we_or, we_not, we_ife, we_tup, we_lst, we_ix, we_sl, we_rev, we_call, we_blt, we_isi, we_app, we_lc, wa_nil, wa_cons, wr_nil, wr_cons, wo_none, wo_some, wto_none, wto_some, wt_and, wt_or, wt_not, wt_cmp, wt_chain, wt_tru, wi_seq, wi_range, wi_enum, wg_nm, wg_tup, wg_nil, wg_cons, wg_sub, wp_ok, wp_bad, wp_nox, wb_add, wb_sub, wb_mul, wb_fdiv, wb_mod, wb_pow, wc_eq, wc_ne, wc_lt, wc_le, wc_gt, wc_ge, wc_eqb, wc_neb, wc_eqs, wc_nes, wx_int, wx_lent, wx_lenl, wx_lenr, wz_int, wz_str, wz_bl, wz_non, wz_tup, wz_rol, wz_ref, wz_lst, List.getElem?_cons_zero, List.getElem?_cons_succ, List.set_cons_zero, List.set_cons_succ, List.length_cons, List.length_nil, wi_tup, wi_lst, wi_rol, wx_tuplel, wx_tuplet, wx_listt, wto_some, hdq, hqc, ite_f, ite_tt, decide_eq_true_eq, Bool.not_eq_true', wisT, ex_bl, ex_int, ite_tf, ite_ff, wix0, wix1, wix2, Nat.reduceAdd, Nat.reduceLT, sl0, sl1, sl2, sl3, sl4, sl5, sl6, sl10, if_true, true_and, and_true, List.map_cons, List.map_nil, wip, wt_turn, it_non_int, it_non_bool, it_non_str, it_non_tuple, it_non_list, it_non_dict, it_bl_int, it_bl_bool, it_bl_str, it_bl_tuple, it_bl_list, it_bl_dict, it_int_int, it_int_bool, it_int_str, it_int_tuple, it_int_list, it_int_dict, it_str_int, it_str_bool, it_str_str, it_str_tuple, it_str_list, it_str_dict, it_tup_int, it_tup_bool, it_tup_str, it_tup_tuple, it_tup_list, it_tup_dict, it_lst_int, it_lst_bool, it_lst_str, it_lst_tuple, it_lst_list, it_lst_dict, it_rol_int, it_rol_bool, it_rol_str, it_rol_tuple, it_rol_list, it_rol_dict, we_revt, we_fnv, wz_dic, wz_fn, we_dct0]
  refine w_mcl rfl hT m_worth (by decide +kernel) ?_
  simp only [we_con, we_varm, we_glom, we_bin, we_neg, we_cmp, we_chain, we_and, we_or, we_not, we_ife, we_tup, we_lst, we_ix, we_sl, we_rev, we_call, we_blt, we_isi, we_app, we_lc, wa_nil, wa_cons, wr_nil, wr_cons, wo_none, wo_some, wto_none, wto_some, wt_and, wt_or, wt_not, wt_cmp, wt_chain, wt_tru, wi_seq, wi_range, wi_enum, wg_nm, wg_tup, wg_nil, wg_cons, wg_sub, wp_ok, wp_bad, wp_nox, wb_add, wb_sub, wb_mul, wb_fdiv, wb_mod, wb_pow, wc_eq, wc_ne, wc_lt, wc_le, wc_gt, wc_ge, wc_eqb, wc_neb, wc_eqs, wc_nes, wx_int, wx_lent, wx_lenl, wx_lenr, wz_int, wz_str, wz_bl, wz_non, wz_tup, wz_rol, wz_ref, wz_lst, List.getElem?_cons_zero, List.getElem?_cons_succ, List.set_cons_zero, List.set_cons_succ, List.length_cons, List.length_nil, wi_tup, wi_lst, wi_rol, wx_tuplel, wx_tuplet, wx_listt, wto_some, hdq, hqc, ite_f, ite_tt, decide_eq_true_eq, Bool.not_eq_true', wisT, ex_bl, ex_int, ite_tf, ite_ff, wix0, wix1, wix2, Nat.reduceAdd, Nat.reduceLT, sl0, sl1, sl2, sl3, sl4, sl5, sl6, sl10, if_true, true_and, and_true, List.map_cons, List.map_nil, wip, wt_turn, it_non_int, it_non_bool, it_non_str, it_non_tuple, it_non_list, it_non_dict, it_bl_int, it_bl_bool, it_bl_str, it_bl_tuple, it_bl_list, it_bl_dict, it_int_int, it_int_bool, it_int_str, it_int_tuple, it_int_list, it_int_dict, it_str_int, it_str_bool, it_str_str, it_str_tuple, it_str_list, it_str_dict, it_tup_int, it_tup_bool, it_tup_str, it_tup_tuple, it_tup_list, it_tup_dict, it_lst_int, it_lst_bool, it_lst_str, it_lst_tuple, it_lst_list, it_lst_dict, it_rol_int, it_rol_bool, it_rol_str, it_rol_tuple, it_rol_list, it_rol_dict, we_revt, we_fnv, wz_dic, wz_fn, we_dct0]
  refine .of s_worthW ?_
  simp only [we_con, we_varm, we_glom, we_bin, we_neg, we_cmp, we_chain, we_and, we_or, we_not, we_ife, we_tup, we_lst, we_ix, we_sl, we_rev, we_call, we_blt, we_isi, we_app, we_lc, wa_nil, wa_cons, wr_nil, wr_cons, wo_none, wo_some, wto_none, wto_some, wt_and, wt_or, wt_not, wt_cmp, wt_chain, wt_tru, wi_seq, wi_range, wi_enum, wg_nm, wg_tup, wg_nil, wg_cons, wg_sub, wp_ok, wp_bad, wp_nox, wb_add, wb_sub, wb_mul, wb_fdiv, wb_mod, wb_pow, wc_eq, wc_ne, wc_lt, wc_le, wc_gt, wc_ge, wc_eqb, wc_neb, wc_eqs, wc_nes, wx_int, wx_lent, wx_lenl, wx_lenr, wz_int, wz_str, wz_bl, wz_non, wz_tup, wz_rol, wz_ref, wz_lst, List.getElem?_cons_zero, List.getElem?_cons_succ, List.set_cons_zero, List.set_cons_succ, List.length_cons, List.length_nil, wi_tup, wi_lst, wi_rol, wx_tuplel, wx_tuplet, wx_listt, wto_some, hdq, hqc, ite_f, ite_tt, decide_eq_true_eq, Bool.not_eq_true', wisT, ex_bl, ex_int, ite_tf, ite_ff, wix0, wix1, wix2, Nat.reduceAdd, Nat.reduceLT, sl0, sl1, sl2, sl3, sl4, sl5, sl6, sl10, if_true, true_and, and_true, List.map_cons, List.map_nil, wip, wt_turn, it_non_int, it_non_bool, it_non_str, it_non_tuple, it_non_list, it_non_dict, it_bl_int, it_bl_bool, it_bl_str, it_bl_tuple, it_bl_list, it_bl_dict, it_int_int, it_int_bool, it_int_str, it_int_tuple, it_int_list, it_int_dict, it_str_int, it_str_bool, it_str_str, it_str_tuple, it_str_list, it_str_dict, it_tup_int, it_tup_bool, it_tup_str, it_tup_tuple, it_tup_list, it_tup_dict, it_lst_int, it_lst_bool, it_lst_str, it_lst_tuple, it_lst_list, it_lst_dict, it_rol_int, it_rol_bool, it_rol_str, it_rol_tuple, it_rol_list, it_rol_dict, we_revt, we_fnv, wz_dic, wz_fn, we_dct0]
  refine Wp.up ((s_joined (k := k+1) hx hy).imp ?_)
  rintro d s' ⟨rfl, rfl⟩
  split
  · rename_i h
    simp only [we_con, we_varm, we_glom, we_bin, we_neg, we_cmp, we_chain, we_and, we_or, we_not, we_ife, we_tup, we_lst, we_ix, we_sl, we_rev, we_call, we_blt, we_isi, we_app, we_lc, wa_nil, wa_cons, wr_nil, wr_cons, wo_none, wo_some, wto_none, wto_some, wt_and, wt_or, wt_not, wt_cmp, wt_chain, wt_tru, wi_seq, wi_range, wi_enum, wg_nm, wg_tup, wg_nil, wg_cons, wg_sub, wp_ok, wp_bad, wp_nox, wb_add, wb_sub, wb_mul, wb_fdiv, wb_mod, wb_pow, wc_eq, wc_ne, wc_lt, wc_le, wc_gt, wc_ge, wc_eqb, wc_neb, wc_eqs, wc_nes, wx_int, wx_lent, wx_lenl, wx_lenr, wz_int, wz_str, wz_bl, wz_non, wz_tup, wz_rol, wz_ref, wz_lst, List.getElem?_cons_zero, List.getElem?_cons_succ, List.set_cons_zero, List.set_cons_succ, List.length_cons, List.length_nil, wi_tup, wi_lst, wi_rol, wx_tuplel, wx_tuplet, wx_listt, wto_some, hdq, hqc, ite_f, ite_tt, decide_eq_true_eq, Bool.not_eq_true', wisT, ex_bl, ex_int, ite_tf, ite_ff, wix0, wix1, wix2, Nat.reduceAdd, Nat.reduceLT, sl0, sl1, sl2, sl3, sl4, sl5, sl6, sl10, if_true, true_and, and_true, List.map_cons, List.map_nil, wip, wt_turn, it_non_int, it_non_bool, it_non_str, it_non_tuple, it_non_list, it_non_dict, it_bl_int, it_bl_bool, it_bl_str, it_bl_tuple, it_bl_list, it_bl_dict, it_int_int, it_int_bool, it_int_str, it_int_tuple, it_int_list, it_int_dict, it_str_int, it_str_bool, it_str_str, it_str_tuple, it_str_list, it_str_dict, it_tup_int, it_tup_bool, it_tup_str, it_tup_tuple, it_tup_list, it_tup_dict, it_lst_int, it_lst_bool, it_lst_str, it_lst_tuple, it_lst_list, it_lst_dict, it_rol_int, it_rol_bool, it_rol_str, it_rol_tuple, it_rol_list, it_rol_dict, we_revt, we_fnv, wz_dic, wz_fn, we_dct0]
    refine .of s_kept ⟨rfl, rfl, h⟩
  · rename_i h
    simp only [we_con, we_varm, we_glom, we_bin, we_neg, we_cmp, we_chain, we_and, we_or, we_not, we_ife, we_tup, we_lst, we_ix, we_sl, we_rev, we_call, we_blt, we_isi, we_app, we_lc, wa_nil, wa_cons, wr_nil, wr_cons, wo_none, wo_some, wto_none, wto_some, wt_and, wt_or, wt_not, wt_cmp, wt_chain, wt_tru, wi_seq, wi_range, wi_enum, wg_nm, wg_tup, wg_nil, wg_cons, wg_sub, wp_ok, wp_bad, wp_nox, wb_add, wb_sub, wb_mul, wb_fdiv, wb_mod, wb_pow, wc_eq, wc_ne, wc_lt, wc_le, wc_gt, wc_ge, wc_eqb, wc_neb, wc_eqs, wc_nes, wx_int, wx_lent, wx_lenl, wx_lenr, wz_int, wz_str, wz_bl, wz_non, wz_tup, wz_rol, wz_ref, wz_lst, List.getElem?_cons_zero, List.getElem?_cons_succ, List.set_cons_zero, List.set_cons_succ, List.length_cons, List.length_nil, wi_tup, wi_lst, wi_rol, wx_tuplel, wx_tuplet, wx_listt, wto_some, hdq, hqc, ite_f, ite_tt, decide_eq_true_eq, Bool.not_eq_true', wisT, ex_bl, ex_int, ite_tf, ite_ff, wix0, wix1, wix2, Nat.reduceAdd, Nat.reduceLT, sl0, sl1, sl2, sl3, sl4, sl5, sl6, sl10, if_true, true_and, and_true, List.map_cons, List.map_nil, wip, wt_turn, it_non_int, it_non_bool, it_non_str, it_non_tuple, it_non_list, it_non_dict, it_bl_int, it_bl_bool, it_bl_str, it_bl_tuple, it_bl_list, it_bl_dict, it_int_int, it_int_bool, it_int_str, it_int_tuple, it_int_list, it_int_dict, it_str_int, it_str_bool, it_str_str, it_str_tuple, it_str_list, it_str_dict, it_tup_int, it_tup_bool, it_tup_str, it_tup_tuple, it_tup_list, it_tup_dict, it_lst_int, it_lst_bool, it_lst_str, it_lst_tuple, it_lst_list, it_lst_dict, it_rol_int, it_rol_bool, it_rol_str, it_rol_tuple, it_rol_list, it_rol_dict, we_revt, we_fnv, wz_dic, wz_fn, we_dct0]
    exact .ofx s_keptN ⟨rfl, rfl, rfl, h⟩
/-- the words that turn a content -/
def L7 : List Str := ["once", "turned", "count", "sorted", "first", "rest", "fail"]
theorem s_worth1 {k r : Nat} {w : Str} {x n : D} {s : S} {E : Xt} {P : D → S → Prop} (hT : TaskAt s r) (hw : w ∈ L7) (hx : x.shr = true) (hn : n.shr = true) (h : Wp E (cl (k+1) "Task.single" [.ref r, .str w, x] s) P) : Wp E (cl (k+2) "Task.worth" [.ref r, .tup [.str w, .tup [.str "words", x]], n] s) P := by
  rw [c_worth]
  refine wf_run ?_
  show Ws (runSs (cfg.q (k+1)) d_Task_worth.body [some (.ref r), some (.tup [.str w, .tup [.str "words", x]]), some n, none, none, none, none, none] s) _
  unfold d_Task_worth
  have t1 : ∀ {ρ : En} {c : Str}, ρ[1]? = some (some (.tup [.str w, .tup [.str "words", x]])) → (decide (w = c)) = false → runT (cfg.q (k+1)) (.cmp .eq (.ix (.var 1) (.con (.int 0))) (.con (.str c))) ρ s = .ok false s := by
    intro ρ c h1 h2
    have h3 : Wp E0 (runT (cfg.q (k+1)) (.cmp .eq (.ix (.var 1) (.con (.int 0))) (.con (.str c))) ρ s) fun b s' => b = false ∧ s' = s := by
      rw [wt_cmp, we_ix, we_var h1]
      simp only [we_con, we_varm, we_glom, we_bin, we_neg, we_cmp, we_chain, we_and, we_or, we_not, we_ife, we_tup, we_lst, we_ix, we_sl, we_rev, we_call, we_blt, we_isi, we_app, we_lc, wa_nil, wa_cons, wr_nil, wr_cons, wo_none, wo_some, wto_none, wto_some, wt_and, wt_or, wt_not, wt_cmp, wt_chain, wt_tru, wi_seq, wi_range, wi_enum, wg_nm, wg_tup, wg_nil, wg_cons, wg_sub, wp_ok, wp_bad, wp_nox, wb_add, wb_sub, wb_mul, wb_fdiv, wb_mod, wb_pow, wc_eq, wc_ne, wc_lt, wc_le, wc_gt, wc_ge, wc_eqb, wc_neb, wc_eqs, wc_nes, wx_int, wx_lent, wx_lenl, wx_lenr, wz_int, wz_str, wz_bl, wz_non, wz_tup, wz_rol, wz_ref, wz_lst, List.getElem?_cons_zero, List.getElem?_cons_succ, List.set_cons_zero, List.set_cons_succ, List.length_cons, List.length_nil, wi_tup, wi_lst, wi_rol, wx_tuplel, wx_tuplet, wx_listt, wto_some, hdq, hqc, ite_f, ite_tt, decide_eq_true_eq, Bool.not_eq_true', wisT, ex_bl, ex_int, ite_tf, ite_ff, wix0, wix1, wix2, Nat.reduceAdd, Nat.reduceLT, sl0, sl1, sl2, sl3, sl4, sl5, sl6, sl10, if_true, true_and, and_true, List.map_cons, List.map_nil, wip, wt_turn, it_non_int, it_non_bool, it_non_str, it_non_tuple, it_non_list, it_non_dict, it_bl_int, it_bl_bool, it_bl_str, it_bl_tuple, it_bl_list, it_bl_dict, it_int_int, it_int_bool, it_int_str, it_int_tuple, it_int_list, it_int_dict, it_str_int, it_str_bool, it_str_str, it_str_tuple, it_str_list, it_str_dict, it_tup_int, it_tup_bool, it_tup_str, it_tup_tuple, it_tup_list, it_tup_dict, it_lst_int, it_lst_bool, it_lst_str, it_lst_tuple, it_lst_list, it_lst_dict, it_rol_int, it_rol_bool, it_rol_str, it_rol_tuple, it_rol_list, it_rol_dict, we_revt, we_fnv, wz_dic, wz_fn, we_dct0]
      exact h2
    obtain ⟨b, s', e, rfl, rfl⟩ := h3.eq
    exact e
  have ne : ∀ c : Str, c ∉ L7 → decide (w = c) = false := fun c hc => decide_eq_false fun e => hc (e ▸ hw)
  refine ws_skip (.of (t1 rfl (ne _ (by decide +kernel))) ⟨rfl, rfl⟩) ?_
  refine ws_skip (.of (t1 rfl (ne _ (by decide +kernel))) ⟨rfl, rfl⟩) ?_
  refine ws_skip (.of (t1 rfl (ne _ (by decide +kernel))) ⟨rfl, rfl⟩) ?_
  refine ws_skip (.of (t1 rfl (ne _ (by decide +kernel))) ⟨rfl, rfl⟩) ?_
  refine ws_skip (.of (t1 rfl (ne _ (by decide +kernel))) ⟨rfl, rfl⟩) ?_
  refine ws_skip (.of (t1 rfl (ne _ (by decide +kernel))) ⟨rfl, rfl⟩) ?_
  refine ws_rets ?_
  refine w_mcl rfl hT m_single (by decide +kernel) ?_
  simp only [we_con, we_varm, we_glom, we_bin, we_neg, we_cmp, we_chain, we_and, we_or, we_not, we_ife, we_tup, we_lst, we_ix, we_sl, we_rev, we_call, we_blt, we_isi, we_app, we_lc, wa_nil, wa_cons, wr_nil, wr_cons, wo_none, wo_some, wto_none, wto_some, wt_and, wt_or, wt_not, wt_cmp, wt_chain, wt_tru, wi_seq, wi_range, wi_enum, wg_nm, wg_tup, wg_nil, wg_cons, wg_sub, wp_ok, wp_bad, wp_nox, wb_add, wb_sub, wb_mul, wb_fdiv, wb_mod, wb_pow, wc_eq, wc_ne, wc_lt, wc_le, wc_gt, wc_ge, wc_eqb, wc_neb, wc_eqs, wc_nes, wx_int, wx_lent, wx_lenl, wx_lenr, wz_int, wz_str, wz_bl, wz_non, wz_tup, wz_rol, wz_ref, wz_lst, List.getElem?_cons_zero, List.getElem?_cons_succ, List.set_cons_zero, List.set_cons_succ, List.length_cons, List.length_nil, wi_tup, wi_lst, wi_rol, wx_tuplel, wx_tuplet, wx_listt, wto_some, hdq, hqc, ite_f, ite_tt, decide_eq_true_eq, Bool.not_eq_true', wisT, ex_bl, ex_int, ite_tf, ite_ff, wix0, wix1, wix2, Nat.reduceAdd, Nat.reduceLT, sl0, sl1, sl2, sl3, sl4, sl5, sl6, sl10, if_true, true_and, and_true, List.map_cons, List.map_nil, wip, wt_turn, it_non_int, it_non_bool, it_non_str, it_non_tuple, it_non_list, it_non_dict, it_bl_int, it_bl_bool, it_bl_str, it_bl_tuple, it_bl_list, it_bl_dict, it_int_int, it_int_bool, it_int_str, it_int_tuple, it_int_list, it_int_dict, it_str_int, it_str_bool, it_str_str, it_str_tuple, it_str_list, it_str_dict, it_tup_int, it_tup_bool, it_tup_str, it_tup_tuple, it_tup_list, it_tup_dict, it_lst_int, it_lst_bool, it_lst_str, it_lst_tuple, it_lst_list, it_lst_dict, it_rol_int, it_rol_bool, it_rol_str, it_rol_tuple, it_rol_list, it_rol_dict, we_revt, we_fnv, wz_dic, wz_fn, we_dct0]
  refine w_mcl rfl hT m_worth (by decide +kernel) ?_
  simp only [we_con, we_varm, we_glom, we_bin, we_neg, we_cmp, we_chain, we_and, we_or, we_not, we_ife, we_tup, we_lst, we_ix, we_sl, we_rev, we_call, we_blt, we_isi, we_app, we_lc, wa_nil, wa_cons, wr_nil, wr_cons, wo_none, wo_some, wto_none, wto_some, wt_and, wt_or, wt_not, wt_cmp, wt_chain, wt_tru, wi_seq, wi_range, wi_enum, wg_nm, wg_tup, wg_nil, wg_cons, wg_sub, wp_ok, wp_bad, wp_nox, wb_add, wb_sub, wb_mul, wb_fdiv, wb_mod, wb_pow, wc_eq, wc_ne, wc_lt, wc_le, wc_gt, wc_ge, wc_eqb, wc_neb, wc_eqs, wc_nes, wx_int, wx_lent, wx_lenl, wx_lenr, wz_int, wz_str, wz_bl, wz_non, wz_tup, wz_rol, wz_ref, wz_lst, List.getElem?_cons_zero, List.getElem?_cons_succ, List.set_cons_zero, List.set_cons_succ, List.length_cons, List.length_nil, wi_tup, wi_lst, wi_rol, wx_tuplel, wx_tuplet, wx_listt, wto_some, hdq, hqc, ite_f, ite_tt, decide_eq_true_eq, Bool.not_eq_true', wisT, ex_bl, ex_int, ite_tf, ite_ff, wix0, wix1, wix2, Nat.reduceAdd, Nat.reduceLT, sl0, sl1, sl2, sl3, sl4, sl5, sl6, sl10, if_true, true_and, and_true, List.map_cons, List.map_nil, wip, wt_turn, it_non_int, it_non_bool, it_non_str, it_non_tuple, it_non_list, it_non_dict, it_bl_int, it_bl_bool, it_bl_str, it_bl_tuple, it_bl_list, it_bl_dict, it_int_int, it_int_bool, it_int_str, it_int_tuple, it_int_list, it_int_dict, it_str_int, it_str_bool, it_str_str, it_str_tuple, it_str_list, it_str_dict, it_tup_int, it_tup_bool, it_tup_str, it_tup_tuple, it_tup_list, it_tup_dict, it_lst_int, it_lst_bool, it_lst_str, it_lst_tuple, it_lst_list, it_lst_dict, it_rol_int, it_rol_bool, it_rol_str, it_rol_tuple, it_rol_list, it_rol_dict, we_revt, we_fnv, wz_dic, wz_fn, we_dct0]
  rw [wz_shr hn]
  refine .of s_worthW ?_
  rw [wz_shr hx]
  exact h
theorem c_single (k : Nat) (a b c : D) (s : S) : cl (k+1) "Task.single" [a, b, c] s = runF (cfg.q k) 5 d_Task_single.body [a, b, c] s := by kernel_rfl
theorem s_fail {k : Nat} {a x : D} {xs : List D} {s : S} : cl (k+1) "Task.single" [a, .str "fail", .tup xs] s = .exc "Fails" [("why", .tup [.str "fail", .tup xs])] s := by kernel_rfl
theorem s_first {k : Nat} {a : D} {xs : List D} {s : S} : cl (k+1) "Task.single" [a, .str "first", .tup xs] s = .ok (.tup (cutD xs none (some 1))) s := by kernel_rfl
theorem s_rest {k : Nat} {a : D} {xs : List D} {s : S} : cl (k+1) "Task.single" [a, .str "rest", .tup xs] s = .ok (.tup (cutD xs (some 1) none)) s := by kernel_rfl
theorem s_callx {k : Nat} {a x : D} {w f : Str} {s : S} {E : Xt} {P : D → S → Prop} (hx : x.shr = true) (hw : (w = "once" ∧ f = "once") ∨ (w = "turned" ∧ f = "turned") ∨ (w = "count" ∧ f = "counted")) (h : Wp E (cl k f [x] s) P) : Wp E (cl (k+1) "Task.single" [a, .str w, x] s) P := by
  rw [c_single]
  refine wf_run ?_
  show Ws (runSs (cfg.q k) d_Task_single.body [some a, some (.str w), some x, none, none] s) _
  unfold d_Task_single
  rcases hw with ⟨rfl, rfl⟩ | ⟨rfl, rfl⟩ | ⟨rfl, rfl⟩
  all_goals
    refine ws_skip (.of (by kernel_rfl) ⟨rfl, rfl⟩) ?_
    refine ws_skip (.of (by kernel_rfl) ⟨rfl, rfl⟩) ?_
    refine ws_skip (.of (by kernel_rfl) ⟨rfl, rfl⟩) ?_
    refine ws_skip (.of (by kernel_rfl) ⟨rfl, rfl⟩) ?_
    refine ws_skip (.of (by kernel_rfl) ⟨rfl, rfl⟩) ?_
    refine ws_rets ?_
    rw [we_callx]
  · refine .of (a := .fn "once") (s' := s) (by kernel_rfl) ⟨_, rfl, by kernel_rfl, ?_⟩
    simp only [we_con, we_varm, we_glom, we_bin, we_neg, we_cmp, we_chain, we_and, we_or, we_not, we_ife, we_tup, we_lst, we_ix, we_sl, we_rev, we_call, we_blt, we_isi, we_app, we_lc, wa_nil, wa_cons, wr_nil, wr_cons, wo_none, wo_some, wto_none, wto_some, wt_and, wt_or, wt_not, wt_cmp, wt_chain, wt_tru, wi_seq, wi_range, wi_enum, wg_nm, wg_tup, wg_nil, wg_cons, wg_sub, wp_ok, wp_bad, wp_nox, wb_add, wb_sub, wb_mul, wb_fdiv, wb_mod, wb_pow, wc_eq, wc_ne, wc_lt, wc_le, wc_gt, wc_ge, wc_eqb, wc_neb, wc_eqs, wc_nes, wx_int, wx_lent, wx_lenl, wx_lenr, wz_int, wz_str, wz_bl, wz_non, wz_tup, wz_rol, wz_ref, wz_lst, List.getElem?_cons_zero, List.getElem?_cons_succ, List.set_cons_zero, List.set_cons_succ, List.length_cons, List.length_nil, wi_tup, wi_lst, wi_rol, wx_tuplel, wx_tuplet, wx_listt, wto_some, hdq, hqc, ite_f, ite_tt, decide_eq_true_eq, Bool.not_eq_true', wisT, ex_bl, ex_int, ite_tf, ite_ff, wix0, wix1, wix2, Nat.reduceAdd, Nat.reduceLT, sl0, sl1, sl2, sl3, sl4, sl5, sl6, sl10, if_true, true_and, and_true, List.map_cons, List.map_nil, wip, wt_turn, it_non_int, it_non_bool, it_non_str, it_non_tuple, it_non_list, it_non_dict, it_bl_int, it_bl_bool, it_bl_str, it_bl_tuple, it_bl_list, it_bl_dict, it_int_int, it_int_bool, it_int_str, it_int_tuple, it_int_list, it_int_dict, it_str_int, it_str_bool, it_str_str, it_str_tuple, it_str_list, it_str_dict, it_tup_int, it_tup_bool, it_tup_str, it_tup_tuple, it_tup_list, it_tup_dict, it_lst_int, it_lst_bool, it_lst_str, it_lst_tuple, it_lst_list, it_lst_dict, it_rol_int, it_rol_bool, it_rol_str, it_rol_tuple, it_rol_list, it_rol_dict, we_revt, we_fnv, wz_dic, wz_fn, we_dct0]
    rw [wz_shr hx]
    exact h
  · refine .of (a := .fn "turned") (s' := s) (by kernel_rfl) ⟨_, rfl, by kernel_rfl, ?_⟩
    simp only [we_con, we_varm, we_glom, we_bin, we_neg, we_cmp, we_chain, we_and, we_or, we_not, we_ife, we_tup, we_lst, we_ix, we_sl, we_rev, we_call, we_blt, we_isi, we_app, we_lc, wa_nil, wa_cons, wr_nil, wr_cons, wo_none, wo_some, wto_none, wto_some, wt_and, wt_or, wt_not, wt_cmp, wt_chain, wt_tru, wi_seq, wi_range, wi_enum, wg_nm, wg_tup, wg_nil, wg_cons, wg_sub, wp_ok, wp_bad, wp_nox, wb_add, wb_sub, wb_mul, wb_fdiv, wb_mod, wb_pow, wc_eq, wc_ne, wc_lt, wc_le, wc_gt, wc_ge, wc_eqb, wc_neb, wc_eqs, wc_nes, wx_int, wx_lent, wx_lenl, wx_lenr, wz_int, wz_str, wz_bl, wz_non, wz_tup, wz_rol, wz_ref, wz_lst, List.getElem?_cons_zero, List.getElem?_cons_succ, List.set_cons_zero, List.set_cons_succ, List.length_cons, List.length_nil, wi_tup, wi_lst, wi_rol, wx_tuplel, wx_tuplet, wx_listt, wto_some, hdq, hqc, ite_f, ite_tt, decide_eq_true_eq, Bool.not_eq_true', wisT, ex_bl, ex_int, ite_tf, ite_ff, wix0, wix1, wix2, Nat.reduceAdd, Nat.reduceLT, sl0, sl1, sl2, sl3, sl4, sl5, sl6, sl10, if_true, true_and, and_true, List.map_cons, List.map_nil, wip, wt_turn, it_non_int, it_non_bool, it_non_str, it_non_tuple, it_non_list, it_non_dict, it_bl_int, it_bl_bool, it_bl_str, it_bl_tuple, it_bl_list, it_bl_dict, it_int_int, it_int_bool, it_int_str, it_int_tuple, it_int_list, it_int_dict, it_str_int, it_str_bool, it_str_str, it_str_tuple, it_str_list, it_str_dict, it_tup_int, it_tup_bool, it_tup_str, it_tup_tuple, it_tup_list, it_tup_dict, it_lst_int, it_lst_bool, it_lst_str, it_lst_tuple, it_lst_list, it_lst_dict, it_rol_int, it_rol_bool, it_rol_str, it_rol_tuple, it_rol_list, it_rol_dict, we_revt, we_fnv, wz_dic, wz_fn, we_dct0]
    rw [wz_shr hx]
    exact h
  · refine .of (a := .fn "counted") (s' := s) (by kernel_rfl) ⟨_, rfl, by kernel_rfl, ?_⟩
    simp only [we_con, we_varm, we_glom, we_bin, we_neg, we_cmp, we_chain, we_and, we_or, we_not, we_ife, we_tup, we_lst, we_ix, we_sl, we_rev, we_call, we_blt, we_isi, we_app, we_lc, wa_nil, wa_cons, wr_nil, wr_cons, wo_none, wo_some, wto_none, wto_some, wt_and, wt_or, wt_not, wt_cmp, wt_chain, wt_tru, wi_seq, wi_range, wi_enum, wg_nm, wg_tup, wg_nil, wg_cons, wg_sub, wp_ok, wp_bad, wp_nox, wb_add, wb_sub, wb_mul, wb_fdiv, wb_mod, wb_pow, wc_eq, wc_ne, wc_lt, wc_le, wc_gt, wc_ge, wc_eqb, wc_neb, wc_eqs, wc_nes, wx_int, wx_lent, wx_lenl, wx_lenr, wz_int, wz_str, wz_bl, wz_non, wz_tup, wz_rol, wz_ref, wz_lst, List.getElem?_cons_zero, List.getElem?_cons_succ, List.set_cons_zero, List.set_cons_succ, List.length_cons, List.length_nil, wi_tup, wi_lst, wi_rol, wx_tuplel, wx_tuplet, wx_listt, wto_some, hdq, hqc, ite_f, ite_tt, decide_eq_true_eq, Bool.not_eq_true', wisT, ex_bl, ex_int, ite_tf, ite_ff, wix0, wix1, wix2, Nat.reduceAdd, Nat.reduceLT, sl0, sl1, sl2, sl3, sl4, sl5, sl6, sl10, if_true, true_and, and_true, List.map_cons, List.map_nil, wip, wt_turn, it_non_int, it_non_bool, it_non_str, it_non_tuple, it_non_list, it_non_dict, it_bl_int, it_bl_bool, it_bl_str, it_bl_tuple, it_bl_list, it_bl_dict, it_int_int, it_int_bool, it_int_str, it_int_tuple, it_int_list, it_int_dict, it_str_int, it_str_bool, it_str_str, it_str_tuple, it_str_list, it_str_dict, it_tup_int, it_tup_bool, it_tup_str, it_tup_tuple, it_tup_list, it_tup_dict, it_lst_int, it_lst_bool, it_lst_str, it_lst_tuple, it_lst_list, it_lst_dict, it_rol_int, it_rol_bool, it_rol_str, it_rol_tuple, it_rol_list, it_rol_dict, we_revt, we_fnv, wz_dic, wz_fn, we_dct0]
    rw [wz_shr hx]
    exact h
theorem intsD_strs : ∀ {ws : List Str}, ws ≠ [] → intsD (ws.map .str) = none
  | [], h => (h rfl).elim
  | _ :: _, _ => rfl
theorem strsD_map (ns : List Str) : strsD (ns.map .str) = some ns := by
  induction ns with
  | nil => rfl
  | cons i r ih => show (strsD (r.map .str)).map _ = _; rw [ih]; rfl
/-- sorted, of words -/
def srt (ws : List Str) : List Str := ws.mergeSort leStr
theorem wx_sorteds {E : Xt} {ws : List Str} {s : S} {PD : D → S → Prop} : Wp E (bltD .sorted [.tup (ws.map .str)] s) PD = PD (.lst ((srt ws).map .str)) s := by
  have : bltD .sorted [.tup (ws.map .str)] s = .ok (.lst ((srt ws).map .str)) s := by
    show (match (some (ws.map D.str)).bind intsD with
      | some ns => R.ok (D.lst ((ns.mergeSort (fun a b => decide (a ≤ b))).map .int)) s
      | none => match (some (ws.map D.str)).bind strsD with
        | some ns => R.ok (D.lst ((ns.mergeSort leStr).map .str)) s
        | none => .bad) = _
    cases ws with
    | nil =>
      show R.ok (D.lst (List.map D.int (([] : List Int).mergeSort fun a b => decide (a ≤ b)))) s = R.ok (D.lst (List.map D.str (srt []))) s
      unfold srt
      rw [List.mergeSort_nil, List.mergeSort_nil]; rfl
    | cons w r =>
      rw [show (some ((w :: r).map D.str)).bind intsD = intsD ((w :: r).map D.str) from rfl, intsD_strs (by simp), show (some ((w :: r).map D.str)).bind strsD = strsD ((w :: r).map D.str) from rfl, strsD_map]; rfl
  rw [this, wp_ok]
theorem s_sorted {k : Nat} {a : D} {ws : List Str} {s : S} : Wp E0 (cl (k+1) "Task.single" [a, .str "sorted", .tup (ws.map .str)] s) fun d s' => d = .tup ((srt ws).map .str) ∧ s' = s := by
  rw [c_single]
  refine wf_run ?_
  show Ws (runSs (cfg.q k) d_Task_single.body [some a, some (.str "sorted"), some (.tup (ws.map .str)), none, none] s) _
  unfold d_Task_single
  refine ws_skip (.of (by kernel_rfl) ⟨rfl, rfl⟩) ?_
  refine ws_skip (.of (by kernel_rfl) ⟨rfl, rfl⟩) ?_
  refine ws_skip (.of (by kernel_rfl) ⟨rfl, rfl⟩) ?_
  refine ws_skip (.of (by kernel_rfl) ⟨rfl, rfl⟩) ?_
  refine ws_take (.of (by kernel_rfl) ⟨rfl, rfl⟩) ?_
  refine ws_rets ?_
  simp only [we_con, we_varm, we_glom, we_bin, we_neg, we_cmp, we_chain, we_and, we_or, we_not, we_ife, we_tup, we_lst, we_ix, we_sl, we_rev, we_call, we_blt, we_isi, we_app, we_lc, wa_nil, wa_cons, wr_nil, wr_cons, wo_none, wo_some, wto_none, wto_some, wt_and, wt_or, wt_not, wt_cmp, wt_chain, wt_tru, wi_seq, wi_range, wi_enum, wg_nm, wg_tup, wg_nil, wg_cons, wg_sub, wp_ok, wp_bad, wp_nox, wb_add, wb_sub, wb_mul, wb_fdiv, wb_mod, wb_pow, wc_eq, wc_ne, wc_lt, wc_le, wc_gt, wc_ge, wc_eqb, wc_neb, wc_eqs, wc_nes, wx_int, wx_lent, wx_lenl, wx_lenr, wz_int, wz_str, wz_bl, wz_non, wz_tup, wz_rol, wz_ref, wz_lst, List.getElem?_cons_zero, List.getElem?_cons_succ, List.set_cons_zero, List.set_cons_succ, List.length_cons, List.length_nil, wi_tup, wi_lst, wi_rol, wx_tuplel, wx_tuplet, wx_listt, wto_some, hdq, hqc, ite_f, ite_tt, decide_eq_true_eq, Bool.not_eq_true', wisT, ex_bl, ex_int, ite_tf, ite_ff, wix0, wix1, wix2, Nat.reduceAdd, Nat.reduceLT, sl0, sl1, sl2, sl3, sl4, sl5, sl6, sl10, if_true, true_and, and_true, List.map_cons, List.map_nil, wip, wt_turn, it_non_int, it_non_bool, it_non_str, it_non_tuple, it_non_list, it_non_dict, it_bl_int, it_bl_bool, it_bl_str, it_bl_tuple, it_bl_list, it_bl_dict, it_int_int, it_int_bool, it_int_str, it_int_tuple, it_int_list, it_int_dict, it_str_int, it_str_bool, it_str_str, it_str_tuple, it_str_list, it_str_dict, it_tup_int, it_tup_bool, it_tup_str, it_tup_tuple, it_tup_list, it_tup_dict, it_lst_int, it_lst_bool, it_lst_str, it_lst_tuple, it_lst_list, it_lst_dict, it_rol_int, it_rol_bool, it_rol_str, it_rol_tuple, it_rol_list, it_rol_dict, we_revt, we_fnv, wz_dic, wz_fn, we_dct0, wx_sorteds]
end DI.L

set_option Elab.async false
set_option linter.all false
set_option maxRecDepth 100000
set_option maxHeartbeats 4000000
/-! the plain law of k00, E: a step of a task. -/
namespace DI.L
open PySem L2
abbrev Rl (tree : D) : D := .tup [.str "t", .tup [], .int 1, tree]
abbrev Pj (tree : D) : D := .tup [.str "project", .tup [], .tup [], .tup [Rl tree]]
theorem c_rule (k : Nat) (a b : D) (s : S) : cl (k+1) "rule_of" [a, b] s = runF (cfg.q k) 4 d_rule_of.body [a, b] s := by kernel_rfl
theorem s_rule {k : Nat} {tree : D} {s : S} : Wp E0 (cl (k+1) "rule_of" [Pj tree, .str "t"] s) fun d s' => d = Rl tree ∧ s' = s ++ [.lst [Rl tree]] := by
  rw [c_rule]
  refine wf_run ?_
  show Ws (runSs (cfg.q k) d_rule_of.body [some (Pj tree), some (.str "t"), none, none] s) _
  unfold d_rule_of
  refine ws_asgs ?_
  refine .of (a := .lst [Rl tree]) (s' := s) (by kernel_rfl) ?_
  simp only [we_con, we_varm, we_glom, we_bin, we_neg, we_cmp, we_chain, we_and, we_or, we_not, we_ife, we_tup, we_lst, we_ix, we_sl, we_rev, we_call, we_blt, we_isi, we_app, we_lc, wa_nil, wa_cons, wr_nil, wr_cons, wo_none, wo_some, wto_none, wto_some, wt_and, wt_or, wt_not, wt_cmp, wt_chain, wt_tru, wi_seq, wi_range, wi_enum, wg_nm, wg_tup, wg_nil, wg_cons, wg_sub, wp_ok, wp_bad, wp_nox, wb_add, wb_sub, wb_mul, wb_fdiv, wb_mod, wb_pow, wc_eq, wc_ne, wc_lt, wc_le, wc_gt, wc_ge, wc_eqb, wc_neb, wc_eqs, wc_nes, wx_int, wx_lent, wx_lenl, wx_lenr, wz_int, wz_str, wz_bl, wz_non, wz_tup, wz_rol, wz_ref, wz_lst, List.getElem?_cons_zero, List.getElem?_cons_succ, List.set_cons_zero, List.set_cons_succ, List.length_cons, List.length_nil, wi_tup, wi_lst, wi_rol, wx_tuplel, wx_tuplet, wx_listt, wto_some, hdq, hqc, ite_f, ite_tt, decide_eq_true_eq, Bool.not_eq_true', wisT, ex_bl, ex_int, ite_tf, ite_ff, wix0, wix1, wix2, Nat.reduceAdd, Nat.reduceLT, sl0, sl1, sl2, sl3, sl4, sl5, sl6, sl10, if_true, true_and, and_true, List.map_cons, List.map_nil, wip, wt_turn, it_non_int, it_non_bool, it_non_str, it_non_tuple, it_non_list, it_non_dict, it_bl_int, it_bl_bool, it_bl_str, it_bl_tuple, it_bl_list, it_bl_dict, it_int_int, it_int_bool, it_int_str, it_int_tuple, it_int_list, it_int_dict, it_str_int, it_str_bool, it_str_str, it_str_tuple, it_str_list, it_str_dict, it_tup_int, it_tup_bool, it_tup_str, it_tup_tuple, it_tup_list, it_tup_dict, it_lst_int, it_lst_bool, it_lst_str, it_lst_tuple, it_lst_list, it_lst_dict, it_rol_int, it_rol_bool, it_rol_str, it_rol_tuple, it_rol_list, it_rol_dict, we_revt, we_fnv, wz_dic, wz_fn, we_dct0]
  refine ws_rets ?_
  rw [we_ife, wt_cmp, we_blt, wr_cons]
  simp only [we_con, we_varm, we_glom, we_bin, we_neg, we_cmp, we_chain, we_and, we_or, we_not, we_ife, we_tup, we_lst, we_ix, we_sl, we_rev, we_call, we_blt, we_isi, we_app, we_lc, wa_nil, wa_cons, wr_nil, wr_cons, wo_none, wo_some, wto_none, wto_some, wt_and, wt_or, wt_not, wt_cmp, wt_chain, wt_tru, wi_seq, wi_range, wi_enum, wg_nm, wg_tup, wg_nil, wg_cons, wg_sub, wp_ok, wp_bad, wp_nox, wb_add, wb_sub, wb_mul, wb_fdiv, wb_mod, wb_pow, wc_eq, wc_ne, wc_lt, wc_le, wc_gt, wc_ge, wc_eqb, wc_neb, wc_eqs, wc_nes, wx_int, wx_lent, wx_lenl, wx_lenr, wz_int, wz_str, wz_bl, wz_non, wz_tup, wz_rol, wz_ref, wz_lst, List.getElem?_cons_zero, List.getElem?_cons_succ, List.set_cons_zero, List.set_cons_succ, List.length_cons, List.length_nil, wi_tup, wi_lst, wi_rol, wx_tuplel, wx_tuplet, wx_listt, wto_some, hdq, hqc, ite_f, ite_tt, decide_eq_true_eq, Bool.not_eq_true', wisT, ex_bl, ex_int, ite_tf, ite_ff, wix0, wix1, wix2, Nat.reduceAdd, Nat.reduceLT, sl0, sl1, sl2, sl3, sl4, sl5, sl6, sl10, if_true, true_and, and_true, List.map_cons, List.map_nil, wip, wt_turn, it_non_int, it_non_bool, it_non_str, it_non_tuple, it_non_list, it_non_dict, it_bl_int, it_bl_bool, it_bl_str, it_bl_tuple, it_bl_list, it_bl_dict, it_int_int, it_int_bool, it_int_str, it_int_tuple, it_int_list, it_int_dict, it_str_int, it_str_bool, it_str_str, it_str_tuple, it_str_list, it_str_dict, it_tup_int, it_tup_bool, it_tup_str, it_tup_tuple, it_tup_list, it_tup_dict, it_lst_int, it_lst_bool, it_lst_str, it_lst_tuple, it_lst_list, it_lst_dict, it_rol_int, it_rol_bool, it_rol_str, it_rol_tuple, it_rol_list, it_rol_dict, we_revt, we_fnv, wz_dic, wz_fn, we_dct0]
  rw [wx_len lk_new1]
  simp only [we_con, we_varm, we_glom, we_bin, we_neg, we_cmp, we_chain, we_and, we_or, we_not, we_ife, we_tup, we_lst, we_ix, we_sl, we_rev, we_call, we_blt, we_isi, we_app, we_lc, wa_nil, wa_cons, wr_nil, wr_cons, wo_none, wo_some, wto_none, wto_some, wt_and, wt_or, wt_not, wt_cmp, wt_chain, wt_tru, wi_seq, wi_range, wi_enum, wg_nm, wg_tup, wg_nil, wg_cons, wg_sub, wp_ok, wp_bad, wp_nox, wb_add, wb_sub, wb_mul, wb_fdiv, wb_mod, wb_pow, wc_eq, wc_ne, wc_lt, wc_le, wc_gt, wc_ge, wc_eqb, wc_neb, wc_eqs, wc_nes, wx_int, wx_lent, wx_lenl, wx_lenr, wz_int, wz_str, wz_bl, wz_non, wz_tup, wz_rol, wz_ref, wz_lst, List.getElem?_cons_zero, List.getElem?_cons_succ, List.set_cons_zero, List.set_cons_succ, List.length_cons, List.length_nil, wi_tup, wi_lst, wi_rol, wx_tuplel, wx_tuplet, wx_listt, wto_some, hdq, hqc, ite_f, ite_tt, decide_eq_true_eq, Bool.not_eq_true', wisT, ex_bl, ex_int, ite_tf, ite_ff, wix0, wix1, wix2, Nat.reduceAdd, Nat.reduceLT, sl0, sl1, sl2, sl3, sl4, sl5, sl6, sl10, if_true, true_and, and_true, List.map_cons, List.map_nil, wip, wt_turn, it_non_int, it_non_bool, it_non_str, it_non_tuple, it_non_list, it_non_dict, it_bl_int, it_bl_bool, it_bl_str, it_bl_tuple, it_bl_list, it_bl_dict, it_int_int, it_int_bool, it_int_str, it_int_tuple, it_int_list, it_int_dict, it_str_int, it_str_bool, it_str_str, it_str_tuple, it_str_list, it_str_dict, it_tup_int, it_tup_bool, it_tup_str, it_tup_tuple, it_tup_list, it_tup_dict, it_lst_int, it_lst_bool, it_lst_str, it_lst_tuple, it_lst_list, it_lst_dict, it_rol_int, it_rol_bool, it_rol_str, it_rol_tuple, it_rol_list, it_rol_dict, we_revt, we_fnv, wz_dic, wz_fn, we_dct0]
  rw [if_pos (by decide), wixr lk_new1 (d := Rl tree) rfl]
  exact ⟨rfl, rfl⟩
theorem putFl_at {q : Rq} {s l : S} {C f : Str} {fs : List (Str × D)} {d : D} (h : l[0]? = some (.ins C fs)) (hc : q.cf C f = true) (hl : fs.length < 1000) : putFl q (.ref s.length) f d (s ++ l) = some (s ++ l.set 0 (.ins C (putFd f d fs))) := by
  unfold putFl
  simp only
  rw [app_at0, h]
  simp only
  rw [if_pos ⟨hc, hl⟩, set_at0]
theorem putFd_len {f : Str} {v : D} : ∀ {fs : List (Str × D)}, (putFd f v fs).length ≤ fs.length + 1
  | [] => Nat.le_refl _
  | (g, x) :: r => by
    unfold putFd
    split
    · simp
    · have := putFd_len (f := f) (v := v) (fs := r)
      simp; omega
theorem fd3 (a b c : D) : putFd "reads" c (putFd "known" b (putFd "parts" a [])) = [(("parts" : Str), a), (("known" : Str), b), (("reads" : Str), c)] := by kernel_rfl
theorem c_init (k : Nat) (a b c : D) (s : S) : cl (k+1) "Task.__init__" [a, b, c] s = runF (cfg.q k) 3 d_Task___init__.body [a, b, c] s := by kernel_rfl
def T3 (s : S) (kn : Nat) : S := [.ins "Task" [("parts", .ref (s.length+1)), ("known", .ref kn), ("reads", .ref (s.length+2))], .dic false [] [], .dic false [] []]
theorem s_init {k kn : Nat} {tree : D} {s : S} : Wp E0 (cl (k+2) "Task.__init__" [.ref s.length, Pj tree, .ref kn] (s ++ [.ins "Task" []])) fun d s' => d = .non ∧ s' = s ++ T3 s kn := by
  rw [c_init]
  refine wf_run ?_
  show Ws (runSs (cfg.q (k+1)) d_Task___init__.body [some (.ref s.length), some (Pj tree), some (.ref kn)] (s ++ [.ins "Task" []])) _
  unfold d_Task___init__
  rw [ws_cons]
  refine ws_fst ?_
  refine .of (a := .dic [] []) (s' := s ++ [.ins "Task" []]) (by kernel_rfl) ?_
  rw [wz_dic]
  simp only [we_con, we_varm, we_glom, we_bin, we_neg, we_cmp, we_chain, we_and, we_or, we_not, we_ife, we_tup, we_lst, we_ix, we_sl, we_rev, we_call, we_blt, we_isi, we_app, we_lc, wa_nil, wa_cons, wr_nil, wr_cons, wo_none, wo_some, wto_none, wto_some, wt_and, wt_or, wt_not, wt_cmp, wt_chain, wt_tru, wi_seq, wi_range, wi_enum, wg_nm, wg_tup, wg_nil, wg_cons, wg_sub, wp_ok, wp_bad, wp_nox, wb_add, wb_sub, wb_mul, wb_fdiv, wb_mod, wb_pow, wc_eq, wc_ne, wc_lt, wc_le, wc_gt, wc_ge, wc_eqb, wc_neb, wc_eqs, wc_nes, wx_int, wx_lent, wx_lenl, wx_lenr, wz_int, wz_str, wz_bl, wz_non, wz_tup, wz_rol, wz_ref, wz_lst, List.getElem?_cons_zero, List.getElem?_cons_succ, List.set_cons_zero, List.set_cons_succ, List.length_cons, List.length_nil, wi_tup, wi_lst, wi_rol, wx_tuplel, wx_tuplet, wx_listt, wto_some, hdq, hqc, ite_f, ite_tt, decide_eq_true_eq, Bool.not_eq_true', wisT, ex_bl, ex_int, ite_tf, ite_ff, wix0, wix1, wix2, Nat.reduceAdd, Nat.reduceLT, sl0, sl1, sl2, sl3, sl4, sl5, sl6, sl10, if_true, true_and, and_true, List.map_cons, List.map_nil, wip, wt_turn, it_non_int, it_non_bool, it_non_str, it_non_tuple, it_non_list, it_non_dict, it_bl_int, it_bl_bool, it_bl_str, it_bl_tuple, it_bl_list, it_bl_dict, it_int_int, it_int_bool, it_int_str, it_int_tuple, it_int_list, it_int_dict, it_str_int, it_str_bool, it_str_str, it_str_tuple, it_str_list, it_str_dict, it_tup_int, it_tup_bool, it_tup_str, it_tup_tuple, it_tup_list, it_tup_dict, it_lst_int, it_lst_bool, it_lst_str, it_lst_tuple, it_lst_list, it_lst_dict, it_rol_int, it_rol_bool, it_rol_str, it_rol_tuple, it_rol_list, it_rol_dict, we_revt, we_fnv, wz_dic, wz_fn, we_dct0]
  rw [List.append_assoc]
  refine ⟨_, putFl_at (C := "Task") (fs := []) rfl (by kernel_rfl) (by decide), ?_⟩
  rw [ws_cons]
  refine ws_fst ?_
  simp only [we_con, we_varm, we_glom, we_bin, we_neg, we_cmp, we_chain, we_and, we_or, we_not, we_ife, we_tup, we_lst, we_ix, we_sl, we_rev, we_call, we_blt, we_isi, we_app, we_lc, wa_nil, wa_cons, wr_nil, wr_cons, wo_none, wo_some, wto_none, wto_some, wt_and, wt_or, wt_not, wt_cmp, wt_chain, wt_tru, wi_seq, wi_range, wi_enum, wg_nm, wg_tup, wg_nil, wg_cons, wg_sub, wp_ok, wp_bad, wp_nox, wb_add, wb_sub, wb_mul, wb_fdiv, wb_mod, wb_pow, wc_eq, wc_ne, wc_lt, wc_le, wc_gt, wc_ge, wc_eqb, wc_neb, wc_eqs, wc_nes, wx_int, wx_lent, wx_lenl, wx_lenr, wz_int, wz_str, wz_bl, wz_non, wz_tup, wz_rol, wz_ref, wz_lst, List.getElem?_cons_zero, List.getElem?_cons_succ, List.set_cons_zero, List.set_cons_succ, List.length_cons, List.length_nil, wi_tup, wi_lst, wi_rol, wx_tuplel, wx_tuplet, wx_listt, wto_some, hdq, hqc, ite_f, ite_tt, decide_eq_true_eq, Bool.not_eq_true', wisT, ex_bl, ex_int, ite_tf, ite_ff, wix0, wix1, wix2, Nat.reduceAdd, Nat.reduceLT, sl0, sl1, sl2, sl3, sl4, sl5, sl6, sl10, if_true, true_and, and_true, List.map_cons, List.map_nil, wip, wt_turn, it_non_int, it_non_bool, it_non_str, it_non_tuple, it_non_list, it_non_dict, it_bl_int, it_bl_bool, it_bl_str, it_bl_tuple, it_bl_list, it_bl_dict, it_int_int, it_int_bool, it_int_str, it_int_tuple, it_int_list, it_int_dict, it_str_int, it_str_bool, it_str_str, it_str_tuple, it_str_list, it_str_dict, it_tup_int, it_tup_bool, it_tup_str, it_tup_tuple, it_tup_list, it_tup_dict, it_lst_int, it_lst_bool, it_lst_str, it_lst_tuple, it_lst_list, it_lst_dict, it_rol_int, it_rol_bool, it_rol_str, it_rol_tuple, it_rol_list, it_rol_dict, we_revt, we_fnv, wz_dic, wz_fn, we_dct0]
  refine ⟨_, putFl_at (C := "Task") rfl (by kernel_rfl) (Nat.lt_of_le_of_lt putFd_len (by decide)), ?_⟩
  rw [ws_cons]
  refine ws_fst ?_
  simp only [we_con, we_varm, we_glom, we_bin, we_neg, we_cmp, we_chain, we_and, we_or, we_not, we_ife, we_tup, we_lst, we_ix, we_sl, we_rev, we_call, we_blt, we_isi, we_app, we_lc, wa_nil, wa_cons, wr_nil, wr_cons, wo_none, wo_some, wto_none, wto_some, wt_and, wt_or, wt_not, wt_cmp, wt_chain, wt_tru, wi_seq, wi_range, wi_enum, wg_nm, wg_tup, wg_nil, wg_cons, wg_sub, wp_ok, wp_bad, wp_nox, wb_add, wb_sub, wb_mul, wb_fdiv, wb_mod, wb_pow, wc_eq, wc_ne, wc_lt, wc_le, wc_gt, wc_ge, wc_eqb, wc_neb, wc_eqs, wc_nes, wx_int, wx_lent, wx_lenl, wx_lenr, wz_int, wz_str, wz_bl, wz_non, wz_tup, wz_rol, wz_ref, wz_lst, List.getElem?_cons_zero, List.getElem?_cons_succ, List.set_cons_zero, List.set_cons_succ, List.length_cons, List.length_nil, wi_tup, wi_lst, wi_rol, wx_tuplel, wx_tuplet, wx_listt, wto_some, hdq, hqc, ite_f, ite_tt, decide_eq_true_eq, Bool.not_eq_true', wisT, ex_bl, ex_int, ite_tf, ite_ff, wix0, wix1, wix2, Nat.reduceAdd, Nat.reduceLT, sl0, sl1, sl2, sl3, sl4, sl5, sl6, sl10, if_true, true_and, and_true, List.map_cons, List.map_nil, wip, wt_turn, it_non_int, it_non_bool, it_non_str, it_non_tuple, it_non_list, it_non_dict, it_bl_int, it_bl_bool, it_bl_str, it_bl_tuple, it_bl_list, it_bl_dict, it_int_int, it_int_bool, it_int_str, it_int_tuple, it_int_list, it_int_dict, it_str_int, it_str_bool, it_str_str, it_str_tuple, it_str_list, it_str_dict, it_tup_int, it_tup_bool, it_tup_str, it_tup_tuple, it_tup_list, it_tup_dict, it_lst_int, it_lst_bool, it_lst_str, it_lst_tuple, it_lst_list, it_lst_dict, it_rol_int, it_rol_bool, it_rol_str, it_rol_tuple, it_rol_list, it_rol_dict, we_revt, we_fnv, wz_dic, wz_fn, we_dct0]
  rw [List.append_assoc]
  refine ⟨_, putFl_at (C := "Task") rfl (by kernel_rfl) (Nat.lt_of_le_of_lt putFd_len (Nat.lt_of_le_of_lt (Nat.succ_le_succ putFd_len) (by decide))), ?_⟩
  rw [ws_nil]
  show s ++ [O.ins "Task" (putFd "reads" _ (putFd "known" _ (putFd "parts" _ []))), .dic false [] [], .dic false [] []] = _
  rw [fd3]
  unfold T3
  simp
theorem TaskAt.app {s t : S} {r : Nat} (h : TaskAt s r) : TaskAt (s ++ t) r := by
  obtain ⟨a, b, c, e1, e2⟩ := h.h
  exact ⟨a, b, c, by rw [List.getElem?_append_left (List.getElem?_eq_some_iff.mp e1).1]; exact e1, by rw [List.getElem?_append_left (List.getElem?_eq_some_iff.mp e2).1]; exact e2⟩
theorem taskAt {s : S} {kn : Nat} : TaskAt (s ++ T3 s kn) s.length :=
  ⟨s.length + 1, kn, s.length + 2, by rw [app_at0]; rfl, by rw [app_at]; rfl⟩
theorem m_mk {k : Nat} : (cfg.q k).mkI "Task" = some "Task.__init__" := by kernel_rfl
theorem c_step (k : Nat) (a b c : D) (s : S) : cl (k+1) "task_step" [a, b, c] s = runF (cfg.q k) 7 d_task_step.body [a, b, c] s := by kernel_rfl
theorem wix3 {E : Xt} {s : S} {PD : D → S → Prop} {a b c d : D} {r : List D} : Wp E (ixD (.tup (a :: b :: c :: d :: r)) (.int 3) s) PD = PD d s := wixt (n := 3) rfl
/-- what a task comes to -/
def Comes (k : Nat) (tree : D) (R : D → D → Prop) : Prop := ∀ (r n : Nat) (s : S), TaskAt s r → Wp (fun (C : Str) (fs : List (Str × D)) s' => C = "Fails" ∧ s' = s ∧ ∃ y : D, y.shr = true ∧ fs = [(("why" : Str), y)] ∧ R (.str "failed") y) (cl k "Task.worth" [.ref r, tree, .ref n] s) fun d s' => s' = s ∧ d.shr = true ∧ R (.str "made") d
theorem s_step {k kn : Nat} {tree : D} {R : D → D → Prop} {s : S} (ht : tree.shr = true) (hw : Comes (k+3) tree R) : Wp E0 (cl (k+4) "task_step" [Pj tree, .str "t", .ref kn] s) fun d s' => ∃ a b t, R a b ∧ d = .tup [a, b, .tup []] ∧ s' = s ++ t := by
  rw [c_step]
  refine wf_run ?_
  show Ws (runSs (cfg.q (k+3)) d_task_step.body [some (Pj tree), some (.str "t"), some (.ref kn), none, none, none, none] s) _
  unfold d_task_step
  refine ws_asgs ?_
  simp only [we_con, we_varm, we_glom, we_bin, we_neg, we_cmp, we_chain, we_and, we_or, we_not, we_ife, we_tup, we_lst, we_ix, we_sl, we_rev, we_call, we_blt, we_isi, we_app, we_lc, wa_nil, wa_cons, wr_nil, wr_cons, wo_none, wo_some, wto_none, wto_some, wt_and, wt_or, wt_not, wt_cmp, wt_chain, wt_tru, wi_seq, wi_range, wi_enum, wg_nm, wg_tup, wg_nil, wg_cons, wg_sub, wp_ok, wp_bad, wp_nox, wb_add, wb_sub, wb_mul, wb_fdiv, wb_mod, wb_pow, wc_eq, wc_ne, wc_lt, wc_le, wc_gt, wc_ge, wc_eqb, wc_neb, wc_eqs, wc_nes, wx_int, wx_lent, wx_lenl, wx_lenr, wz_int, wz_str, wz_bl, wz_non, wz_tup, wz_rol, wz_ref, wz_lst, List.getElem?_cons_zero, List.getElem?_cons_succ, List.set_cons_zero, List.set_cons_succ, List.length_cons, List.length_nil, wi_tup, wi_lst, wi_rol, wx_tuplel, wx_tuplet, wx_listt, wto_some, hdq, hqc, ite_f, ite_tt, decide_eq_true_eq, Bool.not_eq_true', wisT, ex_bl, ex_int, ite_tf, ite_ff, wix0, wix1, wix2, Nat.reduceAdd, Nat.reduceLT, sl0, sl1, sl2, sl3, sl4, sl5, sl6, sl10, if_true, true_and, and_true, List.map_cons, List.map_nil, wip, wt_turn, it_non_int, it_non_bool, it_non_str, it_non_tuple, it_non_list, it_non_dict, it_bl_int, it_bl_bool, it_bl_str, it_bl_tuple, it_bl_list, it_bl_dict, it_int_int, it_int_bool, it_int_str, it_int_tuple, it_int_list, it_int_dict, it_str_int, it_str_bool, it_str_str, it_str_tuple, it_str_list, it_str_dict, it_tup_int, it_tup_bool, it_tup_str, it_tup_tuple, it_tup_list, it_tup_dict, it_lst_int, it_lst_bool, it_lst_str, it_lst_tuple, it_lst_list, it_lst_dict, it_rol_int, it_rol_bool, it_rol_str, it_rol_tuple, it_rol_list, it_rol_dict, we_revt, we_fnv, wz_dic, wz_fn, we_dct0]
  refine Wp.up ((s_rule (k := k+2)).imp ?_)
  rintro d s' ⟨rfl, rfl⟩
  simp only [we_con, we_varm, we_glom, we_bin, we_neg, we_cmp, we_chain, we_and, we_or, we_not, we_ife, we_tup, we_lst, we_ix, we_sl, we_rev, we_call, we_blt, we_isi, we_app, we_lc, wa_nil, wa_cons, wr_nil, wr_cons, wo_none, wo_some, wto_none, wto_some, wt_and, wt_or, wt_not, wt_cmp, wt_chain, wt_tru, wi_seq, wi_range, wi_enum, wg_nm, wg_tup, wg_nil, wg_cons, wg_sub, wp_ok, wp_bad, wp_nox, wb_add, wb_sub, wb_mul, wb_fdiv, wb_mod, wb_pow, wc_eq, wc_ne, wc_lt, wc_le, wc_gt, wc_ge, wc_eqb, wc_neb, wc_eqs, wc_nes, wx_int, wx_lent, wx_lenl, wx_lenr, wz_int, wz_str, wz_bl, wz_non, wz_tup, wz_rol, wz_ref, wz_lst, List.getElem?_cons_zero, List.getElem?_cons_succ, List.set_cons_zero, List.set_cons_succ, List.length_cons, List.length_nil, wi_tup, wi_lst, wi_rol, wx_tuplel, wx_tuplet, wx_listt, wto_some, hdq, hqc, ite_f, ite_tt, decide_eq_true_eq, Bool.not_eq_true', wisT, ex_bl, ex_int, ite_tf, ite_ff, wix0, wix1, wix2, Nat.reduceAdd, Nat.reduceLT, sl0, sl1, sl2, sl3, sl4, sl5, sl6, sl10, if_true, true_and, and_true, List.map_cons, List.map_nil, wip, wt_turn, it_non_int, it_non_bool, it_non_str, it_non_tuple, it_non_list, it_non_dict, it_bl_int, it_bl_bool, it_bl_str, it_bl_tuple, it_bl_list, it_bl_dict, it_int_int, it_int_bool, it_int_str, it_int_tuple, it_int_list, it_int_dict, it_str_int, it_str_bool, it_str_str, it_str_tuple, it_str_list, it_str_dict, it_tup_int, it_tup_bool, it_tup_str, it_tup_tuple, it_tup_list, it_tup_dict, it_lst_int, it_lst_bool, it_lst_str, it_lst_tuple, it_lst_list, it_lst_dict, it_rol_int, it_rol_bool, it_rol_str, it_rol_tuple, it_rol_list, it_rol_dict, we_revt, we_fnv, wz_dic, wz_fn, we_dct0]
  refine ws_skip (.of (by kernel_rfl) ⟨rfl, rfl⟩) ?_
  refine ws_asgs ?_
  rw [we_mk m_mk]
  simp only [we_con, we_varm, we_glom, we_bin, we_neg, we_cmp, we_chain, we_and, we_or, we_not, we_ife, we_tup, we_lst, we_ix, we_sl, we_rev, we_call, we_blt, we_isi, we_app, we_lc, wa_nil, wa_cons, wr_nil, wr_cons, wo_none, wo_some, wto_none, wto_some, wt_and, wt_or, wt_not, wt_cmp, wt_chain, wt_tru, wi_seq, wi_range, wi_enum, wg_nm, wg_tup, wg_nil, wg_cons, wg_sub, wp_ok, wp_bad, wp_nox, wb_add, wb_sub, wb_mul, wb_fdiv, wb_mod, wb_pow, wc_eq, wc_ne, wc_lt, wc_le, wc_gt, wc_ge, wc_eqb, wc_neb, wc_eqs, wc_nes, wx_int, wx_lent, wx_lenl, wx_lenr, wz_int, wz_str, wz_bl, wz_non, wz_tup, wz_rol, wz_ref, wz_lst, List.getElem?_cons_zero, List.getElem?_cons_succ, List.set_cons_zero, List.set_cons_succ, List.length_cons, List.length_nil, wi_tup, wi_lst, wi_rol, wx_tuplel, wx_tuplet, wx_listt, wto_some, hdq, hqc, ite_f, ite_tt, decide_eq_true_eq, Bool.not_eq_true', wisT, ex_bl, ex_int, ite_tf, ite_ff, wix0, wix1, wix2, Nat.reduceAdd, Nat.reduceLT, sl0, sl1, sl2, sl3, sl4, sl5, sl6, sl10, if_true, true_and, and_true, List.map_cons, List.map_nil, wip, wt_turn, it_non_int, it_non_bool, it_non_str, it_non_tuple, it_non_list, it_non_dict, it_bl_int, it_bl_bool, it_bl_str, it_bl_tuple, it_bl_list, it_bl_dict, it_int_int, it_int_bool, it_int_str, it_int_tuple, it_int_list, it_int_dict, it_str_int, it_str_bool, it_str_str, it_str_tuple, it_str_list, it_str_dict, it_tup_int, it_tup_bool, it_tup_str, it_tup_tuple, it_tup_list, it_tup_dict, it_lst_int, it_lst_bool, it_lst_str, it_lst_tuple, it_lst_list, it_lst_dict, it_rol_int, it_rol_bool, it_rol_str, it_rol_tuple, it_rol_list, it_rol_dict, we_revt, we_fnv, wz_dic, wz_fn, we_dct0]
  refine Wp.up ((s_init (k := k+1) (s := s ++ [.lst [Rl tree]])).imp ?_)
  rintro d s' ⟨rfl, rfl⟩
  refine ⟨rfl, ?_⟩
  have hT := taskAt (s := s ++ [.lst [Rl tree]]) (kn := kn)
  have hi : ∃ t, (s ++ [.lst [Rl tree]]) ++ T3 (s ++ [.lst [Rl tree]]) kn = s ++ t := ⟨_, List.append_assoc ..⟩
  generalize (s ++ [O.lst [Rl tree]]).length = r at hT ⊢
  generalize (s ++ [O.lst [Rl tree]]) ++ T3 (s ++ [O.lst [Rl tree]]) kn = s1 at hT hi ⊢
  obtain ⟨t, rfl⟩ := hi
  refine ws_cut (fun ρ s' => ∃ a b t', R a b ∧ a.shr = true ∧ b.shr = true ∧ ρ = [some (Pj tree), some (.str "t"), some (.ref kn), none, some (.tup [a, b]), some (.ref r), some (Rl tree)] ∧ s' = (s ++ t) ++ t') (ws_tr ?_) ?_
  · refine ws_asgs ?_
    rw [we_tup, wa_cons]
    simp only [we_con, we_varm, we_glom, we_bin, we_neg, we_cmp, we_chain, we_and, we_or, we_not, we_ife, we_tup, we_lst, we_ix, we_sl, we_rev, we_call, we_blt, we_isi, we_app, we_lc, wa_nil, wa_cons, wr_nil, wr_cons, wo_none, wo_some, wto_none, wto_some, wt_and, wt_or, wt_not, wt_cmp, wt_chain, wt_tru, wi_seq, wi_range, wi_enum, wg_nm, wg_tup, wg_nil, wg_cons, wg_sub, wp_ok, wp_bad, wp_nox, wb_add, wb_sub, wb_mul, wb_fdiv, wb_mod, wb_pow, wc_eq, wc_ne, wc_lt, wc_le, wc_gt, wc_ge, wc_eqb, wc_neb, wc_eqs, wc_nes, wx_int, wx_lent, wx_lenl, wx_lenr, wz_int, wz_str, wz_bl, wz_non, wz_tup, wz_rol, wz_ref, wz_lst, List.getElem?_cons_zero, List.getElem?_cons_succ, List.set_cons_zero, List.set_cons_succ, List.length_cons, List.length_nil, wi_tup, wi_lst, wi_rol, wx_tuplel, wx_tuplet, wx_listt, wto_some, hdq, hqc, ite_f, ite_tt, decide_eq_true_eq, Bool.not_eq_true', wisT, ex_bl, ex_int, ite_tf, ite_ff, wix0, wix1, wix2, Nat.reduceAdd, Nat.reduceLT, sl0, sl1, sl2, sl3, sl4, sl5, sl6, sl10, if_true, true_and, and_true, List.map_cons, List.map_nil, wip, wt_turn, it_non_int, it_non_bool, it_non_str, it_non_tuple, it_non_list, it_non_dict, it_bl_int, it_bl_bool, it_bl_str, it_bl_tuple, it_bl_list, it_bl_dict, it_int_int, it_int_bool, it_int_str, it_int_tuple, it_int_list, it_int_dict, it_str_int, it_str_bool, it_str_str, it_str_tuple, it_str_list, it_str_dict, it_tup_int, it_tup_bool, it_tup_str, it_tup_tuple, it_tup_list, it_tup_dict, it_lst_int, it_lst_bool, it_lst_str, it_lst_tuple, it_lst_list, it_lst_dict, it_rol_int, it_rol_bool, it_rol_str, it_rol_tuple, it_rol_list, it_rol_dict, we_revt, we_fnv, wz_dic, wz_fn, we_dct0]
    refine w_mcl rfl hT m_worth (by decide +kernel) ?_
    simp only [we_con, we_varm, we_glom, we_bin, we_neg, we_cmp, we_chain, we_and, we_or, we_not, we_ife, we_tup, we_lst, we_ix, we_sl, we_rev, we_call, we_blt, we_isi, we_app, we_lc, wa_nil, wa_cons, wr_nil, wr_cons, wo_none, wo_some, wto_none, wto_some, wt_and, wt_or, wt_not, wt_cmp, wt_chain, wt_tru, wi_seq, wi_range, wi_enum, wg_nm, wg_tup, wg_nil, wg_cons, wg_sub, wp_ok, wp_bad, wp_nox, wb_add, wb_sub, wb_mul, wb_fdiv, wb_mod, wb_pow, wc_eq, wc_ne, wc_lt, wc_le, wc_gt, wc_ge, wc_eqb, wc_neb, wc_eqs, wc_nes, wx_int, wx_lent, wx_lenl, wx_lenr, wz_int, wz_str, wz_bl, wz_non, wz_tup, wz_rol, wz_ref, wz_lst, List.getElem?_cons_zero, List.getElem?_cons_succ, List.set_cons_zero, List.set_cons_succ, List.length_cons, List.length_nil, wi_tup, wi_lst, wi_rol, wx_tuplel, wx_tuplet, wx_listt, wto_some, hdq, hqc, ite_f, ite_tt, decide_eq_true_eq, Bool.not_eq_true', wisT, ex_bl, ex_int, ite_tf, ite_ff, wix0, wix1, wix2, Nat.reduceAdd, Nat.reduceLT, sl0, sl1, sl2, sl3, sl4, sl5, sl6, sl10, if_true, true_and, and_true, List.map_cons, List.map_nil, wip, wt_turn, it_non_int, it_non_bool, it_non_str, it_non_tuple, it_non_list, it_non_dict, it_bl_int, it_bl_bool, it_bl_str, it_bl_tuple, it_bl_list, it_bl_dict, it_int_int, it_int_bool, it_int_str, it_int_tuple, it_int_list, it_int_dict, it_str_int, it_str_bool, it_str_str, it_str_tuple, it_str_list, it_str_dict, it_tup_int, it_tup_bool, it_tup_str, it_tup_tuple, it_tup_list, it_tup_dict, it_lst_int, it_lst_bool, it_lst_str, it_lst_tuple, it_lst_list, it_lst_dict, it_rol_int, it_rol_bool, it_rol_str, it_rol_tuple, it_rol_list, it_rol_dict, we_revt, we_fnv, wz_dic, wz_fn, we_dct0, wix3]
    rw [wz_shr ht]
    refine ((hw _ _ _ hT.app).impE ?_).imp ?_
    · rintro C fs s' ⟨rfl, rfl, y, hy, rfl, hR⟩
      show Ws (runHs _ _ _ _ _ _) _
      rw [wh_no (by kernel_rfl)]
      refine wh_as (by kernel_rfl) (show 3 < 7 by decide) ?_
      refine ws_asgs ?_
      rw [we_tup, wa_cons]
      simp only [we_con, we_varm, we_glom, we_bin, we_neg, we_cmp, we_chain, we_and, we_or, we_not, we_ife, we_tup, we_lst, we_ix, we_sl, we_rev, we_call, we_blt, we_isi, we_app, we_lc, wa_nil, wa_cons, wr_nil, wr_cons, wo_none, wo_some, wto_none, wto_some, wt_and, wt_or, wt_not, wt_cmp, wt_chain, wt_tru, wi_seq, wi_range, wi_enum, wg_nm, wg_tup, wg_nil, wg_cons, wg_sub, wp_ok, wp_bad, wp_nox, wb_add, wb_sub, wb_mul, wb_fdiv, wb_mod, wb_pow, wc_eq, wc_ne, wc_lt, wc_le, wc_gt, wc_ge, wc_eqb, wc_neb, wc_eqs, wc_nes, wx_int, wx_lent, wx_lenl, wx_lenr, wz_int, wz_str, wz_bl, wz_non, wz_tup, wz_rol, wz_ref, wz_lst, List.getElem?_cons_zero, List.getElem?_cons_succ, List.set_cons_zero, List.set_cons_succ, List.length_cons, List.length_nil, wi_tup, wi_lst, wi_rol, wx_tuplel, wx_tuplet, wx_listt, wto_some, hdq, hqc, ite_f, ite_tt, decide_eq_true_eq, Bool.not_eq_true', wisT, ex_bl, ex_int, ite_tf, ite_ff, wix0, wix1, wix2, Nat.reduceAdd, Nat.reduceLT, sl0, sl1, sl2, sl3, sl4, sl5, sl6, sl10, if_true, true_and, and_true, List.map_cons, List.map_nil, wip, wt_turn, it_non_int, it_non_bool, it_non_str, it_non_tuple, it_non_list, it_non_dict, it_bl_int, it_bl_bool, it_bl_str, it_bl_tuple, it_bl_list, it_bl_dict, it_int_int, it_int_bool, it_int_str, it_int_tuple, it_int_list, it_int_dict, it_str_int, it_str_bool, it_str_str, it_str_tuple, it_str_list, it_str_dict, it_tup_int, it_tup_bool, it_tup_str, it_tup_tuple, it_tup_list, it_tup_dict, it_lst_int, it_lst_bool, it_lst_str, it_lst_tuple, it_lst_list, it_lst_dict, it_rol_int, it_rol_bool, it_rol_str, it_rol_tuple, it_rol_list, it_rol_dict, we_revt, we_fnv, wz_dic, wz_fn, we_dct0]
      rw [we_efld rfl (by kernel_rfl) rfl, wz_shr hy]
      rw [ws_nil]
      exact ⟨rfl, _, y, _, hR, rfl, hy, rfl, rfl⟩
    · rintro d s' ⟨rfl, hd, hR⟩
      rw [wz_shr hd]
      rw [ws_nil]
      exact ⟨_, d, _, hR, rfl, hd, rfl, rfl⟩
  · rintro ρ s' ⟨a, b, t', hR, ha, hb, rfl, rfl⟩
    refine ws_rets ?_
    obtain ⟨pa, kb, rc, e1, e2⟩ := (hT.app (t := t')).h
    rw [we_bin]
    simp only [we_con, we_varm, we_glom, we_bin, we_neg, we_cmp, we_chain, we_and, we_or, we_not, we_ife, we_tup, we_lst, we_ix, we_sl, we_rev, we_call, we_blt, we_isi, we_app, we_lc, wa_nil, wa_cons, wr_nil, wr_cons, wo_none, wo_some, wto_none, wto_some, wt_and, wt_or, wt_not, wt_cmp, wt_chain, wt_tru, wi_seq, wi_range, wi_enum, wg_nm, wg_tup, wg_nil, wg_cons, wg_sub, wp_ok, wp_bad, wp_nox, wb_add, wb_sub, wb_mul, wb_fdiv, wb_mod, wb_pow, wc_eq, wc_ne, wc_lt, wc_le, wc_gt, wc_ge, wc_eqb, wc_neb, wc_eqs, wc_nes, wx_int, wx_lent, wx_lenl, wx_lenr, wz_int, wz_str, wz_bl, wz_non, wz_tup, wz_rol, wz_ref, wz_lst, List.getElem?_cons_zero, List.getElem?_cons_succ, List.set_cons_zero, List.set_cons_succ, List.length_cons, List.length_nil, wi_tup, wi_lst, wi_rol, wx_tuplel, wx_tuplet, wx_listt, wto_some, hdq, hqc, ite_f, ite_tt, decide_eq_true_eq, Bool.not_eq_true', wisT, ex_bl, ex_int, ite_tf, ite_ff, wix0, wix1, wix2, Nat.reduceAdd, Nat.reduceLT, sl0, sl1, sl2, sl3, sl4, sl5, sl6, sl10, if_true, true_and, and_true, List.map_cons, List.map_nil, wip, wt_turn, it_non_int, it_non_bool, it_non_str, it_non_tuple, it_non_list, it_non_dict, it_bl_int, it_bl_bool, it_bl_str, it_bl_tuple, it_bl_list, it_bl_dict, it_int_int, it_int_bool, it_int_str, it_int_tuple, it_int_list, it_int_dict, it_str_int, it_str_bool, it_str_str, it_str_tuple, it_str_list, it_str_dict, it_tup_int, it_tup_bool, it_tup_str, it_tup_tuple, it_tup_list, it_tup_dict, it_lst_int, it_lst_bool, it_lst_str, it_lst_tuple, it_lst_list, it_lst_dict, it_rol_int, it_rol_bool, it_rol_str, it_rol_tuple, it_rol_list, it_rol_dict, we_revt, we_fnv, wz_dic, wz_fn, we_dct0]
    rw [we_itms, we_fld]
    simp only [we_con, we_varm, we_glom, we_bin, we_neg, we_cmp, we_chain, we_and, we_or, we_not, we_ife, we_tup, we_lst, we_ix, we_sl, we_rev, we_call, we_blt, we_isi, we_app, we_lc, wa_nil, wa_cons, wr_nil, wr_cons, wo_none, wo_some, wto_none, wto_some, wt_and, wt_or, wt_not, wt_cmp, wt_chain, wt_tru, wi_seq, wi_range, wi_enum, wg_nm, wg_tup, wg_nil, wg_cons, wg_sub, wp_ok, wp_bad, wp_nox, wb_add, wb_sub, wb_mul, wb_fdiv, wb_mod, wb_pow, wc_eq, wc_ne, wc_lt, wc_le, wc_gt, wc_ge, wc_eqb, wc_neb, wc_eqs, wc_nes, wx_int, wx_lent, wx_lenl, wx_lenr, wz_int, wz_str, wz_bl, wz_non, wz_tup, wz_rol, wz_ref, wz_lst, List.getElem?_cons_zero, List.getElem?_cons_succ, List.set_cons_zero, List.set_cons_succ, List.length_cons, List.length_nil, wi_tup, wi_lst, wi_rol, wx_tuplel, wx_tuplet, wx_listt, wto_some, hdq, hqc, ite_f, ite_tt, decide_eq_true_eq, Bool.not_eq_true', wisT, ex_bl, ex_int, ite_tf, ite_ff, wix0, wix1, wix2, Nat.reduceAdd, Nat.reduceLT, sl0, sl1, sl2, sl3, sl4, sl5, sl6, sl10, if_true, true_and, and_true, List.map_cons, List.map_nil, wip, wt_turn, it_non_int, it_non_bool, it_non_str, it_non_tuple, it_non_list, it_non_dict, it_bl_int, it_bl_bool, it_bl_str, it_bl_tuple, it_bl_list, it_bl_dict, it_int_int, it_int_bool, it_int_str, it_int_tuple, it_int_list, it_int_dict, it_str_int, it_str_bool, it_str_str, it_str_tuple, it_str_list, it_str_dict, it_tup_int, it_tup_bool, it_tup_str, it_tup_tuple, it_tup_list, it_tup_dict, it_lst_int, it_lst_bool, it_lst_str, it_lst_tuple, it_lst_list, it_lst_dict, it_rol_int, it_rol_bool, it_rol_str, it_rol_tuple, it_rol_list, it_rol_dict, we_revt, we_fnv, wz_dic, wz_fn, we_dct0]
    refine ⟨r, _, _, .ref rc, rfl, e1, by kernel_rfl, by kernel_rfl, [], [], ?_, ?_⟩
    · show dk _ rc = _
      unfold dk
      rw [e2]
    · show Wp _ (binD .add (.tup [a, b]) (.tup [.tup (prD [] [])]) _) _
      rw [wb_tadd (xs := [a, b]) (ys := [.tup (prD [] [])]) (show 3 ≤ sizeLine by decide)]
      exact ⟨a, b, t ++ t', hR, rfl, List.append_assoc ..⟩
theorem c_made (k : Nat) (a : D) (s : S) : cl (k+1) "_law_made" [a] s = runF (cfg.q k) 1 d__law_made.body [a] s := by kernel_rfl
theorem s_made {k : Nat} {tree : D} {R : D → D → Prop} {s : S} {E : Xt} {P : D → S → Prop} (ht : tree.shr = true) (hw : Comes (k+3) tree R) (i2 : ∀ a b t, R a b → P (.tup [a, b, .tup []]) (s ++ t)) : Wp E (callN cfg.ds cfg.q0 (k+5) "_law_made" [tree] s) P := by
  show Wp E (cl (k+5) "_law_made" [tree] s) P
  rw [c_made]
  refine wf_run ?_
  show Ws (runSs (cfg.q (k+4)) d__law_made.body [some tree] s) _
  unfold d__law_made
  refine ws_rets ?_
  simp only [we_con, we_varm, we_glom, we_bin, we_neg, we_cmp, we_chain, we_and, we_or, we_not, we_ife, we_tup, we_lst, we_ix, we_sl, we_rev, we_call, we_blt, we_isi, we_app, we_lc, wa_nil, wa_cons, wr_nil, wr_cons, wo_none, wo_some, wto_none, wto_some, wt_and, wt_or, wt_not, wt_cmp, wt_chain, wt_tru, wi_seq, wi_range, wi_enum, wg_nm, wg_tup, wg_nil, wg_cons, wg_sub, wp_ok, wp_bad, wp_nox, wb_add, wb_sub, wb_mul, wb_fdiv, wb_mod, wb_pow, wc_eq, wc_ne, wc_lt, wc_le, wc_gt, wc_ge, wc_eqb, wc_neb, wc_eqs, wc_nes, wx_int, wx_lent, wx_lenl, wx_lenr, wz_int, wz_str, wz_bl, wz_non, wz_tup, wz_rol, wz_ref, wz_lst, List.getElem?_cons_zero, List.getElem?_cons_succ, List.set_cons_zero, List.set_cons_succ, List.length_cons, List.length_nil, wi_tup, wi_lst, wi_rol, wx_tuplel, wx_tuplet, wx_listt, wto_some, hdq, hqc, ite_f, ite_tt, decide_eq_true_eq, Bool.not_eq_true', wisT, ex_bl, ex_int, ite_tf, ite_ff, wix0, wix1, wix2, Nat.reduceAdd, Nat.reduceLT, sl0, sl1, sl2, sl3, sl4, sl5, sl6, sl10, if_true, true_and, and_true, List.map_cons, List.map_nil, wip, wt_turn, it_non_int, it_non_bool, it_non_str, it_non_tuple, it_non_list, it_non_dict, it_bl_int, it_bl_bool, it_bl_str, it_bl_tuple, it_bl_list, it_bl_dict, it_int_int, it_int_bool, it_int_str, it_int_tuple, it_int_list, it_int_dict, it_str_int, it_str_bool, it_str_str, it_str_tuple, it_str_list, it_str_dict, it_tup_int, it_tup_bool, it_tup_str, it_tup_tuple, it_tup_list, it_tup_dict, it_lst_int, it_lst_bool, it_lst_str, it_lst_tuple, it_lst_list, it_lst_dict, it_rol_int, it_rol_bool, it_rol_str, it_rol_tuple, it_rol_list, it_rol_dict, we_revt, we_fnv, wz_dic, wz_fn, we_dct0]
  rw [wz_shr ht]
  refine Wp.up ((s_step (k := k) ht hw).imp ?_)
  rintro d s' ⟨a, b, t, hR, rfl, rfl⟩
  rw [List.append_assoc]
  exact i2 a b _ hR
end DI.L

set_option Elab.async false
set_option linter.all false
set_option maxRecDepth 100000
set_option maxHeartbeats 4000000
/-! the plain law of k00, F: what is compared; tasks of the law. -/
namespace DI.L
open PySem L2
theorem pl_t {xs : List D} (h : xs.length ≤ 1000) (h2 : ∀ x ∈ xs, x.pl 1000 = true) : (D.tup xs).pl 1000 = true := by
  unfold D.pl
  rw [Bool.and_eq_true]
  exact ⟨decide_eq_true h, pls_of h2⟩
theorem pl_ws {ws : List Str} (h : ws.length ≤ 1000) : (D.tup (ws.map .str)).pl 1000 = true :=
  pl_t (by simpa using h) fun x hx => by obtain ⟨w, _, rfl⟩ := List.mem_map.mp hx; rfl
theorem dep_t {n : Nat} : ∀ {xs : List D}, (∀ x ∈ xs, x.dep ≤ n) → (D.tup xs).dep ≤ n + 1 := by
  have key : ∀ {xs : List D}, (∀ x ∈ xs, x.dep ≤ n) → D.dep.D.deps xs ≤ n := by
    intro xs
    induction xs with
    | nil => intro _; exact Nat.zero_le _
    | cons y ys ih =>
      intro h
      unfold D.dep.D.deps
      exact Nat.max_le.mpr ⟨h y List.mem_cons_self, ih fun x hx => h x (List.mem_cons_of_mem _ hx)⟩
  intro xs h
  exact Nat.succ_le_succ (key h)
theorem dep_ws {ws : List Str} : (D.tup (ws.map .str)).dep ≤ 1 := dep_t (n := 0) fun x hx => by
  obtain ⟨w, _, rfl⟩ := List.mem_map.mp hx
  exact Nat.le_refl _
theorem pl_2 {a b : D} (ha : a.pl 1000 = true) (hb : b.pl 1000 = true) : (D.tup [a, b]).pl 1000 = true := pl_t (show 2 ≤ 1000 by decide) fun x hx => by
  simp only [List.mem_cons, List.not_mem_nil, or_false] at hx
  rcases hx with rfl | rfl <;> assumption
theorem pl_3 {a b c : D} (ha : a.pl 1000 = true) (hb : b.pl 1000 = true) (hc : c.pl 1000 = true) : (D.tup [a, b, c]).pl 1000 = true := pl_t (show 3 ≤ 1000 by decide) fun x hx => by
  simp only [List.mem_cons, List.not_mem_nil, or_false] at hx
  rcases hx with rfl | rfl | rfl <;> assumption
theorem pl_1 {a : D} (ha : a.pl 1000 = true) : (D.tup [a]).pl 1000 = true := pl_t (show 1 ≤ 1000 by decide) fun x hx => by
  rw [List.mem_singleton.mp hx]; exact ha
theorem dep_2 {n : Nat} {a b : D} (ha : a.dep ≤ n) (hb : b.dep ≤ n) : (D.tup [a, b]).dep ≤ n + 1 := dep_t fun x hx => by
  simp only [List.mem_cons, List.not_mem_nil, or_false] at hx
  rcases hx with rfl | rfl <;> assumption
theorem dep_3 {n : Nat} {a b c : D} (ha : a.dep ≤ n) (hb : b.dep ≤ n) (hc : c.dep ≤ n) : (D.tup [a, b, c]).dep ≤ n + 1 := dep_t fun x hx => by
  simp only [List.mem_cons, List.not_mem_nil, or_false] at hx
  rcases hx with rfl | rfl | rfl <;> assumption
theorem dep_1 {n : Nat} {a : D} (ha : a.dep ≤ n) : (D.tup [a]).dep ≤ n + 1 := dep_t fun x hx => by
  rw [List.mem_singleton.mp hx]; exact ha
/-- what is alike -/
theorem same_ok {k : Nat} {a : D} {s : S} {E : Xt} {P : D → S → Prop} (ha : a.pl 1000 = true) (hd : a.dep ≤ k) (h : P (.bl true) s) : Wp E (callN cfg.ds cfg.q0 (k+1) "_law_same" [a, a] s) P := by
  refine Wp.up ((s_same (n := 1000) (Nat.le_refl _) k a a s hd ha ha).imp ?_)
  rintro d s' ⟨rfl, rfl⟩
  rw [same_rfl]; exact h
theorem shr_ws {ws : List Str} : (D.tup (ws.map .str)).shr = true := rfl
theorem comes_join {k : Nat} {xs ys : List D} (hx : xs.length ≤ 1000) (hy : ys.length ≤ 1000) : Comes (k+3) (.tup [.str "join", .tup [.str "words", .tup xs], .tup [.str "words", .tup ys]])
    fun a b => (xs.length + ys.length ≤ 40 ∧ a = .str "made" ∧ b = .tup (xs ++ ys)) ∨ (¬ xs.length + ys.length ≤ 40 ∧ a = .str "failed" ∧ b = .tup [.str "long"]) := by
  intro r n s hT
  refine ((s_worthJ hT hx hy).impE ?_).imp ?_
  · rintro C fs s' ⟨rfl, rfl, rfl, h⟩
    exact ⟨rfl, rfl, _, rfl, rfl, .inr ⟨h, rfl, rfl⟩⟩
  · rintro d s' ⟨rfl, rfl, h⟩
    exact ⟨rfl, rfl, .inl ⟨h, rfl, rfl⟩⟩
/-- what the words make of a content -/
def madeBy (w : Str) (ws : List Str) : D :=
  if w = "once" then .tup ((firsts ws).map .str) else if w = "turned" then .tup (ws.map .str).reverse else if w = "count" then .tup [numS ws.length] else if w = "sorted" then .tup ((srt ws).map .str) else
  if w = "first" then .tup (cutD (ws.map .str) none (some 1)) else .tup (cutD (ws.map .str) (some 1) none)
def L6 : List Str := ["once", "turned", "count", "sorted", "first", "rest"]
theorem comes_word {k : Nat} {w : Str} {ws : List Str} (hl : ws.length ≤ 1000) (hw : w ∈ L6) : Comes (k+3) (.tup [.str w, .tup [.str "words", .tup (ws.map .str)]]) fun a b => a = .str "made" ∧ b = madeBy w ws := by
  intro r n s hT
  have h7 : w ∈ L7 := by
    unfold L6 at hw
    simp only [List.mem_cons, List.not_mem_nil, or_false] at hw
    rcases hw with rfl | rfl | rfl | rfl | rfl | rfl <;> decide +kernel
  refine s_worth1 hT h7 rfl rfl ?_
  unfold L6 at hw
  simp only [List.mem_cons, List.not_mem_nil, or_false] at hw
  rcases hw with rfl | rfl | rfl | rfl | rfl | rfl
  · refine s_callx rfl (.inl ⟨rfl, rfl⟩) (Wp.up ((s_once hl).imp ?_))
    rintro d s' ⟨rfl, rfl⟩
    exact ⟨rfl, rfl, rfl, by kernel_rfl⟩
  · refine s_callx rfl (.inr (.inl ⟨rfl, rfl⟩)) (.of s_turned ?_)
    exact ⟨rfl, rfl, rfl, by kernel_rfl⟩
  · refine s_callx rfl (.inr (.inr ⟨rfl, rfl⟩)) (Wp.up ((s_counted (by simpa using hl)).imp ?_))
    rintro d s' ⟨rfl, rfl⟩
    refine ⟨rfl, rfl, rfl, ?_⟩
    rw [List.length_map]
    kernel_rfl
  · refine Wp.up (s_sorted.imp ?_)
    rintro d s' ⟨rfl, rfl⟩
    exact ⟨rfl, rfl, rfl, by kernel_rfl⟩
  · exact .of s_first ⟨rfl, rfl, rfl, by kernel_rfl⟩
  · exact .of s_rest ⟨rfl, rfl, rfl, by kernel_rfl⟩
theorem comes_fail {k : Nat} {xs : List D} : Comes (k+3) (.tup [.str "fail", .tup [.str "words", .tup xs]]) fun a b => a = .str "failed" ∧ b = .tup [.str "fail", .tup xs] := by
  intro r n s hT
  refine s_worth1 hT (by decide +kernel) rfl rfl (.ofx (s_fail (x := .non)) ?_)
  exact ⟨rfl, rfl, _, rfl, rfl, rfl, rfl⟩
/-- a test that does not hold, the store grows -/
theorem ws_skipT {q : Rq} {ρ : En} {s : S} {Q : Kt} {t : IT} {a r : List IS} (h : Wp E0 (runT q t ρ s) fun k s' => k = false ∧ ∃ u, s' = s ++ u) (k : ∀ u, Ws (runSs q r ρ (s ++ u)) Q) : Ws (runSs q (.ife t a [] :: r) ρ s) Q := by
  rw [ws_cons]
  refine ws_ife (h.up.imp ?_)
  rintro k' s' ⟨rfl, u, rfl⟩
  rw [if_neg Bool.false_ne_true, ws_nil]
  exact k u
theorem no_u {s : S} : ∃ u, s = s ++ u := ⟨[], (List.append_nil s).symm⟩
end DI.L

set_option Elab.async false
set_option linter.all false
set_option maxRecDepth 100000
set_option maxHeartbeats 4000000
/-! the plain law of k00, G: a turn of the law, statement by statement. -/
namespace DI.L
open PySem L2
theorem wp_to {r : R D} {x : D} {s : S} {E : Xt} {P : D → S → Prop} (h : Wp E0 r fun d s' => d = x ∧ s' = s) (p : P x s) : Wp E r P :=
  Wp.up (h.imp fun d s' z => by obtain ⟨rfl, rfl⟩ := z; exact p)
theorem wc_isn {E : Xt} {a b : Bool} {s : S} {PB : Bool → S → Prop} : Wp E (cmpD .isn (.bl a) (.bl b) s) PB = PB (!decide (a = b)) s := by with_unfolding_all rfl
section
variable {k : Nat} {s : S} {Q : Kt} {one two : List Str} {a0 a1 a2 a3 a4 a5 a6 a7 a8 a9 a10 a11 a12 a13 a14 a15 : Option D}
theorem b0 (hD : Dr s 1) (h : ∀ (one two : List Str) s', one.length ≤ 40 → two.length ≤ 20 → (∀ x ∈ one, x ∈ W8) → (∀ x ∈ two, x ∈ W8) → Dr s' 1 → Q.nx [a0, some (.tup (one.map .str)), a2, a3, a4, a5, a6, a7, a8, a9, a10, a11, a12, a13, some (.tup (two.map .str)), a15, some (.ref 1)] s') : Ws (runS (cfg.q (k+9)) (.asg (.tup [(.nm 1), (.nm 14)]) (.tup [(.call ("_law_words" : Str) [(.var 16), (.call ("_law_pick" : Str) [(.var 16), (.lst [(.con (.int 0)), (.con (.int 1)), (.con (.int 3)), (.con (.int 20)), (.con (.int 39)), (.con (.int 40))])])]), (.call ("_law_words" : Str) [(.var 16), (.call ("_law_pick" : Str) [(.var 16), (.lst [(.con (.int 0)), (.con (.int 1)), (.con (.int 2)), (.con (.int 20))])])])])) [a0, a1, a2, a3, a4, a5, a6, a7, a8, a9, a10, a11, a12, a13, a14, a15, some (.ref 1)] s) Q := by
  refine ws_asg ?_
  simp only [we_con, we_varm, we_glom, we_bin, we_neg, we_cmp, we_chain, we_and, we_or, we_not, we_ife, we_tup, we_lst, we_ix, we_sl, we_rev, we_call, we_blt, we_isi, we_app, we_lc, wa_nil, wa_cons, wr_nil, wr_cons, wo_none, wo_some, wto_none, wto_some, wt_and, wt_or, wt_not, wt_cmp, wt_chain, wt_tru, wi_seq, wi_range, wi_enum, wg_nm, wg_tup, wg_nil, wg_cons, wg_sub, wp_ok, wp_bad, wp_nox, wb_add, wb_sub, wb_mul, wb_fdiv, wb_mod, wb_pow, wc_eq, wc_ne, wc_lt, wc_le, wc_gt, wc_ge, wc_eqb, wc_neb, wc_eqs, wc_nes, wx_int, wx_lent, wx_lenl, wx_lenr, wz_int, wz_str, wz_bl, wz_non, wz_tup, wz_rol, wz_ref, wz_lst, List.getElem?_cons_zero, List.getElem?_cons_succ, List.set_cons_zero, List.set_cons_succ, List.length_cons, List.length_nil, wi_tup, wi_lst, wi_rol, wx_tuplel, wx_tuplet, wx_listt, wto_some, hdq, hqc, ite_f, ite_tt, decide_eq_true_eq, Bool.not_eq_true', wisT, ex_bl, ex_int, ite_tf, ite_ff, wix0, wix1, wix2, Nat.reduceAdd, Nat.reduceLT, sl0, sl1, sl2, sl3, sl4, sl5, sl6, sl10, if_true, true_and, and_true, List.map_cons, List.map_nil, wip, wt_turn, it_non_int, it_non_bool, it_non_str, it_non_tuple, it_non_list, it_non_dict, it_bl_int, it_bl_bool, it_bl_str, it_bl_tuple, it_bl_list, it_bl_dict, it_int_int, it_int_bool, it_int_str, it_int_tuple, it_int_list, it_int_dict, it_str_int, it_str_bool, it_str_str, it_str_tuple, it_str_list, it_str_dict, it_tup_int, it_tup_bool, it_tup_str, it_tup_tuple, it_tup_list, it_tup_dict, it_lst_int, it_lst_bool, it_lst_str, it_lst_tuple, it_lst_list, it_lst_dict, it_rol_int, it_rol_bool, it_rol_str, it_rol_tuple, it_rol_list, it_rol_dict, we_revt, we_fnv, wz_dic, wz_fn, we_dct0]
  refine s_pick hD.app lk_new1 (Nat.ne_of_gt hD.lt) (by simp) (by simp) fun d s1 hd hD1 _ => ?_
  obtain ⟨n, hn, rfl⟩ : ∃ n : Nat, n ≤ 40 ∧ d = .int (n : Int) := by
    simp only [List.mem_cons, List.not_mem_nil, or_false] at hd
    rcases hd with rfl | rfl | rfl | rfl | rfl | rfl
    · exact ⟨0, by decide, rfl⟩
    · exact ⟨1, by decide, rfl⟩
    · exact ⟨3, by decide, rfl⟩
    · exact ⟨20, by decide, rfl⟩
    · exact ⟨39, by decide, rfl⟩
    · exact ⟨40, by decide, rfl⟩
  simp only [we_con, we_varm, we_glom, we_bin, we_neg, we_cmp, we_chain, we_and, we_or, we_not, we_ife, we_tup, we_lst, we_ix, we_sl, we_rev, we_call, we_blt, we_isi, we_app, we_lc, wa_nil, wa_cons, wr_nil, wr_cons, wo_none, wo_some, wto_none, wto_some, wt_and, wt_or, wt_not, wt_cmp, wt_chain, wt_tru, wi_seq, wi_range, wi_enum, wg_nm, wg_tup, wg_nil, wg_cons, wg_sub, wp_ok, wp_bad, wp_nox, wb_add, wb_sub, wb_mul, wb_fdiv, wb_mod, wb_pow, wc_eq, wc_ne, wc_lt, wc_le, wc_gt, wc_ge, wc_eqb, wc_neb, wc_eqs, wc_nes, wx_int, wx_lent, wx_lenl, wx_lenr, wz_int, wz_str, wz_bl, wz_non, wz_tup, wz_rol, wz_ref, wz_lst, List.getElem?_cons_zero, List.getElem?_cons_succ, List.set_cons_zero, List.set_cons_succ, List.length_cons, List.length_nil, wi_tup, wi_lst, wi_rol, wx_tuplel, wx_tuplet, wx_listt, wto_some, hdq, hqc, ite_f, ite_tt, decide_eq_true_eq, Bool.not_eq_true', wisT, ex_bl, ex_int, ite_tf, ite_ff, wix0, wix1, wix2, Nat.reduceAdd, Nat.reduceLT, sl0, sl1, sl2, sl3, sl4, sl5, sl6, sl10, if_true, true_and, and_true, List.map_cons, List.map_nil, wip, wt_turn, it_non_int, it_non_bool, it_non_str, it_non_tuple, it_non_list, it_non_dict, it_bl_int, it_bl_bool, it_bl_str, it_bl_tuple, it_bl_list, it_bl_dict, it_int_int, it_int_bool, it_int_str, it_int_tuple, it_int_list, it_int_dict, it_str_int, it_str_bool, it_str_str, it_str_tuple, it_str_list, it_str_dict, it_tup_int, it_tup_bool, it_tup_str, it_tup_tuple, it_tup_list, it_tup_dict, it_lst_int, it_lst_bool, it_lst_str, it_lst_tuple, it_lst_list, it_lst_dict, it_rol_int, it_rol_bool, it_rol_str, it_rol_tuple, it_rol_list, it_rol_dict, we_revt, we_fnv, wz_dic, wz_fn, we_dct0]
  refine s_words hD1 (by omega) fun one s2 hl1 hw1 hD2 => ?_
  simp only [we_con, we_varm, we_glom, we_bin, we_neg, we_cmp, we_chain, we_and, we_or, we_not, we_ife, we_tup, we_lst, we_ix, we_sl, we_rev, we_call, we_blt, we_isi, we_app, we_lc, wa_nil, wa_cons, wr_nil, wr_cons, wo_none, wo_some, wto_none, wto_some, wt_and, wt_or, wt_not, wt_cmp, wt_chain, wt_tru, wi_seq, wi_range, wi_enum, wg_nm, wg_tup, wg_nil, wg_cons, wg_sub, wp_ok, wp_bad, wp_nox, wb_add, wb_sub, wb_mul, wb_fdiv, wb_mod, wb_pow, wc_eq, wc_ne, wc_lt, wc_le, wc_gt, wc_ge, wc_eqb, wc_neb, wc_eqs, wc_nes, wx_int, wx_lent, wx_lenl, wx_lenr, wz_int, wz_str, wz_bl, wz_non, wz_tup, wz_rol, wz_ref, wz_lst, List.getElem?_cons_zero, List.getElem?_cons_succ, List.set_cons_zero, List.set_cons_succ, List.length_cons, List.length_nil, wi_tup, wi_lst, wi_rol, wx_tuplel, wx_tuplet, wx_listt, wto_some, hdq, hqc, ite_f, ite_tt, decide_eq_true_eq, Bool.not_eq_true', wisT, ex_bl, ex_int, ite_tf, ite_ff, wix0, wix1, wix2, Nat.reduceAdd, Nat.reduceLT, sl0, sl1, sl2, sl3, sl4, sl5, sl6, sl10, if_true, true_and, and_true, List.map_cons, List.map_nil, wip, wt_turn, it_non_int, it_non_bool, it_non_str, it_non_tuple, it_non_list, it_non_dict, it_bl_int, it_bl_bool, it_bl_str, it_bl_tuple, it_bl_list, it_bl_dict, it_int_int, it_int_bool, it_int_str, it_int_tuple, it_int_list, it_int_dict, it_str_int, it_str_bool, it_str_str, it_str_tuple, it_str_list, it_str_dict, it_tup_int, it_tup_bool, it_tup_str, it_tup_tuple, it_tup_list, it_tup_dict, it_lst_int, it_lst_bool, it_lst_str, it_lst_tuple, it_lst_list, it_lst_dict, it_rol_int, it_rol_bool, it_rol_str, it_rol_tuple, it_rol_list, it_rol_dict, we_revt, we_fnv, wz_dic, wz_fn, we_dct0]
  refine s_pick hD2.app lk_new1 (Nat.ne_of_gt hD2.lt) (by simp) (by simp) fun d s3 hd hD3 _ => ?_
  obtain ⟨m, hm, rfl⟩ : ∃ n : Nat, n ≤ 20 ∧ d = .int (n : Int) := by
    simp only [List.mem_cons, List.not_mem_nil, or_false] at hd
    rcases hd with rfl | rfl | rfl | rfl
    · exact ⟨0, by decide, rfl⟩
    · exact ⟨1, by decide, rfl⟩
    · exact ⟨2, by decide, rfl⟩
    · exact ⟨20, by decide, rfl⟩
  simp only [we_con, we_varm, we_glom, we_bin, we_neg, we_cmp, we_chain, we_and, we_or, we_not, we_ife, we_tup, we_lst, we_ix, we_sl, we_rev, we_call, we_blt, we_isi, we_app, we_lc, wa_nil, wa_cons, wr_nil, wr_cons, wo_none, wo_some, wto_none, wto_some, wt_and, wt_or, wt_not, wt_cmp, wt_chain, wt_tru, wi_seq, wi_range, wi_enum, wg_nm, wg_tup, wg_nil, wg_cons, wg_sub, wp_ok, wp_bad, wp_nox, wb_add, wb_sub, wb_mul, wb_fdiv, wb_mod, wb_pow, wc_eq, wc_ne, wc_lt, wc_le, wc_gt, wc_ge, wc_eqb, wc_neb, wc_eqs, wc_nes, wx_int, wx_lent, wx_lenl, wx_lenr, wz_int, wz_str, wz_bl, wz_non, wz_tup, wz_rol, wz_ref, wz_lst, List.getElem?_cons_zero, List.getElem?_cons_succ, List.set_cons_zero, List.set_cons_succ, List.length_cons, List.length_nil, wi_tup, wi_lst, wi_rol, wx_tuplel, wx_tuplet, wx_listt, wto_some, hdq, hqc, ite_f, ite_tt, decide_eq_true_eq, Bool.not_eq_true', wisT, ex_bl, ex_int, ite_tf, ite_ff, wix0, wix1, wix2, Nat.reduceAdd, Nat.reduceLT, sl0, sl1, sl2, sl3, sl4, sl5, sl6, sl10, if_true, true_and, and_true, List.map_cons, List.map_nil, wip, wt_turn, it_non_int, it_non_bool, it_non_str, it_non_tuple, it_non_list, it_non_dict, it_bl_int, it_bl_bool, it_bl_str, it_bl_tuple, it_bl_list, it_bl_dict, it_int_int, it_int_bool, it_int_str, it_int_tuple, it_int_list, it_int_dict, it_str_int, it_str_bool, it_str_str, it_str_tuple, it_str_list, it_str_dict, it_tup_int, it_tup_bool, it_tup_str, it_tup_tuple, it_tup_list, it_tup_dict, it_lst_int, it_lst_bool, it_lst_str, it_lst_tuple, it_lst_list, it_lst_dict, it_rol_int, it_rol_bool, it_rol_str, it_rol_tuple, it_rol_list, it_rol_dict, we_revt, we_fnv, wz_dic, wz_fn, we_dct0]
  refine s_words hD3 (by omega) fun two s4 hl2 hw2 hD4 => ?_
  simp only [we_con, we_varm, we_glom, we_bin, we_neg, we_cmp, we_chain, we_and, we_or, we_not, we_ife, we_tup, we_lst, we_ix, we_sl, we_rev, we_call, we_blt, we_isi, we_app, we_lc, wa_nil, wa_cons, wr_nil, wr_cons, wo_none, wo_some, wto_none, wto_some, wt_and, wt_or, wt_not, wt_cmp, wt_chain, wt_tru, wi_seq, wi_range, wi_enum, wg_nm, wg_tup, wg_nil, wg_cons, wg_sub, wp_ok, wp_bad, wp_nox, wb_add, wb_sub, wb_mul, wb_fdiv, wb_mod, wb_pow, wc_eq, wc_ne, wc_lt, wc_le, wc_gt, wc_ge, wc_eqb, wc_neb, wc_eqs, wc_nes, wx_int, wx_lent, wx_lenl, wx_lenr, wz_int, wz_str, wz_bl, wz_non, wz_tup, wz_rol, wz_ref, wz_lst, List.getElem?_cons_zero, List.getElem?_cons_succ, List.set_cons_zero, List.set_cons_succ, List.length_cons, List.length_nil, wi_tup, wi_lst, wi_rol, wx_tuplel, wx_tuplet, wx_listt, wto_some, hdq, hqc, ite_f, ite_tt, decide_eq_true_eq, Bool.not_eq_true', wisT, ex_bl, ex_int, ite_tf, ite_ff, wix0, wix1, wix2, Nat.reduceAdd, Nat.reduceLT, sl0, sl1, sl2, sl3, sl4, sl5, sl6, sl10, if_true, true_and, and_true, List.map_cons, List.map_nil, wip, wt_turn, it_non_int, it_non_bool, it_non_str, it_non_tuple, it_non_list, it_non_dict, it_bl_int, it_bl_bool, it_bl_str, it_bl_tuple, it_bl_list, it_bl_dict, it_int_int, it_int_bool, it_int_str, it_int_tuple, it_int_list, it_int_dict, it_str_int, it_str_bool, it_str_str, it_str_tuple, it_str_list, it_str_dict, it_tup_int, it_tup_bool, it_tup_str, it_tup_tuple, it_tup_list, it_tup_dict, it_lst_int, it_lst_bool, it_lst_str, it_lst_tuple, it_lst_list, it_lst_dict, it_rol_int, it_rol_bool, it_rol_str, it_rol_tuple, it_rol_list, it_rol_dict, we_revt, we_fnv, wz_dic, wz_fn, we_dct0]
  exact h one two s4 (by omega) (by omega) hw1 hw2 hD4
theorem b1 (h1 : one.length ≤ 40) (h2 : two.length ≤ 20) (h : Q.nx [a0, some (.tup (one.map .str)), a2, a3, a4, a5, a6, a7, a8, a9, a10, a11, a12, some (.tup ((one ++ two).map .str)), some (.tup (two.map .str)), a15, some (.ref 1)] s) : Ws (runS (cfg.q (k+9)) (.asg (.nm 13) (.bin .add (.var 1) (.var 14))) [a0, some (.tup (one.map .str)), a2, a3, a4, a5, a6, a7, a8, a9, a10, a11, a12, a13, some (.tup (two.map .str)), a15, some (.ref 1)] s) Q := by
  refine ws_asg ?_
  simp only [we_con, we_varm, we_glom, we_bin, we_neg, we_cmp, we_chain, we_and, we_or, we_not, we_ife, we_tup, we_lst, we_ix, we_sl, we_rev, we_call, we_blt, we_isi, we_app, we_lc, wa_nil, wa_cons, wr_nil, wr_cons, wo_none, wo_some, wto_none, wto_some, wt_and, wt_or, wt_not, wt_cmp, wt_chain, wt_tru, wi_seq, wi_range, wi_enum, wg_nm, wg_tup, wg_nil, wg_cons, wg_sub, wp_ok, wp_bad, wp_nox, wb_add, wb_sub, wb_mul, wb_fdiv, wb_mod, wb_pow, wc_eq, wc_ne, wc_lt, wc_le, wc_gt, wc_ge, wc_eqb, wc_neb, wc_eqs, wc_nes, wx_int, wx_lent, wx_lenl, wx_lenr, wz_int, wz_str, wz_bl, wz_non, wz_tup, wz_rol, wz_ref, wz_lst, List.getElem?_cons_zero, List.getElem?_cons_succ, List.set_cons_zero, List.set_cons_succ, List.length_cons, List.length_nil, wi_tup, wi_lst, wi_rol, wx_tuplel, wx_tuplet, wx_listt, wto_some, hdq, hqc, ite_f, ite_tt, decide_eq_true_eq, Bool.not_eq_true', wisT, ex_bl, ex_int, ite_tf, ite_ff, wix0, wix1, wix2, Nat.reduceAdd, Nat.reduceLT, sl0, sl1, sl2, sl3, sl4, sl5, sl6, sl10, if_true, true_and, and_true, List.map_cons, List.map_nil, wip, wt_turn, it_non_int, it_non_bool, it_non_str, it_non_tuple, it_non_list, it_non_dict, it_bl_int, it_bl_bool, it_bl_str, it_bl_tuple, it_bl_list, it_bl_dict, it_int_int, it_int_bool, it_int_str, it_int_tuple, it_int_list, it_int_dict, it_str_int, it_str_bool, it_str_str, it_str_tuple, it_str_list, it_str_dict, it_tup_int, it_tup_bool, it_tup_str, it_tup_tuple, it_tup_list, it_tup_dict, it_lst_int, it_lst_bool, it_lst_str, it_lst_tuple, it_lst_list, it_lst_dict, it_rol_int, it_rol_bool, it_rol_str, it_rol_tuple, it_rol_list, it_rol_dict, we_revt, we_fnv, wz_dic, wz_fn, we_dct0]
  rw [wb_tadd (leL (by simp; omega)), ← List.map_append]
  simp only [we_con, we_varm, we_glom, we_bin, we_neg, we_cmp, we_chain, we_and, we_or, we_not, we_ife, we_tup, we_lst, we_ix, we_sl, we_rev, we_call, we_blt, we_isi, we_app, we_lc, wa_nil, wa_cons, wr_nil, wr_cons, wo_none, wo_some, wto_none, wto_some, wt_and, wt_or, wt_not, wt_cmp, wt_chain, wt_tru, wi_seq, wi_range, wi_enum, wg_nm, wg_tup, wg_nil, wg_cons, wg_sub, wp_ok, wp_bad, wp_nox, wb_add, wb_sub, wb_mul, wb_fdiv, wb_mod, wb_pow, wc_eq, wc_ne, wc_lt, wc_le, wc_gt, wc_ge, wc_eqb, wc_neb, wc_eqs, wc_nes, wx_int, wx_lent, wx_lenl, wx_lenr, wz_int, wz_str, wz_bl, wz_non, wz_tup, wz_rol, wz_ref, wz_lst, List.getElem?_cons_zero, List.getElem?_cons_succ, List.set_cons_zero, List.set_cons_succ, List.length_cons, List.length_nil, wi_tup, wi_lst, wi_rol, wx_tuplel, wx_tuplet, wx_listt, wto_some, hdq, hqc, ite_f, ite_tt, decide_eq_true_eq, Bool.not_eq_true', wisT, ex_bl, ex_int, ite_tf, ite_ff, wix0, wix1, wix2, Nat.reduceAdd, Nat.reduceLT, sl0, sl1, sl2, sl3, sl4, sl5, sl6, sl10, if_true, true_and, and_true, List.map_cons, List.map_nil, wip, wt_turn, it_non_int, it_non_bool, it_non_str, it_non_tuple, it_non_list, it_non_dict, it_bl_int, it_bl_bool, it_bl_str, it_bl_tuple, it_bl_list, it_bl_dict, it_int_int, it_int_bool, it_int_str, it_int_tuple, it_int_list, it_int_dict, it_str_int, it_str_bool, it_str_str, it_str_tuple, it_str_list, it_str_dict, it_tup_int, it_tup_bool, it_tup_str, it_tup_tuple, it_tup_list, it_tup_dict, it_lst_int, it_lst_bool, it_lst_str, it_lst_tuple, it_lst_list, it_lst_dict, it_rol_int, it_rol_bool, it_rol_str, it_rol_tuple, it_rol_list, it_rol_dict, we_revt, we_fnv, wz_dic, wz_fn, we_dct0]
  exact h
theorem b2 (h1 : one.length ≤ 40) (h2 : two.length ≤ 20) (w1 : ∀ x ∈ one, x ∈ W8) (h : Q.nx [a0, some (.tup (one.map .str)), a2, a3, a4, a5, a6, a7, a8, a9, a10, a11, a12, some (.tup ((one ++ two).map .str)), some (.tup (two.map .str)), a15, some (.ref 1)] s) : Ws (runS (cfg.q (k+9)) (.ife (.or (.not (.tru (.call ("_law_same" : Str) [(.call ("joined" : Str) [(.var 1), (.var 14)]), (.ife (.cmp .le (.blt .len [(.var 13)]) (.con (.int 40))) (.var 13) (.con .non))]))) (.cmp .isn (.call ("is_content" : Str) [(.var 1)]) (.con (.bl true)))) [(.ret (some (.con (.bl false))))] []) [a0, some (.tup (one.map .str)), a2, a3, a4, a5, a6, a7, a8, a9, a10, a11, a12, some (.tup ((one ++ two).map .str)), some (.tup (two.map .str)), a15, some (.ref 1)] s) Q := by
  refine ws_if0 ?_ ?_
  rotate_left
  · rw [ws_nil]; exact h
  simp only [we_con, we_varm, we_glom, we_bin, we_neg, we_cmp, we_chain, we_and, we_or, we_not, we_ife, we_tup, we_lst, we_ix, we_sl, we_rev, we_call, we_blt, we_isi, we_app, we_lc, wa_nil, wa_cons, wr_nil, wr_cons, wo_none, wo_some, wto_none, wto_some, wt_and, wt_or, wt_not, wt_cmp, wt_chain, wt_tru, wi_seq, wi_range, wi_enum, wg_nm, wg_tup, wg_nil, wg_cons, wg_sub, wp_ok, wp_bad, wp_nox, wb_add, wb_sub, wb_mul, wb_fdiv, wb_mod, wb_pow, wc_eq, wc_ne, wc_lt, wc_le, wc_gt, wc_ge, wc_eqb, wc_neb, wc_eqs, wc_nes, wx_int, wx_lent, wx_lenl, wx_lenr, wz_int, wz_str, wz_bl, wz_non, wz_tup, wz_rol, wz_ref, wz_lst, List.getElem?_cons_zero, List.getElem?_cons_succ, List.set_cons_zero, List.set_cons_succ, List.length_cons, List.length_nil, wi_tup, wi_lst, wi_rol, wx_tuplel, wx_tuplet, wx_listt, wto_some, hdq, hqc, ite_f, ite_tt, decide_eq_true_eq, Bool.not_eq_true', wisT, ex_bl, ex_int, ite_tf, ite_ff, wix0, wix1, wix2, Nat.reduceAdd, Nat.reduceLT, sl0, sl1, sl2, sl3, sl4, sl5, sl6, sl10, if_true, true_and, and_true, List.map_cons, List.map_nil, wip, wt_turn, it_non_int, it_non_bool, it_non_str, it_non_tuple, it_non_list, it_non_dict, it_bl_int, it_bl_bool, it_bl_str, it_bl_tuple, it_bl_list, it_bl_dict, it_int_int, it_int_bool, it_int_str, it_int_tuple, it_int_list, it_int_dict, it_str_int, it_str_bool, it_str_str, it_str_tuple, it_str_list, it_str_dict, it_tup_int, it_tup_bool, it_tup_str, it_tup_tuple, it_tup_list, it_tup_dict, it_lst_int, it_lst_bool, it_lst_str, it_lst_tuple, it_lst_list, it_lst_dict, it_rol_int, it_rol_bool, it_rol_str, it_rol_tuple, it_rol_list, it_rol_dict, we_revt, we_fnv, wz_dic, wz_fn, we_dct0]
  refine wp_to (s_joined (by simp; omega) (by simp; omega)) ?_
  have last : Wp E0 (callN cfg.ds cfg.q0 (k+9) "is_content" [.tup (one.map .str)] s) fun d s' => Wp E0 (cmpD .isn d (.bl true) s') fun b s' => b = false ∧ s' = s := by
    refine wp_to (s_content (by omega) w1) ?_
    rw [wc_isn, decide_eq_true h1]
    exact ⟨rfl, rfl⟩
  by_cases h40 : one.length + two.length ≤ 40
  · rw [if_pos (by simpa using h40), ← List.map_append]
    simp only [we_con, we_varm, we_glom, we_bin, we_neg, we_cmp, we_chain, we_and, we_or, we_not, we_ife, we_tup, we_lst, we_ix, we_sl, we_rev, we_call, we_blt, we_isi, we_app, we_lc, wa_nil, wa_cons, wr_nil, wr_cons, wo_none, wo_some, wto_none, wto_some, wt_and, wt_or, wt_not, wt_cmp, wt_chain, wt_tru, wi_seq, wi_range, wi_enum, wg_nm, wg_tup, wg_nil, wg_cons, wg_sub, wp_ok, wp_bad, wp_nox, wb_add, wb_sub, wb_mul, wb_fdiv, wb_mod, wb_pow, wc_eq, wc_ne, wc_lt, wc_le, wc_gt, wc_ge, wc_eqb, wc_neb, wc_eqs, wc_nes, wx_int, wx_lent, wx_lenl, wx_lenr, wz_int, wz_str, wz_bl, wz_non, wz_tup, wz_rol, wz_ref, wz_lst, List.getElem?_cons_zero, List.getElem?_cons_succ, List.set_cons_zero, List.set_cons_succ, List.length_cons, List.length_nil, wi_tup, wi_lst, wi_rol, wx_tuplel, wx_tuplet, wx_listt, wto_some, hdq, hqc, ite_f, ite_tt, decide_eq_true_eq, Bool.not_eq_true', wisT, ex_bl, ex_int, ite_tf, ite_ff, wix0, wix1, wix2, Nat.reduceAdd, Nat.reduceLT, sl0, sl1, sl2, sl3, sl4, sl5, sl6, sl10, if_true, true_and, and_true, List.map_cons, List.map_nil, wip, wt_turn, it_non_int, it_non_bool, it_non_str, it_non_tuple, it_non_list, it_non_dict, it_bl_int, it_bl_bool, it_bl_str, it_bl_tuple, it_bl_list, it_bl_dict, it_int_int, it_int_bool, it_int_str, it_int_tuple, it_int_list, it_int_dict, it_str_int, it_str_bool, it_str_str, it_str_tuple, it_str_list, it_str_dict, it_tup_int, it_tup_bool, it_tup_str, it_tup_tuple, it_tup_list, it_tup_dict, it_lst_int, it_lst_bool, it_lst_str, it_lst_tuple, it_lst_list, it_lst_dict, it_rol_int, it_rol_bool, it_rol_str, it_rol_tuple, it_rol_list, it_rol_dict, we_revt, we_fnv, wz_dic, wz_fn, we_dct0]
    rw [if_pos (by simp; omega)]
    refine same_ok (pl_ws (by simp; omega)) (Nat.le_trans dep_ws (by omega)) ?_
    simp only [we_con, we_varm, we_glom, we_bin, we_neg, we_cmp, we_chain, we_and, we_or, we_not, we_ife, we_tup, we_lst, we_ix, we_sl, we_rev, we_call, we_blt, we_isi, we_app, we_lc, wa_nil, wa_cons, wr_nil, wr_cons, wo_none, wo_some, wto_none, wto_some, wt_and, wt_or, wt_not, wt_cmp, wt_chain, wt_tru, wi_seq, wi_range, wi_enum, wg_nm, wg_tup, wg_nil, wg_cons, wg_sub, wp_ok, wp_bad, wp_nox, wb_add, wb_sub, wb_mul, wb_fdiv, wb_mod, wb_pow, wc_eq, wc_ne, wc_lt, wc_le, wc_gt, wc_ge, wc_eqb, wc_neb, wc_eqs, wc_nes, wx_int, wx_lent, wx_lenl, wx_lenr, wz_int, wz_str, wz_bl, wz_non, wz_tup, wz_rol, wz_ref, wz_lst, List.getElem?_cons_zero, List.getElem?_cons_succ, List.set_cons_zero, List.set_cons_succ, List.length_cons, List.length_nil, wi_tup, wi_lst, wi_rol, wx_tuplel, wx_tuplet, wx_listt, wto_some, hdq, hqc, ite_f, ite_tt, decide_eq_true_eq, Bool.not_eq_true', wisT, ex_bl, ex_int, ite_tf, ite_ff, wix0, wix1, wix2, Nat.reduceAdd, Nat.reduceLT, sl0, sl1, sl2, sl3, sl4, sl5, sl6, sl10, if_true, true_and, and_true, List.map_cons, List.map_nil, wip, wt_turn, it_non_int, it_non_bool, it_non_str, it_non_tuple, it_non_list, it_non_dict, it_bl_int, it_bl_bool, it_bl_str, it_bl_tuple, it_bl_list, it_bl_dict, it_int_int, it_int_bool, it_int_str, it_int_tuple, it_int_list, it_int_dict, it_str_int, it_str_bool, it_str_str, it_str_tuple, it_str_list, it_str_dict, it_tup_int, it_tup_bool, it_tup_str, it_tup_tuple, it_tup_list, it_tup_dict, it_lst_int, it_lst_bool, it_lst_str, it_lst_tuple, it_lst_list, it_lst_dict, it_rol_int, it_rol_bool, it_rol_str, it_rol_tuple, it_rol_list, it_rol_dict, we_revt, we_fnv, wz_dic, wz_fn, we_dct0]
    exact last
  · rw [if_neg (by simpa using h40)]
    simp only [we_con, we_varm, we_glom, we_bin, we_neg, we_cmp, we_chain, we_and, we_or, we_not, we_ife, we_tup, we_lst, we_ix, we_sl, we_rev, we_call, we_blt, we_isi, we_app, we_lc, wa_nil, wa_cons, wr_nil, wr_cons, wo_none, wo_some, wto_none, wto_some, wt_and, wt_or, wt_not, wt_cmp, wt_chain, wt_tru, wi_seq, wi_range, wi_enum, wg_nm, wg_tup, wg_nil, wg_cons, wg_sub, wp_ok, wp_bad, wp_nox, wb_add, wb_sub, wb_mul, wb_fdiv, wb_mod, wb_pow, wc_eq, wc_ne, wc_lt, wc_le, wc_gt, wc_ge, wc_eqb, wc_neb, wc_eqs, wc_nes, wx_int, wx_lent, wx_lenl, wx_lenr, wz_int, wz_str, wz_bl, wz_non, wz_tup, wz_rol, wz_ref, wz_lst, List.getElem?_cons_zero, List.getElem?_cons_succ, List.set_cons_zero, List.set_cons_succ, List.length_cons, List.length_nil, wi_tup, wi_lst, wi_rol, wx_tuplel, wx_tuplet, wx_listt, wto_some, hdq, hqc, ite_f, ite_tt, decide_eq_true_eq, Bool.not_eq_true', wisT, ex_bl, ex_int, ite_tf, ite_ff, wix0, wix1, wix2, Nat.reduceAdd, Nat.reduceLT, sl0, sl1, sl2, sl3, sl4, sl5, sl6, sl10, if_true, true_and, and_true, List.map_cons, List.map_nil, wip, wt_turn, it_non_int, it_non_bool, it_non_str, it_non_tuple, it_non_list, it_non_dict, it_bl_int, it_bl_bool, it_bl_str, it_bl_tuple, it_bl_list, it_bl_dict, it_int_int, it_int_bool, it_int_str, it_int_tuple, it_int_list, it_int_dict, it_str_int, it_str_bool, it_str_str, it_str_tuple, it_str_list, it_str_dict, it_tup_int, it_tup_bool, it_tup_str, it_tup_tuple, it_tup_list, it_tup_dict, it_lst_int, it_lst_bool, it_lst_str, it_lst_tuple, it_lst_list, it_lst_dict, it_rol_int, it_rol_bool, it_rol_str, it_rol_tuple, it_rol_list, it_rol_dict, we_revt, we_fnv, wz_dic, wz_fn, we_dct0]
    rw [if_neg (by simp; omega)]
    refine same_ok rfl (Nat.zero_le _) ?_
    simp only [we_con, we_varm, we_glom, we_bin, we_neg, we_cmp, we_chain, we_and, we_or, we_not, we_ife, we_tup, we_lst, we_ix, we_sl, we_rev, we_call, we_blt, we_isi, we_app, we_lc, wa_nil, wa_cons, wr_nil, wr_cons, wo_none, wo_some, wto_none, wto_some, wt_and, wt_or, wt_not, wt_cmp, wt_chain, wt_tru, wi_seq, wi_range, wi_enum, wg_nm, wg_tup, wg_nil, wg_cons, wg_sub, wp_ok, wp_bad, wp_nox, wb_add, wb_sub, wb_mul, wb_fdiv, wb_mod, wb_pow, wc_eq, wc_ne, wc_lt, wc_le, wc_gt, wc_ge, wc_eqb, wc_neb, wc_eqs, wc_nes, wx_int, wx_lent, wx_lenl, wx_lenr, wz_int, wz_str, wz_bl, wz_non, wz_tup, wz_rol, wz_ref, wz_lst, List.getElem?_cons_zero, List.getElem?_cons_succ, List.set_cons_zero, List.set_cons_succ, List.length_cons, List.length_nil, wi_tup, wi_lst, wi_rol, wx_tuplel, wx_tuplet, wx_listt, wto_some, hdq, hqc, ite_f, ite_tt, decide_eq_true_eq, Bool.not_eq_true', wisT, ex_bl, ex_int, ite_tf, ite_ff, wix0, wix1, wix2, Nat.reduceAdd, Nat.reduceLT, sl0, sl1, sl2, sl3, sl4, sl5, sl6, sl10, if_true, true_and, and_true, List.map_cons, List.map_nil, wip, wt_turn, it_non_int, it_non_bool, it_non_str, it_non_tuple, it_non_list, it_non_dict, it_bl_int, it_bl_bool, it_bl_str, it_bl_tuple, it_bl_list, it_bl_dict, it_int_int, it_int_bool, it_int_str, it_int_tuple, it_int_list, it_int_dict, it_str_int, it_str_bool, it_str_str, it_str_tuple, it_str_list, it_str_dict, it_tup_int, it_tup_bool, it_tup_str, it_tup_tuple, it_tup_list, it_tup_dict, it_lst_int, it_lst_bool, it_lst_str, it_lst_tuple, it_lst_list, it_lst_dict, it_rol_int, it_rol_bool, it_rol_str, it_rol_tuple, it_rol_list, it_rol_dict, we_revt, we_fnv, wz_dic, wz_fn, we_dct0]
    exact last
end
end DI.L

set_option Elab.async false
set_option linter.all false
set_option maxRecDepth 100000
set_option maxHeartbeats 4000000
/-! the plain law of k00, H: a turn of the law, on. -/
namespace DI.L
open PySem L2
def due (one two : List Str) : D := if one.length + two.length ≤ 40 then .tup [.str "made", .tup ((one ++ two).map .str)] else .tup [.str "failed", .tup [.str "long"]]
theorem eqV_str {x y : Str} : eqV (.str x) (.str y) = decide (x = y) := by
  rw [Bool.eq_iff_iff, decide_eq_true_eq]
  unfold eqV
  simp
theorem inV_strs {w : Str} {l : List Str} : inV (.str w) ((l.map D.str).map D.sv) = decide (w ∈ l) := by
  unfold inV
  induction l with
  | nil => rfl
  | cons x l ih =>
    rw [List.map_cons, List.map_cons, List.any_cons, ih, show (D.str x).sv = V.str x from rfl, eqV_str, Bool.eq_iff_iff, Bool.or_eq_true, decide_eq_true_eq, decide_eq_true_eq, decide_eq_true_eq, List.mem_cons]
    exact ⟨fun z => z.imp Eq.symm id, fun z => z.imp Eq.symm id⟩
theorem scal_strs {l : List Str} : (l.map D.str).all D.scal = true := by
  rw [List.all_map]; simp; intro x _; rfl
theorem wc_ninT {E : Xt} {w : Str} {l : List Str} {s : S} {PB : Bool → S → Prop} : Wp E (cmpD .nin (.str w) (.tup (l.map .str)) s) PB = PB (!decide (w ∈ l)) s := by
  have : cmpD .nin (.str w) (.tup (l.map .str)) s = .ok (!decide (w ∈ l)) s := by
    unfold cmpD cmpO
    show (match ((if (D.str w).scal && (l.map D.str).all D.scal then some (inV (D.str w).sv ((l.map D.str).map D.sv)) else none).map (!·)) with
      | some k => R.ok k s
      | none => .bad) = _
    rw [scal_strs]
    show R.ok (!(inV (.str w) ((l.map D.str).map D.sv))) s = _
    rw [inV_strs]
  rw [this, wp_ok]
/-- all in their order, the last first -/
theorem rev_law (ws : List Str) : (List.range ws.length).filterMap (fun k => some (D.str (ws.getD (ws.length - 1 - k) ""))) = (ws.map .str).reverse := by
  rw [List.filterMap_eq_map']
  refine List.ext_getElem? fun i => ?_
  rw [List.getElem?_map]
  by_cases hi : i < ws.length
  · rw [List.getElem?_range hi, List.getElem?_reverse (by simpa using hi), List.length_map, List.getElem?_map]
    show some (D.str (ws.getD (ws.length - 1 - i) "")) = _
    rw [List.getD_eq_getElem?_getD, List.getElem?_eq_getElem (by omega)]; rfl
  · rw [List.getElem?_eq_none (by rw [List.length_range]; omega), List.getElem?_eq_none (by simp; omega)]; rfl
section
variable {k : Nat} {s : S} {Q : Kt} {one two : List Str} {a0 a1 a2 a3 a4 a5 a6 a7 a8 a9 a10 a11 a12 a13 a14 a15 : Option D}
theorem b3 (h1 : one.length ≤ 40) (h2 : two.length ≤ 20) (h : Q.nx [a0, some (.tup (one.map .str)), a2, a3, a4, a5, a6, a7, a8, a9, a10, a11, some (due one two), some (.tup ((one ++ two).map .str)), some (.tup (two.map .str)), a15, some (.ref 1)] s) : Ws (runS (cfg.q (k+9)) (.asg (.nm 12) (.ife (.cmp .le (.blt .len [(.var 13)]) (.con (.int 40))) (.tup [(.con (.str ("made" : Str))), (.var 13)]) (.tup [(.con (.str ("failed" : Str))), (.tup [(.con (.str ("long" : Str)))])]))) [a0, some (.tup (one.map .str)), a2, a3, a4, a5, a6, a7, a8, a9, a10, a11, a12, some (.tup ((one ++ two).map .str)), some (.tup (two.map .str)), a15, some (.ref 1)] s) Q := by
  refine ws_asg ?_
  simp only [we_con, we_varm, we_glom, we_bin, we_neg, we_cmp, we_chain, we_and, we_or, we_not, we_ife, we_tup, we_lst, we_ix, we_sl, we_rev, we_call, we_blt, we_isi, we_app, we_lc, wa_nil, wa_cons, wr_nil, wr_cons, wo_none, wo_some, wto_none, wto_some, wt_and, wt_or, wt_not, wt_cmp, wt_chain, wt_tru, wi_seq, wi_range, wi_enum, wg_nm, wg_tup, wg_nil, wg_cons, wg_sub, wp_ok, wp_bad, wp_nox, wb_add, wb_sub, wb_mul, wb_fdiv, wb_mod, wb_pow, wc_eq, wc_ne, wc_lt, wc_le, wc_gt, wc_ge, wc_eqb, wc_neb, wc_eqs, wc_nes, wx_int, wx_lent, wx_lenl, wx_lenr, wz_int, wz_str, wz_bl, wz_non, wz_tup, wz_rol, wz_ref, wz_lst, List.getElem?_cons_zero, List.getElem?_cons_succ, List.set_cons_zero, List.set_cons_succ, List.length_cons, List.length_nil, wi_tup, wi_lst, wi_rol, wx_tuplel, wx_tuplet, wx_listt, wto_some, hdq, hqc, ite_f, ite_tt, decide_eq_true_eq, Bool.not_eq_true', wisT, ex_bl, ex_int, ite_tf, ite_ff, wix0, wix1, wix2, Nat.reduceAdd, Nat.reduceLT, sl0, sl1, sl2, sl3, sl4, sl5, sl6, sl10, if_true, true_and, and_true, List.map_cons, List.map_nil, wip, wt_turn, it_non_int, it_non_bool, it_non_str, it_non_tuple, it_non_list, it_non_dict, it_bl_int, it_bl_bool, it_bl_str, it_bl_tuple, it_bl_list, it_bl_dict, it_int_int, it_int_bool, it_int_str, it_int_tuple, it_int_list, it_int_dict, it_str_int, it_str_bool, it_str_str, it_str_tuple, it_str_list, it_str_dict, it_tup_int, it_tup_bool, it_tup_str, it_tup_tuple, it_tup_list, it_tup_dict, it_lst_int, it_lst_bool, it_lst_str, it_lst_tuple, it_lst_list, it_lst_dict, it_rol_int, it_rol_bool, it_rol_str, it_rol_tuple, it_rol_list, it_rol_dict, we_revt, we_fnv, wz_dic, wz_fn, we_dct0]
  unfold due at h
  by_cases h40 : one.length + two.length ≤ 40
  · rw [if_pos h40] at h
    rw [if_pos (by simp; omega)]
    exact h
  · rw [if_neg h40] at h
    rw [if_neg (by simp; omega)]
    exact h
theorem b4 (h1 : one.length ≤ 40) (h2 : two.length ≤ 20) (h : ∀ t, Q.nx [a0, some (.tup (one.map .str)), a2, a3, a4, a5, a6, a7, a8, a9, a10, a11, some (due one two), some (.tup ((one ++ two).map .str)), some (.tup (two.map .str)), a15, some (.ref 1)] (s ++ t)) : Ws (runS (cfg.q (k+9)) (.ife (.not (.tru (.call ("_law_same" : Str) [(.call ("_law_made" : Str) [(.tup [(.con (.str ("join" : Str))), (.tup [(.con (.str ("words" : Str))), (.var 1)]), (.tup [(.con (.str ("words" : Str))), (.var 14)])])]), (.bin .add (.var 12) (.tup [(.tup [])]))]))) [(.ret (some (.con (.bl false))))] []) [a0, some (.tup (one.map .str)), a2, a3, a4, a5, a6, a7, a8, a9, a10, a11, some (due one two), some (.tup ((one ++ two).map .str)), some (.tup (two.map .str)), a15, some (.ref 1)] s) Q := by
  refine ws_ife ?_
  simp only [we_con, we_varm, we_glom, we_bin, we_neg, we_cmp, we_chain, we_and, we_or, we_not, we_ife, we_tup, we_lst, we_ix, we_sl, we_rev, we_call, we_blt, we_isi, we_app, we_lc, wa_nil, wa_cons, wr_nil, wr_cons, wo_none, wo_some, wto_none, wto_some, wt_and, wt_or, wt_not, wt_cmp, wt_chain, wt_tru, wi_seq, wi_range, wi_enum, wg_nm, wg_tup, wg_nil, wg_cons, wg_sub, wp_ok, wp_bad, wp_nox, wb_add, wb_sub, wb_mul, wb_fdiv, wb_mod, wb_pow, wc_eq, wc_ne, wc_lt, wc_le, wc_gt, wc_ge, wc_eqb, wc_neb, wc_eqs, wc_nes, wx_int, wx_lent, wx_lenl, wx_lenr, wz_int, wz_str, wz_bl, wz_non, wz_tup, wz_rol, wz_ref, wz_lst, List.getElem?_cons_zero, List.getElem?_cons_succ, List.set_cons_zero, List.set_cons_succ, List.length_cons, List.length_nil, wi_tup, wi_lst, wi_rol, wx_tuplel, wx_tuplet, wx_listt, wto_some, hdq, hqc, ite_f, ite_tt, decide_eq_true_eq, Bool.not_eq_true', wisT, ex_bl, ex_int, ite_tf, ite_ff, wix0, wix1, wix2, Nat.reduceAdd, Nat.reduceLT, sl0, sl1, sl2, sl3, sl4, sl5, sl6, sl10, if_true, true_and, and_true, List.map_cons, List.map_nil, wip, wt_turn, it_non_int, it_non_bool, it_non_str, it_non_tuple, it_non_list, it_non_dict, it_bl_int, it_bl_bool, it_bl_str, it_bl_tuple, it_bl_list, it_bl_dict, it_int_int, it_int_bool, it_int_str, it_int_tuple, it_int_list, it_int_dict, it_str_int, it_str_bool, it_str_str, it_str_tuple, it_str_list, it_str_dict, it_tup_int, it_tup_bool, it_tup_str, it_tup_tuple, it_tup_list, it_tup_dict, it_lst_int, it_lst_bool, it_lst_str, it_lst_tuple, it_lst_list, it_lst_dict, it_rol_int, it_rol_bool, it_rol_str, it_rol_tuple, it_rol_list, it_rol_dict, we_revt, we_fnv, wz_dic, wz_fn, we_dct0]
  refine s_made (k := k+4) rfl (comes_join (k := k+4) (by simp; omega) (by simp; omega)) fun a b t hR => ?_
  simp only [we_con, we_varm, we_glom, we_bin, we_neg, we_cmp, we_chain, we_and, we_or, we_not, we_ife, we_tup, we_lst, we_ix, we_sl, we_rev, we_call, we_blt, we_isi, we_app, we_lc, wa_nil, wa_cons, wr_nil, wr_cons, wo_none, wo_some, wto_none, wto_some, wt_and, wt_or, wt_not, wt_cmp, wt_chain, wt_tru, wi_seq, wi_range, wi_enum, wg_nm, wg_tup, wg_nil, wg_cons, wg_sub, wp_ok, wp_bad, wp_nox, wb_add, wb_sub, wb_mul, wb_fdiv, wb_mod, wb_pow, wc_eq, wc_ne, wc_lt, wc_le, wc_gt, wc_ge, wc_eqb, wc_neb, wc_eqs, wc_nes, wx_int, wx_lent, wx_lenl, wx_lenr, wz_int, wz_str, wz_bl, wz_non, wz_tup, wz_rol, wz_ref, wz_lst, List.getElem?_cons_zero, List.getElem?_cons_succ, List.set_cons_zero, List.set_cons_succ, List.length_cons, List.length_nil, wi_tup, wi_lst, wi_rol, wx_tuplel, wx_tuplet, wx_listt, wto_some, hdq, hqc, ite_f, ite_tt, decide_eq_true_eq, Bool.not_eq_true', wisT, ex_bl, ex_int, ite_tf, ite_ff, wix0, wix1, wix2, Nat.reduceAdd, Nat.reduceLT, sl0, sl1, sl2, sl3, sl4, sl5, sl6, sl10, if_true, true_and, and_true, List.map_cons, List.map_nil, wip, wt_turn, it_non_int, it_non_bool, it_non_str, it_non_tuple, it_non_list, it_non_dict, it_bl_int, it_bl_bool, it_bl_str, it_bl_tuple, it_bl_list, it_bl_dict, it_int_int, it_int_bool, it_int_str, it_int_tuple, it_int_list, it_int_dict, it_str_int, it_str_bool, it_str_str, it_str_tuple, it_str_list, it_str_dict, it_tup_int, it_tup_bool, it_tup_str, it_tup_tuple, it_tup_list, it_tup_dict, it_lst_int, it_lst_bool, it_lst_str, it_lst_tuple, it_lst_list, it_lst_dict, it_rol_int, it_rol_bool, it_rol_str, it_rol_tuple, it_rol_list, it_rol_dict, we_revt, we_fnv, wz_dic, wz_fn, we_dct0]
  rcases hR with ⟨h40, rfl, rfl⟩ | ⟨h40, rfl, rfl⟩
  · rw [List.length_map, List.length_map] at h40
    rw [show due one two = .tup [.str "made", .tup ((one ++ two).map .str)] from if_pos h40, wb_tadd (xs := [.str "made", .tup ((one ++ two).map .str)]) (ys := [.tup []]) (show 3 ≤ sizeLine by decide), ← List.map_append]
    simp only [we_con, we_varm, we_glom, we_bin, we_neg, we_cmp, we_chain, we_and, we_or, we_not, we_ife, we_tup, we_lst, we_ix, we_sl, we_rev, we_call, we_blt, we_isi, we_app, we_lc, wa_nil, wa_cons, wr_nil, wr_cons, wo_none, wo_some, wto_none, wto_some, wt_and, wt_or, wt_not, wt_cmp, wt_chain, wt_tru, wi_seq, wi_range, wi_enum, wg_nm, wg_tup, wg_nil, wg_cons, wg_sub, wp_ok, wp_bad, wp_nox, wb_add, wb_sub, wb_mul, wb_fdiv, wb_mod, wb_pow, wc_eq, wc_ne, wc_lt, wc_le, wc_gt, wc_ge, wc_eqb, wc_neb, wc_eqs, wc_nes, wx_int, wx_lent, wx_lenl, wx_lenr, wz_int, wz_str, wz_bl, wz_non, wz_tup, wz_rol, wz_ref, wz_lst, List.getElem?_cons_zero, List.getElem?_cons_succ, List.set_cons_zero, List.set_cons_succ, List.length_cons, List.length_nil, wi_tup, wi_lst, wi_rol, wx_tuplel, wx_tuplet, wx_listt, wto_some, hdq, hqc, ite_f, ite_tt, decide_eq_true_eq, Bool.not_eq_true', wisT, ex_bl, ex_int, ite_tf, ite_ff, wix0, wix1, wix2, Nat.reduceAdd, Nat.reduceLT, sl0, sl1, sl2, sl3, sl4, sl5, sl6, sl10, if_true, true_and, and_true, List.map_cons, List.map_nil, wip, wt_turn, it_non_int, it_non_bool, it_non_str, it_non_tuple, it_non_list, it_non_dict, it_bl_int, it_bl_bool, it_bl_str, it_bl_tuple, it_bl_list, it_bl_dict, it_int_int, it_int_bool, it_int_str, it_int_tuple, it_int_list, it_int_dict, it_str_int, it_str_bool, it_str_str, it_str_tuple, it_str_list, it_str_dict, it_tup_int, it_tup_bool, it_tup_str, it_tup_tuple, it_tup_list, it_tup_dict, it_lst_int, it_lst_bool, it_lst_str, it_lst_tuple, it_lst_list, it_lst_dict, it_rol_int, it_rol_bool, it_rol_str, it_rol_tuple, it_rol_list, it_rol_dict, we_revt, we_fnv, wz_dic, wz_fn, we_dct0]
    refine same_ok (pl_3 rfl (pl_ws (by simp; omega)) rfl) (Nat.le_trans (dep_3 (n := 1) (Nat.zero_le _) dep_ws (by decide)) (by omega)) ?_
    simp only [we_con, we_varm, we_glom, we_bin, we_neg, we_cmp, we_chain, we_and, we_or, we_not, we_ife, we_tup, we_lst, we_ix, we_sl, we_rev, we_call, we_blt, we_isi, we_app, we_lc, wa_nil, wa_cons, wr_nil, wr_cons, wo_none, wo_some, wto_none, wto_some, wt_and, wt_or, wt_not, wt_cmp, wt_chain, wt_tru, wi_seq, wi_range, wi_enum, wg_nm, wg_tup, wg_nil, wg_cons, wg_sub, wp_ok, wp_bad, wp_nox, wb_add, wb_sub, wb_mul, wb_fdiv, wb_mod, wb_pow, wc_eq, wc_ne, wc_lt, wc_le, wc_gt, wc_ge, wc_eqb, wc_neb, wc_eqs, wc_nes, wx_int, wx_lent, wx_lenl, wx_lenr, wz_int, wz_str, wz_bl, wz_non, wz_tup, wz_rol, wz_ref, wz_lst, List.getElem?_cons_zero, List.getElem?_cons_succ, List.set_cons_zero, List.set_cons_succ, List.length_cons, List.length_nil, wi_tup, wi_lst, wi_rol, wx_tuplel, wx_tuplet, wx_listt, wto_some, hdq, hqc, ite_f, ite_tt, decide_eq_true_eq, Bool.not_eq_true', wisT, ex_bl, ex_int, ite_tf, ite_ff, wix0, wix1, wix2, Nat.reduceAdd, Nat.reduceLT, sl0, sl1, sl2, sl3, sl4, sl5, sl6, sl10, if_true, true_and, and_true, List.map_cons, List.map_nil, wip, wt_turn, it_non_int, it_non_bool, it_non_str, it_non_tuple, it_non_list, it_non_dict, it_bl_int, it_bl_bool, it_bl_str, it_bl_tuple, it_bl_list, it_bl_dict, it_int_int, it_int_bool, it_int_str, it_int_tuple, it_int_list, it_int_dict, it_str_int, it_str_bool, it_str_str, it_str_tuple, it_str_list, it_str_dict, it_tup_int, it_tup_bool, it_tup_str, it_tup_tuple, it_tup_list, it_tup_dict, it_lst_int, it_lst_bool, it_lst_str, it_lst_tuple, it_lst_list, it_lst_dict, it_rol_int, it_rol_bool, it_rol_str, it_rol_tuple, it_rol_list, it_rol_dict, we_revt, we_fnv, wz_dic, wz_fn, we_dct0]
    rw [ws_nil]
    rw [show due one two = .tup [.str "made", .tup ((one ++ two).map .str)] from if_pos h40] at h
    exact h t
  · rw [List.length_map, List.length_map] at h40
    rw [show due one two = .tup [.str "failed", .tup [.str "long"]] from if_neg h40, wb_tadd (xs := [.str "failed", .tup [.str "long"]]) (ys := [.tup []]) (show 3 ≤ sizeLine by decide)]
    simp only [we_con, we_varm, we_glom, we_bin, we_neg, we_cmp, we_chain, we_and, we_or, we_not, we_ife, we_tup, we_lst, we_ix, we_sl, we_rev, we_call, we_blt, we_isi, we_app, we_lc, wa_nil, wa_cons, wr_nil, wr_cons, wo_none, wo_some, wto_none, wto_some, wt_and, wt_or, wt_not, wt_cmp, wt_chain, wt_tru, wi_seq, wi_range, wi_enum, wg_nm, wg_tup, wg_nil, wg_cons, wg_sub, wp_ok, wp_bad, wp_nox, wb_add, wb_sub, wb_mul, wb_fdiv, wb_mod, wb_pow, wc_eq, wc_ne, wc_lt, wc_le, wc_gt, wc_ge, wc_eqb, wc_neb, wc_eqs, wc_nes, wx_int, wx_lent, wx_lenl, wx_lenr, wz_int, wz_str, wz_bl, wz_non, wz_tup, wz_rol, wz_ref, wz_lst, List.getElem?_cons_zero, List.getElem?_cons_succ, List.set_cons_zero, List.set_cons_succ, List.length_cons, List.length_nil, wi_tup, wi_lst, wi_rol, wx_tuplel, wx_tuplet, wx_listt, wto_some, hdq, hqc, ite_f, ite_tt, decide_eq_true_eq, Bool.not_eq_true', wisT, ex_bl, ex_int, ite_tf, ite_ff, wix0, wix1, wix2, Nat.reduceAdd, Nat.reduceLT, sl0, sl1, sl2, sl3, sl4, sl5, sl6, sl10, if_true, true_and, and_true, List.map_cons, List.map_nil, wip, wt_turn, it_non_int, it_non_bool, it_non_str, it_non_tuple, it_non_list, it_non_dict, it_bl_int, it_bl_bool, it_bl_str, it_bl_tuple, it_bl_list, it_bl_dict, it_int_int, it_int_bool, it_int_str, it_int_tuple, it_int_list, it_int_dict, it_str_int, it_str_bool, it_str_str, it_str_tuple, it_str_list, it_str_dict, it_tup_int, it_tup_bool, it_tup_str, it_tup_tuple, it_tup_list, it_tup_dict, it_lst_int, it_lst_bool, it_lst_str, it_lst_tuple, it_lst_list, it_lst_dict, it_rol_int, it_rol_bool, it_rol_str, it_rol_tuple, it_rol_list, it_rol_dict, we_revt, we_fnv, wz_dic, wz_fn, we_dct0]
    refine same_ok rfl (by show 2 ≤ k + 8; omega) ?_
    simp only [we_con, we_varm, we_glom, we_bin, we_neg, we_cmp, we_chain, we_and, we_or, we_not, we_ife, we_tup, we_lst, we_ix, we_sl, we_rev, we_call, we_blt, we_isi, we_app, we_lc, wa_nil, wa_cons, wr_nil, wr_cons, wo_none, wo_some, wto_none, wto_some, wt_and, wt_or, wt_not, wt_cmp, wt_chain, wt_tru, wi_seq, wi_range, wi_enum, wg_nm, wg_tup, wg_nil, wg_cons, wg_sub, wp_ok, wp_bad, wp_nox, wb_add, wb_sub, wb_mul, wb_fdiv, wb_mod, wb_pow, wc_eq, wc_ne, wc_lt, wc_le, wc_gt, wc_ge, wc_eqb, wc_neb, wc_eqs, wc_nes, wx_int, wx_lent, wx_lenl, wx_lenr, wz_int, wz_str, wz_bl, wz_non, wz_tup, wz_rol, wz_ref, wz_lst, List.getElem?_cons_zero, List.getElem?_cons_succ, List.set_cons_zero, List.set_cons_succ, List.length_cons, List.length_nil, wi_tup, wi_lst, wi_rol, wx_tuplel, wx_tuplet, wx_listt, wto_some, hdq, hqc, ite_f, ite_tt, decide_eq_true_eq, Bool.not_eq_true', wisT, ex_bl, ex_int, ite_tf, ite_ff, wix0, wix1, wix2, Nat.reduceAdd, Nat.reduceLT, sl0, sl1, sl2, sl3, sl4, sl5, sl6, sl10, if_true, true_and, and_true, List.map_cons, List.map_nil, wip, wt_turn, it_non_int, it_non_bool, it_non_str, it_non_tuple, it_non_list, it_non_dict, it_bl_int, it_bl_bool, it_bl_str, it_bl_tuple, it_bl_list, it_bl_dict, it_int_int, it_int_bool, it_int_str, it_int_tuple, it_int_list, it_int_dict, it_str_int, it_str_bool, it_str_str, it_str_tuple, it_str_list, it_str_dict, it_tup_int, it_tup_bool, it_tup_str, it_tup_tuple, it_tup_list, it_tup_dict, it_lst_int, it_lst_bool, it_lst_str, it_lst_tuple, it_lst_list, it_lst_dict, it_rol_int, it_rol_bool, it_rol_str, it_rol_tuple, it_rol_list, it_rol_dict, we_revt, we_fnv, wz_dic, wz_fn, we_dct0]
    rw [ws_nil]
    rw [show due one two = .tup [.str "failed", .tup [.str "long"]] from if_neg h40] at h
    exact h t
end
end DI.L

set_option Elab.async false
set_option linter.all false
set_option maxRecDepth 100000
set_option maxHeartbeats 4000000
/-! the plain law of k00, I: a turn of the law, the rest. -/
namespace DI.L
open PySem L2
theorem firsts_lawD (ws : List Str) : (List.range ws.length).filterMap (fun k => if ws.getD k "" ∈ ws.take k then none else some (D.str (ws.getD k ""))) = (firsts ws).map .str := by
  rw [← firsts_law, List.map_filterMap]
  refine fm_congr fun k _ => ?_
  split <;> rfl
theorem cutD_strs {ws : List Str} {lo hi : Option Int} : ∃ l : List Str, l.length ≤ ws.length ∧ cutD (ws.map .str) lo hi = l.map .str := by
  unfold cutD
  rw [← List.map_drop, ← List.map_take]
  refine ⟨_, ?_, rfl⟩
  rw [List.length_take, List.length_drop]; omega
theorem madeBy_ws (w : Str) (ws : List Str) : ∃ l : List Str, l.length ≤ ws.length + 1 ∧ madeBy w ws = .tup (l.map .str) := by
  unfold madeBy
  split
  · exact ⟨_, Nat.le_succ_of_le (firsts_len ws), rfl⟩
  split
  · exact ⟨ws.reverse, by simp, by rw [List.map_reverse]⟩
  split
  · exact ⟨[toString (ws.length : Int)], by simp, rfl⟩
  split
  · exact ⟨srt ws, by unfold srt; rw [List.length_mergeSort]; exact Nat.le_succ _, rfl⟩
  split
  · obtain ⟨l, h1, h2⟩ := cutD_strs (ws := ws) (lo := none) (hi := some 1)
    exact ⟨l, Nat.le_succ_of_le h1, congrArg D.tup h2⟩
  · obtain ⟨l, h1, h2⟩ := cutD_strs (ws := ws) (lo := some 1) (hi := none)
    exact ⟨l, Nat.le_succ_of_le h1, congrArg D.tup h2⟩
section
variable {k : Nat} {s : S} {Q : Kt} {one two : List Str} {a0 a1 a2 a3 a4 a5 a6 a7 a8 a9 a10 a11 a12 a13 a14 a15 : Option D}
theorem b5 (h1 : one.length ≤ 40) (h : Q.nx [a0, some (.tup (one.map .str)), a2, a3, a4, a5, a6, a7, a8, a9, a10, some (.tup ((firsts one).map .str)), some (due one two), some (.tup ((one ++ two).map .str)), some (.tup (two.map .str)), a15, some (.ref 1)] s) : Ws (runS (cfg.q (k+9)) (.asg (.nm 11) (.blt .tuple [(.lc [(("k" : Str), 9)] (.ix (.var 1) (.var 9)) (.nm 9) (.range [(.blt .len [(.var 1)])]) (some (.cmp .nin (.ix (.var 1) (.var 9)) (.sl (.var 1) none (some (.var 9))))))])) [a0, some (.tup (one.map .str)), a2, a3, a4, a5, a6, a7, a8, a9, a10, a11, some (due one two), some (.tup ((one ++ two).map .str)), some (.tup (two.map .str)), a15, some (.ref 1)] s) Q := by
  refine ws_asg ?_
  simp only [we_con, we_varm, we_glom, we_bin, we_neg, we_cmp, we_chain, we_and, we_or, we_not, we_ife, we_tup, we_lst, we_ix, we_sl, we_rev, we_call, we_blt, we_isi, we_app, we_lc, wa_nil, wa_cons, wr_nil, wr_cons, wo_none, wo_some, wto_none, wto_some, wt_and, wt_or, wt_not, wt_cmp, wt_chain, wt_tru, wi_seq, wi_range, wi_enum, wg_nm, wg_tup, wg_nil, wg_cons, wg_sub, wp_ok, wp_bad, wp_nox, wb_add, wb_sub, wb_mul, wb_fdiv, wb_mod, wb_pow, wc_eq, wc_ne, wc_lt, wc_le, wc_gt, wc_ge, wc_eqb, wc_neb, wc_eqs, wc_nes, wx_int, wx_lent, wx_lenl, wx_lenr, wz_int, wz_str, wz_bl, wz_non, wz_tup, wz_rol, wz_ref, wz_lst, List.getElem?_cons_zero, List.getElem?_cons_succ, List.set_cons_zero, List.set_cons_succ, List.length_cons, List.length_nil, wi_tup, wi_lst, wi_rol, wx_tuplel, wx_tuplet, wx_listt, wto_some, hdq, hqc, ite_f, ite_tt, decide_eq_true_eq, Bool.not_eq_true', wisT, ex_bl, ex_int, ite_tf, ite_ff, wix0, wix1, wix2, Nat.reduceAdd, Nat.reduceLT, sl0, sl1, sl2, sl3, sl4, sl5, sl6, sl10, if_true, true_and, and_true, List.map_cons, List.map_nil, wip, wt_turn, it_non_int, it_non_bool, it_non_str, it_non_tuple, it_non_list, it_non_dict, it_bl_int, it_bl_bool, it_bl_str, it_bl_tuple, it_bl_list, it_bl_dict, it_int_int, it_int_bool, it_int_str, it_int_tuple, it_int_list, it_int_dict, it_str_int, it_str_bool, it_str_str, it_str_tuple, it_str_list, it_str_dict, it_tup_int, it_tup_bool, it_tup_str, it_tup_tuple, it_tup_list, it_tup_dict, it_lst_int, it_lst_bool, it_lst_str, it_lst_tuple, it_lst_list, it_lst_dict, it_rol_int, it_rol_bool, it_rol_str, it_rol_tuple, it_rol_list, it_rol_dict, we_revt, we_fnv, wz_dic, wz_fn, we_dct0]
  rw [wri_1 (n := (one.map D.str).length) (lt62 (by simp; omega)), List.length_map]
  refine wl_rng (fun k => if one.getD k "" ∈ one.take k then none else some (.str (one.getD k ""))) rfl (leL (by omega)) (fun j hj => ?_) ?_
  · rw [wt_turn]
    have hx : (one.map D.str)[j]? = some (.str (one.getD j "")) := by rw [List.getElem?_map, List.getD_eq_getElem?_getD, List.getElem?_eq_getElem hj]; rfl
    simp only [we_con, we_varm, we_glom, we_bin, we_neg, we_cmp, we_chain, we_and, we_or, we_not, we_ife, we_tup, we_lst, we_ix, we_sl, we_rev, we_call, we_blt, we_isi, we_app, we_lc, wa_nil, wa_cons, wr_nil, wr_cons, wo_none, wo_some, wto_none, wto_some, wt_and, wt_or, wt_not, wt_cmp, wt_chain, wt_tru, wi_seq, wi_range, wi_enum, wg_nm, wg_tup, wg_nil, wg_cons, wg_sub, wp_ok, wp_bad, wp_nox, wb_add, wb_sub, wb_mul, wb_fdiv, wb_mod, wb_pow, wc_eq, wc_ne, wc_lt, wc_le, wc_gt, wc_ge, wc_eqb, wc_neb, wc_eqs, wc_nes, wx_int, wx_lent, wx_lenl, wx_lenr, wz_int, wz_str, wz_bl, wz_non, wz_tup, wz_rol, wz_ref, wz_lst, List.getElem?_cons_zero, List.getElem?_cons_succ, List.set_cons_zero, List.set_cons_succ, List.length_cons, List.length_nil, wi_tup, wi_lst, wi_rol, wx_tuplel, wx_tuplet, wx_listt, wto_some, hdq, hqc, ite_f, ite_tt, decide_eq_true_eq, Bool.not_eq_true', wisT, ex_bl, ex_int, ite_tf, ite_ff, wix0, wix1, wix2, Nat.reduceAdd, Nat.reduceLT, sl0, sl1, sl2, sl3, sl4, sl5, sl6, sl10, if_true, true_and, and_true, List.map_cons, List.map_nil, wip, wt_turn, it_non_int, it_non_bool, it_non_str, it_non_tuple, it_non_list, it_non_dict, it_bl_int, it_bl_bool, it_bl_str, it_bl_tuple, it_bl_list, it_bl_dict, it_int_int, it_int_bool, it_int_str, it_int_tuple, it_int_list, it_int_dict, it_str_int, it_str_bool, it_str_str, it_str_tuple, it_str_list, it_str_dict, it_tup_int, it_tup_bool, it_tup_str, it_tup_tuple, it_tup_list, it_tup_dict, it_lst_int, it_lst_bool, it_lst_str, it_lst_tuple, it_lst_list, it_lst_dict, it_rol_int, it_rol_bool, it_rol_str, it_rol_tuple, it_rol_list, it_rol_dict, we_revt, we_fnv, wz_dic, wz_fn, we_dct0, wixt hx, ws_slt]
    rw [cut_take (by simp; omega), ← List.map_take, wc_ninT]
    by_cases hm : one.getD j "" ∈ one.take j
    · rw [decide_eq_true hm, if_pos hm]
      exact ⟨rfl, rfl⟩
    · rw [decide_eq_false hm, if_neg hm]
      exact ⟨rfl, rfl⟩
  · rw [firsts_lawD]
    simp only [we_con, we_varm, we_glom, we_bin, we_neg, we_cmp, we_chain, we_and, we_or, we_not, we_ife, we_tup, we_lst, we_ix, we_sl, we_rev, we_call, we_blt, we_isi, we_app, we_lc, wa_nil, wa_cons, wr_nil, wr_cons, wo_none, wo_some, wto_none, wto_some, wt_and, wt_or, wt_not, wt_cmp, wt_chain, wt_tru, wi_seq, wi_range, wi_enum, wg_nm, wg_tup, wg_nil, wg_cons, wg_sub, wp_ok, wp_bad, wp_nox, wb_add, wb_sub, wb_mul, wb_fdiv, wb_mod, wb_pow, wc_eq, wc_ne, wc_lt, wc_le, wc_gt, wc_ge, wc_eqb, wc_neb, wc_eqs, wc_nes, wx_int, wx_lent, wx_lenl, wx_lenr, wz_int, wz_str, wz_bl, wz_non, wz_tup, wz_rol, wz_ref, wz_lst, List.getElem?_cons_zero, List.getElem?_cons_succ, List.set_cons_zero, List.set_cons_succ, List.length_cons, List.length_nil, wi_tup, wi_lst, wi_rol, wx_tuplel, wx_tuplet, wx_listt, wto_some, hdq, hqc, ite_f, ite_tt, decide_eq_true_eq, Bool.not_eq_true', wisT, ex_bl, ex_int, ite_tf, ite_ff, wix0, wix1, wix2, Nat.reduceAdd, Nat.reduceLT, sl0, sl1, sl2, sl3, sl4, sl5, sl6, sl10, if_true, true_and, and_true, List.map_cons, List.map_nil, wip, wt_turn, it_non_int, it_non_bool, it_non_str, it_non_tuple, it_non_list, it_non_dict, it_bl_int, it_bl_bool, it_bl_str, it_bl_tuple, it_bl_list, it_bl_dict, it_int_int, it_int_bool, it_int_str, it_int_tuple, it_int_list, it_int_dict, it_str_int, it_str_bool, it_str_str, it_str_tuple, it_str_list, it_str_dict, it_tup_int, it_tup_bool, it_tup_str, it_tup_tuple, it_tup_list, it_tup_dict, it_lst_int, it_lst_bool, it_lst_str, it_lst_tuple, it_lst_list, it_lst_dict, it_rol_int, it_rol_bool, it_rol_str, it_rol_tuple, it_rol_list, it_rol_dict, we_revt, we_fnv, wz_dic, wz_fn, we_dct0]
    exact h
theorem b6 (h1 : one.length ≤ 40) (h : Q.nx [a0, some (.tup (one.map .str)), a2, a3, a4, a5, a6, a7, a8, a9, some (.tup (one.map .str).reverse), some (.tup ((firsts one).map .str)), some (due one two), some (.tup ((one ++ two).map .str)), some (.tup (two.map .str)), a15, some (.ref 1)] s) : Ws (runS (cfg.q (k+9)) (.asg (.nm 10) (.blt .tuple [(.lc [(("k" : Str), 9)] (.ix (.var 1) (.bin .sub (.bin .sub (.blt .len [(.var 1)]) (.con (.int 1))) (.var 9))) (.nm 9) (.range [(.blt .len [(.var 1)])]) none)])) [a0, some (.tup (one.map .str)), a2, a3, a4, a5, a6, a7, a8, a9, a10, some (.tup ((firsts one).map .str)), some (due one two), some (.tup ((one ++ two).map .str)), some (.tup (two.map .str)), a15, some (.ref 1)] s) Q := by
  refine ws_asg ?_
  simp only [we_con, we_varm, we_glom, we_bin, we_neg, we_cmp, we_chain, we_and, we_or, we_not, we_ife, we_tup, we_lst, we_ix, we_sl, we_rev, we_call, we_blt, we_isi, we_app, we_lc, wa_nil, wa_cons, wr_nil, wr_cons, wo_none, wo_some, wto_none, wto_some, wt_and, wt_or, wt_not, wt_cmp, wt_chain, wt_tru, wi_seq, wi_range, wi_enum, wg_nm, wg_tup, wg_nil, wg_cons, wg_sub, wp_ok, wp_bad, wp_nox, wb_add, wb_sub, wb_mul, wb_fdiv, wb_mod, wb_pow, wc_eq, wc_ne, wc_lt, wc_le, wc_gt, wc_ge, wc_eqb, wc_neb, wc_eqs, wc_nes, wx_int, wx_lent, wx_lenl, wx_lenr, wz_int, wz_str, wz_bl, wz_non, wz_tup, wz_rol, wz_ref, wz_lst, List.getElem?_cons_zero, List.getElem?_cons_succ, List.set_cons_zero, List.set_cons_succ, List.length_cons, List.length_nil, wi_tup, wi_lst, wi_rol, wx_tuplel, wx_tuplet, wx_listt, wto_some, hdq, hqc, ite_f, ite_tt, decide_eq_true_eq, Bool.not_eq_true', wisT, ex_bl, ex_int, ite_tf, ite_ff, wix0, wix1, wix2, Nat.reduceAdd, Nat.reduceLT, sl0, sl1, sl2, sl3, sl4, sl5, sl6, sl10, if_true, true_and, and_true, List.map_cons, List.map_nil, wip, wt_turn, it_non_int, it_non_bool, it_non_str, it_non_tuple, it_non_list, it_non_dict, it_bl_int, it_bl_bool, it_bl_str, it_bl_tuple, it_bl_list, it_bl_dict, it_int_int, it_int_bool, it_int_str, it_int_tuple, it_int_list, it_int_dict, it_str_int, it_str_bool, it_str_str, it_str_tuple, it_str_list, it_str_dict, it_tup_int, it_tup_bool, it_tup_str, it_tup_tuple, it_tup_list, it_tup_dict, it_lst_int, it_lst_bool, it_lst_str, it_lst_tuple, it_lst_list, it_lst_dict, it_rol_int, it_rol_bool, it_rol_str, it_rol_tuple, it_rol_list, it_rol_dict, we_revt, we_fnv, wz_dic, wz_fn, we_dct0]
  rw [wri_1 (n := (one.map D.str).length) (lt62 (by simp; omega)), List.length_map]
  refine wl_rng (fun k => some (.str (one.getD (one.length - 1 - k) ""))) rfl (leL (by omega)) (fun j hj => ?_) ?_
  · rw [wt_turn]
    have hx : (one.map D.str)[one.length - 1 - j]? = some (.str (one.getD (one.length - 1 - j) "")) := by rw [List.getElem?_map, List.getD_eq_getElem?_getD, List.getElem?_eq_getElem (by omega)]; rfl
    simp only [we_con, we_varm, we_glom, we_bin, we_neg, we_cmp, we_chain, we_and, we_or, we_not, we_ife, we_tup, we_lst, we_ix, we_sl, we_rev, we_call, we_blt, we_isi, we_app, we_lc, wa_nil, wa_cons, wr_nil, wr_cons, wo_none, wo_some, wto_none, wto_some, wt_and, wt_or, wt_not, wt_cmp, wt_chain, wt_tru, wi_seq, wi_range, wi_enum, wg_nm, wg_tup, wg_nil, wg_cons, wg_sub, wp_ok, wp_bad, wp_nox, wb_add, wb_sub, wb_mul, wb_fdiv, wb_mod, wb_pow, wc_eq, wc_ne, wc_lt, wc_le, wc_gt, wc_ge, wc_eqb, wc_neb, wc_eqs, wc_nes, wx_int, wx_lent, wx_lenl, wx_lenr, wz_int, wz_str, wz_bl, wz_non, wz_tup, wz_rol, wz_ref, wz_lst, List.getElem?_cons_zero, List.getElem?_cons_succ, List.set_cons_zero, List.set_cons_succ, List.length_cons, List.length_nil, wi_tup, wi_lst, wi_rol, wx_tuplel, wx_tuplet, wx_listt, wto_some, hdq, hqc, ite_f, ite_tt, decide_eq_true_eq, Bool.not_eq_true', wisT, ex_bl, ex_int, ite_tf, ite_ff, wix0, wix1, wix2, Nat.reduceAdd, Nat.reduceLT, sl0, sl1, sl2, sl3, sl4, sl5, sl6, sl10, if_true, true_and, and_true, List.map_cons, List.map_nil, wip, wt_turn, it_non_int, it_non_bool, it_non_str, it_non_tuple, it_non_list, it_non_dict, it_bl_int, it_bl_bool, it_bl_str, it_bl_tuple, it_bl_list, it_bl_dict, it_int_int, it_int_bool, it_int_str, it_int_tuple, it_int_list, it_int_dict, it_str_int, it_str_bool, it_str_str, it_str_tuple, it_str_list, it_str_dict, it_tup_int, it_tup_bool, it_tup_str, it_tup_tuple, it_tup_list, it_tup_dict, it_lst_int, it_lst_bool, it_lst_str, it_lst_tuple, it_lst_list, it_lst_dict, it_rol_int, it_rol_bool, it_rol_str, it_rol_tuple, it_rol_list, it_rol_dict, we_revt, we_fnv, wz_dic, wz_fn, we_dct0]
    rw [show ((one.map D.str).length : Int) - 1 - (j : Int) = ((one.length - 1 - j : Nat) : Int) by rw [List.length_map]; omega, wixt hx]
    simp only [we_con, we_varm, we_glom, we_bin, we_neg, we_cmp, we_chain, we_and, we_or, we_not, we_ife, we_tup, we_lst, we_ix, we_sl, we_rev, we_call, we_blt, we_isi, we_app, we_lc, wa_nil, wa_cons, wr_nil, wr_cons, wo_none, wo_some, wto_none, wto_some, wt_and, wt_or, wt_not, wt_cmp, wt_chain, wt_tru, wi_seq, wi_range, wi_enum, wg_nm, wg_tup, wg_nil, wg_cons, wg_sub, wp_ok, wp_bad, wp_nox, wb_add, wb_sub, wb_mul, wb_fdiv, wb_mod, wb_pow, wc_eq, wc_ne, wc_lt, wc_le, wc_gt, wc_ge, wc_eqb, wc_neb, wc_eqs, wc_nes, wx_int, wx_lent, wx_lenl, wx_lenr, wz_int, wz_str, wz_bl, wz_non, wz_tup, wz_rol, wz_ref, wz_lst, List.getElem?_cons_zero, List.getElem?_cons_succ, List.set_cons_zero, List.set_cons_succ, List.length_cons, List.length_nil, wi_tup, wi_lst, wi_rol, wx_tuplel, wx_tuplet, wx_listt, wto_some, hdq, hqc, ite_f, ite_tt, decide_eq_true_eq, Bool.not_eq_true', wisT, ex_bl, ex_int, ite_tf, ite_ff, wix0, wix1, wix2, Nat.reduceAdd, Nat.reduceLT, sl0, sl1, sl2, sl3, sl4, sl5, sl6, sl10, if_true, true_and, and_true, List.map_cons, List.map_nil, wip, wt_turn, it_non_int, it_non_bool, it_non_str, it_non_tuple, it_non_list, it_non_dict, it_bl_int, it_bl_bool, it_bl_str, it_bl_tuple, it_bl_list, it_bl_dict, it_int_int, it_int_bool, it_int_str, it_int_tuple, it_int_list, it_int_dict, it_str_int, it_str_bool, it_str_str, it_str_tuple, it_str_list, it_str_dict, it_tup_int, it_tup_bool, it_tup_str, it_tup_tuple, it_tup_list, it_tup_dict, it_lst_int, it_lst_bool, it_lst_str, it_lst_tuple, it_lst_list, it_lst_dict, it_rol_int, it_rol_bool, it_rol_str, it_rol_tuple, it_rol_list, it_rol_dict, we_revt, we_fnv, wz_dic, wz_fn, we_dct0]
  · rw [rev_law]
    simp only [we_con, we_varm, we_glom, we_bin, we_neg, we_cmp, we_chain, we_and, we_or, we_not, we_ife, we_tup, we_lst, we_ix, we_sl, we_rev, we_call, we_blt, we_isi, we_app, we_lc, wa_nil, wa_cons, wr_nil, wr_cons, wo_none, wo_some, wto_none, wto_some, wt_and, wt_or, wt_not, wt_cmp, wt_chain, wt_tru, wi_seq, wi_range, wi_enum, wg_nm, wg_tup, wg_nil, wg_cons, wg_sub, wp_ok, wp_bad, wp_nox, wb_add, wb_sub, wb_mul, wb_fdiv, wb_mod, wb_pow, wc_eq, wc_ne, wc_lt, wc_le, wc_gt, wc_ge, wc_eqb, wc_neb, wc_eqs, wc_nes, wx_int, wx_lent, wx_lenl, wx_lenr, wz_int, wz_str, wz_bl, wz_non, wz_tup, wz_rol, wz_ref, wz_lst, List.getElem?_cons_zero, List.getElem?_cons_succ, List.set_cons_zero, List.set_cons_succ, List.length_cons, List.length_nil, wi_tup, wi_lst, wi_rol, wx_tuplel, wx_tuplet, wx_listt, wto_some, hdq, hqc, ite_f, ite_tt, decide_eq_true_eq, Bool.not_eq_true', wisT, ex_bl, ex_int, ite_tf, ite_ff, wix0, wix1, wix2, Nat.reduceAdd, Nat.reduceLT, sl0, sl1, sl2, sl3, sl4, sl5, sl6, sl10, if_true, true_and, and_true, List.map_cons, List.map_nil, wip, wt_turn, it_non_int, it_non_bool, it_non_str, it_non_tuple, it_non_list, it_non_dict, it_bl_int, it_bl_bool, it_bl_str, it_bl_tuple, it_bl_list, it_bl_dict, it_int_int, it_int_bool, it_int_str, it_int_tuple, it_int_list, it_int_dict, it_str_int, it_str_bool, it_str_str, it_str_tuple, it_str_list, it_str_dict, it_tup_int, it_tup_bool, it_tup_str, it_tup_tuple, it_tup_list, it_tup_dict, it_lst_int, it_lst_bool, it_lst_str, it_lst_tuple, it_lst_list, it_lst_dict, it_rol_int, it_rol_bool, it_rol_str, it_rol_tuple, it_rol_list, it_rol_dict, we_revt, we_fnv, wz_dic, wz_fn, we_dct0]
    exact h
theorem b7 (h1 : one.length ≤ 40) (h : Q.nx [a0, some (.tup (one.map .str)), a2, a3, a4, a5, a6, a7, a8, a9, some (.tup (one.map .str).reverse), some (.tup ((firsts one).map .str)), some (due one two), some (.tup ((one ++ two).map .str)), some (.tup (two.map .str)), a15, some (.ref 1)] s) : Ws (runS (cfg.q (k+9)) (.ife (.not (.tru (.call ("_law_same" : Str) [(.tup [(.call ("once" : Str) [(.var 1)]), (.call ("turned" : Str) [(.var 1)]), (.call ("counted" : Str) [(.var 1)])]), (.tup [(.var 11), (.var 10), (.tup [(.blt .str [(.blt .len [(.var 1)])])])])]))) [(.ret (some (.con (.bl false))))] []) [a0, some (.tup (one.map .str)), a2, a3, a4, a5, a6, a7, a8, a9, some (.tup (one.map .str).reverse), some (.tup ((firsts one).map .str)), some (due one two), some (.tup ((one ++ two).map .str)), some (.tup (two.map .str)), a15, some (.ref 1)] s) Q := by
  refine ws_ife ?_
  simp only [we_con, we_varm, we_glom, we_bin, we_neg, we_cmp, we_chain, we_and, we_or, we_not, we_ife, we_tup, we_lst, we_ix, we_sl, we_rev, we_call, we_blt, we_isi, we_app, we_lc, wa_nil, wa_cons, wr_nil, wr_cons, wo_none, wo_some, wto_none, wto_some, wt_and, wt_or, wt_not, wt_cmp, wt_chain, wt_tru, wi_seq, wi_range, wi_enum, wg_nm, wg_tup, wg_nil, wg_cons, wg_sub, wp_ok, wp_bad, wp_nox, wb_add, wb_sub, wb_mul, wb_fdiv, wb_mod, wb_pow, wc_eq, wc_ne, wc_lt, wc_le, wc_gt, wc_ge, wc_eqb, wc_neb, wc_eqs, wc_nes, wx_int, wx_lent, wx_lenl, wx_lenr, wz_int, wz_str, wz_bl, wz_non, wz_tup, wz_rol, wz_ref, wz_lst, List.getElem?_cons_zero, List.getElem?_cons_succ, List.set_cons_zero, List.set_cons_succ, List.length_cons, List.length_nil, wi_tup, wi_lst, wi_rol, wx_tuplel, wx_tuplet, wx_listt, wto_some, hdq, hqc, ite_f, ite_tt, decide_eq_true_eq, Bool.not_eq_true', wisT, ex_bl, ex_int, ite_tf, ite_ff, wix0, wix1, wix2, Nat.reduceAdd, Nat.reduceLT, sl0, sl1, sl2, sl3, sl4, sl5, sl6, sl10, if_true, true_and, and_true, List.map_cons, List.map_nil, wip, wt_turn, it_non_int, it_non_bool, it_non_str, it_non_tuple, it_non_list, it_non_dict, it_bl_int, it_bl_bool, it_bl_str, it_bl_tuple, it_bl_list, it_bl_dict, it_int_int, it_int_bool, it_int_str, it_int_tuple, it_int_list, it_int_dict, it_str_int, it_str_bool, it_str_str, it_str_tuple, it_str_list, it_str_dict, it_tup_int, it_tup_bool, it_tup_str, it_tup_tuple, it_tup_list, it_tup_dict, it_lst_int, it_lst_bool, it_lst_str, it_lst_tuple, it_lst_list, it_lst_dict, it_rol_int, it_rol_bool, it_rol_str, it_rol_tuple, it_rol_list, it_rol_dict, we_revt, we_fnv, wz_dic, wz_fn, we_dct0]
  refine wp_to (s_once (by omega)) ?_
  simp only [we_con, we_varm, we_glom, we_bin, we_neg, we_cmp, we_chain, we_and, we_or, we_not, we_ife, we_tup, we_lst, we_ix, we_sl, we_rev, we_call, we_blt, we_isi, we_app, we_lc, wa_nil, wa_cons, wr_nil, wr_cons, wo_none, wo_some, wto_none, wto_some, wt_and, wt_or, wt_not, wt_cmp, wt_chain, wt_tru, wi_seq, wi_range, wi_enum, wg_nm, wg_tup, wg_nil, wg_cons, wg_sub, wp_ok, wp_bad, wp_nox, wb_add, wb_sub, wb_mul, wb_fdiv, wb_mod, wb_pow, wc_eq, wc_ne, wc_lt, wc_le, wc_gt, wc_ge, wc_eqb, wc_neb, wc_eqs, wc_nes, wx_int, wx_lent, wx_lenl, wx_lenr, wz_int, wz_str, wz_bl, wz_non, wz_tup, wz_rol, wz_ref, wz_lst, List.getElem?_cons_zero, List.getElem?_cons_succ, List.set_cons_zero, List.set_cons_succ, List.length_cons, List.length_nil, wi_tup, wi_lst, wi_rol, wx_tuplel, wx_tuplet, wx_listt, wto_some, hdq, hqc, ite_f, ite_tt, decide_eq_true_eq, Bool.not_eq_true', wisT, ex_bl, ex_int, ite_tf, ite_ff, wix0, wix1, wix2, Nat.reduceAdd, Nat.reduceLT, sl0, sl1, sl2, sl3, sl4, sl5, sl6, sl10, if_true, true_and, and_true, List.map_cons, List.map_nil, wip, wt_turn, it_non_int, it_non_bool, it_non_str, it_non_tuple, it_non_list, it_non_dict, it_bl_int, it_bl_bool, it_bl_str, it_bl_tuple, it_bl_list, it_bl_dict, it_int_int, it_int_bool, it_int_str, it_int_tuple, it_int_list, it_int_dict, it_str_int, it_str_bool, it_str_str, it_str_tuple, it_str_list, it_str_dict, it_tup_int, it_tup_bool, it_tup_str, it_tup_tuple, it_tup_list, it_tup_dict, it_lst_int, it_lst_bool, it_lst_str, it_lst_tuple, it_lst_list, it_lst_dict, it_rol_int, it_rol_bool, it_rol_str, it_rol_tuple, it_rol_list, it_rol_dict, we_revt, we_fnv, wz_dic, wz_fn, we_dct0]
  refine .of s_turned ?_
  simp only [we_con, we_varm, we_glom, we_bin, we_neg, we_cmp, we_chain, we_and, we_or, we_not, we_ife, we_tup, we_lst, we_ix, we_sl, we_rev, we_call, we_blt, we_isi, we_app, we_lc, wa_nil, wa_cons, wr_nil, wr_cons, wo_none, wo_some, wto_none, wto_some, wt_and, wt_or, wt_not, wt_cmp, wt_chain, wt_tru, wi_seq, wi_range, wi_enum, wg_nm, wg_tup, wg_nil, wg_cons, wg_sub, wp_ok, wp_bad, wp_nox, wb_add, wb_sub, wb_mul, wb_fdiv, wb_mod, wb_pow, wc_eq, wc_ne, wc_lt, wc_le, wc_gt, wc_ge, wc_eqb, wc_neb, wc_eqs, wc_nes, wx_int, wx_lent, wx_lenl, wx_lenr, wz_int, wz_str, wz_bl, wz_non, wz_tup, wz_rol, wz_ref, wz_lst, List.getElem?_cons_zero, List.getElem?_cons_succ, List.set_cons_zero, List.set_cons_succ, List.length_cons, List.length_nil, wi_tup, wi_lst, wi_rol, wx_tuplel, wx_tuplet, wx_listt, wto_some, hdq, hqc, ite_f, ite_tt, decide_eq_true_eq, Bool.not_eq_true', wisT, ex_bl, ex_int, ite_tf, ite_ff, wix0, wix1, wix2, Nat.reduceAdd, Nat.reduceLT, sl0, sl1, sl2, sl3, sl4, sl5, sl6, sl10, if_true, true_and, and_true, List.map_cons, List.map_nil, wip, wt_turn, it_non_int, it_non_bool, it_non_str, it_non_tuple, it_non_list, it_non_dict, it_bl_int, it_bl_bool, it_bl_str, it_bl_tuple, it_bl_list, it_bl_dict, it_int_int, it_int_bool, it_int_str, it_int_tuple, it_int_list, it_int_dict, it_str_int, it_str_bool, it_str_str, it_str_tuple, it_str_list, it_str_dict, it_tup_int, it_tup_bool, it_tup_str, it_tup_tuple, it_tup_list, it_tup_dict, it_lst_int, it_lst_bool, it_lst_str, it_lst_tuple, it_lst_list, it_lst_dict, it_rol_int, it_rol_bool, it_rol_str, it_rol_tuple, it_rol_list, it_rol_dict, we_revt, we_fnv, wz_dic, wz_fn, we_dct0]
  refine wp_to (s_counted (by simp; omega)) ?_
  simp only [we_con, we_varm, we_glom, we_bin, we_neg, we_cmp, we_chain, we_and, we_or, we_not, we_ife, we_tup, we_lst, we_ix, we_sl, we_rev, we_call, we_blt, we_isi, we_app, we_lc, wa_nil, wa_cons, wr_nil, wr_cons, wo_none, wo_some, wto_none, wto_some, wt_and, wt_or, wt_not, wt_cmp, wt_chain, wt_tru, wi_seq, wi_range, wi_enum, wg_nm, wg_tup, wg_nil, wg_cons, wg_sub, wp_ok, wp_bad, wp_nox, wb_add, wb_sub, wb_mul, wb_fdiv, wb_mod, wb_pow, wc_eq, wc_ne, wc_lt, wc_le, wc_gt, wc_ge, wc_eqb, wc_neb, wc_eqs, wc_nes, wx_int, wx_lent, wx_lenl, wx_lenr, wz_int, wz_str, wz_bl, wz_non, wz_tup, wz_rol, wz_ref, wz_lst, List.getElem?_cons_zero, List.getElem?_cons_succ, List.set_cons_zero, List.set_cons_succ, List.length_cons, List.length_nil, wi_tup, wi_lst, wi_rol, wx_tuplel, wx_tuplet, wx_listt, wto_some, hdq, hqc, ite_f, ite_tt, decide_eq_true_eq, Bool.not_eq_true', wisT, ex_bl, ex_int, ite_tf, ite_ff, wix0, wix1, wix2, Nat.reduceAdd, Nat.reduceLT, sl0, sl1, sl2, sl3, sl4, sl5, sl6, sl10, if_true, true_and, and_true, List.map_cons, List.map_nil, wip, wt_turn, it_non_int, it_non_bool, it_non_str, it_non_tuple, it_non_list, it_non_dict, it_bl_int, it_bl_bool, it_bl_str, it_bl_tuple, it_bl_list, it_bl_dict, it_int_int, it_int_bool, it_int_str, it_int_tuple, it_int_list, it_int_dict, it_str_int, it_str_bool, it_str_str, it_str_tuple, it_str_list, it_str_dict, it_tup_int, it_tup_bool, it_tup_str, it_tup_tuple, it_tup_list, it_tup_dict, it_lst_int, it_lst_bool, it_lst_str, it_lst_tuple, it_lst_list, it_lst_dict, it_rol_int, it_rol_bool, it_rol_str, it_rol_tuple, it_rol_list, it_rol_dict, we_revt, we_fnv, wz_dic, wz_fn, we_dct0]
  rw [List.length_map, wx_strn (by omega)]
  rw [show numS one.length = .str (toString (one.length : Int)) from rfl]
  simp only [we_con, we_varm, we_glom, we_bin, we_neg, we_cmp, we_chain, we_and, we_or, we_not, we_ife, we_tup, we_lst, we_ix, we_sl, we_rev, we_call, we_blt, we_isi, we_app, we_lc, wa_nil, wa_cons, wr_nil, wr_cons, wo_none, wo_some, wto_none, wto_some, wt_and, wt_or, wt_not, wt_cmp, wt_chain, wt_tru, wi_seq, wi_range, wi_enum, wg_nm, wg_tup, wg_nil, wg_cons, wg_sub, wp_ok, wp_bad, wp_nox, wb_add, wb_sub, wb_mul, wb_fdiv, wb_mod, wb_pow, wc_eq, wc_ne, wc_lt, wc_le, wc_gt, wc_ge, wc_eqb, wc_neb, wc_eqs, wc_nes, wx_int, wx_lent, wx_lenl, wx_lenr, wz_int, wz_str, wz_bl, wz_non, wz_tup, wz_rol, wz_ref, wz_lst, List.getElem?_cons_zero, List.getElem?_cons_succ, List.set_cons_zero, List.set_cons_succ, List.length_cons, List.length_nil, wi_tup, wi_lst, wi_rol, wx_tuplel, wx_tuplet, wx_listt, wto_some, hdq, hqc, ite_f, ite_tt, decide_eq_true_eq, Bool.not_eq_true', wisT, ex_bl, ex_int, ite_tf, ite_ff, wix0, wix1, wix2, Nat.reduceAdd, Nat.reduceLT, sl0, sl1, sl2, sl3, sl4, sl5, sl6, sl10, if_true, true_and, and_true, List.map_cons, List.map_nil, wip, wt_turn, it_non_int, it_non_bool, it_non_str, it_non_tuple, it_non_list, it_non_dict, it_bl_int, it_bl_bool, it_bl_str, it_bl_tuple, it_bl_list, it_bl_dict, it_int_int, it_int_bool, it_int_str, it_int_tuple, it_int_list, it_int_dict, it_str_int, it_str_bool, it_str_str, it_str_tuple, it_str_list, it_str_dict, it_tup_int, it_tup_bool, it_tup_str, it_tup_tuple, it_tup_list, it_tup_dict, it_lst_int, it_lst_bool, it_lst_str, it_lst_tuple, it_lst_list, it_lst_dict, it_rol_int, it_rol_bool, it_rol_str, it_rol_tuple, it_rol_list, it_rol_dict, we_revt, we_fnv, wz_dic, wz_fn, we_dct0]
  rw [← List.map_reverse]
  have fl := firsts_len one
  refine same_ok (pl_3 (pl_ws (by omega)) (pl_ws (by simp; omega)) rfl) (Nat.le_trans (dep_3 (n := 1) dep_ws dep_ws (Nat.le_refl 1)) (by omega)) ?_
  simp only [we_con, we_varm, we_glom, we_bin, we_neg, we_cmp, we_chain, we_and, we_or, we_not, we_ife, we_tup, we_lst, we_ix, we_sl, we_rev, we_call, we_blt, we_isi, we_app, we_lc, wa_nil, wa_cons, wr_nil, wr_cons, wo_none, wo_some, wto_none, wto_some, wt_and, wt_or, wt_not, wt_cmp, wt_chain, wt_tru, wi_seq, wi_range, wi_enum, wg_nm, wg_tup, wg_nil, wg_cons, wg_sub, wp_ok, wp_bad, wp_nox, wb_add, wb_sub, wb_mul, wb_fdiv, wb_mod, wb_pow, wc_eq, wc_ne, wc_lt, wc_le, wc_gt, wc_ge, wc_eqb, wc_neb, wc_eqs, wc_nes, wx_int, wx_lent, wx_lenl, wx_lenr, wz_int, wz_str, wz_bl, wz_non, wz_tup, wz_rol, wz_ref, wz_lst, List.getElem?_cons_zero, List.getElem?_cons_succ, List.set_cons_zero, List.set_cons_succ, List.length_cons, List.length_nil, wi_tup, wi_lst, wi_rol, wx_tuplel, wx_tuplet, wx_listt, wto_some, hdq, hqc, ite_f, ite_tt, decide_eq_true_eq, Bool.not_eq_true', wisT, ex_bl, ex_int, ite_tf, ite_ff, wix0, wix1, wix2, Nat.reduceAdd, Nat.reduceLT, sl0, sl1, sl2, sl3, sl4, sl5, sl6, sl10, if_true, true_and, and_true, List.map_cons, List.map_nil, wip, wt_turn, it_non_int, it_non_bool, it_non_str, it_non_tuple, it_non_list, it_non_dict, it_bl_int, it_bl_bool, it_bl_str, it_bl_tuple, it_bl_list, it_bl_dict, it_int_int, it_int_bool, it_int_str, it_int_tuple, it_int_list, it_int_dict, it_str_int, it_str_bool, it_str_str, it_str_tuple, it_str_list, it_str_dict, it_tup_int, it_tup_bool, it_tup_str, it_tup_tuple, it_tup_list, it_tup_dict, it_lst_int, it_lst_bool, it_lst_str, it_lst_tuple, it_lst_list, it_lst_dict, it_rol_int, it_rol_bool, it_rol_str, it_rol_tuple, it_rol_list, it_rol_dict, we_revt, we_fnv, wz_dic, wz_fn, we_dct0]
  rw [ws_nil, List.map_reverse]
  exact h
theorem b8 (h1 : one.length ≤ 40) (h : Q.nx [a0, some (.tup (one.map .str)), a2, a3, a4, a5, a6, a7, some (.ref s.length), a9, some (.tup (one.map .str).reverse), some (.tup ((firsts one).map .str)), some (due one two), some (.tup ((one ++ two).map .str)), some (.tup (two.map .str)), a15, some (.ref 1)] (s ++ [.lst (L6.map fun w => .tup [.str w, madeBy w one])])) : Ws (runS (cfg.q (k+9)) (.asg (.nm 8) (.lst [(.tup [(.con (.str ("once" : Str))), (.var 11)]), (.tup [(.con (.str ("turned" : Str))), (.var 10)]), (.tup [(.con (.str ("count" : Str))), (.tup [(.blt .str [(.blt .len [(.var 1)])])])]), (.tup [(.con (.str ("sorted" : Str))), (.blt .tuple [(.blt .sorted [(.var 1)])])]), (.tup [(.con (.str ("first" : Str))), (.sl (.var 1) none (some (.con (.int 1))))]), (.tup [(.con (.str ("rest" : Str))), (.sl (.var 1) (some (.con (.int 1))) none)])])) [a0, some (.tup (one.map .str)), a2, a3, a4, a5, a6, a7, a8, a9, some (.tup (one.map .str).reverse), some (.tup ((firsts one).map .str)), some (due one two), some (.tup ((one ++ two).map .str)), some (.tup (two.map .str)), a15, some (.ref 1)] s) Q := by
  refine ws_asg ?_
  simp only [we_con, we_varm, we_glom, we_bin, we_neg, we_cmp, we_chain, we_and, we_or, we_not, we_ife, we_tup, we_lst, we_ix, we_sl, we_rev, we_call, we_blt, we_isi, we_app, we_lc, wa_nil, wa_cons, wr_nil, wr_cons, wo_none, wo_some, wto_none, wto_some, wt_and, wt_or, wt_not, wt_cmp, wt_chain, wt_tru, wi_seq, wi_range, wi_enum, wg_nm, wg_tup, wg_nil, wg_cons, wg_sub, wp_ok, wp_bad, wp_nox, wb_add, wb_sub, wb_mul, wb_fdiv, wb_mod, wb_pow, wc_eq, wc_ne, wc_lt, wc_le, wc_gt, wc_ge, wc_eqb, wc_neb, wc_eqs, wc_nes, wx_int, wx_lent, wx_lenl, wx_lenr, wz_int, wz_str, wz_bl, wz_non, wz_tup, wz_rol, wz_ref, wz_lst, List.getElem?_cons_zero, List.getElem?_cons_succ, List.set_cons_zero, List.set_cons_succ, List.length_cons, List.length_nil, wi_tup, wi_lst, wi_rol, wx_tuplel, wx_tuplet, wx_listt, wto_some, hdq, hqc, ite_f, ite_tt, decide_eq_true_eq, Bool.not_eq_true', wisT, ex_bl, ex_int, ite_tf, ite_ff, wix0, wix1, wix2, Nat.reduceAdd, Nat.reduceLT, sl0, sl1, sl2, sl3, sl4, sl5, sl6, sl10, if_true, true_and, and_true, List.map_cons, List.map_nil, wip, wt_turn, it_non_int, it_non_bool, it_non_str, it_non_tuple, it_non_list, it_non_dict, it_bl_int, it_bl_bool, it_bl_str, it_bl_tuple, it_bl_list, it_bl_dict, it_int_int, it_int_bool, it_int_str, it_int_tuple, it_int_list, it_int_dict, it_str_int, it_str_bool, it_str_str, it_str_tuple, it_str_list, it_str_dict, it_tup_int, it_tup_bool, it_tup_str, it_tup_tuple, it_tup_list, it_tup_dict, it_lst_int, it_lst_bool, it_lst_str, it_lst_tuple, it_lst_list, it_lst_dict, it_rol_int, it_rol_bool, it_rol_str, it_rol_tuple, it_rol_list, it_rol_dict, we_revt, we_fnv, wz_dic, wz_fn, we_dct0]
  rw [List.length_map, wx_strn (by omega)]
  rw [show numS one.length = .str (toString (one.length : Int)) from rfl]
  simp only [we_con, we_varm, we_glom, we_bin, we_neg, we_cmp, we_chain, we_and, we_or, we_not, we_ife, we_tup, we_lst, we_ix, we_sl, we_rev, we_call, we_blt, we_isi, we_app, we_lc, wa_nil, wa_cons, wr_nil, wr_cons, wo_none, wo_some, wto_none, wto_some, wt_and, wt_or, wt_not, wt_cmp, wt_chain, wt_tru, wi_seq, wi_range, wi_enum, wg_nm, wg_tup, wg_nil, wg_cons, wg_sub, wp_ok, wp_bad, wp_nox, wb_add, wb_sub, wb_mul, wb_fdiv, wb_mod, wb_pow, wc_eq, wc_ne, wc_lt, wc_le, wc_gt, wc_ge, wc_eqb, wc_neb, wc_eqs, wc_nes, wx_int, wx_lent, wx_lenl, wx_lenr, wz_int, wz_str, wz_bl, wz_non, wz_tup, wz_rol, wz_ref, wz_lst, List.getElem?_cons_zero, List.getElem?_cons_succ, List.set_cons_zero, List.set_cons_succ, List.length_cons, List.length_nil, wi_tup, wi_lst, wi_rol, wx_tuplel, wx_tuplet, wx_listt, wto_some, hdq, hqc, ite_f, ite_tt, decide_eq_true_eq, Bool.not_eq_true', wisT, ex_bl, ex_int, ite_tf, ite_ff, wix0, wix1, wix2, Nat.reduceAdd, Nat.reduceLT, sl0, sl1, sl2, sl3, sl4, sl5, sl6, sl10, if_true, true_and, and_true, List.map_cons, List.map_nil, wip, wt_turn, it_non_int, it_non_bool, it_non_str, it_non_tuple, it_non_list, it_non_dict, it_bl_int, it_bl_bool, it_bl_str, it_bl_tuple, it_bl_list, it_bl_dict, it_int_int, it_int_bool, it_int_str, it_int_tuple, it_int_list, it_int_dict, it_str_int, it_str_bool, it_str_str, it_str_tuple, it_str_list, it_str_dict, it_tup_int, it_tup_bool, it_tup_str, it_tup_tuple, it_tup_list, it_tup_dict, it_lst_int, it_lst_bool, it_lst_str, it_lst_tuple, it_lst_list, it_lst_dict, it_rol_int, it_rol_bool, it_rol_str, it_rol_tuple, it_rol_list, it_rol_dict, we_revt, we_fnv, wz_dic, wz_fn, we_dct0, wx_sorteds, ws_slt]
  exact h
end
end DI.L

set_option Elab.async false
set_option linter.all false
set_option maxRecDepth 100000
set_option maxHeartbeats 4000000
/-! the plain law of k00, J: a turn of the law, its end. -/
namespace DI.L
open PySem L2
theorem c_state (k : Nat) (d : D) (s : S) : cl (k+1) "is_state" [d] s = runF (cfg.q k) 1 d_is_state.body [d] s := by kernel_rfl
theorem c_result (k : Nat) (d : D) (s : S) : cl (k+1) "is_result" [d] s = runF (cfg.q k) 1 d_is_result.body [d] s := by kernel_rfl
theorem s_stateM {k : Nat} {ws : List Str} {s : S} (hl : ws.length ≤ 40) (h : ∀ x ∈ ws, x ∈ W8) : Wp E0 (cl (k+3) "is_state" [.tup [.str "made", .tup (ws.map .str)]] s) fun d s' => d = .bl true ∧ s' = s := by
  rw [c_state]
  refine wf_run ?_
  show Ws (runSs (cfg.q (k+2)) d_is_state.body [some (.tup [.str "made", .tup (ws.map .str)])] s) _
  unfold d_is_state
  refine ws_skip (.of (by kernel_rfl) ⟨rfl, rfl⟩) ?_
  refine ws_skip (.of (by kernel_rfl) ⟨rfl, rfl⟩) ?_
  refine ws_take (.of (by kernel_rfl) ⟨rfl, rfl⟩) ?_
  refine ws_rets ?_
  simp only [we_con, we_varm, we_glom, we_bin, we_neg, we_cmp, we_chain, we_and, we_or, we_not, we_ife, we_tup, we_lst, we_ix, we_sl, we_rev, we_call, we_blt, we_isi, we_app, we_lc, wa_nil, wa_cons, wr_nil, wr_cons, wo_none, wo_some, wto_none, wto_some, wt_and, wt_or, wt_not, wt_cmp, wt_chain, wt_tru, wi_seq, wi_range, wi_enum, wg_nm, wg_tup, wg_nil, wg_cons, wg_sub, wp_ok, wp_bad, wp_nox, wb_add, wb_sub, wb_mul, wb_fdiv, wb_mod, wb_pow, wc_eq, wc_ne, wc_lt, wc_le, wc_gt, wc_ge, wc_eqb, wc_neb, wc_eqs, wc_nes, wx_int, wx_lent, wx_lenl, wx_lenr, wz_int, wz_str, wz_bl, wz_non, wz_tup, wz_rol, wz_ref, wz_lst, List.getElem?_cons_zero, List.getElem?_cons_succ, List.set_cons_zero, List.set_cons_succ, List.length_cons, List.length_nil, wi_tup, wi_lst, wi_rol, wx_tuplel, wx_tuplet, wx_listt, wto_some, hdq, hqc, ite_f, ite_tt, decide_eq_true_eq, Bool.not_eq_true', wisT, ex_bl, ex_int, ite_tf, ite_ff, wix0, wix1, wix2, Nat.reduceAdd, Nat.reduceLT, sl0, sl1, sl2, sl3, sl4, sl5, sl6, sl10, if_true, true_and, and_true, List.map_cons, List.map_nil, wip, wt_turn, it_non_int, it_non_bool, it_non_str, it_non_tuple, it_non_list, it_non_dict, it_bl_int, it_bl_bool, it_bl_str, it_bl_tuple, it_bl_list, it_bl_dict, it_int_int, it_int_bool, it_int_str, it_int_tuple, it_int_list, it_int_dict, it_str_int, it_str_bool, it_str_str, it_str_tuple, it_str_list, it_str_dict, it_tup_int, it_tup_bool, it_tup_str, it_tup_tuple, it_tup_list, it_tup_dict, it_lst_int, it_lst_bool, it_lst_str, it_lst_tuple, it_lst_list, it_lst_dict, it_rol_int, it_rol_bool, it_rol_str, it_rol_tuple, it_rol_list, it_rol_dict, we_revt, we_fnv, wz_dic, wz_fn, we_dct0]
  rw [if_pos (by decide)]
  refine wp_to (s_content (by omega) h) ?_
  rw [decide_eq_true hl]
  exact ⟨rfl, rfl⟩
theorem s_resultM {k : Nat} {ws : List Str} {s : S} (hl : ws.length ≤ 40) (h : ∀ x ∈ ws, x ∈ W8) : Wp E0 (cl (k+4) "is_result" [.tup [.str "made", .tup (ws.map .str)]] s) fun d s' => d = .bl true ∧ s' = s := by
  rw [c_result]
  refine wf_run ?_
  show Ws (runSs (cfg.q (k+3)) d_is_result.body [some (.tup [.str "made", .tup (ws.map .str)])] s) _
  unfold d_is_result
  refine ws_rets ?_
  simp only [we_con, we_varm, we_glom, we_bin, we_neg, we_cmp, we_chain, we_and, we_or, we_not, we_ife, we_tup, we_lst, we_ix, we_sl, we_rev, we_call, we_blt, we_isi, we_app, we_lc, wa_nil, wa_cons, wr_nil, wr_cons, wo_none, wo_some, wto_none, wto_some, wt_and, wt_or, wt_not, wt_cmp, wt_chain, wt_tru, wi_seq, wi_range, wi_enum, wg_nm, wg_tup, wg_nil, wg_cons, wg_sub, wp_ok, wp_bad, wp_nox, wb_add, wb_sub, wb_mul, wb_fdiv, wb_mod, wb_pow, wc_eq, wc_ne, wc_lt, wc_le, wc_gt, wc_ge, wc_eqb, wc_neb, wc_eqs, wc_nes, wx_int, wx_lent, wx_lenl, wx_lenr, wz_int, wz_str, wz_bl, wz_non, wz_tup, wz_rol, wz_ref, wz_lst, List.getElem?_cons_zero, List.getElem?_cons_succ, List.set_cons_zero, List.set_cons_succ, List.length_cons, List.length_nil, wi_tup, wi_lst, wi_rol, wx_tuplel, wx_tuplet, wx_listt, wto_some, hdq, hqc, ite_f, ite_tt, decide_eq_true_eq, Bool.not_eq_true', wisT, ex_bl, ex_int, ite_tf, ite_ff, wix0, wix1, wix2, Nat.reduceAdd, Nat.reduceLT, sl0, sl1, sl2, sl3, sl4, sl5, sl6, sl10, if_true, true_and, and_true, List.map_cons, List.map_nil, wip, wt_turn, it_non_int, it_non_bool, it_non_str, it_non_tuple, it_non_list, it_non_dict, it_bl_int, it_bl_bool, it_bl_str, it_bl_tuple, it_bl_list, it_bl_dict, it_int_int, it_int_bool, it_int_str, it_int_tuple, it_int_list, it_int_dict, it_str_int, it_str_bool, it_str_str, it_str_tuple, it_str_list, it_str_dict, it_tup_int, it_tup_bool, it_tup_str, it_tup_tuple, it_tup_list, it_tup_dict, it_lst_int, it_lst_bool, it_lst_str, it_lst_tuple, it_lst_list, it_lst_dict, it_rol_int, it_rol_bool, it_rol_str, it_rol_tuple, it_rol_list, it_rol_dict, we_revt, we_fnv, wz_dic, wz_fn, we_dct0]
  refine wp_to (s_stateM hl h) ?_
  simp only [we_con, we_varm, we_glom, we_bin, we_neg, we_cmp, we_chain, we_and, we_or, we_not, we_ife, we_tup, we_lst, we_ix, we_sl, we_rev, we_call, we_blt, we_isi, we_app, we_lc, wa_nil, wa_cons, wr_nil, wr_cons, wo_none, wo_some, wto_none, wto_some, wt_and, wt_or, wt_not, wt_cmp, wt_chain, wt_tru, wi_seq, wi_range, wi_enum, wg_nm, wg_tup, wg_nil, wg_cons, wg_sub, wp_ok, wp_bad, wp_nox, wb_add, wb_sub, wb_mul, wb_fdiv, wb_mod, wb_pow, wc_eq, wc_ne, wc_lt, wc_le, wc_gt, wc_ge, wc_eqb, wc_neb, wc_eqs, wc_nes, wx_int, wx_lent, wx_lenl, wx_lenr, wz_int, wz_str, wz_bl, wz_non, wz_tup, wz_rol, wz_ref, wz_lst, List.getElem?_cons_zero, List.getElem?_cons_succ, List.set_cons_zero, List.set_cons_succ, List.length_cons, List.length_nil, wi_tup, wi_lst, wi_rol, wx_tuplel, wx_tuplet, wx_listt, wto_some, hdq, hqc, ite_f, ite_tt, decide_eq_true_eq, Bool.not_eq_true', wisT, ex_bl, ex_int, ite_tf, ite_ff, wix0, wix1, wix2, Nat.reduceAdd, Nat.reduceLT, sl0, sl1, sl2, sl3, sl4, sl5, sl6, sl10, if_true, true_and, and_true, List.map_cons, List.map_nil, wip, wt_turn, it_non_int, it_non_bool, it_non_str, it_non_tuple, it_non_list, it_non_dict, it_bl_int, it_bl_bool, it_bl_str, it_bl_tuple, it_bl_list, it_bl_dict, it_int_int, it_int_bool, it_int_str, it_int_tuple, it_int_list, it_int_dict, it_str_int, it_str_bool, it_str_str, it_str_tuple, it_str_list, it_str_dict, it_tup_int, it_tup_bool, it_tup_str, it_tup_tuple, it_tup_list, it_tup_dict, it_lst_int, it_lst_bool, it_lst_str, it_lst_tuple, it_lst_list, it_lst_dict, it_rol_int, it_rol_bool, it_rol_str, it_rol_tuple, it_rol_list, it_rol_dict, we_revt, we_fnv, wz_dic, wz_fn, we_dct0]
  kernel_rfl
theorem it_refl {s t : S} {xs : List D} {ty : Ty} : isT (.ref s.length) ty (s ++ O.lst xs :: t) = some (ty == Ty.list) := by
  show (match lk (s ++ O.lst xs :: t) s.length with
    | some _ => some (ty == Ty.list)
    | none => (dk (s ++ O.lst xs :: t) s.length).map fun _ => ty == Ty.dict) = _
  have : lk (s ++ O.lst xs :: t) s.length = some xs := by
    unfold lk
    rw [app_at0]; rfl
  rw [this]
theorem s_contentL {k : Nat} {xs : List D} {s t : S} : Wp E0 (cl (k+1) "is_content" [.ref s.length] (s ++ O.lst xs :: t)) fun d s' => d = .bl false ∧ s' = s ++ O.lst xs :: t := by
  rw [c_content]
  refine wf_run ?_
  show Ws (runSs (cfg.q k) d_is_content.body [some (.ref s.length), none] _) _
  unfold d_is_content
  refine ws_rets ?_
  rw [we_and, we_isi, we_varm]
  show ∃ k, isT (.ref s.length) .tuple (s ++ O.lst xs :: t) = some k ∧ _
  rw [it_refl]
  exact ⟨_, rfl, _, rfl, rfl, rfl⟩
theorem cut_takeA {xs : List D} {k : Nat} : cutD xs none (some (k : Int)) = xs.take k := by
  by_cases h : k ≤ xs.length
  · exact cut_take h
  · unfold cutD
    have e1 : HT.sIx xs.length 0 none = 0 := rfl
    have e2 : HT.sIx xs.length xs.length (some (k : Int)) = xs.length := by
      rw [HT.sIx_nat]; omega
    rw [e1, e2, List.drop_zero, Nat.sub_zero, List.take_of_length_le (Nat.le_refl _), List.take_of_length_le (by omega)]
section
variable {k r : Nat} {s : S} {Q : Kt} {one two : List Str} {a0 a1 a2 a3 a4 a5 a6 a7 a8 a9 a10 a11 a12 a13 a14 a15 : Option D}
theorem b9 (h1 : one.length ≤ 40) (hl : lk s r = some (L6.map fun w => .tup [.str w, madeBy w one])) (h : ∀ a6 a7 t, Q.nx [a0, some (.tup (one.map .str)), a2, a3, a4, a5, a6, a7, some (.ref r), a9, some (.tup (one.map .str).reverse), some (.tup ((firsts one).map .str)), some (due one two), some (.tup ((one ++ two).map .str)), some (.tup (two.map .str)), a15, some (.ref 1)] (s ++ t)) : Ws (runS (cfg.q (k+9)) (.fo (.tup [(.nm 7), (.nm 6)]) (.seq (.var 8)) [(.ife (.not (.tru (.call ("_law_same" : Str) [(.call ("_law_made" : Str) [(.tup [(.var 7), (.tup [(.con (.str ("words" : Str))), (.var 1)])])]), (.tup [(.con (.str ("made" : Str))), (.var 6), (.tup [])])]))) [(.ret (some (.con (.bl false))))] [])]) [a0, some (.tup (one.map .str)), a2, a3, a4, a5, a6, a7, some (.ref r), a9, some (.tup (one.map .str).reverse), some (.tup ((firsts one).map .str)), some (due one two), some (.tup ((one ++ two).map .str)), some (.tup (two.map .str)), a15, some (.ref 1)] s) Q := by
  refine ws_fol (l := L6.map fun w => .tup [.str w, madeBy w one]) (ok := okR r (L6.map fun w => .tup [.str w, madeBy w one])) ?_ (fun l ρ s' => ∃ (b : List Str) (a6 a7 : Option D) (t : S), (∀ x ∈ b, x ∈ L6) ∧ l = b.map (fun w => .tup [.str w, madeBy w one]) ∧ ρ = [a0, some (.tup (one.map .str)), a2, a3, a4, a5, a6, a7, some (.ref r), a9, some (.tup (one.map .str).reverse), some (.tup ((firsts one).map .str)), some (due one two), some (.tup ((one ++ two).map .str)), some (.tup (two.map .str)), a15, some (.ref 1)] ∧ s' = s ++ t) ⟨L6, a6, a7, [], fun x hx => hx, rfl, rfl, (List.append_nil s).symm⟩ ?_ ?_
  · rw [wi_seq, we_varm]
    simp only [List.getElem?_cons_zero, List.getElem?_cons_succ]
    rw [wi_ref hl]
    exact ⟨rfl, rfl⟩
  · rintro ρ s' ⟨b, x6, x7, t, _, _, rfl, rfl⟩
    exact ⟨okR_ok (lk_app hl), h x6 x7 t⟩
  · rintro x xs ρ s' ⟨b, x6, x7, t, hb, e, rfl, rfl⟩
    cases b with
    | nil => cases e
    | cons w b =>
      rw [List.map_cons] at e
      obtain ⟨rfl, rfl⟩ := List.cons.inj e
      refine ⟨okR_ok (lk_app hl), ?_⟩
      obtain ⟨l, hl2, el⟩ := madeBy_ws w one
      have hw : w ∈ L6 := hb w List.mem_cons_self
      have sh : (madeBy w one).shr = true := by rw [el]; rfl
      simp only [we_con, we_varm, we_glom, we_bin, we_neg, we_cmp, we_chain, we_and, we_or, we_not, we_ife, we_tup, we_lst, we_ix, we_sl, we_rev, we_call, we_blt, we_isi, we_app, we_lc, wa_nil, wa_cons, wr_nil, wr_cons, wo_none, wo_some, wto_none, wto_some, wt_and, wt_or, wt_not, wt_cmp, wt_chain, wt_tru, wi_seq, wi_range, wi_enum, wg_nm, wg_tup, wg_nil, wg_cons, wg_sub, wp_ok, wp_bad, wp_nox, wb_add, wb_sub, wb_mul, wb_fdiv, wb_mod, wb_pow, wc_eq, wc_ne, wc_lt, wc_le, wc_gt, wc_ge, wc_eqb, wc_neb, wc_eqs, wc_nes, wx_int, wx_lent, wx_lenl, wx_lenr, wz_int, wz_str, wz_bl, wz_non, wz_tup, wz_rol, wz_ref, wz_lst, List.getElem?_cons_zero, List.getElem?_cons_succ, List.set_cons_zero, List.set_cons_succ, List.length_cons, List.length_nil, wi_tup, wi_lst, wi_rol, wx_tuplel, wx_tuplet, wx_listt, wto_some, hdq, hqc, ite_f, ite_tt, decide_eq_true_eq, Bool.not_eq_true', wisT, ex_bl, ex_int, ite_tf, ite_ff, wix0, wix1, wix2, Nat.reduceAdd, Nat.reduceLT, sl0, sl1, sl2, sl3, sl4, sl5, sl6, sl10, if_true, true_and, and_true, List.map_cons, List.map_nil, wip, wt_turn, it_non_int, it_non_bool, it_non_str, it_non_tuple, it_non_list, it_non_dict, it_bl_int, it_bl_bool, it_bl_str, it_bl_tuple, it_bl_list, it_bl_dict, it_int_int, it_int_bool, it_int_str, it_int_tuple, it_int_list, it_int_dict, it_str_int, it_str_bool, it_str_str, it_str_tuple, it_str_list, it_str_dict, it_tup_int, it_tup_bool, it_tup_str, it_tup_tuple, it_tup_list, it_tup_dict, it_lst_int, it_lst_bool, it_lst_str, it_lst_tuple, it_lst_list, it_lst_dict, it_rol_int, it_rol_bool, it_rol_str, it_rol_tuple, it_rol_list, it_rol_dict, we_revt, we_fnv, wz_dic, wz_fn, we_dct0, wz_shr sh]
      refine ws_1 (ws_ife ?_)
      simp only [we_con, we_varm, we_glom, we_bin, we_neg, we_cmp, we_chain, we_and, we_or, we_not, we_ife, we_tup, we_lst, we_ix, we_sl, we_rev, we_call, we_blt, we_isi, we_app, we_lc, wa_nil, wa_cons, wr_nil, wr_cons, wo_none, wo_some, wto_none, wto_some, wt_and, wt_or, wt_not, wt_cmp, wt_chain, wt_tru, wi_seq, wi_range, wi_enum, wg_nm, wg_tup, wg_nil, wg_cons, wg_sub, wp_ok, wp_bad, wp_nox, wb_add, wb_sub, wb_mul, wb_fdiv, wb_mod, wb_pow, wc_eq, wc_ne, wc_lt, wc_le, wc_gt, wc_ge, wc_eqb, wc_neb, wc_eqs, wc_nes, wx_int, wx_lent, wx_lenl, wx_lenr, wz_int, wz_str, wz_bl, wz_non, wz_tup, wz_rol, wz_ref, wz_lst, List.getElem?_cons_zero, List.getElem?_cons_succ, List.set_cons_zero, List.set_cons_succ, List.length_cons, List.length_nil, wi_tup, wi_lst, wi_rol, wx_tuplel, wx_tuplet, wx_listt, wto_some, hdq, hqc, ite_f, ite_tt, decide_eq_true_eq, Bool.not_eq_true', wisT, ex_bl, ex_int, ite_tf, ite_ff, wix0, wix1, wix2, Nat.reduceAdd, Nat.reduceLT, sl0, sl1, sl2, sl3, sl4, sl5, sl6, sl10, if_true, true_and, and_true, List.map_cons, List.map_nil, wip, wt_turn, it_non_int, it_non_bool, it_non_str, it_non_tuple, it_non_list, it_non_dict, it_bl_int, it_bl_bool, it_bl_str, it_bl_tuple, it_bl_list, it_bl_dict, it_int_int, it_int_bool, it_int_str, it_int_tuple, it_int_list, it_int_dict, it_str_int, it_str_bool, it_str_str, it_str_tuple, it_str_list, it_str_dict, it_tup_int, it_tup_bool, it_tup_str, it_tup_tuple, it_tup_list, it_tup_dict, it_lst_int, it_lst_bool, it_lst_str, it_lst_tuple, it_lst_list, it_lst_dict, it_rol_int, it_rol_bool, it_rol_str, it_rol_tuple, it_rol_list, it_rol_dict, we_revt, we_fnv, wz_dic, wz_fn, we_dct0, wz_shr sh]
      refine s_made (k := k+4) rfl (comes_word (k := k+4) (by omega) hw) fun a b2 t2 hR => ?_
      obtain ⟨rfl, rfl⟩ := hR
      simp only [we_con, we_varm, we_glom, we_bin, we_neg, we_cmp, we_chain, we_and, we_or, we_not, we_ife, we_tup, we_lst, we_ix, we_sl, we_rev, we_call, we_blt, we_isi, we_app, we_lc, wa_nil, wa_cons, wr_nil, wr_cons, wo_none, wo_some, wto_none, wto_some, wt_and, wt_or, wt_not, wt_cmp, wt_chain, wt_tru, wi_seq, wi_range, wi_enum, wg_nm, wg_tup, wg_nil, wg_cons, wg_sub, wp_ok, wp_bad, wp_nox, wb_add, wb_sub, wb_mul, wb_fdiv, wb_mod, wb_pow, wc_eq, wc_ne, wc_lt, wc_le, wc_gt, wc_ge, wc_eqb, wc_neb, wc_eqs, wc_nes, wx_int, wx_lent, wx_lenl, wx_lenr, wz_int, wz_str, wz_bl, wz_non, wz_tup, wz_rol, wz_ref, wz_lst, List.getElem?_cons_zero, List.getElem?_cons_succ, List.set_cons_zero, List.set_cons_succ, List.length_cons, List.length_nil, wi_tup, wi_lst, wi_rol, wx_tuplel, wx_tuplet, wx_listt, wto_some, hdq, hqc, ite_f, ite_tt, decide_eq_true_eq, Bool.not_eq_true', wisT, ex_bl, ex_int, ite_tf, ite_ff, wix0, wix1, wix2, Nat.reduceAdd, Nat.reduceLT, sl0, sl1, sl2, sl3, sl4, sl5, sl6, sl10, if_true, true_and, and_true, List.map_cons, List.map_nil, wip, wt_turn, it_non_int, it_non_bool, it_non_str, it_non_tuple, it_non_list, it_non_dict, it_bl_int, it_bl_bool, it_bl_str, it_bl_tuple, it_bl_list, it_bl_dict, it_int_int, it_int_bool, it_int_str, it_int_tuple, it_int_list, it_int_dict, it_str_int, it_str_bool, it_str_str, it_str_tuple, it_str_list, it_str_dict, it_tup_int, it_tup_bool, it_tup_str, it_tup_tuple, it_tup_list, it_tup_dict, it_lst_int, it_lst_bool, it_lst_str, it_lst_tuple, it_lst_list, it_lst_dict, it_rol_int, it_rol_bool, it_rol_str, it_rol_tuple, it_rol_list, it_rol_dict, we_revt, we_fnv, wz_dic, wz_fn, we_dct0, wz_shr sh]
      refine same_ok (pl_3 rfl (by rw [el]; exact pl_ws (by omega)) rfl) (Nat.le_trans (dep_3 (n := 1) (Nat.zero_le _) (by rw [el]; exact dep_ws) (by decide)) (by omega)) ?_
      simp only [we_con, we_varm, we_glom, we_bin, we_neg, we_cmp, we_chain, we_and, we_or, we_not, we_ife, we_tup, we_lst, we_ix, we_sl, we_rev, we_call, we_blt, we_isi, we_app, we_lc, wa_nil, wa_cons, wr_nil, wr_cons, wo_none, wo_some, wto_none, wto_some, wt_and, wt_or, wt_not, wt_cmp, wt_chain, wt_tru, wi_seq, wi_range, wi_enum, wg_nm, wg_tup, wg_nil, wg_cons, wg_sub, wp_ok, wp_bad, wp_nox, wb_add, wb_sub, wb_mul, wb_fdiv, wb_mod, wb_pow, wc_eq, wc_ne, wc_lt, wc_le, wc_gt, wc_ge, wc_eqb, wc_neb, wc_eqs, wc_nes, wx_int, wx_lent, wx_lenl, wx_lenr, wz_int, wz_str, wz_bl, wz_non, wz_tup, wz_rol, wz_ref, wz_lst, List.getElem?_cons_zero, List.getElem?_cons_succ, List.set_cons_zero, List.set_cons_succ, List.length_cons, List.length_nil, wi_tup, wi_lst, wi_rol, wx_tuplel, wx_tuplet, wx_listt, wto_some, hdq, hqc, ite_f, ite_tt, decide_eq_true_eq, Bool.not_eq_true', wisT, ex_bl, ex_int, ite_tf, ite_ff, wix0, wix1, wix2, Nat.reduceAdd, Nat.reduceLT, sl0, sl1, sl2, sl3, sl4, sl5, sl6, sl10, if_true, true_and, and_true, List.map_cons, List.map_nil, wip, wt_turn, it_non_int, it_non_bool, it_non_str, it_non_tuple, it_non_list, it_non_dict, it_bl_int, it_bl_bool, it_bl_str, it_bl_tuple, it_bl_list, it_bl_dict, it_int_int, it_int_bool, it_int_str, it_int_tuple, it_int_list, it_int_dict, it_str_int, it_str_bool, it_str_str, it_str_tuple, it_str_list, it_str_dict, it_tup_int, it_tup_bool, it_tup_str, it_tup_tuple, it_tup_list, it_tup_dict, it_lst_int, it_lst_bool, it_lst_str, it_lst_tuple, it_lst_list, it_lst_dict, it_rol_int, it_rol_bool, it_rol_str, it_rol_tuple, it_rol_list, it_rol_dict, we_revt, we_fnv, wz_dic, wz_fn, we_dct0]
      rw [ws_nil]
      exact ⟨b, _, _, t ++ t2, fun x hx => hb x (List.mem_cons_of_mem _ hx), rfl, rfl, List.append_assoc ..⟩
theorem b10 (h1 : one.length ≤ 40) (w1 : ∀ x ∈ one, x ∈ W8) (h : ∀ t, Q.nx [a0, some (.tup (one.map .str)), a2, a3, a4, a5, a6, a7, a8, a9, a10, a11, a12, a13, a14, a15, some (.ref 1)] (s ++ t)) : Ws (runS (cfg.q (k+9)) (.ife (.or (.not (.tru (.call ("_law_same" : Str) [(.call ("_law_made" : Str) [(.tup [(.con (.str ("fail" : Str))), (.tup [(.con (.str ("words" : Str))), (.var 1)])])]), (.tup [(.con (.str ("failed" : Str))), (.tup [(.con (.str ("fail" : Str))), (.var 1)]), (.tup [])])]))) (.or (.cmp .isn (.call ("is_state" : Str) [(.tup [(.con (.str ("made" : Str))), (.var 1)])]) (.con (.bl true))) (.cmp .isn (.call ("is_result" : Str) [(.tup [(.con (.str ("made" : Str))), (.var 1)])]) (.con (.bl true))))) [(.ret (some (.con (.bl false))))] []) [a0, some (.tup (one.map .str)), a2, a3, a4, a5, a6, a7, a8, a9, a10, a11, a12, a13, a14, a15, some (.ref 1)] s) Q := by
  refine ws_ife ?_
  simp only [we_con, we_varm, we_glom, we_bin, we_neg, we_cmp, we_chain, we_and, we_or, we_not, we_ife, we_tup, we_lst, we_ix, we_sl, we_rev, we_call, we_blt, we_isi, we_app, we_lc, wa_nil, wa_cons, wr_nil, wr_cons, wo_none, wo_some, wto_none, wto_some, wt_and, wt_or, wt_not, wt_cmp, wt_chain, wt_tru, wi_seq, wi_range, wi_enum, wg_nm, wg_tup, wg_nil, wg_cons, wg_sub, wp_ok, wp_bad, wp_nox, wb_add, wb_sub, wb_mul, wb_fdiv, wb_mod, wb_pow, wc_eq, wc_ne, wc_lt, wc_le, wc_gt, wc_ge, wc_eqb, wc_neb, wc_eqs, wc_nes, wx_int, wx_lent, wx_lenl, wx_lenr, wz_int, wz_str, wz_bl, wz_non, wz_tup, wz_rol, wz_ref, wz_lst, List.getElem?_cons_zero, List.getElem?_cons_succ, List.set_cons_zero, List.set_cons_succ, List.length_cons, List.length_nil, wi_tup, wi_lst, wi_rol, wx_tuplel, wx_tuplet, wx_listt, wto_some, hdq, hqc, ite_f, ite_tt, decide_eq_true_eq, Bool.not_eq_true', wisT, ex_bl, ex_int, ite_tf, ite_ff, wix0, wix1, wix2, Nat.reduceAdd, Nat.reduceLT, sl0, sl1, sl2, sl3, sl4, sl5, sl6, sl10, if_true, true_and, and_true, List.map_cons, List.map_nil, wip, wt_turn, it_non_int, it_non_bool, it_non_str, it_non_tuple, it_non_list, it_non_dict, it_bl_int, it_bl_bool, it_bl_str, it_bl_tuple, it_bl_list, it_bl_dict, it_int_int, it_int_bool, it_int_str, it_int_tuple, it_int_list, it_int_dict, it_str_int, it_str_bool, it_str_str, it_str_tuple, it_str_list, it_str_dict, it_tup_int, it_tup_bool, it_tup_str, it_tup_tuple, it_tup_list, it_tup_dict, it_lst_int, it_lst_bool, it_lst_str, it_lst_tuple, it_lst_list, it_lst_dict, it_rol_int, it_rol_bool, it_rol_str, it_rol_tuple, it_rol_list, it_rol_dict, we_revt, we_fnv, wz_dic, wz_fn, we_dct0]
  refine s_made (k := k+4) rfl (comes_fail (k := k+4)) fun a b t hR => ?_
  obtain ⟨rfl, rfl⟩ := hR
  simp only [we_con, we_varm, we_glom, we_bin, we_neg, we_cmp, we_chain, we_and, we_or, we_not, we_ife, we_tup, we_lst, we_ix, we_sl, we_rev, we_call, we_blt, we_isi, we_app, we_lc, wa_nil, wa_cons, wr_nil, wr_cons, wo_none, wo_some, wto_none, wto_some, wt_and, wt_or, wt_not, wt_cmp, wt_chain, wt_tru, wi_seq, wi_range, wi_enum, wg_nm, wg_tup, wg_nil, wg_cons, wg_sub, wp_ok, wp_bad, wp_nox, wb_add, wb_sub, wb_mul, wb_fdiv, wb_mod, wb_pow, wc_eq, wc_ne, wc_lt, wc_le, wc_gt, wc_ge, wc_eqb, wc_neb, wc_eqs, wc_nes, wx_int, wx_lent, wx_lenl, wx_lenr, wz_int, wz_str, wz_bl, wz_non, wz_tup, wz_rol, wz_ref, wz_lst, List.getElem?_cons_zero, List.getElem?_cons_succ, List.set_cons_zero, List.set_cons_succ, List.length_cons, List.length_nil, wi_tup, wi_lst, wi_rol, wx_tuplel, wx_tuplet, wx_listt, wto_some, hdq, hqc, ite_f, ite_tt, decide_eq_true_eq, Bool.not_eq_true', wisT, ex_bl, ex_int, ite_tf, ite_ff, wix0, wix1, wix2, Nat.reduceAdd, Nat.reduceLT, sl0, sl1, sl2, sl3, sl4, sl5, sl6, sl10, if_true, true_and, and_true, List.map_cons, List.map_nil, wip, wt_turn, it_non_int, it_non_bool, it_non_str, it_non_tuple, it_non_list, it_non_dict, it_bl_int, it_bl_bool, it_bl_str, it_bl_tuple, it_bl_list, it_bl_dict, it_int_int, it_int_bool, it_int_str, it_int_tuple, it_int_list, it_int_dict, it_str_int, it_str_bool, it_str_str, it_str_tuple, it_str_list, it_str_dict, it_tup_int, it_tup_bool, it_tup_str, it_tup_tuple, it_tup_list, it_tup_dict, it_lst_int, it_lst_bool, it_lst_str, it_lst_tuple, it_lst_list, it_lst_dict, it_rol_int, it_rol_bool, it_rol_str, it_rol_tuple, it_rol_list, it_rol_dict, we_revt, we_fnv, wz_dic, wz_fn, we_dct0]
  refine same_ok (pl_3 rfl (pl_2 rfl (pl_ws (by omega))) rfl) (Nat.le_trans (dep_3 (n := 2) (Nat.zero_le _) (dep_2 (Nat.zero_le _) dep_ws) (by decide)) (by omega)) ?_
  simp only [we_con, we_varm, we_glom, we_bin, we_neg, we_cmp, we_chain, we_and, we_or, we_not, we_ife, we_tup, we_lst, we_ix, we_sl, we_rev, we_call, we_blt, we_isi, we_app, we_lc, wa_nil, wa_cons, wr_nil, wr_cons, wo_none, wo_some, wto_none, wto_some, wt_and, wt_or, wt_not, wt_cmp, wt_chain, wt_tru, wi_seq, wi_range, wi_enum, wg_nm, wg_tup, wg_nil, wg_cons, wg_sub, wp_ok, wp_bad, wp_nox, wb_add, wb_sub, wb_mul, wb_fdiv, wb_mod, wb_pow, wc_eq, wc_ne, wc_lt, wc_le, wc_gt, wc_ge, wc_eqb, wc_neb, wc_eqs, wc_nes, wx_int, wx_lent, wx_lenl, wx_lenr, wz_int, wz_str, wz_bl, wz_non, wz_tup, wz_rol, wz_ref, wz_lst, List.getElem?_cons_zero, List.getElem?_cons_succ, List.set_cons_zero, List.set_cons_succ, List.length_cons, List.length_nil, wi_tup, wi_lst, wi_rol, wx_tuplel, wx_tuplet, wx_listt, wto_some, hdq, hqc, ite_f, ite_tt, decide_eq_true_eq, Bool.not_eq_true', wisT, ex_bl, ex_int, ite_tf, ite_ff, wix0, wix1, wix2, Nat.reduceAdd, Nat.reduceLT, sl0, sl1, sl2, sl3, sl4, sl5, sl6, sl10, if_true, true_and, and_true, List.map_cons, List.map_nil, wip, wt_turn, it_non_int, it_non_bool, it_non_str, it_non_tuple, it_non_list, it_non_dict, it_bl_int, it_bl_bool, it_bl_str, it_bl_tuple, it_bl_list, it_bl_dict, it_int_int, it_int_bool, it_int_str, it_int_tuple, it_int_list, it_int_dict, it_str_int, it_str_bool, it_str_str, it_str_tuple, it_str_list, it_str_dict, it_tup_int, it_tup_bool, it_tup_str, it_tup_tuple, it_tup_list, it_tup_dict, it_lst_int, it_lst_bool, it_lst_str, it_lst_tuple, it_lst_list, it_lst_dict, it_rol_int, it_rol_bool, it_rol_str, it_rol_tuple, it_rol_list, it_rol_dict, we_revt, we_fnv, wz_dic, wz_fn, we_dct0]
  refine wp_to (s_stateM h1 w1) ?_
  rw [wc_isn]
  simp only [we_con, we_varm, we_glom, we_bin, we_neg, we_cmp, we_chain, we_and, we_or, we_not, we_ife, we_tup, we_lst, we_ix, we_sl, we_rev, we_call, we_blt, we_isi, we_app, we_lc, wa_nil, wa_cons, wr_nil, wr_cons, wo_none, wo_some, wto_none, wto_some, wt_and, wt_or, wt_not, wt_cmp, wt_chain, wt_tru, wi_seq, wi_range, wi_enum, wg_nm, wg_tup, wg_nil, wg_cons, wg_sub, wp_ok, wp_bad, wp_nox, wb_add, wb_sub, wb_mul, wb_fdiv, wb_mod, wb_pow, wc_eq, wc_ne, wc_lt, wc_le, wc_gt, wc_ge, wc_eqb, wc_neb, wc_eqs, wc_nes, wx_int, wx_lent, wx_lenl, wx_lenr, wz_int, wz_str, wz_bl, wz_non, wz_tup, wz_rol, wz_ref, wz_lst, List.getElem?_cons_zero, List.getElem?_cons_succ, List.set_cons_zero, List.set_cons_succ, List.length_cons, List.length_nil, wi_tup, wi_lst, wi_rol, wx_tuplel, wx_tuplet, wx_listt, wto_some, hdq, hqc, ite_f, ite_tt, decide_eq_true_eq, Bool.not_eq_true', wisT, ex_bl, ex_int, ite_tf, ite_ff, wix0, wix1, wix2, Nat.reduceAdd, Nat.reduceLT, sl0, sl1, sl2, sl3, sl4, sl5, sl6, sl10, if_true, true_and, and_true, List.map_cons, List.map_nil, wip, wt_turn, it_non_int, it_non_bool, it_non_str, it_non_tuple, it_non_list, it_non_dict, it_bl_int, it_bl_bool, it_bl_str, it_bl_tuple, it_bl_list, it_bl_dict, it_int_int, it_int_bool, it_int_str, it_int_tuple, it_int_list, it_int_dict, it_str_int, it_str_bool, it_str_str, it_str_tuple, it_str_list, it_str_dict, it_tup_int, it_tup_bool, it_tup_str, it_tup_tuple, it_tup_list, it_tup_dict, it_lst_int, it_lst_bool, it_lst_str, it_lst_tuple, it_lst_list, it_lst_dict, it_rol_int, it_rol_bool, it_rol_str, it_rol_tuple, it_rol_list, it_rol_dict, we_revt, we_fnv, wz_dic, wz_fn, we_dct0]
  refine wp_to (s_resultM h1 w1) ?_
  rw [wc_isn]
  simp only [we_con, we_varm, we_glom, we_bin, we_neg, we_cmp, we_chain, we_and, we_or, we_not, we_ife, we_tup, we_lst, we_ix, we_sl, we_rev, we_call, we_blt, we_isi, we_app, we_lc, wa_nil, wa_cons, wr_nil, wr_cons, wo_none, wo_some, wto_none, wto_some, wt_and, wt_or, wt_not, wt_cmp, wt_chain, wt_tru, wi_seq, wi_range, wi_enum, wg_nm, wg_tup, wg_nil, wg_cons, wg_sub, wp_ok, wp_bad, wp_nox, wb_add, wb_sub, wb_mul, wb_fdiv, wb_mod, wb_pow, wc_eq, wc_ne, wc_lt, wc_le, wc_gt, wc_ge, wc_eqb, wc_neb, wc_eqs, wc_nes, wx_int, wx_lent, wx_lenl, wx_lenr, wz_int, wz_str, wz_bl, wz_non, wz_tup, wz_rol, wz_ref, wz_lst, List.getElem?_cons_zero, List.getElem?_cons_succ, List.set_cons_zero, List.set_cons_succ, List.length_cons, List.length_nil, wi_tup, wi_lst, wi_rol, wx_tuplel, wx_tuplet, wx_listt, wto_some, hdq, hqc, ite_f, ite_tt, decide_eq_true_eq, Bool.not_eq_true', wisT, ex_bl, ex_int, ite_tf, ite_ff, wix0, wix1, wix2, Nat.reduceAdd, Nat.reduceLT, sl0, sl1, sl2, sl3, sl4, sl5, sl6, sl10, if_true, true_and, and_true, List.map_cons, List.map_nil, wip, wt_turn, it_non_int, it_non_bool, it_non_str, it_non_tuple, it_non_list, it_non_dict, it_bl_int, it_bl_bool, it_bl_str, it_bl_tuple, it_bl_list, it_bl_dict, it_int_int, it_int_bool, it_int_str, it_int_tuple, it_int_list, it_int_dict, it_str_int, it_str_bool, it_str_str, it_str_tuple, it_str_list, it_str_dict, it_tup_int, it_tup_bool, it_tup_str, it_tup_tuple, it_tup_list, it_tup_dict, it_lst_int, it_lst_bool, it_lst_str, it_lst_tuple, it_lst_list, it_lst_dict, it_rol_int, it_rol_bool, it_rol_str, it_rol_tuple, it_rol_list, it_rol_dict, we_revt, we_fnv, wz_dic, wz_fn, we_dct0]
  rw [ws_nil]
  exact h t
theorem b11 (h1 : one.length ≤ 40) (w1 : ∀ x ∈ one, x ∈ W8) (h : ∀ t, Q.nx [a0, some (.tup (one.map .str)), a2, a3, a4, a5, a6, a7, a8, a9, a10, a11, a12, a13, a14, a15, some (.ref 1)] (s ++ t)) : Ws (runS (cfg.q (k+9)) (.ife (.or (.not (.tru (.call ("_law_same" : Str) [(.call ("is_content" : Str) [(.bin .add (.var 1) (.tup [(.con (.str ("a" : Str)))]))]), (.cmp .lt (.blt .len [(.var 1)]) (.con (.int 40)))]))) (.or (.cmp .isn (.call ("is_content" : Str) [(.blt .list [(.var 1)])]) (.con (.bl false))) (.cmp .isn (.call ("is_content" : Str) [(.bin .add (.sl (.var 1) none (some (.con (.int 39)))) (.tup [(.con (.int 1))]))]) (.con (.bl false))))) [(.ret (some (.con (.bl false))))] []) [a0, some (.tup (one.map .str)), a2, a3, a4, a5, a6, a7, a8, a9, a10, a11, a12, a13, a14, a15, some (.ref 1)] s) Q := by
  refine ws_ife ?_
  simp only [we_con, we_varm, we_glom, we_bin, we_neg, we_cmp, we_chain, we_and, we_or, we_not, we_ife, we_tup, we_lst, we_ix, we_sl, we_rev, we_call, we_blt, we_isi, we_app, we_lc, wa_nil, wa_cons, wr_nil, wr_cons, wo_none, wo_some, wto_none, wto_some, wt_and, wt_or, wt_not, wt_cmp, wt_chain, wt_tru, wi_seq, wi_range, wi_enum, wg_nm, wg_tup, wg_nil, wg_cons, wg_sub, wp_ok, wp_bad, wp_nox, wb_add, wb_sub, wb_mul, wb_fdiv, wb_mod, wb_pow, wc_eq, wc_ne, wc_lt, wc_le, wc_gt, wc_ge, wc_eqb, wc_neb, wc_eqs, wc_nes, wx_int, wx_lent, wx_lenl, wx_lenr, wz_int, wz_str, wz_bl, wz_non, wz_tup, wz_rol, wz_ref, wz_lst, List.getElem?_cons_zero, List.getElem?_cons_succ, List.set_cons_zero, List.set_cons_succ, List.length_cons, List.length_nil, wi_tup, wi_lst, wi_rol, wx_tuplel, wx_tuplet, wx_listt, wto_some, hdq, hqc, ite_f, ite_tt, decide_eq_true_eq, Bool.not_eq_true', wisT, ex_bl, ex_int, ite_tf, ite_ff, wix0, wix1, wix2, Nat.reduceAdd, Nat.reduceLT, sl0, sl1, sl2, sl3, sl4, sl5, sl6, sl10, if_true, true_and, and_true, List.map_cons, List.map_nil, wip, wt_turn, it_non_int, it_non_bool, it_non_str, it_non_tuple, it_non_list, it_non_dict, it_bl_int, it_bl_bool, it_bl_str, it_bl_tuple, it_bl_list, it_bl_dict, it_int_int, it_int_bool, it_int_str, it_int_tuple, it_int_list, it_int_dict, it_str_int, it_str_bool, it_str_str, it_str_tuple, it_str_list, it_str_dict, it_tup_int, it_tup_bool, it_tup_str, it_tup_tuple, it_tup_list, it_tup_dict, it_lst_int, it_lst_bool, it_lst_str, it_lst_tuple, it_lst_list, it_lst_dict, it_rol_int, it_rol_bool, it_rol_str, it_rol_tuple, it_rol_list, it_rol_dict, we_revt, we_fnv, wz_dic, wz_fn, we_dct0]
  rw [wb_tadd (leL (by simp; omega)), show one.map D.str ++ [.str "a"] = (one ++ [("a" : Str)]).map .str by rw [List.map_append]; rfl]
  simp only [we_con, we_varm, we_glom, we_bin, we_neg, we_cmp, we_chain, we_and, we_or, we_not, we_ife, we_tup, we_lst, we_ix, we_sl, we_rev, we_call, we_blt, we_isi, we_app, we_lc, wa_nil, wa_cons, wr_nil, wr_cons, wo_none, wo_some, wto_none, wto_some, wt_and, wt_or, wt_not, wt_cmp, wt_chain, wt_tru, wi_seq, wi_range, wi_enum, wg_nm, wg_tup, wg_nil, wg_cons, wg_sub, wp_ok, wp_bad, wp_nox, wb_add, wb_sub, wb_mul, wb_fdiv, wb_mod, wb_pow, wc_eq, wc_ne, wc_lt, wc_le, wc_gt, wc_ge, wc_eqb, wc_neb, wc_eqs, wc_nes, wx_int, wx_lent, wx_lenl, wx_lenr, wz_int, wz_str, wz_bl, wz_non, wz_tup, wz_rol, wz_ref, wz_lst, List.getElem?_cons_zero, List.getElem?_cons_succ, List.set_cons_zero, List.set_cons_succ, List.length_cons, List.length_nil, wi_tup, wi_lst, wi_rol, wx_tuplel, wx_tuplet, wx_listt, wto_some, hdq, hqc, ite_f, ite_tt, decide_eq_true_eq, Bool.not_eq_true', wisT, ex_bl, ex_int, ite_tf, ite_ff, wix0, wix1, wix2, Nat.reduceAdd, Nat.reduceLT, sl0, sl1, sl2, sl3, sl4, sl5, sl6, sl10, if_true, true_and, and_true, List.map_cons, List.map_nil, wip, wt_turn, it_non_int, it_non_bool, it_non_str, it_non_tuple, it_non_list, it_non_dict, it_bl_int, it_bl_bool, it_bl_str, it_bl_tuple, it_bl_list, it_bl_dict, it_int_int, it_int_bool, it_int_str, it_int_tuple, it_int_list, it_int_dict, it_str_int, it_str_bool, it_str_str, it_str_tuple, it_str_list, it_str_dict, it_tup_int, it_tup_bool, it_tup_str, it_tup_tuple, it_tup_list, it_tup_dict, it_lst_int, it_lst_bool, it_lst_str, it_lst_tuple, it_lst_list, it_lst_dict, it_rol_int, it_rol_bool, it_rol_str, it_rol_tuple, it_rol_list, it_rol_dict, we_revt, we_fnv, wz_dic, wz_fn, we_dct0]
  refine wp_to (s_content (by simp; omega) fun x hx => ?_) ?_
  · rcases List.mem_append.mp hx with z | z
    · exact w1 x z
    · rw [List.mem_singleton.mp z]; decide +kernel
  simp only [we_con, we_varm, we_glom, we_bin, we_neg, we_cmp, we_chain, we_and, we_or, we_not, we_ife, we_tup, we_lst, we_ix, we_sl, we_rev, we_call, we_blt, we_isi, we_app, we_lc, wa_nil, wa_cons, wr_nil, wr_cons, wo_none, wo_some, wto_none, wto_some, wt_and, wt_or, wt_not, wt_cmp, wt_chain, wt_tru, wi_seq, wi_range, wi_enum, wg_nm, wg_tup, wg_nil, wg_cons, wg_sub, wp_ok, wp_bad, wp_nox, wb_add, wb_sub, wb_mul, wb_fdiv, wb_mod, wb_pow, wc_eq, wc_ne, wc_lt, wc_le, wc_gt, wc_ge, wc_eqb, wc_neb, wc_eqs, wc_nes, wx_int, wx_lent, wx_lenl, wx_lenr, wz_int, wz_str, wz_bl, wz_non, wz_tup, wz_rol, wz_ref, wz_lst, List.getElem?_cons_zero, List.getElem?_cons_succ, List.set_cons_zero, List.set_cons_succ, List.length_cons, List.length_nil, wi_tup, wi_lst, wi_rol, wx_tuplel, wx_tuplet, wx_listt, wto_some, hdq, hqc, ite_f, ite_tt, decide_eq_true_eq, Bool.not_eq_true', wisT, ex_bl, ex_int, ite_tf, ite_ff, wix0, wix1, wix2, Nat.reduceAdd, Nat.reduceLT, sl0, sl1, sl2, sl3, sl4, sl5, sl6, sl10, if_true, true_and, and_true, List.map_cons, List.map_nil, wip, wt_turn, it_non_int, it_non_bool, it_non_str, it_non_tuple, it_non_list, it_non_dict, it_bl_int, it_bl_bool, it_bl_str, it_bl_tuple, it_bl_list, it_bl_dict, it_int_int, it_int_bool, it_int_str, it_int_tuple, it_int_list, it_int_dict, it_str_int, it_str_bool, it_str_str, it_str_tuple, it_str_list, it_str_dict, it_tup_int, it_tup_bool, it_tup_str, it_tup_tuple, it_tup_list, it_tup_dict, it_lst_int, it_lst_bool, it_lst_str, it_lst_tuple, it_lst_list, it_lst_dict, it_rol_int, it_rol_bool, it_rol_str, it_rol_tuple, it_rol_list, it_rol_dict, we_revt, we_fnv, wz_dic, wz_fn, we_dct0]
  rw [show decide ((one ++ [("a" : Str)]).length ≤ 40) = decide (((one.map D.str).length : Int) < 40) by rw [Bool.eq_iff_iff, decide_eq_true_eq, decide_eq_true_eq]; simp; omega]
  refine same_ok rfl (Nat.zero_le _) ?_
  simp only [we_con, we_varm, we_glom, we_bin, we_neg, we_cmp, we_chain, we_and, we_or, we_not, we_ife, we_tup, we_lst, we_ix, we_sl, we_rev, we_call, we_blt, we_isi, we_app, we_lc, wa_nil, wa_cons, wr_nil, wr_cons, wo_none, wo_some, wto_none, wto_some, wt_and, wt_or, wt_not, wt_cmp, wt_chain, wt_tru, wi_seq, wi_range, wi_enum, wg_nm, wg_tup, wg_nil, wg_cons, wg_sub, wp_ok, wp_bad, wp_nox, wb_add, wb_sub, wb_mul, wb_fdiv, wb_mod, wb_pow, wc_eq, wc_ne, wc_lt, wc_le, wc_gt, wc_ge, wc_eqb, wc_neb, wc_eqs, wc_nes, wx_int, wx_lent, wx_lenl, wx_lenr, wz_int, wz_str, wz_bl, wz_non, wz_tup, wz_rol, wz_ref, wz_lst, List.getElem?_cons_zero, List.getElem?_cons_succ, List.set_cons_zero, List.set_cons_succ, List.length_cons, List.length_nil, wi_tup, wi_lst, wi_rol, wx_tuplel, wx_tuplet, wx_listt, wto_some, hdq, hqc, ite_f, ite_tt, decide_eq_true_eq, Bool.not_eq_true', wisT, ex_bl, ex_int, ite_tf, ite_ff, wix0, wix1, wix2, Nat.reduceAdd, Nat.reduceLT, sl0, sl1, sl2, sl3, sl4, sl5, sl6, sl10, if_true, true_and, and_true, List.map_cons, List.map_nil, wip, wt_turn, it_non_int, it_non_bool, it_non_str, it_non_tuple, it_non_list, it_non_dict, it_bl_int, it_bl_bool, it_bl_str, it_bl_tuple, it_bl_list, it_bl_dict, it_int_int, it_int_bool, it_int_str, it_int_tuple, it_int_list, it_int_dict, it_str_int, it_str_bool, it_str_str, it_str_tuple, it_str_list, it_str_dict, it_tup_int, it_tup_bool, it_tup_str, it_tup_tuple, it_tup_list, it_tup_dict, it_lst_int, it_lst_bool, it_lst_str, it_lst_tuple, it_lst_list, it_lst_dict, it_rol_int, it_rol_bool, it_rol_str, it_rol_tuple, it_rol_list, it_rol_dict, we_revt, we_fnv, wz_dic, wz_fn, we_dct0]
  refine wp_to (s_contentL (t := [])) ?_
  rw [wc_isn]
  simp only [we_con, we_varm, we_glom, we_bin, we_neg, we_cmp, we_chain, we_and, we_or, we_not, we_ife, we_tup, we_lst, we_ix, we_sl, we_rev, we_call, we_blt, we_isi, we_app, we_lc, wa_nil, wa_cons, wr_nil, wr_cons, wo_none, wo_some, wto_none, wto_some, wt_and, wt_or, wt_not, wt_cmp, wt_chain, wt_tru, wi_seq, wi_range, wi_enum, wg_nm, wg_tup, wg_nil, wg_cons, wg_sub, wp_ok, wp_bad, wp_nox, wb_add, wb_sub, wb_mul, wb_fdiv, wb_mod, wb_pow, wc_eq, wc_ne, wc_lt, wc_le, wc_gt, wc_ge, wc_eqb, wc_neb, wc_eqs, wc_nes, wx_int, wx_lent, wx_lenl, wx_lenr, wz_int, wz_str, wz_bl, wz_non, wz_tup, wz_rol, wz_ref, wz_lst, List.getElem?_cons_zero, List.getElem?_cons_succ, List.set_cons_zero, List.set_cons_succ, List.length_cons, List.length_nil, wi_tup, wi_lst, wi_rol, wx_tuplel, wx_tuplet, wx_listt, wto_some, hdq, hqc, ite_f, ite_tt, decide_eq_true_eq, Bool.not_eq_true', wisT, ex_bl, ex_int, ite_tf, ite_ff, wix0, wix1, wix2, Nat.reduceAdd, Nat.reduceLT, sl0, sl1, sl2, sl3, sl4, sl5, sl6, sl10, if_true, true_and, and_true, List.map_cons, List.map_nil, wip, wt_turn, it_non_int, it_non_bool, it_non_str, it_non_tuple, it_non_list, it_non_dict, it_bl_int, it_bl_bool, it_bl_str, it_bl_tuple, it_bl_list, it_bl_dict, it_int_int, it_int_bool, it_int_str, it_int_tuple, it_int_list, it_int_dict, it_str_int, it_str_bool, it_str_str, it_str_tuple, it_str_list, it_str_dict, it_tup_int, it_tup_bool, it_tup_str, it_tup_tuple, it_tup_list, it_tup_dict, it_lst_int, it_lst_bool, it_lst_str, it_lst_tuple, it_lst_list, it_lst_dict, it_rol_int, it_rol_bool, it_rol_str, it_rol_tuple, it_rol_list, it_rol_dict, we_revt, we_fnv, wz_dic, wz_fn, we_dct0, ws_slt]
  rw [show (39 : Int) = ((39 : Nat) : Int) from rfl]
  rw [cut_takeA, ← List.map_take]
  have ht : (one.take 39).length ≤ 39 := by rw [List.length_take]; omega
  rw [wb_tadd (leL (by simp; omega))]
  simp only [we_con, we_varm, we_glom, we_bin, we_neg, we_cmp, we_chain, we_and, we_or, we_not, we_ife, we_tup, we_lst, we_ix, we_sl, we_rev, we_call, we_blt, we_isi, we_app, we_lc, wa_nil, wa_cons, wr_nil, wr_cons, wo_none, wo_some, wto_none, wto_some, wt_and, wt_or, wt_not, wt_cmp, wt_chain, wt_tru, wi_seq, wi_range, wi_enum, wg_nm, wg_tup, wg_nil, wg_cons, wg_sub, wp_ok, wp_bad, wp_nox, wb_add, wb_sub, wb_mul, wb_fdiv, wb_mod, wb_pow, wc_eq, wc_ne, wc_lt, wc_le, wc_gt, wc_ge, wc_eqb, wc_neb, wc_eqs, wc_nes, wx_int, wx_lent, wx_lenl, wx_lenr, wz_int, wz_str, wz_bl, wz_non, wz_tup, wz_rol, wz_ref, wz_lst, List.getElem?_cons_zero, List.getElem?_cons_succ, List.set_cons_zero, List.set_cons_succ, List.length_cons, List.length_nil, wi_tup, wi_lst, wi_rol, wx_tuplel, wx_tuplet, wx_listt, wto_some, hdq, hqc, ite_f, ite_tt, decide_eq_true_eq, Bool.not_eq_true', wisT, ex_bl, ex_int, ite_tf, ite_ff, wix0, wix1, wix2, Nat.reduceAdd, Nat.reduceLT, sl0, sl1, sl2, sl3, sl4, sl5, sl6, sl10, if_true, true_and, and_true, List.map_cons, List.map_nil, wip, wt_turn, it_non_int, it_non_bool, it_non_str, it_non_tuple, it_non_list, it_non_dict, it_bl_int, it_bl_bool, it_bl_str, it_bl_tuple, it_bl_list, it_bl_dict, it_int_int, it_int_bool, it_int_str, it_int_tuple, it_int_list, it_int_dict, it_str_int, it_str_bool, it_str_str, it_str_tuple, it_str_list, it_str_dict, it_tup_int, it_tup_bool, it_tup_str, it_tup_tuple, it_tup_list, it_tup_dict, it_lst_int, it_lst_bool, it_lst_str, it_lst_tuple, it_lst_list, it_lst_dict, it_rol_int, it_rol_bool, it_rol_str, it_rol_tuple, it_rol_list, it_rol_dict, we_revt, we_fnv, wz_dic, wz_fn, we_dct0]
  refine wp_to (s_contentG (f := fun d => match d with | .int _ => false | _ => true) (by simp; omega) fun d hd => ?_) ?_
  · rcases List.mem_append.mp hd with z | z
    · obtain ⟨w, hw, rfl⟩ := List.mem_map.mp z
      exact ⟨rfl, s_word (w1 w (List.mem_of_mem_take hw))⟩
    · rw [List.mem_singleton.mp z]
      exact ⟨rfl, s_word1⟩
  rw [List.all_append, show ([D.int 1].all fun d => match d with | .int _ => false | _ => true) = false from rfl, Bool.and_false, Bool.and_false, wc_isn]
  simp only [we_con, we_varm, we_glom, we_bin, we_neg, we_cmp, we_chain, we_and, we_or, we_not, we_ife, we_tup, we_lst, we_ix, we_sl, we_rev, we_call, we_blt, we_isi, we_app, we_lc, wa_nil, wa_cons, wr_nil, wr_cons, wo_none, wo_some, wto_none, wto_some, wt_and, wt_or, wt_not, wt_cmp, wt_chain, wt_tru, wi_seq, wi_range, wi_enum, wg_nm, wg_tup, wg_nil, wg_cons, wg_sub, wp_ok, wp_bad, wp_nox, wb_add, wb_sub, wb_mul, wb_fdiv, wb_mod, wb_pow, wc_eq, wc_ne, wc_lt, wc_le, wc_gt, wc_ge, wc_eqb, wc_neb, wc_eqs, wc_nes, wx_int, wx_lent, wx_lenl, wx_lenr, wz_int, wz_str, wz_bl, wz_non, wz_tup, wz_rol, wz_ref, wz_lst, List.getElem?_cons_zero, List.getElem?_cons_succ, List.set_cons_zero, List.set_cons_succ, List.length_cons, List.length_nil, wi_tup, wi_lst, wi_rol, wx_tuplel, wx_tuplet, wx_listt, wto_some, hdq, hqc, ite_f, ite_tt, decide_eq_true_eq, Bool.not_eq_true', wisT, ex_bl, ex_int, ite_tf, ite_ff, wix0, wix1, wix2, Nat.reduceAdd, Nat.reduceLT, sl0, sl1, sl2, sl3, sl4, sl5, sl6, sl10, if_true, true_and, and_true, List.map_cons, List.map_nil, wip, wt_turn, it_non_int, it_non_bool, it_non_str, it_non_tuple, it_non_list, it_non_dict, it_bl_int, it_bl_bool, it_bl_str, it_bl_tuple, it_bl_list, it_bl_dict, it_int_int, it_int_bool, it_int_str, it_int_tuple, it_int_list, it_int_dict, it_str_int, it_str_bool, it_str_str, it_str_tuple, it_str_list, it_str_dict, it_tup_int, it_tup_bool, it_tup_str, it_tup_tuple, it_tup_list, it_tup_dict, it_lst_int, it_lst_bool, it_lst_str, it_lst_tuple, it_lst_list, it_lst_dict, it_rol_int, it_rol_bool, it_rol_str, it_rol_tuple, it_rol_list, it_rol_dict, we_revt, we_fnv, wz_dic, wz_fn, we_dct0]
  rw [ws_nil]
  exact h _
end
end DI.L

set_option Elab.async false
set_option linter.all false
set_option maxRecDepth 100000
set_option maxHeartbeats 4000000
/-! the plain law of k00, K: the turns; what is raised. -/
namespace DI.L
open PySem L2
theorem lk_app1 {s : S} {o : O} {t : S} {r : Nat} {xs : List D} (h : lk s r = some xs) : lk (s ++ [o]) r = some xs := lk_app h
section
variable {k : Nat} {s : S} {Q : Kt} {a0 a1 a2 a3 a4 a5 a6 a7 a8 a9 a10 a11 a12 a13 a14 a15 : Option D}
theorem turnL (hD : Dr s 1) (h : ∀ a0 a1 a2 a3 a4 a5 a6 a7 a8 a9 a10 a11 a12 a13 a14 a15 s', Dr s' 1 → Q.nx [a0, a1, a2, a3, a4, a5, a6, a7, a8, a9, a10, a11, a12, a13, a14, a15, some (.ref 1)] s') : Ws (runSs (cfg.q (k+9)) [(.asg (.tup [(.nm 1), (.nm 14)]) (.tup [(.call ("_law_words" : Str) [(.var 16), (.call ("_law_pick" : Str) [(.var 16), (.lst [(.con (.int 0)), (.con (.int 1)), (.con (.int 3)), (.con (.int 20)), (.con (.int 39)), (.con (.int 40))])])]), (.call ("_law_words" : Str) [(.var 16), (.call ("_law_pick" : Str) [(.var 16), (.lst [(.con (.int 0)), (.con (.int 1)), (.con (.int 2)), (.con (.int 20))])])])])), (.asg (.nm 13) (.bin .add (.var 1) (.var 14))), (.ife (.or (.not (.tru (.call ("_law_same" : Str) [(.call ("joined" : Str) [(.var 1), (.var 14)]), (.ife (.cmp .le (.blt .len [(.var 13)]) (.con (.int 40))) (.var 13) (.con .non))]))) (.cmp .isn (.call ("is_content" : Str) [(.var 1)]) (.con (.bl true)))) [(.ret (some (.con (.bl false))))] []), (.asg (.nm 12) (.ife (.cmp .le (.blt .len [(.var 13)]) (.con (.int 40))) (.tup [(.con (.str ("made" : Str))), (.var 13)]) (.tup [(.con (.str ("failed" : Str))), (.tup [(.con (.str ("long" : Str)))])]))), (.ife (.not (.tru (.call ("_law_same" : Str) [(.call ("_law_made" : Str) [(.tup [(.con (.str ("join" : Str))), (.tup [(.con (.str ("words" : Str))), (.var 1)]), (.tup [(.con (.str ("words" : Str))), (.var 14)])])]), (.bin .add (.var 12) (.tup [(.tup [])]))]))) [(.ret (some (.con (.bl false))))] []), (.asg (.nm 11) (.blt .tuple [(.lc [(("k" : Str), 9)] (.ix (.var 1) (.var 9)) (.nm 9) (.range [(.blt .len [(.var 1)])]) (some (.cmp .nin (.ix (.var 1) (.var 9)) (.sl (.var 1) none (some (.var 9))))))])), (.asg (.nm 10) (.blt .tuple [(.lc [(("k" : Str), 9)] (.ix (.var 1) (.bin .sub (.bin .sub (.blt .len [(.var 1)]) (.con (.int 1))) (.var 9))) (.nm 9) (.range [(.blt .len [(.var 1)])]) none)])), (.ife (.not (.tru (.call ("_law_same" : Str) [(.tup [(.call ("once" : Str) [(.var 1)]), (.call ("turned" : Str) [(.var 1)]), (.call ("counted" : Str) [(.var 1)])]), (.tup [(.var 11), (.var 10), (.tup [(.blt .str [(.blt .len [(.var 1)])])])])]))) [(.ret (some (.con (.bl false))))] []), (.asg (.nm 8) (.lst [(.tup [(.con (.str ("once" : Str))), (.var 11)]), (.tup [(.con (.str ("turned" : Str))), (.var 10)]), (.tup [(.con (.str ("count" : Str))), (.tup [(.blt .str [(.blt .len [(.var 1)])])])]), (.tup [(.con (.str ("sorted" : Str))), (.blt .tuple [(.blt .sorted [(.var 1)])])]), (.tup [(.con (.str ("first" : Str))), (.sl (.var 1) none (some (.con (.int 1))))]), (.tup [(.con (.str ("rest" : Str))), (.sl (.var 1) (some (.con (.int 1))) none)])])), (.fo (.tup [(.nm 7), (.nm 6)]) (.seq (.var 8)) [(.ife (.not (.tru (.call ("_law_same" : Str) [(.call ("_law_made" : Str) [(.tup [(.var 7), (.tup [(.con (.str ("words" : Str))), (.var 1)])])]), (.tup [(.con (.str ("made" : Str))), (.var 6), (.tup [])])]))) [(.ret (some (.con (.bl false))))] [])]), (.ife (.or (.not (.tru (.call ("_law_same" : Str) [(.call ("_law_made" : Str) [(.tup [(.con (.str ("fail" : Str))), (.tup [(.con (.str ("words" : Str))), (.var 1)])])]), (.tup [(.con (.str ("failed" : Str))), (.tup [(.con (.str ("fail" : Str))), (.var 1)]), (.tup [])])]))) (.or (.cmp .isn (.call ("is_state" : Str) [(.tup [(.con (.str ("made" : Str))), (.var 1)])]) (.con (.bl true))) (.cmp .isn (.call ("is_result" : Str) [(.tup [(.con (.str ("made" : Str))), (.var 1)])]) (.con (.bl true))))) [(.ret (some (.con (.bl false))))] []), (.ife (.or (.not (.tru (.call ("_law_same" : Str) [(.call ("is_content" : Str) [(.bin .add (.var 1) (.tup [(.con (.str ("a" : Str)))]))]), (.cmp .lt (.blt .len [(.var 1)]) (.con (.int 40)))]))) (.or (.cmp .isn (.call ("is_content" : Str) [(.blt .list [(.var 1)])]) (.con (.bl false))) (.cmp .isn (.call ("is_content" : Str) [(.bin .add (.sl (.var 1) none (some (.con (.int 39)))) (.tup [(.con (.int 1))]))]) (.con (.bl false))))) [(.ret (some (.con (.bl false))))] [])] [a0, a1, a2, a3, a4, a5, a6, a7, a8, a9, a10, a11, a12, a13, a14, a15, some (.ref 1)] s) Q := by
  rw [ws_cons]
  refine b0 hD fun one two s1 h1 h2 w1 w2 hD => ?_
  dsimp only
  rw [ws_cons]
  refine b1 h1 h2 ?_
  dsimp only
  rw [ws_cons]
  refine b2 h1 h2 w1 ?_
  dsimp only
  rw [ws_cons]
  refine b3 h1 h2 ?_
  dsimp only
  rw [ws_cons]
  refine b4 h1 h2 fun t1 => ?_
  replace hD := hD.app (t := t1)
  generalize s1 ++ t1 = s2 at hD ⊢
  dsimp only
  rw [ws_cons]
  refine b5 h1 ?_
  dsimp only
  rw [ws_cons]
  refine b6 h1 ?_
  dsimp only
  rw [ws_cons]
  refine b7 h1 ?_
  dsimp only
  rw [ws_cons]
  refine b8 h1 ?_
  dsimp only
  rw [ws_cons]
  refine b9 h1 lk_new1 fun x6 x7 t2 => ?_
  replace hD := (hD.app (t := [.lst (L6.map fun w => .tup [.str w, madeBy w one])])).app (t := t2)
  generalize (s2 ++ [O.lst (L6.map fun w => .tup [.str w, madeBy w one])]) ++ t2 = s3 at hD ⊢
  dsimp only
  rw [ws_cons]
  refine b10 h1 w1 fun t3 => ?_
  replace hD := hD.app (t := t3)
  generalize s3 ++ t3 = s4 at hD ⊢
  dsimp only
  rw [ws_cons]
  refine b11 h1 w1 fun t4 => ?_
  replace hD := hD.app (t := t4)
  dsimp only
  rw [ws_nil]
  exact h _ _ _ _ _ _ _ _ _ _ _ _ _ _ _ _ _ hD
theorem loop (hD : Dr s 1) (h : ∀ a0 a1 a2 a3 a4 a5 a6 a7 a8 a9 a10 a11 a12 a13 a14 a15 s', Dr s' 1 → Q.nx [a0, a1, a2, a3, a4, a5, a6, a7, a8, a9, a10, a11, a12, a13, a14, a15, some (.ref 1)] s') : Ws (runS (cfg.q (k+9)) (.fo (.nm 15) (.range [(.con (.int 3))]) [(.asg (.tup [(.nm 1), (.nm 14)]) (.tup [(.call ("_law_words" : Str) [(.var 16), (.call ("_law_pick" : Str) [(.var 16), (.lst [(.con (.int 0)), (.con (.int 1)), (.con (.int 3)), (.con (.int 20)), (.con (.int 39)), (.con (.int 40))])])]), (.call ("_law_words" : Str) [(.var 16), (.call ("_law_pick" : Str) [(.var 16), (.lst [(.con (.int 0)), (.con (.int 1)), (.con (.int 2)), (.con (.int 20))])])])])), (.asg (.nm 13) (.bin .add (.var 1) (.var 14))), (.ife (.or (.not (.tru (.call ("_law_same" : Str) [(.call ("joined" : Str) [(.var 1), (.var 14)]), (.ife (.cmp .le (.blt .len [(.var 13)]) (.con (.int 40))) (.var 13) (.con .non))]))) (.cmp .isn (.call ("is_content" : Str) [(.var 1)]) (.con (.bl true)))) [(.ret (some (.con (.bl false))))] []), (.asg (.nm 12) (.ife (.cmp .le (.blt .len [(.var 13)]) (.con (.int 40))) (.tup [(.con (.str ("made" : Str))), (.var 13)]) (.tup [(.con (.str ("failed" : Str))), (.tup [(.con (.str ("long" : Str)))])]))), (.ife (.not (.tru (.call ("_law_same" : Str) [(.call ("_law_made" : Str) [(.tup [(.con (.str ("join" : Str))), (.tup [(.con (.str ("words" : Str))), (.var 1)]), (.tup [(.con (.str ("words" : Str))), (.var 14)])])]), (.bin .add (.var 12) (.tup [(.tup [])]))]))) [(.ret (some (.con (.bl false))))] []), (.asg (.nm 11) (.blt .tuple [(.lc [(("k" : Str), 9)] (.ix (.var 1) (.var 9)) (.nm 9) (.range [(.blt .len [(.var 1)])]) (some (.cmp .nin (.ix (.var 1) (.var 9)) (.sl (.var 1) none (some (.var 9))))))])), (.asg (.nm 10) (.blt .tuple [(.lc [(("k" : Str), 9)] (.ix (.var 1) (.bin .sub (.bin .sub (.blt .len [(.var 1)]) (.con (.int 1))) (.var 9))) (.nm 9) (.range [(.blt .len [(.var 1)])]) none)])), (.ife (.not (.tru (.call ("_law_same" : Str) [(.tup [(.call ("once" : Str) [(.var 1)]), (.call ("turned" : Str) [(.var 1)]), (.call ("counted" : Str) [(.var 1)])]), (.tup [(.var 11), (.var 10), (.tup [(.blt .str [(.blt .len [(.var 1)])])])])]))) [(.ret (some (.con (.bl false))))] []), (.asg (.nm 8) (.lst [(.tup [(.con (.str ("once" : Str))), (.var 11)]), (.tup [(.con (.str ("turned" : Str))), (.var 10)]), (.tup [(.con (.str ("count" : Str))), (.tup [(.blt .str [(.blt .len [(.var 1)])])])]), (.tup [(.con (.str ("sorted" : Str))), (.blt .tuple [(.blt .sorted [(.var 1)])])]), (.tup [(.con (.str ("first" : Str))), (.sl (.var 1) none (some (.con (.int 1))))]), (.tup [(.con (.str ("rest" : Str))), (.sl (.var 1) (some (.con (.int 1))) none)])])), (.fo (.tup [(.nm 7), (.nm 6)]) (.seq (.var 8)) [(.ife (.not (.tru (.call ("_law_same" : Str) [(.call ("_law_made" : Str) [(.tup [(.var 7), (.tup [(.con (.str ("words" : Str))), (.var 1)])])]), (.tup [(.con (.str ("made" : Str))), (.var 6), (.tup [])])]))) [(.ret (some (.con (.bl false))))] [])]), (.ife (.or (.not (.tru (.call ("_law_same" : Str) [(.call ("_law_made" : Str) [(.tup [(.con (.str ("fail" : Str))), (.tup [(.con (.str ("words" : Str))), (.var 1)])])]), (.tup [(.con (.str ("failed" : Str))), (.tup [(.con (.str ("fail" : Str))), (.var 1)]), (.tup [])])]))) (.or (.cmp .isn (.call ("is_state" : Str) [(.tup [(.con (.str ("made" : Str))), (.var 1)])]) (.con (.bl true))) (.cmp .isn (.call ("is_result" : Str) [(.tup [(.con (.str ("made" : Str))), (.var 1)])]) (.con (.bl true))))) [(.ret (some (.con (.bl false))))] []), (.ife (.or (.not (.tru (.call ("_law_same" : Str) [(.call ("is_content" : Str) [(.bin .add (.var 1) (.tup [(.con (.str ("a" : Str)))]))]), (.cmp .lt (.blt .len [(.var 1)]) (.con (.int 40)))]))) (.or (.cmp .isn (.call ("is_content" : Str) [(.blt .list [(.var 1)])]) (.con (.bl false))) (.cmp .isn (.call ("is_content" : Str) [(.bin .add (.sl (.var 1) none (some (.con (.int 39)))) (.tup [(.con (.int 1))]))]) (.con (.bl false))))) [(.ret (some (.con (.bl false))))] [])]) [a0, a1, a2, a3, a4, a5, a6, a7, a8, a9, a10, a11, a12, a13, a14, a15, some (.ref 1)] s) Q := by
  refine ws_fol (l := rangeL 0 3 1) (ok := fun _ => true) ?_ (fun l ρ s' => (∀ x ∈ l, ∃ j : Int, x = .int j) ∧ ∃ a0 a1 a2 a3 a4 a5 a6 a7 a8 a9 a10 a11 a12 a13 a14 a15, ρ = [a0, a1, a2, a3, a4, a5, a6, a7, a8, a9, a10, a11, a12, a13, a14, a15, some (.ref 1)] ∧ Dr s' 1) ⟨?_, a0, a1, a2, a3, a4, a5, a6, a7, a8, a9, a10, a11, a12, a13, a14, a15, rfl, hD⟩ ?_ ?_
  · rw [wi_range, wr_cons, we_con, wr_nil, show D.int 3 = D.int ((3 : Nat) : Int) from rfl, wri_1 (n := 3) (by decide)]
    exact ⟨rfl, rfl⟩
  · intro x hx
    obtain ⟨j, _, rfl⟩ := List.mem_map.mp hx
    exact ⟨_, rfl⟩
  · rintro ρ s' ⟨_, a0, a1, a2, a3, a4, a5, a6, a7, a8, a9, a10, a11, a12, a13, a14, a15, rfl, hD⟩
    exact ⟨rfl, h a0 a1 a2 a3 a4 a5 a6 a7 a8 a9 a10 a11 a12 a13 a14 a15 s' hD⟩
  · rintro x xs ρ s' ⟨hx, a0, a1, a2, a3, a4, a5, a6, a7, a8, a9, a10, a11, a12, a13, a14, a15, rfl, hD⟩
    obtain ⟨j, rfl⟩ := hx x List.mem_cons_self
    refine ⟨rfl, ?_⟩
    simp only [we_con, we_varm, we_glom, we_bin, we_neg, we_cmp, we_chain, we_and, we_or, we_not, we_ife, we_tup, we_lst, we_ix, we_sl, we_rev, we_call, we_blt, we_isi, we_app, we_lc, wa_nil, wa_cons, wr_nil, wr_cons, wo_none, wo_some, wto_none, wto_some, wt_and, wt_or, wt_not, wt_cmp, wt_chain, wt_tru, wi_seq, wi_range, wi_enum, wg_nm, wg_tup, wg_nil, wg_cons, wg_sub, wp_ok, wp_bad, wp_nox, wb_add, wb_sub, wb_mul, wb_fdiv, wb_mod, wb_pow, wc_eq, wc_ne, wc_lt, wc_le, wc_gt, wc_ge, wc_eqb, wc_neb, wc_eqs, wc_nes, wx_int, wx_lent, wx_lenl, wx_lenr, wz_int, wz_str, wz_bl, wz_non, wz_tup, wz_rol, wz_ref, wz_lst, List.getElem?_cons_zero, List.getElem?_cons_succ, List.set_cons_zero, List.set_cons_succ, List.length_cons, List.length_nil, wi_tup, wi_lst, wi_rol, wx_tuplel, wx_tuplet, wx_listt, wto_some, hdq, hqc, ite_f, ite_tt, decide_eq_true_eq, Bool.not_eq_true', wisT, ex_bl, ex_int, ite_tf, ite_ff, wix0, wix1, wix2, Nat.reduceAdd, Nat.reduceLT, sl0, sl1, sl2, sl3, sl4, sl5, sl6, sl10, if_true, true_and, and_true, List.map_cons, List.map_nil, wip, wt_turn, it_non_int, it_non_bool, it_non_str, it_non_tuple, it_non_list, it_non_dict, it_bl_int, it_bl_bool, it_bl_str, it_bl_tuple, it_bl_list, it_bl_dict, it_int_int, it_int_bool, it_int_str, it_int_tuple, it_int_list, it_int_dict, it_str_int, it_str_bool, it_str_str, it_str_tuple, it_str_list, it_str_dict, it_tup_int, it_tup_bool, it_tup_str, it_tup_tuple, it_tup_list, it_tup_dict, it_lst_int, it_lst_bool, it_lst_str, it_lst_tuple, it_lst_list, it_lst_dict, it_rol_int, it_rol_bool, it_rol_str, it_rol_tuple, it_rol_list, it_rol_dict, we_revt, we_fnv, wz_dic, wz_fn, we_dct0]
    refine turnL (Q := { nx := fun ρ s => (∀ x ∈ xs, ∃ j : Int, x = .int j) ∧ ∃ a0 a1 a2 a3 a4 a5 a6 a7 a8 a9 a10 a11 a12 a13 a14 a15, ρ = [a0, a1, a2, a3, a4, a5, a6, a7, a8, a9, a10, a11, a12, a13, a14, a15, some (.ref 1)] ∧ Dr s 1, rt := Q.rt, bk := Q.nx, ct := fun ρ s => (∀ x ∈ xs, ∃ j : Int, x = .int j) ∧ ∃ a0 a1 a2 a3 a4 a5 a6 a7 a8 a9 a10 a11 a12 a13 a14 a15, ρ = [a0, a1, a2, a3, a4, a5, a6, a7, a8, a9, a10, a11, a12, a13, a14, a15, some (.ref 1)] ∧ Dr s 1, ex := Q.ex }) hD fun a0 a1 a2 a3 a4 a5 a6 a7 a8 a9 a10 a11 a12 a13 a14 a15 s2 hD2 => ?_
    exact ⟨fun x hx2 => hx x (List.mem_cons_of_mem _ hx2), a0, a1, a2, a3, a4, a5, a6, a7, a8, a9, a10, a11, a12, a13, a14, a15, rfl, hD2⟩
end
/-- what is raised -/
def s0 (X : List D) : S := [.lst X, .lst [.ref 0, .int 0, .int 0, .int 1]]
def errS (X : List D) (r : D) : S := match runT (cfg.q 39) (.cmp .ne (.lc [(("k" : Str), 9)] (.call ("_law_error" : Str) [(.var 9)]) (.nm 9) (.range [(.con (.int 4))]) none) (.lst [(.con (.str ("text" : Str))), (.con (.str ("project" : Str))), (.con (.str ("store" : Str))), (.con (.str ("plan" : Str)))])) [some r, none, none, none, none, none, none, none, none, none, none, none, none, none, none, none, some (.ref 1)] (s0 X) with
  | .ok _ s => s
  | _ => []
theorem errs {X : List D} {r : D} : runT (cfg.q 39) (.cmp .ne (.lc [(("k" : Str), 9)] (.call ("_law_error" : Str) [(.var 9)]) (.nm 9) (.range [(.con (.int 4))]) none) (.lst [(.con (.str ("text" : Str))), (.con (.str ("project" : Str))), (.con (.str ("store" : Str))), (.con (.str ("plan" : Str)))])) [some r, none, none, none, none, none, none, none, none, none, none, none, none, none, none, none, some (.ref 1)] (s0 X) = .ok false (errS X r) := by kernel_rfl
theorem errD {ns : List Int} {r : D} : Dr (errS (ns.map .int) r) 1 := ⟨0, ns, 0, 0, 1, by kernel_rfl, by kernel_rfl, by decide, by decide, by decide⟩
end DI.L

set_option Elab.async false
set_option linter.all false
set_option maxRecDepth 100000
set_option maxHeartbeats 4000000
/-! the plain law of k00, L: the good and the bad ones; the law. -/
namespace DI.L
open PySem L2
theorem ws_ofn {r : RS} {ρ : En} {s : S} {Q : Kt} (h : r = .nx ρ s) (p : Q.nx ρ s) : Ws r Q := by rw [h]; with_unfolding_all exact p
def LG : List D := [.tup [.str "made", .tup []], .tup [.str "failed", .tup [.str "fail", .tup [.str "a"]]], .tup [.str "failed", .tup [.str "name"]], .tup [.str "failed", .tup [.str "long"]], .tup [.str "failed", .tup [.str "absent", .str "a"]], .tup [.str "failed", .tup [.str "below", .str "9"]], .tup [.str "failed", .tup [.str "ring"]]]
def LH : List D := [.tup [.str "absent"]]
def LB (r : Nat) : List D := [.non, .tup [], .str "absent", .tup [.str "absent", .str "a"], .tup [.str "made"], .tup [.str "made", .tup [.str "A"]], .tup [.str "made", .ref r], .tup [.str "failed"], .tup [.str "failed", .str "ring"], .tup [.str "failed", .tup [.str "ring", .str "a"]]]
def LC : List D := [.tup [.str "failed", .tup [.str "below"]], .tup [.str "failed", .tup [.str "absent", .str ""]], .tup [.str "failed", .tup [.str "fail", .str "a"]]]
def LD (r : Nat) : List D := [.ref r, .tup [.str "failed", .tup [.str "odd"]], .tup [.int 1, .tup []], .tup [.str "failed", .tup [.str "below", .str "abcdefghi"]], .tup [.str "failed", .tup []]]
def LW : List D := [.bl true, .bl true, .bl true, .bl false, .bl false, .bl false, .bl false, .bl false, .bl false, .bl false, .bl false]
section
variable {k r r2 r4 : Nat} {s : S} {Q : Kt} {a0 a1 a2 a3 a4 a5 a6 a7 a8 a9 a10 a11 a12 a13 a14 a15 : Option D}
theorem good_turn {x : D} (h : x ∈ LG ++ LH) : runSs (cfg.q (k+9)) [(.ife (.or (.cmp .isn (.call ("is_state" : Str) [(.var 3)]) (.con (.bl true))) (.not (.tru (.call ("_law_same" : Str) [(.call ("is_result" : Str) [(.var 3)]), (.cmp .ne (.var 3) (.tup [(.con (.str ("absent" : Str)))]))])))) [(.ret (some (.con (.bl false))))] []), (.ife (.and (.cmp .eq (.ix (.var 3) (.con (.int 0))) (.con (.str ("failed" : Str)))) (.cmp .isn (.call ("is_why" : Str) [(.ix (.var 3) (.con (.int 1)))]) (.con (.bl true)))) [(.ret (some (.con (.bl false))))] [])] [a0, a1, a2, some (x), a4, a5, a6, a7, a8, a9, a10, a11, a12, a13, a14, a15, some (.ref 1)] s = .nx [a0, a1, a2, some (x), a4, a5, a6, a7, a8, a9, a10, a11, a12, a13, a14, a15, some (.ref 1)] s := by
  simp only [LG, LH, List.cons_append, List.nil_append, List.mem_cons, List.not_mem_nil, or_false] at h
  rcases h with rfl | rfl | rfl | rfl | rfl | rfl | rfl | rfl <;> kernel_rfl
theorem good_shr {x : D} (h : x ∈ LG ++ LH) : x.shr = true := by
  simp only [LG, LH, List.cons_append, List.nil_append, List.mem_cons, List.not_mem_nil, or_false] at h
  rcases h with rfl | rfl | rfl | rfl | rfl | rfl | rfl | rfl <;> rfl
theorem g3 (h : Q.nx [a0, a1, a2, a3, a4, some (.ref s.length), a6, a7, a8, a9, a10, a11, a12, a13, a14, a15, some (.ref 1)] (s ++ [.lst LG])) : Ws (runS (cfg.q (k+9)) (.asg (.nm 5) (.lst [(.tup [(.con (.str ("made" : Str))), (.tup [])]), (.tup [(.con (.str ("failed" : Str))), (.tup [(.con (.str ("fail" : Str))), (.tup [(.con (.str ("a" : Str)))])])]), (.tup [(.con (.str ("failed" : Str))), (.tup [(.con (.str ("name" : Str)))])]), (.tup [(.con (.str ("failed" : Str))), (.tup [(.con (.str ("long" : Str)))])]), (.tup [(.con (.str ("failed" : Str))), (.tup [(.con (.str ("absent" : Str))), (.con (.str ("a" : Str)))])]), (.tup [(.con (.str ("failed" : Str))), (.tup [(.con (.str ("below" : Str))), (.con (.str ("9" : Str)))])]), (.tup [(.con (.str ("failed" : Str))), (.tup [(.con (.str ("ring" : Str)))])])])) [a0, a1, a2, a3, a4, a5, a6, a7, a8, a9, a10, a11, a12, a13, a14, a15, some (.ref 1)] s) Q := by
  refine ws_asg (.of (a := .lst LG) (s' := s) (by kernel_rfl) ?_)
  simp only [we_con, we_varm, we_glom, we_bin, we_neg, we_cmp, we_chain, we_and, we_or, we_not, we_ife, we_tup, we_lst, we_ix, we_sl, we_rev, we_call, we_blt, we_isi, we_app, we_lc, wa_nil, wa_cons, wr_nil, wr_cons, wo_none, wo_some, wto_none, wto_some, wt_and, wt_or, wt_not, wt_cmp, wt_chain, wt_tru, wi_seq, wi_range, wi_enum, wg_nm, wg_tup, wg_nil, wg_cons, wg_sub, wp_ok, wp_bad, wp_nox, wb_add, wb_sub, wb_mul, wb_fdiv, wb_mod, wb_pow, wc_eq, wc_ne, wc_lt, wc_le, wc_gt, wc_ge, wc_eqb, wc_neb, wc_eqs, wc_nes, wx_int, wx_lent, wx_lenl, wx_lenr, wz_int, wz_str, wz_bl, wz_non, wz_tup, wz_rol, wz_ref, wz_lst, List.getElem?_cons_zero, List.getElem?_cons_succ, List.set_cons_zero, List.set_cons_succ, List.length_cons, List.length_nil, wi_tup, wi_lst, wi_rol, wx_tuplel, wx_tuplet, wx_listt, wto_some, hdq, hqc, ite_f, ite_tt, decide_eq_true_eq, Bool.not_eq_true', wisT, ex_bl, ex_int, ite_tf, ite_ff, wix0, wix1, wix2, Nat.reduceAdd, Nat.reduceLT, sl0, sl1, sl2, sl3, sl4, sl5, sl6, sl10, if_true, true_and, and_true, List.map_cons, List.map_nil, wip, wt_turn, it_non_int, it_non_bool, it_non_str, it_non_tuple, it_non_list, it_non_dict, it_bl_int, it_bl_bool, it_bl_str, it_bl_tuple, it_bl_list, it_bl_dict, it_int_int, it_int_bool, it_int_str, it_int_tuple, it_int_list, it_int_dict, it_str_int, it_str_bool, it_str_str, it_str_tuple, it_str_list, it_str_dict, it_tup_int, it_tup_bool, it_tup_str, it_tup_tuple, it_tup_list, it_tup_dict, it_lst_int, it_lst_bool, it_lst_str, it_lst_tuple, it_lst_list, it_lst_dict, it_rol_int, it_rol_bool, it_rol_str, it_rol_tuple, it_rol_list, it_rol_dict, we_revt, we_fnv, wz_dic, wz_fn, we_dct0]
  exact h
theorem g4 (h1 : lk s r = some LG) (h : ∀ a3, Q.nx [a0, a1, a2, a3, a4, some (.ref r), a6, a7, a8, a9, a10, a11, a12, a13, a14, a15, some (.ref 1)] s) : Ws (runS (cfg.q (k+9)) (.fo (.nm 3) (.seq (.bin .add (.var 5) (.lst [(.tup [(.con (.str ("absent" : Str)))])]))) [(.ife (.or (.cmp .isn (.call ("is_state" : Str) [(.var 3)]) (.con (.bl true))) (.not (.tru (.call ("_law_same" : Str) [(.call ("is_result" : Str) [(.var 3)]), (.cmp .ne (.var 3) (.tup [(.con (.str ("absent" : Str)))]))])))) [(.ret (some (.con (.bl false))))] []), (.ife (.and (.cmp .eq (.ix (.var 3) (.con (.int 0))) (.con (.str ("failed" : Str)))) (.cmp .isn (.call ("is_why" : Str) [(.ix (.var 3) (.con (.int 1)))]) (.con (.bl true)))) [(.ret (some (.con (.bl false))))] [])]) [a0, a1, a2, a3, a4, some (.ref r), a6, a7, a8, a9, a10, a11, a12, a13, a14, a15, some (.ref 1)] s) Q := by
  refine ws_fol (l := LG ++ LH) (ok := fun _ => true) ?_ (fun l ρ s' => (∀ x ∈ l, x ∈ LG ++ LH) ∧ s' = s ∧ ∃ a3, ρ = [a0, a1, a2, a3, a4, some (.ref r), a6, a7, a8, a9, a10, a11, a12, a13, a14, a15, some (.ref 1)]) ⟨fun x hx => hx, rfl, a3, rfl⟩ ?_ ?_
  · rw [wi_seq, we_bin, we_varm]
    simp only [List.getElem?_cons_zero, List.getElem?_cons_succ]
    refine .of (a := .lst LH) (s' := s) (by kernel_rfl) ?_
    rw [wb_ladd (mut_ref h1) mut_lst (leL (by decide)), wi_lst]
    exact ⟨rfl, rfl⟩
  · rintro ρ s' ⟨_, rfl, x3, rfl⟩
    exact ⟨rfl, h x3⟩
  · rintro x xs ρ s' ⟨hx, rfl, x3, rfl⟩
    have hx1 := hx x List.mem_cons_self
    refine ⟨rfl, ?_⟩
    rw [wg_nm, wz_shr (good_shr hx1)]
    refine ⟨⟨by show 3 < 17; decide, hdq⟩, ?_⟩
    show Ws (runSs _ _ [a0, a1, a2, some (x), a4, some (.ref r), a6, a7, a8, a9, a10, a11, a12, a13, a14, a15, some (.ref 1)] _) _
    exact ws_ofn (good_turn hx1) ⟨fun y hy => hx y (List.mem_cons_of_mem _ hy), rfl, _, rfl⟩
theorem g5 (h : Q.nx [a0, a1, a2, a3, some (.ref (s ++ [O.lst [D.str "a"]]).length), a5, a6, a7, a8, a9, a10, a11, a12, a13, a14, a15, some (.ref 1)] (s ++ [O.lst [D.str "a"]] ++ [O.lst (LB s.length)])) : Ws (runS (cfg.q (k+9)) (.asg (.nm 4) (.lst [(.con .non), (.tup []), (.con (.str ("absent" : Str))), (.tup [(.con (.str ("absent" : Str))), (.con (.str ("a" : Str)))]), (.tup [(.con (.str ("made" : Str)))]), (.tup [(.con (.str ("made" : Str))), (.tup [(.con (.str ("A" : Str)))])]), (.tup [(.con (.str ("made" : Str))), (.lst [(.con (.str ("a" : Str)))])]), (.tup [(.con (.str ("failed" : Str)))]), (.tup [(.con (.str ("failed" : Str))), (.con (.str ("ring" : Str)))]), (.tup [(.con (.str ("failed" : Str))), (.tup [(.con (.str ("ring" : Str))), (.con (.str ("a" : Str)))])])])) [a0, a1, a2, a3, a4, a5, a6, a7, a8, a9, a10, a11, a12, a13, a14, a15, some (.ref 1)] s) Q := by
  refine ws_asg (.of (a := .lst (LB s.length)) (s' := s ++ [.lst [.str "a"]]) (by kernel_rfl) ?_)
  simp only [we_con, we_varm, we_glom, we_bin, we_neg, we_cmp, we_chain, we_and, we_or, we_not, we_ife, we_tup, we_lst, we_ix, we_sl, we_rev, we_call, we_blt, we_isi, we_app, we_lc, wa_nil, wa_cons, wr_nil, wr_cons, wo_none, wo_some, wto_none, wto_some, wt_and, wt_or, wt_not, wt_cmp, wt_chain, wt_tru, wi_seq, wi_range, wi_enum, wg_nm, wg_tup, wg_nil, wg_cons, wg_sub, wp_ok, wp_bad, wp_nox, wb_add, wb_sub, wb_mul, wb_fdiv, wb_mod, wb_pow, wc_eq, wc_ne, wc_lt, wc_le, wc_gt, wc_ge, wc_eqb, wc_neb, wc_eqs, wc_nes, wx_int, wx_lent, wx_lenl, wx_lenr, wz_int, wz_str, wz_bl, wz_non, wz_tup, wz_rol, wz_ref, wz_lst, List.getElem?_cons_zero, List.getElem?_cons_succ, List.set_cons_zero, List.set_cons_succ, List.length_cons, List.length_nil, wi_tup, wi_lst, wi_rol, wx_tuplel, wx_tuplet, wx_listt, wto_some, hdq, hqc, ite_f, ite_tt, decide_eq_true_eq, Bool.not_eq_true', wisT, ex_bl, ex_int, ite_tf, ite_ff, wix0, wix1, wix2, Nat.reduceAdd, Nat.reduceLT, sl0, sl1, sl2, sl3, sl4, sl5, sl6, sl10, if_true, true_and, and_true, List.map_cons, List.map_nil, wip, wt_turn, it_non_int, it_non_bool, it_non_str, it_non_tuple, it_non_list, it_non_dict, it_bl_int, it_bl_bool, it_bl_str, it_bl_tuple, it_bl_list, it_bl_dict, it_int_int, it_int_bool, it_int_str, it_int_tuple, it_int_list, it_int_dict, it_str_int, it_str_bool, it_str_str, it_str_tuple, it_str_list, it_str_dict, it_tup_int, it_tup_bool, it_tup_str, it_tup_tuple, it_tup_list, it_tup_dict, it_lst_int, it_lst_bool, it_lst_str, it_lst_tuple, it_lst_list, it_lst_dict, it_rol_int, it_rol_bool, it_rol_str, it_rol_tuple, it_rol_list, it_rol_dict, we_revt, we_fnv, wz_dic, wz_fn, we_dct0]
  exact h
theorem g6 (h1 : lk s r4 = some (LB r)) (h : Q.nx [a0, a1, a2, a3, some (.ref s.length), a5, a6, a7, a8, a9, a10, a11, a12, a13, a14, a15, some (.ref 1)] (s ++ [O.lst (LB r ++ LC)])) : Ws (runS (cfg.q (k+9)) (.asg (.nm 4) (.bin .add (.var 4) (.lst [(.tup [(.con (.str ("failed" : Str))), (.tup [(.con (.str ("below" : Str)))])]), (.tup [(.con (.str ("failed" : Str))), (.tup [(.con (.str ("absent" : Str))), (.con (.str ("" : Str)))])]), (.tup [(.con (.str ("failed" : Str))), (.tup [(.con (.str ("fail" : Str))), (.con (.str ("a" : Str)))])])]))) [a0, a1, a2, a3, some (.ref r4), a5, a6, a7, a8, a9, a10, a11, a12, a13, a14, a15, some (.ref 1)] s) Q := by
  refine ws_asg ?_
  rw [we_bin, we_varm]
  simp only [List.getElem?_cons_zero, List.getElem?_cons_succ]
  refine .of (a := .lst LC) (s' := s) (by kernel_rfl) ?_
  rw [wb_ladd (mut_ref h1) mut_lst (leL (by show 10 + 3 ≤ 1000000; decide))]
  simp only [we_con, we_varm, we_glom, we_bin, we_neg, we_cmp, we_chain, we_and, we_or, we_not, we_ife, we_tup, we_lst, we_ix, we_sl, we_rev, we_call, we_blt, we_isi, we_app, we_lc, wa_nil, wa_cons, wr_nil, wr_cons, wo_none, wo_some, wto_none, wto_some, wt_and, wt_or, wt_not, wt_cmp, wt_chain, wt_tru, wi_seq, wi_range, wi_enum, wg_nm, wg_tup, wg_nil, wg_cons, wg_sub, wp_ok, wp_bad, wp_nox, wb_add, wb_sub, wb_mul, wb_fdiv, wb_mod, wb_pow, wc_eq, wc_ne, wc_lt, wc_le, wc_gt, wc_ge, wc_eqb, wc_neb, wc_eqs, wc_nes, wx_int, wx_lent, wx_lenl, wx_lenr, wz_int, wz_str, wz_bl, wz_non, wz_tup, wz_rol, wz_ref, wz_lst, List.getElem?_cons_zero, List.getElem?_cons_succ, List.set_cons_zero, List.set_cons_succ, List.length_cons, List.length_nil, wi_tup, wi_lst, wi_rol, wx_tuplel, wx_tuplet, wx_listt, wto_some, hdq, hqc, ite_f, ite_tt, decide_eq_true_eq, Bool.not_eq_true', wisT, ex_bl, ex_int, ite_tf, ite_ff, wix0, wix1, wix2, Nat.reduceAdd, Nat.reduceLT, sl0, sl1, sl2, sl3, sl4, sl5, sl6, sl10, if_true, true_and, and_true, List.map_cons, List.map_nil, wip, wt_turn, it_non_int, it_non_bool, it_non_str, it_non_tuple, it_non_list, it_non_dict, it_bl_int, it_bl_bool, it_bl_str, it_bl_tuple, it_bl_list, it_bl_dict, it_int_int, it_int_bool, it_int_str, it_int_tuple, it_int_list, it_int_dict, it_str_int, it_str_bool, it_str_str, it_str_tuple, it_str_list, it_str_dict, it_tup_int, it_tup_bool, it_tup_str, it_tup_tuple, it_tup_list, it_tup_dict, it_lst_int, it_lst_bool, it_lst_str, it_lst_tuple, it_lst_list, it_lst_dict, it_rol_int, it_rol_bool, it_rol_str, it_rol_tuple, it_rol_list, it_rol_dict, we_revt, we_fnv, wz_dic, wz_fn, we_dct0]
  exact h
theorem it_refn {xs : List D} (h : lk s r = some xs) : isT (.ref r) .tuple s = some false := by
  show (match lk s r with
    | some _ => some (Ty.tuple == Ty.list)
    | none => (dk s r).map fun _ => Ty.tuple == Ty.dict) = _
  rw [h]; rfl
theorem s_contentR {xs : List D} (h : lk s r = some xs) : Wp E0 (cl (k+1) "is_content" [.ref r] s) fun d s' => d = .bl false ∧ s' = s := by
  rw [c_content]
  refine wf_run ?_
  show Ws (runSs (cfg.q k) d_is_content.body [some (.ref r), none] _) _
  unfold d_is_content
  refine ws_rets ?_
  rw [we_and, we_isi, we_varm]
  show ∃ k, isT (.ref r) .tuple s = some k ∧ _
  rw [it_refn h]
  exact ⟨_, rfl, _, rfl, rfl, rfl⟩
theorem s_stateR {xs : List D} (h : lk s r = some xs) : Wp E0 (cl (k+3) "is_state" [.tup [.str "made", .ref r]] s) fun d s' => d = .bl false ∧ s' = s := by
  rw [c_state]
  refine wf_run ?_
  show Ws (runSs (cfg.q (k+2)) d_is_state.body [some (.tup [.str "made", .ref r])] s) _
  unfold d_is_state
  refine ws_skip (.of (by kernel_rfl) ⟨rfl, rfl⟩) ?_
  refine ws_skip (.of (by kernel_rfl) ⟨rfl, rfl⟩) ?_
  refine ws_take (.of (by kernel_rfl) ⟨rfl, rfl⟩) ?_
  refine ws_rets ?_
  simp only [we_con, we_varm, we_glom, we_bin, we_neg, we_cmp, we_chain, we_and, we_or, we_not, we_ife, we_tup, we_lst, we_ix, we_sl, we_rev, we_call, we_blt, we_isi, we_app, we_lc, wa_nil, wa_cons, wr_nil, wr_cons, wo_none, wo_some, wto_none, wto_some, wt_and, wt_or, wt_not, wt_cmp, wt_chain, wt_tru, wi_seq, wi_range, wi_enum, wg_nm, wg_tup, wg_nil, wg_cons, wg_sub, wp_ok, wp_bad, wp_nox, wb_add, wb_sub, wb_mul, wb_fdiv, wb_mod, wb_pow, wc_eq, wc_ne, wc_lt, wc_le, wc_gt, wc_ge, wc_eqb, wc_neb, wc_eqs, wc_nes, wx_int, wx_lent, wx_lenl, wx_lenr, wz_int, wz_str, wz_bl, wz_non, wz_tup, wz_rol, wz_ref, wz_lst, List.getElem?_cons_zero, List.getElem?_cons_succ, List.set_cons_zero, List.set_cons_succ, List.length_cons, List.length_nil, wi_tup, wi_lst, wi_rol, wx_tuplel, wx_tuplet, wx_listt, wto_some, hdq, hqc, ite_f, ite_tt, decide_eq_true_eq, Bool.not_eq_true', wisT, ex_bl, ex_int, ite_tf, ite_ff, wix0, wix1, wix2, Nat.reduceAdd, Nat.reduceLT, sl0, sl1, sl2, sl3, sl4, sl5, sl6, sl10, if_true, true_and, and_true, List.map_cons, List.map_nil, wip, wt_turn, it_non_int, it_non_bool, it_non_str, it_non_tuple, it_non_list, it_non_dict, it_bl_int, it_bl_bool, it_bl_str, it_bl_tuple, it_bl_list, it_bl_dict, it_int_int, it_int_bool, it_int_str, it_int_tuple, it_int_list, it_int_dict, it_str_int, it_str_bool, it_str_str, it_str_tuple, it_str_list, it_str_dict, it_tup_int, it_tup_bool, it_tup_str, it_tup_tuple, it_tup_list, it_tup_dict, it_lst_int, it_lst_bool, it_lst_str, it_lst_tuple, it_lst_list, it_lst_dict, it_rol_int, it_rol_bool, it_rol_str, it_rol_tuple, it_rol_list, it_rol_dict, we_revt, we_fnv, wz_dic, wz_fn, we_dct0]
  rw [if_pos (by decide)]
  refine wp_to (s_contentR h) ?_
  exact ⟨rfl, rfl⟩
theorem s_stateL {xs : List D} (h : lk s r = some xs) : Wp E0 (cl (k+1) "is_state" [.ref r] s) fun d s' => d = .bl false ∧ s' = s := by
  rw [c_state]
  refine wf_run ?_
  show Ws (runSs (cfg.q k) d_is_state.body [some (.ref r)] s) _
  unfold d_is_state
  refine ws_take ?_ ?_
  · rw [wt_or, wt_not, wt_tru, we_isi, we_varm]
    show ∃ k, isT (.ref r) .tuple s = some k ∧ _
    rw [it_refn h]
    refine ⟨_, rfl, _, rfl, ?_⟩
    exact ⟨rfl, rfl⟩
  · refine ws_rets ?_
    rw [we_con]
    exact ⟨rfl, rfl⟩
theorem s_resultX {d : D} (h : Wp E0 (cl (k+3) "is_state" [d] s) fun d s' => d = .bl false ∧ s' = s) (hs : d.shr = true) : Wp E0 (cl (k+4) "is_result" [d] s) fun d s' => d = .bl false ∧ s' = s := by
  rw [c_result]
  refine wf_run ?_
  show Ws (runSs (cfg.q (k+3)) d_is_result.body [some d] s) _
  unfold d_is_result
  refine ws_rets ?_
  simp only [we_con, we_varm, we_glom, we_bin, we_neg, we_cmp, we_chain, we_and, we_or, we_not, we_ife, we_tup, we_lst, we_ix, we_sl, we_rev, we_call, we_blt, we_isi, we_app, we_lc, wa_nil, wa_cons, wr_nil, wr_cons, wo_none, wo_some, wto_none, wto_some, wt_and, wt_or, wt_not, wt_cmp, wt_chain, wt_tru, wi_seq, wi_range, wi_enum, wg_nm, wg_tup, wg_nil, wg_cons, wg_sub, wp_ok, wp_bad, wp_nox, wb_add, wb_sub, wb_mul, wb_fdiv, wb_mod, wb_pow, wc_eq, wc_ne, wc_lt, wc_le, wc_gt, wc_ge, wc_eqb, wc_neb, wc_eqs, wc_nes, wx_int, wx_lent, wx_lenl, wx_lenr, wz_int, wz_str, wz_bl, wz_non, wz_tup, wz_rol, wz_ref, wz_lst, List.getElem?_cons_zero, List.getElem?_cons_succ, List.set_cons_zero, List.set_cons_succ, List.length_cons, List.length_nil, wi_tup, wi_lst, wi_rol, wx_tuplel, wx_tuplet, wx_listt, wto_some, hdq, hqc, ite_f, ite_tt, decide_eq_true_eq, Bool.not_eq_true', wisT, ex_bl, ex_int, ite_tf, ite_ff, wix0, wix1, wix2, Nat.reduceAdd, Nat.reduceLT, sl0, sl1, sl2, sl3, sl4, sl5, sl6, sl10, if_true, true_and, and_true, List.map_cons, List.map_nil, wip, wt_turn, it_non_int, it_non_bool, it_non_str, it_non_tuple, it_non_list, it_non_dict, it_bl_int, it_bl_bool, it_bl_str, it_bl_tuple, it_bl_list, it_bl_dict, it_int_int, it_int_bool, it_int_str, it_int_tuple, it_int_list, it_int_dict, it_str_int, it_str_bool, it_str_str, it_str_tuple, it_str_list, it_str_dict, it_tup_int, it_tup_bool, it_tup_str, it_tup_tuple, it_tup_list, it_tup_dict, it_lst_int, it_lst_bool, it_lst_str, it_lst_tuple, it_lst_list, it_lst_dict, it_rol_int, it_rol_bool, it_rol_str, it_rol_tuple, it_rol_list, it_rol_dict, we_revt, we_fnv, wz_dic, wz_fn, we_dct0]
  rw [wz_shr hs]
  refine wp_to h ?_
  simp only [we_con, we_varm, we_glom, we_bin, we_neg, we_cmp, we_chain, we_and, we_or, we_not, we_ife, we_tup, we_lst, we_ix, we_sl, we_rev, we_call, we_blt, we_isi, we_app, we_lc, wa_nil, wa_cons, wr_nil, wr_cons, wo_none, wo_some, wto_none, wto_some, wt_and, wt_or, wt_not, wt_cmp, wt_chain, wt_tru, wi_seq, wi_range, wi_enum, wg_nm, wg_tup, wg_nil, wg_cons, wg_sub, wp_ok, wp_bad, wp_nox, wb_add, wb_sub, wb_mul, wb_fdiv, wb_mod, wb_pow, wc_eq, wc_ne, wc_lt, wc_le, wc_gt, wc_ge, wc_eqb, wc_neb, wc_eqs, wc_nes, wx_int, wx_lent, wx_lenl, wx_lenr, wz_int, wz_str, wz_bl, wz_non, wz_tup, wz_rol, wz_ref, wz_lst, List.getElem?_cons_zero, List.getElem?_cons_succ, List.set_cons_zero, List.set_cons_succ, List.length_cons, List.length_nil, wi_tup, wi_lst, wi_rol, wx_tuplel, wx_tuplet, wx_listt, wto_some, hdq, hqc, ite_f, ite_tt, decide_eq_true_eq, Bool.not_eq_true', wisT, ex_bl, ex_int, ite_tf, ite_ff, wix0, wix1, wix2, Nat.reduceAdd, Nat.reduceLT, sl0, sl1, sl2, sl3, sl4, sl5, sl6, sl10, if_true, true_and, and_true, List.map_cons, List.map_nil, wip, wt_turn, it_non_int, it_non_bool, it_non_str, it_non_tuple, it_non_list, it_non_dict, it_bl_int, it_bl_bool, it_bl_str, it_bl_tuple, it_bl_list, it_bl_dict, it_int_int, it_int_bool, it_int_str, it_int_tuple, it_int_list, it_int_dict, it_str_int, it_str_bool, it_str_str, it_str_tuple, it_str_list, it_str_dict, it_tup_int, it_tup_bool, it_tup_str, it_tup_tuple, it_tup_list, it_tup_dict, it_lst_int, it_lst_bool, it_lst_str, it_lst_tuple, it_lst_list, it_lst_dict, it_rol_int, it_rol_bool, it_rol_str, it_rol_tuple, it_rol_list, it_rol_dict, we_revt, we_fnv, wz_dic, wz_fn, we_dct0]
theorem bad_turn {x : D} {xs ys : List D} (h1 : lk s r = some xs) (h2 : lk s r2 = some ys) (h : x ∈ (LB r ++ LC) ++ LD r2) : Ws (runSs (cfg.q (k+9)) [(.ife (.or (.cmp .isn (.call ("is_state" : Str) [(.var 3)]) (.con (.bl false))) (.cmp .isn (.call ("is_result" : Str) [(.var 3)]) (.con (.bl false)))) [(.ret (some (.con (.bl false))))] [])] [a0, a1, a2, some (x), a4, a5, a6, a7, a8, a9, a10, a11, a12, a13, a14, a15, some (.ref 1)] s) { nx := fun ρ s' => ρ = [a0, a1, a2, some (x), a4, a5, a6, a7, a8, a9, a10, a11, a12, a13, a14, a15, some (.ref 1)] ∧ s' = s } := by
  have key : ∀ {x : D}, x.shr = true → Wp E0 (cl (k+9) "is_state" [x] s) (fun d s' => d = .bl false ∧ s' = s) → Wp E0 (cl (k+9) "is_result" [x] s) (fun d s' => d = .bl false ∧ s' = s) → Ws (runSs (cfg.q (k+9)) [(.ife (.or (.cmp .isn (.call ("is_state" : Str) [(.var 3)]) (.con (.bl false))) (.cmp .isn (.call ("is_result" : Str) [(.var 3)]) (.con (.bl false)))) [(.ret (some (.con (.bl false))))] [])] [a0, a1, a2, some (x), a4, a5, a6, a7, a8, a9, a10, a11, a12, a13, a14, a15, some (.ref 1)] s) { nx := fun ρ s' => ρ = [a0, a1, a2, some (x), a4, a5, a6, a7, a8, a9, a10, a11, a12, a13, a14, a15, some (.ref 1)] ∧ s' = s } := by
    intro x sh hx hy
    refine ws_skip ?_ ?_
    · simp only [we_con, we_varm, we_glom, we_bin, we_neg, we_cmp, we_chain, we_and, we_or, we_not, we_ife, we_tup, we_lst, we_ix, we_sl, we_rev, we_call, we_blt, we_isi, we_app, we_lc, wa_nil, wa_cons, wr_nil, wr_cons, wo_none, wo_some, wto_none, wto_some, wt_and, wt_or, wt_not, wt_cmp, wt_chain, wt_tru, wi_seq, wi_range, wi_enum, wg_nm, wg_tup, wg_nil, wg_cons, wg_sub, wp_ok, wp_bad, wp_nox, wb_add, wb_sub, wb_mul, wb_fdiv, wb_mod, wb_pow, wc_eq, wc_ne, wc_lt, wc_le, wc_gt, wc_ge, wc_eqb, wc_neb, wc_eqs, wc_nes, wx_int, wx_lent, wx_lenl, wx_lenr, wz_int, wz_str, wz_bl, wz_non, wz_tup, wz_rol, wz_ref, wz_lst, List.getElem?_cons_zero, List.getElem?_cons_succ, List.set_cons_zero, List.set_cons_succ, List.length_cons, List.length_nil, wi_tup, wi_lst, wi_rol, wx_tuplel, wx_tuplet, wx_listt, wto_some, hdq, hqc, ite_f, ite_tt, decide_eq_true_eq, Bool.not_eq_true', wisT, ex_bl, ex_int, ite_tf, ite_ff, wix0, wix1, wix2, Nat.reduceAdd, Nat.reduceLT, sl0, sl1, sl2, sl3, sl4, sl5, sl6, sl10, if_true, true_and, and_true, List.map_cons, List.map_nil, wip, wt_turn, it_non_int, it_non_bool, it_non_str, it_non_tuple, it_non_list, it_non_dict, it_bl_int, it_bl_bool, it_bl_str, it_bl_tuple, it_bl_list, it_bl_dict, it_int_int, it_int_bool, it_int_str, it_int_tuple, it_int_list, it_int_dict, it_str_int, it_str_bool, it_str_str, it_str_tuple, it_str_list, it_str_dict, it_tup_int, it_tup_bool, it_tup_str, it_tup_tuple, it_tup_list, it_tup_dict, it_lst_int, it_lst_bool, it_lst_str, it_lst_tuple, it_lst_list, it_lst_dict, it_rol_int, it_rol_bool, it_rol_str, it_rol_tuple, it_rol_list, it_rol_dict, we_revt, we_fnv, wz_dic, wz_fn, we_dct0, wz_shr sh]
      refine wp_to hx ?_
      rw [wc_isn]
      simp only [we_con, we_varm, we_glom, we_bin, we_neg, we_cmp, we_chain, we_and, we_or, we_not, we_ife, we_tup, we_lst, we_ix, we_sl, we_rev, we_call, we_blt, we_isi, we_app, we_lc, wa_nil, wa_cons, wr_nil, wr_cons, wo_none, wo_some, wto_none, wto_some, wt_and, wt_or, wt_not, wt_cmp, wt_chain, wt_tru, wi_seq, wi_range, wi_enum, wg_nm, wg_tup, wg_nil, wg_cons, wg_sub, wp_ok, wp_bad, wp_nox, wb_add, wb_sub, wb_mul, wb_fdiv, wb_mod, wb_pow, wc_eq, wc_ne, wc_lt, wc_le, wc_gt, wc_ge, wc_eqb, wc_neb, wc_eqs, wc_nes, wx_int, wx_lent, wx_lenl, wx_lenr, wz_int, wz_str, wz_bl, wz_non, wz_tup, wz_rol, wz_ref, wz_lst, List.getElem?_cons_zero, List.getElem?_cons_succ, List.set_cons_zero, List.set_cons_succ, List.length_cons, List.length_nil, wi_tup, wi_lst, wi_rol, wx_tuplel, wx_tuplet, wx_listt, wto_some, hdq, hqc, ite_f, ite_tt, decide_eq_true_eq, Bool.not_eq_true', wisT, ex_bl, ex_int, ite_tf, ite_ff, wix0, wix1, wix2, Nat.reduceAdd, Nat.reduceLT, sl0, sl1, sl2, sl3, sl4, sl5, sl6, sl10, if_true, true_and, and_true, List.map_cons, List.map_nil, wip, wt_turn, it_non_int, it_non_bool, it_non_str, it_non_tuple, it_non_list, it_non_dict, it_bl_int, it_bl_bool, it_bl_str, it_bl_tuple, it_bl_list, it_bl_dict, it_int_int, it_int_bool, it_int_str, it_int_tuple, it_int_list, it_int_dict, it_str_int, it_str_bool, it_str_str, it_str_tuple, it_str_list, it_str_dict, it_tup_int, it_tup_bool, it_tup_str, it_tup_tuple, it_tup_list, it_tup_dict, it_lst_int, it_lst_bool, it_lst_str, it_lst_tuple, it_lst_list, it_lst_dict, it_rol_int, it_rol_bool, it_rol_str, it_rol_tuple, it_rol_list, it_rol_dict, we_revt, we_fnv, wz_dic, wz_fn, we_dct0, wz_shr sh]
      refine wp_to hy ?_
      rw [wc_isn]
      exact ⟨rfl, rfl⟩
    · rw [ws_nil]
      exact ⟨rfl, rfl⟩
  simp only [LB, LC, LD, List.cons_append, List.nil_append, List.mem_cons, List.not_mem_nil, or_false] at h
  rcases h with rfl | rfl | rfl | rfl | rfl | rfl | rfl | rfl | rfl | rfl | rfl | rfl | rfl | rfl | rfl | rfl | rfl | rfl
  case inr.inr.inr.inr.inr.inr.inl => exact key rfl (s_stateR (k := k+6) h1) (s_resultX (k := k+5) (s_stateR (k := k+5) h1) rfl)
  case inr.inr.inr.inr.inr.inr.inr.inr.inr.inr.inr.inr.inr.inl => exact key rfl (s_stateL (k := k+8) h2) (s_resultX (k := k+5) (s_stateL (k := k+7) h2) rfl)
  all_goals exact ws_ofn (by kernel_rfl) ⟨rfl, rfl⟩
theorem g7 (h1 : lk s r4 = some (LB r ++ LC)) (h2 : lk s r = some [.str "a"]) (h : ∀ a3 t, Q.nx [a0, a1, a2, a3, some (.ref r4), a5, a6, a7, a8, a9, a10, a11, a12, a13, a14, a15, some (.ref 1)] (s ++ t)) : Ws (runS (cfg.q (k+9)) (.fo (.nm 3) (.seq (.bin .add (.var 4) (.lst [(.lst [(.con (.str ("made" : Str))), (.tup [])]), (.tup [(.con (.str ("failed" : Str))), (.tup [(.con (.str ("odd" : Str)))])]), (.tup [(.con (.int 1)), (.tup [])]), (.tup [(.con (.str ("failed" : Str))), (.tup [(.con (.str ("below" : Str))), (.con (.str ("abcdefghi" : Str)))])]), (.tup [(.con (.str ("failed" : Str))), (.tup [])])]))) [(.ife (.or (.cmp .isn (.call ("is_state" : Str) [(.var 3)]) (.con (.bl false))) (.cmp .isn (.call ("is_result" : Str) [(.var 3)]) (.con (.bl false)))) [(.ret (some (.con (.bl false))))] [])]) [a0, a1, a2, a3, some (.ref r4), a5, a6, a7, a8, a9, a10, a11, a12, a13, a14, a15, some (.ref 1)] s) Q := by
  refine ws_fo ?_
  rw [wi_seq, we_bin, we_varm]
  simp only [List.getElem?_cons_zero, List.getElem?_cons_succ]
  refine .of (a := .lst (LD s.length)) (s' := s ++ [.lst [.str "made", .tup []]]) (by kernel_rfl) ?_
  rw [wb_ladd (mut_ref (lk_app h1)) mut_lst (leL (by show 13 + 5 ≤ 1000000; decide)), wi_lst]
  refine ⟨fun l ρ s' => (∀ x ∈ l, x ∈ (LB r ++ LC) ++ LD s.length) ∧ s' = s ++ [.lst [.str "made", .tup []]] ∧ ∃ a3, ρ = [a0, a1, a2, a3, some (.ref r4), a5, a6, a7, a8, a9, a10, a11, a12, a13, a14, a15, some (.ref 1)], ⟨fun x hx => hx, rfl, a3, rfl⟩, ?_, ?_⟩
  · rintro ρ s' ⟨_, rfl, x3, rfl⟩
    exact ⟨rfl, h x3 _⟩
  · rintro x xs ρ s' ⟨hx, rfl, x3, rfl⟩
    have hx1 := hx x List.mem_cons_self
    have sh : x.shr = true := by
      clear hx
      simp only [LB, LC, LD, List.cons_append, List.nil_append, List.mem_cons, List.not_mem_nil, or_false] at hx1
      rcases hx1 with rfl | rfl | rfl | rfl | rfl | rfl | rfl | rfl | rfl | rfl | rfl | rfl | rfl | rfl | rfl | rfl | rfl | rfl <;> rfl
    refine ⟨rfl, ?_⟩
    rw [wg_nm, wz_shr sh]
    refine ⟨⟨by show 3 < 17; decide, hdq⟩, ?_⟩
    show Ws (runSs _ _ [a0, a1, a2, some (x), some (.ref r4), a5, a6, a7, a8, a9, a10, a11, a12, a13, a14, a15, some (.ref 1)] _) _
    refine (bad_turn (lk_app h2) lk_new1 hx1).imp ?_ (fun _ _ z => z.elim) (fun _ _ z => z.elim) (fun _ _ z => z.elim) (fun _ _ _ _ z => z.elim)
    rintro ρ s' ⟨rfl, rfl⟩
    exact ⟨fun y hy => hx y (List.mem_cons_of_mem _ hy), rfl, _, rfl⟩
theorem g8 (h : Q.nx [a0, a1, some (.ref s.length), a3, a4, a5, a6, a7, a8, a9, a10, a11, a12, a13, a14, a15, some (.ref 1)] (s ++ [.lst LW])) : Ws (runS (cfg.q (k+9)) (.asg (.nm 2) (.lc [(("one" : Str), 1)] (.call ("is_word" : Str) [(.var 1)]) (.nm 1) (.seq (.tup [(.con (.str ("a" : Str))), (.con (.str ("abcdefgh" : Str))), (.con (.str ("0" : Str))), (.con (.str ("abcdefghi" : Str))), (.con (.str ("" : Str))), (.con (.str ("A" : Str))), (.con (.str ("a b" : Str))), (.con (.str ("a-" : Str))), (.con .non), (.con (.int 1)), (.tup [(.con (.str ("a" : Str)))])])) none)) [a0, a1, a2, a3, a4, a5, a6, a7, a8, a9, a10, a11, a12, a13, a14, a15, some (.ref 1)] s) Q := by
  refine ws_asg (.of (a := .lst LW) (s' := s) (by kernel_rfl) ?_)
  simp only [we_con, we_varm, we_glom, we_bin, we_neg, we_cmp, we_chain, we_and, we_or, we_not, we_ife, we_tup, we_lst, we_ix, we_sl, we_rev, we_call, we_blt, we_isi, we_app, we_lc, wa_nil, wa_cons, wr_nil, wr_cons, wo_none, wo_some, wto_none, wto_some, wt_and, wt_or, wt_not, wt_cmp, wt_chain, wt_tru, wi_seq, wi_range, wi_enum, wg_nm, wg_tup, wg_nil, wg_cons, wg_sub, wp_ok, wp_bad, wp_nox, wb_add, wb_sub, wb_mul, wb_fdiv, wb_mod, wb_pow, wc_eq, wc_ne, wc_lt, wc_le, wc_gt, wc_ge, wc_eqb, wc_neb, wc_eqs, wc_nes, wx_int, wx_lent, wx_lenl, wx_lenr, wz_int, wz_str, wz_bl, wz_non, wz_tup, wz_rol, wz_ref, wz_lst, List.getElem?_cons_zero, List.getElem?_cons_succ, List.set_cons_zero, List.set_cons_succ, List.length_cons, List.length_nil, wi_tup, wi_lst, wi_rol, wx_tuplel, wx_tuplet, wx_listt, wto_some, hdq, hqc, ite_f, ite_tt, decide_eq_true_eq, Bool.not_eq_true', wisT, ex_bl, ex_int, ite_tf, ite_ff, wix0, wix1, wix2, Nat.reduceAdd, Nat.reduceLT, sl0, sl1, sl2, sl3, sl4, sl5, sl6, sl10, if_true, true_and, and_true, List.map_cons, List.map_nil, wip, wt_turn, it_non_int, it_non_bool, it_non_str, it_non_tuple, it_non_list, it_non_dict, it_bl_int, it_bl_bool, it_bl_str, it_bl_tuple, it_bl_list, it_bl_dict, it_int_int, it_int_bool, it_int_str, it_int_tuple, it_int_list, it_int_dict, it_str_int, it_str_bool, it_str_str, it_str_tuple, it_str_list, it_str_dict, it_tup_int, it_tup_bool, it_tup_str, it_tup_tuple, it_tup_list, it_tup_dict, it_lst_int, it_lst_bool, it_lst_str, it_lst_tuple, it_lst_list, it_lst_dict, it_rol_int, it_rol_bool, it_rol_str, it_rol_tuple, it_rol_list, it_rol_dict, we_revt, we_fnv, wz_dic, wz_fn, we_dct0]
  exact h
theorem cmp_ner {xs ys : List D} (h : lk s r = some xs) (h2 : cmpO .ne (.lst xs) (.lst ys) [] = some false) : cmpD .ne (.ref r) (.lst ys) s = .ok false s := by
  have e : cmpO .ne (.ref r) (.lst ys) s = cmpO .ne (.lst xs) (.lst ys) [] := by
    unfold cmpO eqD
    rw [show (D.ref r).py s = (lk s r).bind fun xs => (D.pys xs).map .list from rfl, h]
    rfl
  unfold cmpD
  rw [e, h2]
theorem g9 (h1 : lk s r = some LW) (h : Q.nx [a0, a1, some (.ref r), a3, a4, a5, a6, a7, a8, a9, a10, a11, a12, a13, a14, a15, some (.ref 1)] s) : Ws (runS (cfg.q (k+9)) (.ife (.or (.cmp .ne (.var 2) (.bin .add (.lst [(.con (.bl true)), (.con (.bl true)), (.con (.bl true))]) (.bin .mul (.lst [(.con (.bl false))]) (.con (.int 8))))) (.cmp .ne (.lc [(("one" : Str), 1)] (.call ("is_whole" : Str) [(.var 1)]) (.nm 1) (.seq (.tup [(.con (.int 0)), (.neg (.con (.int 5))), (.con (.bl true)), (.con .non), (.con (.str ("1" : Str)))])) none) (.lst [(.con (.bl true)), (.con (.bl true)), (.con (.bl false)), (.con (.bl false)), (.con (.bl false))]))) [(.ret (some (.con (.bl false))))] []) [a0, a1, some (.ref r), a3, a4, a5, a6, a7, a8, a9, a10, a11, a12, a13, a14, a15, some (.ref 1)] s) Q := by
  refine ws_if0 ?_ ?_
  · rw [wt_or, wt_cmp, we_varm]
    simp only [List.getElem?_cons_zero, List.getElem?_cons_succ]
    refine .of (a := .lst LW) (s' := s) (by kernel_rfl) ?_
    refine .of (cmp_ner h1 (by kernel_rfl)) ?_
    rw [if_neg (by decide)]
    exact .of (by kernel_rfl) ⟨rfl, rfl⟩
  · rw [ws_nil]
    exact h
abbrev P1 : D := .tup [.str "project", .tup [], .tup [], .tup [.tup [.str "t", .tup [], .int 1, .tup [.str "words", .tup []]]]]
theorem s_ruleN : Wp E0 (cl (k+1) "rule_of" [P1, .str "u"] s) fun d s' => d = .non := by
  rw [c_rule]
  refine wf_run ?_
  show Ws (runSs (cfg.q k) d_rule_of.body [some P1, some (.str "u"), none, none] s) _
  unfold d_rule_of
  refine ws_asgs ?_
  refine .of (a := .lst []) (s' := s) (by kernel_rfl) ?_
  simp only [we_con, we_varm, we_glom, we_bin, we_neg, we_cmp, we_chain, we_and, we_or, we_not, we_ife, we_tup, we_lst, we_ix, we_sl, we_rev, we_call, we_blt, we_isi, we_app, we_lc, wa_nil, wa_cons, wr_nil, wr_cons, wo_none, wo_some, wto_none, wto_some, wt_and, wt_or, wt_not, wt_cmp, wt_chain, wt_tru, wi_seq, wi_range, wi_enum, wg_nm, wg_tup, wg_nil, wg_cons, wg_sub, wp_ok, wp_bad, wp_nox, wb_add, wb_sub, wb_mul, wb_fdiv, wb_mod, wb_pow, wc_eq, wc_ne, wc_lt, wc_le, wc_gt, wc_ge, wc_eqb, wc_neb, wc_eqs, wc_nes, wx_int, wx_lent, wx_lenl, wx_lenr, wz_int, wz_str, wz_bl, wz_non, wz_tup, wz_rol, wz_ref, wz_lst, List.getElem?_cons_zero, List.getElem?_cons_succ, List.set_cons_zero, List.set_cons_succ, List.length_cons, List.length_nil, wi_tup, wi_lst, wi_rol, wx_tuplel, wx_tuplet, wx_listt, wto_some, hdq, hqc, ite_f, ite_tt, decide_eq_true_eq, Bool.not_eq_true', wisT, ex_bl, ex_int, ite_tf, ite_ff, wix0, wix1, wix2, Nat.reduceAdd, Nat.reduceLT, sl0, sl1, sl2, sl3, sl4, sl5, sl6, sl10, if_true, true_and, and_true, List.map_cons, List.map_nil, wip, wt_turn, it_non_int, it_non_bool, it_non_str, it_non_tuple, it_non_list, it_non_dict, it_bl_int, it_bl_bool, it_bl_str, it_bl_tuple, it_bl_list, it_bl_dict, it_int_int, it_int_bool, it_int_str, it_int_tuple, it_int_list, it_int_dict, it_str_int, it_str_bool, it_str_str, it_str_tuple, it_str_list, it_str_dict, it_tup_int, it_tup_bool, it_tup_str, it_tup_tuple, it_tup_list, it_tup_dict, it_lst_int, it_lst_bool, it_lst_str, it_lst_tuple, it_lst_list, it_lst_dict, it_rol_int, it_rol_bool, it_rol_str, it_rol_tuple, it_rol_list, it_rol_dict, we_revt, we_fnv, wz_dic, wz_fn, we_dct0]
  refine ws_rets ?_
  rw [we_ife, wt_cmp, we_blt, wr_cons]
  simp only [we_con, we_varm, we_glom, we_bin, we_neg, we_cmp, we_chain, we_and, we_or, we_not, we_ife, we_tup, we_lst, we_ix, we_sl, we_rev, we_call, we_blt, we_isi, we_app, we_lc, wa_nil, wa_cons, wr_nil, wr_cons, wo_none, wo_some, wto_none, wto_some, wt_and, wt_or, wt_not, wt_cmp, wt_chain, wt_tru, wi_seq, wi_range, wi_enum, wg_nm, wg_tup, wg_nil, wg_cons, wg_sub, wp_ok, wp_bad, wp_nox, wb_add, wb_sub, wb_mul, wb_fdiv, wb_mod, wb_pow, wc_eq, wc_ne, wc_lt, wc_le, wc_gt, wc_ge, wc_eqb, wc_neb, wc_eqs, wc_nes, wx_int, wx_lent, wx_lenl, wx_lenr, wz_int, wz_str, wz_bl, wz_non, wz_tup, wz_rol, wz_ref, wz_lst, List.getElem?_cons_zero, List.getElem?_cons_succ, List.set_cons_zero, List.set_cons_succ, List.length_cons, List.length_nil, wi_tup, wi_lst, wi_rol, wx_tuplel, wx_tuplet, wx_listt, wto_some, hdq, hqc, ite_f, ite_tt, decide_eq_true_eq, Bool.not_eq_true', wisT, ex_bl, ex_int, ite_tf, ite_ff, wix0, wix1, wix2, Nat.reduceAdd, Nat.reduceLT, sl0, sl1, sl2, sl3, sl4, sl5, sl6, sl10, if_true, true_and, and_true, List.map_cons, List.map_nil, wip, wt_turn, it_non_int, it_non_bool, it_non_str, it_non_tuple, it_non_list, it_non_dict, it_bl_int, it_bl_bool, it_bl_str, it_bl_tuple, it_bl_list, it_bl_dict, it_int_int, it_int_bool, it_int_str, it_int_tuple, it_int_list, it_int_dict, it_str_int, it_str_bool, it_str_str, it_str_tuple, it_str_list, it_str_dict, it_tup_int, it_tup_bool, it_tup_str, it_tup_tuple, it_tup_list, it_tup_dict, it_lst_int, it_lst_bool, it_lst_str, it_lst_tuple, it_lst_list, it_lst_dict, it_rol_int, it_rol_bool, it_rol_str, it_rol_tuple, it_rol_list, it_rol_dict, we_revt, we_fnv, wz_dic, wz_fn, we_dct0]
  rw [wx_len lk_new1]
  simp only [we_con, we_varm, we_glom, we_bin, we_neg, we_cmp, we_chain, we_and, we_or, we_not, we_ife, we_tup, we_lst, we_ix, we_sl, we_rev, we_call, we_blt, we_isi, we_app, we_lc, wa_nil, wa_cons, wr_nil, wr_cons, wo_none, wo_some, wto_none, wto_some, wt_and, wt_or, wt_not, wt_cmp, wt_chain, wt_tru, wi_seq, wi_range, wi_enum, wg_nm, wg_tup, wg_nil, wg_cons, wg_sub, wp_ok, wp_bad, wp_nox, wb_add, wb_sub, wb_mul, wb_fdiv, wb_mod, wb_pow, wc_eq, wc_ne, wc_lt, wc_le, wc_gt, wc_ge, wc_eqb, wc_neb, wc_eqs, wc_nes, wx_int, wx_lent, wx_lenl, wx_lenr, wz_int, wz_str, wz_bl, wz_non, wz_tup, wz_rol, wz_ref, wz_lst, List.getElem?_cons_zero, List.getElem?_cons_succ, List.set_cons_zero, List.set_cons_succ, List.length_cons, List.length_nil, wi_tup, wi_lst, wi_rol, wx_tuplel, wx_tuplet, wx_listt, wto_some, hdq, hqc, ite_f, ite_tt, decide_eq_true_eq, Bool.not_eq_true', wisT, ex_bl, ex_int, ite_tf, ite_ff, wix0, wix1, wix2, Nat.reduceAdd, Nat.reduceLT, sl0, sl1, sl2, sl3, sl4, sl5, sl6, sl10, if_true, true_and, and_true, List.map_cons, List.map_nil, wip, wt_turn, it_non_int, it_non_bool, it_non_str, it_non_tuple, it_non_list, it_non_dict, it_bl_int, it_bl_bool, it_bl_str, it_bl_tuple, it_bl_list, it_bl_dict, it_int_int, it_int_bool, it_int_str, it_int_tuple, it_int_list, it_int_dict, it_str_int, it_str_bool, it_str_str, it_str_tuple, it_str_list, it_str_dict, it_tup_int, it_tup_bool, it_tup_str, it_tup_tuple, it_tup_list, it_tup_dict, it_lst_int, it_lst_bool, it_lst_str, it_lst_tuple, it_lst_list, it_lst_dict, it_rol_int, it_rol_bool, it_rol_str, it_rol_tuple, it_rol_list, it_rol_dict, we_revt, we_fnv, wz_dic, wz_fn, we_dct0]
  rw [if_neg (by decide)]
  trivial
theorem g10 (h : ∀ s', Q.rt (.bl true) s') : Ws (runS (cfg.q (k+9)) (.ret (some (.cmp .isv (.call ("rule_of" : Str) [(.tup [(.con (.str ("project" : Str))), (.tup []), (.tup []), (.tup [(.tup [(.con (.str ("t" : Str))), (.tup []), (.con (.int 1)), (.tup [(.con (.str ("words" : Str))), (.tup [])])])])]), (.con (.str ("u" : Str)))]) (.con .non)))) [a0, a1, a2, a3, a4, a5, a6, a7, a8, a9, a10, a11, a12, a13, a14, a15, some (.ref 1)] s) Q := by
  refine ws_ret ?_
  rw [we_cmp, we_call]
  refine .of (a := [P1, .str "u"]) (s' := s) (by kernel_rfl) ?_
  refine Wp.up ((s_ruleN (k := k+8)).imp ?_)
  rintro d s' rfl
  refine .of (a := .non) (s' := s') (by kernel_rfl) ?_
  exact .of (a := true) (s' := s') (by kernel_rfl) (h s')
end
theorem c_law (k : Nat) (a : D) (s : S) : cl (k+1) "law" [a] s = runF (cfg.q k) 17 d_law.body [a] s := by kernel_rfl
theorem main (ns : List Int) : ∃ s', callN cfg.ds cfg.q0 40 d_law.name [.rol (ns.map .int)] [] = .ok (.bl true) s' := by
  have key : Wp E0 (cl 40 "law" [.rol (ns.map .int)] []) fun d _ => d = .bl true := by
    rw [c_law 39]
    refine wf_run ?_
    show Ws (runSs (cfg.q 39) d_law.body [some (.rol (ns.map .int)), none, none, none, none, none, none, none, none, none, none, none, none, none, none, none, none] []) _
    unfold d_law
    refine ws_asgs ?_
    simp only [we_con, we_varm, we_glom, we_bin, we_neg, we_cmp, we_chain, we_and, we_or, we_not, we_ife, we_tup, we_lst, we_ix, we_sl, we_rev, we_call, we_blt, we_isi, we_app, we_lc, wa_nil, wa_cons, wr_nil, wr_cons, wo_none, wo_some, wto_none, wto_some, wt_and, wt_or, wt_not, wt_cmp, wt_chain, wt_tru, wi_seq, wi_range, wi_enum, wg_nm, wg_tup, wg_nil, wg_cons, wg_sub, wp_ok, wp_bad, wp_nox, wb_add, wb_sub, wb_mul, wb_fdiv, wb_mod, wb_pow, wc_eq, wc_ne, wc_lt, wc_le, wc_gt, wc_ge, wc_eqb, wc_neb, wc_eqs, wc_nes, wx_int, wx_lent, wx_lenl, wx_lenr, wz_int, wz_str, wz_bl, wz_non, wz_tup, wz_rol, wz_ref, wz_lst, List.getElem?_cons_zero, List.getElem?_cons_succ, List.set_cons_zero, List.set_cons_succ, List.length_cons, List.length_nil, wi_tup, wi_lst, wi_rol, wx_tuplel, wx_tuplet, wx_listt, wto_some, hdq, hqc, ite_f, ite_tt, decide_eq_true_eq, Bool.not_eq_true', wisT, ex_bl, ex_int, ite_tf, ite_ff, wix0, wix1, wix2, Nat.reduceAdd, Nat.reduceLT, sl0, sl1, sl2, sl3, sl4, sl5, sl6, sl10, if_true, true_and, and_true, List.map_cons, List.map_nil, wip, wt_turn, it_non_int, it_non_bool, it_non_str, it_non_tuple, it_non_list, it_non_dict, it_bl_int, it_bl_bool, it_bl_str, it_bl_tuple, it_bl_list, it_bl_dict, it_int_int, it_int_bool, it_int_str, it_int_tuple, it_int_list, it_int_dict, it_str_int, it_str_bool, it_str_str, it_str_tuple, it_str_list, it_str_dict, it_tup_int, it_tup_bool, it_tup_str, it_tup_tuple, it_tup_list, it_tup_dict, it_lst_int, it_lst_bool, it_lst_str, it_lst_tuple, it_lst_list, it_lst_dict, it_rol_int, it_rol_bool, it_rol_str, it_rol_tuple, it_rol_list, it_rol_dict, we_revt, we_fnv, wz_dic, wz_fn, we_dct0]
    refine wp_to (s_draws (k := 38)) ?_
    simp only [we_con, we_varm, we_glom, we_bin, we_neg, we_cmp, we_chain, we_and, we_or, we_not, we_ife, we_tup, we_lst, we_ix, we_sl, we_rev, we_call, we_blt, we_isi, we_app, we_lc, wa_nil, wa_cons, wr_nil, wr_cons, wo_none, wo_some, wto_none, wto_some, wt_and, wt_or, wt_not, wt_cmp, wt_chain, wt_tru, wi_seq, wi_range, wi_enum, wg_nm, wg_tup, wg_nil, wg_cons, wg_sub, wp_ok, wp_bad, wp_nox, wb_add, wb_sub, wb_mul, wb_fdiv, wb_mod, wb_pow, wc_eq, wc_ne, wc_lt, wc_le, wc_gt, wc_ge, wc_eqb, wc_neb, wc_eqs, wc_nes, wx_int, wx_lent, wx_lenl, wx_lenr, wz_int, wz_str, wz_bl, wz_non, wz_tup, wz_rol, wz_ref, wz_lst, List.getElem?_cons_zero, List.getElem?_cons_succ, List.set_cons_zero, List.set_cons_succ, List.length_cons, List.length_nil, wi_tup, wi_lst, wi_rol, wx_tuplel, wx_tuplet, wx_listt, wto_some, hdq, hqc, ite_f, ite_tt, decide_eq_true_eq, Bool.not_eq_true', wisT, ex_bl, ex_int, ite_tf, ite_ff, wix0, wix1, wix2, Nat.reduceAdd, Nat.reduceLT, sl0, sl1, sl2, sl3, sl4, sl5, sl6, sl10, if_true, true_and, and_true, List.map_cons, List.map_nil, wip, wt_turn, it_non_int, it_non_bool, it_non_str, it_non_tuple, it_non_list, it_non_dict, it_bl_int, it_bl_bool, it_bl_str, it_bl_tuple, it_bl_list, it_bl_dict, it_int_int, it_int_bool, it_int_str, it_int_tuple, it_int_list, it_int_dict, it_str_int, it_str_bool, it_str_str, it_str_tuple, it_str_list, it_str_dict, it_tup_int, it_tup_bool, it_tup_str, it_tup_tuple, it_tup_list, it_tup_dict, it_lst_int, it_lst_bool, it_lst_str, it_lst_tuple, it_lst_list, it_lst_dict, it_rol_int, it_rol_bool, it_rol_str, it_rol_tuple, it_rol_list, it_rol_dict, we_revt, we_fnv, wz_dic, wz_fn, we_dct0]
    rw [ws_cons]
    refine ws_ife (.of (errs (X := ns.map .int) (r := .rol (ns.map .int))) ?_)
    rw [if_neg (by decide), ws_nil]
    have hD := errD (ns := ns) (r := .rol (ns.map .int))
    generalize errS (ns.map .int) (.rol (ns.map .int)) = s at hD ⊢
    dsimp only
    rw [ws_cons]
    refine loop (k := 30) hD fun a0 a1 a2 a3 a4 a5 a6 a7 a8 a9 a10 a11 a12 a13 a14 a15 s hD => ?_
    clear hD
    dsimp only
    rw [ws_cons]
    refine g3 (k := 30) ?_
    dsimp only
    rw [ws_cons]
    refine g4 (k := 30) lk_new1 fun a3 => ?_
    generalize s ++ [O.lst LG] = s
    dsimp only
    rw [ws_cons]
    refine g5 (k := 30) ?_
    have e1 : lk (s ++ [O.lst [D.str "a"]] ++ [O.lst (LB s.length)]) s.length = some [D.str "a"] := lk_app lk_new1
    have e2 : lk (s ++ [O.lst [D.str "a"]] ++ [O.lst (LB s.length)]) (s ++ [O.lst [D.str "a"]]).length = some (LB s.length) := lk_new1
    generalize s ++ [O.lst [D.str "a"]] ++ [O.lst (LB s.length)] = s' at e1 e2 ⊢
    generalize (s ++ [O.lst [D.str "a"]]).length = r4 at e2 ⊢
    generalize s.length = r at e1 e2
    dsimp only
    rw [ws_cons]
    refine g6 (k := 30) e2 ?_
    dsimp only
    rw [ws_cons]
    refine g7 (k := 30) lk_new1 (lk_app e1) fun a3 t => ?_
    generalize s' ++ [O.lst (LB r ++ LC)] ++ t = s2
    dsimp only
    rw [ws_cons]
    refine g8 (k := 30) ?_
    dsimp only
    rw [ws_cons]
    refine g9 (k := 30) lk_new1 ?_
    dsimp only
    refine ws_1 (g10 (k := 30) ?_)
    intro s'
    rfl
  obtain ⟨d, s', e, rfl⟩ := key.eq
  exact ⟨s', e⟩
end DI.L

namespace DI.L
theorem holds : PySem.Challenge.rw_remaderight_k00_whole_contents_and_state.Holds := fin fun ns _ => main ns
end DI.L
theorem PySem.Challenge.cw_remaderight_k00_whole_contents_and_state_holds : PySem.Challenge.rw_remaderight_k00_whole_contents_and_state.Holds :=
  DI.L.holds
