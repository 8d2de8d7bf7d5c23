import PyProof.Rows.All
import HandS.ForMost
import HandS.ForExc
import HandS.TryMany
import HandS.ExcInit
import HandS.ExcIs
import HandS.ExcField
import HandS.IsInst
import HandS.Flow
import HandS.Strs
import HandS.SetFor
import HandS.Deep
import HandS.Defaults
import HandS.HeadEnd
import HandS.HeadHook2
import HandS.TupAny
import HandS.TupMul
import HandS.SortInts
import HandS.Style
import KE.KSortedM
import KE.GoesEnum
import PySem.Challenge.RW_remaderight_k69_whole_best_rows_within_a
import Wide.All
import OpenK.AllK
import Wide.FinOn
import KE.KStateDown
import Lean
import HandS.Head0
import HandS.Head1
import HandS.Head2
set_option Elab.async false
set_option linter.all false
set_option maxRecDepth 100000
set_option maxHeartbeats 4000000
/-! DI: values as data, over HandS. 1: data, what stands for it. -/
namespace DI
open PySem PySem.Spec PyProof.Rows L2
/-- a value: none, bool, int, text, a tuple of values; ref i: the i-th mutable thing of the store; lst: a list that nobody holds yet; rol: a list that is never written; ist: a set of ints that nobody holds -/
inductive D where
  | non | bl (b : Bool) | int (i : Int) | str (x : Str)
  | tup (xs : List D) | ref (i : Nat) | lst (xs : List D) | rol (xs : List D) | ist (ns : List Int)
  deriving Inhabited
/-- a mutable thing -/
inductive O where
  | lst (xs : List D)
  | ins (C : Str) (fs : List (Str × D))
  deriving Inhabited
abbrev S := List O
abbrev En := List (Option D)
/-- may be held twice -/
def D.shr : D → Bool
  | .lst _ => false
  | .ist _ => false
  | _ => true
/-- where a global's object stands -/
def TupAt (K : PySem.W.Frag) (m : List Addr) (H : Hp) (a : Addr) (vs : List V) : Prop :=
  (Rd H a (.tup vs) ∧ a ∉ m) ∨ ∃ (o : Obj) (its : Array Value) (n : Nat), K.lookup a = some o ∧ o.cls = .type "tuple" ∧ o.data = .seq its n ∧ its.size ≤ sizeLine ∧ Vals vs its.toList
def RolAt (K : PySem.W.Frag) (m : List Addr) (H : Hp) (a : Addr) (vs : List V) : Prop :=
  ((∃ o, H a = some (.frz o (.lst vs))) ∧ a ∉ m) ∨ ∃ (o : Obj) (its : Array Value) (n : Nat), K.lookup a = some o ∧ o.cls = .type "list" ∧ o.dict = none ∧ o.data = .seq its n ∧ its.size ≤ sizeLine ∧ Vals vs its.toList
mutual
inductive Rp (w : World) (K : PySem.W.Frag) (m : List Addr) (H : Hp) : D → V → Prop
  | non : Rp w K m H .non .non
  | bl (b : Bool) : Rp w K m H (.bl b) (.bl b)
  | int (i : Int) : Rp w K m H (.int i) (.int i)
  | str (x : Str) : Rp w K m H (.str x) (.str x)
  | tup {ds vs a} : TupAt K m H a vs → Rps w K m H ds vs → Rp w K m H (.tup ds) (.ref a)
  | ref {i a} : m[i]? = some a → Rp w K m H (.ref i) (.ref a)
  | lst {ds vs a} : H a = some (.lst vs) → a ∉ m → Rps w K m H ds vs → Rp w K m H (.lst ds) (.ref a)
  | rol {ds vs a} : RolAt K m H a vs → Rps w K m H ds vs → Rp w K m H (.rol ds) (.ref a)
  | ist {ns a T n} : H a = some (SetO w a T n) → a ∉ m → (∀ k, T k = decide (k ∈ ns)) → n ≤ ns.length → Rp w K m H (.ist ns) (.ref a)
inductive Rps (w : World) (K : PySem.W.Frag) (m : List Addr) (H : Hp) : List D → List V → Prop
  | nil : Rps w K m H [] []
  | cons {d ds v vs} : d.shr = true → Rp w K m H d v → Rps w K m H ds vs → Rps w K m H (d :: ds) (v :: vs)
end
/-- what stood beside m stands, m grows -/
structure Ex (m : List Addr) (H : Hp) (m' : List Addr) (H' : Hp) : Prop where
  pre : m <+: m'
  old : ∀ b o, H b = some o → b ∉ m → H' b = some o ∧ b ∉ m'
theorem Ex.refl {m H} : Ex m H m H := ⟨List.prefix_refl _, fun _ _ h n => ⟨h, n⟩⟩
theorem Ex.trans {m H m1 H1 m2 H2} (a : Ex m H m1 H1) (b : Ex m1 H1 m2 H2) : Ex m H m2 H2 :=
  ⟨a.pre.trans b.pre, fun c o h n => let ⟨h1, n1⟩ := a.old c o h n; b.old c o h1 n1⟩
section
variable {w : World} {K : PySem.W.Frag} {m m' : List Addr} {H H' : Hp}
theorem TupAt.mono {a vs} (e : Ex m H m' H') (h : TupAt K m H a vs) : TupAt K m' H' a vs := by
  rcases h with ⟨h | ⟨o, h⟩, n⟩ | h
  · exact .inl ⟨.inl (e.old _ _ h n).1, (e.old _ _ h n).2⟩
  · exact .inl ⟨.inr ⟨o, (e.old _ _ h n).1⟩, (e.old _ _ h n).2⟩
  · exact .inr h
theorem RolAt.mono {a vs} (e : Ex m H m' H') (h : RolAt K m H a vs) : RolAt K m' H' a vs := by
  rcases h with ⟨⟨o, h⟩, n⟩ | h
  · exact .inl ⟨⟨o, (e.old _ _ h n).1⟩, (e.old _ _ h n).2⟩
  · exact .inr h
theorem TupAt.sq {a vs} (h : TupAt K m H a vs) : SqT K H a vs := h.imp (fun z => z.1) id
theorem RolAt.sq {a vs} (h : RolAt K m H a vs) : SqL K H a vs := by
  rcases h with ⟨⟨o, h⟩, _⟩ | h
  · exact .inl (.inr ⟨o, h⟩)
  · exact .inr h
theorem get_pre {i : Nat} {a : Addr} (p : m <+: m') (h : m[i]? = some a) : m'[i]? = some a := by
  obtain ⟨t, rfl⟩ := p
  rw [List.getElem?_append_left (List.getElem?_eq_some_iff.mp h).1]
  exact h
mutual
theorem Rp.mono {d : D} {v : V} (e : Ex m H m' H') : Rp w K m H d v → Rp w K m' H' d v
  | .non => .non
  | .bl b => .bl b
  | .int i => .int i
  | .str x => .str x
  | .tup h r => .tup (h.mono e) (Rps.mono e r)
  | .ref h => .ref (get_pre e.pre h)
  | .lst h n r => .lst (e.old _ _ h n).1 (e.old _ _ h n).2 (Rps.mono e r)
  | .rol h r => .rol (h.mono e) (Rps.mono e r)
  | .ist h n t z => .ist (e.old _ _ h n).1 (e.old _ _ h n).2 t z
theorem Rps.mono {ds : List D} {vs : List V} (e : Ex m H m' H') : Rps w K m H ds vs → Rps w K m' H' ds vs
  | .nil => .nil
  | .cons s h r => .cons s (Rp.mono e h) (Rps.mono e r)
end
theorem Rps.length {ds vs} (h : Rps w K m H ds vs) : vs.length = ds.length := by
  induction ds generalizing vs with
  | nil => cases h; rfl
  | cons d ds ih => cases h with | cons _ _ r => simp [ih r]
theorem Rps.get {ds : List D} : ∀ {vs : List V} {i : Nat} {d : D}, Rps w K m H ds vs → ds[i]? = some d → ∃ v, vs[i]? = some v ∧ Rp w K m H d v ∧ d.shr = true := by
  induction ds with
  | nil => intro vs i d h e; simp at e
  | cons x ds ih =>
    intro vs i d h e
    cases h with
    | cons s a r =>
      cases i with
      | zero => simp at e; subst e; exact ⟨_, rfl, a, s⟩
      | succ i => simpa using ih r (by simpa using e)
end
end DI

set_option Elab.async false
set_option linter.all false
set_option maxRecDepth 100000
set_option maxHeartbeats 4000000
/-! DI 2: the store, what is wanted behind an expression, a statement. -/
namespace DI
open PySem PySem.Spec PyProof.Rows L2
inductive R (α : Type) where
  | ok (a : α) (s : S) | exc (C : Str) (fs : List (Str × D)) (s : S) | bad
inductive RS where
  | nx (ρ : En) (s : S) | rt (d : D) (s : S) | bk (ρ : En) (s : S) | ct (ρ : En) (s : S) | exc (C : Str) (fs : List (Str × D)) (ρ : En) (s : S) | bad
@[reducible] def R.bind {α β : Type} (r : R α) (f : α → S → R β) : R β := match r with
  | .ok a s => f a s
  | .exc C fs s => .exc C fs s
  | .bad => .bad
/-- fields by name -/
inductive Fs (w : World) (K : PySem.W.Frag) (m : List Addr) (H : Hp) : List (Str × D) → List (Str × V) → Prop
  | nil : Fs w K m H [] []
  | cons {f d v fs vs} : d.shr = true → Rp w K m H d v → Fs w K m H fs vs → Fs w K m H ((f, d) :: fs) ((f, v) :: vs)
def ObOk (w : World) (K : PySem.W.Frag) (m : List Addr) (H : Hp) (a : Addr) : O → Prop
  | .lst ds => ∃ vs, H a = some (.lst vs) ∧ Rps w K m H ds vs
  | .ins C fs => ∃ dx vs, H a = some (.ins (He.ga K C) dx vs) ∧ Fs w K m H fs vs
structure StOk (w : World) (K : PySem.W.Frag) (m : List Addr) (H : Hp) (s : S) : Prop where
  len : m.length = s.length
  nd : m.Nodup
  at_ : ∀ (i : Nat) (o : O), s[i]? = some o → ∃ a, m[i]? = some a ∧ ObOk w K m H a o
/-- an exception's own dict -/
structure ExcAt (w : World) (K : PySem.W.Frag) (m : List Addr) (H : Hp) (dx : Addr) (fs : List (Str × D)) : Prop where
  at_ : ∃ vs, H dx = some (.xd vs) ∧ Fs w K m H fs vs
  nm : dx ∉ m
/-- an exception held by a name, within a suite: its slot, itself, its class, its own dict, its fields -/
structure Hdp where
  i : Nat
  a : Addr
  C : Str
  dx : Addr
  fs : List (Str × D)
/-- the slots -/
structure Rst (w : World) (K : PySem.W.Frag) (pr : Option Hdp) (m : List Addr) (ρ : En) (s : S) (σ : L2.St) (H : Hp) : Prop where
  st : StOk w K m H s
  len : ρ.length = σ.length
  at_ : ∀ (i : Nat) (d : D), ρ[i]? = some (some d) → d.shr = true ∧ ∃ v, σ[i]? = some (some v) ∧ Rp w K m H d v
  pin : ∀ p, pr = some p → σ[p.i]? = some (some (.ref p.a)) ∧ ExcAt w K m H p.dx p.fs
/-- what nobody holds is new -/
def Fresh (H : Hp) (d : D) (v : V) : Prop := d.shr = false → ∃ a, v = .ref a ∧ H a = none
def PostE (w : World) (K : PySem.W.Frag) (W : WX) (σ : L2.St) (m : List Addr) (H : Hp) (Q : VK) : R D → Prop
  | .ok d s' => ∀ m' v H', Ex m H m' H' → StOk w K m' H' s' → Rp w K m' H' d v → Fresh H d v → Q v H'
  | .exc C fs s' => ∀ m' H' dx, Ex m H m' H' → StOk w K m' H' s' → ExcAt w K m' H' dx fs → W (.ref (He.ga K C)) (some dx) σ H'
  | .bad => False
def PostT (w : World) (K : PySem.W.Frag) (W : WX) (σ : L2.St) (m : List Addr) (H : Hp) (Q : Bool → Hp → Prop) : R Bool → Prop
  | .ok b s' => ∀ m' H', Ex m H m' H' → StOk w K m' H' s' → Q b H'
  | .exc C fs s' => ∀ m' H' dx, Ex m H m' H' → StOk w K m' H' s' → ExcAt w K m' H' dx fs → W (.ref (He.ga K C)) (some dx) σ H'
  | .bad => False
/-- several values, each may be held -/
def PostA (w : World) (K : PySem.W.Frag) (W : WX) (σ : L2.St) (m : List Addr) (H : Hp) (Q : List V → Hp → Prop) : R (List D) → Prop
  | .ok ds s' => ∀ m' vs H', Ex m H m' H' → StOk w K m' H' s' → Rps w K m' H' ds vs → Q vs H'
  | .exc C fs s' => ∀ m' H' dx, Ex m H m' H' → StOk w K m' H' s' → ExcAt w K m' H' dx fs → W (.ref (He.ga K C)) (some dx) σ H'
  | .bad => False
def PostS (w : World) (K : PySem.W.Frag) (W : WX) (pr : Option Hdp) (m : List Addr) (H : Hp) (D : Ends) : RS → Prop
  | .nx ρ s => ∀ m' σ' H', Ex m H m' H' → Rst w K pr m' ρ s σ' H' → D.nx σ' H'
  | .rt d s => ∀ m' v H', Ex m H m' H' → StOk w K m' H' s → Rp w K m' H' d v → Fresh H d v → D.rt v H'
  | .bk ρ s => ∀ m' σ' H', Ex m H m' H' → Rst w K pr m' ρ s σ' H' → D.bk σ' H'
  | .ct ρ s => ∀ m' σ' H', Ex m H m' H' → Rst w K pr m' ρ s σ' H' → D.ct σ' H'
  | .exc C fs ρ s => ∀ m' σ' H' dx, Ex m H m' H' → Rst w K pr m' ρ s σ' H' → ExcAt w K m' H' dx fs → W (.ref (He.ga K C)) (some dx) σ' H'
  | .bad => False
/-- the readings -/
def tD (w : World) (K : PySem.W.Frag) (W : WX) (pr : Option Hdp) (f : En → S → R D) : TE := fun σ H Q => ∃ m ρ s, Rst w K pr m ρ s σ H ∧ PostE w K W σ m H Q (f ρ s)
def tT (w : World) (K : PySem.W.Frag) (W : WX) (pr : Option Hdp) (f : En → S → R Bool) : TT := fun σ H Q => ∃ m ρ s, Rst w K pr m ρ s σ H ∧ PostT w K W σ m H Q (f ρ s)
def tA (w : World) (K : PySem.W.Frag) (W : WX) (pr : Option Hdp) (f : En → S → R (List D)) : TA := fun σ H Q => ∃ m ρ s, Rst w K pr m ρ s σ H ∧ PostA w K W σ m H Q (f ρ s)
def tS (w : World) (K : PySem.W.Frag) (W : WX) (pr : Option Hdp) (f : En → S → RS) : TS := fun D σ H => ∃ m ρ s, Rst w K pr m ρ s σ H ∧ PostS w K W pr m H D (f ρ s)

section
variable {w : World} {K : PySem.W.Frag} {W : WX} {σ : L2.St} {m m' m1 m2 : List Addr} {H H' H1 H2 : Hp} {s s1 s' : S} {ρ : En} {pr : Option Hdp}
theorem Fs.mono (e : Ex m H m' H') : ∀ {fs vs}, Fs w K m H fs vs → Fs w K m' H' fs vs
  | _, _, .nil => .nil
  | _, _, .cons s h r => .cons s (h.mono e) (Fs.mono e r)
theorem ExcAt.mono {dx fs} (x : ExcAt w K m H dx fs) (e : Ex m H m' H') : ExcAt w K m' H' dx fs := by
  obtain ⟨⟨vs, h, r⟩, n⟩ := x
  exact ⟨⟨vs, (e.old _ _ h n).1, r.mono e⟩, (e.old _ _ h n).2⟩
theorem StOk.get (h : StOk w K m H s) {i : Nat} {a : Addr} (e : m[i]? = some a) : ∃ o, s[i]? = some o ∧ ObOk w K m H a o := by
  have hi : i < s.length := by rw [← h.len]; exact (List.getElem?_eq_some_iff.mp e).1
  obtain ⟨b, e1, q⟩ := h.at_ i s[i] (List.getElem?_eq_getElem hi)
  rw [e] at e1; cases e1
  exact ⟨_, List.getElem?_eq_getElem hi, q⟩
theorem ObOk.there {a : Addr} {o : O} (h : ObOk w K m H a o) : H a ≠ none := by
  cases o with
  | lst ds => obtain ⟨_, e, _⟩ := h; rw [e]; simp
  | ins C fs => obtain ⟨_, _, e, _⟩ := h; rw [e]; simp
theorem StOk.ne (h : StOk w K m H s) {a : Addr} (hm : a ∈ m) : H a ≠ none := by
  obtain ⟨i, e⟩ := List.getElem?_of_mem hm
  obtain ⟨o, _, q⟩ := h.get e
  exact q.there
theorem StOk.nin (h : StOk w K m H s) {p : Addr} (hp : H p = none) : p ∉ m := fun hm => h.ne hm hp
theorem Ex.fr0 (e : Ex m H m' H') (h : StOk w K m' H' s) {p : Addr} (hp : H' p = none) : H p = none := by
  cases q : H p with
  | none => rfl
  | some o =>
    by_cases hm : p ∈ m
    · exact absurd hp (h.ne (e.pre.subset hm))
    · rw [(e.old p o q hm).1] at hp; cases hp
/-- a new untracked thing -/
theorem Ex.new (h : StOk w K m H s) {p : Addr} {o : HO} (hp : H p = none) : Ex m H m (upd H p o) :=
  ⟨List.prefix_refl _, fun b ob e n => ⟨by rw [upd_ne (ne_of_none e hp)]; exact e, n⟩⟩
theorem ObOk.keep {a : Addr} {o : O} (h : ObOk w K m H a o) (e : Ex m H m H') (k : H' a = H a) : ObOk w K m H' a o := by
  cases o with
  | lst ds => obtain ⟨vs, q, r⟩ := h; exact ⟨vs, k.trans q, r.mono e⟩
  | ins C fs => obtain ⟨dx, vs, q, r⟩ := h; exact ⟨dx, vs, k.trans q, r.mono e⟩
theorem StOk.new (h : StOk w K m H s) {p : Addr} {o : HO} (hp : H p = none) : StOk w K m (upd H p o) s :=
  ⟨h.len, h.nd, fun i ob e => by
    obtain ⟨a, e1, q⟩ := h.at_ i ob e
    exact ⟨a, e1, q.keep (Ex.new h hp) (upd_ne fun z => h.nin hp (z ▸ List.mem_of_getElem? e1))⟩⟩
/-- a thing of the store is written -/
theorem Ex.write {a : Addr} {o : HO} (hm : a ∈ m) : Ex m H m (upd H a o) :=
  ⟨List.prefix_refl _, fun b ob e n => ⟨by rw [upd_ne (fun z : b = a => n (by rw [z]; exact hm))]; exact e, n⟩⟩
theorem StOk.write (h : StOk w K m H s) {i : Nat} {a : Addr} {o : HO} {ob : O} (hi : m[i]? = some a) (q : ObOk w K m (upd H a o) a ob) : StOk w K m (upd H a o) (s.set i ob) := by
  refine ⟨by simp [h.len], h.nd, fun j o' e => ?_⟩
  have hil : i < m.length := (List.getElem?_eq_some_iff.mp hi).1
  by_cases hj : j = i
  · subst hj
    rw [List.getElem?_set_self (by rw [← h.len]; exact hil)] at e
    cases e
    exact ⟨a, hi, q⟩
  · rw [List.getElem?_set_ne (Ne.symm hj)] at e
    obtain ⟨b, e1, q1⟩ := h.at_ j o' e
    refine ⟨b, e1, q1.keep (Ex.write (List.mem_of_getElem? hi)) (upd_ne fun z => ?_)⟩
    subst z
    have hjl : j < m.length := (List.getElem?_eq_some_iff.mp e1).1
    have e2 : m[j] = m[i] := by
      have e3 := (List.getElem?_eq_some_iff.mp e1).2
      have e4 := (List.getElem?_eq_some_iff.mp hi).2
      rw [e3, e4]
    exact hj ((List.getElem_inj h.nd).mp e2)
/-- nobody's list is taken into the store -/
theorem Rp.settle {a : Addr} {vs0 : List V} (ha : H a = some (.lst vs0)) {d : D} {v : V} (hs : d.shr = true) (h : Rp w K m H d v) : Rp w K (m ++ [a]) H d v := by
  have key : ∀ (d : D) (v : V), d.shr = true → Rp w K m H d v → Rp w K (m ++ [a]) H d v := by
    intro d
    induction d using D.rec (motive_2 := fun ds => ∀ vs, Rps w K m H ds vs → Rps w K (m ++ [a]) H ds vs) with
    | non => intro v _ h; cases h; exact .non
    | bl b => intro v _ h; cases h; exact .bl b
    | int b => intro v _ h; cases h; exact .int b
    | str b => intro v _ h; cases h; exact .str b
    | tup xs ih =>
      intro v _ h
      cases h with
      | tup t r =>
        refine .tup ?_ (ih _ r)
        rcases t with ⟨t, n⟩ | t
        · refine .inl ⟨t, fun hm => ?_⟩
          rcases List.mem_append.mp hm with hm | hm
          · exact n hm
          · simp at hm; subst hm
            rcases t with t | ⟨o, t⟩ <;> rw [ha] at t <;> cases t
        · exact .inr t
    | ref i => intro v _ h; cases h with | ref e => exact .ref (get_pre (List.prefix_append _ _) e)
    | lst xs => intro v h; cases h
    | rol xs ih =>
      intro v _ h
      cases h with
      | rol t r =>
        refine .rol ?_ (ih _ r)
        rcases t with ⟨⟨o, t⟩, n⟩ | t
        · refine .inl ⟨⟨o, t⟩, fun hm => ?_⟩
          rcases List.mem_append.mp hm with hm | hm
          · exact n hm
          · simp at hm; subst hm
            rw [ha] at t; cases t
        · exact .inr t
    | ist xs => intro v h; cases h
    | nil => rename_i z; cases z; exact .nil
    | cons d ds i1 i2 =>
      rename_i vs z
      cases z with
      | cons s h r => exact .cons s (i1 _ s h) (i2 _ r)
  exact key d v hs h
theorem Rps.settle {a : Addr} {vs0 : List V} (ha : H a = some (.lst vs0)) : ∀ {ds : List D} {vs : List V}, Rps w K m H ds vs → Rps w K (m ++ [a]) H ds vs := by
  intro ds
  induction ds with
  | nil => intro vs h; cases h; exact .nil
  | cons d ds ih => intro vs h; cases h with | cons s h r => exact .cons s (h.settle ha s) (ih r)
theorem Fs.settle {a : Addr} {vs0 : List V} (ha : H a = some (.lst vs0)) : ∀ {fs vs}, Fs w K m H fs vs → Fs w K (m ++ [a]) H fs vs
  | _, _, .nil => .nil
  | _, _, .cons s h r => .cons s (h.settle ha s) (Fs.settle ha r)
theorem ObOk.settle {a b : Addr} {vs0 : List V} (ha : H a = some (.lst vs0)) {o : O} (h : ObOk w K m H b o) : ObOk w K (m ++ [a]) H b o := by
  cases o with
  | lst ds => obtain ⟨vs, q, r⟩ := h; exact ⟨vs, q, r.settle ha⟩
  | ins C fs => obtain ⟨dx, vs, q, r⟩ := h; exact ⟨dx, vs, q, r.settle ha⟩
theorem StOk.settle (h : StOk w K m H s) {a : Addr} {vs : List V} {ds : List D} (ha : H a = some (.lst vs)) (na : a ∉ m) (r : Rps w K m H ds vs) : StOk w K (m ++ [a]) H (s ++ [.lst ds]) := by
  refine ⟨by simp [h.len], ?_, fun i o e => ?_⟩
  · rw [List.nodup_append]
    refine ⟨h.nd, by simp, fun x hx y hy z => ?_⟩
    simp at hy; subst hy; subst z; exact na hx
  · by_cases hi : i < s.length
    · rw [List.getElem?_append_left hi] at e
      obtain ⟨b, e1, q⟩ := h.at_ i o e
      exact ⟨b, get_pre (List.prefix_append _ _) e1, q.settle ha⟩
    · rw [List.getElem?_append_right (by omega)] at e
      have hi' : i - s.length = 0 := by
        cases k : i - s.length with
        | zero => rfl
        | succ n => rw [k] at e; simp at e
      rw [hi'] at e; simp at e; subst e
      refine ⟨a, ?_, vs, ha, r.settle ha⟩
      rw [List.getElem?_append_right (by rw [h.len]; omega), h.len, hi']
      rfl
theorem Ex.settle {a : Addr} (e : Ex m H m1 H1) (ha : H a = none) : Ex m H (m1 ++ [a]) H1 :=
  ⟨e.pre.trans (List.prefix_append _ _), fun b o q n => ⟨(e.old b o q n).1, fun hm => by
    rcases List.mem_append.mp hm with z | z
    · exact (e.old b o q n).2 z
    · simp at z; subst z; rw [ha] at q; cases q⟩⟩
theorem Rst.mono (R : Rst w K pr m ρ s σ H) (e : Ex m H m1 H1) (h : StOk w K m1 H1 s1) : Rst w K pr m1 ρ s1 σ H1 :=
  ⟨h, R.len, fun i d q => let ⟨a, v, b, c⟩ := R.at_ i d q; ⟨a, v, b, c.mono e⟩, fun p z => let ⟨a, b⟩ := R.pin p z; ⟨a, b.mono e⟩⟩
theorem PostE.mono {Q : VK} {r : R D} (e : Ex m H m1 H1) (h : StOk w K m1 H1 s1) (p : PostE w K W σ m H Q r) : PostE w K W σ m1 H1 Q r := by
  cases r with
  | ok d s' => exact fun m' v H' e' h' rp fr => p m' v H' (e.trans e') h' rp fun z => let ⟨a, q, n⟩ := fr z; ⟨a, q, e.fr0 h n⟩
  | exc C fs s' => exact fun m' H' dx e' h' x => p m' H' dx (e.trans e') h' x
  | bad => exact p
theorem PostT.mono {Q : Bool → Hp → Prop} {r : R Bool} (e : Ex m H m1 H1) (p : PostT w K W σ m H Q r) : PostT w K W σ m1 H1 Q r := by
  cases r with
  | ok d s' => exact fun m' H' e' h' => p m' H' (e.trans e') h'
  | exc C fs s' => exact fun m' H' dx e' h' x => p m' H' dx (e.trans e') h' x
  | bad => exact p
theorem PostA.mono {Q : List V → Hp → Prop} {r : R (List D)} (e : Ex m H m1 H1) (p : PostA w K W σ m H Q r) : PostA w K W σ m1 H1 Q r := by
  cases r with
  | ok d s' => exact fun m' v H' e' h' => p m' v H' (e.trans e') h'
  | exc C fs s' => exact fun m' H' dx e' h' x => p m' H' dx (e.trans e') h' x
  | bad => exact p
theorem PostS.mono {D : Ends} {r : RS} (e : Ex m H m1 H1) (h : StOk w K m1 H1 s1) (p : PostS w K W pr m H D r) : PostS w K W pr m1 H1 D r := by
  cases r with
  | nx ρ s => exact fun m' v H' e' h' => p m' v H' (e.trans e') h'
  | rt d s' => exact fun m' v H' e' h' rp fr => p m' v H' (e.trans e') h' rp fun z => let ⟨a, q, n⟩ := fr z; ⟨a, q, e.fr0 h n⟩
  | bk ρ s => exact fun m' v H' e' h' => p m' v H' (e.trans e') h'
  | ct ρ s => exact fun m' v H' e' h' => p m' v H' (e.trans e') h'
  | exc C fs ρ s' => exact fun m' v H' dx e' h' x => p m' v H' dx (e.trans e') h' x
  | bad => exact p
/-- an expression, then what follows -/
theorem tD_bind {α : Type} {f : En → S → R D} {g : D → S → R α} {P : R α → List Addr → Hp → Prop} {k : V → Hp → Prop} (R₀ : Rst w K pr m ρ s σ H)
    (hexc : ∀ C fs s', P (.exc C fs s') m H → ∀ m' H' dx, Ex m H m' H' → StOk w K m' H' s' → ExcAt w K m' H' dx fs → W (.ref (He.ga K C)) (some dx) σ H') (hbad : ¬ P .bad m H)
    (h : P ((f ρ s).bind g) m H) (hk : ∀ d s1 m1 v H1, P (g d s1) m H → Ex m H m1 H1 → Rst w K pr m1 ρ s1 σ H1 → Rp w K m1 H1 d v → Fresh H d v → k v H1) :
    tD w K W pr f σ H k := by
  refine ⟨m, ρ, s, R₀, ?_⟩
  cases q : f ρ s with
  | ok d s1 =>
    rw [q] at h
    exact fun m1 v H1 e st rp fr => hk d s1 m1 v H1 h e (R₀.mono e st) rp fr
  | exc C fs s' =>
    rw [q] at h
    exact hexc C fs s' h
  | bad =>
    rw [q] at h
    exact hbad h
end
end DI

set_option Elab.async false
set_option linter.all false
set_option maxRecDepth 100000
set_option maxHeartbeats 4000000
/-! DI 3: the code over data and what it does. -/
namespace DI
open PySem PySem.Spec PyProof.Rows L2
inductive BOp where | add | sub | mul | fdiv | mod | pow
  deriving DecidableEq
inductive COp where | eq | ne | lt | le | gt | ge | isv | isn | inn | nin
  deriving DecidableEq
inductive Blt where | len | sum | max | min | all | any | tuple | list | sorted | set | int | str
  deriving DecidableEq
inductive Ty where | int | bool | str | tuple | list | dict
  deriving DecidableEq
inductive Mth where | append
  deriving DecidableEq
mutual
inductive IE where
  | con (d : D) | var (i : Nat) | glo (x : Str)
  | bin (o : BOp) (a b : IE) | neg (a : IE)
  | cmp (o : COp) (a b : IE) | chain (o o' : COp) (a b c : IE)
  | and (a b : IE) | or (a b : IE) | not (a : IE) | ife (t : IT) (a b : IE)
  | tup (es : List IE) | lst (es : List IE)
  | ix (a b : IE) | sl (a : IE) (lo hi : Option IE) | rev (a : IE)
  | call (f : Str) (es : List IE) | blt (b : Blt) (es : List IE) | isi (e : IE) (t : Ty)
  | mth (m : Mth) (o : IE) (es : List IE)
  | lc (own : List (Str × Nat)) (elt : IE) (g : IG) (it : II) (t : Option IT)
  | efld (i : Nat) (f : Str) | eisi (i : Nat) (c : Str)
inductive IT where
  | and (a b : IT) | or (a b : IT) | not (a : IT) | cmp (o : COp) (a b : IE) | chain (o o' : COp) (a b c : IE) | tru (e : IE)
inductive II where
  | seq (e : IE) | range (es : List IE) | enum (e : IE)
inductive IG where
  | nm (i : Nat) | tup (gs : List IG) | sub (o i : IE)
end
/-! ### by values -/
/-- the i-th thing, a list -/
def lk (s : S) (i : Nat) : Option (List D) := match s[i]? with
  | some (.lst xs) => some xs
  | _ => none
theorem lk_some {s : S} {i : Nat} {xs : List D} : lk s i = some xs ↔ s[i]? = some (.lst xs) := by
  unfold lk
  split
  · rename_i h; rw [h]; simp
  · rename_i h; exact ⟨fun z => (nomatch z), fun z => absurd z (h xs)⟩
def D.lstOf (s : S) : D → Option (List D)
  | .lst xs => some xs
  | .rol xs => some xs
  | .ref i => lk s i
  | _ => none
/-- a list of ours -/
def D.mutOf (s : S) : D → Option (List D)
  | .lst xs => some xs
  | .ref i => lk s i
  | _ => none
def D.seqOf (s : S) : D → Option (List D)
  | .tup xs => some xs
  | d => d.lstOf s
def intsD : List D → Option (List Int)
  | [] => some []
  | .int i :: r => (intsD r).map (i :: ·)
  | _ :: _ => none
def blsD : List D → Option (List Bool)
  | [] => some []
  | .bl i :: r => (blsD r).map (i :: ·)
  | _ :: _ => none
def strsD : List D → Option (List Str)
  | [] => some []
  | .str i :: r => (strsD r).map (i :: ·)
  | _ :: _ => none
mutual
def D.py0 : D → Option PyData
  | .non => some .none
  | .bl b => some (.bool b)
  | .int i => some (.int i)
  | .str x => some (.str x)
  | .tup xs => (D.pys xs).map .tuple
  | .lst xs => (D.pys xs).map .list
  | .rol xs => (D.pys xs).map .list
  | .ref _ => none
  | .ist _ => none
def D.pys : List D → Option (List PyData)
  | [] => some []
  | d :: r => match D.py0 d with
    | some p => (D.pys r).map (p :: ·)
    | none => none
end
def D.py (s : S) : D → Option PyData
  | .ref i => (lk s i).bind fun xs => (D.pys xs).map .list
  | d => d.py0
def D.scal : D → Bool
  | .non | .bl _ | .int _ | .str _ => true
  | _ => false
/-- what a scalar stands for -/
def D.sv : D → V
  | .non => .non | .bl b => .bl b | .int i => .int i | .str x => .str x | _ => .non
def eqD (s : S) (a b : D) : Option Bool :=
  if L2.scal a.sv b.sv && a.scal && b.scal then some (decide (a.sv = b.sv)) else
  match a.py s, b.py s with
  | some p, some q => if SeqAt.shaped p && SeqAt.shaped q then some (PyData.eqv p q) else none
  | _, _ => none
def inD (s : S) (a b : D) : Option Bool :=
  match b with
  | .tup xs => if a.scal && xs.all D.scal then some (inV a.sv (xs.map D.sv)) else none
  | _ => match b.lstOf s with
    | some xs => if a.scal && xs.all D.scal then some (inV a.sv (xs.map D.sv)) else
      match a.py s, D.pys xs with
      | some p, some qs => if SeqAt.shaped p && SeqAt.shaped (.list qs) then some (qs.any fun z => PyData.eqv z p) else none
      | _, _ => none
    | none => none
def ltD (a b : D) : Option Bool := match a, b with
  | .int i, .int j => some (decide (i < j))
  | .str i, .str j => some (decide (i.cps.toList < j.cps.toList))
  | _, _ => none
def leD (a b : D) : Option Bool := match a, b with
  | .int i, .int j => some (decide (i ≤ j))
  | _, _ => none
def gtD (a b : D) : Option Bool := match a, b with
  | .int i, .int j => some (decide (j < i))
  | _, _ => none
def geD (a b : D) : Option Bool := match a, b with
  | .int i, .int j => some (decide (j ≤ i))
  | _, _ => none
def isD (a b : D) : Option Bool :=
  match b with
  | .non => some (match a with | .non => true | _ => false)
  | .bl b => (match a with
    | .bl a => some (decide (a = b))
    | _ => none)
  | _ => none
def cmpO (o : COp) (a b : D) (s : S) : Option Bool := match o with
  | .eq => eqD s a b
  | .ne => (eqD s a b).map (!·)
  | .isv => isD a b
  | .isn => (isD a b).map (!·)
  | .inn => inD s a b
  | .nin => (inD s a b).map (!·)
  | .lt => ltD a b
  | .le => leD a b
  | .gt => gtD a b
  | .ge => geD a b
def cmpD (o : COp) (a b : D) (s : S) : R Bool := match cmpO o a b s with
  | some k => .ok k s
  | none => .bad
def addD (a b : D) (s : S) : R D := match a, b with
  | .int i, .int j => .ok (.int (i + j)) s
  | .str x, .str y => if x.length + y.length ≤ sizeLine then .ok (.str (x ++ y)) s else .bad
  | .tup xs, .tup ys => if xs.length + ys.length ≤ sizeLine then .ok (.tup (xs ++ ys)) s else .bad
  | a, b => match a.mutOf s, b.mutOf s with
    | some xs, some ys => if xs.length + ys.length ≤ sizeLine then .ok (.lst (xs ++ ys)) s else .bad
    | _, _ => .bad
def mulD (a b : D) (s : S) : R D := match a, b with
  | .int i, .int j => if (-(2 ^ 64) < i ∧ i < 2 ^ 64) ∨ (-(2 ^ 64) < j ∧ j < 2 ^ 64) then .ok (.int (i * j)) s else .bad
  | .tup xs, .int k => if xs ≠ [] ∧ k = 1 then .ok (.tup xs) s else if xs ≠ [] ∧ 2 ≤ k ∧ k ≤ 1000 ∧ xs.length ≤ 1000 then .ok (.tup (List.replicate k.toNat xs).flatten) s else .bad
  | a, .int k => match a.mutOf s with
    | some xs => if -(2 ^ 63) ≤ k ∧ k < 2 ^ 63 ∧ xs.length * k.toNat ≤ sizeLine then .ok (.lst (List.replicate k.toNat xs).flatten) s else .bad
    | none => .bad
  | _, _ => .bad
def binD (o : BOp) (a b : D) (s : S) : R D := match o with
  | .add => addD a b s
  | .mul => mulD a b s
  | .sub => (match a, b with
    | .int i, .int j => .ok (.int (i - j)) s
    | _, _ => .bad)
  | .fdiv => (match a, b with
    | .int i, .int j => if j ≠ 0 ∧ j.natAbs < 1073741824 then .ok (.int (i.fdiv j)) s else .bad
    | _, _ => .bad)
  | .mod => (match a, b with
    | .int i, .int j => if j ≠ 0 then .ok (.int (i.fmod j)) s else .bad
    | _, _ => .bad)
  | .pow => (match a, b with
    | .int i, .int j => if 0 ≤ j ∧ j ≤ 1000000 ∧ i.natAbs < 2 ^ 64 then .ok (.int (i ^ j.toNat)) s else .bad
    | _, _ => .bad)
/-- in place: numbers, texts -/
def augD (o : BOp) (a b : D) (s : S) : R D := match a, b with
  | .int i, .int j => (match o with
    | .add => .ok (.int (i + j)) s
    | .sub => .ok (.int (i - j)) s
    | .mul => if (-(2 ^ 64) < i ∧ i < 2 ^ 64) ∨ (-(2 ^ 64) < j ∧ j < 2 ^ 64) then .ok (.int (i * j)) s else .bad
    | _ => .bad)
  | .str x, .str y => (match o with
    | .add => if x.length + y.length ≤ sizeLine then .ok (.str (x ++ y)) s else .bad
    | _ => .bad)
  | _, _ => .bad
def ixD (a b : D) (s : S) : R D :=
  match a, b with
  | .str z, .int i => if z.length ≤ sizeLine then (match atI z.cps.toList i with
    | some c => .ok (.str ⟨#[c]⟩) s
    | none => .bad) else .bad
  | a, .int i => match a.seqOf s with
    | some xs => (match atI xs i with
      | some d => .ok d s
      | none => .bad)
    | none => .bad
  | _, _ => .bad
def cutD (xs : List D) (lo hi : Option Int) : List D := (xs.drop (HT.sIx xs.length 0 lo)).take (HT.sIx xs.length xs.length hi - HT.sIx xs.length 0 lo)
def slD (a : D) (lo hi : Option Int) (s : S) : R D :=
  match a with
  | .tup xs => .ok (.tup (cutD xs lo hi)) s
  | a => match a.lstOf s with
    | some xs => .ok (.lst (cutD xs lo hi)) s
    | none => .bad
def truD (d : D) (s : S) : R Bool :=
  match d with
  | .bl b => .ok b s
  | _ => .bad
def isT (d : D) (t : Ty) (s : S) : Option Bool :=
  match d with
  | .non => some false
  | .bl _ => some (t == .bool || t == .int)
  | .int _ => some (t == .int)
  | .str _ => some (t == .str)
  | .tup _ => some (t == .tuple)
  | .lst _ => some (t == .list)
  | .rol _ => some (t == .list)
  | .ref i => (lk s i).map fun _ => t == .list
  | .ist _ => none
def maxL : List Int → Int
  | [] => 0
  | [i] => i
  | i :: r => let m := maxL r; if i < m then m else i
def minL : List Int → Int
  | [] => 0
  | [i] => i
  | i :: r => let m := minL r; if m < i then m else i
def bltD (b : Blt) (ds : List D) (s : S) : R D :=
  match b, ds with
  | .len, [.str z] => if z.length ≤ sizeLine then .ok (.int z.length) s else .bad
  | .len, [d] => match d.seqOf s with
    | some xs => .ok (.int xs.length) s
    | none => .bad
  | .sum, [d] => match (d.lstOf s).bind intsD with
    | some ns => .ok (.int ns.sum) s
    | none => .bad
  | .max, [d] => match (d.lstOf s).bind intsD with
    | some ns => if ns ≠ [] then .ok (.int (maxL ns)) s else .bad
    | none => .bad
  | .min, [d] => match (d.lstOf s).bind intsD with
    | some ns => if ns ≠ [] then .ok (.int (minL ns)) s else .bad
    | none => .bad
  | .all, [d] => match (d.lstOf s).bind blsD with
    | some bs => .ok (.bl (bs.all id)) s
    | none => .bad
  | .any, [d] => match (d.lstOf s).bind blsD with
    | some bs => .ok (.bl (bs.any id)) s
    | none => .bad
  | .tuple, [d] => match d.seqOf s with
    | some xs => .ok (.tup xs) s
    | none => .bad
  | .list, [d] => match d.seqOf s with
    | some xs => .ok (.lst xs) s
    | none => .bad
  | .sorted, [.ist ns] => if ns.length < 64 then .ok (.lst (((ns.eraseDups).mergeSort (fun a b => decide (a ≤ b))).map .int)) s else .bad
  | .sorted, [d] => match (d.lstOf s).bind intsD with
    | some ns => .ok (.lst ((ns.mergeSort (fun a b => decide (a ≤ b))).map .int)) s
    | none => .bad
  | .set, [.tup xs] => match intsD xs with
    | some ns => if ns.length + 1 < scanBound then .ok (.ist ns) s else .bad
    | none => .bad
  | .int, [.int i] => .ok (.int i) s
  | .str, [.int i] => if i.natAbs.log2 < 1920 then .ok (.str (toString i : String)) s else .bad
  | _, _ => .bad
def mthD (m : Mth) (o : D) (ds : List D) (s : S) : R D :=
  match m, o, ds with
  | .append, .ref i, [d] => match lk s i with
    | some xs => if xs.length < sizeLine then .ok .non (s.set i (.lst (xs ++ [d]))) else .bad
    | none => .bad
  | _, _, _ => .bad
/-- to be held -/
def setl (d : D) (s : S) : R D :=
  match d with
  | .lst xs => .ok (.ref s.length) (s ++ [.lst xs])
  | .ist _ => .bad
  | d => .ok d s
/-- what is walked: the items; whether it stands -/
structure Its where
  xs : List D
  ok : S → Bool
mutual
def D.same : D → D → Bool
  | .non, .non => true
  | .bl a, .bl b => a == b
  | .int a, .int b => a == b
  | .str a, .str b => decide (a = b)
  | .tup a, .tup b => D.sames a b
  | .ref a, .ref b => a == b
  | .lst a, .lst b => D.sames a b
  | .rol a, .rol b => D.sames a b
  | .ist a, .ist b => a == b
  | _, _ => false
def D.sames : List D → List D → Bool
  | [], [] => true
  | x :: xs, y :: ys => D.same x y && D.sames xs ys
  | _, _ => false
end
def seqI (d : D) (s : S) : R Its :=
  match d with
  | .tup xs => .ok ⟨xs, fun _ => true⟩ s
  | .lst xs => .ok ⟨xs, fun _ => true⟩ s
  | .rol xs => .ok ⟨xs, fun _ => true⟩ s
  | .ref i => match lk s i with
    | some xs => .ok ⟨xs, fun s => match lk s i with
      | some ys => D.sames ys xs
      | none => false⟩ s
    | none => .bad
  | _ => .bad
def rangeL (lo : Int) (n : Nat) (c : Int) : List D := (List.range n).map fun k => .int (lo + (k : Nat) * c)
def bnd (i : Int) : Bool := decide (-(2 ^ 62) ≤ i) && decide (i < 2 ^ 62)
def rngI (ds : List D) (s : S) : R Its :=
  match ds with
  | [.int j] => if bnd j then .ok ⟨rangeL 0 j.toNat 1, fun _ => true⟩ s else .bad
  | [.int i, .int j] => if bnd i && bnd j then .ok ⟨rangeL i (j - i).toNat 1, fun _ => true⟩ s else .bad
  | [.int i, .int j, .int c] => if bnd i && bnd j && c == -1 then .ok ⟨rangeL i (i - j).toNat (-1), fun _ => true⟩ s else .bad
  | _ => .bad
def enumI (d : D) (s : S) : R Its :=
  match seqI d s with
  | .ok I s => .ok ⟨(I.xs.zipIdx.map fun p => .tup [.int (p.2 : Nat), p.1]), I.ok⟩ s
  | .exc C fs s => .exc C fs s
  | .bad => .bad
abbrev CallT := Str → List D → S → R D
/-- the own slots forgotten -/
def wip (ρ : En) : List Nat → En
  | [] => ρ
  | v :: vs => (wip ρ vs).set v none
/-- a comprehension's turns -/
def lcL (turn : D → S → R (Option D)) (ok : S → Bool) : List D → List D → S → R D
  | [], acc, s => if ok s then .ok (.lst acc) s else .bad
  | x :: xs, acc, s => if ok s then (match turn x s with
    | .ok (some d) s => if acc.length < sizeLine then lcL turn ok xs (acc ++ [d]) s else .bad
    | .ok none s => lcL turn ok xs acc s
    | _ => .bad) else .bad
/-- a store to a[i] -/
def subD (o i v : D) (s : S) : Option S :=
  match o, i with
  | .ref a, .int k => match lk s a with
    | some xs => (match ixN xs.length k with
      | some j => some (s.set a (.lst (xs.set j v)))
      | none => none)
    | none => none
  | _, _ => none
/-- an exception held by a name: its own fields, ahead -/
abbrev Hd := Option (Nat × Str × List (Str × D))
/-- a name that may be stored -/
def hdOk (h : Hd) (i : Nat) : Bool := match h with
  | some (j, _, _) => decide (i ≠ j)
  | none => true
/-- within a target nothing is raised -/
def R.nox {α : Type} : R α → R α
  | .exc _ _ _ => .bad
  | r => r
/-- what is around: the defs, the module's constants, a held exception, which class is one of which -/
structure Rq where
  c : CallT
  gl : Str → Option D
  hd : Hd
  isx : Str → Str → Option Bool
  ex : Str → Option (List Str) := fun _ => none
  fuel : Nat := 0
/-- a field of an own exception -/
def Rq.fld (q : Rq) (C f : Str) : Bool := match q.ex C with
  | some fl => decide (f ∈ fl)
  | none => false
mutual
def runE (q : Rq) : IE → En → S → R D
  | .con d, _, s => .ok d s
  | .var i, ρ, s => match ρ[i]? with
    | some (some d) => .ok d s
    | _ => .bad
  | .glo x, _, s => match q.gl x with
    | some d => .ok d s
    | none => .bad
  | .bin o a b, ρ, s => (runE q a ρ s).bind fun x s => (runE q b ρ s).bind fun y s => binD o x y s
  | .neg a, ρ, s => (runE q a ρ s).bind fun x s => match x with
    | .int i => .ok (.int (-i)) s
    | _ => .bad
  | .cmp o a b, ρ, s => (runE q a ρ s).bind fun x s => (runE q b ρ s).bind fun y s => (cmpD o x y s).bind fun k s => .ok (.bl k) s
  | .chain o o' a b e, ρ, s => (runE q a ρ s).bind fun x s => (runE q b ρ s).bind fun y s => (cmpD o x y s).bind fun k s =>
    if k = true then (runE q e ρ s).bind fun z s => (cmpD o' y z s).bind fun k s => .ok (.bl k) s else .ok (.bl false) s
  | .and a b, ρ, s => (runE q a ρ s).bind fun x s => match x with
    | .bl true => runE q b ρ s
    | .bl false => .ok (.bl false) s
    | _ => .bad
  | .or a b, ρ, s => (runE q a ρ s).bind fun x s => match x with
    | .bl true => .ok (.bl true) s
    | .bl false => runE q b ρ s
    | _ => .bad
  | .not a, ρ, s => (runE q a ρ s).bind fun x s => match x with
    | .bl k => .ok (.bl (!k)) s
    | _ => .bad
  | .ife t a b, ρ, s => (runT q t ρ s).bind fun k s => if k = true then runE q a ρ s else runE q b ρ s
  | .tup es, ρ, s => (runEs q es ρ s).bind fun ds s => if ds.length ≤ sizeLine then .ok (.tup ds) s else .bad
  | .lst es, ρ, s => (runEs q es ρ s).bind fun ds s => if ds.length ≤ sizeLine then .ok (.lst ds) s else .bad
  | .ix a b, ρ, s => (runE q a ρ s).bind fun x s => (runE q b ρ s).bind fun y s => ixD x y s
  | .sl a lo hi, ρ, s => (runE q a ρ s).bind fun x s => (runO q lo ρ s).bind fun l s => (runO q hi ρ s).bind fun u s => slD x l u s
  | .rev a, ρ, s => (runE q a ρ s).bind fun x s => match x.lstOf s with
    | some xs => .ok (.lst xs.reverse) s
    | none => .bad
  | .call f es, ρ, s => (runEs q es ρ s).bind fun ds s => q.c f ds s
  | .blt b es, ρ, s => (runEr q es ρ s).bind fun ds s => bltD b ds s
  | .isi e t, ρ, s => (runE q e ρ s).bind fun d s => match isT d t s with
    | some k => .ok (.bl k) s
    | none => .bad
  | .mth m o es, ρ, s => (runE q o ρ s).bind fun d s => if (d.mutOf s).isSome = true then (runEs q es ρ s).bind fun ds s => mthD m d ds s else .bad
  | .lc own elt g it t, ρ, s => (runI q it ρ s).bind fun I s =>
    lcL (fun x s => (runG q g x (wip ρ (own.map (·.2))) s).bind fun ρ' s => (runTo q t ρ' s).bind fun k s => if k = true then ((runE q elt ρ' s).bind setl).bind fun d s => .ok (some d) s else .ok none s) I.ok I.xs [] s
  | .efld i f, _, s => match q.hd with
    | some (j, C, fs) => if i = j ∧ q.fld C f = true then (match fs.lookup f with
      | some d => .ok d s
      | none => .bad) else .bad
    | none => .bad
  | .eisi i k, _, s => match q.hd with
    | some (j, C, _) => if i = j then (match q.isx C k with
      | some b => .ok (.bl b) s
      | none => .bad) else .bad
    | none => .bad
/-- arguments, each to be held -/
def runEs (q : Rq) : List IE → En → S → R (List D)
  | [], _, s => .ok [] s
  | e :: es, ρ, s => ((runE q e ρ s).bind setl).bind fun d s => (runEs q es ρ s).bind fun ds s => .ok (d :: ds) s
/-- arguments of a built-in -/
def runEr (q : Rq) : List IE → En → S → R (List D)
  | [], _, s => .ok [] s
  | e :: es, ρ, s => (runE q e ρ s).bind fun d s => (runEr q es ρ s).bind fun ds s => .ok (d :: ds) s
def runO (q : Rq) : Option IE → En → S → R (Option Int)
  | none, _, s => .ok none s
  | some e, ρ, s => (runE q e ρ s).bind fun d s => match d with
    | .int i => .ok (some i) s
    | _ => .bad
def runTo (q : Rq) : Option IT → En → S → R Bool
  | none, _, s => .ok true s
  | some t, ρ, s => runT q t ρ s
def runT (q : Rq) : IT → En → S → R Bool
  | .and a b, ρ, s => (runT q a ρ s).bind fun k s => if k = true then runT q b ρ s else .ok false s
  | .or a b, ρ, s => (runT q a ρ s).bind fun k s => if k = true then .ok true s else runT q b ρ s
  | .not a, ρ, s => (runT q a ρ s).bind fun k s => .ok (!k) s
  | .cmp o a b, ρ, s => (runE q a ρ s).bind fun x s => (runE q b ρ s).bind fun y s => cmpD o x y s
  | .chain o o' a b e, ρ, s => (runE q a ρ s).bind fun x s => (runE q b ρ s).bind fun y s => (cmpD o x y s).bind fun k s =>
    if k = true then (runE q e ρ s).bind fun z s => cmpD o' y z s else .ok false s
  | .tru e, ρ, s => (runE q e ρ s).bind truD
def runI (q : Rq) : II → En → S → R Its
  | .seq e, ρ, s => (runE q e ρ s).bind seqI
  | .range es, ρ, s => (runEr q es ρ s).bind rngI
  | .enum e, ρ, s => (runE q e ρ s).bind enumI
/-- a target is given a value -/
def runG (q : Rq) : IG → D → En → S → R En
  | .nm i, d, ρ, s => (setl d s).bind fun d s => if i < ρ.length ∧ hdOk q.hd i = true then .ok (ρ.set i (some d)) s else .bad
  | .tup gs, d, ρ, s => match d with
    | .tup ds => runGs q gs ds ρ s
    | _ => .bad
  | .sub o i, d, ρ, s => (setl d s).bind fun d s => (runE q o ρ s).nox.bind fun x s => (runE q i ρ s).nox.bind fun y s => match subD x y d s with
    | some s => .ok ρ s
    | none => .bad
def runGs (q : Rq) : List IG → List D → En → S → R En
  | [], [], ρ, s => .ok ρ s
  | g :: gs, d :: ds, ρ, s => (runG q g d ρ s).bind fun ρ s => runGs q gs ds ρ s
  | _, _, _, _ => .bad
end
inductive IS where
  | asg (g : IG) (e : IE) | par (gs : List Nat) (es : List IE) | aug (i : Nat) (o : BOp) (e : IE)
  | expr (e : IE) | ret (e : Option IE)
  | ife (t : IT) (a b : List IS)
  | fo (g : IG) (it : II) (body : List IS)
  | whl (t : IT) (body : List IS)
  | brk | cnt | pass
  | raise (C : Str) (es : List IE)
  | tr (body : List IS) (hs : List (Str × Option Nat × List IS))
def foL (set : D → En → S → R En) (body : En → S → RS) (ok : S → Bool) : List D → En → S → RS
  | [], ρ, s => if ok s then .nx ρ s else .bad
  | x :: xs, ρ, s => if ok s then (match set x ρ s with
    | .ok ρ s => (match body ρ s with
      | .nx ρ s => foL set body ok xs ρ s
      | .ct ρ s => foL set body ok xs ρ s
      | .bk ρ s => .nx ρ s
      | r => r)
    | _ => .bad) else .bad
def whL (test : En → S → R Bool) (body : En → S → RS) : Nat → En → S → RS
  | 0, _, _ => .bad
  | n + 1, ρ, s => match test ρ s with
    | .ok true s => (match body ρ s with
      | .nx ρ s => whL test body n ρ s
      | .ct ρ s => whL test body n ρ s
      | .bk ρ s => .nx ρ s
      | r => r)
    | .ok false s => .nx ρ s
    | .exc C fs s => .exc C fs ρ s
    | .bad => .bad
def R.thn {α : Type} (r : R α) (ρ : En) (f : α → S → RS) : RS := match r with
  | .ok a s => f a s
  | .exc C fs s => .exc C fs ρ s
  | .bad => .bad
/-- no exception leaves a suite; its name is gone -/
def suiteEnd (i : Option Nat) : RS → RS
  | .nx ρ s => .nx (match i with | some i => ρ.set i none | none => ρ) s
  | .bk ρ s => .bk (match i with | some i => ρ.set i none | none => ρ) s
  | .ct ρ s => .ct (match i with | some i => ρ.set i none | none => ρ) s
  | .rt d s => .rt d s
  | _ => .bad
def setPar : List Nat → List D → En → En
  | i :: is, d :: ds, ρ => setPar is ds (ρ.set i (some d))
  | _, _, ρ => ρ
mutual
def runS (q : Rq) : IS → En → S → RS
  | .asg g e, ρ, s => (runE q e ρ s).thn ρ fun d s => (runG q g d ρ s).nox.thn ρ fun ρ s => .nx ρ s
  | .par is es, ρ, s => (runEs q es ρ s).thn ρ fun ds s => if is.length = ds.length ∧ (is.all fun i => hdOk q.hd i && decide (i < ρ.length)) = true then .nx (setPar is ds ρ) s else .bad
  | .aug i o e, ρ, s => match ρ[i]? with
    | some (some x) => (runE q e ρ s).thn ρ fun y s => if hdOk q.hd i = true then (augD o x y s).thn ρ fun z s => .nx (ρ.set i (some z)) s else .bad
    | _ => .bad
  | .expr e, ρ, s => (runE q e ρ s).thn ρ fun _ s => .nx ρ s
  | .ret none, _, s => .rt .non s
  | .ret (some e), ρ, s => (runE q e ρ s).thn ρ fun d s => .rt d s
  | .ife t a b, ρ, s => (runT q t ρ s).thn ρ fun k s => if k = true then runSs q a ρ s else runSs q b ρ s
  | .fo g it body, ρ, s => (runI q it ρ s).thn ρ fun I s => foL (fun x ρ s => runG q g x ρ s) (fun ρ s => runSs q body ρ s) I.ok I.xs ρ s
  | .whl t body, ρ, s => whL (fun ρ s => runT q t ρ s) (fun ρ s => runSs q body ρ s) q.fuel ρ s
  | .brk, ρ, s => .bk ρ s
  | .cnt, ρ, s => .ct ρ s
  | .pass, ρ, s => .nx ρ s
  | .raise C es, ρ, s => match q.ex C with
    | some fs => (runEs q es ρ s).thn ρ fun ds s => if ds.length = fs.length then .exc C (fs.zip ds).reverse ρ s else .bad
    | none => .bad
  | .tr body hs, ρ, s => match runSs q body ρ s with
    | .exc C fs ρ s => runHs q C fs hs ρ s
    | r => r
def runSs (q : Rq) : List IS → En → S → RS
  | [], ρ, s => .nx ρ s
  | st :: r, ρ, s => match runS q st ρ s with
    | .nx ρ s => runSs q r ρ s
    | r => r
def runHs (q : Rq) (C : Str) (fs : List (Str × D)) : List (Str × Option Nat × List IS) → En → S → RS
  | [], ρ, s => .exc C fs ρ s
  | (k, i, body) :: r, ρ, s => match q.isx C k with
    | some true => (match i with
      | some i => if i < ρ.length then suiteEnd (some i) (runSs { q with hd := some (i, C, fs) } body (ρ.set i none) s) else .bad
      | none => suiteEnd none (runSs { q with hd := none } body ρ s))
    | some false => runHs q C fs r ρ s
    | none => .bad
end
/-- a def's body -/
def runF (q : Rq) (n : Nat) (body : List IS) (ds : List D) (s : S) : R D :=
  match runSs q body (ds.map some ++ List.replicate (n - ds.length) none) s with
  | .nx _ s => .ok .non s
  | .rt d s => .ok d s
  | .exc C fs _ s => .exc C fs s
  | _ => .bad
/-- a def: its slots, how many parameters, its body -/
structure Df where
  name : Str
  nP : Nat
  N : List Str
  body : List IS
/-- the defs, calls this deep -/
def callN (ds : List Df) (q : Rq) : Nat → CallT
  | 0, _, _, _ => .bad
  | k + 1, f, as, s => match ds.find? (fun d => decide (d.name = f)) with
    | some d => if as.length = d.nP then runF { q with c := callN ds q k } d.N.length d.body as s else .bad
    | none => .bad
example (q : Rq) (d : D) (ρ : En) (s : S) : runE q (.con d) ρ s = .ok d s := rfl
example (q : Rq) (ρ : En) (s : S) : runSs q [.brk] ρ s = .bk ρ s := rfl
end DI

set_option Elab.async false
set_option linter.all false
set_option maxRecDepth 100000
set_option maxHeartbeats 4000000
/-! DI 4: what operators and built-ins do, by HandS's rules. -/
namespace DI
open PySem PySem.Spec PyProof.Rows L2
theorem tuple_mul1 (l : Addr) (items : Array Value) (n : Nat) (dd : Option Addr) (sl : Array (Option Value)) (u : Tok) :
    Meets (Builtin.«tuple.__mul__» ⟨[.ref l, .int 1 u], []⟩) (fun _ R s => s.heap.get? l = some { cls := .type "tuple", dict := dd, data := .seq items n, slots := sl } ∧
      R (.ok (.ret (Value.ref l))) s) :=
  .of_wp fun prog w A R s h => by
    obtain ⟨hp, g, d, tk, os⟩ := s
    obtain ⟨hl, h⟩ := h
    have f1 := AutoSeq1.idx_int
    have c1 : (items.isEmpty || (1 : Int) == 1) = true := by simp
    wp_walk using wpAny_loadPart' hl
    repeat (first
      | (refine wpAny_ite_false (decide_eq_false (by decide)) ?_; wp_walk using wpAny_loadPart' hl)
      | (refine wpAny_ite_true (decide_eq_true (by rw [c1])) ?_; wp_walk using wpAny_loadPart' hl))
    exact ⟨_, rfl, h⟩
section
variable {w : World} {K : PySem.W.Frag} {W : WX} {σ : L2.St} {m m' : List Addr} {H H' : Hp} {s : S} {Q : VK}
theorem lstOf_sq (st : StOk w K m H s) {d : D} {v : V} {xs : List D} (r : Rp w K m H d v) (e : d.lstOf s = some xs) : ∃ a vs, v = .ref a ∧ SqL K H a vs ∧ Rps w K m H xs vs := by
  cases r with
  | lst h n rs => cases e; exact ⟨_, _, rfl, .of h, rs⟩
  | rol h rs => cases e; exact ⟨_, _, rfl, h.sq, rs⟩
  | @ref i a h =>
    obtain ⟨a', e1, vs, h1, h2⟩ := st.at_ _ _ (lk_some.mp e)
    rw [h] at e1; cases e1
    exact ⟨_, _, rfl, .of h1, h2⟩
  | _ => cases e
theorem mutOf_h (st : StOk w K m H s) {d : D} {v : V} {xs : List D} (r : Rp w K m H d v) (e : d.mutOf s = some xs) : ∃ a vs, v = .ref a ∧ H a = some (.lst vs) ∧ Rps w K m H xs vs := by
  cases r with
  | lst h n rs => cases e; exact ⟨_, _, rfl, h, rs⟩
  | @ref i a h =>
    obtain ⟨a', e1, vs, h1, h2⟩ := st.at_ _ _ (lk_some.mp e)
    rw [h] at e1; cases e1
    exact ⟨_, _, rfl, h1, h2⟩
  | _ => cases e
theorem seqOf_sq (st : StOk w K m H s) {d : D} {v : V} {xs : List D} (r : Rp w K m H d v) (e : d.seqOf s = some xs) : ∃ a vs, v = .ref a ∧ (SqL K H a vs ∨ SqT K H a vs) ∧ Rps w K m H xs vs := by
  cases r with
  | tup h rs => cases e; exact ⟨_, _, rfl, .inr h.sq, rs⟩
  | lst h n rs => obtain ⟨a, vs, p, q, t⟩ := lstOf_sq st (.lst h n rs) e; exact ⟨a, vs, p, .inl q, t⟩
  | rol h rs => obtain ⟨a, vs, p, q, t⟩ := lstOf_sq st (.rol h rs) e; exact ⟨a, vs, p, .inl q, t⟩
  | ref h => obtain ⟨a, vs, p, q, t⟩ := lstOf_sq st (.ref h) e; exact ⟨a, vs, p, .inl q, t⟩
  | _ => cases e
theorem intsD_v : ∀ {xs : List D} {vs : List V} {ns : List Int}, Rps w K m H xs vs → intsD xs = some ns → vs = ns.map V.int ∧ xs = ns.map D.int
  | [], _, _, .nil, e => by cases e; exact ⟨rfl, rfl⟩
  | .int i :: r, _, ns, .cons _ (.int _) rs, e => by
    unfold intsD at e
    cases q : intsD r with
    | none => rw [q] at e; cases e
    | some ms =>
      rw [q] at e; cases e
      obtain ⟨a, b⟩ := intsD_v rs q
      exact ⟨by rw [a]; rfl, by rw [b]; rfl⟩
theorem blsD_v : ∀ {xs : List D} {vs : List V} {ns : List Bool}, Rps w K m H xs vs → blsD xs = some ns → vs = ns.map V.bl
  | [], _, _, .nil, e => by cases e; rfl
  | .bl i :: r, _, ns, .cons _ (.bl _) rs, e => by
    unfold blsD at e
    cases q : blsD r with
    | none => rw [q] at e; cases e
    | some ms =>
      rw [q] at e; cases e
      rw [blsD_v rs q]; rfl
theorem scal_v {d : D} {v : V} (h : d.scal = true) (r : Rp w K m H d v) : v = d.sv := by
  cases r <;> first | rfl | cases h
theorem scals_v : ∀ {xs : List D} {vs : List V}, xs.all D.scal = true → Rps w K m H xs vs → vs = xs.map D.sv
  | _, _, _, .nil => rfl
  | _, _, h, .cons _ r rs => by
    rw [List.all_cons, Bool.and_eq_true] at h
    rw [scal_v h.1 r, scals_v h.2 rs]; rfl
theorem sv_flat {d : D} (h : d.scal = true) : flatV d.sv = true := by
  cases d <;> first | rfl | cases h
mutual
theorem py0_dp : ∀ {d : D} {v : V} {p : PyData}, Rp w K m H d v → d.py0 = some p → Dp K H v p
  | _, _, _, .non, e => by cases e; exact .non
  | _, _, _, .bl _, e => by cases e; exact .bl _
  | _, _, _, .int _, e => by cases e; exact .int _
  | _, _, _, .str _, e => by cases e; exact .str _
  | .tup xs, _, _, .tup h rs, e => by
    unfold D.py0 at e
    cases q : D.pys xs with
    | none => rw [q] at e; cases e
    | some ps => rw [q] at e; cases e; exact .tup h.sq (pys_dp rs q)
  | .lst xs, _, _, .lst h n rs, e => by
    unfold D.py0 at e
    cases q : D.pys xs with
    | none => rw [q] at e; cases e
    | some ps => rw [q] at e; cases e; exact .lst (.of h) (pys_dp rs q)
  | .rol xs, _, _, .rol h rs, e => by
    unfold D.py0 at e
    cases q : D.pys xs with
    | none => rw [q] at e; cases e
    | some ps => rw [q] at e; cases e; exact .lst h.sq (pys_dp rs q)
  | _, _, _, .ref _, e => by cases e
  | _, _, _, .ist _ _ _ _, e => by cases e
theorem pys_dp : ∀ {xs : List D} {vs : List V} {ps : List PyData}, Rps w K m H xs vs → D.pys xs = some ps → DpAll K H vs ps
  | _, _, _, .nil, e => by cases e; exact .nil
  | d :: r, _, ps, .cons _ h rs, e => by
    unfold D.pys at e
    cases q : d.py0 with
    | none => rw [q] at e; cases e
    | some p =>
      rw [q] at e
      cases q2 : D.pys r with
      | none => rw [q2] at e; cases e
      | some ps2 => rw [q2] at e; cases e; exact .cons (py0_dp h q) (pys_dp rs q2)
end
theorem py_dp (st : StOk w K m H s) {d : D} {v : V} {p : PyData} (r : Rp w K m H d v) (e : d.py s = some p) : Dp K H v p := by
  cases d with
  | ref i =>
    obtain ⟨xs, e1, e2⟩ := Option.bind_eq_some_iff.mp e
    obtain ⟨ps, e3, rfl⟩ := Option.map_eq_some_iff.mp e2
    obtain ⟨a, vs, rfl, sq, rs⟩ := lstOf_sq st r (xs := xs) e1
    exact .lst sq (pys_dp rs e3)
  | _ => exact py0_dp r e
/-! ### ends -/
theorem post_same {d : D} {v : V} (p : PostE w K W σ m H Q (.ok d s)) (st : StOk w K m H s) (r : Rp w K m H d v) (h : d.shr = true) : Q v H :=
  p m v H .refl st r fun z => by rw [h] at z; cases z
theorem post_tup {ds : List D} {vs : List V} (p : PostE w K W σ m H Q (.ok (.tup ds) s)) (st : StOk w K m H s) (r : Rps w K m H ds vs) : ∀ a, H a = none → Q (.ref a) (upd H a (.tup vs)) := fun a ha =>
  p m _ _ (.new st ha) (st.new ha) (.tup (.inl ⟨.inl upd_same, st.nin ha⟩) (r.mono (.new st ha))) fun z => by cases z
theorem post_lst {ds : List D} {vs : List V} (p : PostE w K W σ m H Q (.ok (.lst ds) s)) (st : StOk w K m H s) (r : Rps w K m H ds vs) : ∀ a, H a = none → Q (.ref a) (upd H a (.lst vs)) := fun a ha =>
  p m _ _ (.new st ha) (st.new ha) (.lst upd_same (st.nin ha) (r.mono (.new st ha))) fun _ => ⟨a, rfl, ha⟩
theorem Rps.app {xs ys : List D} {vs us : List V} (r : Rps w K m H xs vs) (t : Rps w K m H ys us) : Rps w K m H (xs ++ ys) (vs ++ us) := by
  induction xs generalizing vs with
  | nil => cases r; exact t
  | cons x xs ih => cases r with | cons s h r => exact .cons s h (ih r)
theorem Rps.take {xs : List D} {vs : List V} (r : Rps w K m H xs vs) (n : Nat) : Rps w K m H (xs.take n) (vs.take n) := by
  induction xs generalizing vs n with
  | nil => cases r; simp; exact .nil
  | cons x xs ih =>
    cases r with
    | cons s h r =>
      cases n with
      | zero => exact .nil
      | succ n => exact .cons s h (ih r n)
theorem Rps.drop {xs : List D} {vs : List V} (r : Rps w K m H xs vs) (n : Nat) : Rps w K m H (xs.drop n) (vs.drop n) := by
  induction xs generalizing vs n with
  | nil => cases r; simp; exact .nil
  | cons x xs ih =>
    cases n with
    | zero => exact r
    | succ n => cases r with | cons s h r => exact ih r n
theorem Rps.rep {xs : List D} {vs : List V} (r : Rps w K m H xs vs) : ∀ n : Nat, Rps w K m H (List.replicate n xs).flatten (List.replicate n vs).flatten
  | 0 => .nil
  | n + 1 => by rw [List.replicate_succ, List.replicate_succ, List.flatten_cons, List.flatten_cons]; exact r.app (r.rep n)
theorem Rps.rev {xs : List D} {vs : List V} (r : Rps w K m H xs vs) : Rps w K m H xs.reverse vs.reverse := by
  induction xs generalizing vs with
  | nil => cases r; exact .nil
  | cons x xs ih => cases r with | cons s h r => rw [List.reverse_cons, List.reverse_cons]; exact (ih r).app (.cons s h .nil)
theorem Rps.set {xs : List D} {vs : List V} (r : Rps w K m H xs vs) {d : D} {v : V} (hs : d.shr = true) (hd : Rp w K m H d v) (j : Nat) : Rps w K m H (xs.set j d) (vs.set j v) := by
  induction xs generalizing vs j with
  | nil => cases r; exact .nil
  | cons x xs ih =>
    cases r with
    | cons s h r =>
      cases j with
      | zero => exact .cons hs hd r
      | succ j => exact .cons s h (ih r j)
theorem Rps.nil_iff {xs : List D} {vs : List V} (r : Rps w K m H xs vs) : vs = [] ↔ xs = [] := by
  cases r <;> simp
theorem Rps.at_ {xs : List D} {vs : List V} {i : Int} {d : D} (r : Rps w K m H xs vs) (e : atI xs i = some d) : ∃ v, atI vs i = some v ∧ Rp w K m H d v ∧ d.shr = true := by
  unfold atI at e ⊢
  rw [r.length]
  cases q : ixN xs.length i with
  | none => rw [q] at e; cases e
  | some j => rw [q] at e; exact r.get e
theorem ints_rps (ns : List Int) : Rps w K m H (ns.map D.int) (ns.map V.int) := by
  induction ns with
  | nil => exact .nil
  | cons n ns ih => exact .cons rfl (.int n) ih
/-! ### operators -/
section
variable {X : Cx}
def rAddD (K : PySem.W.Frag) : R2 := fun x y H Q => rI0 (fun i j => .int (i + j)) x y H Q ∨ (∃ i j, x = .str i ∧ y = .str j ∧ i.length + j.length ≤ sizeLine ∧ Q (.str (i ++ j)) H) ∨ rCatA K x y H Q ∨ rCat x y H Q
theorem op_addD : OpR X (binaryOp .Add) (rAddD X.K) := op_add.or (op_add_str.or (op_catA.or op_cat))
def rRep1 (K : PySem.W.Frag) : R2 := fun x y H Q => ∃ l xs, x = .ref l ∧ y = .int 1 ∧ SqT K H l xs ∧ Q (.ref l) H
theorem op_rep1 : OpR X (binaryOp .Mult) (rRep1 X.K) := by
  intro pins s σ H x y v u Q I rx ry h
  obtain ⟨l, xs, rfl, rfl, hT, q⟩ := h
  cases rx
  obtain ⟨t, rfl⟩ := ry
  obtain ⟨its, r, ⟨⟨cls, dd, data, sl⟩, ho, hc, n, hd⟩, hs⟩ := I.tuple hT
  simp only at hc hd
  subst hc hd
  exact wpAny_binaryOp_repeat_ref (T := "tuple") (U := "int") (by decide) ⟨_, ho, rfl⟩ (fun s' => typeIs_int s' 1 t) noFill_tuple_mul F.fills_int_mul F.slot_int_rmul repeat_tuple F.slot_int_index.lookup
    (call_meets F.slot_int_rmul (typeIs_int s 1 t) F.entry_int_rmul (F.args_int_rmul_2 _ _) (int_rmul_tuple 1 t l its.toArray n dd sl)
      ⟨ho, rfl, ⟨_, ho, rfl⟩, call_meets F.slot_tuple_mul ⟨_, ho, rfl⟩ F.entry_tuple_mul (F.args_tuple_mul_2 _ _) (tuple_mul1 l its.toArray n dd sl t) ⟨ho, .ref l, H, I, rfl, q⟩⟩)
def rMulD (K : PySem.W.Frag) : R2 := fun x y H Q => rI CMul (fun i j => .int (i * j)) x y H Q ∨ rRep1 K x y H Q ∨ rRepT K x y H Q ∨ rRep x y H Q
theorem op_mulD : OpR X (binaryOp .Mult) (rMulD X.K) := op_mul.or (op_rep1.or (op_repT.or op_rep))
theorem addD_ok {a b : D} {x y : V} (st : StOk w K m H s) (ra : Rp w K m H a x) (rb : Rp w K m H b y) (p : PostE w K W σ m H Q (addD a b s)) : rAddD K x y H Q := by
  unfold addD at p
  split at p
  · cases ra; cases rb; exact .inl ⟨_, _, rfl, rfl, post_same p st (.int _) rfl⟩
  · split at p
    · rename_i hz
      cases ra; cases rb; exact .inr (.inl ⟨_, _, rfl, rfl, hz, post_same p st (.str _) rfl⟩)
    · exact p.elim
  · split at p
    · rename_i hz
      cases ra with
      | tup ha r1 =>
      cases rb with
      | tup hb r2 =>
      refine .inr (.inr (.inl ⟨_, _, _, _, rfl, rfl, ha.sq, hb.sq, by rw [r1.length, r2.length]; exact hz, fun z => ?_, fun z1 z2 => ?_, fun _ _ => post_tup p st (r1.app r2)⟩))
      · have z' := r1.nil_iff.mp z
        subst z'
        exact post_same p st (.tup hb r2) rfl
      · have z' := r2.nil_iff.mp z2
        subst z'
        rw [List.append_nil] at p
        exact post_same p st (.tup ha r1) rfl
    · exact p.elim
  · split at p
    · rename_i e1 e2
      obtain ⟨a1, v1, rfl, h1, r1⟩ := mutOf_h st ra e1
      obtain ⟨a2, v2, rfl, h2, r2⟩ := mutOf_h st rb e2
      split at p
      · rename_i hz
        exact .inr (.inr (.inr ⟨_, _, _, _, rfl, rfl, h1, h2, by rw [r1.length, r2.length]; exact hz, post_lst p st (r1.app r2)⟩))
      · exact p.elim
    · exact p.elim
theorem mulD_ok {a b : D} {x y : V} (st : StOk w K m H s) (ra : Rp w K m H a x) (rb : Rp w K m H b y) (p : PostE w K W σ m H Q (mulD a b s)) : rMulD K x y H Q := by
  unfold mulD at p
  split at p
  · split at p
    · rename_i hz
      cases ra; cases rb; exact .inl ⟨_, _, rfl, rfl, hz, post_same p st (.int _) rfl⟩
    · exact p.elim
  · split at p
    · rename_i hz
      obtain ⟨h1, rfl⟩ := hz
      cases rb
      cases ra with
      | tup ha r1 => exact .inr (.inl ⟨_, _, rfl, rfl, ha.sq, post_same p st (.tup ha r1) rfl⟩)
    · split at p
      · rename_i hz
        obtain ⟨h1, h2, h3, h4⟩ := hz
        cases rb
        cases ra with
        | tup ha r1 => exact .inr (.inr (.inl ⟨_, _, _, rfl, rfl, ha.sq, fun z => h1 (r1.nil_iff.mp z), h2, h3, by rw [r1.length]; exact h4, post_tup p st (r1.rep _)⟩))
      · exact p.elim
  · split at p
    · rename_i e1
      obtain ⟨a1, v1, rfl, h1, r1⟩ := mutOf_h st ra e1
      split at p
      · rename_i hz
        cases rb
        exact .inr (.inr (.inr ⟨_, _, _, rfl, rfl, h1, hz.1, hz.2.1, by rw [r1.length]; exact hz.2.2, post_lst p st (r1.rep _)⟩))
      · exact p.elim
    · exact p.elim
  · exact p.elim
/-- any operator -/
def opOf : BOp → Operator
  | .add => .Add | .sub => .Sub | .mul => .Mult | .fdiv => .FloorDiv | .mod => .Mod | .pow => .Pow
def rBin (K : PySem.W.Frag) : BOp → R2
  | .add => rAddD K
  | .sub => rI0 fun i j => .int (i - j)
  | .mul => rMulD K
  | .fdiv => rI CDivN fun i j => .int (i.fdiv j)
  | .mod => rI (fun _ j => j ≠ 0) fun i j => .int (i.fmod j)
  | .pow => rI CPow fun i j => .int (i ^ j.toNat)
theorem op_bin (o : BOp) : OpR X (binaryOp (opOf o)) (rBin X.K o) := by
  cases o with
  | add => exact op_addD
  | sub => exact op_sub
  | mul => exact op_mulD
  | fdiv => exact op_fdivN
  | mod => exact op_modN
  | pow => exact op_pow
theorem binD_ok {o : BOp} {a b : D} {x y : V} (st : StOk w K m H s) (ra : Rp w K m H a x) (rb : Rp w K m H b y) (p : PostE w K W σ m H Q (binD o a b s)) : rBin K o x y H Q := by
  cases o with
  | add => exact addD_ok st ra rb p
  | mul => exact mulD_ok st ra rb p
  | sub =>
    unfold binD at p; dsimp only at p; split at p
    · cases ra; cases rb; exact ⟨_, _, rfl, rfl, post_same p st (.int _) rfl⟩
    · exact p.elim
  | fdiv =>
    unfold binD at p; dsimp only at p; split at p
    · split at p
      · rename_i hz; cases ra; cases rb; exact ⟨_, _, rfl, rfl, hz, post_same p st (.int _) rfl⟩
      · exact p.elim
    · exact p.elim
  | mod =>
    unfold binD at p; dsimp only at p; split at p
    · split at p
      · rename_i hz; cases ra; cases rb; exact ⟨_, _, rfl, rfl, hz, post_same p st (.int _) rfl⟩
      · exact p.elim
    · exact p.elim
  | pow =>
    unfold binD at p; dsimp only at p; split at p
    · split at p
      · rename_i hz; cases ra; cases rb; exact ⟨_, _, rfl, rfl, hz, post_same p st (.int _) rfl⟩
      · exact p.elim
    · exact p.elim
/-! ### comparisons -/
def cmpOf : COp → CmpOp
  | .eq => .Eq | .ne => .NotEq | .lt => .Lt | .le => .LtE | .gt => .Gt | .ge => .GtE | .isv => .Is | .isn => .IsNot | .inn => .In | .nin => .NotIn
theorem OpR.imp {f : Value → Value → Sem Value} {r r' : R2} (h : OpR X f r) (i : ∀ x y H Q, r' x y H Q → r x y H Q) : OpR X f r' := fun pins s σ H x y v u Q I rx ry q => h pins s σ H x y v u Q I rx ry (i _ _ _ _ q)
/-- the answer of a comparison by data -/
def rCmp (w : World) (K : PySem.W.Frag) (o : COp) : R2 := fun x y H Q => ∃ m s a b k, StOk w K m H s ∧ Rp w K m H a x ∧ Rp w K m H b y ∧ cmpO o a b s = some k ∧ Q (.bl k) H
theorem isD_v {a b : D} {x y : V} {k : Bool} (ra : Rp w K m H a x) (rb : Rp w K m H b y) (e : isD a b = some k) : (y = .non ∧ k = decide (x = .non)) ∨ ∃ i j, x = .bl i ∧ y = .bl j ∧ k = decide (i = j) := by
  unfold isD at e
  split at e
  · cases rb
    refine .inl ⟨rfl, ?_⟩
    cases ra <;> simp at e <;> simp [← e]
  · cases rb
    split at e
    · cases ra; cases e; exact .inr ⟨_, _, rfl, rfl, rfl⟩
    · cases e
  · cases e
theorem eqD_v (st : StOk w K m H s) {a b : D} {x y : V} {k : Bool} (ra : Rp w K m H a x) (rb : Rp w K m H b y) (e : eqD s a b = some k) :
    (L2.scal x y = true ∧ k = decide (x = y)) ∨ ∃ d d', Dp K H x d ∧ Dp K H y d' ∧ SeqAt.shaped d = true ∧ SeqAt.shaped d' = true ∧ k = PyData.eqv d d' := by
  unfold eqD at e
  split at e
  · rename_i h
    simp only [Bool.and_eq_true] at h
    cases e
    refine .inl ?_
    rw [scal_v h.1.2 ra, scal_v h.2 rb]
    exact ⟨h.1.1, rfl⟩
  · split at e
    · rename_i p q e1 e2
      split at e
      · rename_i h
        simp only [Bool.and_eq_true] at h
        cases e
        exact .inr ⟨p, q, py_dp st ra e1, py_dp st rb e2, h.1, h.2, rfl⟩
      · cases e
    · cases e
theorem inD_v (st : StOk w K m H s) {a b : D} {x y : V} {k : Bool} (ra : Rp w K m H a x) (rb : Rp w K m H b y) (e : inD s a b = some k) :
    (∃ p xs, y = .ref p ∧ (SqL K H p xs ∨ SqT K H p xs) ∧ flatV x = true ∧ xs.all flatV = true ∧ k = inV x xs) ∨
    ∃ d ds, Dp K H x d ∧ Dp K H y (.list ds) ∧ SeqAt.shaped d = true ∧ SeqAt.shaped (.list ds) = true ∧ k = ds.any fun z => PyData.eqv z d := by
  have flat : ∀ {xs : List D}, xs.all D.scal = true → (xs.map D.sv).all flatV = true := fun {xs} h => by
    rw [List.all_eq_true] at h ⊢
    intro v hv
    obtain ⟨d, hd, rfl⟩ := List.mem_map.mp hv
    exact sv_flat (h d hd)
  unfold inD at e
  split at e
  · split at e
    · rename_i h
      simp only [Bool.and_eq_true] at h
      cases e
      cases rb with
      | tup hb rs =>
        refine .inl ⟨_, _, rfl, .inr hb.sq, ?_, ?_, ?_⟩
        · rw [scal_v h.1 ra]; exact sv_flat h.1
        · rw [scals_v h.2 rs]; exact flat h.2
        · rw [scal_v h.1 ra, scals_v h.2 rs]
    · cases e
  · split at e
    · rename_i xs e1
      obtain ⟨p, vs, rfl, sq, rs⟩ := lstOf_sq st rb e1
      split at e
      · rename_i h
        simp only [Bool.and_eq_true] at h
        cases e
        refine .inl ⟨_, _, rfl, .inl sq, ?_, ?_, ?_⟩
        · rw [scal_v h.1 ra]; exact sv_flat h.1
        · rw [scals_v h.2 rs]; exact flat h.2
        · rw [scal_v h.1 ra, scals_v h.2 rs]
      · split at e
        · rename_i d ds e2 e3
          split at e
          · rename_i h
            simp only [Bool.and_eq_true] at h
            cases e
            exact .inr ⟨d, ds, py_dp st ra e2, .lst sq (pys_dp rs e3), h.1, h.2, rfl⟩
          · cases e
        · cases e
    · cases e
theorem cmp_some {o : COp} {a b : D} {k : Bool} {s' : S} (e : cmpD o a b s = .ok k s') : cmpO o a b s = some k ∧ s' = s := by
  unfold cmpD at e
  split at e
  · rename_i k' e'
    cases e
    exact ⟨e', rfl⟩
  · cases e
theorem cmp_exc {o : COp} {a b : D} {C fs} {s' : S} (e : cmpD o a b s = .exc C fs s') : False := by
  unfold cmpD at e
  split at e <;> cases e
theorem op_cmp (hu : X.A.units + 65 < cLine) (o : COp) : OpR X (compareOp (cmpOf o)) (rCmp X.w X.K o) := by
  have hu4 : X.A.units + 64 < cLine := by omega
  cases o with
  | eq =>
    refine OpR.imp (OpR.or op_eq (op_eqD hu4)) fun x y H Q ⟨m, s, a, b, k, st, ra, rb, e, q⟩ => ?_
    rcases eqD_v st ra rb e with ⟨h1, rfl⟩ | ⟨d, d', h1, h2, h3, h4, rfl⟩
    · exact .inl ⟨h1, q⟩
    · exact .inr ⟨d, d', h1, h2, h3, h4, q⟩
  | ne =>
    refine OpR.imp (OpR.or op_ne (op_neD hu4)) fun x y H Q ⟨m, s, a, b, k, st, ra, rb, e, q⟩ => ?_
    obtain ⟨k', e', rfl⟩ := Option.map_eq_some_iff.mp e
    rcases eqD_v st ra rb e' with ⟨h1, rfl⟩ | ⟨d, d', h1, h2, h3, h4, rfl⟩
    · exact .inl ⟨h1, q⟩
    · exact .inr ⟨d, d', h1, h2, h3, h4, q⟩
  | isv =>
    refine OpR.imp (OpR.or op_isN op_isBl) fun x y H Q ⟨m, s, a, b, k, st, ra, rb, e, q⟩ => ?_
    rcases isD_v ra rb e with ⟨h1, rfl⟩ | ⟨i, j, h1, h2, rfl⟩
    · exact .inl ⟨h1, q⟩
    · exact .inr ⟨i, j, h1, h2, q⟩
  | isn =>
    refine OpR.imp (OpR.or op_notN op_notBl) fun x y H Q ⟨m, s, a, b, k, st, ra, rb, e, q⟩ => ?_
    obtain ⟨k', e', rfl⟩ := Option.map_eq_some_iff.mp e
    rcases isD_v ra rb e' with ⟨h1, rfl⟩ | ⟨i, j, h1, h2, rfl⟩
    · exact .inl ⟨h1, q⟩
    · exact .inr ⟨i, j, h1, h2, q⟩
  | inn =>
    refine OpR.imp (OpR.or op_in_seq (op_inD hu)) fun x y H Q ⟨m, s, a, b, k, st, ra, rb, e, q⟩ => ?_
    rcases inD_v st ra rb e with ⟨p, xs, h1, h2, h3, h4, rfl⟩ | ⟨d, ds, h1, h2, h3, h4, rfl⟩
    · exact .inl ⟨p, xs, h1, h2, h3, h4, q⟩
    · exact .inr ⟨d, ds, h1, h2, h3, h4, q⟩
  | nin =>
    refine OpR.imp (OpR.or op_notIn_seq (op_notInD hu)) fun x y H Q ⟨m, s, a, b, k, st, ra, rb, e, q⟩ => ?_
    obtain ⟨k', e', rfl⟩ := Option.map_eq_some_iff.mp e
    rcases inD_v st ra rb e' with ⟨p, xs, h1, h2, h3, h4, rfl⟩ | ⟨d, ds, h1, h2, h3, h4, rfl⟩
    · exact .inl ⟨p, xs, h1, h2, h3, h4, q⟩
    · exact .inr ⟨d, ds, h1, h2, h3, h4, q⟩
  | lt =>
    refine OpR.imp (OpR.or op_lt op_lt_str) fun x y H Q ⟨m, s, a, b, k, st, ra, rb, e, q⟩ => ?_
    have e' := e
    dsimp only [cmpO, ltD, leD, gtD, geD] at e'
    split at e' <;> first | (cases ra; cases rb; cases e'; first | exact .inl ⟨_, _, rfl, rfl, q⟩ | exact .inr ⟨_, _, rfl, rfl, q⟩) | contradiction
  | le =>
    refine OpR.imp op_le fun x y H Q ⟨m, s, a, b, k, st, ra, rb, e, q⟩ => ?_
    have e' := e
    dsimp only [cmpO, ltD, leD, gtD, geD] at e'
    split at e' <;> first | (cases ra; cases rb; cases e'; exact ⟨_, _, rfl, rfl, q⟩) | contradiction
  | gt =>
    refine OpR.imp op_gt fun x y H Q ⟨m, s, a, b, k, st, ra, rb, e, q⟩ => ?_
    have e' := e
    dsimp only [cmpO, ltD, leD, gtD, geD] at e'
    split at e' <;> first | (cases ra; cases rb; cases e'; exact ⟨_, _, rfl, rfl, q⟩) | contradiction
  | ge =>
    refine OpR.imp op_ge fun x y H Q ⟨m, s, a, b, k, st, ra, rb, e, q⟩ => ?_
    have e' := e
    dsimp only [cmpO, ltD, leD, gtD, geD] at e'
    split at e' <;> first | (cases ra; cases rb; cases e'; exact ⟨_, _, rfl, rfl, q⟩) | contradiction
end
end
end DI

set_option Elab.async false
set_option linter.all false
set_option maxRecDepth 100000
set_option maxHeartbeats 4000000
/-! DI 5: subscripts, slices, built-ins, isinstance, methods. -/
namespace DI
open PySem PySem.Spec PyProof.Rows L2
/-- values one by one, held or not -/
inductive Rpz (w : World) (K : PySem.W.Frag) (m : List Addr) (H : Hp) : List D → List V → Prop
  | nil : Rpz w K m H [] []
  | cons {d ds v vs} : Rp w K m H d v → Rpz w K m H ds vs → Rpz w K m H (d :: ds) (v :: vs)
section
variable {w : World} {K : PySem.W.Frag} {W : WX} {σ : L2.St} {m m' : List Addr} {H H' : Hp} {s : S} {Q : VK}
theorem Rpz.mono (e : Ex m H m' H') : ∀ {ds vs}, Rpz w K m H ds vs → Rpz w K m' H' ds vs
  | _, _, .nil => .nil
  | _, _, .cons h r => .cons (h.mono e) (Rpz.mono e r)
theorem Rps.z : ∀ {ds : List D} {vs : List V}, Rps w K m H ds vs → Rpz w K m H ds vs
  | _, _, .nil => .nil
  | _, _, .cons _ h r => .cons h (Rps.z r)
theorem ixD_ok {a b : D} {x y : V} (st : StOk w K m H s) (ra : Rp w K m H a x) (rb : Rp w K m H b y) (p : PostE w K W σ m H Q (ixD a b s)) : rIx K x y H Q := by
  unfold ixD at p
  split at p
  · split at p
    · rename_i hz
      split at p
      · rename_i c e
        cases ra; cases rb
        exact .inr (.inr ⟨_, _, c, rfl, rfl, hz, e, post_same p st (.str _) rfl⟩)
      · exact p.elim
    · exact p.elim
  · split at p
    · rename_i xs e
      obtain ⟨a, vs, rfl, sq, rs⟩ := seqOf_sq st ra e
      split at p
      · rename_i d e2
        obtain ⟨v, e3, rd, hs⟩ := rs.at_ e2
        cases rb
        have q := post_same p st rd hs
        rcases sq with sq | sq
        · exact .inl ⟨_, _, _, v, rfl, rfl, sq, e3, q⟩
        · exact .inr (.inl ⟨_, _, _, v, rfl, rfl, sq, e3, q⟩)
      · exact p.elim
    · exact p.elim
  · exact p.elim
theorem cut_v {xs : List D} {vs : List V} (r : Rps w K m H xs vs) (lo hi : Option Int) : Rps w K m H (cutD xs lo hi) (cutV vs lo hi) := by
  unfold cutD cutV
  rw [r.length]
  exact (r.drop _).take _
def rSlD (K : PySem.W.Frag) : V → Option Int → Option Int → Hp → VK → Prop := fun x lo hi H Q => rSlA K x lo hi H Q ∨ rSlL K x lo hi H Q
theorem sl_D {X : Cx} : SlR X (rSlD X.K) := sl_tupA.or sl_list
theorem cut_whole {xs : List D} {lo hi : Option Int} (h : HT.sIx xs.length 0 lo = 0 ∧ HT.sIx xs.length xs.length hi = xs.length) : cutD xs lo hi = xs := by
  unfold cutD
  rw [h.1, h.2]
  simp
theorem slD_ok {a : D} {x : V} {lo hi : Option Int} (st : StOk w K m H s) (ra : Rp w K m H a x) (p : PostE w K W σ m H Q (slD a lo hi s)) : rSlD K x lo hi H Q := by
  unfold slD at p
  split at p
  · cases ra with
    | tup ha r1 =>
      refine .inl ⟨_, _, rfl, ha.sq, fun h => ?_, fun _ => post_tup p st (cut_v r1 lo hi)⟩
      rw [r1.length] at h
      rw [cut_whole h] at p
      exact post_same p st (.tup ha r1) rfl
  · split at p
    · rename_i xs e
      obtain ⟨a, vs, rfl, sq, rs⟩ := lstOf_sq st ra e
      exact .inr ⟨_, _, rfl, sq, post_lst p st (cut_v rs lo hi)⟩
    · exact p.elim
/-! ### numbers in lists -/
theorem maxL_is : ∀ {ns : List Int}, ns ≠ [] → maxL ns ∈ ns ∧ ∀ y ∈ ns, y ≤ maxL ns
  | [i], _ => ⟨by simp [maxL], by simp [maxL]⟩
  | i :: j :: r, _ => by
    have ih := maxL_is (ns := j :: r) (by simp)
    obtain ⟨h1, h2⟩ := ih
    unfold maxL
    simp only
    by_cases c : i < maxL (j :: r)
    · rw [if_pos c]
      exact ⟨List.mem_cons_of_mem _ h1, fun y hy => by
        rcases List.mem_cons.mp hy with z | z
        · subst z; omega
        · exact h2 y z⟩
    · rw [if_neg c]
      exact ⟨List.mem_cons_self, fun y hy => by
        rcases List.mem_cons.mp hy with z | z
        · subst z; omega
        · have := h2 y z; omega⟩
theorem minL_is : ∀ {ns : List Int}, ns ≠ [] → minL ns ∈ ns ∧ ∀ y ∈ ns, minL ns ≤ y
  | [i], _ => ⟨by simp [minL], by simp [minL]⟩
  | i :: j :: r, _ => by
    have ih := minL_is (ns := j :: r) (by simp)
    obtain ⟨h1, h2⟩ := ih
    unfold minL
    simp only
    by_cases c : minL (j :: r) < i
    · rw [if_pos c]
      exact ⟨List.mem_cons_of_mem _ h1, fun y hy => by
        rcases List.mem_cons.mp hy with z | z
        · subst z; omega
        · exact h2 y z⟩
    · rw [if_neg c]
      exact ⟨List.mem_cons_self, fun y hy => by
        rcases List.mem_cons.mp hy with z | z
        · subst z; omega
        · have := h2 y z; omega⟩
theorem sort_is (ns : List Int) : (ns.mergeSort fun a b => decide (a ≤ b)).Pairwise (· ≤ ·) := by
  have h := List.pairwise_mergeSort (le := fun a b : Int => decide (a ≤ b)) (fun a b c => by simp; omega) (fun a b => by simp; omega) ns
  exact h.imp fun {a b} h => by simpa using h
theorem sort_the {ns ms : List Int} (hp : ms.Perm ns) (h : ms.Pairwise (· ≤ ·)) : ms = ns.mergeSort fun a b => decide (a ≤ b) :=
  PySem.W.ksm_same (hp.trans (List.mergeSort_perm ns _).symm) h (sort_is ns)
theorem nodup_erase : ∀ (n : Nat) (ns : List Int), ns.length ≤ n → ns.eraseDups.Nodup
  | _, [], _ => by simp
  | 0, _ :: _, h => by simp at h
  | n + 1, a :: as, h => by
    rw [List.eraseDups_cons, List.nodup_cons]
    refine ⟨fun hm => ?_, nodup_erase n _ ?_⟩
    · rw [List.mem_eraseDups, List.mem_filter] at hm
      simp at hm
    · have := List.length_filter_le (fun b => !b == a) as
      simp at h
      omega
theorem set_the {ns ms : List Int} (h : ms.Pairwise (· < ·)) (hm : ∀ k, k ∈ ms ↔ k ∈ ns) : ms = ns.eraseDups.mergeSort fun a b => decide (a ≤ b) := by
  refine sort_the ?_ (h.imp fun {a b} z => Int.le_of_lt z)
  refine (List.perm_ext_iff_of_nodup (h.imp fun {a b} z => by omega) (nodup_erase _ ns (Nat.le_refl _))).mpr fun k => ?_
  rw [hm k, List.mem_eraseDups]
/-! ### built-ins -/
def rLenD (K : PySem.W.Frag) : List V → Hp → VK → Prop := fun xs H Q => (∃ p ys, xs = [.ref p] ∧ (SqL K H p ys ∨ SqT K H p ys) ∧ Q (.int ys.length) H) ∨ (∃ z, xs = [.str z] ∧ z.length ≤ sizeLine ∧ Q (.int z.length) H)
def rSortedD (w : World) (K : PySem.W.Frag) : List V → Hp → VK → Prop := fun xs H Q => rSortedI K xs H Q ∨ rSortedSet w xs H Q
def rSetT (w : World) (K : PySem.W.Frag) : List V → Hp → VK → Prop := fun xs H Q => ∃ (p : Addr) (ns : List Int), xs = [.ref p] ∧ SqT K H p (ns.map V.int) ∧ ns.length + 1 < scanBound ∧
  ∀ (a : Addr) (c : Nat), H a = none → c ≤ ns.length → Q (.ref a) (upd H a (SetO w a (fun j => decide (j ∈ ns)) c))
section
variable {X : Cx}
theorem cr_len : CallR X (.builtin "len") (rLenD X.K) := call_len_seq.or call_len_str
theorem cr_sortedD (hc : X.calm = true) : CallR X (.builtin "sorted") (rSortedD X.w X.K) := cr_sortedI.or (cr_sortedSet hc)
theorem cr_set (hc : X.calm = true) : CallR X (.type "set") (rSetT X.w X.K) := by
  intro pins s σ H vs us Q I r h
  obtain ⟨p, ns, rfl, ha, hb, q⟩ := h
  obtain ⟨its, rv, ⟨o, e, hcl, n, hd⟩, hz⟩ := I.tuple ha
  rw [Vals.ref1 r]
  refine call_set_tupI (items := its.toArray) ns (I.ok.hd hc) ⟨o, e, hcl, n, hd⟩ (by simpa using Vals.ints rv) hb fun h' tk c R hcn hk => ?_
  exact ⟨.ref s.heap.objs.size, _, I.laid (t' := tk) hk (Nat.le_refl _) (setO_new R), rfl, q _ c (I.hok.fresh (Nat.le_refl _)) hcn⟩
/-- the built-ins: functions, types -/
def bltOf : Blt → Str × Value
  | .len => ("len", .builtin "len") | .sum => ("sum", .builtin "sum") | .max => ("max", .builtin "max") | .min => ("min", .builtin "min")
  | .all => ("all", .builtin "all") | .any => ("any", .builtin "any") | .sorted => ("sorted", .builtin "sorted")
  | .tuple => ("tuple", .type "tuple") | .list => ("list", .type "list") | .set => ("set", .type "set") | .int => ("int", .type "int") | .str => ("str", .type "str")
def rBlt (w : World) (K : PySem.W.Frag) : Blt → List V → Hp → VK → Prop
  | .len => rLenD K
  | .sum => rSum K
  | .max => rMax K
  | .min => rMin K
  | .all => rAll K
  | .any => rAny K
  | .sorted => rSortedD w K
  | .tuple => fun xs H Q => ∃ p ys, xs = [.ref p] ∧ ((SqL K H p ys ∧ ∀ l, H l = none → Q (.ref l) (upd H l (.tup ys))) ∨ (SqT K H p ys ∧ Q (.ref p) H))
  | .list => fun xs H Q => ∃ p ys, xs = [.ref p] ∧ (SqL K H p ys ∨ SqT K H p ys) ∧ ∀ l, H l = none → Q (.ref l) (upd H l (.lst ys))
  | .set => rSetT w K
  | .int => fun xs H Q => (∃ i, xs = [.int i] ∧ Q (.int i) H) ∨ ∃ k, xs = [.bl k] ∧ Q (.int (if k then 1 else 0)) H
  | .str => fun xs H Q => ∃ i, xs = [.int i] ∧ i.natAbs.log2 < 1920 ∧ Q (.str (toString i)) H
theorem cr_blt (hc : X.calm = true) (b : Blt) : CallR X (bltOf b).2 (rBlt X.w X.K b) := by
  cases b with
  | len => exact cr_len
  | sum => exact cr_sum hc
  | max => exact cr_max hc
  | min => exact cr_min hc
  | all => exact cr_all hc
  | any => exact cr_any hc
  | sorted => exact cr_sortedD hc
  | tuple => exact call_tuple_of
  | list => exact call_list_of
  | set => exact cr_set hc
  | int => exact call_int1
  | str => exact call_str_int
end
theorem opt_bind {α β : Type} {o : Option α} {f : α → Option β} {b : β} (h : o.bind f = some b) : ∃ a, o = some a ∧ f a = some b := Option.bind_eq_some_iff.mp h
theorem bltD_ok {b : Blt} {ds : List D} {vs : List V} (st : StOk w K m H s) (ra : Rpz w K m H ds vs) (p : PostE w K W σ m H Q (bltD b ds s)) : rBlt w K b vs H Q := by
  unfold bltD at p
  split at p
  -- len of a text
  · split at p
    · rename_i hz
      cases ra with | cons r t => cases t; cases r; exact .inr ⟨_, rfl, hz, post_same p st (.int _) rfl⟩
    · exact p.elim
  · split at p
    · rename_i xs e
      cases ra with | cons r t =>
      cases t
      obtain ⟨a, us, rfl, sq, rs⟩ := seqOf_sq st r e
      exact .inl ⟨_, _, rfl, sq, by rw [rs.length]; exact post_same p st (.int _) rfl⟩
    · exact p.elim
  -- sum
  · split at p
    · rename_i ns e
      cases ra with | cons r t =>
      cases t
      obtain ⟨xs, e1, e2⟩ := opt_bind e
      obtain ⟨a, us, rfl, sq, rs⟩ := lstOf_sq st r e1
      obtain ⟨rfl, _⟩ := intsD_v rs e2
      exact ⟨_, _, rfl, sq, post_same p st (.int _) rfl⟩
    · exact p.elim
  -- max
  · split at p
    · rename_i ns e
      cases ra with | cons r t =>
      cases t
      obtain ⟨xs, e1, e2⟩ := opt_bind e
      obtain ⟨a, us, rfl, sq, rs⟩ := lstOf_sq st r e1
      obtain ⟨rfl, _⟩ := intsD_v rs e2
      split at p
      · rename_i hn
        refine ⟨_, _, rfl, sq, List.length_pos_iff.mpr hn, fun k h1 h2 => ?_⟩
        have z := maxL_is hn
        have e : k = maxL ns := Int.le_antisymm (z.2 k h1) (h2 _ z.1)
        rw [e]
        exact post_same p st (.int _) rfl
      · exact p.elim
    · exact p.elim
  -- min
  · split at p
    · rename_i ns e
      cases ra with | cons r t =>
      cases t
      obtain ⟨xs, e1, e2⟩ := opt_bind e
      obtain ⟨a, us, rfl, sq, rs⟩ := lstOf_sq st r e1
      obtain ⟨rfl, _⟩ := intsD_v rs e2
      split at p
      · rename_i hn
        refine ⟨_, _, rfl, sq, List.length_pos_iff.mpr hn, fun k h1 h2 => ?_⟩
        have z := minL_is hn
        have e : k = minL ns := Int.le_antisymm (h2 _ z.1) (z.2 k h1)
        rw [e]
        exact post_same p st (.int _) rfl
      · exact p.elim
    · exact p.elim
  -- all, any
  · split at p
    · rename_i ns e
      cases ra with | cons r t =>
      cases t
      obtain ⟨xs, e1, e2⟩ := opt_bind e
      obtain ⟨a, us, rfl, sq, rs⟩ := lstOf_sq st r e1
      obtain rfl := blsD_v rs e2
      exact ⟨_, _, rfl, sq, post_same p st (.bl _) rfl⟩
    · exact p.elim
  · split at p
    · rename_i ns e
      cases ra with | cons r t =>
      cases t
      obtain ⟨xs, e1, e2⟩ := opt_bind e
      obtain ⟨a, us, rfl, sq, rs⟩ := lstOf_sq st r e1
      obtain rfl := blsD_v rs e2
      exact ⟨_, _, rfl, sq, post_same p st (.bl _) rfl⟩
    · exact p.elim
  -- tuple
  · split at p
    · rename_i xs e
      cases ra with | cons r t =>
      cases t
      cases r with
      | tup ha rs => cases e; exact ⟨_, _, rfl, .inr ⟨ha.sq, post_same p st (.tup ha rs) rfl⟩⟩
      | lst h1 h2 h3 =>
        obtain ⟨a, us, e0, sq, rs⟩ := lstOf_sq st (.lst h1 h2 h3) e
        exact ⟨_, _, by rw [e0], .inl ⟨sq, post_tup p st rs⟩⟩
      | rol h1 h3 =>
        obtain ⟨a, us, e0, sq, rs⟩ := lstOf_sq st (.rol h1 h3) e
        exact ⟨_, _, by rw [e0], .inl ⟨sq, post_tup p st rs⟩⟩
      | ref h1 =>
        obtain ⟨a, us, e0, sq, rs⟩ := lstOf_sq st (.ref h1) e
        exact ⟨_, _, by rw [e0], .inl ⟨sq, post_tup p st rs⟩⟩
      | _ => cases e
    · exact p.elim
  -- list
  · split at p
    · rename_i xs e
      cases ra with | cons r t =>
      cases t
      obtain ⟨a, us, rfl, sq, rs⟩ := seqOf_sq st r e
      exact ⟨_, _, rfl, sq, post_lst p st rs⟩
    · exact p.elim
  -- sorted
  · split at p
    · rename_i hz
      cases ra with | cons r t =>
      cases t
      cases r with
      | ist h1 h2 h3 h4 =>
        refine .inr ⟨_, _, _, rfl, h1, by omega, fun ms q g1 g2 _ hq => ?_⟩
        have e := set_the g1 fun k => (g2 k).trans (by rw [h3 k]; exact decide_eq_true_iff)
        rw [e]
        exact post_lst p st (ints_rps _) q hq
    · exact p.elim
  · split at p
    · rename_i ns e
      cases ra with | cons r t =>
      cases t
      obtain ⟨xs, e1, e2⟩ := opt_bind e
      obtain ⟨a, us, rfl, sq, rs⟩ := lstOf_sq st r e1
      obtain ⟨rfl, _⟩ := intsD_v rs e2
      refine .inl ⟨_, _, rfl, sq, fun ms q g1 g2 hq => ?_⟩
      rw [sort_the g1 g2]
      exact post_lst p st (ints_rps _) q hq
    · exact p.elim
  -- set
  · split at p
    · rename_i ns e
      split at p
      · rename_i hz
        cases ra with | cons r t =>
        cases t
        cases r with
        | tup ha rs =>
          obtain ⟨rfl, _⟩ := intsD_v rs e
          refine ⟨_, _, rfl, ha.sq, hz, fun a c hn hc => ?_⟩
          exact p m _ _ (.new st hn) (st.new hn) (.ist upd_same (st.nin hn) (fun _ => rfl) hc) fun _ => ⟨a, rfl, hn⟩
      · exact p.elim
    · exact p.elim
  -- int, str
  · cases ra with | cons r t => cases t; cases r; exact .inl ⟨_, rfl, post_same p st (.int _) rfl⟩
  · split at p
    · rename_i hz
      cases ra with | cons r t => cases t; cases r; exact ⟨_, rfl, hz, post_same p st (.str _) rfl⟩
    · exact p.elim
  · exact p.elim
/-! ### isinstance -/
def tyNm : Ty → String
  | .int => "int" | .bool => "bool" | .str => "str" | .tuple => "tuple" | .list => "list" | .dict => "dict"
theorem kit_all (t : Ty) : PySem.W.kitOne K (.type "NoneType") (.type (tyNm t)) = some false ∧ PySem.W.kitOne K (.type "bool") (.type (tyNm t)) = some (t == .bool || t == .int) ∧ PySem.W.kitOne K (.type "int") (.type (tyNm t)) = some (t == .int) ∧
    PySem.W.kitOne K (.type "str") (.type (tyNm t)) = some (t == .str) ∧ PySem.W.kitOne K (.type "tuple") (.type (tyNm t)) = some (t == .tuple) ∧ PySem.W.kitOne K (.type "list") (.type (tyNm t)) = some (t == .list) := by
  cases t <;> exact ⟨kit_ty (by decide +kernel), kit_ty (by decide +kernel), kit_ty (by decide +kernel), kit_ty (by decide +kernel), kit_ty (by decide +kernel), kit_ty (by decide +kernel)⟩
theorem isT_v (st : StOk w K m H s) {d : D} {x : V} {t : Ty} {k : Bool} (r : Rp w K m H d x) (e : isT d t s = some k) : ∃ u, TyX K H x u ∧ PySem.W.kitOne K u (.type (tyNm t)) = some k := by
  obtain ⟨k1, k2, k3, k4, k5, k6⟩ := kit_all (K := K) t
  cases r with
  | non => cases e; exact ⟨_, .base .non, k1⟩
  | bl b => cases e; exact ⟨_, .base (.bl b), k2⟩
  | int b => cases e; exact ⟨_, .base (.int b), k3⟩
  | str b => cases e; exact ⟨_, .base (.str b), k4⟩
  | tup h rs =>
    cases e
    refine ⟨_, ?_, k5⟩
    rcases h with ⟨h | ⟨o, h⟩, _⟩ | ⟨o, its, n, h1, h2, _⟩
    · exact .base (.tup h)
    · exact .fTuple h
    · exact .kTuple h1 h2
  | lst h _ _ => cases e; exact ⟨_, .base (.lst h), k6⟩
  | rol h rs =>
    cases e
    refine ⟨_, ?_, k6⟩
    rcases h with ⟨⟨o, h⟩, _⟩ | ⟨o, its, n, h1, h2, _⟩
    · exact .base (.frz h)
    · exact .kList h1 h2
  | ref h =>
    obtain ⟨xs, e1, rfl⟩ := Option.map_eq_some_iff.mp e
    obtain ⟨a, vs, e2, hl, _⟩ := mutOf_h st (.ref h) (xs := xs) e1
    cases e2
    exact ⟨_, .base (.lst hl), k6⟩
  | ist => cases e
end
end DI

set_option Elab.async false
set_option linter.all false
set_option maxRecDepth 100000
set_option maxHeartbeats 4000000
/-! DI 6: readings put together. -/
namespace DI
open PySem PySem.Spec PyProof.Rows L2
theorem PE.imp {X : Cx} {e : Expr} {t t' : TE} (h : PE X e t) (i : ∀ σ H Q, t' σ H Q → t σ H Q) : PE X e t' := ⟨fun pins s σ H Q I q => h.run pins s σ H Q I (i _ _ _ q)⟩
theorem PT.imp {X : Cx} {e : Expr} {t t' : TT} (h : PT X e t) (i : ∀ σ H Q, t' σ H Q → t σ H Q) : PT X e t' := ⟨fun pins s σ H Q I q => h.run pins s σ H Q I (i _ _ _ q)⟩
theorem PW.imp {X : Cx} {e : Expr} {t t' : TT} (h : PW X e t) (i : ∀ σ H Q, t' σ H Q → t σ H Q) : PW X e t' := ⟨fun wh pins s σ H Q I q => h.run wh pins s σ H Q I (i _ _ _ q)⟩
theorem PA.imp {X : Cx} {e : List Expr} {t t' : TA} (h : PA X e t) (i : ∀ σ H Q, t' σ H Q → t σ H Q) : PA X e t' := ⟨fun ps pins s σ H Q I q => h.run ps pins s σ H Q I (i _ _ _ q)⟩
theorem PO.imp {X : Cx} {e : Option Expr} {t t' : TO} (h : PO X e t) (i : ∀ σ H Q, t' σ H Q → t σ H Q) : PO X e t' := ⟨fun pins s σ H Q I q => h.run pins s σ H Q I (i _ _ _ q)⟩
theorem PS.imp {X : Cx} {e : Stmt} {t t' : TS} (h : PS X e t) (i : ∀ D σ H, t' D σ H → t D σ H) : PS X e t' := ⟨fun pins s σ H D I q => h.run pins s σ H D I (i _ _ _ q)⟩
theorem PSs.imp {X : Cx} {e : List Stmt} {t t' : TS} (h : PSs X e t) (i : ∀ D σ H, t' D σ H → t D σ H) : PSs X e t' := ⟨fun pins s σ H D I q => h.run pins s σ H D I (i _ _ _ q)⟩
theorem PI.imp {X : Cx} {tg e : Expr} {t t' : TI} (h : PI X tg e t) (i : ∀ σ H Q, t' σ H Q → t σ H Q) : PI X tg e t' := ⟨fun pins s σ H Q I q => h.run pins s σ H Q I (i _ _ _ q)⟩
theorem PG.imp {X : Cx} {e : Expr} {t t' : TG} (h : PG X e t) (i : ∀ v σ H Q, t' v σ H Q → t v σ H Q) : PG X e t' := ⟨fun pins s σ H v u Q I r q => h.run pins s σ H v u Q I r (i _ _ _ _ q)⟩
theorem PE.bad {X : Cx} {e : Expr} : PE X e (fun _ _ _ => False) := ⟨fun _ _ _ _ _ _ q => q.elim⟩
/-- what is wanted of a result, whatever its kind -/
structure Pk (w : World) (K : PySem.W.Frag) (W : WX) (σ : L2.St) {α : Type} (P : List Addr → Hp → R α → Prop) : Prop where
  exc : ∀ {m H C fs s'}, P m H (.exc C fs s') → ∀ m' H' dx, Ex m H m' H' → StOk w K m' H' s' → ExcAt w K m' H' dx fs → W (.ref (He.ga K C)) (some dx) σ H'
  bad : ∀ {m H}, ¬ P m H .bad
  mono : ∀ {m H m1 H1 s1 r}, Ex m H m1 H1 → StOk w K m1 H1 s1 → P m H r → P m1 H1 r
/-- built-in arguments -/
def PostZ (w : World) (K : PySem.W.Frag) (W : WX) (σ : L2.St) (m : List Addr) (H : Hp) (Q : List V → Hp → Prop) : R (List D) → Prop
  | .ok ds s' => ∀ m' vs H', Ex m H m' H' → StOk w K m' H' s' → Rpz w K m' H' ds vs → Q vs H'
  | .exc C fs s' => ∀ m' H' dx, Ex m H m' H' → StOk w K m' H' s' → ExcAt w K m' H' dx fs → W (.ref (He.ga K C)) (some dx) σ H'
  | .bad => False
def PostO (w : World) (K : PySem.W.Frag) (W : WX) (σ : L2.St) (m : List Addr) (H : Hp) (Q : Option Int → Hp → Prop) : R (Option Int) → Prop
  | .ok o s' => ∀ m' H', Ex m H m' H' → StOk w K m' H' s' → Q o H'
  | .exc C fs s' => ∀ m' H' dx, Ex m H m' H' → StOk w K m' H' s' → ExcAt w K m' H' dx fs → W (.ref (He.ga K C)) (some dx) σ H'
  | .bad => False
/-- a walk over items -/
structure WalkD (w : World) (K : PySem.W.Frag) (m0 : List Addr) (H0 : Hp) (J : It) (I : Its) : Prop where
  go : ∀ i m H s, i < I.xs.length → Ex m0 H0 m H → StOk w K m H s → I.ok s = true → J.go i H
  yld : ∀ i m H s v H', i < I.xs.length → Ex m0 H0 m H → StOk w K m H s → I.ok s = true → J.yld i H v H' → ∃ d, I.xs[i]? = some d ∧ d.shr = true ∧ Ex m H m H' ∧ StOk w K m H' s ∧ Rp w K m H' d v
  stop : ∀ m H s, Ex m0 H0 m H → StOk w K m H s → I.ok s = true → J.stop I.xs.length H
def PostI (w : World) (K : PySem.W.Frag) (W : WX) (σ : L2.St) (m : List Addr) (H : Hp) (Q : It → Hp → Prop) : R Its → Prop
  | .ok I s' => ∀ m' H' J, Ex m H m' H' → StOk w K m' H' s' → WalkD w K m' H' J I → Q J H'
  | .exc C fs s' => ∀ m' H' dx, Ex m H m' H' → StOk w K m' H' s' → ExcAt w K m' H' dx fs → W (.ref (He.ga K C)) (some dx) σ H'
  | .bad => False
def tZ (w : World) (K : PySem.W.Frag) (W : WX) (pr : Option Hdp) (f : En → S → R (List D)) : TA := fun σ H Q => ∃ m ρ s, Rst w K pr m ρ s σ H ∧ PostZ w K W σ m H Q (f ρ s)
def tO (w : World) (K : PySem.W.Frag) (W : WX) (pr : Option Hdp) (f : En → S → R (Option Int)) : TO := fun σ H Q => ∃ m ρ s, Rst w K pr m ρ s σ H ∧ PostO w K W σ m H Q (f ρ s)
def tI (w : World) (K : PySem.W.Frag) (W : WX) (pr : Option Hdp) (f : En → S → R Its) : TI := fun σ H Q => ∃ m ρ s, Rst w K pr m ρ s σ H ∧ PostI w K W σ m H Q (f ρ s)
section
variable {w : World} {K : PySem.W.Frag} {W : WX} {pr : Option Hdp} {σ : L2.St} {m : List Addr} {H : Hp} {s : S} {ρ : En} {α : Type} {P : List Addr → Hp → R α → Prop}
theorem pkE {Q : VK} : Pk w K W σ (fun m H => PostE w K W σ m H Q) := ⟨fun h => h, fun h => h, fun e t p => p.mono e t⟩
theorem pkT {Q : Bool → Hp → Prop} : Pk w K W σ (fun m H => PostT w K W σ m H Q) := ⟨fun h => h, fun h => h, fun e t p => p.mono e⟩
theorem pkA {Q : List V → Hp → Prop} : Pk w K W σ (fun m H => PostA w K W σ m H Q) := ⟨fun h => h, fun h => h, fun e t p => p.mono e⟩
theorem pkZ {Q : List V → Hp → Prop} : Pk w K W σ (fun m H => PostZ w K W σ m H Q) := ⟨fun h => h, fun h => h, fun {m H m1 H1 s1 r} e t p => by
  cases r with
  | ok d s' => exact fun m' v H' e' h' => p m' v H' (e.trans e') h'
  | exc C fs s' => exact fun m' H' dx e' h' x => p m' H' dx (e.trans e') h' x
  | bad => exact p⟩
theorem pkO {Q : Option Int → Hp → Prop} : Pk w K W σ (fun m H => PostO w K W σ m H Q) := ⟨fun h => h, fun h => h, fun {m H m1 H1 s1 r} e t p => by
  cases r with
  | ok d s' => exact fun m' H' e' h' => p m' H' (e.trans e') h'
  | exc C fs s' => exact fun m' H' dx e' h' x => p m' H' dx (e.trans e') h' x
  | bad => exact p⟩
theorem pkI {Q : It → Hp → Prop} : Pk w K W σ (fun m H => PostI w K W σ m H Q) := ⟨fun h => h, fun h => h, fun {m H m1 H1 s1 r} e t p => by
  cases r with
  | ok d s' => exact fun m' H' J e' h' => p m' H' J (e.trans e') h'
  | exc C fs s' => exact fun m' H' dx e' h' x => p m' H' dx (e.trans e') h' x
  | bad => exact p⟩
/-- an expression, then what follows -/
theorem bE {f : En → S → R D} {g : D → S → R α} {k : V → Hp → Prop} (hP : Pk w K W σ P) (R₀ : Rst w K pr m ρ s σ H) (h : P m H ((f ρ s).bind g))
    (hk : ∀ d s1 m1 v H1, P m1 H1 (g d s1) → Ex m H m1 H1 → Rst w K pr m1 ρ s1 σ H1 → Rp w K m1 H1 d v → Fresh H d v → k v H1) : tD w K W pr f σ H k := by
  refine ⟨m, ρ, s, R₀, ?_⟩
  cases q : f ρ s with
  | ok d s1 =>
    rw [q] at h
    exact fun m1 v H1 e st rp fr => hk d s1 m1 v H1 (hP.mono e st h) e (R₀.mono e st) rp fr
  | exc C fs s' => rw [q] at h; exact hP.exc h
  | bad => rw [q] at h; exact hP.bad h
theorem bT {f : En → S → R Bool} {g : Bool → S → R α} {k : Bool → Hp → Prop} (hP : Pk w K W σ P) (R₀ : Rst w K pr m ρ s σ H) (h : P m H ((f ρ s).bind g))
    (hk : ∀ d s1 m1 H1, P m1 H1 (g d s1) → Ex m H m1 H1 → Rst w K pr m1 ρ s1 σ H1 → k d H1) : tT w K W pr f σ H k := by
  refine ⟨m, ρ, s, R₀, ?_⟩
  cases q : f ρ s with
  | ok d s1 =>
    rw [q] at h
    exact fun m1 H1 e st => hk d s1 m1 H1 (hP.mono e st h) e (R₀.mono e st)
  | exc C fs s' => rw [q] at h; exact hP.exc h
  | bad => rw [q] at h; exact hP.bad h
theorem bA {f : En → S → R (List D)} {g : List D → S → R α} {k : List V → Hp → Prop} (hP : Pk w K W σ P) (R₀ : Rst w K pr m ρ s σ H) (h : P m H ((f ρ s).bind g))
    (hk : ∀ ds s1 m1 vs H1, P m1 H1 (g ds s1) → Ex m H m1 H1 → Rst w K pr m1 ρ s1 σ H1 → Rps w K m1 H1 ds vs → k vs H1) : tA w K W pr f σ H k := by
  refine ⟨m, ρ, s, R₀, ?_⟩
  cases q : f ρ s with
  | ok d s1 =>
    rw [q] at h
    exact fun m1 v H1 e st rp => hk d s1 m1 v H1 (hP.mono e st h) e (R₀.mono e st) rp
  | exc C fs s' => rw [q] at h; exact hP.exc h
  | bad => rw [q] at h; exact hP.bad h
theorem bZ {f : En → S → R (List D)} {g : List D → S → R α} {k : List V → Hp → Prop} (hP : Pk w K W σ P) (R₀ : Rst w K pr m ρ s σ H) (h : P m H ((f ρ s).bind g))
    (hk : ∀ ds s1 m1 vs H1, P m1 H1 (g ds s1) → Ex m H m1 H1 → Rst w K pr m1 ρ s1 σ H1 → Rpz w K m1 H1 ds vs → k vs H1) : tZ w K W pr f σ H k := by
  refine ⟨m, ρ, s, R₀, ?_⟩
  cases q : f ρ s with
  | ok d s1 =>
    rw [q] at h
    exact fun m1 v H1 e st rp => hk d s1 m1 v H1 (hP.mono e st h) e (R₀.mono e st) rp
  | exc C fs s' => rw [q] at h; exact hP.exc h
  | bad => rw [q] at h; exact hP.bad h
theorem bO {f : En → S → R (Option Int)} {g : Option Int → S → R α} {k : Option Int → Hp → Prop} (hP : Pk w K W σ P) (R₀ : Rst w K pr m ρ s σ H) (h : P m H ((f ρ s).bind g))
    (hk : ∀ o s1 m1 H1, P m1 H1 (g o s1) → Ex m H m1 H1 → Rst w K pr m1 ρ s1 σ H1 → k o H1) : tO w K W pr f σ H k := by
  refine ⟨m, ρ, s, R₀, ?_⟩
  cases q : f ρ s with
  | ok d s1 =>
    rw [q] at h
    exact fun m1 H1 e st => hk d s1 m1 H1 (hP.mono e st h) e (R₀.mono e st)
  | exc C fs s' => rw [q] at h; exact hP.exc h
  | bad => rw [q] at h; exact hP.bad h
theorem bI {f : En → S → R Its} {g : Its → S → R α} {k : It → Hp → Prop} (hP : Pk w K W σ P) (R₀ : Rst w K pr m ρ s σ H) (h : P m H ((f ρ s).bind g))
    (hk : ∀ I s1 m1 J H1, P m1 H1 (g I s1) → Ex m H m1 H1 → Rst w K pr m1 ρ s1 σ H1 → WalkD w K m1 H1 J I → k J H1) : tI w K W pr f σ H k := by
  refine ⟨m, ρ, s, R₀, ?_⟩
  cases q : f ρ s with
  | ok d s1 =>
    rw [q] at h
    exact fun m1 H1 J e st rp => hk d s1 m1 J H1 (hP.mono e st h) e (R₀.mono e st) rp
  | exc C fs s' => rw [q] at h; exact hP.exc h
  | bad => rw [q] at h; exact hP.bad h
/-- to be held -/
theorem setl_ok {m0 : List Addr} {H0 : Hp} {d d' : D} {v : V} {s' : S} (e : Ex m0 H0 m H) (st : StOk w K m H s) (r : Rp w K m H d v) (fr : Fresh H0 d v) (h : setl d s = .ok d' s') :
    ∃ m', Ex m0 H0 m' H ∧ StOk w K m' H s' ∧ Rp w K m' H d' v ∧ d'.shr = true ∧ (∀ {d v}, d.shr = true → Rp w K m H d v → Rp w K m' H d v) ∧ (∀ {a : Addr}, (H0 a ≠ none → a ∉ m → a ∉ m')) ∧ (∀ a, a ∈ m' → a ∈ m ∨ ∃ vs, H a = some (.lst vs)) := by
  cases d with
  | lst xs =>
    cases h
    cases r with
    | @lst ds vs a h1 h2 h3 =>
      obtain ⟨b, e1, e2⟩ := fr rfl
      cases e1
      refine ⟨m ++ [a], e.settle e2, st.settle h1 h2 h3, .ref ?_, rfl, fun z q => q.settle h1 z, fun {c} hc hm hm' => ?_, fun c hc => ?_⟩
      · rw [← st.len]; simp
      · rcases List.mem_append.mp hm' with z | z
        · exact hm z
        · simp at z; subst z; exact hc e2
      · rcases List.mem_append.mp hc with z | z
        · exact .inl z
        · simp at z; subst z; exact .inr ⟨_, h1⟩
  | ist xs => cases h
  | non => cases h; exact ⟨m, e, st, r, rfl, fun _ q => q, fun _ z => z, fun _ z => .inl z⟩
  | bl b => cases h; exact ⟨m, e, st, r, rfl, fun _ q => q, fun _ z => z, fun _ z => .inl z⟩
  | int b => cases h; exact ⟨m, e, st, r, rfl, fun _ q => q, fun _ z => z, fun _ z => .inl z⟩
  | str b => cases h; exact ⟨m, e, st, r, rfl, fun _ q => q, fun _ z => z, fun _ z => .inl z⟩
  | tup b => cases h; exact ⟨m, e, st, r, rfl, fun _ q => q, fun _ z => z, fun _ z => .inl z⟩
  | ref b => cases h; exact ⟨m, e, st, r, rfl, fun _ q => q, fun _ z => z, fun _ z => .inl z⟩
  | rol b => cases h; exact ⟨m, e, st, r, rfl, fun _ q => q, fun _ z => z, fun _ z => .inl z⟩
theorem setl_exc {d : D} {C fs} {s' : S} (h : setl d s = .exc C fs s') : False := by
  cases d <;> cases h
/-- the slots behind it -/
theorem Rst.setl {m' : List Addr} (R₀ : Rst w K pr m ρ s σ H) {s' : S} (st : StOk w K m' H s') (k : ∀ {d v}, d.shr = true → Rp w K m H d v → Rp w K m' H d v) (hm : ∀ a, a ∈ m' → a ∈ m ∨ ∃ vs, H a = some (.lst vs)) : Rst w K pr m' ρ s' σ H := by
  refine ⟨st, R₀.len, fun i d e => ?_, fun p e => ?_⟩
  · obtain ⟨a, v, b, c⟩ := R₀.at_ i d e
    exact ⟨a, v, b, k a c⟩
  · obtain ⟨a, ⟨vs, b, c⟩, n⟩ := R₀.pin p e
    refine ⟨a, ⟨vs, b, ?_⟩, fun z => ?_⟩
    · have key : ∀ {fs vs}, Fs w K m H fs vs → Fs w K m' H fs vs := by
        intro fs vs h
        induction h with
        | nil => exact .nil
        | cons h1 h2 _ ih => exact .cons h1 (k h1 h2) ih
      exact key c
    · rcases hm _ z with z | ⟨us, z⟩
      · exact n z
      · rw [b] at z; cases z
/-- both -/
theorem setl_rst {m0 : List Addr} {H0 : Hp} {d d' : D} {v : V} {s' : S} (e : Ex m0 H0 m H) (R₀ : Rst w K pr m ρ s σ H) (r : Rp w K m H d v) (fr : Fresh H0 d v) (h : setl d s = .ok d' s') :
    ∃ m', Ex m0 H0 m' H ∧ Rst w K pr m' ρ s' σ H ∧ Rp w K m' H d' v ∧ d'.shr = true ∧ (∀ {d v}, d.shr = true → Rp w K m H d v → Rp w K m' H d v) ∧ (∀ {a : Addr}, (H0 a ≠ none → a ∉ m → a ∉ m')) := by
  obtain ⟨m', e1, st, r1, h1, k, k2, k3⟩ := setl_ok e R₀.st r fr h
  exact ⟨m', e1, R₀.setl st k k3, r1, h1, k, k2⟩
end
end DI

set_option Elab.async false
set_option linter.all false
set_option maxRecDepth 100000
set_option maxHeartbeats 4000000
/-! DI 7: that code over data is the text's. -/
namespace DI
open PySem PySem.Spec PyProof.Rows L2
/-- where one stands in the text: the slots, the scope that runs, which cells were made here, whether nothing is handled -/
structure Sc where
  N : List Str
  sc : Scope
  fn : Str → Bool
  calm : Bool
/-- what the module has: own defs with their parameters, constants, built-ins that it does not bind, own exceptions with their fields -/
structure Gs where
  fns : List (Str × Nat)
  cons : List Str
  free : List Str
  cls : List Str
def visB (sc : Scope) (x : Str) : Bool := match sc.names.lookup x with
  | some .local => true
  | some .cell => true
  | some .free => true
  | _ => false
def gloB (sc : Scope) (x : Str) : Bool := match sc.names.lookup x with
  | some .globalImplicit => true
  | _ => false
/-- may be stored here -/
def locB (S : Sc) (x : Str) : Bool := match S.sc.names.lookup x with
  | some .local => true
  | some .cell => S.fn x
  | _ => false
def nmB (x : Str) : Bool := !(x == ("__debug__" : Str)) && (!(x == ("__classdict__" : Str)) && !(x == ("__name__" : Str)))
def opB : BOp → Operator → Bool
  | .add, .Add => true | .sub, .Sub => true | .mul, .Mult => true | .fdiv, .FloorDiv => true | .mod, .Mod => true | .pow, .Pow => true
  | _, _ => false
def cmpB : COp → CmpOp → Bool
  | .eq, .Eq => true | .ne, .NotEq => true | .lt, .Lt => true | .le, .LtE => true | .gt, .Gt => true | .ge, .GtE => true
  | .isv, .Is => true | .isn, .IsNot => true | .inn, .In => true | .nin, .NotIn => true
  | _, _ => false
theorem opB_eq {o : BOp} {p : Operator} (h : opB o p = true) : p = opOf o := by
  cases o <;> cases p <;> first | rfl | cases h
theorem cmpB_eq {o : COp} {p : CmpOp} (h : cmpB o p = true) : p = cmpOf o := by
  cases o <;> cases p <;> first | rfl | cases h
def notStar : Expr → Bool
  | .Starred _ _ => false
  | _ => true
def notSlice : Expr → Bool
  | .Slice _ _ _ _ => false
  | _ => true
/-- no call of super() -/
def plainB : Expr → Bool
  | .Call (.Name _ _) [] [] _ => false
  | _ => true
/-- its test is its value's truth -/
def plainT : Expr → Bool
  | .UnaryOp _ _ _ => false
  | .BoolOp _ _ _ => false
  | .IfExp _ _ _ _ => false
  | .Compare _ _ _ _ => false
  | _ => true
def notSet : Expr → Bool
  | .Set _ _ _ => false
  | _ => true
def noMark (op : CmpOp) (b : Expr) : Bool := !behindInMarks op b
def chkC : D → Expr → Bool
  | .non, .Constant .none _ _ => true
  | .bl b, .Constant (.bool c) _ _ => b == c
  | .int i, .Constant (.int j) _ _ => decide (i = j)
  | .str x, .Constant (.str y) _ _ => decide (x = y)
  | _, _ => false
def IG.slots : IG → List Nat
  | .nm i => [i]
  | .tup gs => slotss gs
  | .sub _ _ => []
where slotss : List IG → List Nat
  | [] => []
  | g :: gs => g.slots ++ slotss gs
/-- a comprehension's block -/
def Sc.blk (S : Sc) (scope : Scope) : Sc := { S with sc := relS scope S.sc, fn := fun x => scope.names.lookup x == some .cell }
mutual
def chkE (G : Gs) (S : Sc) : IE → Expr → Bool
  | .con d, e => chkC d e
  | .var i, e => (match e with
    | .Name x _ => decide (S.N[i]? = some x) && (visB S.sc x && nmB x)
    | _ => false)
  | .glo x, e => (match e with
    | .Name y _ => decide (x = y) && (gloB S.sc y && (nmB y && decide (x ∈ G.cons)))
    | _ => false)
  | .bin o a b, e => (match e with
    | .BinOp x op y _ => opB o op && (chkE G S a x && chkE G S b y)
    | _ => false)
  | .neg a, e => (match e with
    | .UnaryOp .USub x _ => chkE G S a x
    | _ => false)
  | .cmp o a b, e => (match e with
    | .Compare x [op] [y] _ => cmpB o op && (noMark op y && (chkE G S a x && chkE G S b y))
    | _ => false)
  | .chain o o' a b c, e => (match e with
    | .Compare x [op, op'] [y, z] _ => cmpB o op && (cmpB o' op' && (!lastMarks [op, op'] [y, z] && (chkE G S a x && (chkE G S b y && chkE G S c z))))
    | _ => false)
  | .and a b, e => (match e with
    | .BoolOp .And (x :: y :: r) pos => chkE G S a x && (match r with
      | [] => chkE G S b y
      | _ => chkE G S b (.BoolOp .And (y :: r) pos))
    | _ => false)
  | .or a b, e => (match e with
    | .BoolOp .Or (x :: y :: r) pos => chkE G S a x && (match r with
      | [] => chkE G S b y
      | _ => chkE G S b (.BoolOp .Or (y :: r) pos))
    | _ => false)
  | .not a, e => (match e with
    | .UnaryOp .Not x _ => chkE G S a x
    | _ => false)
  | .ife t a b, e => (match e with
    | .IfExp c x y _ => chkT G S t c && (chkE G S a x && chkE G S b y)
    | _ => false)
  | .tup es, e => (match e with
    | .Tuple xs _ _ => chkEs G S es xs
    | _ => false)
  | .lst es, e => (match e with
    | .List xs _ => chkEs G S es xs
    | _ => false)
  | .ix a b, e => (match e with
    | .Subscript x y _ => notSlice y && (chkE G S a x && chkE G S b y)
    | _ => false)
  | .sl a lo hi, e => (match e with
    | .Subscript x (.Slice l h none _) _ => chkE G S a x && (chkO G S lo l && chkO G S hi h)
    | _ => false)
  | .rev a, e => (match e with
    | .Subscript x (.Slice none none (some (.UnaryOp .USub (.Constant (.int j) _ _) _)) _) _ => decide (j = 1) && chkE G S a x
    | _ => false)
  | .call f es, e => (match e with
    | .Call (.Name y _) xs [] _ => decide (f = y) && (gloB S.sc y && (nmB y && (S.calm && (decide ((f, xs.length) ∈ G.fns) && chkEs G S es xs))))
    | _ => false)
  | .blt b es, e => (match e with
    | .Call (.Name y _) (x :: xs) [] _ => decide ((bltOf b).1 = y) && (gloB S.sc y && (S.calm && (decide (y ∈ G.free) && chkEs G S es (x :: xs))))
    | _ => false)
  | .isi a t, e => (match e with
    | .Call (.Name y _) [x, .Name z _] [] _ => decide (y = "isinstance") && (gloB S.sc y && (decide (y ∈ G.free) && (decide (z = (tyNm t : String)) && (gloB S.sc z && (decide (z ∈ G.free) && (notStar x && chkE G S a x))))))
    | _ => false)
  | .mth mt o es, e => (match e with
    | .Call (.Attribute x name apos) (y :: ys) [] cpos => (match mt with
      | .append => decide (name = "append")) && (plainB x && ((apos.endLine == cpos.line) && (decide ((y :: ys).length < 20) && (chkE G S o x && chkEs G S es (y :: ys)))))
    | _ => false)
  | .lc own elt g it t, e => (match e with
    | .ListComp x [⟨tg, iter, ifs, k⟩] scope _ => decide (k = 0) && (S.calm && (blkC S.N S.sc scope own && (decide (∀ i ∈ g.slots, i ∈ own.map (·.2)) && (notSet iter && (chkI G S it tg iter && (chkG G (S.blk scope) g tg &&
        ((match t, ifs with
          | none, [] => true
          | some t, [c] => chkT G (S.blk scope) t c
          | _, _ => false) && chkE G (S.blk scope) elt x)))))))
    | _ => false)
  | .efld i f, e => (match e with
    | .Attribute (.Name x _) y _ => decide (S.N[i]? = some x) && (visB S.sc x && (nmB x && decide (f = y)))
    | _ => false)
  | .eisi i k, e => (match e with
    | .Call (.Name y _) [.Name x _, .Name z _] [] _ => decide (y = "isinstance") && (gloB S.sc y && (decide (y ∈ G.free) && (decide (S.N[i]? = some x) && (visB S.sc x && (nmB x && (decide (z = k) && (gloB S.sc z && nmB z)))))))
    | _ => false)
def chkEs (G : Gs) (S : Sc) : List IE → List Expr → Bool
  | [], [] => true
  | e :: es, x :: xs => notStar x && (chkE G S e x && chkEs G S es xs)
  | _, _ => false
def chkO (G : Gs) (S : Sc) : Option IE → Option Expr → Bool
  | none, none => true
  | some e, some x => chkE G S e x
  | _, _ => false
def chkT (G : Gs) (S : Sc) : IT → Expr → Bool
  | .and a b, e => (match e with
    | .BoolOp .And (x :: y :: r) pos => chkT G S a x && (match r with
      | [] => chkT G S b y
      | _ => chkT G S b (.BoolOp .And (y :: r) pos))
    | _ => false)
  | .or a b, e => (match e with
    | .BoolOp .Or (x :: y :: r) pos => chkT G S a x && (match r with
      | [] => chkT G S b y
      | _ => chkT G S b (.BoolOp .Or (y :: r) pos))
    | _ => false)
  | .not a, e => (match e with
    | .UnaryOp .Not x _ => chkT G S a x
    | _ => false)
  | .cmp o a b, e => (match e with
    | .Compare x [op] [y] _ => cmpB o op && (noMark op y && (chkE G S a x && chkE G S b y))
    | _ => false)
  | .chain o o' a b c, e => (match e with
    | .Compare x [op, op'] [y, z] _ => cmpB o op && (cmpB o' op' && (!lastMarks [op, op'] [y, z] && (chkE G S a x && (chkE G S b y && chkE G S c z))))
    | _ => false)
  | .tru a, e => plainT e && chkE G S a e
def chkI (G : Gs) (S : Sc) : II → Expr → Expr → Bool
  | .seq a, _, e => chkE G S a e
  | .range es, _, e => (match e with
    | .Call (.Name y _) xs [] _ => decide (y = "range") && (gloB S.sc y && (decide (y ∈ G.free) && (decide (1 ≤ xs.length ∧ xs.length ≤ 3) && chkEs G S es xs)))
    | _ => false)
  | .enum a, tg, e => (match tg with
    | .Tuple _ _ _ => (match e with
      | .Call (.Name y _) [x] [] _ => decide (y = "enumerate") && (gloB S.sc y && (decide (y ∈ G.free) && (notStar x && chkE G S a x)))
      | _ => false)
    | _ => false)
def chkG (G : Gs) (S : Sc) : IG → Expr → Bool
  | .nm i, e => (match e with
    | .Name x _ => decide (S.N[i]? = some x) && locB S x
    | _ => false)
  | .tup gs, e => (match e with
    | .Tuple xs _ _ => S.calm && chkGs G S gs xs
    | _ => false)
  | .sub o i, e => (match e with
    | .Subscript x y _ => notSlice y && (chkE G S o x && chkE G S i y)
    | _ => false)
def chkGs (G : Gs) (S : Sc) : List IG → List Expr → Bool
  | [], [] => true
  | g :: gs, x :: xs => notStar x && (chkG G S g x && chkGs G S gs xs)
  | _, _ => false
end
end DI

set_option Elab.async false
set_option linter.all false
set_option maxRecDepth 100000
set_option maxHeartbeats 4000000
/-! DI 8: the text does what the code over data does: expressions. -/
namespace DI
open PySem PySem.Spec PyProof.Rows L2
/-- a def's promise, by data -/
def spF (w : World) (K : PySem.W.Frag) (n : Nat) (f : List D → S → R D) : Sp := fun vs H Q E => ∃ m s ds, StOk w K m H s ∧ Rps w K m H ds vs ∧ ds.length = n ∧ PostE w K (fun cls d _ H => E cls d H) [] m H Q (f ds s)
/-- what the written part says of an own exception with fields fl -/
structure ExcK (K : PySem.W.Frag) (C : Str) (fl : List Str) : Prop where
  xf : XfC K (He.ga K C)
  no : ∀ f ∈ fl, PySem.W.findIn K (.ref (He.ga K C)) f = some none
  ox : OexC K (He.ga K C)
/-- the class that a name tells -/
def ClsV (mg : Str → Option Value) (k : Str) (c : Value) : Prop := (mg k = some c ∧ ∃ a, c = .ref a) ∨ (mg k = none ∧ bootBuiltins k = some c ∧ ∃ T, c = .type T)
/-- an own exception's __init__: the fields are stored -/
def spX (K : PySem.W.Frag) (C : Str) (fl : List Str) : Sp := fun us H Q E => ∃ a vs, us = .ref a :: vs ∧ vs.length = fl.length ∧ H a = some (exo a (He.ga K C) none) ∧
  ∀ dx, H dx = none → dx ≠ a → Q .non (upd (upd H dx (exd dx (fl.zip vs).reverse)) a (exo a (He.ga K C) (some dx)))
structure XOk (G : Gs) (q : Rq) (S : Sc) (W : WX) (pr : Option Hdp) (X : Cx) : Prop where
  N : X.N = S.N
  nd : S.N.Nodup
  sc : X.env.scope = S.sc
  fn : X.fn = S.fn
  tk : Takes X W
  hu : X.A.units + 65 < cLine
  cal : S.calm = true → X.calm = true ∧ pr = none
  free : ∀ x ∈ G.free, X.mg x = none
  cons : ∀ x ∈ G.cons, ∃ d u v, q.gl x = some d ∧ X.mg x = some u ∧ RelV v u ∧ d.shr = true ∧ ∀ m H, Rp X.w X.K m H d v
  fns : S.calm = true → ∀ f n, (f, n) ∈ G.fns → ∃ (fa : Addr) (fd : FuncData) (ps : List Str) (k : Nat), FnOk X.prog X.w X.K X.mg X.base (L2.CX X.prog X.w) k fa fd ps (spF X.w X.K n (q.c f)) ∧ Room k X.A ∧
    X.mg f = some (.ref fa) ∧ PySem.W.keepIn X.K (.ref fa) = true ∧ Binds X.K fd ps [] ∧ ps.length = n
  po : PassesOwn (model X.prog X.w) X.A X.env X.xe
  hd : q.hd = pr.map fun p => (p.i, p.C, p.fs)
  xk : ∀ C fl, q.ex C = some fl → ExcK X.K C fl
  cl : ∀ k ∈ G.cls, ∃ c, ClsV X.mg k c
  ix : ∀ C k b, q.isx C k = some b → ExcC X.K (He.ga X.K C) ∧ ∃ c, ClsV X.mg k c ∧ PySem.W.exmOne X.K (.ref (He.ga X.K C)) c = some b ∧ PySem.W.kitOne X.K (.ref (He.ga X.K C)) c = some b
  mkx : S.calm = true → ∀ C fl, q.ex C = some fl → ∃ (fI : Addr) (fd : FuncData) (ps : List Str) (k : Nat), PySem.W.findIn X.K (.ref (He.ga X.K C)) "__init__" = some (some (.ref fI)) ∧ PySem.W.typeIn X.K (.ref fI) = some (.type "function") ∧
    FnOk X.prog X.w X.K X.mg X.base (L2.CX X.prog X.w) k fI fd ps (spX X.K C fl) ∧ Room (k + 1) X.A ∧ Binds X.K fd ps [] ∧ X.mg C = some (.ref (He.ga X.K C))
  su : ∀ p, pr = some p → ∃ (X0 : Cx) (oe : Obj) (pn : List (Addr × Obj)), X = X0.suite p.a ((p.a, oe) :: pn) ∧ Zc (.ref (He.ga X.K p.C)) (some p.dx) oe ∧ ∃ vs, oe.data = .fields vs
section
variable {G : Gs} {q : Rq} {Z : Sc} {W : WX} {pr : Option Hdp} {X : Cx}
theorem visB_ok (x : XOk G q Z W pr X) {n : Str} (h : visB Z.sc n = true) : Vis X.env.scope n := by
  rw [x.sc]
  unfold visB at h
  unfold Vis
  split at h <;> first | (rename_i e; rw [e]; simp) | cases h
theorem gloB_ok (x : XOk G q Z W pr X) {n : Str} (h : gloB Z.sc n = true) : Gl X n := by
  show X.env.scope.names.lookup n = some .globalImplicit
  rw [x.sc]
  unfold gloB at h
  split at h <;> first | assumption | cases h
theorem nmB_ok {n : Str} (h : nmB n = true) : (n == ("__debug__" : Str)) = false ∧ (n == ("__classdict__" : Str)) = false ∧ n ≠ "__name__" := by
  unfold nmB at h
  simp only [Bool.and_eq_true, Bool.not_eq_true', ] at h
  exact ⟨h.1, h.2.1, fun z => by rw [z] at h; simp at h⟩
theorem star_cons {e : Expr} {es : List Expr} {env : Env} (h : notStar e = true) : starEach (e :: es) env = (false, eval e env) :: starEach es env := by
  cases e <;> first | rfl | cases h
theorem star_any {es : List Expr} {env : Env} {pos : Pos} (h : es.all notStar = true) : (backTo pos (starEach es env)).any (·.1) = false := by
  induction es with
  | nil => rfl
  | cons e es ih =>
    rw [List.all_cons, Bool.and_eq_true] at h
    rw [star_cons h.1]
    show (false || (backTo pos (starEach es env)).any (·.1)) = false
    rw [ih h.2]; rfl
theorem chkEs_star : ∀ {es : List IE} {xs : List Expr}, chkEs G Z es xs = true → xs.all notStar = true ∧ xs.length = es.length
  | [], [], _ => ⟨rfl, rfl⟩
  | e :: es, x :: xs, h => by
    unfold chkEs at h
    simp only [Bool.and_eq_true] at h
    obtain ⟨h1, h2⟩ := chkEs_star h.2.2
    exact ⟨by rw [List.all_cons, h.1, h1]; rfl, by simp [h2]⟩
  | [], _ :: _, h => by unfold chkEs at h; cases h
  | _ :: _, [], h => by unfold chkEs at h; cases h
theorem attr_plain {e : Expr} {f : Str} {env : Env} {wh : Sem Value} (h : plainB e = true) : attributeBase e f env wh = wh := by
  unfold attributeBase
  split
  · cases h
  · rfl
theorem chkC_ok {d : D} {e : Expr} (h : chkC d e = true) : PE X e (tD X.w X.K W pr fun _ s => .ok d s) := by
  unfold chkC at h
  split at h
  · exact PE.imp pe_non fun σ H Q ⟨m, ρ, s, R, p⟩ => post_same p R.st .non rfl
  · rw [beq_iff_eq] at h; subst h
    exact PE.imp pe_bl fun σ H Q ⟨m, ρ, s, R, p⟩ => post_same p R.st (.bl _) rfl
  · have h := of_decide_eq_true h; subst h
    exact PE.imp pe_int fun σ H Q ⟨m, ρ, s, R, p⟩ => post_same p R.st (.int _) rfl
  · have h := of_decide_eq_true h; subst h
    exact PE.imp pe_str fun σ H Q ⟨m, ρ, s, R, p⟩ => post_same p R.st (.str _) rfl
  · cases h
theorem plainIx_ok {e : Expr} (h : notSlice e = true) : PlainIx e := by
  cases e <;> first | (intro o i; rfl) | cases h
theorem truth_ok {e : Expr} (h : plainT e = true) (env : Env) : ∀ whole, isTrue e env whole = (do let v ← whole; standAt e.pos; holding [v] (truthy v)) := by
  intro wh
  cases e <;> first | rfl | cases h
theorem var_ok {i : Nat} {n : Str} {pos : Pos} (x : XOk G q Z W pr X) (h1 : Z.N[i]? = some n) (h2 : visB Z.sc n = true) (h3 : nmB n = true) : PE X (.Name n pos) (tD X.w X.K W pr (runE q (.var i))) := by
  obtain ⟨n1, n2, _⟩ := nmB_ok h3
  refine PE.imp (pe_var (i := i) (by rw [x.N]; exact h1) (visB_ok x h2) n1 n2) fun σ H Q ⟨m, ρ, s, R, p⟩ => ?_
  unfold runE at p
  split at p
  · rename_i d e
    obtain ⟨hs, v, e2, r⟩ := R.at_ i d e
    exact ⟨v, e2, post_same p R.st r hs⟩
  · exact p.elim
theorem glo_ok {n : Str} {pos : Pos} (x : XOk G q Z W pr X) (h1 : gloB Z.sc n = true) (h2 : nmB n = true) (h3 : n ∈ G.cons) : PE X (.Name n pos) (tD X.w X.K W pr (runE q (.glo n))) := by
  obtain ⟨d, u, v, e1, e2, rv, hs, r⟩ := x.cons n h3
  refine PE.imp (pe_glob (gloB_ok x h1) e2 rv (nmB_ok h2).1) fun σ H Q ⟨m, ρ, s, R, p⟩ => ?_
  unfold runE at p
  rw [e1] at p
  exact post_same p R.st (r m H) hs
/-- a comparison by data -/
theorem cmp_k {w : World} {K : PySem.W.Frag} {σ : L2.St} {m : List Addr} {H : Hp} {s : S} {α : Type} {P : List Addr → Hp → R α → Prop} (hP : Pk w K W σ P) {o : COp} {a b : D} {x y : V} {g : Bool → S → R α} {k : VK} (st : StOk w K m H s) (ra : Rp w K m H a x) (rb : Rp w K m H b y)
    (p : P m H ((cmpD o a b s).bind g)) (hk : ∀ c, P m H (g c s) → k (.bl c) H) : rCmp w K o x y H k := by
  cases e : cmpD o a b s with
  | ok c s' =>
    obtain ⟨e1, rfl⟩ := cmp_some e
    rw [e] at p
    exact ⟨m, s', a, b, c, st, ra, rb, e1, hk c p⟩
  | exc C fs s' => exact (cmp_exc e).elim
  | bad => rw [e] at p; exact (hP.bad p).elim
theorem cmp_kT {w : World} {K : PySem.W.Frag} {σ : L2.St} {m : List Addr} {H : Hp} {s : S} {Q : Bool → Hp → Prop} {o : COp} {a b : D} {x y : V} {k : VK} (st : StOk w K m H s) (ra : Rp w K m H a x) (rb : Rp w K m H b y)
    (p : PostT w K W σ m H Q (cmpD o a b s)) (hk : ∀ c, PostT w K W σ m H Q (.ok c s) → k (.bl c) H) : rCmp w K o x y H k := by
  cases e : cmpD o a b s with
  | ok c s' =>
    obtain ⟨e1, rfl⟩ := cmp_some e
    rw [e] at p
    exact ⟨m, s', a, b, c, st, ra, rb, e1, hk c p⟩
  | exc C fs s' => exact (cmp_exc e).elim
  | bad => rw [e] at p; exact p.elim
theorem ite_t {A B : Prop} {k : Bool} (h1 : k = true → A) (h2 : k = false → B) : if k = true then A else B := by
  cases k
  · rw [if_neg (by decide)]; exact h2 rfl
  · rw [if_pos rfl]; exact h1 rfl
theorem bin_ok {o : BOp} {a b : IE} {x y : Expr} {pos : Pos} (ha : PE X x (tD X.w X.K W pr (runE q a))) (hb : PE X y (tD X.w X.K W pr (runE q b))) : PE X (.BinOp x (opOf o) y pos) (tD X.w X.K W pr (runE q (.bin o a b))) :=
  PE.imp (pe_op (op_bin o) ha hb) fun σ H Q ⟨m, ρ, s, R, p⟩ => bE pkE R p fun d s1 m1 v H1 p1 e1 R1 r1 f1 => bE pkE R1 p1 fun d2 s2 m2 v2 H2 p2 e2 R2 r2 f2 => binD_ok R2.st (r1.mono e2) r2 p2
theorem cmpE_ok {o : COp} {a b : IE} {x y : Expr} {pos : Pos} (hu : X.A.units + 65 < cLine) (hm : behindInMarks (cmpOf o) y = false) (ha : PE X x (tD X.w X.K W pr (runE q a))) (hb : PE X y (tD X.w X.K W pr (runE q b))) :
    PE X (.Compare x [cmpOf o] [y] pos) (tD X.w X.K W pr (runE q (.cmp o a b))) :=
  PE.imp (pe_cmpR (op_cmp hu o) ha hb hm) fun σ H Q ⟨m, ρ, s, R, p⟩ => bE pkE R p fun d s1 m1 v H1 p1 e1 R1 r1 f1 => bE pkE R1 p1 fun d2 s2 m2 v2 H2 p2 e2 R2 r2 f2 =>
    cmp_k pkE R2.st (r1.mono e2) r2 p2 fun c p3 => post_same p3 R2.st (.bl c) rfl
theorem chainE_ok {o o' : COp} {a b c : IE} {x y z : Expr} {pos : Pos} (hu : X.A.units + 65 < cLine) (hm : lastMarks [cmpOf o, cmpOf o'] [y, z] = false) (ha : PE X x (tD X.w X.K W pr (runE q a))) (hb : PE X y (tD X.w X.K W pr (runE q b)))
    (hc : PE X z (tD X.w X.K W pr (runE q c))) : PE X (.Compare x [cmpOf o, cmpOf o'] [y, z] pos) (tD X.w X.K W pr (runE q (.chain o o' a b c))) :=
  PE.imp (pe_chain (op_cmp hu o) (op_cmp hu o') ha hb hc hm) fun σ H Q ⟨m, ρ, s, R, p⟩ => bE pkE R p fun d s1 m1 v H1 p1 e1 R1 r1 f1 => bE pkE R1 p1 fun d2 s2 m2 v2 H2 p2 e2 R2 r2 f2 =>
    cmp_k pkE R2.st (r1.mono e2) r2 p2 fun k p3 => ⟨k, rfl, ite_t (fun hk => by
      rw [if_pos hk] at p3
      exact bE pkE R2 p3 fun d3 s3 m3 v3 H3 p4 e3 R3 r3 f3 => cmp_k pkE R3.st (r2.mono e3) r3 p4 fun c p5 => post_same p5 R3.st (.bl c) rfl) fun hk => by
      rw [if_neg (by rw [hk]; decide)] at p3
      exact post_same p3 R2.st (.bl false) rfl⟩
theorem chainT_ok {o o' : COp} {a b c : IE} {x y z : Expr} {pos : Pos} (hu : X.A.units + 65 < cLine) (hm : lastMarks [cmpOf o, cmpOf o'] [y, z] = false) (ha : PE X x (tD X.w X.K W pr (runE q a))) (hb : PE X y (tD X.w X.K W pr (runE q b)))
    (hc : PE X z (tD X.w X.K W pr (runE q c))) : PT X (.Compare x [cmpOf o, cmpOf o'] [y, z] pos) (tT X.w X.K W pr (runT q (.chain o o' a b c))) :=
  PT.imp (pt_chain (op_cmp hu o) (op_cmp hu o') ha hb hc hm) fun σ H Q ⟨m, ρ, s, R, p⟩ => bE pkT R p fun d s1 m1 v H1 p1 e1 R1 r1 f1 => bE pkT R1 p1 fun d2 s2 m2 v2 H2 p2 e2 R2 r2 f2 =>
    cmp_k pkT R2.st (r1.mono e2) r2 p2 fun k p3 => ⟨k, rfl, ite_t (fun hk => by
      rw [if_pos hk] at p3
      exact bE pkT R2 p3 fun d3 s3 m3 v3 H3 p4 e3 R3 r3 f3 => cmp_kT R3.st (r2.mono e3) r3 p4 fun c p5 => ⟨c, rfl, p5 m3 H3 .refl R3.st⟩) fun hk => by
      rw [if_neg (by rw [hk]; decide)] at p3
      exact ⟨false, rfl, p3 m2 H2 .refl R2.st⟩⟩
theorem cmpT_ok {o : COp} {a b : IE} {x y : Expr} {pos : Pos} (hu : X.A.units + 65 < cLine) (hm : behindInMarks (cmpOf o) y = false) (ha : PE X x (tD X.w X.K W pr (runE q a))) (hb : PE X y (tD X.w X.K W pr (runE q b))) :
    PT X (.Compare x [cmpOf o] [y] pos) (tT X.w X.K W pr (runT q (.cmp o a b))) :=
  PT.imp (pt_cmpR (op_cmp hu o) ha hb hm) fun σ H Q ⟨m, ρ, s, R, p⟩ => bE pkT R p fun d s1 m1 v H1 p1 e1 R1 r1 f1 => bE pkT R1 p1 fun d2 s2 m2 v2 H2 p2 e2 R2 r2 f2 =>
    cmp_kT R2.st (r1.mono e2) r2 p2 fun c p3 => ⟨c, rfl, p3 m2 H2 .refl R2.st⟩
theorem andE_ok {a b : IE} {x y : Expr} {r : List Expr} {pos : Pos} (ha : PE X x (tD X.w X.K W pr (runE q a))) (hb : PE X (.BoolOp .And (y :: r) pos) (tD X.w X.K W pr (runE q b))) :
    PE X (.BoolOp .And (x :: y :: r) pos) (tD X.w X.K W pr (runE q (.and a b))) :=
  PE.imp (pe_and ha hb) fun σ H Q ⟨m, ρ, s, R, p⟩ => bE pkE R p fun d s1 m1 v H1 p1 e1 R1 r1 f1 => by
    split at p1
    · cases r1; exact ⟨true, rfl, by rw [if_pos rfl]; exact ⟨m1, ρ, s1, R1, p1⟩⟩
    · cases r1; exact ⟨false, rfl, by rw [if_neg (by decide)]; exact post_same p1 R1.st (.bl false) rfl⟩
    · exact p1.elim
theorem orE_ok {a b : IE} {x y : Expr} {r : List Expr} {pos : Pos} (ha : PE X x (tD X.w X.K W pr (runE q a))) (hb : PE X (.BoolOp .Or (y :: r) pos) (tD X.w X.K W pr (runE q b))) :
    PE X (.BoolOp .Or (x :: y :: r) pos) (tD X.w X.K W pr (runE q (.or a b))) :=
  PE.imp (pe_or ha hb) fun σ H Q ⟨m, ρ, s, R, p⟩ => bE pkE R p fun d s1 m1 v H1 p1 e1 R1 r1 f1 => by
    split at p1
    · cases r1; exact ⟨true, rfl, by rw [if_pos rfl]; exact post_same p1 R1.st (.bl true) rfl⟩
    · cases r1; exact ⟨false, rfl, by rw [if_neg (by decide)]; exact ⟨m1, ρ, s1, R1, p1⟩⟩
    · exact p1.elim
theorem notE_ok {a : IE} {x : Expr} {pos : Pos} (ha : PE X x (tD X.w X.K W pr (runE q a))) : PE X (.UnaryOp .Not x pos) (tD X.w X.K W pr (runE q (.not a))) :=
  PE.imp (pe_not ha) fun σ H Q ⟨m, ρ, s, R, p⟩ => bE pkE R p fun d s1 m1 v H1 p1 e1 R1 r1 f1 => by
    split at p1
    · cases r1; exact ⟨_, rfl, post_same p1 R1.st (.bl _) rfl⟩
    · exact p1.elim
theorem negE_ok {a : IE} {x : Expr} {pos : Pos} (ha : PE X x (tD X.w X.K W pr (runE q a))) : PE X (.UnaryOp .USub x pos) (tD X.w X.K W pr (runE q (.neg a))) :=
  PE.imp (pe_un un_neg ha) fun σ H Q ⟨m, ρ, s, R, p⟩ => bE pkE R p fun d s1 m1 v H1 p1 e1 R1 r1 f1 => by
    split at p1
    · cases r1; exact ⟨_, rfl, post_same p1 R1.st (.int _) rfl⟩
    · exact p1.elim
theorem ifeE_ok {t : IT} {a b : IE} {c x y : Expr} {pos : Pos} (ht : PT X c (tT X.w X.K W pr (runT q t))) (ha : PE X x (tD X.w X.K W pr (runE q a))) (hb : PE X y (tD X.w X.K W pr (runE q b))) :
    PE X (.IfExp c x y pos) (tD X.w X.K W pr (runE q (.ife t a b))) :=
  PE.imp (pe_ifExp ht ha hb) fun σ H Q ⟨m, ρ, s, R, p⟩ => bT pkE R p fun k s1 m1 H1 p1 e1 R1 => ite_t (fun hk => by rw [if_pos hk] at p1; exact ⟨m1, ρ, s1, R1, p1⟩) fun hk => by rw [if_neg (by rw [hk]; decide)] at p1; exact ⟨m1, ρ, s1, R1, p1⟩
theorem tupE_ok {es : List IE} {xs : List Expr} {k : Nat} {pos : Pos} (h : PA X xs (tA X.w X.K W pr (runEs q es))) : PE X (.Tuple xs k pos) (tD X.w X.K W pr (runE q (.tup es))) :=
  PE.imp (pe_tup h) fun σ H Q ⟨m, ρ, s, R, p⟩ => bA pkE R p fun ds s1 m1 vs H1 p1 e1 R1 r1 => by
    split at p1
    · rename_i hz; exact ⟨by rw [r1.length]; exact hz, post_tup p1 R1.st r1⟩
    · exact p1.elim
theorem lstE_ok {es : List IE} {xs : List Expr} {pos : Pos} (h : PA X xs (tA X.w X.K W pr (runEs q es))) : PE X (.List xs pos) (tD X.w X.K W pr (runE q (.lst es))) :=
  PE.imp (pe_lst h) fun σ H Q ⟨m, ρ, s, R, p⟩ => bA pkE R p fun ds s1 m1 vs H1 p1 e1 R1 r1 => by
    split at p1
    · rename_i hz; exact ⟨by rw [r1.length]; exact hz, post_lst p1 R1.st r1⟩
    · exact p1.elim
theorem ixE_ok {a b : IE} {x y : Expr} {pos : Pos} (hi : PlainIx y) (ha : PE X x (tD X.w X.K W pr (runE q a))) (hb : PE X y (tD X.w X.K W pr (runE q b))) : PE X (.Subscript x y pos) (tD X.w X.K W pr (runE q (.ix a b))) :=
  PE.imp (pe_ix ix_seq ha hb hi) fun σ H Q ⟨m, ρ, s, R, p⟩ => bE pkE R p fun d s1 m1 v H1 p1 e1 R1 r1 f1 => bE pkE R1 p1 fun d2 s2 m2 v2 H2 p2 e2 R2 r2 f2 => ixD_ok R2.st (r1.mono e2) r2 p2
theorem slE_ok {a : IE} {lo hi : Option IE} {x : Expr} {l h : Option Expr} {p2 pos : Pos} (ha : PE X x (tD X.w X.K W pr (runE q a))) (hl : PO X l (tO X.w X.K W pr (runO q lo))) (hh : PO X h (tO X.w X.K W pr (runO q hi))) :
    PE X (.Subscript x (.Slice l h none p2) pos) (tD X.w X.K W pr (runE q (.sl a lo hi))) :=
  PE.imp (pe_slice sl_D ha hl hh) fun σ H Q ⟨m, ρ, s, R, p⟩ => bE pkE R p fun d s1 m1 v H1 p1 e1 R1 r1 f1 => bO pkE R1 p1 fun lo s2 m2 H2 p2 e2 R2 => bO pkE R2 p2 fun hi s3 m3 H3 p3 e3 R3 =>
    slD_ok R3.st ((r1.mono e2).mono e3) p3
theorem revE_ok {a : IE} {x : Expr} {k : Nat} {p1 p2 p3 pos : Pos} (ha : PE X x (tD X.w X.K W pr (runE q a))) : PE X (.Subscript x (.Slice none none (some (.UnaryOp .USub (.Constant (.int 1) k p1) p2)) p3) pos) (tD X.w X.K W pr (runE q (.rev a))) :=
  PE.imp (pe_revL ha) fun σ H Q ⟨m, ρ, s, R, p⟩ => bE pkE R p fun d s1 m1 v H1 p1 e1 R1 r1 f1 => by
    split at p1
    · rename_i xs e
      obtain ⟨a, vs, rfl, sq, rs⟩ := lstOf_sq R1.st r1 e
      exact ⟨_, _, rfl, sq, post_lst p1 R1.st rs.rev⟩
    · exact p1.elim
theorem bltE_ok {b : Blt} {es : List IE} {x : Expr} {xs : List Expr} {p pos : Pos} (hc : X.calm = true) (hg : Gl X (bltOf b).1) (hm : X.mg (bltOf b).1 = none) (hs : (x :: xs).all notStar = true) (h : PA X (x :: xs) (tZ X.w X.K W pr (runEr q es))) :
    PE X (.Call (.Name (bltOf b).1 p) (x :: xs) [] pos) (tD X.w X.K W pr (runE q (.blt b es))) := by
  have hs2 := hs
  rw [List.all_cons, Bool.and_eq_true] at hs2
  have key : PE X (.Call (.Name (bltOf b).1 p) (x :: xs) [] pos) (tCB (rBlt X.w X.K b) (tZ X.w X.K W pr (runEr q es))) := by
    have cr := cr_blt hc b
    cases b with
    | tuple => exact pe_callTy cr hg hm (by decide +kernel) h (by decide) (by decide) (star_cons hs2.1) (star_any hs2.2)
    | list => exact pe_callTy cr hg hm (by decide +kernel) h (by decide) (by decide) (star_cons hs2.1) (star_any hs2.2)
    | set => exact pe_callTy cr hg hm (by decide +kernel) h (by decide) (by decide) (star_cons hs2.1) (star_any hs2.2)
    | int => exact pe_callTy cr hg hm (by decide +kernel) h (by decide) (by decide) (star_cons hs2.1) (star_any hs2.2)
    | str => exact pe_callTy cr hg hm (by decide +kernel) h (by decide) (by decide) (star_cons hs2.1) (star_any hs2.2)
    | _ => exact pe_callB cr hg hm (by decide +kernel) h (by decide) (by decide) (star_cons hs2.1) (star_any hs2.2)
  exact PE.imp key fun σ H Q ⟨m, ρ, s, R, p⟩ => bZ pkE R p fun ds s1 m1 vs H1 p1 e1 R1 r1 => bltD_ok R1.st r1 p1
end
end DI

set_option Elab.async false
set_option linter.all false
set_option maxRecDepth 100000
set_option maxHeartbeats 4000000
/-! DI 9: walks: a list or a tuple, enumerate of either. -/
namespace DI
open PySem PySem.Spec PyProof.Rows L2
theorem meets_enumerate_newT (t : Addr) (items : Array Value) :
    Meets (Builtin.«enumerate.__new__» ⟨[.type "enumerate", .ref t], []⟩) (fun _ R s => s.heap.IsTuple t items ∧
      R (.ok (.ret (.ref (s.heap.push { cls := .type "tuple_iterator", data := .fields #[.ref t, .int 0 0] }).objs.size))) { s with heap := (s.heap.push { cls := .type "tuple_iterator", data := .fields #[.ref t, .int 0 0] }).push { cls := .type "enumerate", data := .fields #[.none, .bool false, .ref s.heap.objs.size, rawInt 0, .none, .none] } }) :=
  .of_wp fun prog w A R s h => by
    obtain ⟨hp, g, d, tk, os⟩ := s; obtain ⟨h1, h⟩ := h
    have hsub := sub_enumerate
    have q1 : ∀ {A' : Around} {E : Value → Shared → Prop} {Q : Value → Shared → Prop}, Q (.ref hp.objs.size) ⟨hp.push { cls := .type "tuple_iterator", data := .fields #[.ref t, .int 0 0] }, g, d, tk, os⟩ → wpAny (model prog w) A' (pyIter (.ref t)) Q E ⟨hp, g, d, tk, os⟩ :=
      fun q => wpAny_pyIter_tuple h1 q
    wp_walk using q1
    refine wpAny_stack_any fun st => wpAny_pure ?_
    split
    · rename_i c _ _ _ _ _
      cases (c == Value.type "enumerate")
      · wp_walk using q1
        exact ⟨_, rfl, h⟩
      · wp_walk using q1
        exact ⟨_, rfl, h⟩
    · wp_walk using q1
      exact ⟨_, rfl, h⟩
theorem call_enumerate_tuple {prog : Program} {w : World} {A : Around} {E : Value → Shared → Prop} {s : Shared} {l : Addr} {items : Array Value} {Q : Value → Shared → Prop} (hL : s.heap.IsTuple l items)
    (h : ∀ h', IsEnum h' (s.heap.objs.size + 1) s.heap.objs.size 0 .none → h'.IsTupleIter s.heap.objs.size l 0 → h'.objs.size = s.heap.objs.size + 2 →
      (∀ b o, s.heap.get? b = some o → h'.get? b = some o) → Q (.ref (s.heap.objs.size + 1)) { s with heap := h' }) :
    wpAny (model prog w) A (call (.type "enumerate") [.ref l]) Q E s := by
  refine callType_new F.called_enumerate (by decide) (F.typeCall_enumerate_1 _) (F.newCall_enumerate_1 _) (fun obj => F.args_object_init_2 obj _) F.entry_enumerate_new
    (meets_enumerate_newT l items) ⟨hL, ?_⟩
  have hz : (s.heap.push { cls := .type "tuple_iterator", data := .fields #[.ref l, .int 0 0] }).objs.size = s.heap.objs.size + 1 := Heap.size_push ..
  show _ ∧ _
  rw [hz]
  have he : IsEnum ((s.heap.push { cls := .type "tuple_iterator", data := .fields #[.ref l, .int 0 0] }).push
      { cls := .type "enumerate", data := .fields #[.none, .bool false, .ref s.heap.objs.size, rawInt 0, .none, .none] }) (s.heap.objs.size + 1) s.heap.objs.size 0 .none := by
    have := Heap.get?_push_size (s.heap.push { cls := .type "tuple_iterator", data := .fields #[.ref l, .int 0 0] })
      (o := { cls := .type "enumerate", data := .fields #[.none, .bool false, .ref s.heap.objs.size, rawInt 0, .none, .none] }) rfl
    rw [hz] at this; exact this
  refine ⟨⟨_, he, rfl⟩, h _ he ⟨_, Heap.get?_push_of_some _ (Heap.get?_push_size _ rfl), rfl, rfl⟩ (by rw [Heap.size_push, hz]) fun b o x => Heap.get?_push_of_some _ (Heap.get?_push_of_some _ x)⟩
def IteT (K : PySem.W.Frag) (a : Addr) : It :=
  ⟨fun i H => ∃ (xs : List V) (x : V), SqT K H a xs ∧ xs[i]? = some x, fun i H v H' => ∃ T x, v = .ref T ∧ H T = none ∧ H' = upd H T (.tup [.int (i : Nat), x]) ∧ ∀ xs, SqT K H a xs → xs[i]? = some x, fun i H => ∃ xs : List V, SqT K H a xs ∧ xs.length = i⟩
theorem turn_enumT {P : Program} {w : World} {K : PySem.W.Frag} {elts : List Expr} {kk : Nat} {tpos : Pos} (a e it : Addr) :
    Turn P w K (.Tuple elts kk tpos) (IteT K a) [e, it] e (fun i h => (∃ old, IsEnum h e it ((i : Nat) : Int) old) ∧ h.IsTupleIter it a i ∧ e ≠ it) where
  mem := by simp
  obj := fun i h st b hb => by
    obtain ⟨⟨old, he⟩, ⟨o, ho, hc, hd⟩, _⟩ := st
    have e' : b = e ∨ b = it := by simpa using hb
    rcases e' with z | z
    · rw [z]; exact ⟨_, he, fun v q => nomatch q⟩
    · rw [z]; exact ⟨o, ho, fun v q => by rw [hd] at q; cases q⟩
  keep := fun i h h' st k => let ⟨⟨old, he⟩, hi, hne⟩ := st; ⟨⟨old, k e (by simp) _ he⟩, hi.at fun o q => k it (by simp) o q, hne⟩
  item := by
    intro X hP hw hK hc i pins s σ H E I hf st hg
    subst hP hw hK
    obtain ⟨⟨old, he⟩, hit, hne⟩ := st
    obtain ⟨xs, x, hq, hx⟩ := hg
    obtain ⟨its, rv, p, hz⟩ := I.tuple hq
    obtain ⟨u, hu, ru⟩ := rv.get hx
    have hel : e < s.heap.objs.size := Heap.lt_size he
    have hil : it < s.heap.objs.size := by obtain ⟨_, q, _⟩ := hit; exact Heap.lt_size q
    have pt : s.heap.IsTuple a its.toArray := p
    have nea : a ≠ e := fun z => by
      obtain ⟨o1, q1, q2, _⟩ := pt
      have q3 := he
      unfold IsEnum at q3
      rw [← z, q1] at q3
      cases q3
      exact absurd (Value.type.inj q2) (by decide)
    have neit : a ≠ it := fun z => by
      obtain ⟨o1, q1, q2, _⟩ := pt
      obtain ⟨o2, q3, q4, _⟩ := hit
      rw [z] at q1
      rw [q1] at q3
      cases q3
      rw [q2] at q4
      exact absurd (Value.type.inj q4) (by decide)
    have hh : X.A.in1.handled = none := by
      show X.A.handled = none
      exact I.ok.hd hc
    have hi : i < its.toArray.size := by
      have := (List.getElem?_eq_some_iff.mp hu).1
      simpa using this
    refine wpAny_pyNext_enum_itemD (Draws.tuple hh it a neit its.toArray) he ⟨hit, pt⟩ hi hne (by simp; exact ⟨hne, fun z => nea z.symm⟩) fun x' h' tk hPx ho hst' hT hsz hk => ?_
    have hxu : x' = u := by
      have e2 : its.toArray[i]? = some u := by simpa using hu
      rw [e2] at hPx
      exact (Option.some.inj hPx).symm
    subst hxu
    refine ⟨_, rfl, wpAny_letOwnedTupleGo_enum (s := { s with heap := h', toks := tk + 1 }) ho fun h'' he' sb => ?_⟩
    have hT2 : h''.get? s.heap.objs.size = some { cls := .type "tuple", data := .seq #[.int i tk, x'] } := (sb.2 _ (Nat.ne_of_gt hel)).trans hT
    have new : ObjOk X.prog X.w (upd H s.heap.objs.size (.tup [.int (i : Nat), x])) h'' s.heap.objs.size (.tup [.int (i : Nat), x]) :=
      ⟨by show 2 ≤ sizeLine; decide, [.int i tk, x'], .cons ⟨_, rfl⟩ (.cons ru .nil), ⟨_, hT2, rfl, _, rfl⟩⟩
    have I1 : Inv X pins σ (upd H s.heap.objs.size (.tup [.int (i : Nat), x])) { s with heap := h'', toks := tk + 1 } :=
      I.turnedNew (ch := [e, it]) (fun b ob hb q => (sb.2 b (fun z => hb (by simp [z]))).trans (hk b ob (fun z => hb (by simp [z])) (fun z => hb (by simp [z])) q)) hf (Nat.le_refl _) new
    refine ⟨.ref s.heap.objs.size, _, I1, rfl, ⟨_, x, rfl, I.hok.fresh (Nat.le_refl _), rfl, fun ys hy => by rw [I.tuple_inj hy hq]; exact hx⟩, ⟨⟨x', ?_⟩, hst'.1.at fun o q => (sb.2 it (Ne.symm hne)).trans q, hne⟩, fun b hb => ?_⟩
    · have e1 : ((i + 1 : Nat) : Int) = (i : Int) + 1 := by omega
      rw [e1]; exact he'
    · have hb' : b < s.heap.objs.size := by
        have e' : b = e ∨ b = it := by simpa using hb
        rcases e' with z | z
        · rw [z]; exact hel
        · rw [z]; exact hil
      rw [upd_ne (Nat.ne_of_lt hb')]
      exact (hf b hb).1
  done := by
    intro X hP hw hK hc i pins s σ H E I hf st hg
    subst hP hw hK
    obtain ⟨⟨old, he⟩, hit, hne⟩ := st
    obtain ⟨xs, hq, hx⟩ := hg
    obtain ⟨its, rv, p, hz⟩ := I.tuple hq
    obtain ⟨f0, f1, f2, f3, f4, f5⟩ := hf it (by simp)
    have hl := rv.length
    have pt : s.heap.IsTuple a its.toArray := p
    have neit : a ≠ it := fun z => by
      obtain ⟨o1, q1, q2, _⟩ := pt
      obtain ⟨o2, q3, q4, _⟩ := hit
      rw [z] at q1
      rw [q1] at q3
      cases q3
      rw [q2] at q4
      exact absurd (Value.type.inj q4) (by decide)
    have hh : X.A.in1.handled = none := by
      show X.A.handled = none
      exact I.ok.hd hc
    have hn : i = its.toArray.size := by simp; omega
    subst hn
    exact wpAny_pyNext_enum_endD (Draws.tuple hh it a neit its.toArray) he ⟨hit, pt⟩ fun h' eb => ⟨rfl, I.turned (t' := s.toks) (fun b o hb q => eb b o hb q) f0 f1 f3 f4 f5⟩
  self := fun A i s Q E st h => let ⟨⟨_, he⟩, _⟩ := st; wpAny_pyIter_enum he h
section
variable {X : Cx} {tg : Expr}
def iSeq (K : PySem.W.Frag) (tl : TE) : TI := fun σ H R => tl σ H fun x H1 => ∃ a, x = .ref a ∧ (((∃ xs, SqL K H1 a xs) ∧ R (Itl K a) H1) ∨ ((∃ xs, SqT K H1 a xs) ∧ R (Itt K a) H1))
theorem pi_seq {l : Expr} {tl : TE} (hl : PE X l tl) : PI X tg l (iSeq X.K tl) := by
  refine ⟨fun pins s σ H R I h => ?_⟩
  refine thn (hl.run pins s σ H _ I h) fun v s1 ⟨x, H1, I1, r1, q1⟩ => ?_
  obtain ⟨a, e, q1⟩ := q1
  subst e
  cases r1
  rcases q1 with ⟨⟨xs, hq⟩, q⟩ | ⟨⟨xs, hq⟩, q⟩
  · obtain ⟨its, rv, p, hz⟩ := I1.list hq
    refine wpAny_pyIter_list p.isList ?_
    refine ⟨s1.heap.objs.size, [s1.heap.objs.size], _, _, H1, rfl, I1.kept (t' := s1.toks) fun b o e => Heap.get?_push_of_some _ e, turn_list a _, ⟨_, Heap.get?_push_size _ rfl, rfl, rfl⟩, fun b hb => ?_, q⟩
    have e : b = s1.heap.objs.size := by simpa using hb
    subst e
    exact I1.fpOk (Nat.le_refl _) (I1.hok.fresh (Nat.le_refl _))
  · obtain ⟨its, rv, p, hz⟩ := I1.tuple hq
    refine wpAny_pyIter_tuple (show s1.heap.IsTuple a its.toArray from p) ?_
    refine ⟨s1.heap.objs.size, [s1.heap.objs.size], _, _, H1, rfl, I1.kept (t' := s1.toks) fun b o e => Heap.get?_push_of_some _ e, turn_tuple a _, ⟨_, Heap.get?_push_size _ rfl, rfl, rfl⟩, fun b hb => ?_, q⟩
    have e : b = s1.heap.objs.size := by simpa using hb
    subst e
    exact I1.fpOk (Nat.le_refl _) (I1.hok.fresh (Nat.le_refl _))
def iEnumA (K : PySem.W.Frag) (ta : TA) : TI := fun σ H R => ta σ H fun vs H1 => ∃ a xs, vs = [.ref a] ∧ ((SqL K H1 a xs ∧ R (Ite K a) H1) ∨ (SqT K H1 a xs ∧ R (IteT K a) H1))
theorem pi_enumA {e : Expr} {ta : TA} {p pos tpos : Pos} {elts : List Expr} {kk : Nat} (hg : Gl X "enumerate") (hm : X.mg "enumerate" = none) (ha : PA X [e] ta) (hs : starEach [e] X.env = [(false, eval e X.env)]) :
    PI X (.Tuple elts kk tpos) (.Call (.Name "enumerate" p) [e] [] pos) (iEnumA X.K ta) := by
  refine ⟨fun pins s σ H R I h => ?_⟩
  refine Call_ (ld_blt I hg hm boot_enumerate (PyProof.Rows.callWith_type1 (thn (ha.run pos pins s σ H _ I h) fun us s1 ⟨vs, H1, I1, r1, q1⟩ => ?_) hs rfl))
  obtain ⟨a, xs, ex, q1⟩ := q1
  subst ex
  cases r1 with
  | cons r rr =>
    cases rr
    cases r
    rcases q1 with ⟨hq, q⟩ | ⟨hq, q⟩
    · obtain ⟨its, rv, p', hz⟩ := I1.list hq
      refine call_enumerate_list p'.isList fun h' he hit hsz hk => wpAny_pyIter_enum he ?_
      have I2 : Inv X pins σ H1 { s1 with heap := h' } := I1.kept (t' := s1.toks) hk
      refine ⟨s1.heap.objs.size + 1, [s1.heap.objs.size + 1, s1.heap.objs.size], _, _, H1, rfl, I2, turn_enum a (s1.heap.objs.size + 1) s1.heap.objs.size, ⟨⟨.none, he⟩, hit, Nat.succ_ne_self _⟩, fun b hb => ?_, q⟩
      have e' : b = s1.heap.objs.size + 1 ∨ b = s1.heap.objs.size := by simpa using hb
      have hle : s1.heap.objs.size ≤ b := by
        rcases e' with z | z
        · rw [z]; exact Nat.le_add_right _ _
        · rw [z]; exact Nat.le_refl _
      exact I1.fpOk hle (I1.hok.fresh hle)
    · obtain ⟨its, rv, p', hz⟩ := I1.tuple hq
      refine call_enumerate_tuple (show s1.heap.IsTuple a its.toArray from p') fun h' he hit hsz hk => wpAny_pyIter_enum he ?_
      have I2 : Inv X pins σ H1 { s1 with heap := h' } := I1.kept (t' := s1.toks) hk
      refine ⟨s1.heap.objs.size + 1, [s1.heap.objs.size + 1, s1.heap.objs.size], _, _, H1, rfl, I2, turn_enumT a (s1.heap.objs.size + 1) s1.heap.objs.size, ⟨⟨.none, he⟩, hit, Nat.succ_ne_self _⟩, fun b hb => ?_, q⟩
      have e' : b = s1.heap.objs.size + 1 ∨ b = s1.heap.objs.size := by simpa using hb
      have hle : s1.heap.objs.size ≤ b := by
        rcases e' with z | z
        · rw [z]; exact Nat.le_add_right _ _
        · rw [z]; exact Nat.le_refl _
      exact I1.fpOk hle (I1.hok.fresh hle)
end
end DI

set_option Elab.async false
set_option linter.all false
set_option maxRecDepth 100000
set_option maxHeartbeats 4000000
/-! DI 10: arguments, calls, tests, walks, targets. -/
namespace DI
open PySem PySem.Spec PyProof.Rows L2
section
variable {w : World} {K : PySem.W.Frag} {W : WX} {pr : Option Hdp} {σ : L2.St} {m : List Addr} {H : Hp} {s : S} {ρ : En} {α : Type} {P : List Addr → Hp → R α → Prop}
theorem bind_as {β γ δ : Type} (r : R β) (f : β → S → R γ) (g : γ → S → R δ) : (r.bind f).bind g = r.bind fun a s => (f a s).bind g := by cases r <;> rfl
theorem bE0 {f : En → S → R D} {g : D → S → R α} {k : V → Hp → Prop} (hP : Pk w K W σ P) (R₀ : Rst w K pr m ρ s σ H) (h : P m H ((f ρ s).bind g))
    (hk : ∀ d s1 m1 v H1, P m H (g d s1) → Ex m H m1 H1 → Rst w K pr m1 ρ s1 σ H1 → Rp w K m1 H1 d v → Fresh H d v → k v H1) : tD w K W pr f σ H k := by
  refine ⟨m, ρ, s, R₀, ?_⟩
  cases q : f ρ s with
  | ok d s1 =>
    rw [q] at h
    exact fun m1 v H1 e st rp fr => hk d s1 m1 v H1 h e (R₀.mono e st) rp fr
  | exc C fs s' => rw [q] at h; exact hP.exc h
  | bad => rw [q] at h; exact hP.bad h
theorem bAq {f : En → S → R (List D)} {g : List D → S → R α} {k : List V → Hp → Prop} (hP : Pk w K W σ P) (R₀ : Rst w K pr m ρ s σ H) (h : P m H ((f ρ s).bind g))
    (hk : ∀ ds s1 m1 vs H1, f ρ s = .ok ds s1 → P m1 H1 (g ds s1) → Ex m H m1 H1 → Rst w K pr m1 ρ s1 σ H1 → Rps w K m1 H1 ds vs → k vs H1) : tA w K W pr f σ H k := by
  refine ⟨m, ρ, s, R₀, ?_⟩
  cases q : f ρ s with
  | ok d s1 =>
    rw [q] at h
    exact fun m1 v H1 e st rp => hk d s1 m1 v H1 q (hP.mono e st h) e (R₀.mono e st) rp
  | exc C fs s' => rw [q] at h; exact hP.exc h
  | bad => rw [q] at h; exact hP.bad h
theorem bZq {f : En → S → R (List D)} {g : List D → S → R α} {k : List V → Hp → Prop} (hP : Pk w K W σ P) (R₀ : Rst w K pr m ρ s σ H) (h : P m H ((f ρ s).bind g))
    (hk : ∀ ds s1 m1 vs H1, f ρ s = .ok ds s1 → P m1 H1 (g ds s1) → Ex m H m1 H1 → Rst w K pr m1 ρ s1 σ H1 → Rpz w K m1 H1 ds vs → k vs H1) : tZ w K W pr f σ H k := by
  refine ⟨m, ρ, s, R₀, ?_⟩
  cases q : f ρ s with
  | ok d s1 =>
    rw [q] at h
    exact fun m1 v H1 e st rp => hk d s1 m1 v H1 q (hP.mono e st h) e (R₀.mono e st) rp
  | exc C fs s' => rw [q] at h; exact hP.exc h
  | bad => rw [q] at h; exact hP.bad h
theorem runEr_len {q : Rq} : ∀ {es : List IE} {ρ : En} {s s1 : S} {ds : List D}, runEr q es ρ s = .ok ds s1 → ds.length = es.length
  | [], _, _, _, _, h => by unfold runEr at h; cases h; rfl
  | e :: es, ρ, s, s1, ds, h => by
    unfold runEr at h
    cases e1 : runE q e ρ s with
    | ok d s2 =>
      rw [e1] at h
      have h : R.bind (runEr q es ρ s2) (fun ds s => .ok (d :: ds) s) = .ok ds s1 := h
      cases e2 : runEr q es ρ s2 with
      | ok ds' s3 =>
        rw [e2] at h
        cases h
        simp [runEr_len e2]
      | exc C fs s' => rw [e2] at h; cases h
      | bad => rw [e2] at h; cases h
    | exc C fs s' => rw [e1] at h; cases h
    | bad => rw [e1] at h; cases h
theorem runEs_len {q : Rq} : ∀ {es : List IE} {ρ : En} {s s1 : S} {ds : List D}, runEs q es ρ s = .ok ds s1 → ds.length = es.length
  | [], _, _, _, _, h => by unfold runEs at h; cases h; rfl
  | e :: es, ρ, s, s1, ds, h => by
    unfold runEs at h
    cases e1 : (runE q e ρ s).bind setl with
    | ok d s2 =>
      rw [e1] at h
      cases e2 : runEs q es ρ s2 with
      | ok ds' s3 =>
        have h : R.bind (runEs q es ρ s2) (fun ds s => .ok (d :: ds) s) = .ok ds s1 := h
        rw [e2] at h
        cases h
        simp [runEs_len e2]
      | exc C fs s' =>
        have h : R.bind (runEs q es ρ s2) (fun ds s => .ok (d :: ds) s) = .ok ds s1 := h
        rw [e2] at h; cases h
      | bad =>
        have h : R.bind (runEs q es ρ s2) (fun ds s => .ok (d :: ds) s) = .ok ds s1 := h
        rw [e2] at h; cases h
    | exc C fs s' => rw [e1] at h; cases h
    | bad => rw [e1] at h; cases h
/-- an expression whose value is to be held, then what follows -/
theorem bES {f : En → S → R D} {g : D → S → R α} {k : V → Hp → Prop} (hP : Pk w K W σ P) (R₀ : Rst w K pr m ρ s σ H) (h : P m H (((f ρ s).bind setl).bind g))
    (hk : ∀ d s1 m1 v H1, P m1 H1 (g d s1) → Ex m H m1 H1 → Rst w K pr m1 ρ s1 σ H1 → Rp w K m1 H1 d v → d.shr = true → k v H1) : tD w K W pr f σ H k := by
  rw [bind_as] at h
  refine bE0 hP R₀ h fun d s1 m1 v H1 p1 e1 R1 r1 f1 => ?_
  cases q : setl d s1 with
  | ok d' s2 =>
    rw [q] at p1
    obtain ⟨m2, e2, R2, r2, hs, _⟩ := setl_rst e1 R1 r1 f1 q
    exact hk d' s2 m2 v H1 (hP.mono e2 R2.st p1) e2 R2 r2 hs
  | exc C fs s' => exact (setl_exc q).elim
  | bad => rw [q] at p1; exact (hP.bad p1).elim
end
section
variable {G : Gs} {q : Rq} {Z : Sc} {W : WX} {pr : Option Hdp} {X : Cx}
theorem esNil : PA X [] (tA X.w X.K W pr (runEs q [])) := PA.imp pa_nil fun σ H Q ⟨m, ρ, s, R, p⟩ => p m [] H .refl R.st .nil
theorem esCons {e : IE} {es : List IE} {x : Expr} {xs : List Expr} (hs : notStar x = true) (h : PE X x (tD X.w X.K W pr (runE q e))) (t : PA X xs (tA X.w X.K W pr (runEs q es))) : PA X (x :: xs) (tA X.w X.K W pr (runEs q (e :: es))) :=
  PA.imp (pa_cons h t (star_cons hs)) fun σ H Q ⟨m, ρ, s, R, p⟩ => bES pkA R p fun d s1 m1 v H1 p1 e1 R1 r1 f1 => bA pkA R1 p1 fun ds s2 m2 vs H2 p2 e2 R2 r2 => p2 m2 _ H2 .refl R2.st (.cons f1 (r1.mono e2) r2)
theorem erNil : PA X [] (tZ X.w X.K W pr (runEr q [])) := PA.imp pa_nil fun σ H Q ⟨m, ρ, s, R, p⟩ => p m [] H .refl R.st .nil
theorem erCons {e : IE} {es : List IE} {x : Expr} {xs : List Expr} (hs : notStar x = true) (h : PE X x (tD X.w X.K W pr (runE q e))) (t : PA X xs (tZ X.w X.K W pr (runEr q es))) : PA X (x :: xs) (tZ X.w X.K W pr (runEr q (e :: es))) :=
  PA.imp (pa_cons h t (star_cons hs)) fun σ H Q ⟨m, ρ, s, R, p⟩ => bE pkZ R p fun d s1 m1 v H1 p1 e1 R1 r1 f1 => bZ pkZ R1 p1 fun ds s2 m2 vs H2 p2 e2 R2 r2 => p2 m2 _ H2 .refl R2.st (.cons (r1.mono e2) r2)
theorem oNone : PO X none (tO X.w X.K W pr (runO q none)) := PO.imp po_none fun σ H Q ⟨m, ρ, s, R, p⟩ => p m H .refl R.st
theorem oSome {e : IE} {x : Expr} (h : PE X x (tD X.w X.K W pr (runE q e))) : PO X (some x) (tO X.w X.K W pr (runO q (some e))) :=
  PO.imp (po_some h) fun σ H Q ⟨m, ρ, s, R, p⟩ => bE pkO R p fun d s1 m1 v H1 p1 e1 R1 r1 f1 => by
    split at p1
    · cases r1; exact ⟨_, rfl, p1 m1 H1 .refl R1.st⟩
    · exact p1.elim
/-! ### calls -/
theorem pe_callS0 {k : Nat} {f : Addr} {fd : FuncData} {ps : List Str} {sp : Sp} {E : L2.St → XK} {x : Str} {p pos : Pos} {CX : CXT} (F : FnOk X.prog X.w X.K X.mg X.base CX k f fd ps sp) (hr : Room k X.A) (hg : Gl X x) (hm : X.mg x = some (.ref f)) (hk : PySem.W.keepIn X.K (.ref f) = true) (hb : Binds X.K fd ps [])
    (hx : ∀ σ, PassesAt CX X σ (E σ)) (hdb : (x == ("__debug__" : Str)) = false) : PE X (.Call (.Name x p) [] [] pos) (tCallS sp E tNil) :=
  ⟨fun pins s σ H Q I h => wpAny_Call_Name_kw (ld_glob I hg hm (PySem.W.callWith_K0 I.kIn hk (run_fnS (us := []) F hr hb (hx σ) I .nil h)) hdb)⟩
theorem spF_of {w : World} {K : PySem.W.Frag} {σ : L2.St} {m : List Addr} {H : Hp} {s : S} {Q : VK} {n : Nat} {f : List D → S → R D} {ds : List D} {vs : List V} (st : StOk w K m H s) (r : Rps w K m H ds vs) (hl : ds.length = n) (p : PostE w K W σ m H Q (f ds s)) : spF w K n f vs H Q (WE W σ) := by
  refine ⟨m, s, ds, st, r, hl, ?_⟩
  cases e : f ds s with
  | ok d s' => rw [e] at p; exact p
  | exc C fs s' => rw [e] at p; exact p
  | bad => rw [e] at p; exact p
theorem callE_ok {f : Str} {es : List IE} {xs : List Expr} {p pos : Pos} (x : XOk G q Z W pr X) (hc : Z.calm = true) (hg : Gl X f) (hd : (f == ("__debug__" : Str)) = false) (hf : (f, xs.length) ∈ G.fns) (hs : xs.all notStar = true)
    (hl : xs.length = es.length) (h : PA X xs (tA X.w X.K W pr (runEs q es))) : PE X (.Call (.Name f p) xs [] pos) (tD X.w X.K W pr (runE q (.call f es))) := by
  obtain ⟨fa, fd, ps, k, F, hr, hm, hk, hb, hn⟩ := x.fns hc f _ hf
  have key : PE X (.Call (.Name f p) xs [] pos) (tCallS (spF X.w X.K xs.length (q.c f)) (WE W) (tA X.w X.K W pr (runEs q es))) := by
    cases xs with
    | nil =>
      cases es with
      | nil => exact PE.imp (pe_callS0 F hr hg hm hk hb (passAt x.tk) hd) fun σ H Q ⟨m, ρ, s, R, p⟩ => p m [] H .refl R.st .nil
      | cons _ _ => cases hl
    | cons e xs =>
      rw [List.all_cons, Bool.and_eq_true] at hs
      exact pe_callS F hr hg hm hk hb (passAt x.tk) h hd (star_cons hs.1) (star_any hs.2)
  exact PE.imp key fun σ H Q ⟨m, ρ, s, R, p⟩ => bAq pkE R p fun ds s1 m1 vs H1 e0 p1 e1 R1 r1 => spF_of R1.st r1 ((runEs_len e0).trans hl.symm) p1
theorem isiE_ok {a : IE} {t : Ty} {e : Expr} {p p2 pos : Pos} (hg : Gl X "isinstance") (hm : X.mg "isinstance" = none) (hg2 : Gl X (tyNm t : String)) (hm2 : X.mg (tyNm t : String) = none) (hs : notStar e = true) (h : PE X e (tD X.w X.K W pr (runE q a))) :
    PE X (.Call (.Name "isinstance" p) [e, .Name (tyNm t : String) p2] [] pos) (tD X.w X.K W pr (runE q (.isi a t))) := by
  have hT : PE X (.Name (tyNm t : String) p2) (tC (.ty (tyNm t))) := by
    cases t <;> exact pe_bltn (u := .type _) hg2 hm2 (by decide +kernel) rfl (by decide) (by decide)
  refine PE.imp (pe_callB call_isi hg hm (by decide +kernel) (pa_cons h (pa_cons hT pa_nil) (star_cons hs)) (by decide) (by decide) (star_cons hs) rfl) fun σ H Q ⟨m, ρ, s, R, p⟩ => bE pkE R p fun d s1 m1 v H1 p1 e1 R1 r1 f1 => ?_
  split at p1
  · rename_i k e
    obtain ⟨u, hu, hk⟩ := isT_v R1.st r1 e
    exact ⟨_, _, u, _, k, rfl, .ty _, hu, hk, post_same p1 R1.st (.bl k) rfl⟩
  · exact p1.elim
theorem keyw_nil {env : Env} {pos : Pos} : backToKw pos (keywordEach [] env) = [] := rfl
theorem star_all {es : List Expr} {env : Env} {pos : Pos} (h : es.all notStar = true) : (backTo pos (starEach es env)).all (fun x => !x.1) = true := by
  induction es with
  | nil => rfl
  | cons e es ih =>
    rw [List.all_cons, Bool.and_eq_true] at h
    rw [star_cons h.1]
    show (!false && (backTo pos (starEach es env)).all (fun x => !x.1)) = true
    rw [ih h.2]; rfl
theorem appE_ok {o : IE} {es : List IE} {x y : Expr} {ys : List Expr} {apos cpos : Pos} (hb : plainB x = true) (hl : (apos.endLine == cpos.line) = true) (hn : (y :: ys).length < 20) (hs : (y :: ys).all notStar = true)
    (ho : PE X x (tD X.w X.K W pr (runE q o))) (h : PA X (y :: ys) (tA X.w X.K W pr (runEs q es))) : PE X (.Call (.Attribute x "append" apos) (y :: ys) [] cpos) (tD X.w X.K W pr (runE q (.mth .append o es))) := by
  have hs2 := hs
  rw [List.all_cons, Bool.and_eq_true] at hs2
  have hfew : ((backTo cpos (starEach (y :: ys) X.env)).all (fun x => !x.1) && (backToKw cpos (keywordEach [] X.env)).all (fun x => x.1.isSome)
      && decide ((y :: ys).length + ([] : List Keyword).length + (if ([] : List Keyword).isEmpty then 0 else 1) < 30)) = true := by
    rw [star_all hs]
    show (true && true && decide ((y :: ys).length + 0 + 0 < 30)) = true
    rw [decide_eq_true (by omega)]; rfl
  refine PE.imp (pe_bm PySem.F.plainAttrs_list PySem.F.slot_list_append PySem.F.type_list_append mt_append ho h (attr_plain hb) hfew hl (star_cons hs2.1) (star_any hs2.2)) fun σ H Q ⟨m, ρ, s, R, p⟩ => bE pkE R p fun d s1 m1 v H1 p1 e1 R1 r1 f1 => ?_
  split at p1
  · rename_i hm
    obtain ⟨xs, hm⟩ := Option.isSome_iff_exists.mp hm
    obtain ⟨a, vs, rfl, ha, rs⟩ := mutOf_h R1.st r1 hm
    refine ⟨.inl ⟨rfl, _, .of ha⟩, bA pkE R1 p1 fun ds s2 m2 us H2 p2 e2 R2 r2 => ?_⟩
    unfold mthD at p2
    split at p2
    · split at p2
      · rename_i i d _ zs e3
        split at p2
        · rename_i hz
          cases r2 with
          | @cons _ _ v1 _ hd rd rn =>
          cases rn
          have r1' := r1.mono e2
          obtain ⟨b, ws, e4, hb2, rs2⟩ := mutOf_h R2.st r1' (xs := zs) e3
          cases e4
          cases r1' with
          | ref hi =>
          refine ⟨_, _, _, rfl, rfl, hb2, by rw [rs2.length]; exact hz, ?_⟩
          have hw := Ex.write (H := H2) (o := .lst (ws ++ [v1])) (List.mem_of_getElem? hi)
          exact p2 m2 .non _ hw (R2.st.write hi ⟨_, upd_same, (rs2.app (.cons hd rd .nil)).mono hw⟩) .non fun z => by cases z
        · exact p2.elim
      · exact p2.elim
    · exact p2.elim
  · exact p1.elim
/-! ### tests -/
theorem andT_ok {a b : IT} {x y : Expr} {r : List Expr} {pos : Pos} (ha : PT X x (tT X.w X.K W pr (runT q a))) (hb : PW X (.BoolOp .And (y :: r) pos) (tT X.w X.K W pr (runT q b))) : PW X (.BoolOp .And (x :: y :: r) pos) (tT X.w X.K W pr (runT q (.and a b))) :=
  PW.imp (pw_and ha hb) fun σ H Q ⟨m, ρ, s, R, p⟩ => bT pkT R p fun k s1 m1 H1 p1 e1 R1 => ite_t (fun hk => by rw [if_pos hk] at p1; exact ⟨m1, ρ, s1, R1, p1⟩) fun hk => by rw [if_neg (by rw [hk]; decide)] at p1; exact p1 m1 H1 .refl R1.st
theorem orT_ok {a b : IT} {x y : Expr} {r : List Expr} {pos : Pos} (ha : PT X x (tT X.w X.K W pr (runT q a))) (hb : PW X (.BoolOp .Or (y :: r) pos) (tT X.w X.K W pr (runT q b))) : PW X (.BoolOp .Or (x :: y :: r) pos) (tT X.w X.K W pr (runT q (.or a b))) :=
  PW.imp (pw_or ha hb) fun σ H Q ⟨m, ρ, s, R, p⟩ => bT pkT R p fun k s1 m1 H1 p1 e1 R1 => ite_t (fun hk => by rw [if_pos hk] at p1; exact p1 m1 H1 .refl R1.st) fun hk => by rw [if_neg (by rw [hk]; decide)] at p1; exact ⟨m1, ρ, s1, R1, p1⟩
theorem notT_ok {a : IT} {x : Expr} {pos : Pos} (ha : PT X x (tT X.w X.K W pr (runT q a))) : PT X (.UnaryOp .Not x pos) (tT X.w X.K W pr (runT q (.not a))) :=
  PT.imp (pt_not ha) fun σ H Q ⟨m, ρ, s, R, p⟩ => bT pkT R p fun k s1 m1 H1 p1 e1 R1 => p1 m1 H1 .refl R1.st
theorem truT_ok {a : IE} {x : Expr} (hp : plainT x = true) (ha : PE X x (tD X.w X.K W pr (runE q a))) : PT X x (tT X.w X.K W pr (runT q (.tru a))) :=
  PT.imp (pt_truth ha (truth_ok hp X.env)) fun σ H Q ⟨m, ρ, s, R, p⟩ => bE pkT R p fun d s1 m1 v H1 p1 e1 R1 r1 f1 => by
    unfold truD at p1
    split at p1
    · cases r1; exact ⟨_, rfl, p1 m1 H1 .refl R1.st⟩
    · exact p1.elim
end
/-! ### walks -/
mutual
theorem same_eq : ∀ {a b : D}, D.same a b = true → a = b
  | .non, b, h => by cases b <;> first | rfl | (unfold D.same at h; cases h)
  | .bl x, b, h => by cases b <;> unfold D.same at h <;> first | (rw [beq_iff_eq] at h; rw [h]) | cases h
  | .int x, b, h => by cases b <;> unfold D.same at h <;> first | (rw [beq_iff_eq] at h; rw [h]) | cases h
  | .str x, b, h => by cases b <;> unfold D.same at h <;> first | (rw [of_decide_eq_true h]) | cases h
  | .tup x, b, h => by cases b <;> unfold D.same at h <;> first | (rw [sames_eq h]) | cases h
  | .ref x, b, h => by cases b <;> unfold D.same at h <;> first | (rw [beq_iff_eq] at h; rw [h]) | cases h
  | .lst x, b, h => by cases b <;> unfold D.same at h <;> first | (rw [sames_eq h]) | cases h
  | .rol x, b, h => by cases b <;> unfold D.same at h <;> first | (rw [sames_eq h]) | cases h
  | .ist x, b, h => by cases b <;> unfold D.same at h <;> first | (rw [beq_iff_eq] at h; rw [h]) | cases h
theorem sames_eq : ∀ {a b : List D}, D.sames a b = true → a = b
  | [], b, h => by cases b <;> first | rfl | (unfold D.sames at h; cases h)
  | x :: xs, b, h => by
    cases b with
    | nil => unfold D.sames at h; cases h
    | cons y ys =>
      unfold D.sames at h
      rw [Bool.and_eq_true] at h
      rw [same_eq h.1, sames_eq h.2]
end
section
variable {w : World} {K : PySem.W.Frag} {m0 : List Addr} {H0 : Hp} {I : Its} {a : Addr}
theorem walkL (h : ∀ m H s, Ex m0 H0 m H → StOk w K m H s → I.ok s = true → ∃ vs, SqL K H a vs ∧ Rps w K m H I.xs vs) : WalkD w K m0 H0 (Itl K a) I where
  go := fun i m H s hi e st ok => by
    obtain ⟨vs, sq, rs⟩ := h m H s e st ok
    exact ⟨vs, vs[i]'(by rw [rs.length]; exact hi), sq, by simp⟩
  yld := fun i m H s v H' hi e st ok y => by
    obtain ⟨vs, sq, rs⟩ := h m H s e st ok
    obtain ⟨rfl, y⟩ := y
    obtain ⟨v', e1, r, hs⟩ := rs.get (List.getElem?_eq_getElem hi)
    rw [y vs sq] at e1
    cases e1
    exact ⟨_, List.getElem?_eq_getElem hi, hs, .refl, st, r⟩
  stop := fun m H s e st ok => by
    obtain ⟨vs, sq, rs⟩ := h m H s e st ok
    exact ⟨vs, sq, by rw [rs.length]; exact Nat.le_refl _⟩
theorem walkT (h : ∀ m H s, Ex m0 H0 m H → StOk w K m H s → I.ok s = true → ∃ vs, SqT K H a vs ∧ Rps w K m H I.xs vs) : WalkD w K m0 H0 (Itt K a) I where
  go := fun i m H s hi e st ok => by
    obtain ⟨vs, sq, rs⟩ := h m H s e st ok
    exact ⟨vs, vs[i]'(by rw [rs.length]; exact hi), sq, by simp⟩
  yld := fun i m H s v H' hi e st ok y => by
    obtain ⟨vs, sq, rs⟩ := h m H s e st ok
    obtain ⟨rfl, y⟩ := y
    obtain ⟨v', e1, r, hs⟩ := rs.get (List.getElem?_eq_getElem hi)
    rw [y vs sq] at e1
    cases e1
    exact ⟨_, List.getElem?_eq_getElem hi, hs, .refl, st, r⟩
  stop := fun m H s e st ok => by
    obtain ⟨vs, sq, rs⟩ := h m H s e st ok
    exact ⟨vs, sq, by rw [rs.length]; exact Nat.le_refl _⟩
/-- the source of a walk over a list, a tuple: it stands -/
def SrcD (w : World) (K : PySem.W.Frag) (m0 : List Addr) (H0 : Hp) (a : Addr) (I : Its) : Prop :=
  ((∃ vs, SqL K H0 a vs) ∧ ∀ m H s, Ex m0 H0 m H → StOk w K m H s → I.ok s = true → ∃ vs, SqL K H a vs ∧ Rps w K m H I.xs vs) ∨ ((∃ vs, SqT K H0 a vs) ∧ ∀ m H s, Ex m0 H0 m H → StOk w K m H s → I.ok s = true → ∃ vs, SqT K H a vs ∧ Rps w K m H I.xs vs)
theorem seqI_src {d : D} {v : V} {s s' : S} (st : StOk w K m0 H0 s) (r : Rp w K m0 H0 d v) (e : seqI d s = .ok I s') : s' = s ∧ ∃ a, v = .ref a ∧ SrcD w K m0 H0 a I := by
  unfold seqI at e
  split at e
  · cases e
    cases r with
    | tup h rs => exact ⟨rfl, _, rfl, .inr ⟨⟨_, h.sq⟩, fun m H s ex st' _ => ⟨_, (h.mono ex).sq, rs.mono ex⟩⟩⟩
  · cases e
    cases r with
    | lst h n rs => exact ⟨rfl, _, rfl, .inl ⟨⟨_, .of h⟩, fun m H s ex st' _ => ⟨_, .of (ex.old _ _ h n).1, rs.mono ex⟩⟩⟩
  · cases e
    cases r with
    | rol h rs => exact ⟨rfl, _, rfl, .inl ⟨⟨_, h.sq⟩, fun m H s ex st' _ => ⟨_, (h.mono ex).sq, rs.mono ex⟩⟩⟩
  · split at e
    · rename_i i xs e1
      cases e
      cases r with
      | ref h =>
      obtain ⟨a, vs, e2, ha, rs⟩ := mutOf_h st (.ref h) (xs := xs) e1
      cases e2
      refine ⟨rfl, _, rfl, .inl ⟨⟨_, .of ha⟩, fun m H s2 ex st' ok => ?_⟩⟩
      dsimp only at ok
      split at ok
      · rename_i ys e3
        have e4 := sames_eq ok
        subst e4
        obtain ⟨b, us, e5, hb, rs2⟩ := mutOf_h st' (.ref (get_pre ex.pre h)) (xs := ys) e3
        cases e5
        exact ⟨_, .of hb, rs2⟩
      · cases ok
    · cases e
  · cases e
end
section
variable {q : Rq} {W : WX} {pr : Option Hdp} {X : Cx} {tg : Expr}
theorem seqW_ok {a : IE} {x : Expr} (ha : PE X x (tD X.w X.K W pr (runE q a))) : PI X tg x (tI X.w X.K W pr (runI q (.seq a))) := by
  refine PI.imp (pi_seq ha) fun σ H Q ⟨m, ρ, s, R, p⟩ => bE pkI R p fun d s1 m1 v H1 p1 e1 R1 r1 f1 => ?_
  cases e : seqI d s1 with
  | ok I s' =>
    rw [e] at p1
    obtain ⟨rfl, a, rfl, h⟩ := seqI_src R1.st r1 e
    refine ⟨a, rfl, ?_⟩
    rcases h with ⟨h0, h⟩ | ⟨h0, h⟩
    · exact .inl ⟨h0, p1 m1 H1 _ .refl R1.st (walkL h)⟩
    · exact .inr ⟨h0, p1 m1 H1 _ .refl R1.st (walkT h)⟩
  | exc C fs s' => unfold seqI at e; split at e <;> first | cases e | (split at e <;> cases e)
  | bad => rw [e] at p1; exact p1.elim
theorem rangeL_get {lo c : Int} {n i : Nat} (h : i < n) : (rangeL lo n c)[i]? = some (.int (lo + (i : Nat) * c)) := by
  unfold rangeL
  rw [List.getElem?_map, List.getElem?_range h]; rfl
theorem rangeL_len {lo c : Int} {n : Nat} : (rangeL lo n c).length = n := by unfold rangeL; rw [List.length_map, List.length_range]
theorem walkR {w : World} {K : PySem.W.Frag} {m0 : List Addr} {H0 : Hp} {lo : Int} {n : Nat} : WalkD w K m0 H0 (Itr lo n) ⟨rangeL lo n 1, fun _ => true⟩ where
  go := fun i m H s hi e st ok => by rw [rangeL_len] at hi; exact hi
  yld := fun i m H s v H' hi e st ok y => by
    rw [rangeL_len] at hi
    obtain ⟨rfl, rfl⟩ := y
    exact ⟨_, rangeL_get hi, rfl, .refl, st, by rw [Int.mul_one]; exact .int _⟩
  stop := fun m H s e st ok => by show n ≤ (rangeL lo n 1).length; rw [rangeL_len]; exact Nat.le_refl _
theorem walkC {w : World} {K : PySem.W.Frag} {m0 : List Addr} {H0 : Hp} {lo c : Int} {n : Nat} : WalkD w K m0 H0 (Itc lo c n) ⟨rangeL lo n c, fun _ => true⟩ where
  go := fun i m H s hi e st ok => by rw [rangeL_len] at hi; exact hi
  yld := fun i m H s v H' hi e st ok y => by
    rw [rangeL_len] at hi
    obtain ⟨rfl, rfl⟩ := y
    exact ⟨_, rangeL_get hi, rfl, .refl, st, .int _⟩
  stop := fun m H s e st ok => by show n ≤ (rangeL lo n c).length; rw [rangeL_len]; exact Nat.le_refl _
theorem bnd_ok {i : Int} (h : bnd i = true) : -(2 ^ 62) ≤ i ∧ i < 2 ^ 62 := by
  unfold bnd at h
  simp only [Bool.and_eq_true, decide_eq_true_eq] at h
  exact h
theorem rngW_ok {es : List IE} {xs : List Expr} {p pos : Pos} (hg : Gl X "range") (hm : X.mg "range" = none) (hs : xs.all notStar = true) (hl : xs.length = es.length) (hn : 1 ≤ xs.length ∧ xs.length ≤ 3) (h : PA X xs (tZ X.w X.K W pr (runEr q es))) : PI X tg (.Call (.Name "range" p) xs [] pos) (tI X.w X.K W pr (runI q (.range es))) := by
  match xs, hn with
  | [a], _ =>
    rw [List.all_cons, Bool.and_eq_true] at hs
    refine PI.imp (pi_range1 hg hm h (star_cons hs.1)) fun σ H Q ⟨m, ρ, s, R, p⟩ => bZq pkI R p fun ds s1 m1 vs H1 e0 p1 e1 R1 r1 => ?_
    have hd := (runEr_len e0).trans hl.symm
    unfold rngI at p1
    split at p1
    · split at p1
      · rename_i j hb
        cases r1 with | cons r t =>
        cases t
        cases r
        exact ⟨j, rfl, (bnd_ok hb).1, (bnd_ok hb).2, p1 m1 H1 _ .refl R1.st walkR⟩
      · exact p1.elim
    · cases hd
    · cases hd
    · exact p1.elim
  | [a, b], _ =>
    rw [List.all_cons, List.all_cons, Bool.and_eq_true, Bool.and_eq_true] at hs
    refine PI.imp (pi_range2 hg hm h ((star_cons hs.1).trans (by rw [star_cons hs.2.1] <;> rfl)) (star_cons hs.2.1)) fun σ H Q ⟨m, ρ, s, R, p⟩ => bZq pkI R p fun ds s1 m1 vs H1 e0 p1 e1 R1 r1 => ?_
    have hd := (runEr_len e0).trans hl.symm
    unfold rngI at p1
    split at p1
    · cases hd
    · split at p1
      · rename_i i j hb
        rw [Bool.and_eq_true] at hb
        cases r1 with | cons r t =>
        cases t with | cons r' t =>
        cases t
        cases r
        cases r'
        exact ⟨i, j, rfl, ⟨(bnd_ok hb.1).1, (bnd_ok hb.1).2, (bnd_ok hb.2).1, (bnd_ok hb.2).2⟩, p1 m1 H1 _ .refl R1.st walkR⟩
      · exact p1.elim
    · cases hd
    · exact p1.elim
  | [a, b, c], _ =>
    have hs0 := hs
    rw [List.all_cons, Bool.and_eq_true] at hs
    refine PI.imp (pi_range3 hg hm h (star_cons hs.1) (star_any hs.2)) fun σ H Q ⟨m, ρ, s, R, p⟩ => bZq pkI R p fun ds s1 m1 vs H1 e0 p1 e1 R1 r1 => ?_
    have hd := (runEr_len e0).trans hl.symm
    unfold rngI at p1
    split at p1
    · cases hd
    · cases hd
    · split at p1
      · rename_i i j k hb
        rw [Bool.and_eq_true, Bool.and_eq_true] at hb
        have hk : k = -1 := by simpa using hb.2
        subst hk
        cases r1 with | cons r t =>
        cases t with | cons r' t =>
        cases t with | cons r'' t =>
        cases t
        cases r
        cases r'
        cases r''
        exact ⟨i, j, -1, _, rfl, RgC.neg (bnd_ok hb.1.1).1 (bnd_ok hb.1.1).2 (bnd_ok hb.1.2).1 (bnd_ok hb.1.2).2, p1 m1 H1 _ .refl R1.st walkC⟩
      · exact p1.elim
    · exact p1.elim
  | _ :: _ :: _ :: _ :: _, h => simp at h
theorem zip_get {xs : List D} {i : Nat} {d : D} (h : xs[i]? = some d) : (xs.zipIdx.map fun p : D × Nat => D.tup [.int (p.2 : Nat), p.1])[i]? = some (.tup [.int (i : Nat), d]) := by
  rw [List.getElem?_map, List.getElem?_zipIdx, h]
  simp
theorem zip_len {xs : List D} : (xs.zipIdx.map fun p : D × Nat => D.tup [.int (p.2 : Nat), p.1]).length = xs.length := by simp
theorem enum_yld {w : World} {K : PySem.W.Frag} {m : List Addr} {H : Hp} {s : S} {I : Its} {i : Nat} {T : Addr} {x : V} {d : D} (st : StOk w K m H s) (e : I.xs[i]? = some d) (hs : d.shr = true) (r : Rp w K m H d x) (hT : H T = none) :
    ∃ d', (I.xs.zipIdx.map fun p : D × Nat => D.tup [.int (p.2 : Nat), p.1])[i]? = some d' ∧ d'.shr = true ∧ Ex m H m (upd H T (.tup [.int (i : Nat), x])) ∧ StOk w K m (upd H T (.tup [.int (i : Nat), x])) s ∧ Rp w K m (upd H T (.tup [.int (i : Nat), x])) d' (.ref T) :=
  ⟨_, zip_get e, rfl, .new st hT, st.new hT, .tup (.inl ⟨.inl upd_same, st.nin hT⟩) (.cons rfl (.int _) (.cons hs (r.mono (.new st hT)) .nil))⟩
theorem enumW_ok {a : IE} {x : Expr} {elts : List Expr} {kk : Nat} {tpos p pos : Pos} (hg : Gl X "enumerate") (hm : X.mg "enumerate" = none) (hs : notStar x = true) (ha : PE X x (tD X.w X.K W pr (runE q a))) : PI X (.Tuple elts kk tpos) (.Call (.Name "enumerate" p) [x] [] pos) (tI X.w X.K W pr (runI q (.enum a))) := by
  refine PI.imp (pi_enumA hg hm (pa_cons ha pa_nil (star_cons hs)) (star_cons hs)) fun σ H Q ⟨m, ρ, s, R, p⟩ => bE pkI R p fun d s1 m1 v H1 p1 e1 R1 r1 f1 => ?_
  unfold enumI at p1
  cases e : seqI d s1 with
  | ok I s' =>
    rw [e] at p1
    obtain ⟨rfl, a, rfl, h⟩ := seqI_src R1.st r1 e
    rcases h with ⟨⟨us, h0⟩, h⟩ | ⟨⟨us, h0⟩, h⟩
    · refine ⟨a, us, rfl, .inl ⟨h0, p1 m1 H1 _ .refl R1.st ⟨fun i m H s hi e st ok => ?_, fun i m H s v H' hi e st ok y => ?_, fun m H s e st ok => ?_⟩⟩⟩
      · rw [zip_len] at hi
        obtain ⟨vs, sq, rs⟩ := h m H s e st ok
        exact ⟨vs, vs[i]'(by rw [rs.length]; exact hi), sq, by simp⟩
      · rw [zip_len] at hi
        obtain ⟨vs, sq, rs⟩ := h m H s e st ok
        obtain ⟨T, x, rfl, hT, rfl, y⟩ := y
        obtain ⟨v', e2, r, hs⟩ := rs.get (List.getElem?_eq_getElem hi)
        rw [y vs sq] at e2
        cases e2
        exact enum_yld st (List.getElem?_eq_getElem hi) hs r hT
      · rw [zip_len]
        obtain ⟨vs, sq, rs⟩ := h m H s e st ok
        exact ⟨vs, sq, by rw [rs.length]; exact Nat.le_refl _⟩
    · refine ⟨a, us, rfl, .inr ⟨h0, p1 m1 H1 _ .refl R1.st ⟨fun i m H s hi e st ok => ?_, fun i m H s v H' hi e st ok y => ?_, fun m H s e st ok => ?_⟩⟩⟩
      · rw [zip_len] at hi
        obtain ⟨vs, sq, rs⟩ := h m H s e st ok
        exact ⟨vs, vs[i]'(by rw [rs.length]; exact hi), sq, by simp⟩
      · rw [zip_len] at hi
        obtain ⟨vs, sq, rs⟩ := h m H s e st ok
        obtain ⟨T, x, rfl, hT, rfl, y⟩ := y
        obtain ⟨v', e2, r, hs⟩ := rs.get (List.getElem?_eq_getElem hi)
        rw [y vs sq] at e2
        cases e2
        exact enum_yld st (List.getElem?_eq_getElem hi) hs r hT
      · rw [zip_len]
        obtain ⟨vs, sq, rs⟩ := h m H s e st ok
        exact ⟨vs, sq, rs.length⟩
  | exc C fs s' => unfold seqI at e; split at e <;> first | cases e | (split at e <;> cases e)
  | bad => rw [e] at p1; exact p1.elim
end
end DI

set_option Elab.async false
set_option linter.all false
set_option maxRecDepth 100000
set_option maxHeartbeats 4000000
/-! DI 11: targets, comprehensions. -/
namespace DI
open PySem PySem.Spec PyProof.Rows L2
def PostG (w : World) (K : PySem.W.Frag) (pr : Option Hdp) (σ0 : L2.St) (vs : List Nat) (m0 : List Addr) (H0 : Hp) (Q : L2.St → Hp → Prop) : R En → Prop
  | .ok ρ' s' => ∀ m' σ' H', Ex m0 H0 m' H' → Rst w K pr m' ρ' s' σ' H' → (∀ j, j ∉ vs → σ'[j]? = σ0[j]?) → σ'.length = σ0.length → Q σ' H'
  | _ => False
def gD (w : World) (K : PySem.W.Frag) (pr : Option Hdp) (vs : List Nat) (f : D → En → S → R En) : TG := fun v σ H Q =>
  ∃ m0 H0 m ρ s d, Ex m0 H0 m H ∧ Rst w K pr m ρ s σ H ∧ Rp w K m H d v ∧ Fresh H0 d v ∧ PostG w K pr σ vs m0 H0 Q (f d ρ s)
def gDs (w : World) (K : PySem.W.Frag) (pr : Option Hdp) (ns : List Nat) (f : List D → En → S → R En) : TGs := fun vs σ H Q =>
  ∃ m0 H0 m ρ s ds, Ex m0 H0 m H ∧ Rst w K pr m ρ s σ H ∧ Rps w K m0 H0 ds vs ∧ PostG w K pr σ ns m0 H0 Q (f ds ρ s)
section
variable {w : World} {K : PySem.W.Frag} {W : WX} {pr : Option Hdp} {σ : L2.St} {m : List Addr} {H : Hp} {s : S} {ρ : En}
theorem PostG.mono {vs : List Nat} {m1 : List Addr} {H1 : Hp} {Q : L2.St → Hp → Prop} {r : R En} (e : Ex m H m1 H1) (p : PostG w K pr σ vs m H Q r) : PostG w K pr σ vs m1 H1 Q r := by
  cases r with
  | ok ρ' s' => exact fun m' σ' H' e' => p m' σ' H' (e.trans e')
  | exc C fs s' => exact p
  | bad => exact p
/-- a name is given a value -/
theorem Rst.set {i : Nat} {d : D} {v : V} (R₀ : Rst w K pr m ρ s σ H) (hs : d.shr = true) (r : Rp w K m H d v) (hi : i < ρ.length) (hp : ∀ p, pr = some p → i ≠ p.i) : Rst w K pr m (ρ.set i (some d)) s (σ.set i (some v)) H := by
  refine ⟨R₀.st, by simp [R₀.len], fun j d' e => ?_, fun p e => ?_⟩
  · by_cases hj : i = j
    · subst hj
      rw [List.getElem?_set_self hi] at e
      cases e
      exact ⟨hs, v, by rw [List.getElem?_set_self (by rw [← R₀.len]; exact hi)], r⟩
    · rw [List.getElem?_set_ne hj] at e
      rw [List.getElem?_set_ne hj]
      exact R₀.at_ j d' e
  · rw [List.getElem?_set_ne (hp p e)]
    exact R₀.pin p e
theorem bEn {α : Type} {P : List Addr → Hp → R α → Prop} {f : En → S → R D} {g : D → S → R α} {k : V → Hp → Prop} (hb : ∀ m H, ¬ P m H .bad) (hm : ∀ m H m1 H1 r, Ex m H m1 H1 → P m H r → P m1 H1 r) (R₀ : Rst w K pr m ρ s σ H) (h : P m H (((f ρ s).nox).bind g))
    (hk : ∀ d s1 m1 v H1, P m1 H1 (g d s1) → Ex m H m1 H1 → Rst w K pr m1 ρ s1 σ H1 → Rp w K m1 H1 d v → Fresh H d v → k v H1) : tD w K W pr f σ H k := by
  refine ⟨m, ρ, s, R₀, ?_⟩
  cases q : f ρ s with
  | ok d s1 =>
    rw [q] at h
    exact fun m1 v H1 e st rp fr => hk d s1 m1 v H1 (hm _ _ _ _ _ e h) e (R₀.mono e st) rp fr
  | exc C fs s' => rw [q] at h; exact (hb _ _ h).elim
  | bad => rw [q] at h; exact hb _ _ h
end
section
variable {G : Gs} {q : Rq} {Z : Sc} {W : WX} {pr : Option Hdp} {X : Cx}
theorem nmG_ok {i : Nat} {n : Str} {pos : Pos} (x : XOk G q Z W pr X) (hi : Z.N[i]? = some n) (hl : locB Z n = true) : PG X (.Name n pos) (gD X.w X.K pr [i] (runG q (.nm i))) := by
  have hx : Loc X.env.scope n ∧ (X.fn n = true ∨ X.env.scope.names.lookup n = some .local) := by
    rw [x.sc, x.fn]
    unfold locB at hl
    unfold L2.Loc
    split at hl
    · rename_i e; rw [e]; simp
    · rename_i e; rw [e]; simp [hl]
    · cases hl
  refine PG.imp (pg_name (i := i) (by rw [x.N]; exact x.nd) (by rw [x.N]; exact hi) hx.1 hx.2) fun v σ H Q ⟨m0, H0, m, ρ, s, d, e, R, r, fr, p⟩ => ?_
  unfold runG at p
  cases e1 : setl d s with
  | ok d' s' =>
    rw [e1] at p
    obtain ⟨m', e2, R2, r2, hs, _⟩ := setl_rst e R r fr e1
    have p : PostG X.w X.K pr σ [i] m0 H0 Q (if i < ρ.length ∧ hdOk q.hd i = true then .ok (ρ.set i (some d')) s' else .bad) := p
    split at p
    · rename_i h
      refine p m' _ H e2 (R2.set hs r2 h.1 fun pp ep => ?_) (fun j hj => ?_) (by simp)
      · have h2 := h.2
        rw [x.hd, ep] at h2
        exact of_decide_eq_true h2
      · rw [List.getElem?_set_ne]
        simp at hj
        exact fun z => hj z.symm
    · exact p.elim
  | exc C fs s' => exact (setl_exc e1).elim
  | bad => rw [e1] at p; exact p.elim
theorem assign_star {e : Expr} {es : List Expr} {env : Env} (h : notStar e = true) : assignEach (e :: es) env = (false, assign e env) :: assignEach es env := by
  cases e <;> first | rfl | cases h
theorem assign_len {es : List Expr} {env : Env} (h : es.all notStar = true) : (assignEach es env).length = es.length ∧ (assignEach es env).findIdx? (·.1) = none := by
  induction es with
  | nil => exact ⟨rfl, rfl⟩
  | cons e es ih =>
    rw [List.all_cons, Bool.and_eq_true] at h
    rw [assign_star h.1]
    refine ⟨by simp [(ih h.2).1], ?_⟩
    rw [List.findIdx?_cons, (ih h.2).2]
    rfl
theorem gsNil : PGs X [] (gDs X.w X.K pr [] (runGs q [])) := by
  refine ⟨fun pins s σ H vs us Q I r h => ?_⟩
  obtain ⟨m0, H0, m, ρ, s1, ds, e, R, rs, p⟩ := h
  refine pgs_nil.run pins s σ H vs us Q I r ?_
  cases rs with
  | nil => exact ⟨rfl, p m σ H e R (fun _ _ => rfl) rfl⟩
  | cons _ _ _ => exact p.elim
theorem gsCons {g : IG} {gs : List IG} {e : Expr} {es : List Expr} {n1 n2 : List Nat} (hs : notStar e = true) (h1 : PG X e (gD X.w X.K pr n1 (runG q g))) (h2 : PGs X es (gDs X.w X.K pr n2 (runGs q gs))) : PGs X (e :: es) (gDs X.w X.K pr (n1 ++ n2) (runGs q (g :: gs))) := by
  refine ⟨fun pins s σ H vs us Q I r h => ?_⟩
  refine (pgs_cons h1 h2 (by rw [assign_star hs]; rfl)).run pins s σ H vs us Q I r ?_
  obtain ⟨m0, H0, m, ρ, s1, ds, ex, R, rs, p⟩ := h
  cases rs with
  | nil => exact p.elim
  | @cons d ds v vs hd rd rs =>
    refine ⟨v, vs, rfl, m0, H0, m, ρ, s1, d, ex, R, rd.mono ex, fun z => (by rw [hd] at z; cases z), ?_⟩
    unfold runGs at p
    cases e1 : runG q g d ρ s1 with
    | ok ρ1 s2 =>
      rw [e1] at p
      have p : PostG X.w X.K pr σ (n1 ++ n2) m0 H0 Q (runGs q gs ds ρ1 s2) := p
      intro m1 σ1 H1 ex1 R1 fr1 len1
      refine ⟨m0, H0, m1, ρ1, s2, ds, ex1, R1, rs, ?_⟩
      cases e2 : runGs q gs ds ρ1 s2 with
      | ok ρ2 s3 =>
        rw [e2] at p
        exact fun m2 σ2 H2 ex2 R2 fr2 len2 => p m2 σ2 H2 ex2 R2 (fun j hj => by
          rw [List.mem_append] at hj
          rw [fr2 j fun z => hj (.inr z), fr1 j fun z => hj (.inl z)]) (len2.trans len1)
      | exc C fs s' => rw [e2] at p; exact p
      | bad => rw [e2] at p; exact p
    | exc C fs s' => rw [e1] at p; exact p.elim
    | bad => rw [e1] at p; exact p.elim
theorem tupG_ok {gs : List IG} {es : List Expr} {k : Nat} {pos : Pos} {ns : List Nat} (hc : X.calm = true) (hs : es.all notStar = true) (hl : gs.length = es.length) (h : PGs X es (gDs X.w X.K pr ns (runGs q gs))) : PG X (.Tuple es k pos) (gD X.w X.K pr ns (runG q (.tup gs))) := by
  refine PG.imp (pg_tup hc h (assign_len hs).1 (assign_len hs).2) fun v σ H Q ⟨m0, H0, m, ρ, s, d, e, R, r, fr, p⟩ => ?_
  have lenGs : ∀ {gs : List IG} {ds : List D} {ρ : En} {s : S} {Q : L2.St → Hp → Prop} {m0 H0}, PostG X.w X.K pr σ ns m0 H0 Q (runGs q gs ds ρ s) → ds.length = gs.length := by
    intro gs
    induction gs with
    | nil => intro ds ρ s Q m0 H0 p; cases ds with
      | nil => rfl
      | cons _ _ => exact p.elim
    | cons g gs ih =>
      intro ds ρ s Q m0 H0 p
      cases ds with
      | nil => exact p.elim
      | cons d ds =>
        unfold runGs at p
        cases e1 : runG q g d ρ s with
        | ok ρ1 s2 =>
          rw [e1] at p
          have p : PostG X.w X.K pr σ ns m0 H0 Q (runGs q gs ds ρ1 s2) := p
          simp [ih p]
        | exc C fs s' => rw [e1] at p; exact p.elim
        | bad => rw [e1] at p; exact p.elim
  unfold runG at p
  split at p
  · rename_i ds
    cases r with
    | @tup _ vs a ta rs =>
      have hn := lenGs p
      exact ⟨a, vs, rfl, ta.sq, by rw [rs.length, hn, hl], m, H, m, ρ, s, ds, .refl, R, rs, p.mono e⟩
  · exact p.elim
theorem sub_assign {o i : Expr} {pos : Pos} {env : Env} (h : notSlice i = true) : ∀ v, assign (.Subscript o i pos) env v = (do
      let ov ← holding [v] (eval o env)
      let iv ← holding [v, ov] (eval i env)
      standAt pos
      holding [v, ov, iv] (setItem ov iv v)
      release [v, ov, iv] []) := by
  intro v
  cases i <;> first | rfl | cases h
theorem subG_ok {a b : IE} {o i : Expr} {pos : Pos} (hn : notSlice i = true) (ho : PE X o (tD X.w X.K W pr (runE q a))) (hi : PE X i (tD X.w X.K W pr (runE q b))) : PG X (.Subscript o i pos) (gD X.w X.K pr [] (runG q (.sub a b))) := by
  refine PG.imp (pg_sub ho hi set_list (sub_assign hn)) fun v σ H Q ⟨m0, H0, m, ρ, s, d, e, R, r, fr, p⟩ => ?_
  unfold runG at p
  cases e1 : setl d s with
  | ok d' s' =>
    rw [e1] at p
    obtain ⟨m', e2, R2, r2, hs, _⟩ := setl_rst e R r fr e1
    have p := p.mono e2
    refine bEn (P := fun m H r => PostG X.w X.K pr σ [] m H Q r) (fun _ _ z => z) (fun _ _ _ _ _ e p => p.mono e) R2 p fun x s3 m3 v3 H3 p3 e3 R3 r3 f3 => ?_
    refine bEn (P := fun m H r => PostG X.w X.K pr σ [] m H Q r) (fun _ _ z => z) (fun _ _ _ _ _ e p => p.mono e) R3 p3 fun y s4 m4 v4 H4 p4 e4 R4 r4 f4 => ?_
    unfold subD at p4
    have r3' := r3.mono e4
    have r2' := (r2.mono e3).mono e4
    split at p4
    · rename_i s5 e5
      split at e5
      · split at e5
        · rename_i xs e6
          split at e5
          · rename_i j e7
            cases e5
            obtain ⟨p, us, e8, hp, rs⟩ := mutOf_h R4.st r3' (xs := xs) e6
            cases r4
            subst e8
            cases r3' with
            | ref hm =>
            refine ⟨p, us, _, j, rfl, rfl, hp, by rw [rs.length]; exact e7, ?_⟩
            have hw := Ex.write (H := H4) (o := .lst (us.set j v)) (List.mem_of_getElem? hm)
            have st := R4.st.write hm (ob := .lst (xs.set j d')) ⟨_, upd_same, (rs.set hs r2' j).mono hw⟩
            exact p4 m4 σ _ hw (R4.mono hw st) (fun _ _ => rfl) rfl
          · cases e5
        · cases e5
      · cases e5
    · exact p4.elim
  | exc C fs s' => exact (setl_exc e1).elim
  | bad => rw [e1] at p; exact p.elim
end
/-! ### comprehensions -/
theorem Rp.other {w : World} {K : PySem.W.Frag} {m : List Addr} {H : Hp} {a : Addr} {vs0 vs1 : List V} (ha : H a = some (.lst vs0)) {d : D} {v : V} (hs : d.shr = true) (h : Rp w K m H d v) : Rp w K m (upd H a (.lst vs1)) d v := by
  have key : ∀ (d : D) (v : V), d.shr = true → Rp w K m H d v → Rp w K m (upd H a (.lst vs1)) d v := by
    intro d
    induction d using D.rec (motive_2 := fun ds => ∀ vs, Rps w K m H ds vs → Rps w K m (upd H a (.lst vs1)) ds vs) with
    | non => intro v _ h; cases h; exact .non
    | bl b => intro v _ h; cases h; exact .bl b
    | int b => intro v _ h; cases h; exact .int b
    | str b => intro v _ h; cases h; exact .str b
    | tup xs ih =>
      intro v _ h
      cases h with
      | @tup _ vs b t r =>
        refine .tup ?_ (ih _ r)
        rcases t with ⟨t, n⟩ | t
        · have ne : b ≠ a := fun z => by
            subst z
            rcases t with t | ⟨o, t⟩ <;> rw [ha] at t <;> cases t
          refine .inl ⟨?_, n⟩
          rcases t with t | ⟨o, t⟩
          · exact .inl (by rw [upd_ne ne]; exact t)
          · exact .inr ⟨o, by rw [upd_ne ne]; exact t⟩
        · exact .inr t
    | ref i => intro v _ h; cases h with | ref e => exact .ref e
    | lst xs => intro v h; cases h
    | rol xs ih =>
      intro v _ h
      cases h with
      | @rol _ vs b t r =>
        refine .rol ?_ (ih _ r)
        rcases t with ⟨⟨o, t⟩, n⟩ | t
        · have ne : b ≠ a := fun z => by
            subst z
            rw [ha] at t; cases t
          exact .inl ⟨⟨o, by rw [upd_ne ne]; exact t⟩, n⟩
        · exact .inr t
    | ist xs => intro v h; cases h
    | nil => rename_i z; cases z; exact .nil
    | cons d ds i1 i2 =>
      rename_i vs z
      cases z with
      | cons s h r => exact .cons s (i1 _ s h) (i2 _ r)
  exact key d v hs h
section
variable {w : World} {K : PySem.W.Frag} {W : WX} {pr : Option Hdp} {σ : L2.St} {m : List Addr} {H : Hp} {s : S} {ρ : En} {a : Addr} {vs0 vs1 : List V}
theorem Rps.other (ha : H a = some (.lst vs0)) : ∀ {ds : List D} {vs : List V}, Rps w K m H ds vs → Rps w K m (upd H a (.lst vs1)) ds vs := by
  intro ds
  induction ds with
  | nil => intro vs h; cases h; exact .nil
  | cons d ds ih => intro vs h; cases h with | cons s h r => exact .cons s (h.other ha s) (ih r)
theorem Fs.other (ha : H a = some (.lst vs0)) : ∀ {fs vs}, Fs w K m H fs vs → Fs w K m (upd H a (.lst vs1)) fs vs
  | _, _, .nil => .nil
  | _, _, .cons s h r => .cons s (h.other ha s) (Fs.other ha r)
theorem StOk.other (ha : H a = some (.lst vs0)) (na : a ∉ m) (st : StOk w K m H s) : StOk w K m (upd H a (.lst vs1)) s :=
  ⟨st.len, st.nd, fun i o e => by
    obtain ⟨b, e1, q⟩ := st.at_ i o e
    have ne : b ≠ a := fun z => na (z ▸ List.mem_of_getElem? e1)
    refine ⟨b, e1, ?_⟩
    cases o with
    | lst ds => obtain ⟨vs, q1, q2⟩ := q; exact ⟨vs, by rw [upd_ne ne]; exact q1, q2.other ha⟩
    | ins C fs => obtain ⟨dx, vs, q1, q2⟩ := q; exact ⟨dx, vs, by rw [upd_ne ne]; exact q1, q2.other ha⟩⟩
theorem Ex.upd0 {m1 : List Addr} {H1 : Hp} {o : HO} (e : Ex m H m1 H1) (h : H a = none) : Ex m H m1 (upd H1 a o) :=
  ⟨e.pre, fun b ob q n => ⟨by rw [upd_ne (ne_of_none q h)]; exact (e.old b ob q n).1, (e.old b ob q n).2⟩⟩
theorem wip_len (ρ : En) : ∀ vs : List Nat, (wip ρ vs).length = ρ.length
  | [] => rfl
  | v :: vs => by unfold wip; rw [List.length_set, wip_len ρ vs]
theorem wip_some {ρ : En} {i : Nat} {d : D} : ∀ {vs : List Nat}, (wip ρ vs)[i]? = some (some d) → ρ[i]? = some (some d) ∧ i ∉ vs
  | [], h => ⟨h, by simp⟩
  | v :: vs, h => by
    unfold wip at h
    by_cases hi : v = i
    · subst hi
      by_cases hv : v < (wip ρ vs).length
      · rw [List.getElem?_set_self hv] at h; cases h
      · rw [List.getElem?_eq_none (by simpa using hv)] at h; cases h
    · rw [List.getElem?_set_ne hi] at h
      obtain ⟨h1, h2⟩ := wip_some h
      exact ⟨h1, by simp only [List.mem_cons, not_or]; exact ⟨fun e => hi e.symm, h2⟩⟩
theorem wipe_at {σ : L2.St} {i : Nat} : ∀ {vs : List Nat}, i ∉ vs → (wipe σ vs)[i]? = σ[i]?
  | [], _ => rfl
  | v :: vs, h => by
    unfold wipe
    rw [List.getElem?_set_ne (fun z => h (by simp [z]))]
    exact wipe_at fun z => h (List.mem_cons_of_mem _ z)
theorem Rst.wipe (R : Rst w K none m ρ s σ H) (vs : List Nat) : Rst w K none m (wip ρ vs) s (wipe σ vs) H :=
  ⟨R.st, by rw [wip_len, wipe_length]; exact R.len, fun i d e => by
    obtain ⟨h1, h2⟩ := wip_some e
    rw [wipe_at h2]
    exact R.at_ i d h1, fun p e => by cases e⟩
/-- wiped, they are alike -/
theorem wipe_eq {σ1 σ2 : L2.St} {vs : List Nat} (h : ∀ j, j ∉ vs → σ2[j]? = σ1[j]?) (hl : σ2.length = σ1.length) : wipe σ2 vs = wipe σ1 vs := by
  have wipe_in : ∀ {σ : L2.St} {i : Nat} {vs : List Nat}, i ∈ vs → i < σ.length → (wipe σ vs)[i]? = some none := by
    intro σ i vs
    induction vs with
    | nil => intro h; cases h
    | cons v vs ih =>
      intro h hl
      unfold L2.wipe
      by_cases hv : v = i
      · subst hv
        rw [List.getElem?_set_self (by rw [wipe_length]; exact hl)]
      · rw [List.getElem?_set_ne hv]
        rcases List.mem_cons.mp h with z | z
        · exact absurd z.symm hv
        · exact ih z hl
  apply List.ext_getElem?
  intro i
  by_cases hi : i ∈ vs
  · by_cases hl1 : i < σ1.length
    · rw [wipe_in hi (by omega), wipe_in hi hl1]
    · rw [List.getElem?_eq_none (by rw [wipe_length]; omega), List.getElem?_eq_none (by rw [wipe_length]; omega)]
  · rw [wipe_at hi, wipe_at hi]
    exact h i hi
theorem wipe_wipe {σ : L2.St} {vs : List Nat} : wipe (wipe σ vs) vs = wipe σ vs := wipe_eq (fun j hj => wipe_at hj) (wipe_length _ _)
end
end DI

set_option Elab.async false
set_option linter.all false
set_option maxRecDepth 100000
set_option maxHeartbeats 4000000
/-! DI 12: comprehensions; all expressions. -/
namespace DI
open PySem PySem.Spec PyProof.Rows L2
section
variable {G : Gs} {q : Rq} {Z : Sc} {W : WX} {pr : Option Hdp} {X : Cx}
theorem XOk.blk (x : XOk G q Z W pr X) (scope : Scope) (s : Shared) (H : Hp) (C : Addr) (cl : List (Str × Addr)) (fp : List Addr) : Z.calm = true → XOk G q (Z.blk scope) (fun _ _ _ _ => False) pr (X.blk s H scope (compEnvC scope cl C X.env) fp) := fun hc =>
  ⟨x.N, x.nd, by show relS scope X.env.scope = relS scope Z.sc; rw [x.sc], rfl, takes_none5, x.hu, x.cal, x.free, x.cons, x.fns, PassesOwn.never, x.hd, x.xk, x.cl, x.ix, x.mkx, fun p e => by rw [(x.cal hc).2] at e; cases e⟩
theorem notSet_ok {e : Expr} {env : Env} (h : notSet e = true) : ∀ x, foldedSetIterable e env x = pure x := by
  intro x
  cases e <;> first | rfl | cases h
theorem lcE_ok {own : List (Str × Nat)} {elt : IE} {g : IG} {it : II} {t : Option IT} {e tg iter : Expr} {ifs : List Expr} {scope : Scope} (x : XOk G q Z W pr X) (hc : Z.calm = true) (ok : blkC Z.N Z.sc scope own = true)
    (hsl : ∀ i ∈ g.slots, i ∈ own.map (·.2)) (hset : notSet iter = true) (hi : PI X tg iter (tI X.w X.K W pr (runI q it)))
    (hg : ∀ (s : Shared) (H : Hp) (C : Addr) (cl : List (Str × Addr)) (fp : List Addr), PG (X.blk s H scope (compEnvC scope cl C X.env) fp) tg (gD X.w X.K pr g.slots (runG q g)))
    (ht : ∀ (s : Shared) (H : Hp) (C : Addr) (cl : List (Str × Addr)) (fp : List Addr), PTs (X.blk s H scope (compEnvC scope cl C X.env) fp) ifs (tT X.w X.K (fun _ _ _ _ => False) pr (runTo q t)))
    (he : ∀ (s : Shared) (H : Hp) (C : Addr) (cl : List (Str × Addr)) (fp : List Addr), PE (X.blk s H scope (compEnvC scope cl C X.env) fp) e (tD X.w X.K (fun _ _ _ _ => False) pr (runE q elt))) :
    (∀ σ H Q, tD X.w X.K W pr (runE q (.lc own elt g it t)) σ H Q → tLc (tI X.w X.K W pr (runI q it)) (gD X.w X.K pr g.slots (runG q g)) (tT X.w X.K (fun _ _ _ _ => False) pr (runTo q t)) (tD X.w X.K (fun _ _ _ _ => False) pr (runE q elt)) (own.map (·.2)) σ H Q) := by
  obtain ⟨hcx, rfl⟩ := x.cal hc
  rintro σ H Q ⟨m, ρ, s, R, p⟩
  refine bI pkE R p fun I s1 m1 J H1 p1 e1 R1 wk => ?_
  intro D hD
  have nD : D ∉ m1 := R1.st.nin hD
  -- the turn
  obtain ⟨turn, hturn⟩ : ∃ turn : DI.D → DI.S → DI.R (Option DI.D), turn = fun x s => (runG q g x (wip ρ (own.map (·.2))) s).bind fun ρ' s => (runTo q t ρ' s).bind fun k s => if k = true then ((runE q elt ρ' s).bind setl).bind fun d s => .ok (some d) s else .ok none s := ⟨_, rfl⟩
  have p1 : PostE X.w X.K W σ m1 H1 Q (lcL turn I.ok I.xs [] s1) := by rw [hturn]; exact p1
  refine ⟨fun i k Hh => k = I.xs.length - i ∧ i ≤ I.xs.length ∧ ∃ m s acc vs, Hh D = some (.lst vs) ∧ D ∉ m ∧ Rps X.w X.K m Hh acc vs ∧ StOk X.w X.K m Hh s ∧ Ex m1 H1 m Hh ∧ PostE X.w X.K W σ m1 H1 Q (lcL turn I.ok (I.xs.drop i) acc s),
    ⟨I.xs.length, by simp, Nat.zero_le _, m1, s1, [], [], upd_same, nD, .nil, R1.st.new hD, .new R1.st hD, p1⟩, ?_⟩
  rintro i k Hh ⟨rfl, hi, m2, s2, acc, vs, hv, nD2, rs, st, ex, p2⟩
  by_cases hlt : i < I.xs.length
  · have ed : I.xs.drop i = I.xs[i] :: I.xs.drop (i + 1) := List.drop_eq_getElem_cons hlt
    rw [ed] at p2
    unfold lcL at p2
    split at p2
    · rename_i hok
      refine .inr ⟨wk.go i m2 Hh s2 hlt ex st hok, fun H' => i + 1 ≤ I.xs.length ∧ ∃ m s acc vs, H' D = some (.lst vs) ∧ D ∉ m ∧ Rps X.w X.K m H' acc vs ∧ StOk X.w X.K m H' s ∧ Ex m1 H1 m H' ∧ PostE X.w X.K W σ m1 H1 Q (lcL turn I.ok (I.xs.drop (i + 1)) acc s),
        fun H' h => ⟨I.xs.length - (i + 1), by omega, rfl, h.1, h.2⟩, fun v H' y => ?_⟩
      obtain ⟨d, e2, hd, ex2, st2, rd⟩ := wk.yld i m2 Hh s2 v H' hlt ex st hok y
      rw [List.getElem?_eq_getElem hlt] at e2
      cases e2
      have hv2 : H' D = some (.lst vs) := (ex2.old D _ hv nD2).1
      have R2 := ((R1.mono (ex.trans ex2) st2).wipe (own.map (·.2)))
      refine ⟨m2, H', m2, wip ρ (own.map (·.2)), s2, _, .refl, R2, rd, fun z => (by rw [hd] at z; cases z), ?_⟩
      -- what the turn does
      cases eg : runG q g I.xs[i] (wip ρ (own.map (·.2))) s2 with
      | ok ρ' s3 =>
        intro m3 σ3 H3 ex3 R3 fr3 len3
        refine ⟨(wipe_eq (fun j hj => (fr3 j fun z => hj (hsl j z))) len3).trans wipe_wipe, ?_⟩
        refine ⟨m3, ρ', s3, R3, ?_⟩
        have et1 : turn I.xs[i] s2 = (runTo q t ρ' s3).bind fun k s => if k = true then ((runE q elt ρ' s).bind setl).bind fun d s => .ok (some d) s else .ok none s := by
          rw [hturn]
          show (runG q g I.xs[i] (wip ρ (own.map (·.2))) s2).bind _ = _
          rw [eg]
        cases et : runTo q t ρ' s3 with
        | ok k s4 =>
          rw [et] at et1
          have et2 : turn I.xs[i] s2 = if k = true then ((runE q elt ρ' s4).bind setl).bind fun d s => .ok (some d) s else .ok none s4 := et1
          intro m4 H4 ex4 st4
          have R4 := R3.mono ex4 st4
          refine ite_t (fun hk => ?_) fun hk => ?_
          · rw [if_pos hk] at et2
            refine ⟨m4, ρ', s4, R4, ?_⟩
            cases ee : runE q elt ρ' s4 with
            | ok d' s5 =>
              rw [ee] at et2
              intro m5 v5 H5 ex5 st5 r5 f5
              cases es : setl d' s5 with
              | ok d6 s6 =>
                have et3 : turn I.xs[i] s2 = .ok (some d6) s6 := by
                  rw [et2]
                  show ((setl d' s5).bind fun d s => .ok (some d) s) = _
                  rw [es]
                rw [et3] at p2
                dsimp only at p2
                split at p2
                · rename_i hz
                  obtain ⟨m6, ex6, st6, r6, hs6, k6, k7, _⟩ := setl_ok ex5 st5 r5 f5 es
                  have exA := (ex2.trans ex3).trans ex4
                  have exB : Ex m2 Hh m5 H5 := exA.trans ex5
                  have hv5 : H5 D = some (.lst vs) := (exB.old D _ hv nD2).1
                  have nD5 : D ∉ m5 := (exB.old D _ hv nD2).2
                  have nD6 : D ∉ m6 := k7 (by rw [((exA.old D _ hv nD2).1)]; simp) nD5
                  have ex16 : Ex m1 H1 m6 H5 := by
                    -- from the start of the element: what is settled was new there
                    refine ⟨((ex.trans exA).pre).trans ex6.pre, fun b o q1 q2 => ?_⟩
                    have := (ex.trans exA).old b o q1 q2
                    exact ex6.old b o this.1 this.2
                  have rs5 : Rps X.w X.K m6 H5 acc vs := by
                    have h5 := rs.mono exB
                    have key : ∀ {ds vs}, Rps X.w X.K m5 H5 ds vs → Rps X.w X.K m6 H5 ds vs := by
                      intro ds
                      induction ds with
                      | nil => intro vs h; cases h; exact .nil
                      | cons d ds ih => intro vs h; cases h with | cons a b c => exact .cons a (k6 a b) (ih c)
                    exact key h5
                  refine ⟨vs, hv5, by rw [rs5.length]; exact hz, hlt, m6, s6, acc ++ [d6], vs ++ [v5], upd_same, nD6, (rs5.app (.cons hs6 r6 .nil)).other hv5, st6.other hv5 nD6, ex16.upd0 hD, p2⟩
                · exact p2.elim
              | exc C fs s' => exact (setl_exc es).elim
              | bad =>
                have et3 : turn I.xs[i] s2 = .bad := by
                  rw [et2]
                  show ((setl d' s5).bind fun d s => .ok (some d) s) = _
                  rw [es]
                rw [et3] at p2
                exact p2.elim
            | exc C fs s' => rw [ee] at et2; rw [et2] at p2; exact p2.elim
            | bad => rw [ee] at et2; rw [et2] at p2; exact p2.elim
          · rw [if_neg (by rw [hk]; decide)] at et2
            rw [et2] at p2
            have exA := (ex2.trans ex3).trans ex4
            exact ⟨hlt, m4, s4, acc, vs, (exA.old D _ hv nD2).1, (exA.old D _ hv nD2).2, rs.mono exA, st4, ex.trans exA, p2⟩
        | exc C fs s' => rw [et] at et1; rw [et1] at p2; exact p2.elim
        | bad => rw [et] at et1; rw [et1] at p2; exact p2.elim
      | exc C fs s' =>
        have et1 : turn I.xs[i] s2 = .exc C fs s' := by
          rw [hturn]
          show (runG q g I.xs[i] (wip ρ (own.map (·.2))) s2).bind _ = _
          rw [eg]
        rw [et1] at p2; exact p2.elim
      | bad =>
        have et1 : turn I.xs[i] s2 = .bad := by
          rw [hturn]
          show (runG q g I.xs[i] (wip ρ (own.map (·.2))) s2).bind _ = _
          rw [eg]
        rw [et1] at p2; exact p2.elim
    · exact p2.elim
  · have ei : i = I.xs.length := by omega
    subst ei
    rw [List.drop_length] at p2
    unfold lcL at p2
    split at p2
    · rename_i hok
      exact .inl ⟨wk.stop m2 Hh s2 ex st hok, p2 m2 (.ref D) Hh ex st (.lst hv nD2 rs) fun _ => ⟨D, rfl, hD⟩⟩
    · exact p2.elim
end
end DI

set_option Elab.async false
set_option linter.all false
set_option maxRecDepth 100000
set_option maxHeartbeats 4000000
/-! DI 12b: exceptions: held by a name, made, their __init__. -/
namespace PySem.W
open PySem PySem.Spec PySem.Calls PyProof.Rows
section
variable {prog : Program} {w : World} {A : Around} {E : Value → Shared → Prop} {s : Shared} {K : Frag} {x D : Addr} {ox od : Obj}
theorem di_classE {Q : Option Value → Shared → Prop} (hga : findIn K (.ref D) "__getattribute__" = some (some (.builtin "BaseException.__getattribute__"))) (hgt : findIn K (.ref D) "__getattr__" = some none) (hsub : subIn K (.ref D) (.type "BaseException") = some true)
    (hdct : hasDictIn K D = true) (ha : findIn K (.ref D) "__class__" = some (some (.builtin "object.__class__")))
    (hn : specialIn K (.builtin "object.__class__") "__get__" = some (some (.builtin "getset_descriptor.__get__"))) (htk : takesIn K (.builtin "object.__class__") = some true) (hm : mroIn K D (.type "object") = some true)
    (X : K.In s.heap) (I : InstAt s.heap x ox D (some od)) (h : Q (some (.ref D)) { s with toks := s.toks + 1 }) : wpAny (model prog w) A (getAttr? (.ref x) "__class__") Q E s := by
  have hf : findObj K D (some od) "__class__" = some (.bind (.builtin "getset_descriptor.__get__") (.builtin "object.__class__")) := findObj_data (by obtain ⟨cd, hc, _⟩ := any_some hdct; rw [hc]; rfl) ha hn htk
  obtain ⟨hp, g, d, t, os⟩ := s
  have L0 := I.type (M := model prog w)
  have L1 := looks_findIn (M := model prog w) X hga
  have L2 := looks_findIn (M := model prog w) X hgt
  have L3 := looks_find (M := model prog w) X I hf
  have sub : Looks (model prog w) hp (isInstance (.ref x) (.type "BaseException")) true := L0.andThen (looks_subIn X hsub)
  have hx0 : (false && onTheHeap (Value.builtin "BaseException.__getattribute__")) = false := rfl
  have hx2 : (Value.builtin "BaseException.__getattribute__" == Value.builtin "object.__getattribute__") = false := by decide +kernel
  have hx1 : (onTheHeap (Value.ref D) && Value.builtin "BaseException.__getattribute__" == Value.builtin "object.__getattribute__") = false := by rw [hx2]; rfl
  unfold getAttr? getAttrBy? getAttrBy
  refine wpAny_bind (wpAny_mkText (wpAny_bind (wpAny_attempt (wpAny_holding (wpAny_bind (L0.at (wpAny_bind (L1.at ?_))))))))
  show wpAny _ _ (if (onTheHeap (Value.ref D) && Value.builtin "BaseException.__getattribute__" == Value.builtin "object.__getattribute__") = true then _ else _) _ _ _
  rw [hx1, if_neg Bool.false_ne_true]
  unfold getAttrByItsOwn hookBefore
  refine wpAny_bind ?_
  rw [if_pos (show onTheHeap (Value.ref D) = true from rfl)]
  refine L2.at ?_
  refine wpAny_bind (wpAny_attempt (wpAny_holding ?_))
  unfold callGetattribute
  rw [hx0, if_neg Bool.false_ne_true]
  unfold boundAndCalled
  rw [PySem.F.excAttr_ValueError.ga.bind (.ref x)]
  refine wpAny_bind (wpAny_pure ?_)
  show wpAny _ _ (call (.builtin "BaseException.__getattribute__") [.ref x, .str "__class__" t]) _ _ _
  refine wpAny_call (codeAny_call_builtin PySem.F.excAttr_ValueError.ga.plain PySem.F.entry_bexc_ga ?_)
  refine @check_slot (model prog w) _ _ ⟨hp, g, d, t + 1, os⟩ "BaseException.__getattribute__" "BaseException" "__getattribute__" (.ref x) [.str "__class__" t] [] _ (by decide +kernel) (by decide +kernel) sub (PySem.F.args_bexc_ga (.ref x) (.str "__class__" t)) ?_
  unfold Builtin.«object.__getattribute__»
  refine wpAny_bind (wpAny_of_eq (a := ((Value.ref x : Value), [Value.str "__class__" t])) (by first | rfl | (simp only [slotArgs]; rfl)) ?_)
  refine wpAny_bind (wpAny_pure (wpAny_bind (L0.at (wpAny_bind (L3.at ?_)))))
  show wpAny _ _ (holding [Value.builtin "object.__class__"] (call (.builtin "getset_descriptor.__get__") [.builtin "object.__class__", .ref x, .ref D]) >>= ret) _ _ _
  refine wpAny_bind (wpAny_holding (wpAny_call (class_get (s := ⟨hp, g, d, t + 1, os⟩) (ox := ox) (od := some od) X I hm ?_)))
  refine wpAny_pure ?_
  show wpAny _ _ (handedOut (.ref D)) _ _ _
  rw [handedOut_of (v := .ref D) rfl]
  first
    | exact wpAny_pure (wpAny_pure h)
    | exact wpAny_pure h
    | exact wpAny_pure (wpAny_bind (wpAny_pure (wpAny_pure h)))
theorem di_kitx (hga : findIn K (.ref D) "__getattribute__" = some (some (.builtin "BaseException.__getattribute__"))) (hgt : findIn K (.ref D) "__getattr__" = some none) (hsub : subIn K (.ref D) (.type "BaseException") = some true) (hdct : hasDictIn K D = true) (ha : findIn K (.ref D) "__class__" = some (some (.builtin "object.__class__")))
    (hn : specialIn K (.builtin "object.__class__") "__get__" = some (some (.builtin "getset_descriptor.__get__"))) (htk : takesIn K (.builtin "object.__class__") = some true) (hm : mroIn K D (.type "object") = some true) :
    KitX K (.ref x) (.ref D) (fun h => InstAt h x ox D (some od)) where
  ty := fun _ _ _ I => I.type
  it := fun _ _ X _ => by
    obtain ⟨cdD, hcD, _⟩ := any_some hdct
    unfold clsIn at hcD
    split at hcD
    · rename_i c' d' cd' sl' ho
      intro A' Q' E' s' k q
      unfold isType loadHead
      exact wpAny_bind (wpAny_loadPart (k _ _ (X _ _ ho)) (wpAny_pure q))
    · cases hcD
  ne := fun h tp dd its n sl X htp => by
    obtain ⟨cdD, hcD, _⟩ := any_some hdct
    refine Bool.eq_false_iff.mpr fun q => ?_
    have e : D = tp := Value.ref.inj (beq_iff_eq.mp q)
    subst e
    unfold clsIn at hcD
    split at hcD
    · rename_i c' d' cd' sl' ho
      have z := (X _ _ ho).symm.trans htp
      cases z
    · cases hcD
  ca := fun X I k => di_classE hga hgt hsub hdct ha hn htk hm X I k
end
end PySem.W
namespace DI
open PySem PySem.Spec PyProof.Rows L2
/-- isinstance(e, c), e held by a suite, with a dict -/
def rIsX (K : PySem.W.Frag) (C a dd : Addr) : List V → Hp → VK → Prop := fun xs H Q => ∃ (c : V) (cv : Value) (b : Bool) (fs : List (Str × V)), xs = [.ref a, c] ∧ (∀ u, RelV c u → u = cv) ∧ H dd = some (.xd fs) ∧ PySem.W.kitOne K (.ref C) cv = some b ∧ Q (.bl b) H
theorem call_isX {X : Cx} {a C dd : Addr} {oe : Obj} {pn : List (Addr × Obj)} (T : ExcC X.K C) (hz : Zc (.ref C) (some dd) oe) (hf : ∃ vs, oe.data = .fields vs) : CallR (X.suite a ((a, oe) :: pn)) (.builtin "isinstance") (rIsX X.K C a dd) := by
  intro pins s σ H xs us Q I r h
  obtain ⟨c, cv, b, fs, rfl, hcv, ed, e, q⟩ := h
  cases r with
  | cons rx rr =>
    cases rr with
    | cons rt rr =>
      cases rr
      cases rx
      have ec := hcv _ rt
      subst ec
      obtain ⟨hget, _⟩ := I.pin (a, oe) (List.mem_append.mpr (.inl List.mem_cons_self))
      obtain ⟨vs, hv⟩ := hf
      have hx : ObjOk X.prog X.w H s.heap dd (.xd fs) := I.hok dd _ ed
      obtain ⟨mA, hns, _⟩ := hx
      obtain ⟨od, ho, _⟩ := lookIn_ns hns
      have J : PySem.W.InstAt s.heap a oe C (some od) := ⟨hget, hz.1, by unfold PySem.W.notCls; rw [hv] <;> rfl, by rw [hz.2]; exact ho⟩
      exact PySem.W.kia_one (PySem.W.di_kitx T.hg T.hk T.hs T.hd T.ha T.hn T.ht T.hm) I.kIn J e (fun z => nomatch z) fun tk => ⟨.bl b, H, I.kept (t' := tk) fun _ _ z => z, rfl, q⟩
section
variable {G : Gs} {q : Rq} {Z : Sc} {W : WX} {pr : Option Hdp} {X : Cx}
theorem fs_look {w : World} {K : PySem.W.Frag} {m : List Addr} {H : Hp} {f : Str} {d : D} : ∀ {fs : List (Str × D)} {vs : List (Str × V)}, Fs w K m H fs vs → fs.lookup f = some d → ∃ v, vs.lookup f = some v ∧ d.shr = true ∧ Rp w K m H d v
  | _, _, .nil, h => by cases h
  | _, _, .cons (f := g) (d := d') (v := v') hs r t, h => by
    rw [lookup_put]
    have key : ∀ {l : List (Str × D)}, ((g, d') :: l).lookup f = if f = g then some d' else l.lookup f := by
      intro l
      by_cases h : f = g
      · subst h; simp [List.lookup]
      · have e : (f == g) = false := by simpa using h
        rw [if_neg h]; simp [List.lookup, e]
    rw [key] at h
    by_cases e : f = g
    · rw [if_pos e] at h ⊢
      cases h
      exact ⟨_, rfl, hs, r⟩
    · rw [if_neg e] at h ⊢
      exact fs_look t h
theorem efld_ok {i : Nat} {n f : Str} {p1 pos : Pos} (x : XOk G q Z W pr X) (h1 : Z.N[i]? = some n) (h2 : visB Z.sc n = true) (h3 : nmB n = true) : PE X (.Attribute (.Name n p1) f pos) (tD X.w X.K W pr (runE q (.efld i f))) := by
  obtain ⟨n1, n2, _⟩ := nmB_ok h3
  cases hp : pr with
  | none =>
    refine ⟨fun pins s σ H Q I h => ?_⟩
    obtain ⟨m, ρ, s, R, p⟩ := h
    unfold runE at p
    rw [x.hd, hp] at p
    exact p.elim
  | some P =>
    obtain ⟨X0, oe, pn, ex, hz, hf⟩ := x.su P hp
    have hN : X.N[i]? = some n := by rw [x.N]; exact h1
    have hv : Vis X.env.scope n := visB_ok x h2
    by_cases ht : ∃ fl, q.ex P.C = some fl ∧ f ∈ fl
    · obtain ⟨fl, e1, e2⟩ := ht
      have T := x.xk _ _ e1
      have hh : q.hd = some (P.i, P.C, P.fs) := by rw [x.hd, hp]; rfl
      clear x
      subst ex
      refine PE.imp (pe_xf (X := X0) (C := He.ga X0.K P.C) T.xf (T.no f e2) hz hf (pe_var (i := i) hN hv n1 n2) rfl) fun σ H Q ⟨m, ρ, s, R, p⟩ => ?_
      unfold runE at p
      rw [hh] at p
      dsimp only at p
      split at p
      · rename_i hc
        obtain ⟨s1, x1⟩ := R.pin P rfl
        obtain ⟨⟨vs, hx, hfs⟩, _⟩ := x1
        split at p
        · rename_i d hl
          obtain ⟨v, e3, hs, r⟩ := fs_look hfs hl
          rw [← hc.1] at s1
          exact ⟨.ref P.a, s1, rfl, rfl, P.dx, vs, v, rfl, hx, e3, post_same p R.st r hs⟩
        · exact p.elim
      · exact p.elim
    · refine ⟨fun pins s σ H Q I h => ?_⟩
      obtain ⟨m, ρ, s, R, p⟩ := h
      unfold runE at p
      rw [x.hd, hp] at p
      dsimp only [Option.map] at p
      split at p
      · rename_i hc
        exfalso
        obtain ⟨hc1, hc2⟩ := hc
        unfold Rq.fld at hc2
        split at hc2
        · rename_i fl e1
          exact ht ⟨fl, e1, of_decide_eq_true hc2⟩
        · cases hc2
      · exact p.elim
theorem clsP {k : Str} {c : Value} {p : Pos} (hg : Gl X k) (h : ClsV X.mg k c) (h3 : nmB k = true) : ∃ v, PE X (.Name k p) (tC v) ∧ ∀ u, RelV v u → u = c := by
  obtain ⟨n1, n2, n3⟩ := nmB_ok h3
  rcases h with ⟨hm, a, rfl⟩ | ⟨hm, hb, T, rfl⟩
  · exact ⟨.ref a, pe_glob hg hm rfl n1, fun u e => e⟩
  · exact ⟨.ty T, pe_bltn hg hm hb rfl n3 n1, fun u e => e⟩
theorem eisi_ok {i : Nat} {n k : Str} {p1 p2 p3 pos : Pos} (x : XOk G q Z W pr X) (hg : Gl X "isinstance") (hm : X.mg "isinstance" = none) (h1 : Z.N[i]? = some n) (h2 : visB Z.sc n = true) (h3 : nmB n = true) (hk : Gl X k) (hk3 : nmB k = true) :
    PE X (.Call (.Name "isinstance" p1) [.Name n p2, .Name k p3] [] pos) (tD X.w X.K W pr (runE q (.eisi i k))) := by
  obtain ⟨n1, n2, _⟩ := nmB_ok h3
  cases hp : pr with
  | none =>
    refine ⟨fun pins s σ H Q I h => ?_⟩
    obtain ⟨m, ρ, s, R, p⟩ := h
    unfold runE at p
    rw [x.hd, hp] at p
    exact p.elim
  | some P =>
    obtain ⟨X0, oe, pn, ex, hz, hf⟩ := x.su P hp
    have hN : X.N[i]? = some n := by rw [x.N]; exact h1
    have hv : Vis X.env.scope n := visB_ok x h2
    have hh : q.hd = some (P.i, P.C, P.fs) := by rw [x.hd, hp]; rfl
    cases hi : q.isx P.C k with
    | none =>
      refine ⟨fun pins s σ H Q I h => ?_⟩
      obtain ⟨m, ρ, s, R, p⟩ := h
      unfold runE at p
      rw [hh] at p
      dsimp only at p
      rw [hi] at p
      split at p <;> exact p.elim
    | some b =>
      obtain ⟨T, c, hc, _, hkit⟩ := x.ix _ _ _ hi
      obtain ⟨v, pc, hu⟩ := clsP (p := p3) hk hc hk3
      clear x
      subst ex
      refine PE.imp (pe_callB (call_isX (X := X0) (C := He.ga X0.K P.C) T hz hf) hg hm (by decide +kernel) (pa_cons (pe_var (i := i) hN hv n1 n2) (pa_cons pc pa_nil)) (by decide) (by decide) rfl rfl) fun σ H Q ⟨m, ρ, s, R, p⟩ => ?_
      unfold runE at p
      rw [hh] at p
      dsimp only at p
      rw [hi] at p
      split at p
      · rename_i hc
        obtain ⟨s1, x1⟩ := R.pin P rfl
        obtain ⟨⟨vs, hx, hfs⟩, _⟩ := x1
        rw [← hc] at s1
        exact ⟨.ref P.a, s1, v, c, b, vs, rfl, hu, hx, hkit, post_same p R.st (.bl b) rfl⟩
      · exact p.elim
end
end DI

set_option Elab.async false
set_option linter.all false
set_option maxRecDepth 100000
set_option maxHeartbeats 4000000
/-! DI 13: all expressions. -/
namespace DI
open PySem PySem.Spec PyProof.Rows L2
theorem PTs.imp {X : Cx} {e : List Expr} {t t' : TT} (h : PTs X e t) (i : ∀ σ H Q, t' σ H Q → t σ H Q) : PTs X e t' := ⟨fun pins s σ H Q I q => h.run pins s σ H Q I (i _ _ _ q)⟩
theorem ba {a b : Bool} (h : (a && b) = true) : a = true ∧ b = true := by rwa [Bool.and_eq_true] at h
theorem bn {a : Bool} (h : (!a) = true) : a = false := by simpa using h
mutual
theorem sE {G : Gs} : ∀ (ir : IE) {q : Rq} {Z : Sc} {W : WX} {pr : Option Hdp} {X : Cx}, XOk G q Z W pr X → ∀ {e : Expr}, chkE G Z ir e = true → PE X e (tD X.w X.K W pr (runE q ir))
  | .con d, q, Z, W, pr, X, x, e, h => chkC_ok h
  | .var i, q, Z, W, pr, X, x, e, h => by
    cases e with
    | Name n pos => exact var_ok x (of_decide_eq_true (ba h).1) (ba (ba h).2).1 (ba (ba h).2).2
    | _ => cases h
  | .glo n, q, Z, W, pr, X, x, e, h => by
    cases e with
    | Name y pos =>
      obtain ⟨h1, k2⟩ := ba h
      obtain ⟨h2, k3⟩ := ba k2
      obtain ⟨h3, k4⟩ := ba k3
      have h1 := of_decide_eq_true h1
      subst h1
      exact glo_ok x h2 h3 (of_decide_eq_true k4)
    | _ => cases h
  | .bin o a b, q, Z, W, pr, X, x, e, h => by
    cases e with
    | BinOp l op r pos =>
      obtain ⟨h1, k2⟩ := ba h
      obtain ⟨h2, k3⟩ := ba k2
      have h1 := opB_eq h1
      subst h1
      exact bin_ok (sE a x h2) (sE b x k3)
    | _ => cases h
  | .neg a, q, Z, W, pr, X, x, e, h => by
    cases e with
    | UnaryOp op l pos =>
      cases op with
      | USub => exact negE_ok (sE a x h)
      | _ => cases h
    | _ => cases h
  | .cmp o a b, q, Z, W, pr, X, x, e, h => by
    unfold chkE at h
    split at h
    · obtain ⟨h1, k2⟩ := ba h
      obtain ⟨h2, k3⟩ := ba k2
      obtain ⟨h3, k4⟩ := ba k3
      have h1 := cmpB_eq h1
      subst h1
      exact cmpE_ok x.hu (bn h2) (sE a x h3) (sE b x k4)
    · cases h
  | .chain o o' a b c, q, Z, W, pr, X, x, e, h => by
    unfold chkE at h
    split at h
    · obtain ⟨h1, k2⟩ := ba h
      obtain ⟨h2, k3⟩ := ba k2
      obtain ⟨h3, k4⟩ := ba k3
      obtain ⟨h4, k5⟩ := ba k4
      obtain ⟨h5, k6⟩ := ba k5
      have h1 := cmpB_eq h1
      subst h1
      have h2 := cmpB_eq h2
      subst h2
      exact chainE_ok x.hu (bn h3) (sE a x h4) (sE b x h5) (sE c x k6)
    · cases h
  | .and a b, q, Z, W, pr, X, x, e, h => by
    unfold chkE at h
    split at h
    · obtain ⟨h1, h2⟩ := ba h
      split at h2
      · exact andE_ok (sE a x h1) (pe_one (sE b x h2))
      · exact andE_ok (sE a x h1) (sE b x h2)
    · cases h
  | .or a b, q, Z, W, pr, X, x, e, h => by
    unfold chkE at h
    split at h
    · obtain ⟨h1, h2⟩ := ba h
      split at h2
      · exact orE_ok (sE a x h1) (pe_one (sE b x h2))
      · exact orE_ok (sE a x h1) (sE b x h2)
    · cases h
  | .not a, q, Z, W, pr, X, x, e, h => by
    cases e with
    | UnaryOp op l pos =>
      cases op with
      | Not => exact notE_ok (sE a x h)
      | _ => cases h
    | _ => cases h
  | .ife t a b, q, Z, W, pr, X, x, e, h => by
    cases e with
    | IfExp c l r pos =>
      obtain ⟨h1, k2⟩ := ba h
      obtain ⟨h2, k3⟩ := ba k2
      exact ifeE_ok (sT t x h1).1 (sE a x h2) (sE b x k3)
    | _ => cases h
  | .tup es, q, Z, W, pr, X, x, e, h => by
    cases e with
    | Tuple xs k pos => exact tupE_ok (sEs es x h)
    | _ => cases h
  | .lst es, q, Z, W, pr, X, x, e, h => by
    cases e with
    | List xs pos => exact lstE_ok (sEs es x h)
    | _ => cases h
  | .ix a b, q, Z, W, pr, X, x, e, h => by
    cases e with
    | Subscript l r pos =>
      obtain ⟨h1, k2⟩ := ba h
      obtain ⟨h2, k3⟩ := ba k2
      exact ixE_ok (plainIx_ok h1) (sE a x h2) (sE b x k3)
    | _ => cases h
  | .sl a lo hi, q, Z, W, pr, X, x, e, h => by
    unfold chkE at h
    split at h
    · obtain ⟨h1, k2⟩ := ba h
      obtain ⟨h2, k3⟩ := ba k2
      exact slE_ok (sE a x h1) (sO lo x h2) (sO hi x k3)
    · cases h
  | .rev a, q, Z, W, pr, X, x, e, h => by
    unfold chkE at h
    split at h
    · obtain ⟨h1, k2⟩ := ba h
      have h1 := of_decide_eq_true h1
      subst h1
      exact revE_ok (sE a x k2)
    · cases h
  | .call f es, q, Z, W, pr, X, x, e, h => by
    unfold chkE at h
    split at h
    · obtain ⟨h1, k2⟩ := ba h
      obtain ⟨h2, k3⟩ := ba k2
      obtain ⟨h3, k4⟩ := ba k3
      obtain ⟨h4, k5⟩ := ba k4
      obtain ⟨h5, k6⟩ := ba k5
      have h1 := of_decide_eq_true h1
      subst h1
      obtain ⟨s1, s2⟩ := chkEs_star k6
      exact callE_ok x h4 (gloB_ok x h2) (nmB_ok h3).1 (of_decide_eq_true h5) s1 s2 (sEs es x k6)
    · cases h
  | .blt b es, q, Z, W, pr, X, x, e, h => by
    unfold chkE at h
    split at h
    · obtain ⟨h1, k2⟩ := ba h
      obtain ⟨h2, k3⟩ := ba k2
      obtain ⟨h3, k4⟩ := ba k3
      obtain ⟨h4, k5⟩ := ba k4
      have h1 := of_decide_eq_true h1
      subst h1
      exact bltE_ok (x.cal h3).1 (gloB_ok x h2) (x.free _ (of_decide_eq_true h4)) (chkEs_star k5).1 (sEr es x k5)
    · cases h
  | .isi a t, q, Z, W, pr, X, x, e, h => by
    unfold chkE at h
    split at h
    · obtain ⟨h1, k2⟩ := ba h
      obtain ⟨h2, k3⟩ := ba k2
      obtain ⟨h3, k4⟩ := ba k3
      obtain ⟨h4, k5⟩ := ba k4
      obtain ⟨h5, k6⟩ := ba k5
      obtain ⟨h6, k7⟩ := ba k6
      obtain ⟨h7, k8⟩ := ba k7
      have h1 := of_decide_eq_true h1
      subst h1
      have h4 := of_decide_eq_true h4
      subst h4
      exact isiE_ok (gloB_ok x h2) (x.free _ (of_decide_eq_true h3)) (gloB_ok x h5) (x.free _ (of_decide_eq_true h6)) h7 (sE a x k8)
    · cases h
  | .mth mt o es, q, Z, W, pr, X, x, e, h => by
    unfold chkE at h
    split at h
    · obtain ⟨h1, k2⟩ := ba h
      obtain ⟨h2, k3⟩ := ba k2
      obtain ⟨h3, k4⟩ := ba k3
      obtain ⟨h4, k5⟩ := ba k4
      obtain ⟨h5, k6⟩ := ba k5
      cases mt with
      | append =>
        have h1 := of_decide_eq_true h1
        subst h1
        exact appE_ok h2 h3 (of_decide_eq_true h4) (chkEs_star k6).1 (sE o x h5) (sEs es x k6)
    · cases h
  | .lc own elt g it t, q, Z, W, pr, X, x, e, h => by
    unfold chkE at h
    split at h
    · obtain ⟨h1, k2⟩ := ba h
      obtain ⟨h2, k3⟩ := ba k2
      obtain ⟨h3, k4⟩ := ba k3
      obtain ⟨h4, k5⟩ := ba k4
      obtain ⟨h5, k6⟩ := ba k5
      obtain ⟨h6, k7⟩ := ba k6
      obtain ⟨h7, k8⟩ := ba k7
      obtain ⟨h8, k9⟩ := ba k8
      have h1 := of_decide_eq_true h1
      subst h1
      have ht := sTo t (x := x) h2 h8
      have hg := fun s H C cl fp => sG g (x.blk _ s H C cl fp h2) h7
      have he := fun s H C cl fp => sE elt (x.blk _ s H C cl fp h2) k9
      have hi := sI it x h6
      refine PE.imp (pe_lc (x.cal h2).1 (by rw [x.N]; exact x.nd) hi (blkOk_by (by rw [x.N, x.sc]; exact h3)) hg ht he (notSet_ok h5)) (lcE_ok x h2 h3 (of_decide_eq_true h4) h5 hi hg ht he)
    · cases h
  | .efld i f, q, Z, W, pr, X, x, e, h => by
    unfold chkE at h
    split at h
    · obtain ⟨h1, k2⟩ := ba h
      obtain ⟨h2, k3⟩ := ba k2
      obtain ⟨h3, h4⟩ := ba k3
      have h4 := of_decide_eq_true h4
      subst h4
      exact efld_ok x (of_decide_eq_true h1) h2 h3
    · cases h
  | .eisi i k, q, Z, W, pr, X, x, e, h => by
    unfold chkE at h
    split at h
    · obtain ⟨h1, k2⟩ := ba h
      obtain ⟨h2, k3⟩ := ba k2
      obtain ⟨h3, k4⟩ := ba k3
      obtain ⟨h4, k5⟩ := ba k4
      obtain ⟨h5, k6⟩ := ba k5
      obtain ⟨h6, k7⟩ := ba k6
      obtain ⟨h7, k8⟩ := ba k7
      obtain ⟨h8, h9⟩ := ba k8
      have h1 := of_decide_eq_true h1
      subst h1
      have h7 := of_decide_eq_true h7
      subst h7
      exact eisi_ok x (gloB_ok x h2) (x.free _ (of_decide_eq_true h3)) (of_decide_eq_true h4) h5 h6 (gloB_ok x h8) h9
    · cases h
theorem sTo {G : Gs} : ∀ (t : Option IT) {q : Rq} {Z : Sc} {W : WX} {pr : Option Hdp} {X : Cx}, (x : XOk G q Z W pr X) → Z.calm = true → ∀ {scope : Scope} {ifs : List Expr}, (match t, ifs with
          | none, [] => true
          | some t, [c] => chkT G (Z.blk scope) t c
          | _, _ => false) = true → ∀ (s : Shared) (H : Hp) (C : Addr) (cl : List (Str × Addr)) (fp : List Addr), PTs (X.blk s H scope (compEnvC scope cl C X.env) fp) ifs (tT X.w X.K (fun _ _ _ _ => False) pr (runTo q t))
  | none, q, Z, W, pr, X, x, hc, scope, ifs, h, s, H, C, cl, fp => by
    cases ifs with
    | nil => exact PTs.imp pts_nil fun σ H Q ⟨m, ρ, s, R, p⟩ => p m H .refl R.st
    | cons _ _ => cases h
  | some t, q, Z, W, pr, X, x, hc, scope, ifs, h, s, H, C, cl, fp => by
    cases ifs with
    | nil => cases h
    | cons c r =>
      cases r with
      | nil => exact pts_one (sT t (x.blk scope s H C cl fp hc) h).1
      | cons _ _ => cases h
theorem sEs {G : Gs} : ∀ (es : List IE) {q : Rq} {Z : Sc} {W : WX} {pr : Option Hdp} {X : Cx}, XOk G q Z W pr X → ∀ {xs : List Expr}, chkEs G Z es xs = true → PA X xs (tA X.w X.K W pr (runEs q es))
  | [], q, Z, W, pr, X, x, xs, h => by
    cases xs with
    | nil => exact esNil
    | cons _ _ => cases h
  | e :: es, q, Z, W, pr, X, x, xs, h => by
    cases xs with
    | nil => cases h
    | cons y ys =>
      obtain ⟨h1, k2⟩ := ba h
      obtain ⟨h2, k3⟩ := ba k2
      exact esCons h1 (sE e x h2) (sEs es x k3)
theorem sEr {G : Gs} : ∀ (es : List IE) {q : Rq} {Z : Sc} {W : WX} {pr : Option Hdp} {X : Cx}, XOk G q Z W pr X → ∀ {xs : List Expr}, chkEs G Z es xs = true → PA X xs (tZ X.w X.K W pr (runEr q es))
  | [], q, Z, W, pr, X, x, xs, h => by
    cases xs with
    | nil => exact erNil
    | cons _ _ => cases h
  | e :: es, q, Z, W, pr, X, x, xs, h => by
    cases xs with
    | nil => cases h
    | cons y ys =>
      obtain ⟨h1, k2⟩ := ba h
      obtain ⟨h2, k3⟩ := ba k2
      exact erCons h1 (sE e x h2) (sEr es x k3)
theorem sO {G : Gs} : ∀ (o : Option IE) {q : Rq} {Z : Sc} {W : WX} {pr : Option Hdp} {X : Cx}, XOk G q Z W pr X → ∀ {y : Option Expr}, chkO G Z o y = true → PO X y (tO X.w X.K W pr (runO q o))
  | none, q, Z, W, pr, X, x, y, h => by
    cases y with
    | none => exact oNone
    | some _ => cases h
  | some e, q, Z, W, pr, X, x, y, h => by
    cases y with
    | none => cases h
    | some y => exact oSome (sE e x h)
theorem sT {G : Gs} : ∀ (ir : IT) {q : Rq} {Z : Sc} {W : WX} {pr : Option Hdp} {X : Cx}, XOk G q Z W pr X → ∀ {e : Expr}, chkT G Z ir e = true → PT X e (tT X.w X.K W pr (runT q ir)) ∧ ∀ op vs pos, e = .BoolOp op vs pos → PW X e (tT X.w X.K W pr (runT q ir))
  | .and a b, q, Z, W, pr, X, x, e, h => by
    unfold chkT at h
    split at h
    · obtain ⟨h1, h2⟩ := ba h
      split at h2
      · exact ⟨(andT_ok (sT a x h1).1 (pw_and1 (sT b x h2).1)).pt, fun _ _ _ _ => andT_ok (sT a x h1).1 (pw_and1 (sT b x h2).1)⟩
      · have := andT_ok (sT a x h1).1 ((sT b x h2).2 _ _ _ rfl)
        exact ⟨this.pt, fun _ _ _ _ => this⟩
    · cases h
  | .or a b, q, Z, W, pr, X, x, e, h => by
    unfold chkT at h
    split at h
    · obtain ⟨h1, h2⟩ := ba h
      split at h2
      · exact ⟨(orT_ok (sT a x h1).1 (pw_or1 (sT b x h2).1)).pt, fun _ _ _ _ => orT_ok (sT a x h1).1 (pw_or1 (sT b x h2).1)⟩
      · have := orT_ok (sT a x h1).1 ((sT b x h2).2 _ _ _ rfl)
        exact ⟨this.pt, fun _ _ _ _ => this⟩
    · cases h
  | .not a, q, Z, W, pr, X, x, e, h => by
    cases e with
    | UnaryOp op l pos =>
      cases op with
      | Not => exact ⟨notT_ok (sT a x h).1, fun _ _ _ z => by cases z⟩
      | _ => cases h
    | _ => cases h
  | .cmp o a b, q, Z, W, pr, X, x, e, h => by
    unfold chkT at h
    split at h
    · obtain ⟨h1, k2⟩ := ba h
      obtain ⟨h2, k3⟩ := ba k2
      obtain ⟨h3, k4⟩ := ba k3
      have h1 := cmpB_eq h1
      subst h1
      exact ⟨cmpT_ok x.hu (bn h2) (sE a x h3) (sE b x k4), fun _ _ _ z => by cases z⟩
    · cases h
  | .chain o o' a b c, q, Z, W, pr, X, x, e, h => by
    unfold chkT at h
    split at h
    · obtain ⟨h1, k2⟩ := ba h
      obtain ⟨h2, k3⟩ := ba k2
      obtain ⟨h3, k4⟩ := ba k3
      obtain ⟨h4, k5⟩ := ba k4
      obtain ⟨h5, k6⟩ := ba k5
      have h1 := cmpB_eq h1
      subst h1
      have h2 := cmpB_eq h2
      subst h2
      exact ⟨chainT_ok x.hu (bn h3) (sE a x h4) (sE b x h5) (sE c x k6), fun _ _ _ z => by cases z⟩
    · cases h
  | .tru a, q, Z, W, pr, X, x, e, h => by
    obtain ⟨h1, k2⟩ := ba h
    exact ⟨truT_ok h1 (sE a x k2), fun _ _ _ z => by rw [z] at h1; cases h1⟩
theorem sI {G : Gs} : ∀ (ir : II) {q : Rq} {Z : Sc} {W : WX} {pr : Option Hdp} {X : Cx}, XOk G q Z W pr X → ∀ {tg e : Expr}, chkI G Z ir tg e = true → PI X tg e (tI X.w X.K W pr (runI q ir))
  | .seq a, q, Z, W, pr, X, x, tg, e, h => seqW_ok (sE a x h)
  | .range es, q, Z, W, pr, X, x, tg, e, h => by
    unfold chkI at h
    split at h
    · obtain ⟨h1, k2⟩ := ba h
      obtain ⟨h2, k3⟩ := ba k2
      obtain ⟨h3, k4⟩ := ba k3
      obtain ⟨h4, k5⟩ := ba k4
      have h1 := of_decide_eq_true h1
      subst h1
      obtain ⟨s1, s2⟩ := chkEs_star k5
      exact rngW_ok (gloB_ok x h2) (x.free _ (of_decide_eq_true h3)) s1 s2 (of_decide_eq_true h4) (sEr es x k5)
    · cases h
  | .enum a, q, Z, W, pr, X, x, tg, e, h => by
    unfold chkI at h
    split at h
    · split at h
      · obtain ⟨h1, k2⟩ := ba h
        obtain ⟨h2, k3⟩ := ba k2
        obtain ⟨h3, k4⟩ := ba k3
        obtain ⟨h4, k5⟩ := ba k4
        have h1 := of_decide_eq_true h1
        subst h1
        exact enumW_ok (gloB_ok x h2) (x.free _ (of_decide_eq_true h3)) h4 (sE a x k5)
      · cases h
    · cases h
theorem sG {G : Gs} : ∀ (ir : IG) {q : Rq} {Z : Sc} {W : WX} {pr : Option Hdp} {X : Cx}, XOk G q Z W pr X → ∀ {e : Expr}, chkG G Z ir e = true → PG X e (gD X.w X.K pr ir.slots (runG q ir))
  | .nm i, q, Z, W, pr, X, x, e, h => by
    cases e with
    | Name n pos => exact nmG_ok x (of_decide_eq_true (ba h).1) (ba h).2
    | _ => cases h
  | .tup gs, q, Z, W, pr, X, x, e, h => by
    cases e with
    | Tuple xs k pos =>
      obtain ⟨h1, k2⟩ := ba h
      obtain ⟨s1, s2, s3⟩ := sGs gs x k2
      exact tupG_ok (x.cal h1).1 s1 s2 s3
    | _ => cases h
  | .sub o i, q, Z, W, pr, X, x, e, h => by
    cases e with
    | Subscript l r pos =>
      obtain ⟨h1, k2⟩ := ba h
      obtain ⟨h2, k3⟩ := ba k2
      exact subG_ok h1 (sE o x h2) (sE i x k3)
    | _ => cases h
theorem sGs {G : Gs} : ∀ (gs : List IG) {q : Rq} {Z : Sc} {W : WX} {pr : Option Hdp} {X : Cx}, XOk G q Z W pr X → ∀ {xs : List Expr}, chkGs G Z gs xs = true → xs.all notStar = true ∧ gs.length = xs.length ∧ PGs X xs (gDs X.w X.K pr (IG.slots.slotss gs) (runGs q gs))
  | [], q, Z, W, pr, X, x, xs, h => by
    cases xs with
    | nil => exact ⟨rfl, rfl, gsNil⟩
    | cons _ _ => cases h
  | g :: gs, q, Z, W, pr, X, x, xs, h => by
    cases xs with
    | nil => cases h
    | cons y ys =>
      obtain ⟨h1, k2⟩ := ba h
      obtain ⟨h2, k3⟩ := ba k2
      obtain ⟨s1, s2, s3⟩ := sGs gs x k3
      exact ⟨by rw [List.all_cons, h1, s1]; rfl, by simp [s2], gsCons h1 (sG g x h2) s3⟩
end
end DI

set_option Elab.async false
set_option linter.all false
set_option maxRecDepth 100000
set_option maxHeartbeats 4000000
/-! DI 14: statements but raise and try. -/
namespace DI
open PySem PySem.Spec PyProof.Rows L2
section
variable {w : World} {K : PySem.W.Frag} {W : WX} {pr : Option Hdp} {σ : L2.St} {m : List Addr} {H : Hp} {s : S} {ρ : En} {D : Ends}
theorem exS (R₀ : Rst w K pr m ρ s σ H) {C fs} {s' : S} (h : PostS w K W pr m H D (.exc C fs ρ s')) : ∀ m' H' dx, Ex m H m' H' → StOk w K m' H' s' → ExcAt w K m' H' dx fs → W (.ref (He.ga K C)) (some dx) σ H' :=
  fun m' H' dx e st x => h m' σ H' dx e (R₀.mono e st) x
theorem sE0 {f : En → S → R DI.D} {g : DI.D → S → RS} {k : V → Hp → Prop} (R₀ : Rst w K pr m ρ s σ H) (h : PostS w K W pr m H D ((f ρ s).thn ρ g))
    (hk : ∀ d s1 m1 v H1, PostS w K W pr m H D (g d s1) → Ex m H m1 H1 → Rst w K pr m1 ρ s1 σ H1 → Rp w K m1 H1 d v → Fresh H d v → k v H1) : tD w K W pr f σ H k := by
  refine ⟨m, ρ, s, R₀, ?_⟩
  cases q : f ρ s with
  | ok d s1 => rw [q] at h; exact fun m1 v H1 e st rp fr => hk d s1 m1 v H1 h e (R₀.mono e st) rp fr
  | exc C fs s' => rw [q] at h; exact exS R₀ h
  | bad => rw [q] at h; exact h
theorem sE1 {f : En → S → R DI.D} {g : DI.D → S → RS} {k : V → Hp → Prop} (R₀ : Rst w K pr m ρ s σ H) (h : PostS w K W pr m H D ((f ρ s).thn ρ g))
    (hk : ∀ d s1 m1 v H1, PostS w K W pr m1 H1 D (g d s1) → Ex m H m1 H1 → Rst w K pr m1 ρ s1 σ H1 → Rp w K m1 H1 d v → Fresh H d v → k v H1) : tD w K W pr f σ H k :=
  sE0 R₀ h fun d s1 m1 v H1 p e R1 r f => hk d s1 m1 v H1 (p.mono e R1.st) e R1 r f
theorem sT1 {f : En → S → R Bool} {g : Bool → S → RS} {k : Bool → Hp → Prop} (R₀ : Rst w K pr m ρ s σ H) (h : PostS w K W pr m H D ((f ρ s).thn ρ g))
    (hk : ∀ d s1 m1 H1, PostS w K W pr m1 H1 D (g d s1) → Ex m H m1 H1 → Rst w K pr m1 ρ s1 σ H1 → k d H1) : tT w K W pr f σ H k := by
  refine ⟨m, ρ, s, R₀, ?_⟩
  cases q : f ρ s with
  | ok d s1 => rw [q] at h; exact fun m1 H1 e st => hk d s1 m1 H1 (PostS.mono e st h) e (R₀.mono e st)
  | exc C fs s' => rw [q] at h; exact exS R₀ h
  | bad => rw [q] at h; exact h
theorem sA1 {f : En → S → R (List DI.D)} {g : List DI.D → S → RS} {k : List V → Hp → Prop} (R₀ : Rst w K pr m ρ s σ H) (h : PostS w K W pr m H D ((f ρ s).thn ρ g))
    (hk : ∀ ds s1 m1 vs H1, f ρ s = .ok ds s1 → PostS w K W pr m1 H1 D (g ds s1) → Ex m H m1 H1 → Rst w K pr m1 ρ s1 σ H1 → Rps w K m1 H1 ds vs → k vs H1) : tA w K W pr f σ H k := by
  refine ⟨m, ρ, s, R₀, ?_⟩
  cases q : f ρ s with
  | ok d s1 => rw [q] at h; exact fun m1 vs H1 e st r => hk d s1 m1 vs H1 q (PostS.mono e st h) e (R₀.mono e st) r
  | exc C fs s' => rw [q] at h; exact exS R₀ h
  | bad => rw [q] at h; exact h
theorem sI1 {f : En → S → R Its} {g : Its → S → RS} {k : It → Hp → Prop} (R₀ : Rst w K pr m ρ s σ H) (h : PostS w K W pr m H D ((f ρ s).thn ρ g))
    (hk : ∀ I s1 m1 J H1, PostS w K W pr m1 H1 D (g I s1) → Ex m H m1 H1 → Rst w K pr m1 ρ s1 σ H1 → WalkD w K m1 H1 J I → k J H1) : tI w K W pr f σ H k := by
  refine ⟨m, ρ, s, R₀, ?_⟩
  cases q : f ρ s with
  | ok d s1 => rw [q] at h; exact fun m1 H1 J e st r => hk d s1 m1 J H1 (PostS.mono e st h) e (R₀.mono e st) r
  | exc C fs s' => rw [q] at h; exact exS R₀ h
  | bad => rw [q] at h; exact h
end
section
variable {G : Gs} {q : Rq} {Z : Sc} {W : WX} {pr : Option Hdp} {X : Cx}
theorem asgS_ok {g : IG} {e : IE} {tg v : Expr} {pos : Pos} (hs : notStar tg = true) (hsw : swapsWithSole [tg] v pos.line X.env = pure false) (hw : swappedStores [tg] v X.env = pure none) (he : PE X v (tD X.w X.K W pr (runE q e)))
    (hg : PG X tg (gD X.w X.K pr g.slots (runG q g))) : PS X (.Assign [tg] v pos) (tS X.w X.K W pr (runS q (.asg g e))) := by
  refine PS.imp (ps_asg he hg hsw hw (by rw [assign_star hs]; rfl)) fun D σ H ⟨m, ρ, s, R, p⟩ => sE0 R p fun d s1 m1 v H1 p1 e1 R1 r1 f1 => ?_
  refine ⟨m, H, m1, ρ, s1, d, e1, R1, r1, f1, ?_⟩
  cases eg : runG q g d ρ s1 with
  | ok ρ' s' => rw [eg] at p1; exact fun m' σ' H' ex R' _ _ => p1 m' σ' H' ex R'
  | exc C fs s' => rw [eg] at p1; exact p1
  | bad => rw [eg] at p1; exact p1
/-- name = [..] that is stored within the comprehension's frame -/
theorem asgLc_ok {i : Nat} {own : List (Str × Nat)} {elt : IE} {g : IG} {it : II} {t : Option IT} {n : Str} {py pos spos : Pos} {e tg iter : Expr} {ifs : List Expr} {scope : Scope} (x : XOk G q Z W pr X) (hN : Z.N[i]? = some n) (hl : X.env.scope.names.lookup n = some .local)
    (hsw : swapsWith (.ListComp e [⟨tg, iter, ifs, 0⟩] scope pos) (some (.Name n py)) spos.line X.env = pure true) (hc : Z.calm = true) (ok : blkC Z.N Z.sc scope own = true)
    (hsl : ∀ i ∈ g.slots, i ∈ own.map (·.2)) (hset : notSet iter = true) (hi : PI X tg iter (tI X.w X.K W pr (runI q it)))
    (hg : ∀ (s : Shared) (H : Hp) (C : Addr) (cl : List (Str × Addr)) (fp : List Addr), PG (X.blk s H scope (compEnvC scope cl C X.env) fp) tg (gD X.w X.K pr g.slots (runG q g)))
    (ht : ∀ (s : Shared) (H : Hp) (C : Addr) (cl : List (Str × Addr)) (fp : List Addr), PTs (X.blk s H scope (compEnvC scope cl C X.env) fp) ifs (tT X.w X.K (fun _ _ _ _ => False) pr (runTo q t)))
    (he : ∀ (s : Shared) (H : Hp) (C : Addr) (cl : List (Str × Addr)) (fp : List Addr), PE (X.blk s H scope (compEnvC scope cl C X.env) fp) e (tD X.w X.K (fun _ _ _ _ => False) pr (runE q elt))) :
    PS X (.Assign [.Name n py] (.ListComp e [⟨tg, iter, ifs, 0⟩] scope pos) spos) (tS X.w X.K W pr (runS q (.asg (.nm i) (.lc own elt g it t)))) := by
  refine PS.imp (ps_setLc (i := i) (x.cal hc).1 (by rw [x.N]; exact x.nd) (by rw [x.N]; exact hN) hl hsw hi (blkOk_by (by rw [x.N, x.sc]; exact ok)) hg ht he (notSet_ok hset)) fun D σ H ⟨m, ρ, s, R, p⟩ => ?_
  refine lcE_ok x hc ok hsl hset hi hg ht he σ H _ (sE0 R p fun d s1 m1 v H1 p1 e1 R1 r1 f1 => ?_)
  unfold runG at p1
  cases e2 : setl d s1 with
  | ok d' s' =>
    rw [e2] at p1
    obtain ⟨m', e3, R2, r2, hs, _⟩ := setl_rst e1 R1 r1 f1 e2
    have p1 : PostS X.w X.K W pr m H D ((if i < ρ.length ∧ hdOk q.hd i = true then (DI.R.ok (ρ.set i (some d')) s' : DI.R En) else .bad).nox.thn ρ fun ρ s => .nx ρ s) := p1
    split at p1
    · rename_i h
      exact p1 m' _ H1 e3 (R2.set hs r2 h.1 fun pp ep => (by
        have h2 := h.2
        rw [x.hd, ep] at h2
        exact of_decide_eq_true h2))
    · exact p1.elim
  | exc C fs s' => exact (setl_exc e2).elim
  | bad => rw [e2] at p1; exact p1.elim
def rAug (o : BOp) : R2 := fun x y H Q => match o with
  | .add => rI0 (fun i j => .int (i + j)) x y H Q ∨ (∃ i j, x = .str i ∧ y = .str j ∧ i.length + j.length ≤ sizeLine ∧ Q (.str (i ++ j)) H)
  | .sub => rI0 (fun i j => .int (i - j)) x y H Q
  | .mul => rI CMul (fun i j => .int (i * j)) x y H Q
  | _ => False
theorem op_aug (o : BOp) : OpR X (inplaceOp (opOf o)) (rAug o) := by
  cases o with
  | add => exact iop_add.or iop_add_str
  | sub => exact iop_sub
  | mul => exact iop_mul
  | fdiv => exact fun _ _ _ _ _ _ _ _ _ _ _ _ q => q.elim
  | mod => exact fun _ _ _ _ _ _ _ _ _ _ _ _ q => q.elim
  | pow => exact fun _ _ _ _ _ _ _ _ _ _ _ _ q => q.elim
theorem augS_ok {i : Nat} {o : BOp} {e : IE} {n : Str} {v : Expr} {p' pos : Pos} (x : XOk G q Z W pr X) (hi : Z.N[i]? = some n) (hl : locB Z n = true) (he : PE X v (tD X.w X.K W pr (runE q e))) : PS X (.AugAssign (.Name n p') (opOf o) v pos) (tS X.w X.K W pr (runS q (.aug i o e))) := by
  have hx : L2.Loc X.env.scope n ∧ (X.fn n = true ∨ X.env.scope.names.lookup n = some .local) := by
    rw [x.sc, x.fn]
    unfold locB at hl
    unfold L2.Loc
    split at hl
    · rename_i e; rw [e]; simp
    · rename_i e; rw [e]; simp [hl]
    · cases hl
  refine PS.imp (ps_aug (i := i) (by rw [x.N]; exact x.nd) (by rw [x.N]; exact hi) hx.1 he (ti := rAug o) (op_aug o) hx.2) fun D σ H ⟨m, ρ, s, R, p⟩ => ?_
  unfold runS at p
  split at p
  · rename_i d ed
    obtain ⟨hd, v, ev, rd⟩ := R.at_ i d ed
    refine ⟨v, ev, sE1 R p fun d2 s1 m1 v2 H1 p1 e1 R1 r1 f1 => ?_⟩
    have hil : i < ρ.length := (List.getElem?_eq_some_iff.mp ed).1
    split at p1
    · rename_i hh
      have hpp : ∀ p, pr = some p → i ≠ p.i := fun pp ep => by
        rw [x.hd, ep] at hh
        exact of_decide_eq_true hh
      have rd1 := rd.mono e1
      have fin : ∀ z zv, z.shr = true → Rp X.w X.K m1 H1 z zv → PostS X.w X.K W pr m1 H1 D (.nx (ρ.set i (some z)) s1) → D.nx (σ.set i (some zv)) H1 := fun z zv hz rz p => p m1 _ H1 .refl (R1.set hz rz hil hpp)
      unfold augD at p1
      split at p1
      · cases rd1; cases r1
        split at p1
        · exact .inl ⟨_, _, rfl, rfl, fin _ _ rfl (.int _) p1⟩
        · exact ⟨_, _, rfl, rfl, fin _ _ rfl (.int _) p1⟩
        · split at p1
          · rename_i hz; exact ⟨_, _, rfl, rfl, hz, fin _ _ rfl (.int _) p1⟩
          · exact p1.elim
        · exact p1.elim
      · cases rd1; cases r1
        split at p1
        · split at p1
          · rename_i hz; exact .inr ⟨_, _, rfl, rfl, hz, fin _ _ rfl (.str _) p1⟩
          · exact p1.elim
        · exact p1.elim
      · exact p1.elim
    · exact p1.elim
  · exact p.elim
theorem exprS_ok {e : IE} {v : Expr} {pos : Pos} (hs : swapsWith v none pos.line X.env = pure false) (he : PE X v (tD X.w X.K W pr (runE q e))) : PS X (.Expr v pos) (tS X.w X.K W pr (runS q (.expr e))) :=
  PS.imp (ps_expr he hs) fun D σ H ⟨m, ρ, s, R, p⟩ => sE1 R p fun d s1 m1 v H1 p1 e1 R1 r1 f1 => p1 m1 σ H1 .refl R1
theorem retN_ok {pos : Pos} : PS X (.Return none pos) (tS X.w X.K W pr (runS q (.ret none))) :=
  PS.imp ps_retN fun D σ H ⟨m, ρ, s, R, p⟩ => p m .non H .refl R.st .non fun z => by cases z
theorem ret_ok {e : IE} {v : Expr} {pos : Pos} (he : PE X v (tD X.w X.K W pr (runE q e))) : PS X (.Return (some v) pos) (tS X.w X.K W pr (runS q (.ret (some e)))) :=
  PS.imp (ps_ret he) fun D σ H ⟨m, ρ, s, R, p⟩ => sE0 R p fun d s1 m1 v H1 p1 e1 R1 r1 f1 => p1 m1 v H1 e1 R1.st r1 f1
theorem ifS_ok {t : IT} {a b : List IS} {c : Expr} {x y : List Stmt} {pos : Pos} (ht : PT X c (tT X.w X.K W pr (runT q t))) (ha : PSs X x (tS X.w X.K W pr (runSs q a))) (hb : PSs X y (tS X.w X.K W pr (runSs q b))) : PS X (.If c x y pos) (tS X.w X.K W pr (runS q (.ife t a b))) :=
  PS.imp (ps_if ht ha hb) fun D σ H ⟨m, ρ, s, R, p⟩ => sT1 R p fun k s1 m1 H1 p1 e1 R1 => ite_t (fun hk => by rw [if_pos hk] at p1; exact ⟨m1, ρ, s1, R1, p1⟩) fun hk => by rw [if_neg (by rw [hk]; decide)] at p1; exact ⟨m1, ρ, s1, R1, p1⟩
theorem seqS_nil : PSs X [] (tS X.w X.K W pr (runSs q [])) := PSs.imp pss_nil fun D σ H ⟨m, ρ, s, R, p⟩ => p m σ H .refl R
theorem seqS_cons {st : IS} {r : List IS} {x : Stmt} {xs : List Stmt} (h : PS X x (tS X.w X.K W pr (runS q st))) (t : PSs X xs (tS X.w X.K W pr (runSs q r))) : PSs X (x :: xs) (tS X.w X.K W pr (runSs q (st :: r))) := by
  refine PSs.imp (pss_cons h t) fun D σ H ⟨m, ρ, s, R, p⟩ => ⟨m, ρ, s, R, ?_⟩
  unfold runSs at p
  cases e : runS q st ρ s with
  | nx ρ' s' => rw [e] at p; exact fun m' σ' H' ex R' => ⟨m', ρ', s', R', PostS.mono ex R'.st p⟩
  | rt d s' => rw [e] at p; exact p
  | bk ρ' s' => rw [e] at p; exact p
  | ct ρ' s' => rw [e] at p; exact p
  | exc C fs ρ' s' => rw [e] at p; exact p
  | bad => rw [e] at p; exact p
theorem forS_ok {g : IG} {it : II} {body : List IS} {tg iter : Expr} {bs : List Stmt} {pos : Pos} (x : XOk G q Z W pr X) (hc : X.calm = true) (hset : notSet iter = true) (hi : PI X tg iter (tI X.w X.K W pr (runI q it))) (hg : PG X tg (gD X.w X.K pr g.slots (runG q g)))
    (hb : PSs X bs (tS X.w X.K W pr (runSs q body))) : PS X (.For tg iter bs [] pos) (tS X.w X.K W pr (runS q (.fo g it body))) := by
  refine PS.imp (ps_for x.po hc hi hg hb (notSet_ok hset)) fun D σ H ⟨m, ρ, s, R, p⟩ => sI1 R p fun I s1 m1 J H1 p1 e1 R1 wk => ?_
  refine ⟨fun i k σ Hh => k = I.xs.length - i ∧ i ≤ I.xs.length ∧ ∃ m ρ s, Ex m1 H1 m Hh ∧ Rst X.w X.K pr m ρ s σ Hh ∧ PostS X.w X.K W pr m Hh D (foL (fun x ρ s => runG q g x ρ s) (fun ρ s => runSs q body ρ s) I.ok (I.xs.drop i) ρ s),
    ⟨_, rfl, Nat.zero_le _, m1, ρ, s1, .refl, R1, p1⟩, ?_⟩
  rintro i k σ2 Hh ⟨rfl, hi, m2, ρ2, s2, ex, R2, p2⟩
  by_cases hlt : i < I.xs.length
  · have ed : I.xs.drop i = I.xs[i] :: I.xs.drop (i + 1) := List.drop_eq_getElem_cons hlt
    rw [ed] at p2
    unfold foL at p2
    split at p2
    · rename_i hok
      refine .inr ⟨wk.go i m2 Hh s2 hlt ex R2.st hok, fun σ' H' => i + 1 ≤ I.xs.length ∧ ∃ m ρ s, Ex m1 H1 m H' ∧ Rst X.w X.K pr m ρ s σ' H' ∧ PostS X.w X.K W pr m H' D (foL (fun x ρ s => runG q g x ρ s) (fun ρ s => runSs q body ρ s) I.ok (I.xs.drop (i + 1)) ρ s),
        fun σ' H' h => ⟨I.xs.length - (i + 1), by omega, rfl, h.1, h.2⟩, fun v H' y => ?_⟩
      obtain ⟨d, e2, hd, ex2, st2, rd⟩ := wk.yld i m2 Hh s2 v H' hlt ex R2.st hok y
      rw [List.getElem?_eq_getElem hlt] at e2
      cases e2
      have R3 := R2.mono ex2 st2
      have p2 := p2.mono ex2 st2
      refine ⟨m2, H', m2, ρ2, s2, _, .refl, R3, rd, fun z => (by rw [hd] at z; cases z), ?_⟩
      cases eg : runG q g I.xs[i] ρ2 s2 with
      | ok ρ3 s3 =>
        rw [eg] at p2
        dsimp only at p2
        intro m3 σ3 H3 ex3 R3' _ _
        have p3 := PostS.mono ex3 R3'.st p2
        have exA := (ex.trans ex2).trans ex3
        refine ⟨m3, ρ3, s3, R3', ?_⟩
        cases eb : runSs q body ρ3 s3 with
        | nx ρ4 s4 =>
          rw [eb] at p3
          exact fun m4 σ4 H4 ex4 R4 => ⟨hlt, m4, ρ4, s4, exA.trans ex4, R4, PostS.mono ex4 R4.st p3⟩
        | ct ρ4 s4 =>
          rw [eb] at p3
          exact fun m4 σ4 H4 ex4 R4 => ⟨hlt, m4, ρ4, s4, exA.trans ex4, R4, PostS.mono ex4 R4.st p3⟩
        | bk ρ4 s4 => rw [eb] at p3; exact p3
        | rt d s4 => rw [eb] at p3; exact p3
        | exc C fs ρ4 s4 => rw [eb] at p3; exact p3
        | bad => rw [eb] at p3; exact p3
      | exc C fs s' => rw [eg] at p2; exact p2
      | bad => rw [eg] at p2; exact p2
    · exact p2.elim
  · have ei : i = I.xs.length := by omega
    subst ei
    rw [List.drop_length] at p2
    unfold foL at p2
    split at p2
    · rename_i hok
      exact .inl ⟨wk.stop m2 Hh s2 ex R2.st hok, p2 m2 σ2 Hh .refl R2⟩
    · exact p2.elim
theorem whlS_ok {t : IT} {body : List IS} {c : Expr} {bs : List Stmt} {pos : Pos} (x : XOk G q Z W pr X) (ht : PT X c (tT X.w X.K W pr (runT q t))) (hb : PSs X bs (tS X.w X.K W pr (runSs q body))) : PS X (.While c bs [] pos) (tS X.w X.K W pr (runS q (.whl t body))) := by
  refine PS.imp (ps_while x.po ht hb) fun D σ H ⟨m, ρ, s, R, p⟩ => ?_
  refine ⟨fun n σ H => ∃ m ρ s, Rst X.w X.K pr m ρ s σ H ∧ PostS X.w X.K W pr m H D (whL (fun ρ s => runT q t ρ s) (fun ρ s => runSs q body ρ s) n ρ s), ⟨q.fuel, m, ρ, s, R, p⟩, ?_⟩
  rintro n σ2 H2 ⟨m2, ρ2, s2, R2, p2⟩
  cases n with
  | zero => exact p2.elim
  | succ n =>
    unfold whL at p2
    refine ⟨m2, ρ2, s2, R2, ?_⟩
    cases et : runT q t ρ2 s2 with
    | ok k s3 =>
      rw [et] at p2
      intro m3 H3 ex3 st3
      have R3 := R2.mono ex3 st3
      cases k with
      | true =>
        rw [if_pos rfl]
        dsimp only at p2
        have p3 := PostS.mono ex3 st3 p2
        refine ⟨fun σ' H' => ∃ m ρ s, Rst X.w X.K pr m ρ s σ' H' ∧ PostS X.w X.K W pr m H' D (whL (fun ρ s => runT q t ρ s) (fun ρ s => runSs q body ρ s) n ρ s), fun σ' H' h => ⟨n, Nat.lt_succ_self n, h⟩, m3, ρ2, s3, R3, ?_⟩
        cases eb : runSs q body ρ2 s3 with
        | nx ρ4 s4 => rw [eb] at p3; exact fun m4 σ4 H4 ex4 R4 => ⟨m4, ρ4, s4, R4, PostS.mono ex4 R4.st p3⟩
        | ct ρ4 s4 => rw [eb] at p3; exact fun m4 σ4 H4 ex4 R4 => ⟨m4, ρ4, s4, R4, PostS.mono ex4 R4.st p3⟩
        | bk ρ4 s4 => rw [eb] at p3; exact p3
        | rt d s4 => rw [eb] at p3; exact p3
        | exc C fs ρ4 s4 => rw [eb] at p3; exact p3
        | bad => rw [eb] at p3; exact p3
      | false =>
        rw [if_neg (by decide)]
        exact p2 m3 σ2 H3 ex3 R3
    | exc C fs s' => rw [et] at p2; exact exS R2 p2
    | bad => rw [et] at p2; exact p2
end
end DI

set_option Elab.async false
set_option linter.all false
set_option maxRecDepth 100000
set_option maxHeartbeats 4000000
/-! DI 15: raise, try. -/
namespace DI
open PySem PySem.Spec PyProof.Rows L2
/-! ### try, several clauses, each with a name or without -/
def Ends.un (D : Ends) : Option Nat → Ends
  | none => D
  | some i => { nx := fun σ' H' => D.nx (σ'.set i none) H', rt := D.rt, bk := fun σ' H' => D.bk (σ'.set i none) H', ct := fun σ' H' => D.ct (σ'.set i none) H' }
def held (a : Addr) (σ : L2.St) : Option Nat → L2.St
  | none => σ
  | some i => σ.set i (some (.ref a))
abbrev Cl := Value × Option Nat × (Addr → Value → Option Addr → TS)
def wAll (K : PySem.W.Frag) (Wout : WX) (D : Ends) : List Cl → WX
  | [] => Wout
  | (c, i, ts) :: r => fun cls d σ H => ∃ b, PySem.W.exmOne K cls c = some b ∧ (b = true → ∀ a, H a = none → ts a cls d (Ends.un D i) (held a σ i) H) ∧ (b = false → wAll K Wout D r cls d σ H)
inductive ClsOk (X : Cx) : List ExceptHandler → List Cl → Prop
  | nil : ClsOk X [] []
  | cons {x : Str} {c : Value} {ts : Addr → Value → Option Addr → TS} {b₀ : Stmt} {suite : List Stmt} {np pos' : Pos} {hds : List ExceptHandler} {l : List Cl} (hc : Names X x c)
      (hsu : ∀ (a : Addr) (oe : Obj) (cls : Value) (d : Option Addr) (pn : List (Addr × Obj)), Zc cls d oe → (∃ vs, oe.data = .fields vs) → PSs (X.suite a ((a, oe) :: pn)) (b₀ :: suite) (ts a cls d)) (r : ClsOk X hds l) :
      ClsOk X (.ExceptHandler (some (.Name x np)) none (b₀ :: suite) pos' :: hds) ((c, none, ts) :: l)
  | as {x n : Str} {c : Value} {i : Nat} {ts : Addr → Value → Option Addr → TS} {b₀ : Stmt} {suite : List Stmt} {np pos' : Pos} {hds : List ExceptHandler} {l : List Cl} (hi : X.N[i]? = some n) (hln : X.env.kindOf n = some .local) (hc : Names X x c)
      (hsu : ∀ (a : Addr) (oe : Obj) (cls : Value) (d : Option Addr) (pn : List (Addr × Obj)), Zc cls d oe → (∃ vs, oe.data = .fields vs) → PSs (X.suite a ((a, oe) :: pn)) (b₀ :: suite) (ts a cls d)) (r : ClsOk X hds l) :
      ClsOk X (.ExceptHandler (some (.Name x np)) (some n) (b₀ :: suite) pos' :: hds) ((c, some i, ts) :: l)
section
variable {X : Cx} {body : List Stmt} {h₀ : ExceptHandler} {hds : List ExceptHandler} {l : List Cl} {pos : Pos} {tb : WX → TS} {Wout : WX}
theorem ps_try_all (hs : X.stack = X.env :: X.outer) (hf : X.env.frame = some X.env.locals) (hN : X.N.Nodup) (tk : Takes X Wout)
    (hb : ∀ (W : WX) (pn : List (Addr × Obj)) (xe : Value → Shared → Prop), Takes (X.tr pn xe) W → PassesOwn (model X.prog X.w) X.A X.env xe → PSs (X.tr pn xe) body (tb W))
    (hh : ClsOk X (h₀ :: hds) l) : PS X (.Try body (h₀ :: hds) [] [] pos) (fun D σ H => tb (wAll X.K Wout D l) D σ H) := by
  refine ⟨fun pins s σ H D I h => ?_⟩
  have ok := I.ok
  have hfr : X.A.frames = some (X.env :: X.outer) := by rw [ok.frames, hs]
  refine wpAny_Try_except ?_
  refine wpAny_mono ((hb (wAll X.K Wout D l) (X.pn ++ pins) (fun e s₁ => wpAny (model X.prog X.w) X.A (noteFrame e X.env) (fun _ s₂ => wpAny (model X.prog X.w) X.A (setFlight e none) (fun _ s₃ =>
    wpAny (model X.prog X.w) X.A (handleBy e X.env (h₀ :: hds)) (SP X pins D) X.xe s₃) X.xe s₂) X.xe s₁) (fun u s' xx => ?_) PassesOwn.looking).run [] s σ H D (I.toTry _) h) (fun f s1 hsp => ?_) (fun e s1 he => he)
  · obtain ⟨a, B, sI, pins', σ', H', cls, d, rfl, J', nb, up, sky, na, os, ag, w⟩ := xx
    have J : Inv X pins σ' H' sI := J'.ofTry ok
    have sky' : Sky B (X.env :: X.outer) a (Zc cls d) X.env.locals s'.heap := by rw [← hs]; exact sky
    show wpAny (model X.prog X.w) X.A (noteFrame (.ref a) X.env) _ _ _
    refine Sky.land Zc.steady hfr hf sky' fun h3 fl3 up3 => ?_
    have J3 : Inv X pins σ' H' { s' with heap := h3 } := J.landed nb fl3.1 (up.trans up3) os ag
    obtain ⟨oe3, vs3, he3, hz3, hd3⟩ := fl3.there
    have notFr : ∀ {h : Heap} {o : Obj} {vs : Array Value}, h.FunFrames B (X.env :: X.outer) → h.get? a = some o → o.data = .fields vs → a ∉ frs (X.env :: X.outer) := fun {h o vs} ff e dd hm => by
      obtain ⟨_, o', e', hnf⟩ := ff.mem hm
      rw [e] at e'; cases e'
      exact hnf _ dd
    have nfr := notFr fl3.2.2.1 he3 hd3
    have nL : a ≠ X.env.locals := fun z => nfr (List.mem_filterMap.mpr ⟨X.env, List.mem_cons_self, by rw [hf, z]⟩)
    have nF : a ∉ X.fs := fun hm => by
      obtain ⟨e, he, q⟩ := List.mem_filterMap.mp hm
      exact nfr (List.mem_filterMap.mpr ⟨e, List.mem_cons_of_mem _ he, q⟩)
    have S3 := J3.suite he3 hd3 na nL nF
    have look : ∀ {x : Str} {c : Value} {np : Pos} {b : Bool} {Q : Bool → Shared → Prop} {E : Value → Shared → Prop}, Names X x c → PySem.W.exmOne X.K cls c = some b → Q b { s' with heap := h3 } →
        ∀ {Q : Value → Shared → Prop}, Q c { s' with heap := h3 } → wpAny (model X.prog X.w) (X.A.mark (some (.ref a))) (eval (.Name x np) X.env) Q E { s' with heap := h3 } := fun {x c np b Q E} hc _ _ {Q} q => by
      obtain ⟨hg, hdbg, hm | ⟨hm, hv, hnn⟩⟩ := hc
      · exact ld_glob (X := X.suite a ((a, oe3) :: (X.pn ++ pins))) S3 hg hm q hdbg
      · exact ld_blt (X := X.suite a ((a, oe3) :: (X.pn ++ pins))) S3 hg hm hv q hnn hdbg
    have test : ∀ {x : Str} {c : Value} {np : Pos} {Q : Value → Shared → Prop} {E : Value → Shared → Prop}, Names X x c → Q c { s' with heap := h3 } → wpAny (model X.prog X.w) (X.A.mark (some (.ref a))) (eval (.Name x np) X.env) Q E { s' with heap := h3 } := fun {x c np Q E} hc q => by
      obtain ⟨hg, hdbg, hm | ⟨hm, hv, hnn⟩⟩ := hc
      · exact ld_glob (X := X.suite a ((a, oe3) :: (X.pn ++ pins))) S3 hg hm q hdbg
      · exact ld_blt (X := X.suite a ((a, oe3) :: (X.pn ++ pins))) S3 hg hm hv q hnn hdbg
    have LT : PySem.W.Looks (model X.prog X.w) h3 (typeOf (.ref a)) cls := fun A Q E s k q => wpAny_typeOf_ref (k _ _ he3) (by rw [hz3.1]; exact q)
    have go : ∀ {hds' : List ExceptHandler} {l' : List Cl}, ClsOk X hds' l' → wAll X.K Wout D l' cls d σ' H' →
        wpAny (model X.prog X.w) X.A (handleBy (.ref a) X.env hds') (SP X pins D) X.xe { s' with heap := h3 } := by
      intro hds' l' hk
      induction hk with
      | nil =>
        intro w
        refine wpAny_handleBy_nil ?_
        obtain ⟨k1, k2, k3, oe, vs, T, oT, ts', he, hz, hd, h1, hr⟩ := id fl3
        unfold PySem.passOn
        refine wpAny_bind (wpAny_field he hd h1 ?_)
        rw [if_neg (show ¬ ((Value.ref T == Value.none) = true) from by simp)]
        have fin : wpAny (model X.prog X.w) X.A (setFlight (.ref a) X.env.frame) (fun _ s4 => wpAny (model X.prog X.w) X.A (throw (.ref a) : Sem Flow) (SP X pins D) X.xe s4) X.xe { s' with heap := h3 } := by
          rw [hf]
          refine HandSPX.setFlight_upZ fl3 fun h4 hh4 up4 => wpAny_throw (tk _ _ ?_)
          exact ⟨a, B, sI, pins, σ', H', cls, d, rfl, J, nb, (up.trans up3).trans up4, .inr (.inr (by rw [hs]; exact hh4)), na, os, ag, w⟩
        first
          | exact wpAny_bind (wpAny_pure (wpAny_bind fin))
          | exact wpAny_bind fin
      | @cons x c ts b₀ suite np pos' hds2 l2 hc hsu r ih =>
        intro w
        obtain ⟨b, hb1, hyes, hno⟩ := w
        refine wpAny_handleBy_cons (codeAny_handlers_test ?_) (by intro q; cases q)
        have LM := PySem.W.exm_one (M := model X.prog X.w) (J3.kIn) LT hb1
        refine test hc (LM.here ?_)
        cases b with
        | true =>
          refine codeAny_handlers_suite ?_
          refine HandSPX.lands_againZ fl3 fun h4 fl4 up4 => ?_
          have J4 : Inv X pins σ' H' { s' with heap := h4 } := J.landed nb fl4.1 ((up.trans up3).trans up4) os ag
          obtain ⟨oe4, vs4, he4, hz4, hd4⟩ := fl4.there
          have S4 := J4.suite he4 hd4 na nL nF
          refine wpAny_mono ((hsu a oe4 cls d (X.pn ++ pins) hz4 ⟨_, hd4⟩).run [] _ _ H' _ S4 (hyes rfl a na)) (fun f s6 hsp => ?_) (fun _ _ z => False.elim z)
          cases f with
          | next =>
            obtain ⟨σ6, H6, S6, q6⟩ := hsp
            exact ⟨_, _, S6.unsuite ok, q6⟩
          | brk =>
            obtain ⟨σ6, H6, S6, q6⟩ := hsp
            exact ⟨_, _, S6.unsuite ok, q6⟩
          | cont =>
            obtain ⟨σ6, H6, S6, q6⟩ := hsp
            exact ⟨_, _, S6.unsuite ok, q6⟩
          | ret u =>
            obtain ⟨v6, σ6, H6, S6, r6, q6⟩ := hsp
            exact ⟨_, _, _, S6.unsuite ok, r6, q6⟩
        | false =>
          show wpAny _ X.A (handleBy (.ref a) X.env hds2) _ _ _
          exact ih (hno rfl)
      | @as x n c i ts b₀ suite np pos' hds2 l2 hi hln hc hsu r ih =>
        intro w
        obtain ⟨b, hb1, hyes, hno⟩ := w
        refine wpAny_handleBy_cons (codeAny_handlers_test ?_) (by intro q; cases q)
        have LM := PySem.W.exm_one (M := model X.prog X.w) (J3.kIn) LT hb1
        refine test hc (LM.here ?_)
        cases b with
        | true =>
          refine codeAny_handlers_suite_as ?_
          refine HandSPX.lands_againZ fl3 fun h4 fl4 up4 => ?_
          have J4 : Inv X pins σ' H' { s' with heap := h4 } := J.landed nb fl4.1 ((up.trans up3).trans up4) os ag
          obtain ⟨oe4, vs4, he4, hz4, hd4⟩ := fl4.there
          have S4 := J4.suite he4 hd4 na nL nF
          refine store_ok (X := X.suite a ((a, oe4) :: (X.pn ++ pins))) (v := .ref a) S4 hN hi (.inl hln) rfl (fun s5 S5 => ?_) (.inr hln)
          refine wpAny_mono ((hsu a oe4 cls d (X.pn ++ pins) hz4 ⟨_, hd4⟩).run [] s5 _ H' _ S5 (hyes rfl a na)) (fun f s6 hsp => ?_) (fun _ _ z => False.elim z)
          have end_ : ∀ {σ6 : L2.St} {H6 : Hp} {Q : Shared → Prop}, Inv (X.suite a ((a, oe4) :: (X.pn ++ pins))) [] σ6 H6 s6 → (∀ s7, Inv X pins (σ6.set i none) H6 s7 → Q s7) →
              wpAny (model X.prog X.w) X.A (do bindName X.env n .none; unbindBehindTheSuite X.env n pos') (fun _ s7 => Q s7) X.xe s6 := fun {σ6 H6 Q} S6 hq => gone_ok (S6.unsuite ok) hN hi hln hq
          cases f with
          | next =>
            obtain ⟨σ6, H6, S6, q6⟩ := hsp
            exact end_ S6 fun s7 J7 => ⟨_, _, J7, q6⟩
          | brk =>
            obtain ⟨σ6, H6, S6, q6⟩ := hsp
            exact end_ S6 fun s7 J7 => ⟨_, _, J7, q6⟩
          | cont =>
            obtain ⟨σ6, H6, S6, q6⟩ := hsp
            exact end_ S6 fun s7 J7 => ⟨_, _, J7, q6⟩
          | ret u =>
            obtain ⟨v6, σ6, H6, S6, r6, q6⟩ := hsp
            exact end_ S6 fun s7 J7 => ⟨_, _, _, J7, r6, q6⟩
        | false =>
          show wpAny _ X.A (handleBy (.ref a) X.env hds2) _ _ _
          exact ih (hno rfl)
    exact go hh w
  · cases f with
    | next =>
      obtain ⟨σ', H', J', q⟩ := hsp
      exact wpAny_execs_nil ⟨σ', H', J'.ofTry ok, q⟩
    | brk =>
      obtain ⟨σ', H', J', q⟩ := hsp
      exact ⟨σ', H', J'.ofTry ok, q⟩
    | cont =>
      obtain ⟨σ', H', J', q⟩ := hsp
      exact ⟨σ', H', J'.ofTry ok, q⟩
    | ret u =>
      obtain ⟨v, σ', H', J', r, q⟩ := hsp
      exact ⟨v, σ', H', J'.ofTry ok, r, q⟩
end
/-! ### raise -/
section
variable {G : Gs} {q : Rq} {Z : Sc} {W : WX} {pr : Option Hdp} {X : Cx}
theorem fs_zip {w : World} {K : PySem.W.Frag} {m : List Addr} {H : Hp} : ∀ {fl : List Str} {ds : List D} {vs : List V}, Rps w K m H ds vs → Fs w K m H (fl.zip ds) (fl.zip vs)
  | [], _, _, _ => .nil
  | _ :: _, _, _, .nil => .nil
  | _ :: _, _, _, .cons hs r t => .cons hs r (fs_zip t)
theorem fs_app {w : World} {K : PySem.W.Frag} {m : List Addr} {H : Hp} {fs' : List (Str × D)} {vs' : List (Str × V)} (h' : Fs w K m H fs' vs') : ∀ {fs : List (Str × D)} {vs : List (Str × V)}, Fs w K m H fs vs → Fs w K m H (fs ++ fs') (vs ++ vs')
  | _, _, .nil => h'
  | _, _, .cons hs r t => .cons hs r (fs_app h' t)
theorem fs_rev {w : World} {K : PySem.W.Frag} {m : List Addr} {H : Hp} : ∀ {fs : List (Str × D)} {vs : List (Str × V)}, Fs w K m H fs vs → Fs w K m H fs.reverse vs.reverse
  | _, _, .nil => .nil
  | _, _, .cons hs r t => by
    rw [List.reverse_cons, List.reverse_cons]
    exact fs_app (.cons hs r .nil) (fs_rev t)
theorem raise_ok {C : Str} {es : List IE} {e : Expr} {xs : List Expr} {p pos pos' : Pos} (x : XOk G q Z W pr X) (hc : Z.calm = true) (hg : Gl X C) (hd : (C == ("__debug__" : Str)) = false) (hs : (e :: xs).all notStar = true) (hl : es.length ≤ 1000)
    (h : PA X (e :: xs) (tA X.w X.K W pr (runEs q es))) : PS X (.Raise (some (.Call (.Name C p) (e :: xs) [] pos)) none pos') (tS X.w X.K W pr (runS q (.raise C es))) := by
  cases he : q.ex C with
  | none =>
    refine ⟨fun pins s σ H D I h => ?_⟩
    obtain ⟨m, ρ, s, R, p⟩ := h
    unfold runS at p
    rw [he] at p
    exact p.elim
  | some fl =>
    obtain ⟨fI, fd, ps, k, iC, tI, F, hr, hb, hm⟩ := x.mkx hc _ _ he
    have T := x.xk _ _ he
    have hs2 := hs
    rw [List.all_cons, Bool.and_eq_true] at hs2
    refine PS.imp (ps_raise (x.cal hc).1 x.tk (pmk_oex (dvs := []) T.ox iC tI F hr hb .nil (passes_call (W := W) x.tk (fun _ _ _ _ z => z.elim)) hg hm h hd (star_cons hs2.1) (star_any hs2.2))) fun Dd σ H ⟨m, ρ, s, R, p⟩ => ?_
    unfold runS at p
    rw [he] at p
    dsimp only at p
    refine sA1 R p fun ds s1 m1 vs H1 e0 p1 e1 R1 r1 => ?_
    split at p1
    · rename_i hlen
      have hvl : vs.length = fl.length := by rw [r1.length]; exact hlen
      refine ⟨?_, fun a ha => ⟨a, vs, by rw [List.append_nil], hvl, upd_same, fun dx hx hne => ⟨rfl, dx, (fl.zip vs).reverse, upd_same, ?_, ?_, ?_⟩⟩⟩
      · rw [r1.length, runEs_len e0]; exact hl
      · rw [upd_ne hne, upd_same]
      · rw [upd_ne hne] at hx; exact hx
      · rw [upd_ne hne] at hx
        have eH : upd (del (upd (upd (upd H1 a (exo a (He.ga X.K C) none)) dx (exd dx (fl.zip vs).reverse)) a (exo a (He.ga X.K C) (some dx))) a) dx (.xd (fl.zip vs).reverse) = upd H1 dx (.xd (fl.zip vs).reverse) := by
          funext b
          by_cases hb : b = dx
          · rw [hb, upd_same, upd_same]
          · rw [upd_ne hb, upd_ne hb]
            by_cases hba : b = a
            · rw [hba, del_same, ha]
            · rw [del_ne hba, upd_ne hba, upd_ne hb, upd_ne hba]
        rw [eH]
        have st' := R1.st.new (o := .xd (fl.zip vs).reverse) hx
        have ex' := Ex.new R1.st (o := .xd (fl.zip vs).reverse) hx
        exact p1 m1 _ _ dx ex' (R1.mono ex' st') ⟨⟨_, upd_same, (fs_rev (fs_zip r1)).mono ex'⟩, R1.st.nin hx⟩
    · exact p1.elim
end
end DI
namespace DI
open PySem PySem.Spec PyProof.Rows L2
theorem PSs.ex {α : Type} {X : Cx} {ss : List Stmt} {t : α → TS} (h : ∀ z, PSs X ss (t z)) : PSs X ss (fun D σ H => ∃ z, t z D σ H) := ⟨fun pins s σ H D I ⟨z, q⟩ => (h z).run pins s σ H D I q⟩
theorem PSs.ands {P : Prop} {X : Cx} {ss : List Stmt} {t : TS} (h : P → PSs X ss t) : PSs X ss (fun D σ H => P ∧ t D σ H) := ⟨fun pins s σ H D I ⟨z, q⟩ => (h z).run pins s σ H D I q⟩
section
variable {w : World} {K : PySem.W.Frag} {W : WX} {m : List Addr} {H : Hp} {σ : L2.St} {s : S} {ρ : En}
theorem Rst.hold (R₀ : Rst w K none m ρ s σ H) {i : Nat} {a : Addr} {C : Str} {dx : Addr} {fs : List (Str × D)} (hi : i < ρ.length) (x : ExcAt w K m H dx fs) : Rst w K (some ⟨i, a, C, dx, fs⟩) m (ρ.set i none) s (σ.set i (some (.ref a))) H := by
  refine ⟨R₀.st, by simp [R₀.len], fun j d e => ?_, fun p e => ?_⟩
  · by_cases hj : i = j
    · subst hj
      rw [List.getElem?_set_self hi] at e; cases e
    · rw [List.getElem?_set_ne hj] at e
      rw [List.getElem?_set_ne hj]
      exact R₀.at_ j d e
  · cases e
    exact ⟨List.getElem?_set_self (by rw [← R₀.len]; exact hi), x⟩
theorem Rst.drop {p : Hdp} (R₀ : Rst w K (some p) m ρ s σ H) (i : Nat) : Rst w K none m (ρ.set i none) s (σ.set i none) H := by
  refine ⟨R₀.st, by simp [R₀.len], fun j d e => ?_, (fun p e => by cases e)⟩
  by_cases hj : i = j
  · subst hj
    by_cases hl : i < ρ.length
    · rw [List.getElem?_set_self hl] at e; cases e
    · rw [List.getElem?_eq_none (by simpa using hl)] at e; cases e
  · rw [List.getElem?_set_ne hj] at e
    rw [List.getElem?_set_ne hj]
    exact R₀.at_ j d e
theorem suite_end {p : Hdp} {D : Ends} {r : RS} {i : Nat} (h : PostS w K W none m H D (suiteEnd (some i) r)) : PostS w K (fun _ _ _ _ => False) (some p) m H (Ends.un D (some i)) r := by
  cases r with
  | nx ρ s => exact fun m' σ' H' e R' => h m' _ H' e (R'.drop i)
  | rt d s => exact h
  | bk ρ s => exact fun m' σ' H' e R' => h m' _ H' e (R'.drop i)
  | ct ρ s => exact fun m' σ' H' e R' => h m' _ H' e (R'.drop i)
  | exc C fs ρ s => exact h.elim
  | bad => exact h.elim
theorem suite_end0 {D : Ends} {r : RS} (h : PostS w K W none m H D (suiteEnd none r)) : PostS w K (fun _ _ _ _ => False) none m H (Ends.un D none) r := by
  cases r with
  | nx ρ s => exact h
  | rt d s => exact h
  | bk ρ s => exact h
  | ct ρ s => exact h
  | exc C fs ρ s => exact h.elim
  | bad => exact h.elim
/-- a clause's reading -/
def tSu (w : World) (K : PySem.W.Frag) (q : Rq) (i : Option Nat) (body : List IS) : Addr → Value → Option Addr → TS := fun a cls d D σ H =>
  ∃ (C : Str), cls = .ref (He.ga K C) ∧ (match i with
    | some i => ∃ dx, d = some dx ∧ ∃ fs, tS w K (fun _ _ _ _ => False) (some ⟨i, a, C, dx, fs⟩) (runSs { q with hd := some (i, C, fs) } body) D σ H
    | none => tS w K (fun _ _ _ _ => False) none (runSs { q with hd := none } body) D σ H)
/-- the clauses, one after the other -/
inductive ClsIs (w : World) (K : PySem.W.Frag) (q : Rq) (N : Nat → Prop) : List (Str × Option Nat × List IS) → List Cl → Prop
  | nil : ClsIs w K q N [] []
  | cons {k : Str} {i : Option Nat} {body : List IS} {hs : List (Str × Option Nat × List IS)} {c : Value} {l : List Cl} (hx : ∀ C b, q.isx C k = some b → PySem.W.exmOne K (.ref (He.ga K C)) c = some b) (r : ClsIs w K q N hs l) :
      ClsIs w K q N ((k, i, body) :: hs) ((c, i, tSu w K q i body) :: l)
theorem hs_ok {q : Rq} {N : Nat → Prop} {D : Ends} : ∀ {hs : List (Str × Option Nat × List IS)} {l : List Cl}, ClsIs w K q N hs l → ∀ {C : Str} {fs : List (Str × DI.D)} {ρ : En} {s : S} {m : List Addr} {H : Hp}, PostS w K W none m H D (runHs q C fs hs ρ s) →
    ∀ m' σ' H' dx, Ex m H m' H' → Rst w K none m' ρ s σ' H' → ExcAt w K m' H' dx fs → wAll K W D l (.ref (He.ga K C)) (some dx) σ' H'
  | _, _, .nil, C, fs, ρ, s, m, H, p => fun m' σ' H' dx e R' x => by
    unfold runHs at p
    exact p m' σ' H' dx e R' x
  | _, _, .cons (k := k) (i := i) (body := body) hx r, C, fs, ρ, s, m, H, p => fun m' σ' H' dx e R' x => by
    unfold runHs at p
    cases hi : q.isx C k with
    | none => rw [hi] at p; exact p.elim
    | some b =>
      rw [hi] at p
      refine ⟨b, hx _ _ hi, fun hb a ha => ?_, fun hb => ?_⟩
      · subst hb
        refine ⟨C, rfl, ?_⟩
        cases i with
        | none =>
          dsimp only at p ⊢
          exact ⟨m', ρ, s, R', suite_end0 (PostS.mono e R'.st p)⟩
        | some i =>
          dsimp only at p ⊢
          split at p
          · rename_i hl
            have R2 := R'.hold (a := a) (C := C) hl x
            exact ⟨dx, rfl, fs, m', _, s, R2, suite_end (PostS.mono e R'.st p)⟩
          · exact p.elim
      · subst hb
        exact hs_ok r p m' σ' H' dx e R' x
end
section
variable {G : Gs} {q : Rq} {Z : Sc} {W : WX} {pr : Option Hdp} {X : Cx}
theorem XOk.tr (x : XOk G q Z W none X) {W' : WX} {pn : List (Addr × Obj)} {xe : Value → Shared → Prop} (tk : Takes (X.tr pn xe) W') (po : PassesOwn (model X.prog X.w) X.A X.env xe) : XOk G q Z W' none (X.tr pn xe) :=
  ⟨x.N, x.nd, x.sc, x.fn, tk, x.hu, x.cal, x.free, x.cons, x.fns, po, x.hd, x.xk, x.cl, x.ix, x.mkx, (fun p e => by cases e)⟩
theorem XOk.su0 (x : XOk G q Z W none X) (a : Addr) (pn : List (Addr × Obj)) : XOk G { q with hd := none } { Z with calm := false } (fun _ _ _ _ => False) none (X.suite a pn) :=
  ⟨x.N, x.nd, x.sc, x.fn, takes_none5, x.hu, (fun e => by cases e), x.free, x.cons, (fun e => by cases e), PassesOwn.never, rfl, x.xk, x.cl, x.ix, (fun e => by cases e), (fun p e => by cases e)⟩
theorem XOk.su1 (x : XOk G q Z W none X) {a : Addr} {oe : Obj} {pn : List (Addr × Obj)} {i : Nat} {C : Str} {dx : Addr} {fs : List (Str × D)} (hz : Zc (.ref (He.ga X.K C)) (some dx) oe) (hf : ∃ vs, oe.data = .fields vs) :
    XOk G { q with hd := some (i, C, fs) } { Z with calm := false } (fun _ _ _ _ => False) (some ⟨i, a, C, dx, fs⟩) (X.suite a ((a, oe) :: pn)) :=
  ⟨x.N, x.nd, x.sc, x.fn, takes_none5, x.hu, (fun e => by cases e), x.free, x.cons, (fun e => by cases e), PassesOwn.never, rfl, x.xk, x.cl, x.ix, (fun e => by cases e), fun p e => by cases e; exact ⟨X, oe, pn, rfl, hz, hf⟩⟩
theorem ClsV.uni {mg : Str → Option Value} {k : Str} {c c' : Value} (h : ClsV mg k c) (h' : ClsV mg k c') : c = c' := by
  rcases h with ⟨h1, _⟩ | ⟨h1, h2, _⟩ <;> rcases h' with ⟨g1, _⟩ | ⟨g1, g2, _⟩
  · rw [h1] at g1; exact Option.some.inj g1
  · rw [h1] at g1; cases g1
  · rw [h1] at g1; cases g1
  · rw [h2] at g2; exact Option.some.inj g2
theorem clsNames {k : Str} {c : Value} (hg : Gl X k) (h : ClsV X.mg k c) (h3 : nmB k = true) : Names X k c := by
  obtain ⟨n1, n2, n3⟩ := nmB_ok h3
  refine ⟨hg, n1, ?_⟩
  rcases h with ⟨hm, a, rfl⟩ | ⟨hm, hb, T, rfl⟩
  · exact .inl hm
  · exact .inr ⟨hm, hb, n3⟩
theorem try_ok {body : List IS} {hs : List (Str × Option Nat × List IS)} {bs : List Stmt} {h₀ : ExceptHandler} {hds : List ExceptHandler} {l : List Cl} {pos : Pos} (x : XOk G q Z W none X) (hs1 : X.stack = X.env :: X.outer) (hf : X.env.frame = some X.env.locals)
    (hb : ∀ (W : WX) (pn : List (Addr × Obj)) (xe : Value → Shared → Prop), Takes (X.tr pn xe) W → PassesOwn (model X.prog X.w) X.A X.env xe → PSs (X.tr pn xe) bs (tS X.w X.K W none (runSs q body)))
    (hh : ClsOk X (h₀ :: hds) l) (hi : ClsIs X.w X.K q (fun _ => True) hs l) : PS X (.Try bs (h₀ :: hds) [] [] pos) (tS X.w X.K W none (runS q (.tr body hs))) := by
  refine PS.imp (ps_try_all hs1 hf (by rw [x.N]; exact x.nd) x.tk hb hh) fun D σ H ⟨m, ρ, s, R, p⟩ => ⟨m, ρ, s, R, ?_⟩
  unfold runS at p
  cases e : runSs q body ρ s with
  | nx ρ' s' => rw [e] at p; exact p
  | rt d s' => rw [e] at p; exact p
  | bk ρ' s' => rw [e] at p; exact p
  | ct ρ' s' => rw [e] at p; exact p
  | exc C fs ρ' s' =>
    rw [e] at p
    exact hs_ok hi p
  | bad => rw [e] at p; exact p
end
end DI

set_option Elab.async false
set_option linter.all false
set_option maxRecDepth 100000
set_option maxHeartbeats 4000000
/-! DI 16: all statements. -/
namespace DI
open PySem PySem.Spec PyProof.Rows L2
/-- a, b = x, y : in which order the names are stored -/
def sw1 (sc : Scope) (ts vs : List Expr) : Bool := !(ts.length == 2 || ts.length == 3) || vs.length != ts.length || sc.kind != .function
def sw2 (vs : List Expr) : Bool := vs.any fun | .Starred .. => true | _ => false
def swNs (sc : Scope) (ts : List Expr) : List Str := ts.filterMap fun
    | .Name id pos => if sc.names.lookup id == some .local && pos.line == (ts.head?.map (·.pos.line)).getD 0 then some id else none
    | _ => none
def sw3 (sc : Scope) (ts : List Expr) : Bool := (swNs sc ts).length != ts.length || (swNs sc ts).eraseDups.length != (swNs sc ts).length
def swC (sc : Scope) (ts vs : List Expr) : Option (Option (List Str)) :=
  if sc.kind.isAnnotationScope = true then none else
  if sw1 sc ts vs = true then some none else
  if sw2 vs = true then some none else
  if sw3 sc ts = true then some none else
  if vs.all (foldedForSure 8) = true then some none else
  if vs.all (constantsAlone 8) = true then none else some (some (swNs sc ts))
theorem swC_ok {sc : Scope} {env : Env} {ts vs : List Expr} {p p' : Pos} {r : Option (List Str)} {kt k2} (he : env.scope = sc) (h : swC sc ts vs = some r) : swappedStores [.Tuple ts kt p] (.Tuple vs k2 p') env = pure r := by
  have e0 : swappedStores [.Tuple ts kt p] (.Tuple vs k2 p') env = (if (!(ts.length == 2 || ts.length == 3) || vs.length != ts.length || (if sc.kind.isAnnotationScope = true then ScopeKind.function else sc.kind) != .function) = true then pure none else
      if sw2 vs = true then pure none else if sw3 sc ts = true then pure none else if vs.all (foldedForSure 8) = true then pure none else
      if vs.all (constantsAlone 8) = true then (do unsupported "assign.tuple-of-constant-expressions:order-of-the-stores"; pure (some (swNs sc ts))) else pure (some (swNs sc ts))) := by
    subst he
    rfl
  rw [e0]
  unfold swC at h
  by_cases h0 : sc.kind.isAnnotationScope = true
  · rw [if_pos h0] at h; cases h
  rw [if_neg h0] at h
  have e1 : (!(ts.length == 2 || ts.length == 3) || vs.length != ts.length || (if sc.kind.isAnnotationScope = true then ScopeKind.function else sc.kind) != .function) = sw1 sc ts vs := by rw [if_neg h0]; rfl
  rw [e1]
  by_cases h1 : sw1 sc ts vs = true
  · rw [if_pos h1] at h ⊢; cases h; rfl
  rw [if_neg h1] at h ⊢
  by_cases h2 : sw2 vs = true
  · rw [if_pos h2] at h ⊢; cases h; rfl
  rw [if_neg h2] at h ⊢
  by_cases h3 : sw3 sc ts = true
  · rw [if_pos h3] at h ⊢; cases h; rfl
  rw [if_neg h3] at h ⊢
  by_cases h4 : vs.all (foldedForSure 8) = true
  · rw [if_pos h4] at h ⊢; cases h; rfl
  rw [if_neg h4] at h ⊢
  by_cases h5 : vs.all (constantsAlone 8) = true
  · rw [if_pos h5] at h; cases h
  rw [if_neg h5] at h ⊢
  cases h; rfl
theorem swC_len {sc : Scope} {ts vs : List Expr} {l : List Str} (h : swC sc ts vs = some (some l)) : (ts.length = 2 ∨ ts.length = 3) ∧ vs.length = ts.length := by
  unfold swC at h
  by_cases h0 : sc.kind.isAnnotationScope = true
  · rw [if_pos h0] at h; cases h
  rw [if_neg h0] at h
  by_cases h1 : sw1 sc ts vs = true
  · rw [if_pos h1] at h; cases h
  unfold sw1 at h1
  simp only [Bool.or_eq_true, not_or, Bool.not_eq_true', bne_iff_ne, beq_iff_eq, Bool.not_eq_false, Decidable.not_not] at h1
  refine ⟨?_, h1.1.2⟩
  have := h1.1.1
  simpa using this
def swN (sc : Scope) (tg v : Expr) : Bool := match tg, v with
  | .Tuple ts _ _, .Tuple vs _ _ => (match swC sc ts vs with
    | some none => true
    | _ => false)
  | .List _ _, _ => false
  | _, _ => true
theorem swN_ok {env : Env} {tg v : Expr} (h : swN env.scope tg v = true) : swappedStores [tg] v env = pure none := by
  cases tg with
  | Tuple a b c =>
    cases v with
    | Tuple a' b' c' =>
      unfold swN at h
      dsimp only at h
      split at h
      · rename_i e; exact swC_ok rfl e
      · cases h
    | _ => rfl
  | List a b => cases h
  | _ => rfl
def noComp : Expr → Bool
  | .ListComp _ _ _ _ => false
  | .SetComp _ _ _ _ => false
  | .DictComp _ _ _ _ _ => false
  | _ => true
theorem noComp_ok {v : Expr} {t : Option Expr} {l : Nat} {env : Env} (h : noComp v = true) : swapsWith v t l env = pure false := by
  cases v <;> first | rfl | cases h
def isLc : Expr → Bool
  | .ListComp _ _ _ _ => true
  | _ => false
def namesB (S : Sc) : List Nat → List Expr → Bool
  | [], [] => true
  | i :: is, .Name x _ :: xs => (match S.N[i]? with
    | some y => y == x
    | none => false) && ((S.sc.names.lookup x == some .local) && (!is.contains i && namesB S is xs))
  | _, _ => false
def namesOf : List Expr → List Str
  | .Name x _ :: r => x :: namesOf r
  | _ => []
mutual
def chkS (G : Gs) (S : Sc) : IS → Stmt → Bool
  | .asg g e, st => (match st with
    | .Assign [tg] v _ => notStar tg && ((noComp v || isLc v) && (swN S.sc tg v && (chkE G S e v && chkG G S g tg)))
    | _ => false)
  | .par is es, st => (match st with
    | .Assign [.Tuple ts _ _] (.Tuple vs _ _) _ => S.calm && (namesB S is ts && ((match swC S.sc ts vs with
      | some (some l) => l == namesOf ts
      | _ => false) && chkEs G S es vs))
    | _ => false)
  | .aug i o e, st => (match st with
    | .AugAssign (.Name n _) op v _ => opB o op && ((match S.N[i]? with
      | some y => y == n
      | none => false) && (locB S n && chkE G S e v))
    | _ => false)
  | .expr e, st => (match st with
    | .Expr v _ => noComp v && chkE G S e v
    | _ => false)
  | .ret none, st => (match st with
    | .Return none _ => true
    | _ => false)
  | .ret (some e), st => (match st with
    | .Return (some v) _ => chkE G S e v
    | _ => false)
  | .ife t a b, st => (match st with
    | .If c x y _ => chkT G S t c && (chkSs G S a x && chkSs G S b y)
    | _ => false)
  | .fo g it body, st => (match st with
    | .For tg iter bs [] _ => S.calm && (notSet iter && (chkI G S it tg iter && (chkG G S g tg && chkSs G S body bs)))
    | _ => false)
  | .whl t body, st => (match st with
    | .While c bs [] _ => chkT G S t c && chkSs G S body bs
    | _ => false)
  | .brk, st => (match st with
    | .Break _ => true
    | _ => false)
  | .cnt, st => (match st with
    | .Continue _ => true
    | _ => false)
  | .pass, st => (match st with
    | .Pass _ => true
    | _ => false)
  | .raise C es, st => (match st with
    | .Raise (some (.Call (.Name y _) (x :: xs) [] _)) none _ => (C == y) && (gloB S.sc y && (nmB y && (S.calm && (decide (es.length ≤ 1000) && chkEs G S es (x :: xs)))))
    | _ => false)
  | .tr body hs, st => (match st with
    | .Try bs (h :: hds) [] [] _ => S.calm && (chkSs G S body bs && chkHs G S hs (h :: hds))
    | _ => false)
def chkSs (G : Gs) (S : Sc) : List IS → List Stmt → Bool
  | [], [] => true
  | a :: r, x :: xs => chkS G S a x && chkSs G S r xs
  | _, _ => false
def chkHs (G : Gs) (S : Sc) : List (Str × Option Nat × List IS) → List ExceptHandler → Bool
  | [], [] => true
  | (k, i, body) :: hs, h :: hds => (match h with
    | .ExceptHandler (some (.Name x _)) nm (b₀ :: suite) _ => (k == x) && (gloB S.sc x && (nmB x && (G.cls.contains x && ((match i, nm with
      | none, none => true
      | some i, some n => (match S.N[i]? with
        | some y => y == n
        | none => false) && (S.sc.names.lookup n == some .local)
      | _, _ => false) && chkSs G { S with calm := false } body (b₀ :: suite)))))
    | _ => false) && chkHs G S hs hds
  | _, _ => false
end
section
variable {G : Gs} {q : Rq} {Z : Sc} {W : WX} {pr : Option Hdp} {X : Cx}
theorem slot_is {N : List Str} {i : Nat} {n : Str} (h : (match N[i]? with
      | some y => y == n
      | none => false) = true) : N[i]? = some n := by
  split at h
  · rename_i y e; rw [e, eq_of_beq h]
  · cases h
theorem par_ok {is : List Nat} {es : List IE} {ts vs : List Expr} {kt k2 p p' pos} (x : XOk G q Z W pr X) (hc : Z.calm = true) (hn : namesB Z is ts = true) (hw : (match swC Z.sc ts vs with
      | some (some l) => l == namesOf ts
      | _ => false) = true) (hs : vs.length = es.length) (h : PA X vs (tA X.w X.K W pr (runEs q es))) : PS X (.Assign [.Tuple ts kt p] (.Tuple vs k2 p') pos) (tS X.w X.K W pr (runS q (.par is es))) := by
  split at hw
  rotate_left
  · cases hw
  rename_i l el
  have hl := eq_of_beq hw
  subst hl
  have hw2 := swC_ok (env := X.env) (p := p) (p' := p') (kt := kt) (k2 := k2) x.sc el
  obtain ⟨hlen, hvl⟩ := swC_len el
  obtain ⟨hcx, rfl⟩ := x.cal hc
  have one : ∀ {i : Nat} {is : List Nat} {ts : List Expr}, namesB Z (i :: is) ts = true → ∃ n pn r, ts = .Name n pn :: r ∧ X.N[i]? = some n ∧ X.env.scope.names.lookup n = some .local ∧ i ∉ is ∧ namesB Z is r = true := by
    intro i is ts h
    unfold namesB at h
    split at h
    · cases ‹_ :: _ = []›
    · rename_i i' is' n pn r e1
      cases e1
      obtain ⟨h1, h2⟩ := ba h
      obtain ⟨h2, h3⟩ := ba h2
      obtain ⟨h3, h4⟩ := ba h3
      refine ⟨n, pn, r, rfl, ?_, ?_, ?_, h4⟩
      · rw [x.N]; exact slot_is h1
      · rw [x.sc]; exact eq_of_beq h2
      · intro hm
        rw [List.contains_iff_mem.mpr hm] at h3; cases h3
    · cases h
  have nil : ∀ {is : List Nat} {ts : List Expr}, namesB Z is ts = true → is.length = ts.length := by
    intro is
    induction is with
    | nil => intro ts h; cases ts with
      | nil => rfl
      | cons _ _ => unfold namesB at h; cases h
    | cons i is ih => intro ts h; obtain ⟨n, pn, r, rfl, _, _, _, h'⟩ := one h; simp [ih h']
  have hil := nil hn
  have set1 : ∀ {m : List Addr} {H : Hp} {s : S} {ρ : En} {σ : L2.St} {i : Nat} {d : D} {v : V}, Rst X.w X.K none m ρ s σ H → d.shr = true → Rp X.w X.K m H d v → i < ρ.length → Rst X.w X.K none m (ρ.set i (some d)) s (σ.set i (some v)) H := fun R a b c => R.set a b c (fun p e => by cases e)
  rcases hlen with h2 | h3
  · obtain ⟨i, j, rfl⟩ : ∃ i j, is = [i, j] := by
      match is, hil.trans h2 with
      | [i, j], _ => exact ⟨i, j, rfl⟩
    obtain ⟨n1, p1, r1, rfl, a1, b1, c1, d1⟩ := one hn
    obtain ⟨n2, p2, r2, rfl, a2, b2, c2, d2⟩ := one d1
    cases r2 with
    | cons _ _ => unfold namesB at d2; cases d2
    | nil =>
    obtain ⟨e1, e2, rfl⟩ : ∃ e1 e2, vs = [e1, e2] := by
      match vs, hvl.trans h2 with
      | [i, j], _ => exact ⟨i, j, rfl⟩
    refine PS.imp (ps_par hcx (by rw [x.N]; exact x.nd) a1 a2 (fun z => c1 (by rw [z]; exact List.mem_cons_self)) b1 b2 h hw2) fun D σ H ⟨m, ρ, s, R, p⟩ => sA1 R p fun ds s1 m1 us H1 e0 p1 ex R1 r => ?_
    have dl := (runEs_len e0).trans hs.symm
    match ds, dl with
    | [d1, d2], _ =>
    cases r with
    | cons s1' q1 t1 =>
    cases t1 with
    | cons s2' q2 t2 =>
    cases t2
    refine ⟨_, _, rfl, ?_⟩
    split at p1
    · rename_i hh
      have hb := hh.2
      simp only [List.all_cons, List.all_nil, Bool.and_true, Bool.and_eq_true, decide_eq_true_eq] at hb
      exact p1 m1 _ H1 .refl (set1 (set1 R1 s1' q1 hb.1.2) s2' q2 (by simpa using hb.2.2))
    · exact p1.elim
  · obtain ⟨i, j, k, rfl⟩ : ∃ i j k, is = [i, j, k] := by
      match is, hil.trans h3 with
      | [i, j, k], _ => exact ⟨i, j, k, rfl⟩
    obtain ⟨n1, p1, r1, rfl, a1, b1, c1, d1⟩ := one hn
    obtain ⟨n2, p2, r2, rfl, a2, b2, c2, d2⟩ := one d1
    obtain ⟨n3, p3, r3, rfl, a3, b3, c3, d3⟩ := one d2
    cases r3 with
    | cons _ _ => unfold namesB at d3; cases d3
    | nil =>
    obtain ⟨e1, e2, e3, rfl⟩ : ∃ e1 e2 e3, vs = [e1, e2, e3] := by
      match vs, hvl.trans h3 with
      | [i, j, k], _ => exact ⟨i, j, k, rfl⟩
    refine PS.imp (ps_par3 hcx (by rw [x.N]; exact x.nd) a1 a2 a3 (fun z => c1 (by rw [z]; exact List.mem_cons_self)) (fun z => c1 (by rw [z]; simp)) (fun z => c2 (by rw [z]; exact List.mem_cons_self)) b1 b2 b3 h hw2) fun D σ H ⟨m, ρ, s, R, p⟩ => sA1 R p fun ds s1 m1 us H1 e0 p1 ex R1 r => ?_
    have dl := (runEs_len e0).trans hs.symm
    match ds, dl with
    | [d1, d2, d3], _ =>
    cases r with
    | cons s1' q1 t1 =>
    cases t1 with
    | cons s2' q2 t2 =>
    cases t2 with
    | cons s3' q3 t3 =>
    cases t3
    refine ⟨_, _, _, rfl, ?_⟩
    split at p1
    · rename_i hh
      have hb := hh.2
      simp only [List.all_cons, List.all_nil, Bool.and_true, Bool.and_eq_true, decide_eq_true_eq] at hb
      exact p1 m1 _ H1 .refl (set1 (set1 (set1 R1 s1' q1 hb.1.2) s2' q2 (by simpa using hb.2.1.2)) s3' q3 (by simpa using hb.2.2.2))
    · exact p1.elim
/-- a comprehension to a name, on one line or not -/
theorem lcS_ok {i : Nat} {own : List (Str × Nat)} {elt : IE} {g : IG} {it : II} {t : Option IT} {n : Str} {py pos spos : Pos} {e tg iter : Expr} {ifs : List Expr} {k : Int} {scope : Scope} (x : XOk G q Z W pr X) (hN : Z.N[i]? = some n) (hl : locB Z n = true)
    (h : chkE G Z (.lc own elt g it t) (.ListComp e [⟨tg, iter, ifs, k⟩] scope pos) = true) : PS X (.Assign [.Name n py] (.ListComp e [⟨tg, iter, ifs, k⟩] scope pos) spos) (tS X.w X.K W pr (runS q (.asg (.nm i) (.lc own elt g it t)))) := by
  have h0 := h
  unfold chkE at h
  obtain ⟨h1, k2⟩ := ba h
  obtain ⟨h2, k3⟩ := ba k2
  obtain ⟨h3, k4⟩ := ba k3
  obtain ⟨h4, k5⟩ := ba k4
  obtain ⟨h5, k6⟩ := ba k5
  obtain ⟨h6, k7⟩ := ba k6
  obtain ⟨h7, k8⟩ := ba k7
  obtain ⟨h8, k9⟩ := ba k8
  have h1 := of_decide_eq_true h1
  subst h1
  have key : ∀ b : Bool, swapsWith (.ListComp e [⟨tg, iter, ifs, 0⟩] scope pos) (some (.Name n py)) spos.line X.env = pure b → (b = true → X.env.scope.names.lookup n = some .local) → PS X (.Assign [.Name n py] (.ListComp e [⟨tg, iter, ifs, 0⟩] scope pos) spos) (tS X.w X.K W pr (runS q (.asg (.nm i) (.lc own elt g it t)))) := by
    intro b hb hloc
    cases b with
    | false => exact asgS_ok rfl hb rfl (sE (.lc own elt g it t) x h0) (nmG_ok x hN hl)
    | true => exact asgLc_ok x hN (hloc rfl) hb h2 h3 (of_decide_eq_true h4) h5 (sI it x h6) (fun s H C cl fp => sG g (x.blk _ s H C cl fp h2) h7) (sTo t (x := x) h2 h8) (fun s H C cl fp => sE elt (x.blk _ s H C cl fp h2) k9)
  refine key (X.env.blockKind == .function && X.env.kindOf n == some .local && py.line == pos.line
      && !(scope.names.any fun (n', k) => n' == n && (k == .local || k == .cell))) rfl fun hb => ?_
  exact eq_of_beq (ba (ba (ba hb).1).1).2
theorem asg_ok {g : IG} {e : IE} {tg v : Expr} {pos : Pos} (x : XOk G q Z W pr X) (h1 : notStar tg = true) (h2 : (noComp v || isLc v) = true) (h3 : swN Z.sc tg v = true) (h4 : chkE G Z e v = true) (h5 : chkG G Z g tg = true) : PS X (.Assign [tg] v pos) (tS X.w X.K W pr (runS q (.asg g e))) := by
  have hsw : swappedStores [tg] v X.env = pure none := swN_ok (by rw [x.sc]; exact h3)
  by_cases hv : noComp v = true
  · exact asgS_ok h1 (noComp_ok hv) hsw (sE e x h4) (sG g x h5)
  · have hv2 : isLc v = true := by
      rcases Bool.or_eq_true_iff.mp h2 with h | h
      · exact absurd h hv
      · exact h
    cases v with
    | ListComp e' gens scope pos' =>
      by_cases hn : ∃ n py, tg = .Name n py
      · obtain ⟨n, py, rfl⟩ := hn
        cases g with
        | nm i =>
          cases e with
          | lc own elt g it t =>
            have h4' := h4
            unfold chkE at h4'
            split at h4'
            · rename_i e1 tg1 iter1 ifs1 k1 sc1 pos1 ee
              cases ee
              exact lcS_ok x (of_decide_eq_true (ba h5).1) (ba h5).2 h4
            · cases h4'
          | con d => unfold chkE chkC at h4; cases d <;> cases h4
          | _ => cases h4
        | _ => cases h5
      · refine asgS_ok h1 ?_ hsw (sE e x h4) (sG g x h5)
        cases tg <;> first | rfl | exact absurd ⟨_, _, rfl⟩ hn
    | _ => cases hv2
end
mutual
theorem sS {G : Gs} : ∀ (ir : IS) {q : Rq} {Z : Sc} {W : WX} {pr : Option Hdp} {X : Cx}, XOk G q Z W pr X → X.stack = X.env :: X.outer → X.env.frame = some X.env.locals → ∀ {st : Stmt}, chkS G Z ir st = true → PS X st (tS X.w X.K W pr (runS q ir))
  | .asg g e, q, Z, W, pr, X, x, hk, hf, st, h => by
    unfold chkS at h
    split at h
    · obtain ⟨h1, k2⟩ := ba h
      obtain ⟨h2, k3⟩ := ba k2
      obtain ⟨h3, k4⟩ := ba k3
      obtain ⟨h4, h5⟩ := ba k4
      exact asg_ok x h1 h2 h3 h4 h5
    · cases h
  | .par is es, q, Z, W, pr, X, x, hk, hf, st, h => by
    unfold chkS at h
    split at h
    · obtain ⟨h1, k2⟩ := ba h
      obtain ⟨h2, k3⟩ := ba k2
      obtain ⟨h3, h4⟩ := ba k3
      exact par_ok x h1 h2 h3 (chkEs_star h4).2 (sEs es x h4)
    · cases h
  | .aug i o e, q, Z, W, pr, X, x, hk, hf, st, h => by
    unfold chkS at h
    split at h
    · obtain ⟨h1, k2⟩ := ba h
      obtain ⟨h2, k3⟩ := ba k2
      obtain ⟨h3, h4⟩ := ba k3
      have h1 := opB_eq h1
      subst h1
      exact augS_ok x (slot_is h2) h3 (sE e x h4)
    · cases h
  | .expr e, q, Z, W, pr, X, x, hk, hf, st, h => by
    unfold chkS at h
    split at h
    · obtain ⟨h1, h2⟩ := ba h
      exact exprS_ok (noComp_ok h1) (sE e x h2)
    · cases h
  | .ret none, q, Z, W, pr, X, x, hk, hf, st, h => by
    unfold chkS at h
    split at h
    · exact retN_ok
    · cases h
  | .ret (some e), q, Z, W, pr, X, x, hk, hf, st, h => by
    unfold chkS at h
    split at h
    · exact ret_ok (sE e x h)
    · cases h
  | .ife t a b, q, Z, W, pr, X, x, hk, hf, st, h => by
    unfold chkS at h
    split at h
    · obtain ⟨h1, k2⟩ := ba h
      obtain ⟨h2, h3⟩ := ba k2
      exact ifS_ok (sT t x h1).1 (sSs a x hk hf h2) (sSs b x hk hf h3)
    · cases h
  | .fo g it body, q, Z, W, pr, X, x, hk, hf, st, h => by
    unfold chkS at h
    split at h
    · obtain ⟨h1, k2⟩ := ba h
      obtain ⟨h2, k3⟩ := ba k2
      obtain ⟨h3, k4⟩ := ba k3
      obtain ⟨h4, h5⟩ := ba k4
      exact forS_ok x (x.cal h1).1 h2 (sI it x h3) (sG g x h4) (sSs body x hk hf h5)
    · cases h
  | .whl t body, q, Z, W, pr, X, x, hk, hf, st, h => by
    unfold chkS at h
    split at h
    · obtain ⟨h1, h2⟩ := ba h
      exact whlS_ok x (sT t x h1).1 (sSs body x hk hf h2)
    · cases h
  | .brk, q, Z, W, pr, X, x, hk, hf, st, h => by
    unfold chkS at h
    split at h
    · exact PS.imp ps_break fun D σ H ⟨m, ρ, s, R, p⟩ => p m σ H .refl R
    · cases h
  | .cnt, q, Z, W, pr, X, x, hk, hf, st, h => by
    unfold chkS at h
    split at h
    · exact PS.imp ps_continue fun D σ H ⟨m, ρ, s, R, p⟩ => p m σ H .refl R
    · cases h
  | .pass, q, Z, W, pr, X, x, hk, hf, st, h => by
    unfold chkS at h
    split at h
    · exact PS.imp ps_pass fun D σ H ⟨m, ρ, s, R, p⟩ => p m σ H .refl R
    · cases h
  | .raise C es, q, Z, W, pr, X, x, hk, hf, st, h => by
    unfold chkS at h
    split at h
    · obtain ⟨h1, k2⟩ := ba h
      obtain ⟨h2, k3⟩ := ba k2
      obtain ⟨h3, k4⟩ := ba k3
      obtain ⟨h4, k5⟩ := ba k4
      obtain ⟨h5, h6⟩ := ba k5
      have h1 := eq_of_beq h1
      subst h1
      exact raise_ok x h4 (gloB_ok x h2) (nmB_ok h3).1 (chkEs_star h6).1 (of_decide_eq_true h5) (sEs es x h6)
    · cases h
  | .tr body hs, q, Z, W, pr, X, x, hk, hf, st, h => by
    unfold chkS at h
    split at h
    · obtain ⟨h1, k2⟩ := ba h
      obtain ⟨h2, h3⟩ := ba k2
      obtain ⟨hcx, rfl⟩ := x.cal h1
      obtain ⟨l, hh, hi⟩ := sHs hs x hk hf h3
      exact try_ok x hk hf (fun W pn xe tk po => sSs body (x.tr tk po) hk hf h2) hh hi
    · cases h
theorem sSs {G : Gs} : ∀ (ir : List IS) {q : Rq} {Z : Sc} {W : WX} {pr : Option Hdp} {X : Cx}, XOk G q Z W pr X → X.stack = X.env :: X.outer → X.env.frame = some X.env.locals → ∀ {st : List Stmt}, chkSs G Z ir st = true → PSs X st (tS X.w X.K W pr (runSs q ir))
  | [], q, Z, W, pr, X, x, hk, hf, st, h => by
    cases st with
    | nil => exact seqS_nil
    | cons _ _ => cases h
  | a :: r, q, Z, W, pr, X, x, hk, hf, st, h => by
    cases st with
    | nil => cases h
    | cons y ys =>
      obtain ⟨h1, h2⟩ := ba h
      exact seqS_cons (sS a x hk hf h1) (sSs r x hk hf h2)
theorem sHs {G : Gs} : ∀ (hs : List (Str × Option Nat × List IS)) {q : Rq} {Z : Sc} {W : WX} {X : Cx}, XOk G q Z W none X → X.stack = X.env :: X.outer → X.env.frame = some X.env.locals → ∀ {hds : List ExceptHandler}, chkHs G Z hs hds = true →
    ∃ l, ClsOk X hds l ∧ ClsIs X.w X.K q (fun _ => True) hs l
  | [], q, Z, W, X, x, hk, hf, hds, h => by
    cases hds with
    | nil => exact ⟨[], .nil, .nil⟩
    | cons _ _ => cases h
  | (k, i, body) :: hs, q, Z, W, X, x, hk, hf, hds, h => by
    cases hds with
    | nil => cases h
    | cons hd hds =>
      obtain ⟨h1, h2⟩ := ba h
      obtain ⟨l, a1, a2⟩ := sHs hs x hk hf h2
      split at h1
      · rename_i y np nm b₀ suite pos'
        obtain ⟨g1, k2⟩ := ba h1
        obtain ⟨g2, k3⟩ := ba k2
        obtain ⟨g3, k4⟩ := ba k3
        obtain ⟨g4, k5⟩ := ba k4
        obtain ⟨g5, g6⟩ := ba k5
        have g1 := eq_of_beq g1
        subst g1
        obtain ⟨c, hc⟩ := x.cl _ (List.contains_iff_mem.mp g4)
        have hn := clsNames (gloB_ok x g2) hc g3
        have hx : ∀ C b, q.isx C k = some b → PySem.W.exmOne X.K (.ref (He.ga X.K C)) c = some b := fun C b e => by
          obtain ⟨_, c', hc', e1, _⟩ := x.ix C k b e
          rw [hc.uni hc']; exact e1
        refine ⟨(c, i, tSu X.w X.K q i body) :: l, ?_, .cons hx a2⟩
        cases i with
        | none =>
          cases nm with
          | some n => cases g5
          | none =>
            refine .cons hn (fun a oe cls d pn hz hfl => ?_) a1
            exact PSs.ex fun C => PSs.ands fun ec => sSs body (x.su0 a _) hk hf g6
        | some i =>
          cases nm with
          | none => cases g5
          | some n =>
            obtain ⟨g7, g8⟩ := ba g5
            refine .as (by rw [x.N]; exact slot_is g7) (by show X.env.scope.names.lookup n = _; rw [x.sc]; exact eq_of_beq g8) hn (fun a oe cls d pn hz hfl => ?_) a1
            refine PSs.ex fun C => PSs.ands fun ec => PSs.ex fun dx => PSs.ands fun ed => PSs.ex fun fs => ?_
            subst ec ed
            exact sSs body (x.su1 hz hfl) hk hf g6
      · cases h1
end
end DI

set_option Elab.async false
set_option linter.all false
set_option maxRecDepth 100000
set_option maxHeartbeats 4000000
/-! DI 17: own exceptions' __init__; the facts of a class. -/
namespace DI
open PySem PySem.Spec PyProof.Rows L2
/-! ### what the written part must say of an own exception -/
def oexB (K : PySem.W.Frag) (C : Addr) : Bool := (match K.lookup C with
  | some ⟨.type "type", _, .cls cd, sl⟩ => (match cd.mro, sl.toList with
    | .ref C' :: bm, [_, _, _, _, some (.builtin n), _] => decide (C' = C) && (decide (n = "ValueError.__new__") && (!cd.hasDel && (cd.hasDict && PySem.HandSPX.refsVE bm)))
    | _, _ => false)
  | _ => false) && (decide (PySem.W.findIn K (.ref C) "__setattr__" = some (some (.builtin "object.__setattr__"))) && (decide (PySem.W.subIn K (.ref C) (.type "BaseException") = some true) && (decide (PySem.W.typeIn K (.ref C) = some (.type "type")) && PySem.W.keepIn K (.ref C))))
theorem oexB_ok {K : PySem.W.Frag} {C : Addr} (h : oexB K C = true) : OexC K C := by
  obtain ⟨q, h⟩ := ba h
  obtain ⟨h1, h⟩ := ba h
  obtain ⟨h2, h⟩ := ba h
  obtain ⟨h3, h4⟩ := ba h
  refine ⟨?_, of_decide_eq_true h1, of_decide_eq_true h2, of_decide_eq_true h3, h4⟩
  split at q
  · rename_i dd cd sl ho
    split at q
    · rename_i C' bm k0 k1 k2 k3 n k5 hm hs
      obtain ⟨q1, q⟩ := ba q
      obtain ⟨q2, q⟩ := ba q
      obtain ⟨q3, q⟩ := ba q
      obtain ⟨q4, q5⟩ := ba q
      have q1 := of_decide_eq_true q1
      have q2 := of_decide_eq_true q2
      have q3x : cd.hasDel = false := bn q3
      clear q q3
      obtain ⟨nm, bs, mro, ns, qn, hd, sn, sub, ab, col, del⟩ := cd
      dsimp only at hm q3x q4
      subst hm q3x q4 q1 q2
      have hsl : sl = #[k0, k1, k2, k3, some (.builtin "ValueError.__new__"), k5] := by
        obtain ⟨l⟩ := sl
        simp only at hs
        rw [hs]
      subst hsl
      exact ⟨nm, qn, ns, bs, bm, sn, sub, ab, col, dd, k0, k1, k2, k3, k5, ho, q5⟩
    · cases q
  · cases q
def exkB (K : PySem.W.Frag) (C : Str) (fl : List Str) : Bool := xfB K (He.ga K C) && ((fl.all fun f => decide (PySem.W.findIn K (.ref (He.ga K C)) f = some none)) && oexB K (He.ga K C))
theorem exkB_ok {K : PySem.W.Frag} {C : Str} {fl : List Str} (h : exkB K C fl = true) : ExcK K C fl := by
  obtain ⟨h1, h⟩ := ba h
  obtain ⟨h2, h3⟩ := ba h
  exact ⟨xfB_ok h1, fun f hf => of_decide_eq_true (List.all_eq_true.mp h2 f hf), oexB_ok h3⟩
def excB (K : PySem.W.Frag) (D : Addr) : Bool := decide (PySem.W.findIn K (.ref D) "__getattribute__" = some (some (.builtin "BaseException.__getattribute__"))) && (decide (PySem.W.findIn K (.ref D) "__getattr__" = some none) && (decide (PySem.W.subIn K (.ref D) (.type "BaseException") = some true) &&
  (PySem.W.hasDictIn K D && (decide (PySem.W.findIn K (.ref D) "__class__" = some (some (.builtin "object.__class__"))) && (decide (PySem.W.specialIn K (.builtin "object.__class__") "__get__" = some (some (.builtin "getset_descriptor.__get__"))) &&
  (decide (PySem.W.takesIn K (.builtin "object.__class__") = some true) && decide (PySem.W.mroIn K D (.type "object") = some true)))))))
theorem excB_ok {K : PySem.W.Frag} {D : Addr} (h : excB K D = true) : ExcC K D := by
  obtain ⟨h1, h⟩ := ba h
  obtain ⟨h2, h⟩ := ba h
  obtain ⟨h3, h⟩ := ba h
  obtain ⟨h4, h⟩ := ba h
  obtain ⟨h5, h⟩ := ba h
  obtain ⟨h6, h⟩ := ba h
  obtain ⟨h7, h8⟩ := ba h
  exact ⟨of_decide_eq_true h1, of_decide_eq_true h2, of_decide_eq_true h3, h4, of_decide_eq_true h5, of_decide_eq_true h6, of_decide_eq_true h7, of_decide_eq_true h8⟩
/-- Base.__init__ is ValueError's -/
def inhB (K : PySem.W.Frag) (B : Addr) : Bool := decide (PySem.W.specialIn K (.ref B) "__getattribute__" = some (some (.builtin "type.__getattribute__"))) && (PySem.W.readsIn K B (.type "type") &&
  (match PySem.W.findCls K (.ref B) (.type "type") "__init__" with
  | some (.val (.builtin n)) => decide (n = "ValueError.__init__")
  | _ => false))
structure InhC (K : PySem.W.Frag) (B : Addr) : Prop where
  ga : PySem.W.specialIn K (.ref B) "__getattribute__" = some (some (.builtin "type.__getattribute__"))
  rd : PySem.W.readsIn K B (.type "type") = true
  fi : PySem.W.findCls K (.ref B) (.type "type") "__init__" = some (.val (.builtin "ValueError.__init__"))
theorem inhB_ok {K : PySem.W.Frag} {B : Addr} (h : inhB K B = true) : InhC K B := by
  obtain ⟨h1, h⟩ := ba h
  obtain ⟨h2, h3⟩ := ba h
  refine ⟨of_decide_eq_true h1, h2, ?_⟩
  split at h3
  · rename_i n e
    rw [e, of_decide_eq_true h3]
  · cases h3
section
variable {X : Cx} {o e : Expr} {es : List Expr} {to te : TE} {ta : TA} {f : Str} {p p' p1 p2 pos : Pos}
/-- Base.__init__(self, ..), Base an own class whose __init__ is ValueError's -/
theorem pe_inh {B : Str} {R0 : Addr} (T : InhC X.K R0) (hg : Gl X B) (hm : X.mg B = some (.ref R0)) (hd : (B == ("__debug__" : Str)) = false) (hl : (p2.endLine == pos.line) = true) (hlen : (e :: es).length < 30) (hst : (e :: es).all notStar = true) (ha : PA X (e :: es) ta)
    (he : starEach (e :: es) X.env = (false, eval e X.env) :: starEach es X.env) (hpl : (backTo pos (starEach es X.env)).any (·.1) = false) :
    PE X (.Call (.Attribute (.Name B p1) "__init__" p2) (e :: es) [] pos) (tVeI X.K ta) := by
  refine ⟨fun pins s σ H Q I h => ?_⟩
  have hfew : methodCallForm ((e :: es).length + ([] : List Keyword).length) (backTo pos (starEach (e :: es) X.env)) (backToKw pos (keywordEach [] X.env)) = true := by
    unfold methodCallForm
    rw [star_all hst]
    show (true && true && decide ((e :: es).length + 0 + 0 < 30)) = true
    rw [decide_eq_true (by omega)]; rfl
  have hc : eval (.Call (.Attribute (.Name B p1) "__init__" p2) (e :: es) [] pos) X.env = (do
      let ov ← eval (.Name B p1) X.env
      standAt p2.atName
      let (f, first) ← holding [ov] (getMethod ov "__init__" (do return (← importBound (.Name B p1) X.env).getD true))
      callWith pos f first (backTo pos (starEach (e :: es) X.env)) (backToKw pos (keywordEach [] X.env))) := by
    show (do let ov ← eval (.Name B p1) X.env; standAt p2.atName; methodCall (.Name B p1) "__init__" p2 pos X.env ov ((e :: es).length + ([] : List Keyword).length) (backTo pos (starEach (e :: es) X.env)) (backToKw pos (keywordEach [] X.env))) = _
    unfold methodCall calleeOf methodCallPos
    rw [hfew]
    simp only [hl, if_true, Bool.not_true, Bool.false_or]
    rfl
  refine PySem.W.methodCall_KW (ld_glob I hg hm ?_ hd) hc
  refine PySem.W.method_cls I.kIn T.ga (PySem.W.cls_value I.kIn T.rd T.fi rfl ?_)
  show wpAny _ _ (callWith pos (Value.builtin "ValueError.__init__") [] (backTo pos (starEach (e :: es) X.env)) []) _ _ _
  refine PyProof.Rows.callWith_method1 (thn (ha.run pos pins _ σ H _ (I.tok _) h) fun us s1 ⟨vs, H1, I1, r1, a, C, ws, ev, hl, T, ea, q⟩ => ?_) he hpl
  subst ev
  cases r1 with
  | @cons _ u0 _ ur ra rw' =>
    obtain rfl : u0 = Value.ref a := ra
    have hlen : ur.length ≤ sizeLine := by
      rw [← Paired.length rw', sizeLine_eq]
      omega
    exact oinit_ok T I1 ea hlen fun s' J => ⟨.non, H1, J, rfl, q⟩
/-! ### self, then names -/
def tVs : List Nat → TA
  | [] => tNil
  | i :: is => tCons (tVar i) (tVs is)
theorem tVs_ok {σ : L2.St} {H : Hp} {Q : List V → Hp → Prop} : ∀ {is : List Nat} {vs : List V}, is.map (fun i => σ[i]?) = vs.map (fun v => some (some v)) → Q vs H → tVs is σ H Q := by
  intro is
  induction is generalizing Q with
  | nil =>
    intro vs h q
    cases vs with
    | nil => exact q
    | cons _ _ => cases h
  | cons i is ih =>
    intro vs h q
    cases vs with
    | nil => cases h
    | cons v vs =>
      simp only [List.map_cons, List.cons.injEq] at h
      exact ⟨v, h.1, ih (Q := fun xs H2 => Q (v :: xs) H2) h.2 q⟩
/-- plain names at slots -/
def nmsB (N : List Str) (sc : Scope) : List Nat → List Expr → Bool
  | [], [] => true
  | i :: is, .Name x _ :: xs => decide (N[i]? = some x) && (visB sc x && (nmB x && nmsB N sc is xs))
  | _, _ => false
theorem nms_ok {N : List Str} {sc : Scope} (hN : X.N = N) (hs : X.env.scope = sc) : ∀ {is : List Nat} {xs : List Expr}, nmsB N sc is xs = true → PA X xs (tVs is) ∧ xs.all notStar = true := by
  intro is
  induction is with
  | nil =>
    intro xs h
    cases xs with
    | nil => exact ⟨pa_nil, rfl⟩
    | cons _ _ => cases h
  | cons i is ih =>
    intro xs h
    unfold nmsB at h
    split at h
    · cases ‹_ :: _ = []›
    · rename_i i' is' x p xs e1
      cases e1
      obtain ⟨h1, h⟩ := ba h
      obtain ⟨h2, h⟩ := ba h
      obtain ⟨h3, h4⟩ := ba h
      obtain ⟨a, b⟩ := ih h4
      have hv : Vis X.env.scope x := by
        rw [hs]
        unfold visB at h2
        unfold Vis
        split at h2 <;> first | (rename_i e; rw [e]; simp) | cases h2
      obtain ⟨n1, n2, _⟩ := nmB_ok h3
      exact ⟨pa_cons (pe_var (by rw [hN]; exact of_decide_eq_true h1) hv n1 n2) a (star_cons (e := .Name x p) rfl), by rw [List.all_cons, b]; rfl⟩
    · cases h
/-- self.f = f, .. -/
def fldB (N : List Str) (sc : Scope) : Nat → List Str → List Stmt → Bool
  | _, [], [] => true
  | i, f :: fl, .Assign [.Attribute (.Name s _) g _] (.Name x _) _ :: r => decide (f = g) && (decide (N[0]? = some s) && (visB sc s && (nmB s && (decide (N[i]? = some x) && (visB sc x && (nmB x && fldB N sc (i + 1) fl r))))))
  | _, _, _ => false
def tFl (K : PySem.W.Frag) : Nat → List Str → TS
  | _, [] => tNext
  | i, f :: fl => tSeq (tOst K f (tVar 0) (tVar i)) (tFl K (i + 1) fl)
theorem fld_ok {N : List Str} {sc : Scope} (hN : X.N = N) (hs : X.env.scope = sc) : ∀ {fl : List Str} {i : Nat} {r : List Stmt}, fldB N sc i fl r = true → PSs X r (tFl X.K i fl) := by
  have vis : ∀ {x : Str}, visB sc x = true → Vis X.env.scope x := fun h2 => by
    rw [hs]
    unfold visB at h2
    unfold Vis
    split at h2 <;> first | (rename_i e; rw [e]; simp) | cases h2
  intro fl
  induction fl with
  | nil =>
    intro i r h
    cases r with
    | nil => exact pss_nil
    | cons _ _ => unfold fldB at h; cases h
  | cons f fl ih =>
    intro i r h
    unfold fldB at h
    split at h
    · cases ‹_ :: _ = []›
    · rename_i i' f' fl' s q1 g q2 x q3 q4 r e1 
      cases e1
      obtain ⟨h1, h⟩ := ba h
      obtain ⟨h2, h⟩ := ba h
      obtain ⟨h3, h⟩ := ba h
      obtain ⟨h4, h⟩ := ba h
      obtain ⟨h5, h⟩ := ba h
      obtain ⟨h6, h⟩ := ba h
      obtain ⟨h7, h8⟩ := ba h
      have h1 := of_decide_eq_true h1
      subst h1
      obtain ⟨n1, n2, _⟩ := nmB_ok h4
      obtain ⟨m1, m2, _⟩ := nmB_ok h7
      exact pss_cons (ps_ost (pe_var (i := 0) (by rw [hN]; exact of_decide_eq_true h2) (vis h3) n1 n2) (pe_var (by rw [hN]; exact of_decide_eq_true h5) (vis h6) m1 m2) rfl) (ih h8)
    · cases h
end
/-- the fields but the first -/
theorem tFl_more {K : PySem.W.Frag} {C : Addr} (T : OexC K C) {a dx : Addr} (hne : dx ≠ a) {D : Ends} {σ : L2.St} (h0 : σ[0]? = some (some (.ref a))) : ∀ {fl : List Str} {vs : List V} {i : Nat} {H : Hp} {fs : List (Str × V)}, (∀ f ∈ fl, PySem.W.findIn K (.ref C) f = some none) →
    fl.length = vs.length → (∀ j v, vs[j]? = some v → σ[i + j]? = some (some v)) → H a = some (exo a C (some dx)) → H dx = some (exd dx fs) → fs.length + fl.length ≤ 900 → D.nx σ (upd H dx (exd dx ((fl.zip vs).reverse ++ fs))) → tFl K i fl D σ H := by
  intro fl
  induction fl with
  | nil =>
    intro vs i H fs _ _ _ ha hd _ q
    have e : upd H dx (exd dx (([].zip vs).reverse ++ fs)) = H := by
      funext b
      by_cases hb : b = dx
      · rw [hb, upd_same, hd]; rfl
      · rw [upd_ne hb]
    rw [e] at q
    exact q
  | cons f fl ih =>
    intro vs i H fs hno hl hv ha hd hz q
    cases vs with
    | nil => cases hl
    | cons v vs =>
      refine ⟨v, by simpa using hv 0 v rfl, .ref a, h0, a, C, rfl, T, hno f List.mem_cons_self, .inr ⟨dx, fs, ha, hd, by simp at hz; omega, ?_⟩⟩
      refine ih (vs := vs) (fun g hg => hno g (List.mem_cons_of_mem _ hg)) (by simpa using hl) (fun j w e => by
        have := hv (j + 1) w e
        rwa [show i + 1 + j = i + (j + 1) by omega]) (by rw [upd_ne (fun z => hne z.symm)]; exact ha) upd_same (by simp at hz ⊢; omega) ?_
      have e : upd (upd H dx (exd dx ((f, v) :: fs))) dx (exd dx ((fl.zip vs).reverse ++ ((f, v) :: fs))) = upd H dx (exd dx (((f :: fl).zip (v :: vs)).reverse ++ fs)) := by
        funext b
        by_cases hb : b = dx
        · rw [hb, upd_same, upd_same]; simp
        · rw [upd_ne hb, upd_ne hb, upd_ne hb]
      rw [e]
      exact q
/-- an __init__: Base.__init__(self, ..), then self.f = f, .. -/
def iniB (B : Str) (is : List Nat) (N : List Str) (sc : Scope) (fl : List Str) (body : List Stmt) : Bool := match body with
  | .Expr (.Call (.Attribute (.Name b _) g p2) (e :: es) [] p3) _ :: r => decide (b = B) && (decide (g = "__init__") && (gloB sc b && (nmB b && ((p2.endLine == p3.line) && (decide ((e :: es).length < 30) && (nmsB N sc (0 :: is) (e :: es) && fldB N sc 1 fl r))))))
  | _ => false
theorem ini_ok {P : Program} {w : World} {K : PySem.W.Frag} {mg : Str → Option Value} {base : Heap} {C B self x qual : Str} {fl ns : List Str} {is : List Nat} {params : Arguments} {body : List Stmt} {scope : Scope} {fI : Addr} {fd : FuncData}
    (F : FunD K x qual params body scope [] [] fI fd) (T : ExcK K C fl) (TB : InhC K (He.ga K B)) (hB : mg B = some (.ref (He.ga K B))) (Sc : FnScope (self :: ns) (self :: ns) scope) (hn : ns.length = fl.length) (hne : fl ≠ []) (hz : fl.length ≤ 900)
    (his : ∀ i ∈ is, 1 ≤ i ∧ i < fl.length + 1) (hil : is.length ≤ 1000) (h : iniB B is (self :: ns) scope fl body = true) : FnOk P w K mg base (L2.CX P w) 1 fI fd (self :: ns) (spX K C fl) := by
  refine F.ok Sc (fun vs H Q E q => ?_) (fun cdv A outer s H vs Q E hr q => ?_)
  · obtain ⟨a, vs', rfl, hl, _⟩ := q
    simp [hl, hn]
  · obtain ⟨a, vs', rfl, hl, ha, hq⟩ := q
    unfold iniB at h
    split at h
    · rename_i b p1 g p2 e es p3 p4 r
      obtain ⟨h1, h⟩ := ba h
      obtain ⟨h2, h⟩ := ba h
      obtain ⟨h3, h⟩ := ba h
      obtain ⟨h4, h⟩ := ba h
      obtain ⟨h5, h⟩ := ba h
      obtain ⟨h5', h⟩ := ba h
      obtain ⟨h6, h7⟩ := ba h
      have h1 := of_decide_eq_true h1
      have h2 := of_decide_eq_true h2
      subst h1 h2
      obtain ⟨n1, n2, _⟩ := nmB_ok h4
      obtain ⟨pa, st⟩ := nms_ok (X := cxOf (L2.CX P w) P w K mg base (self :: ns) qual scope fI cdv A outer s H E) rfl rfl h6
      have st2 := st
      rw [List.all_cons, Bool.and_eq_true] at st2
      have hg : Gl (cxOf (L2.CX P w) P w K mg base (self :: ns) qual scope fI cdv A outer s H E) b := by
        show scope.names.lookup b = some .globalImplicit
        unfold gloB at h3
        split at h3 <;> first | assumption | cases h3
      refine ⟨_, pss_cons (ps_expr (pe_inh TB hg hB n1 h5 (of_decide_eq_true h5') st pa (star_cons st2.1) (star_any st2.2)) (noComp_ok rfl)) (fld_ok rfl rfl h7), ?_⟩
      have hst : L2.start (self :: ns) (V.ref a :: vs') = some (.ref a) :: vs'.map some := by
        unfold L2.start
        rw [show (self :: ns).length - (V.ref a :: vs').length = 0 by simp [hl, hn]]
        simp
      rw [hst]
      have σi : ∀ j v, vs'[j]? = some v → (some (V.ref a) :: vs'.map some)[1 + j]? = some (some v) := fun j v e => by
        rw [show 1 + j = j + 1 by omega, List.getElem?_cons_succ, List.getElem?_map, e]; rfl
      have key : ∀ is : List Nat, (∀ i ∈ is, 1 ≤ i ∧ i < fl.length + 1) → ∃ ws : List V, is.map (fun i => (some (V.ref a) :: vs'.map some)[i]?) = ws.map (fun v => some (some v)) := by
        intro is
        induction is with
        | nil => intro _; exact ⟨[], rfl⟩
        | cons i is ih =>
          intro his
          obtain ⟨ws, e⟩ := ih fun j hj => his j (List.mem_cons_of_mem _ hj)
          obtain ⟨i1, i2⟩ := his i List.mem_cons_self
          have hlt : i - 1 < vs'.length := by omega
          refine ⟨vs'[i - 1] :: ws, ?_⟩
          rw [List.map_cons, List.map_cons, e]
          have := σi (i - 1) _ (List.getElem?_eq_getElem hlt)
          rw [show 1 + (i - 1) = i by omega] at this
          rw [this]
      obtain ⟨ws, hws⟩ := key is his
      have hwl : ws.length ≤ 1000 := by
        have := congrArg List.length hws
        simp at this
        omega
      refine tVs_ok (vs := .ref a :: ws) (by rw [List.map_cons, List.map_cons, hws]; rfl) ⟨a, He.ga K C, ws, rfl, hwl, T.ox, ha, ?_⟩
      cases fl with
      | nil => exact (hne rfl).elim
      | cons f fl =>
        cases vs' with
        | nil => cases hl
        | cons v vs' =>
          refine ⟨v, rfl, .ref a, rfl, a, He.ga K C, rfl, T.ox, T.no f List.mem_cons_self, .inl ⟨ha, fun dx hx hdx => ?_⟩⟩
          refine tFl_more (a := a) (dx := dx) (vs := vs') (fs := [(f, v)]) T.ox hdx rfl (fun g hg => T.no g (List.mem_cons_of_mem _ hg)) (by simpa using hl.symm) (fun j w' e => ?_) upd_same (by rw [upd_ne hdx, upd_same]) (by simp at hz ⊢; omega) ?_
          · have := σi (j + 1) w' e
            rwa [show 1 + 1 + j = 1 + (j + 1) by omega]
          · have e : upd (upd (upd H dx (exd dx [(f, v)])) a (exo a (He.ga K C) (some dx))) dx (exd dx ((fl.zip vs').reverse ++ [(f, v)])) = upd (upd H dx (exd dx ((f :: fl).zip (v :: vs')).reverse)) a (exo a (He.ga K C) (some dx)) := by
              funext b
              by_cases hb : b = dx
              · rw [hb, upd_same, upd_ne hdx, upd_same]; simp
              · rw [upd_ne hb]
                by_cases hba : b = a
                · rw [hba, upd_same, upd_same]
                · rw [upd_ne hba, upd_ne hb, upd_ne hba, upd_ne hb]
            show Q .non _
            rw [e]
            exact hq dx hx hdx
    · cases h
end DI

set_option Elab.async false
set_option linter.all false
set_option maxRecDepth 100000
set_option maxHeartbeats 4000000
/-! DI 18: defs keep what the code over data does; the facts behind the top. -/
namespace DI
open PySem PySem.Spec PyProof.Rows L2
/-! ### what is said of a program -/
structure Ini where
  C : Str
  fl : List Str
  B : Str
  self : Str
  ns : List Str
  is : List Nat
  fn : He.DefD
structure Cfg where
  ds : List Df
  fns : List He.DefD
  free : List Str
  cons : List (Str × D)
  cls : List Str
  inis : List Ini
  isx : List (Str × Str × Bool)
  fuel : Nat
def lk2 (l : List (Str × Str × Bool)) (C k : Str) : Option Bool := match l with
  | [] => none
  | (a, b, r) :: t => if a = C ∧ b = k then some r else lk2 t C k
def lkI (l : List Ini) (C : Str) : Option (List Str) := match l with
  | [] => none
  | i :: t => if i.C = C then some i.fl else lkI t C
def lkC (l : List (Str × D)) (x : Str) : Option D := match l with
  | [] => none
  | (y, d) :: t => if y = x then some d else lkC t x
theorem lk2_mem {l : List (Str × Str × Bool)} {C k : Str} {b : Bool} (h : lk2 l C k = some b) : (C, k, b) ∈ l := by
  induction l with
  | nil => cases h
  | cons p t ih =>
    obtain ⟨a, c, r⟩ := p
    unfold lk2 at h
    split at h
    · rename_i e; cases h; rw [e.1, e.2]; exact List.mem_cons_self
    · exact List.mem_cons_of_mem _ (ih h)
theorem lkI_mem {l : List Ini} {C : Str} {fl : List Str} (h : lkI l C = some fl) : ∃ i ∈ l, i.C = C ∧ i.fl = fl := by
  induction l with
  | nil => cases h
  | cons i t ih =>
    unfold lkI at h
    split at h
    · rename_i e; cases h; exact ⟨i, List.mem_cons_self, e, rfl⟩
    · obtain ⟨j, hj, e⟩ := ih h; exact ⟨j, List.mem_cons_of_mem _ hj, e⟩
theorem lkC_some {l : List (Str × D)} {x : Str} (h : x ∈ l.map (·.1)) : ∃ d, lkC l x = some d ∧ (x, d) ∈ l := by
  induction l with
  | nil => cases h
  | cons p t ih =>
    obtain ⟨y, d⟩ := p
    unfold lkC
    by_cases e : y = x
    · rw [if_pos e]; exact ⟨d, rfl, by rw [e]; exact List.mem_cons_self⟩
    · rw [if_neg e]
      rw [List.map_cons, List.mem_cons] at h
      rcases h with h | h
      · exact absurd h.symm e
      · obtain ⟨d, a, b⟩ := ih h; exact ⟨d, a, List.mem_cons_of_mem _ b⟩
namespace Cfg
def G (c : Cfg) : Gs := ⟨c.ds.map fun d => (d.name, d.nP), c.cons.map (·.1), c.free, c.cls⟩
def q0 (c : Cfg) : Rq := { c := fun _ _ _ => .bad, gl := lkC c.cons, hd := none, isx := lk2 c.isx, ex := lkI c.inis, fuel := c.fuel }
def q (c : Cfg) (k : Nat) : Rq := { c.q0 with c := callN c.ds c.q0 k }
end Cfg
/-! ### constants -/
mutual
def conB (K : PySem.W.Frag) : D → Value → Bool
  | .non, u => (match u with
    | .none => true
    | _ => false)
  | .bl b, u => (match u with
    | .bool c => b == c
    | _ => false)
  | .int i, u => (match u with
    | .int j _ => decide (i = j)
    | _ => false)
  | .str x, u => (match u with
    | .str y _ => decide (x = y)
    | _ => false)
  | .tup ds, u => (match u with
    | .ref a => (match K.lookup a with
      | some ⟨.type c, _, .seq its _, _⟩ => decide (c = "tuple") && (decide (its.size ≤ sizeLine) && consB K ds its.toList)
      | _ => false)
    | _ => false)
  | _, _ => false
def consB (K : PySem.W.Frag) : List D → List Value → Bool
  | [], us => us.isEmpty
  | d :: ds, us => (match us with
    | u :: us => d.shr && (conB K d u && consB K ds us)
    | [] => false)
end
mutual
theorem conB_ok {w : World} {K : PySem.W.Frag} : ∀ {d : D} {u : Value}, conB K d u = true → ∃ v, RelV v u ∧ ∀ m H, Rp w K m H d v
  | .non, u, h => by
    unfold conB at h
    split at h
    · exact ⟨.non, rfl, fun _ _ => .non⟩
    · cases h
  | .bl b, u, h => by
    unfold conB at h
    split at h
    · have e := eq_of_beq h
      subst e
      exact ⟨.bl b, rfl, fun _ _ => .bl b⟩
    · cases h
  | .int i, u, h => by
    unfold conB at h
    split at h
    · have e := of_decide_eq_true h
      subst e
      exact ⟨.int i, ⟨_, rfl⟩, fun _ _ => .int i⟩
    · cases h
  | .str x, u, h => by
    unfold conB at h
    split at h
    · have e := of_decide_eq_true h
      subst e
      exact ⟨.str x, ⟨_, rfl⟩, fun _ _ => .str x⟩
    · cases h
  | .tup ds, u, h => by
    unfold conB at h
    split at h
    · rename_i a
      split at h
      · rename_i c dd its n sl e
        obtain ⟨h1, h⟩ := ba h
        obtain ⟨h2, h3⟩ := ba h
        obtain ⟨vs, r, p⟩ := consB_ok (w := w) h3
        exact ⟨.ref a, rfl, fun m H => .tup (.inr ⟨_, its, n, e, congrArg Value.type (of_decide_eq_true h1), rfl, of_decide_eq_true h2, r⟩) (p m H)⟩
      · cases h
    · cases h
  | .ref i, u, h => by cases h
  | .lst xs, u, h => by cases h
  | .rol xs, u, h => by cases h
  | .ist ns, u, h => by cases h
theorem consB_ok {w : World} {K : PySem.W.Frag} : ∀ {ds : List D} {us : List Value}, consB K ds us = true → ∃ vs, Vals vs us ∧ ∀ m H, Rps w K m H ds vs
  | [], us, h => by
    unfold consB at h
    cases us with
    | nil => exact ⟨[], .nil, fun _ _ => .nil⟩
    | cons _ _ => cases h
  | d :: ds, us, h => by
    unfold consB at h
    split at h
    · obtain ⟨h1, h⟩ := ba h
      obtain ⟨h2, h3⟩ := ba h
      obtain ⟨v, r, p⟩ := conB_ok (w := w) h2
      obtain ⟨vs, rs, ps⟩ := consB_ok (w := w) h3
      exact ⟨v :: vs, .cons r rs, fun m H => .cons h1 (p m H) (ps m H)⟩
    · cases h
end
/-! ### binding -/
def Bd (fn : He.DefD) (ps : List Str) : Prop := ∀ (kV doc pm : Value) (an : Option Addr) (cdv ct : Value) (us : List Value), us.length = ps.length → bindArgs (PySem.W.fnOf fn.name fn.qual fn.params fn.body fn.scope .none kV doc pm an cdv ct) ⟨us, []⟩ = pure (ps.zip us)

/-! ### defs -/
def fnScB (N P : List Str) (sc : Scope) : Bool := (match sc.kind with
  | .function => true
  | _ => false) && (!sc.isCoroutine && (!sc.isGenerator && (decide N.Nodup && (decide (N.take P.length = P) && ((P.all fun x => decide (sc.names.lookup x = some .local) || decide (sc.names.lookup x = some .cell)) && sc.names.all fun y => !decide (y.2 = .free))))))
theorem fnScB_ok {N P : List Str} {sc : Scope} (h : fnScB N P sc = true) : FnScope N P sc := by
  obtain ⟨h1, h⟩ := ba h
  obtain ⟨h2, h⟩ := ba h
  obtain ⟨h3, h⟩ := ba h
  obtain ⟨h4, h⟩ := ba h
  obtain ⟨h5, h⟩ := ba h
  obtain ⟨h6, h7⟩ := ba h
  refine ⟨?_, bn h2, bn h3, of_decide_eq_true h4, of_decide_eq_true h5, fun x hx => ?_, fun y hy => ?_⟩
  · split at h1
    · assumption
    · cases h1
  · rcases Bool.or_eq_true_iff.mp (List.all_eq_true.mp h6 x hx) with z | z
    · exact .inl (of_decide_eq_true z)
    · exact .inr (of_decide_eq_true z)
  · have := List.all_eq_true.mp h7 y hy
    exact of_decide_eq_false (bn this)
def dfB (G : Gs) (d : Df) (fn : He.DefD) : Bool := decide (fn.at_ = (d.name, none)) && (fn.dfl.isEmpty && (fn.kwd.isEmpty && (decide (d.nP ≤ d.N.length) && (fnScB d.N (d.N.take d.nP) fn.scope && chkSs G ⟨d.N, fn.scope, fun _ => true, true⟩ d.body fn.body))))
inductive DefsOk (G : Gs) : List Df → List He.DefD → Prop
  | nil : DefsOk G [] []
  | cons {d fn ds fns} : dfB G d fn = true → Bd fn (d.N.take d.nP) → DefsOk G ds fns → DefsOk G (d :: ds) (fn :: fns)
theorem DefsOk.get {G : Gs} {ds : List Df} {fns : List He.DefD} (h : DefsOk G ds fns) {d : Df} (hd : d ∈ ds) : ∃ fn, fn ∈ fns ∧ dfB G d fn = true ∧ Bd fn (d.N.take d.nP) := by
  induction h with
  | nil => cases hd
  | cons a b r ih =>
    rcases List.mem_cons.mp hd with e | hd
    · subst e; exact ⟨_, List.mem_cons_self, a, b⟩
    · obtain ⟨fn, q1, q2⟩ := ih hd
      exact ⟨fn, List.mem_cons_of_mem _ q1, q2⟩
def initB (i : Ini) : Bool := decide (i.fn.at_ = (i.C, some ("__init__" : Str))) && (i.fn.dfl.isEmpty && (i.fn.kwd.isEmpty && (fnScB (i.self :: i.ns) (i.self :: i.ns) i.fn.scope && (decide (i.ns.length = i.fl.length) && (!i.fl.isEmpty && (decide (i.fl.length ≤ 900) &&
  ((i.is.all fun j => decide (1 ≤ j ∧ j < i.fl.length + 1)) && (decide (i.is.length ≤ 1000) && iniB i.B i.is (i.self :: i.ns) i.fn.scope i.fl i.fn.body))))))))
def InitsOk (l : List Ini) : Prop := ∀ i ∈ l, initB i = true ∧ Bd i.fn (i.self :: i.ns)
/-! ### the facts -/
def gloK (K : PySem.W.Frag) (x : Str) : Bool := He.eqO (PySem.W.nsIn K mainGlobals x) (some (some (.ref (He.ga K x))))
def clsVal (K : PySem.W.Frag) (k : Str) : Option Value := match PySem.W.nsIn K mainGlobals k with
  | some (some (.ref a)) => some (.ref a)
  | some none => (match bootBuiltins k with
    | some (.type T) => some (.type T)
    | _ => none)
  | _ => none
def initK (K : PySem.W.Frag) (i : Ini) : Bool := exkB K i.C i.fl && (gloK K i.C && (gloK K i.B && (inhB K (He.ga K i.B) && (He.eqO (PySem.W.findIn K (.ref (He.ga K i.C)) "__init__") (some (some (.ref (He.fAd K (i.C, some ("__init__" : Str)))))) &&
  decide (PySem.W.typeIn K (.ref (He.fAd K (i.C, some ("__init__" : Str)))) = some (.type "function"))))))
def isxK (K : PySem.W.Frag) (p : Str × Str × Bool) : Bool := excB K (He.ga K p.1) && (match clsVal K p.2.1 with
  | some c => decide (PySem.W.exmOne K (.ref (He.ga K p.1)) c = some p.2.2) && decide (PySem.W.kitOne K (.ref (He.ga K p.1)) c = some p.2.2)
  | none => false)
def factK (c : Cfg) (K : PySem.W.Frag) : Bool := (c.free.all fun x => He.eqO (PySem.W.nsIn K mainGlobals x) (some none)) && ((c.cons.all fun p => p.2.shr && (match PySem.W.nsIn K mainGlobals p.1 with
    | some (some u) => conB K p.2 u
    | _ => false)) && ((c.ds.all fun d => gloK K d.name) && ((c.inis.all fun i => initK K i) && ((c.isx.all fun p => isxK K p) && c.cls.all fun k => (clsVal K k).isSome))))
def allFn (c : Cfg) : List He.DefD := c.fns ++ c.inis.map (·.fn)
def obsX (c : Cfg) (K : PySem.W.Frag) : He.AlD := (factK c K && (allFn c).all fun d => d.ok K, (allFn c).map fun d => He.fnW K d.at_)
def valX (c : Cfg) : He.AlD := (true, (allFn c).map He.DefD.val)
def SaysX (c : Cfg) (K : PySem.W.Frag) : Prop := obsX c K = valX c
def obsXG (n : Nat) (c : Cfg) (g : Addr → Option Obj) : He.AlD := obsX c (He.frG g (cStatics :: He.asD g n))
def hookX (n : Nat) (c : Cfg) : PySem.W.Hook where
  α := He.AlD
  obs := fun s => obsXG n c s.heap.get?
  val := fun _ => valX c
  says := fun _ h => ∃ K : PySem.W.Frag, K.In h ∧ SaysX c K
  of := fun _ _ e => ⟨_, He.frG_in, e⟩
  keeps := fun _ _ _ ⟨K, hK, c⟩ k => ⟨K, PySem.W.Frag.In.keeps hK k, c⟩
theorem obsXG_eq {n : Nat} {c : Cfg} {g : Addr → Option Obj} {s : Shared} (h : ∀ a, g a = s.heap.get? a) : obsXG n c g = (hookX n c).obs s := by
  have e : g = s.heap.get? := funext h
  rw [e] <;> rfl
section
variable {c : Cfg} {K : PySem.W.Frag} {P : Program} {w : World} {h base : Heap} {mg : Str → Option Value}
theorem SaysX.facts (s : SaysX c K) : factK c K = true := (ba (show (factK c K && (allFn c).all fun d => d.ok K) = true from congrArg (fun z : He.AlD => z.1) s)).1
theorem SaysX.def_ (s : SaysX c K) {d : He.DefD} (hd : d ∈ allFn c) : ∃ fd, FunD K d.name d.qual d.params d.body d.scope (d.dvs K) (d.kws K) (He.fAd K d.at_) fd := by
  have c2 := (ba (show (factK c K && (allFn c).all fun d => d.ok K) = true from congrArg (fun z : He.AlD => z.1) s)).2
  have e : (allFn c).map (fun d => He.fnW K d.at_) = (allFn c).map He.DefD.val := congrArg (fun z : He.AlD => z.2) s
  obtain ⟨i, hi⟩ := List.getElem?_of_mem hd
  have e2 : ((allFn c).map fun d => He.fnW K d.at_)[i]? = ((allFn c).map He.DefD.val)[i]? := by rw [e]
  rw [List.getElem?_map, List.getElem?_map, hi] at e2
  exact He.DefD.funD (Option.some.inj e2) (List.all_eq_true.mp c2 d hd)
theorem SaysX.def0 (s : SaysX c K) {d : He.DefD} (hd : d ∈ allFn c) (h1 : d.dfl.isEmpty = true) (h2 : d.kwd.isEmpty = true) : ∃ fd, FunD K d.name d.qual d.params d.body d.scope [] [] (He.fAd K d.at_) fd := by
  obtain ⟨fd, F⟩ := s.def_ hd
  have e1 : d.dvs K = [] := by unfold He.DefD.dvs; rw [List.isEmpty_iff.mp h1]; rfl
  have e2 : d.kws K = [] := by unfold He.DefD.kws; rw [List.isEmpty_iff.mp h2]; rfl
  rw [e1, e2] at F
  exact ⟨fd, F⟩
theorem gloK_ok (X : K.In h) (G : h.Ns mainGlobals mg) {x : Str} (c : gloK K x = true) : mg x = some (.ref (He.ga K x)) := PySem.W.mg_of X G (He.eqO_ok c)
theorem clsVal_ok (X : K.In h) (G : h.Ns mainGlobals mg) {k : Str} {v : Value} (e : clsVal K k = some v) : ClsV mg k v := by
  unfold clsVal at e
  split at e
  · rename_i a h1
    cases e
    exact .inl ⟨PySem.W.mg_of X G h1, a, rfl⟩
  · rename_i h1
    split at e
    · rename_i T h2
      cases e
      exact .inr ⟨PySem.W.mg_none_of X G h1, h2, T, rfl⟩
    · cases e
  · cases e
/-- what the module says, at a base -/
structure KOk (c : Cfg) (P : Program) (w : World) (K : PySem.W.Frag) (mg : Str → Option Value) (base : Heap) : Prop where
  free : ∀ x ∈ c.free, mg x = none
  cons : ∀ x ∈ c.cons.map (·.1), ∃ d u v, lkC c.cons x = some d ∧ mg x = some u ∧ RelV v u ∧ d.shr = true ∧ ∀ m H, Rp w K m H d v
  xk : ∀ C fl, lkI c.inis C = some fl → ExcK K C fl
  cl : ∀ k ∈ c.cls, ∃ v, ClsV mg k v
  ix : ∀ C k b, lk2 c.isx C k = some b → ExcC K (He.ga K C) ∧ ∃ v, ClsV mg k v ∧ PySem.W.exmOne K (.ref (He.ga K C)) v = some b ∧ PySem.W.kitOne K (.ref (He.ga K C)) v = some b
  mkx : ∀ C fl, lkI c.inis C = some fl → ∃ (fI : Addr) (fd : FuncData) (ps : List Str), PySem.W.findIn K (.ref (He.ga K C)) "__init__" = some (some (.ref fI)) ∧ PySem.W.typeIn K (.ref fI) = some (.type "function") ∧
    FnOk P w K mg base (L2.CX P w) 1 fI fd ps (spX K C fl) ∧ Binds K fd ps [] ∧ mg C = some (.ref (He.ga K C))
theorem kok_of (s : SaysX c K) (X : K.In h) (G : h.Ns mainGlobals mg) (hi : InitsOk c.inis) : KOk c P w K mg base := by
  obtain ⟨f1, f⟩ := ba s.facts
  obtain ⟨f2, f⟩ := ba f
  obtain ⟨f3, f⟩ := ba f
  obtain ⟨f4, f⟩ := ba f
  obtain ⟨f5, f6⟩ := ba f
  have ini : ∀ {C : Str} {fl : List Str}, lkI c.inis C = some fl → ∃ i ∈ c.inis, i.C = C ∧ i.fl = fl ∧ initK K i = true := fun e => by
    obtain ⟨i, hm, a, b⟩ := lkI_mem e
    exact ⟨i, hm, a, b, List.all_eq_true.mp f4 i hm⟩
  refine ⟨fun x hx => PySem.W.mg_none_of X G (He.eqO_ok (List.all_eq_true.mp f1 x hx)), fun x hx => ?_, fun C fl e => ?_, fun k hk => ?_, fun C k b e => ?_, fun C fl e => ?_⟩
  · obtain ⟨d, e1, hm⟩ := lkC_some hx
    have := List.all_eq_true.mp f2 _ hm
    obtain ⟨h1, h2⟩ := ba this
    split at h2
    · rename_i u hu
      obtain ⟨v, r, p⟩ := conB_ok (w := w) h2
      exact ⟨d, u, v, e1, PySem.W.mg_of X G hu, r, h1, p⟩
    · cases h2
  · obtain ⟨i, hm, rfl, rfl, hk⟩ := ini e
    exact exkB_ok (ba hk).1
  · obtain ⟨v, e⟩ := Option.isSome_iff_exists.mp (List.all_eq_true.mp f6 k hk)
    exact ⟨v, clsVal_ok X G e⟩
  · have := List.all_eq_true.mp f5 _ (lk2_mem e)
    obtain ⟨h1, h2⟩ := ba this
    split at h2
    · rename_i v hv
      obtain ⟨h3, h4⟩ := ba h2
      exact ⟨excB_ok h1, v, clsVal_ok X G hv, of_decide_eq_true h3, of_decide_eq_true h4⟩
    · cases h2
  · obtain ⟨i, hm, rfl, rfl, hk⟩ := ini e
    obtain ⟨k1, hk⟩ := ba hk
    obtain ⟨k2, hk⟩ := ba hk
    obtain ⟨k3, hk⟩ := ba hk
    obtain ⟨k4, hk⟩ := ba hk
    obtain ⟨k5, k6⟩ := ba hk
    obtain ⟨b, hb⟩ := hi i hm
    obtain ⟨b1, b⟩ := ba b
    obtain ⟨b2, b⟩ := ba b
    obtain ⟨b3, b⟩ := ba b
    obtain ⟨b4, b⟩ := ba b
    obtain ⟨b5, b⟩ := ba b
    obtain ⟨b6, b⟩ := ba b
    obtain ⟨b7, b⟩ := ba b
    obtain ⟨b8, b⟩ := ba b
    obtain ⟨b9, b10⟩ := ba b
    obtain ⟨fd, F⟩ := s.def0 (d := i.fn) (List.mem_append_right _ (List.mem_map.mpr ⟨i, hm, rfl⟩)) b2 b3
    rw [of_decide_eq_true b1] at F
    refine ⟨_, fd, _, He.eqO_ok k5, of_decide_eq_true k6, ini_ok F (exkB_ok k1) (inhB_ok k4) (gloK_ok X G k3) (fnScB_ok b4) (of_decide_eq_true b5) (fun z => by rw [z] at b6; cases b6) (of_decide_eq_true b7) (fun j hj => of_decide_eq_true (List.all_eq_true.mp b8 j hj)) (of_decide_eq_true b9) b10, F.bindsN hb, gloK_ok X G k2⟩
/-- a body's context -/
theorem xok_body {c : Cfg} {k : Nat} {N : List Str} {scope : Scope} {qual : Str} {f : Addr} {cdv : Value} {A : Around} {outer : List Env} {s : Shared} {H : Hp} {E : XK} (ko : KOk c P w K mg base) (hN : N.Nodup) (hr : Room (k + 2) (A.deeper (envOfC qual scope s.heap.objs.size f cdv)))
    (hf : ∀ d ∈ c.ds, ∃ (fd : FuncData), FnOk P w K mg base (L2.CX P w) (k + 2) (He.ga K d.name) fd (d.N.take d.nP) (spF w K d.nP (callN c.ds c.q0 k d.name)) ∧ mg d.name = some (.ref (He.ga K d.name)) ∧ PySem.W.keepIn K (.ref (He.ga K d.name)) = true ∧ Binds K fd (d.N.take d.nP) [] ∧ (d.N.take d.nP).length = d.nP) :
    XOk c.G (c.q k) ⟨N, scope, fun _ => true, true⟩ (fun cls d _ H => E cls d H) none (cxOf (L2.CX P w) P w K mg base N qual scope f cdv A outer s H E) where
  N := rfl
  nd := hN
  sc := rfl
  fn := rfl
  tk := takes_of rfl rfl rfl rfl
  hu := by have := hr.un; show (A.deeper (envOfC qual scope s.heap.objs.size f cdv)).units + 65 < cLine; omega
  cal := fun _ => ⟨rfl, rfl⟩
  free := ko.free
  cons := ko.cons
  fns := fun _ g n hg => by
    obtain ⟨d, hd, e⟩ := List.mem_map.mp (show (g, n) ∈ c.ds.map fun d => (d.name, d.nP) from hg)
    cases e
    obtain ⟨fd, F, a, b, e, l⟩ := hf d hd
    exact ⟨_, fd, _, k + 2, F, hr, a, b, e, l⟩
  po := passes_of rfl
  hd := rfl
  xk := ko.xk
  cl := ko.cl
  ix := ko.ix
  mkx := fun _ C fl e => by
    obtain ⟨fI, fd, ps, a, b, F, d, g⟩ := ko.mkx C fl e
    exact ⟨fI, fd, ps, 1, a, b, F, hr.mono (by omega), d, g⟩
  su := fun p e => by cases e
theorem start_eq {N : List Str} {ds : List D} {vs : List V} (h : ds.length = vs.length) : True := trivial
theorem rps_get {m : List Addr} {H : Hp} : ∀ {ds : List D} {vs : List V}, Rps w K m H ds vs → ∀ (i : Nat) (d : D), ds[i]? = some d → d.shr = true ∧ ∃ v, vs[i]? = some v ∧ Rp w K m H d v
  | _, _, .nil, i, d, e => by cases e
  | _, _, .cons hs r t, i, d, e => by
    cases i with
    | zero => cases e; exact ⟨hs, _, rfl, r⟩
    | succ i =>
      obtain ⟨a, v, b, c⟩ := rps_get t i d (by simpa using e)
      exact ⟨a, v, by simpa using b, c⟩
theorem rst_start {m : List Addr} {H : Hp} {s : DI.S} {N : List Str} {ds : List D} {vs : List V} (st : StOk w K m H s) (r : Rps w K m H ds vs) : Rst w K none m (ds.map some ++ List.replicate (N.length - ds.length) none) s (L2.start N vs) H := by
  have hl : vs.length = ds.length := r.length
  refine ⟨st, by unfold L2.start; simp [hl], fun i d e => ?_, fun p z => by cases z⟩
  have hi : i < ds.length := by
    apply Classical.byContradiction
    intro hn
    rw [List.getElem?_append_right (by simp; omega)] at e
    rw [List.getElem?_replicate] at e
    split at e <;> cases e
  rw [List.getElem?_append_left (by simpa using hi), List.getElem?_map] at e
  have e1 : ds[i]? = some d := by
    cases q : ds[i]? with
    | none => rw [q] at e; cases e
    | some d' => rw [q] at e; cases e; rfl
  obtain ⟨a, v, b, c⟩ := rps_get r i d e1
  refine ⟨a, v, ?_, c⟩
  unfold L2.start
  rw [List.getElem?_append_left (by simp; omega), List.getElem?_map, b]; rfl
theorem fns_ok {c : Cfg} (s : SaysX c K) (X : K.In h) (G : h.Ns mainGlobals mg) (ko : KOk c P w K mg base) (hd : DefsOk c.G c.ds c.fns) (hnd : (c.ds.map fun d : Df => d.name).Nodup) : ∀ (k : Nat), ∀ d ∈ c.ds,
    ∃ (fd : FuncData), FnOk P w K mg base (L2.CX P w) (k + 2) (He.ga K d.name) fd (d.N.take d.nP) (spF w K d.nP (callN c.ds c.q0 k d.name)) ∧ mg d.name = some (.ref (He.ga K d.name)) ∧ PySem.W.keepIn K (.ref (He.ga K d.name)) = true ∧ Binds K fd (d.N.take d.nP) [] ∧ (d.N.take d.nP).length = d.nP ∧ ∃ (oc : Value) (od : Option Addr) (osl : Array (Option Value)), K.lookup (He.ga K d.name) = some ⟨oc, od, .func fd, osl⟩ := by
  obtain ⟨f1, f⟩ := ba s.facts
  obtain ⟨f2, f⟩ := ba f
  obtain ⟨f3, f⟩ := ba f
  have here : ∀ d ∈ c.ds, ∃ (fn : He.DefD) (fd : FuncData), FunD K fn.name fn.qual fn.params fn.body fn.scope [] [] (He.ga K d.name) fd ∧ Binds K fd (d.N.take d.nP) [] ∧ (d.N.take d.nP).length = d.nP ∧ FnScope d.N (d.N.take d.nP) fn.scope ∧ chkSs c.G ⟨d.N, fn.scope, fun _ => true, true⟩ d.body fn.body = true := by
    intro d hm
    obtain ⟨fn, hfn, b, hb⟩ := hd.get hm
    obtain ⟨b1, b⟩ := ba b
    obtain ⟨b2, b⟩ := ba b
    obtain ⟨b3, b⟩ := ba b
    obtain ⟨b4, b⟩ := ba b
    obtain ⟨b5, b6⟩ := ba b
    obtain ⟨fd, F⟩ := s.def0 (d := fn) (List.mem_append_left _ hfn) b2 b3
    rw [of_decide_eq_true b1] at F
    exact ⟨fn, fd, F, F.bindsN hb, by rw [List.length_take]; have := of_decide_eq_true b4; omega, fnScB_ok b5, b6⟩
  intro k
  induction k with
  | zero =>
    intro d hm
    obtain ⟨fn, fd, F, hb, hl, S, ch⟩ := here d hm
    have hlk : ∃ (oc : Value) (od : Option Addr) (osl : Array (Option Value)), K.lookup (He.ga K d.name) = some ⟨oc, od, .func fd, osl⟩ := by
      obtain ⟨oc, od, _, _, _, _, _, _, _, osl, _, lk, _⟩ := F.ex
      exact ⟨oc, od, osl, lk⟩
    refine ⟨fd, ⟨fun vs H Q E q => ?_, fun A outer s H args us vs Q E hr he hbd hv q => ?_⟩, gloK_ok X G (List.all_eq_true.mp f3 d hm), F.kp, hb, hl, hlk⟩
    · obtain ⟨m, s, ds, _, r, e, _⟩ := q
      rw [r.length, e, hl]
    · obtain ⟨m, s, ds, _, r, e, p⟩ := q
      exact p.elim
  | succ k ih =>
    intro d hm
    obtain ⟨fn, fd, F, hb, hl, S, ch⟩ := here d hm
    have hlk : ∃ (oc : Value) (od : Option Addr) (osl : Array (Option Value)), K.lookup (He.ga K d.name) = some ⟨oc, od, .func fd, osl⟩ := by
      obtain ⟨oc, od, _, _, _, _, _, _, _, osl, _, lk, _⟩ := F.ex
      exact ⟨oc, od, osl, lk⟩
    refine ⟨fd, ?_, gloK_ok X G (List.all_eq_true.mp f3 d hm), F.kp, hb, hl, hlk⟩
    refine F.ok (k := k + 2) S (fun vs H Q E q => ?_) (fun cdv A outer s H vs Q E hr q => ?_)
    · obtain ⟨m, s, ds, _, r, e, _⟩ := q
      rw [r.length, e, hl]
    · have x := xok_body (c := c) (k := k) (N := d.N) (scope := fn.scope) (qual := fn.qual) (f := He.ga K d.name) (cdv := cdv) (A := A) (outer := outer) (s := s) (H := H) (E := E) ko S.nd hr fun d hd => let ⟨fd, a, b, c, e, g, _⟩ := ih d hd; ⟨fd, a, b, c, e, g⟩
      refine ⟨_, sSs d.body x rfl rfl ch, ?_⟩
      obtain ⟨m, st, ds, sok, r, e, p⟩ := q
      have hfind : c.ds.find? (fun d' => decide (d'.name = d.name)) = some d := by
        have key : ∀ l : List Df, (l.map fun d : Df => d.name).Nodup → d ∈ l → l.find? (fun d' => decide (d'.name = d.name)) = some d := by
          intro l
          induction l with
          | nil => intro _ h; cases h
          | cons y l ihl =>
            intro hn hmem
            rw [List.map_cons, List.nodup_cons] at hn
            rw [List.find?_cons]
            by_cases hy : y.name = d.name
            · rw [decide_eq_true hy]
              rcases List.mem_cons.mp hmem with z | z
              · rw [z]
              · exact absurd (List.mem_map.mpr ⟨d, z, hy.symm⟩) hn.1
            · rw [decide_eq_false hy]
              rcases List.mem_cons.mp hmem with z | z
              · exact absurd (by rw [z]) hy
              · exact ihl hn.2 z
        exact key _ hnd hm
      have ec : callN c.ds c.q0 (k + 1) d.name ds st = runF (c.q k) d.N.length d.body ds st := by
        show (match c.ds.find? (fun d' => decide (d'.name = d.name)) with
          | some d' => if ds.length = d'.nP then runF { c.q0 with c := callN c.ds c.q0 k } d'.N.length d'.body ds st else .bad
          | none => .bad) = _
        rw [hfind]
        show (if ds.length = d.nP then _ else _) = _
        rw [if_pos e]; rfl
      rw [ec] at p
      unfold runF at p
      refine ⟨m, _, st, rst_start sok r, ?_⟩
      show PostS w K (fun cls d _ H => E cls d H) none m H _ (runSs (c.q k) d.body (ds.map some ++ List.replicate (d.N.length - ds.length) none) st)
      cases er : runSs (c.q k) d.body (ds.map some ++ List.replicate (d.N.length - ds.length) none) st with
      | nx ρ s' => rw [er] at p; exact fun m' σ' H' ex R' => p m' .non H' ex R'.st .non fun z => by cases z
      | rt d' s' => rw [er] at p; exact p
      | bk ρ s' => rw [er] at p; exact p.elim
      | ct ρ s' => rw [er] at p; exact p.elim
      | exc C fs ρ s' => rw [er] at p; exact fun m' σ' H' dx ex R' xa => p m' H' dx ex R'.st xa
      | bad => rw [er] at p; exact p.elim
end
end DI

set_option Elab.async false
set_option linter.all false
set_option maxRecDepth 100000
set_option maxHeartbeats 4000000
/-! DI 19: a law. -/
namespace DI
open PySem PySem.Spec PyProof.Rows L2
theorem law_facts {c : Cfg} {K : PySem.W.Frag} {P : Program} {w : World} {h : Heap} {mg : Str → Option Value} {f : Addr} {k : Nat} {x : Str} {d : Df} (s : SaysX c K) (X : K.In h) (G : h.Ns mainGlobals mg) (hi : InitsOk c.inis) (hd : DefsOk c.G c.ds c.fns) (hnd : (c.ds.map fun d : Df => d.name).Nodup)
    (hm : d ∈ c.ds) (hN : d.N.take d.nP = [x]) (hfa : mg d.name = some (.ref f)) :
    ∃ fd : FuncData, (∀ (s : Shared) (v : Value), BindsTo s fd ⟨[v], []⟩ [(x, v)]) ∧ ∀ base : Heap, K.In base → base.Ns mainGlobals mg → FnOk P w K mg base (L2.CX P w) (k + 2) f fd [x] (spF w K 1 (callN c.ds c.q0 k d.name)) := by
  have go := fun base : Heap => fns_ok (P := P) (w := w) (base := base) s X G (kok_of s X G hi) hd hnd k d hm
  obtain ⟨fd, _, hg, _, _, hl, oc, od, osl, lk⟩ := go h
  have ef : f = He.ga K d.name := by
    rw [hfa] at hg
    cases hg; rfl
  subst ef
  have hn : d.nP = 1 := by rw [← hl, hN]; rfl
  obtain ⟨fn, hfn, b, hb⟩ := hd.get hm
  obtain ⟨b1, b⟩ := ba b
  obtain ⟨b2, b⟩ := ba b
  obtain ⟨b3, b⟩ := ba b
  obtain ⟨fd2, F⟩ := s.def0 (d := fn) (List.mem_append_left _ hfn) b2 b3
  rw [of_decide_eq_true b1] at F
  have e2 : fd2 = fd := by
    obtain ⟨oc2, od2, _, _, _, _, _, _, _, osl2, _, lk2, _⟩ := F.ex
    have lk2 : K.lookup (He.ga K d.name) = _ := lk2
    rw [lk] at lk2
    cases lk2; rfl
  subst e2
  rw [hN] at hb
  refine ⟨fd2, fun s v => F.bindsA (ps := [x]) hb s [v] rfl, fun base _ _ => ?_⟩
  obtain ⟨fd3, F3, _, _, _, _, oc3, od3, osl3, lk3⟩ := go base
  rw [lk] at lk3
  cases lk3
  rw [hN, hn] at F3
  exact F3
theorem law_sp {w : World} {K : PySem.W.Frag} {H : Hp} {a : Addr} {ns : List Int} {f : List D → S → R D} (hO : Only H) (hS : SqL K H a (ns.map V.int)) (hf : ∃ s', f [.rol (ns.map .int)] [] = .ok (.bl true) s') : spF w K 1 f [.ref a] H (fun v _ => v = .bl true) fun _ _ _ => False := by
  have hr : RolAt K [] H a (ns.map V.int) := by
    rcases hS with (h | h) | h
    · rcases hO a with z | ⟨o, xs, z⟩ <;> rw [z] at h <;> cases h
    · exact .inl ⟨h, by simp⟩
    · exact .inr h
  have ri : ∀ ns : List Int, Rps w K [] H (ns.map D.int) (ns.map V.int) := by
    intro ns
    induction ns with
    | nil => exact .nil
    | cons n ns ih => exact .cons rfl (.int n) ih
  refine ⟨[], [], [.rol (ns.map .int)], ⟨rfl, List.nodup_nil, fun i o e => by cases e⟩, .cons rfl (.rol hr (ri ns)) .nil, rfl, ?_⟩
  obtain ⟨s', e⟩ := hf
  rw [e]
  intro m' v H' _ _ r _
  cases r; rfl
/-- the goal behind the head -/
theorem walkX {l : PySem.W.OpenLaw} {n k : Nat} {q : Program} {loose : List Str} {XP : (Str → Option Value) → Heap → Prop} {d : DefRec} {c : Cfg} {nh : Nat} {df : Df} {x : Str}
    (hn : l.most = some n) (hn2 : n ≤ sizeLine) (hdf : d.params.defaults = []) (hr : Room (k + 2) callerA) (hi : InitsOk c.inis) (hd : DefsOk c.G c.ds c.fns) (hnd : (c.ds.map fun d : Df => d.name).Nodup) (hm : df ∈ c.ds) (hN : df.N.take df.nP = [x]) (hname : d.name = df.name)
    (hcall : ∀ ns : List Int, ns.length ≤ n → ∃ s', callN c.ds c.q0 k df.name [.rol (ns.map .int)] [] = .ok (.bl true) s') :
    PySem.W.WalkO q loose XP (hookX nh c).says l.row.toRowW d [] (fun f vs => PySem.call f vs) := by
  refine Att.attach_call hn hdf fun w s₀ s₁ mg mb fa o pm cd doc a vs ns G Y ho hd' hcd hmg hobj hints hlen hg => ?_
  obtain ⟨K, KX, sy⟩ := Y
  rw [hname] at hmg
  obtain ⟨fd, hb, hF⟩ := law_facts (P := l.prog) (w := w) (k := k) (x := x) sy KX G.T.g hi hd hnd hm hN hmg
  exact law_call KX G.T.g G.T.b G.T.builtins G.T.nolimit hg hobj hints (Nat.le_trans hlen hn2) hr hF hb (fun H hO hS => law_sp hO hS (hcall ns hlen)) fun H e s' h => by
    obtain ⟨_, _, _, _, _, _, _, _, _, _, _, _, z⟩ := h
    exact z
end DI

set_option Elab.async false
set_option linter.all false
set_option maxRecDepth 100000
set_option maxHeartbeats 4000000
/-! DI 20: what code over data comes to, by wishes. -/
namespace DI
open PySem L2
@[irreducible] def Wp {α : Type} (r : R α) (P : α → S → Prop) : Prop := match r with
  | .ok a s => P a s
  | _ => False
structure Kt where
  nx : En → S → Prop
  rt : D → S → Prop := fun _ _ => False
  bk : En → S → Prop := fun _ _ => False
  ct : En → S → Prop := fun _ _ => False
  ex : Str → List (Str × D) → En → S → Prop := fun _ _ _ _ => False
@[irreducible] def Ws (r : RS) (Q : Kt) : Prop := match r with
  | .nx ρ s => Q.nx ρ s
  | .rt d s => Q.rt d s
  | .bk ρ s => Q.bk ρ s
  | .ct ρ s => Q.ct ρ s
  | .exc C fs ρ s => Q.ex C fs ρ s
  | .bad => False
section
variable {α β : Type} {P : α → S → Prop} {s : S} {ρ : En} {q : Rq}
theorem wp_ok {a : α} : Wp (.ok a s) P = P a s := by with_unfolding_all rfl
theorem wp_bad : Wp (.bad : R α) P = False := by with_unfolding_all rfl
theorem wp_bind {r : R α} {f : α → S → R β} {P : β → S → Prop} : Wp (r.bind f) P = Wp r fun a s => Wp (f a s) P := by cases r <;> with_unfolding_all rfl
theorem wp_ite {c : Prop} [Decidable c] {a b : R α} : Wp (if c then a else b) P = if c then Wp a P else Wp b P := by split <;> with_unfolding_all rfl
theorem Wp.imp {r : R α} {P' : α → S → Prop} (h : Wp r P) (i : ∀ a s, P a s → P' a s) : Wp r P' := by
  cases r with
  | ok a s => with_unfolding_all exact i a s h
  | exc C fs s => with_unfolding_all exact h
  | bad => with_unfolding_all exact h
theorem Wp.eq {r : R α} (h : Wp r P) : ∃ a s, r = .ok a s ∧ P a s := by
  cases r with
  | ok a s => with_unfolding_all exact ⟨a, s, rfl, h⟩
  | exc C fs s => with_unfolding_all exact h.elim
  | bad => with_unfolding_all exact h.elim
theorem Wp.of {r : R α} {a : α} {s' : S} (h : r = .ok a s') (p : P a s') : Wp r P := by rw [h]; with_unfolding_all exact p
theorem Wp.is {r : R α} {a : α} {s' : S} (h : r = .ok a s') : Wp r P = P a s' := by rw [h]; with_unfolding_all rfl
theorem Ws.imp {r : RS} {Q Q' : Kt} (h : Ws r Q) (h1 : ∀ ρ s, Q.nx ρ s → Q'.nx ρ s) (h2 : ∀ d s, Q.rt d s → Q'.rt d s) (h3 : ∀ ρ s, Q.bk ρ s → Q'.bk ρ s) (h4 : ∀ ρ s, Q.ct ρ s → Q'.ct ρ s) (h5 : ∀ C fs ρ s, Q.ex C fs ρ s → Q'.ex C fs ρ s) : Ws r Q' := by
  cases r with
  | nx ρ s => with_unfolding_all exact h1 _ _ h
  | rt d s => with_unfolding_all exact h2 _ _ h
  | bk ρ s => with_unfolding_all exact h3 _ _ h
  | ct ρ s => with_unfolding_all exact h4 _ _ h
  | exc C fs ρ s => with_unfolding_all exact h5 _ _ _ _ h
  | bad => with_unfolding_all exact h
/-! ### expressions -/
variable {PD : D → S → Prop} {PL : List D → S → Prop} {PB : Bool → S → Prop} {PO : Option Int → S → Prop} {PI : Its → S → Prop} {PN : En → S → Prop} {Q : Kt}
theorem we_con {d : D} : Wp (runE q (.con d) ρ s) PD = PD d s := by unfold runE; with_unfolding_all rfl
theorem we_var {i : Nat} {d : D} (h : ρ[i]? = some (some d)) : Wp (runE q (.var i) ρ s) PD = PD d s := by unfold runE; rw [h]; with_unfolding_all rfl
theorem we_glo {x : Str} {d : D} (h : q.gl x = some d) : Wp (runE q (.glo x) ρ s) PD = PD d s := by unfold runE; rw [h]; with_unfolding_all rfl
theorem we_bin {o : BOp} {a b : IE} : Wp (runE q (.bin o a b) ρ s) PD = Wp (runE q a ρ s) fun x s => Wp (runE q b ρ s) fun y s => Wp (binD o x y s) PD := by
  rw [runE, wp_bind]; congr 1; funext x s; rw [wp_bind]
theorem we_neg {a : IE} : Wp (runE q (.neg a) ρ s) PD = Wp (runE q a ρ s) fun x s => ∃ i, x = .int i ∧ PD (.int (-i)) s := by
  rw [runE, wp_bind]; congr 1; funext x s
  cases x <;> simp [Wp]
theorem we_cmp {o : COp} {a b : IE} : Wp (runE q (.cmp o a b) ρ s) PD = Wp (runE q a ρ s) fun x s => Wp (runE q b ρ s) fun y s => Wp (cmpD o x y s) fun k s => PD (.bl k) s := by
  rw [runE, wp_bind]; congr 1; funext x s; rw [wp_bind]; congr 1; funext y s; rw [wp_bind]; with_unfolding_all rfl
theorem we_chain {o o' : COp} {a b c : IE} : Wp (runE q (.chain o o' a b c) ρ s) PD = Wp (runE q a ρ s) fun x s => Wp (runE q b ρ s) fun y s => Wp (cmpD o x y s) fun k s => if k = true then Wp (runE q c ρ s) fun z s => Wp (cmpD o' y z s) fun k s => PD (.bl k) s else PD (.bl false) s := by
  rw [runE, wp_bind]; congr 1; funext x s; rw [wp_bind]; congr 1; funext y s; rw [wp_bind]; congr 1; funext k s; rw [wp_ite, wp_bind]; congr 1; (congr 1; funext z s; rw [wp_bind]; with_unfolding_all rfl); with_unfolding_all rfl
theorem we_and {a b : IE} : Wp (runE q (.and a b) ρ s) PD = Wp (runE q a ρ s) fun x s => ∃ k, x = .bl k ∧ if k = true then Wp (runE q b ρ s) PD else PD (.bl false) s := by
  rw [runE, wp_bind]; congr 1; funext x s
  cases x with
  | bl k => cases k <;> simp [Wp]
  | _ => simp [Wp]
theorem we_or {a b : IE} : Wp (runE q (.or a b) ρ s) PD = Wp (runE q a ρ s) fun x s => ∃ k, x = .bl k ∧ if k = true then PD (.bl true) s else Wp (runE q b ρ s) PD := by
  rw [runE, wp_bind]; congr 1; funext x s
  cases x with
  | bl k => cases k <;> simp [Wp]
  | _ => simp [Wp]
theorem we_not {a : IE} : Wp (runE q (.not a) ρ s) PD = Wp (runE q a ρ s) fun x s => ∃ k, x = .bl k ∧ PD (.bl (!k)) s := by
  rw [runE, wp_bind]; congr 1; funext x s
  cases x <;> simp [Wp]
theorem we_ife {t : IT} {a b : IE} : Wp (runE q (.ife t a b) ρ s) PD = Wp (runT q t ρ s) fun k s => if k = true then Wp (runE q a ρ s) PD else Wp (runE q b ρ s) PD := by
  rw [runE, wp_bind]; congr 1; funext k s; rw [wp_ite]
theorem we_tup {es : List IE} : Wp (runE q (.tup es) ρ s) PD = Wp (runEs q es ρ s) fun ds s => ds.length ≤ sizeLine ∧ PD (.tup ds) s := by
  rw [runE, wp_bind]; congr 1; funext ds s; rw [wp_ite, wp_ok, wp_bad]; by_cases h : ds.length ≤ sizeLine <;> simp [h]
theorem we_lst {es : List IE} : Wp (runE q (.lst es) ρ s) PD = Wp (runEs q es ρ s) fun ds s => ds.length ≤ sizeLine ∧ PD (.lst ds) s := by
  rw [runE, wp_bind]; congr 1; funext ds s; rw [wp_ite, wp_ok, wp_bad]; by_cases h : ds.length ≤ sizeLine <;> simp [h]
theorem we_ix {a b : IE} : Wp (runE q (.ix a b) ρ s) PD = Wp (runE q a ρ s) fun x s => Wp (runE q b ρ s) fun y s => Wp (ixD x y s) PD := by
  rw [runE, wp_bind]; congr 1; funext x s; rw [wp_bind]
theorem we_sl {a : IE} {l h : Option IE} : Wp (runE q (.sl a l h) ρ s) PD = Wp (runE q a ρ s) fun x s => Wp (runO q l ρ s) fun l s => Wp (runO q h ρ s) fun h s => Wp (slD x l h s) PD := by
  rw [runE, wp_bind]; congr 1; funext x s; rw [wp_bind]; congr 1; funext y s; rw [wp_bind]
theorem we_rev {a : IE} : Wp (runE q (.rev a) ρ s) PD = Wp (runE q a ρ s) fun x s => ∃ xs, x.lstOf s = some xs ∧ PD (.lst xs.reverse) s := by
  rw [runE, wp_bind]; congr 1; funext x s
  cases h : x.lstOf s <;> simp [Wp]
theorem we_call {f : Str} {es : List IE} : Wp (runE q (.call f es) ρ s) PD = Wp (runEs q es ρ s) fun ds s => Wp (q.c f ds s) PD := by rw [runE, wp_bind]
theorem we_blt {b : Blt} {es : List IE} : Wp (runE q (.blt b es) ρ s) PD = Wp (runEr q es ρ s) fun ds s => Wp (bltD b ds s) PD := by rw [runE, wp_bind]
theorem we_isi {a : IE} {t : Ty} : Wp (runE q (.isi a t) ρ s) PD = Wp (runE q a ρ s) fun d s => ∃ k, isT d t s = some k ∧ PD (.bl k) s := by
  rw [runE, wp_bind]; congr 1; funext x s
  cases h : isT x t s <;> simp [Wp]
theorem we_app {o e : IE} : Wp (runE q (.mth .append o [e]) ρ s) PD = Wp (runE q o ρ s) fun d s => (d.mutOf s).isSome = true ∧ Wp (runEs q [e] ρ s) fun ds s => Wp (mthD .append d ds s) PD := by
  rw [runE, wp_bind]; congr 1; funext x s; rw [wp_ite, wp_bind, wp_bad]; by_cases h : (x.mutOf s).isSome = true <;> simp [h]
/-- a comprehension's turn -/
def turnD (q : Rq) (own : List (Str × Nat)) (elt : IE) (g : IG) (t : Option IT) (ρ : En) : D → S → R (Option D) := fun x s => (runG q g x (wip ρ (own.map (·.2))) s).bind fun ρ' s => (runTo q t ρ' s).bind fun k s => if k = true then ((runE q elt ρ' s).bind setl).bind fun d s => .ok (some d) s else .ok none s
theorem we_lc {own : List (Str × Nat)} {elt : IE} {g : IG} {it : II} {t : Option IT} : Wp (runE q (.lc own elt g it t) ρ s) PD = Wp (runI q it ρ s) fun I s => Wp (lcL (turnD q own elt g t ρ) I.ok I.xs [] s) PD := by rw [runE, wp_bind]; with_unfolding_all rfl
theorem wt_turn {own : List (Str × Nat)} {elt : IE} {g : IG} {t : Option IT} {x : D} {P : Option D → S → Prop} : Wp (turnD q own elt g t ρ x s) P = Wp (runG q g x (wip ρ (own.map (·.2))) s) fun ρ' s => Wp (runTo q t ρ' s) fun k s => if k = true then Wp (runE q elt ρ' s) fun d s => Wp (setl d s) fun d s => P (some d) s else P none s := by
  unfold turnD
  rw [wp_bind]; congr 1; funext ρ' s; rw [wp_bind]; congr 1; funext k s; rw [wp_ite, wp_bind, wp_bind]; with_unfolding_all rfl
theorem wa_nil : Wp (runEs q [] ρ s) PL = PL [] s := by rw [runEs]; with_unfolding_all rfl
theorem wa_cons {e : IE} {es : List IE} : Wp (runEs q (e :: es) ρ s) PL = Wp (runE q e ρ s) fun d s => Wp (setl d s) fun d s => Wp (runEs q es ρ s) fun ds s => PL (d :: ds) s := by
  rw [runEs, wp_bind, wp_bind]; congr 1; funext d s; congr 1; funext d s; rw [wp_bind]; with_unfolding_all rfl
theorem wr_nil : Wp (runEr q [] ρ s) PL = PL [] s := by rw [runEr]; with_unfolding_all rfl
theorem wr_cons {e : IE} {es : List IE} : Wp (runEr q (e :: es) ρ s) PL = Wp (runE q e ρ s) fun d s => Wp (runEr q es ρ s) fun ds s => PL (d :: ds) s := by
  rw [runEr, wp_bind]; congr 1; funext d s; rw [wp_bind]; with_unfolding_all rfl
theorem wo_none : Wp (runO q none ρ s) PO = PO none s := by rw [runO]; with_unfolding_all rfl
theorem wo_some {e : IE} : Wp (runO q (some e) ρ s) PO = Wp (runE q e ρ s) fun d s => ∃ i, d = .int i ∧ PO (some i) s := by
  rw [runO, wp_bind]; congr 1; funext x s
  cases x <;> simp [Wp]
theorem wto_none : Wp (runTo q none ρ s) PB = PB true s := by rw [runTo]; with_unfolding_all rfl
theorem wto_some {t : IT} : Wp (runTo q (some t) ρ s) PB = Wp (runT q t ρ s) PB := by rw [runTo]
theorem wt_and {a b : IT} : Wp (runT q (.and a b) ρ s) PB = Wp (runT q a ρ s) fun k s => if k = true then Wp (runT q b ρ s) PB else PB false s := by
  rw [runT, wp_bind]; congr 1; funext k s; rw [wp_ite]; with_unfolding_all rfl
theorem wt_or {a b : IT} : Wp (runT q (.or a b) ρ s) PB = Wp (runT q a ρ s) fun k s => if k = true then PB true s else Wp (runT q b ρ s) PB := by
  rw [runT, wp_bind]; congr 1; funext k s; rw [wp_ite]; with_unfolding_all rfl
theorem wt_not {a : IT} : Wp (runT q (.not a) ρ s) PB = Wp (runT q a ρ s) fun k s => PB (!k) s := by rw [runT, wp_bind]; with_unfolding_all rfl
theorem wt_cmp {o : COp} {a b : IE} : Wp (runT q (.cmp o a b) ρ s) PB = Wp (runE q a ρ s) fun x s => Wp (runE q b ρ s) fun y s => Wp (cmpD o x y s) PB := by
  rw [runT, wp_bind]; congr 1; funext x s; rw [wp_bind]
theorem wt_chain {o o' : COp} {a b c : IE} : Wp (runT q (.chain o o' a b c) ρ s) PB = Wp (runE q a ρ s) fun x s => Wp (runE q b ρ s) fun y s => Wp (cmpD o x y s) fun k s => if k = true then Wp (runE q c ρ s) fun z s => Wp (cmpD o' y z s) PB else PB false s := by
  rw [runT, wp_bind]; congr 1; funext x s; rw [wp_bind]; congr 1; funext y s; rw [wp_bind]; congr 1; funext k s; rw [wp_ite, wp_bind]; with_unfolding_all rfl
theorem wt_tru {a : IE} : Wp (runT q (.tru a) ρ s) PB = Wp (runE q a ρ s) fun d s => ∃ k, d = .bl k ∧ PB k s := by
  rw [runT, wp_bind]; congr 1; funext x s
  cases x <;> simp [Wp, truD]
theorem wi_seq {a : IE} : Wp (runI q (.seq a) ρ s) PI = Wp (runE q a ρ s) fun d s => Wp (seqI d s) PI := by rw [runI, wp_bind]
theorem wi_range {es : List IE} : Wp (runI q (.range es) ρ s) PI = Wp (runEr q es ρ s) fun ds s => Wp (rngI ds s) PI := by rw [runI, wp_bind]
theorem wi_enum {a : IE} : Wp (runI q (.enum a) ρ s) PI = Wp (runE q a ρ s) fun d s => Wp (enumI d s) PI := by rw [runI, wp_bind]
theorem wg_nm {i : Nat} {d : D} : Wp (runG q (.nm i) d ρ s) PN = Wp (setl d s) fun d s => (i < ρ.length ∧ hdOk q.hd i = true) ∧ PN (ρ.set i (some d)) s := by
  rw [runG, wp_bind]; congr 1; funext d s; rw [wp_ite, wp_ok, wp_bad]; by_cases h : i < ρ.length ∧ hdOk q.hd i = true <;> simp [h]
theorem wg_tup {gs : List IG} {ds : List D} : Wp (runG q (.tup gs) (.tup ds) ρ s) PN = Wp (runGs q gs ds ρ s) PN := by rw [runG]
theorem wg_nil : Wp (runGs q [] [] ρ s) PN = PN ρ s := by rw [runGs]; with_unfolding_all rfl
theorem wg_cons {g : IG} {gs : List IG} {d : D} {ds : List D} : Wp (runGs q (g :: gs) (d :: ds) ρ s) PN = Wp (runG q g d ρ s) fun ρ s => Wp (runGs q gs ds ρ s) PN := by rw [runGs, wp_bind]
theorem wp_nox {r : R α} : Wp r.nox P = Wp r P := by cases r <;> with_unfolding_all rfl
theorem wg_sub {o i : IE} {d : D} : Wp (runG q (.sub o i) d ρ s) PN = Wp (setl d s) fun d s => Wp (runE q o ρ s) fun x s => Wp (runE q i ρ s) fun y s => ∃ s', subD x y d s = some s' ∧ PN ρ s' := by
  rw [runG, wp_bind]; congr 1; funext d s; rw [wp_bind, wp_nox]; congr 1; funext x s; rw [wp_bind, wp_nox]; congr 1; funext y s
  cases h : subD x y d s <;> simp [Wp]
/-! ### statements -/
theorem ws_nil : Ws (runSs q [] ρ s) Q = Q.nx ρ s := by rw [runSs]; with_unfolding_all rfl
theorem ws_cons {st : IS} {r : List IS} : Ws (runSs q (st :: r) ρ s) Q = Ws (runS q st ρ s) { Q with nx := fun ρ s => Ws (runSs q r ρ s) Q } := by
  rw [runSs]; cases h : runS q st ρ s <;> with_unfolding_all rfl
theorem ws_thn {r : R α} {f : α → S → RS} (h : ∀ C fs s', r ≠ .exc C fs s') : Ws (r.thn ρ f) Q = Wp r fun a s => Ws (f a s) Q := by
  cases r with
  | ok a s => with_unfolding_all rfl
  | exc C fs s => with_unfolding_all exact absurd rfl (h C fs s)
  | bad => with_unfolding_all rfl
theorem Wp.thn {r : R α} {f : α → S → RS} (h : Wp r fun a s => Ws (f a s) Q) : Ws (r.thn ρ f) Q := by
  cases r with
  | ok a s => with_unfolding_all exact h
  | exc C fs s => with_unfolding_all exact h.elim
  | bad => with_unfolding_all exact h.elim
theorem ws_asg {g : IG} {e : IE} (h : Wp (runE q e ρ s) fun d s => Wp (runG q g d ρ s) fun ρ s => Q.nx ρ s) : Ws (runS q (.asg g e) ρ s) Q := by
  rw [runS]
  refine Wp.thn (h.imp fun d s h => Wp.thn ?_)
  rw [wp_nox]; with_unfolding_all exact h
theorem ws_aug {i : Nat} {o : BOp} {e : IE} {x : D} (hx : ρ[i]? = some (some x)) (h : Wp (runE q e ρ s) fun y s => hdOk q.hd i = true ∧ Wp (augD o x y s) fun z s => Q.nx (ρ.set i (some z)) s) : Ws (runS q (.aug i o e) ρ s) Q := by
  rw [runS, hx]
  refine Wp.thn (h.imp fun d s h => ?_)
  rw [if_pos h.1]
  with_unfolding_all exact Wp.thn h.2
theorem ws_par {is : List Nat} {es : List IE} (h : Wp (runEs q es ρ s) fun ds s => (is.length = ds.length ∧ (is.all fun i => hdOk q.hd i && decide (i < ρ.length)) = true) ∧ Q.nx (setPar is ds ρ) s) : Ws (runS q (.par is es) ρ s) Q := by
  rw [runS]
  refine Wp.thn (h.imp fun d s h => ?_)
  rw [if_pos h.1]
  with_unfolding_all exact h.2
theorem ws_expr {e : IE} (h : Wp (runE q e ρ s) fun _ s => Q.nx ρ s) : Ws (runS q (.expr e) ρ s) Q := by rw [runS]; with_unfolding_all exact Wp.thn h
theorem ws_ret0 (h : Q.rt .non s) : Ws (runS q (.ret none) ρ s) Q := by rw [runS]; with_unfolding_all exact h
theorem ws_ret {e : IE} (h : Wp (runE q e ρ s) fun d s => Q.rt d s) : Ws (runS q (.ret (some e)) ρ s) Q := by rw [runS]; with_unfolding_all exact Wp.thn h
theorem ws_ife {t : IT} {a b : List IS} (h : Wp (runT q t ρ s) fun k s => if k = true then Ws (runSs q a ρ s) Q else Ws (runSs q b ρ s) Q) : Ws (runS q (.ife t a b) ρ s) Q := by
  rw [runS]; refine Wp.thn (h.imp fun k s h => ?_)
  split at h
  · rename_i e; rw [if_pos e]; with_unfolding_all exact h
  · rename_i e; rw [if_neg e]; with_unfolding_all exact h
theorem ws_if1 {t : IT} {a b : List IS} (h : Wp (runT q t ρ s) fun k s' => k = true ∧ s' = s) (k : Ws (runSs q a ρ s) Q) : Ws (runS q (.ife t a b) ρ s) Q := ws_ife (h.imp fun k' s' z => by rw [if_pos z.1, z.2]; with_unfolding_all exact k)
theorem ws_if0 {t : IT} {a b : List IS} (h : Wp (runT q t ρ s) fun k s' => k = false ∧ s' = s) (k : Ws (runSs q b ρ s) Q) : Ws (runS q (.ife t a b) ρ s) Q := ws_ife (h.imp fun k' s' z => by rw [if_neg (by rw [z.1]; with_unfolding_all exact Bool.false_ne_true), z.2]; with_unfolding_all exact k)
/-- a test that does not hold, nothing else -/
theorem ws_skip {t : IT} {a : List IS} {r : List IS} (h : Wp (runT q t ρ s) fun k s' => k = false ∧ s' = s) (k : Ws (runSs q r ρ s) Q) : Ws (runSs q (.ife t a [] :: r) ρ s) Q := by
  rw [ws_cons]
  refine ws_if0 h ?_
  rw [ws_nil]; with_unfolding_all exact k
/-- a test that holds, its suite does not go on -/
theorem ws_take {t : IT} {a b : List IS} {r : List IS} (h : Wp (runT q t ρ s) fun k s' => k = true ∧ s' = s) (k : Ws (runSs q a ρ s) { Q with nx := fun ρ s => Ws (runSs q r ρ s) Q }) : Ws (runSs q (.ife t a b :: r) ρ s) Q := by
  rw [ws_cons]
  with_unfolding_all exact ws_if1 h k
theorem ws_1 {st : IS} (h : Ws (runS q st ρ s) Q) : Ws (runSs q [st] ρ s) Q := by
  rw [ws_cons]
  with_unfolding_all exact h.imp (fun ρ s m => by show Ws (runSs q [] ρ s) Q; rw [ws_nil]; with_unfolding_all exact m) (fun _ _ z => z) (fun _ _ z => z) (fun _ _ z => z) (fun _ _ _ _ z => z)
theorem ws_rets {e : IE} {r : List IS} (h : Wp (runE q e ρ s) fun d s => Q.rt d s) : Ws (runSs q (.ret (some e) :: r) ρ s) Q := by
  rw [ws_cons]; with_unfolding_all exact ws_ret h
theorem ws_asgs {g : IG} {e : IE} {r : List IS} (h : Wp (runE q e ρ s) fun d s => Wp (runG q g d ρ s) fun ρ s => Ws (runSs q r ρ s) Q) : Ws (runSs q (.asg g e :: r) ρ s) Q := by
  rw [ws_cons]; with_unfolding_all exact ws_asg h
/-- a for: Inv holds of what is walked, ahead of each turn -/
theorem ws_fo {g : IG} {it : II} {body : List IS} (h : Wp (runI q it ρ s) fun I s => ∃ Inv : List D → En → S → Prop, Inv I.xs ρ s ∧ (∀ ρ s, Inv [] ρ s → I.ok s = true ∧ Q.nx ρ s) ∧
    ∀ x xs ρ s, Inv (x :: xs) ρ s → I.ok s = true ∧ Wp (runG q g x ρ s) fun ρ s => Ws (runSs q body ρ s) { nx := fun ρ s => Inv xs ρ s, rt := Q.rt, bk := Q.nx, ct := fun ρ s => Inv xs ρ s, ex := Q.ex }) : Ws (runS q (.fo g it body) ρ s) Q := by
  rw [runS]
  refine Wp.thn (h.imp fun I s h => ?_)
  obtain ⟨Inv, h0, he, hs⟩ := h
  have key : ∀ xs ρ s, Inv xs ρ s → Ws (foL (fun x ρ s => runG q g x ρ s) (fun ρ s => runSs q body ρ s) I.ok xs ρ s) Q := by
    intro xs
    induction xs with
    | nil =>
      intro ρ s h
      unfold foL
      obtain ⟨a, b⟩ := he ρ s h
      rw [if_pos a]; with_unfolding_all exact b
    | cons x xs ih =>
      intro ρ s h
      unfold foL
      obtain ⟨a, b⟩ := hs x xs ρ s h
      rw [if_pos a]
      obtain ⟨ρ', s', e, b⟩ := b.eq
      simp only [e]
      cases eb : runSs q body ρ' s' with
      | nx ρ s => rw [eb] at b; with_unfolding_all exact ih ρ s b
      | ct ρ s => rw [eb] at b; with_unfolding_all exact ih ρ s b
      | bk ρ s => rw [eb] at b; with_unfolding_all exact b
      | rt d s => rw [eb] at b; with_unfolding_all exact b
      | exc C fs ρ s => rw [eb] at b; with_unfolding_all exact b
      | bad => rw [eb] at b; with_unfolding_all exact b
  with_unfolding_all exact key _ _ _ h0
/-- a comprehension: Inv holds of what is walked and what was gathered -/
theorem wl_inv {turn : D → S → R (Option D)} {ok : S → Bool} {xs : List D} (Inv : List D → List D → S → Prop) (h0 : Inv xs [] s) (he : ∀ acc s, Inv [] acc s → ok s = true ∧ PD (.lst acc) s)
    (hs : ∀ x xs acc s, Inv (x :: xs) acc s → ok s = true ∧ Wp (turn x s) fun o s => match o with
      | some d => acc.length < sizeLine ∧ Inv xs (acc ++ [d]) s
      | none => Inv xs acc s) : Wp (lcL turn ok xs [] s) PD := by
  have key : ∀ xs acc s, Inv xs acc s → Wp (lcL turn ok xs acc s) PD := by
    intro xs
    induction xs with
    | nil =>
      intro acc s h
      unfold lcL
      obtain ⟨a, b⟩ := he acc s h
      rw [if_pos a]; with_unfolding_all exact b
    | cons x xs ih =>
      intro acc s h
      unfold lcL
      obtain ⟨a, b⟩ := hs x xs acc s h
      rw [if_pos a]
      obtain ⟨o, s', e, b⟩ := b.eq
      simp only [e]
      cases o with
      | none => with_unfolding_all exact ih acc s' b
      | some d =>
        dsimp only
        rw [if_pos b.1]
        with_unfolding_all exact ih _ _ b.2
  with_unfolding_all exact key _ _ _ h0
/-- whose turns leave the store -/
theorem wl_pure {turn : D → S → R (Option D)} {ok : S → Bool} {xs : List D} (f : D → Option D) (hok : ok s = true) (hl : xs.length ≤ sizeLine) (h : ∀ x ∈ xs, Wp (turn x s) fun o s' => o = f x ∧ s' = s) (hp : PD (.lst (xs.filterMap f)) s) : Wp (lcL turn ok xs [] s) PD := by
  refine wl_inv (fun r acc s' => s' = s ∧ (∃ pre, xs = pre ++ r ∧ acc = pre.filterMap f)) ⟨rfl, [], rfl, rfl⟩ ?_ ?_
  · rintro acc s' ⟨rfl, pre, e1, rfl⟩
    rw [List.append_nil] at e1
    subst e1
    with_unfolding_all exact ⟨hok, hp⟩
  · rintro x r acc s' ⟨rfl, pre, e1, rfl⟩
    refine ⟨hok, (h x (by rw [e1]; simp)).imp ?_⟩
    rintro o s'' ⟨rfl, rfl⟩
    cases e : f x with
    | none => with_unfolding_all exact ⟨rfl, pre ++ [x], by rw [e1]; simp, by simp [e]⟩
    | some d =>
      have l1 : (pre.filterMap f).length ≤ pre.length := List.length_filterMap_le _ _
      have l2 : pre.length < xs.length := by rw [e1]; simp
      with_unfolding_all exact ⟨by omega, rfl, pre ++ [x], by rw [e1]; simp, by simp [e]⟩
theorem wl_map {turn : D → S → R (Option D)} {ok : S → Bool} {xs : List D} (f : D → D) (hok : ok s = true) (hl : xs.length ≤ sizeLine) (h : ∀ x ∈ xs, Wp (turn x s) fun o s' => o = some (f x) ∧ s' = s) (hp : PD (.lst (xs.map f)) s) : Wp (lcL turn ok xs [] s) PD :=
  wl_pure (fun x => some (f x)) hok hl h (by rw [List.filterMap_eq_map']; with_unfolding_all exact hp)
/-- a def's body -/
theorem wf_run {n : Nat} {body : List IS} {ds : List D} (h : Ws (runSs q body (ds.map some ++ List.replicate (n - ds.length) none) s) { nx := fun _ s => PD .non s, rt := PD }) : Wp (runF q n body ds s) PD := by
  unfold runF
  cases e : runSs q body (ds.map some ++ List.replicate (n - ds.length) none) s with
  | nx ρ s => rw [e] at h; with_unfolding_all exact h
  | rt d s => rw [e] at h; with_unfolding_all exact h
  | bk ρ s => rw [e] at h; with_unfolding_all exact h
  | ct ρ s => rw [e] at h; with_unfolding_all exact h
  | exc C fs ρ s => rw [e] at h; with_unfolding_all exact h
  | bad => rw [e] at h; with_unfolding_all exact h
theorem we_varm {i : Nat} : Wp (runE q (.var i) ρ s) PD = (match ρ[i]? with
  | some (some d) => PD d s
  | _ => False) := by
  unfold runE
  split <;> simp_all [Wp]
theorem we_glom {x : Str} : Wp (runE q (.glo x) ρ s) PD = (match q.gl x with
  | some d => PD d s
  | _ => False) := by
  unfold runE
  split <;> simp_all [Wp]
/-! ### on numbers -/
variable {i j : Int}
theorem wb_add : Wp (binD .add (.int i) (.int j) s) PD = PD (.int (i + j)) s := by with_unfolding_all rfl
theorem wb_sub : Wp (binD .sub (.int i) (.int j) s) PD = PD (.int (i - j)) s := by with_unfolding_all rfl
theorem wb_mul : Wp (binD .mul (.int i) (.int j) s) PD = (((-(2 ^ 64) < i ∧ i < 2 ^ 64) ∨ (-(2 ^ 64) < j ∧ j < 2 ^ 64)) ∧ PD (.int (i * j)) s) := by
  show Wp (if (-(2 ^ 64) < i ∧ i < 2 ^ 64) ∨ (-(2 ^ 64) < j ∧ j < 2 ^ 64) then .ok (.int (i * j)) s else .bad) PD = _
  rw [wp_ite, wp_ok, wp_bad]; by_cases h : (-(2 ^ 64) < i ∧ i < 2 ^ 64) ∨ (-(2 ^ 64) < j ∧ j < 2 ^ 64) <;> simp [h]
theorem wb_fdiv : Wp (binD .fdiv (.int i) (.int j) s) PD = ((j ≠ 0 ∧ j.natAbs < 1073741824) ∧ PD (.int (i.fdiv j)) s) := by
  show Wp (if j ≠ 0 ∧ j.natAbs < 1073741824 then .ok (.int (i.fdiv j)) s else .bad) PD = _
  rw [wp_ite, wp_ok, wp_bad]; by_cases h : j ≠ 0 ∧ j.natAbs < 1073741824 <;> simp [h]
theorem wb_mod : Wp (binD .mod (.int i) (.int j) s) PD = (j ≠ 0 ∧ PD (.int (i.fmod j)) s) := by
  show Wp (if j ≠ 0 then .ok (.int (i.fmod j)) s else .bad) PD = _
  rw [wp_ite, wp_ok, wp_bad]; by_cases h : j = 0 <;> simp [h]
theorem wb_pow : Wp (binD .pow (.int i) (.int j) s) PD = ((0 ≤ j ∧ j ≤ 1000000 ∧ i.natAbs < 2 ^ 64) ∧ PD (.int (i ^ j.toNat)) s) := by
  show Wp (if 0 ≤ j ∧ j ≤ 1000000 ∧ i.natAbs < 2 ^ 64 then .ok (.int (i ^ j.toNat)) s else .bad) PD = _
  rw [wp_ite, wp_ok, wp_bad]; by_cases h : 0 ≤ j ∧ j ≤ 1000000 ∧ i.natAbs < 2 ^ 64 <;> simp [h]
theorem eqD_int : eqD s (.int i) (.int j) = some (decide (i = j)) := by
  unfold eqD
  rw [if_pos (by rfl)]
  congr 1
  with_unfolding_all exact decide_eq_decide.mpr ⟨fun h => by injection h, fun h => by rw [h]⟩
theorem wc_eq : Wp (cmpD .eq (.int i) (.int j) s) PB = PB (decide (i = j)) s := by
  unfold cmpD cmpO; dsimp only; rw [eqD_int]; with_unfolding_all rfl
theorem wc_ne : Wp (cmpD .ne (.int i) (.int j) s) PB = PB (!decide (i = j)) s := by
  unfold cmpD cmpO; dsimp only; rw [eqD_int]; with_unfolding_all rfl
theorem wc_lt : Wp (cmpD .lt (.int i) (.int j) s) PB = PB (decide (i < j)) s := by with_unfolding_all rfl
theorem wc_le : Wp (cmpD .le (.int i) (.int j) s) PB = PB (decide (i ≤ j)) s := by with_unfolding_all rfl
theorem wc_gt : Wp (cmpD .gt (.int i) (.int j) s) PB = PB (decide (j < i)) s := by with_unfolding_all rfl
theorem wc_ge : Wp (cmpD .ge (.int i) (.int j) s) PB = PB (decide (j ≤ i)) s := by with_unfolding_all rfl
theorem wx_int : Wp (bltD .int [.int i] s) PD = PD (.int i) s := by with_unfolding_all rfl
theorem wz_int : Wp (setl (.int i) s) PD = PD (.int i) s := by with_unfolding_all rfl
theorem wz_str {x : Str} : Wp (setl (.str x) s) PD = PD (.str x) s := by with_unfolding_all rfl
theorem wz_bl {x : Bool} : Wp (setl (.bl x) s) PD = PD (.bl x) s := by with_unfolding_all rfl
theorem wz_non : Wp (setl .non s) PD = PD .non s := by with_unfolding_all rfl
theorem wz_tup {xs : List D} : Wp (setl (.tup xs) s) PD = PD (.tup xs) s := by with_unfolding_all rfl
theorem wz_rol {xs : List D} : Wp (setl (.rol xs) s) PD = PD (.rol xs) s := by with_unfolding_all rfl
theorem wz_ref {r : Nat} : Wp (setl (.ref r) s) PD = PD (.ref r) s := by with_unfolding_all rfl
theorem wz_lst {xs : List D} : Wp (setl (.lst xs) s) PD = PD (.ref s.length) (s ++ [.lst xs]) := by with_unfolding_all rfl
theorem wz_shr {d : D} (h : d.shr = true) : Wp (setl d s) PD = PD d s := by cases d <;> first | with_unfolding_all rfl | cases h
theorem wx_len {r : Nat} {xs : List D} (h : lk s r = some xs) : Wp (bltD .len [.ref r] s) PD = PD (.int xs.length) s := by
  unfold bltD D.seqOf D.lstOf; dsimp only; rw [h]; with_unfolding_all rfl
theorem wx_lent {xs : List D} : Wp (bltD .len [.tup xs] s) PD = PD (.int xs.length) s := by with_unfolding_all rfl
theorem wx_lenl {xs : List D} : Wp (bltD .len [.lst xs] s) PD = PD (.int xs.length) s := by with_unfolding_all rfl
theorem wx_lenr {xs : List D} : Wp (bltD .len [.rol xs] s) PD = PD (.int xs.length) s := by with_unfolding_all rfl
theorem wix {a d : D} {xs : List D} (ha : a.seqOf s = some xs) (h : atI xs i = some d) : Wp (ixD a (.int i) s) PD = PD d s := by
  cases a with
  | str x => cases ha
  | _ => unfold ixD; dsimp only; rw [ha]; dsimp only; rw [h]; with_unfolding_all rfl
theorem wixr {r : Nat} {d : D} {xs : List D} (ha : lk s r = some xs) (h : atI xs i = some d) : Wp (ixD (.ref r) (.int i) s) PD = PD d s := wix (a := .ref r) ha h
theorem wsub {r : Nat} {d : D} {xs : List D} {j : Nat} (ha : lk s r = some xs) (h : ixN xs.length i = some j) : subD (.ref r) (.int i) d s = some (s.set r (.lst (xs.set j d))) := by
  unfold subD; dsimp only; rw [ha]; dsimp only; rw [h]
theorem lk_set {r : Nat} {xs : List D} {o : O} (h : lk s r = some xs) : lk (s.set r o) r = (match o with
  | .lst ys => some ys
  | _ => none) := by
  have h := lk_some.mp h
  unfold lk
  rw [List.getElem?_set_self (List.getElem?_eq_some_iff.mp h).1]
  cases o <;> with_unfolding_all rfl
theorem lk_set_ne {r r' : Nat} {o : O} (h : r ≠ r') : lk (s.set r o) r' = lk s r' := by
  unfold lk
  rw [List.getElem?_set_ne h]
theorem lk_new {o : O} : lk (s ++ [o]) s.length = (match o with
  | .lst ys => some ys
  | _ => none) := by
  unfold lk
  rw [List.getElem?_append_right (Nat.le_refl _)]
  simp
  cases o <;> with_unfolding_all rfl
theorem lk_app {t : S} {r : Nat} {xs : List D} (h : lk s r = some xs) : lk (s ++ t) r = some xs := by
  have h := lk_some.mp h
  with_unfolding_all exact lk_some.mpr (by rw [List.getElem?_append_left (List.getElem?_eq_some_iff.mp h).1]; with_unfolding_all exact h)
theorem lk_lt {r : Nat} {xs : List D} (h : lk s r = some xs) : r < s.length := (List.getElem?_eq_some_iff.mp (lk_some.mp h)).1
theorem lk_new1 {xs : List D} : lk (s ++ [.lst xs]) s.length = some xs := lk_new
theorem ws_cut {st : IS} {r : List IS} (M : En → S → Prop) (h : Ws (runS q st ρ s) { Q with nx := M }) (h2 : ∀ ρ s, M ρ s → Ws (runSs q r ρ s) Q) : Ws (runSs q (st :: r) ρ s) Q := by
  rw [ws_cons]
  with_unfolding_all exact h.imp (fun ρ s m => h2 ρ s m) (fun _ _ z => z) (fun _ _ z => z) (fun _ _ z => z) (fun _ _ _ _ z => z)
theorem ite_p {c : Prop} [Decidable c] {A B : Prop} (h1 : c → A) (h2 : ¬ c → B) : if c then A else B := by
  by_cases h : c
  · rw [if_pos h]; with_unfolding_all exact h1 h
  · rw [if_neg h]; with_unfolding_all exact h2 h
theorem ite_b {b : Bool} {A B : Prop} (h1 : b = true → A) (h2 : b = false → B) : if b = true then A else B := by
  cases b
  · rw [if_neg Bool.false_ne_true]; with_unfolding_all exact h2 rfl
  · rw [if_pos rfl]; with_unfolding_all exact h1 rfl
theorem ite_f {A B : Prop} : (if false = true then A else B) = B := if_neg Bool.false_ne_true
theorem ite_tt {A B : Prop} : (if true = true then A else B) = A := if_pos rfl
theorem eqD_bl {a b : Bool} : eqD s (.bl a) (.bl b) = some (decide (a = b)) := by
  unfold eqD
  rw [if_pos (by rfl)]
  congr 1
  with_unfolding_all exact decide_eq_decide.mpr ⟨fun h => by injection h, fun h => by rw [h]⟩
theorem eqD_str {a b : Str} : eqD s (.str a) (.str b) = some (decide (a = b)) := by
  unfold eqD
  rw [if_pos (by rfl)]
  congr 1
  with_unfolding_all exact decide_eq_decide.mpr ⟨fun h => by injection h, fun h => by rw [h]⟩
theorem wc_eqb {a b : Bool} : Wp (cmpD .eq (.bl a) (.bl b) s) PB = PB (decide (a = b)) s := by
  unfold cmpD cmpO; dsimp only; rw [eqD_bl]; with_unfolding_all rfl
theorem wc_neb {a b : Bool} : Wp (cmpD .ne (.bl a) (.bl b) s) PB = PB (!decide (a = b)) s := by
  unfold cmpD cmpO; dsimp only; rw [eqD_bl]; with_unfolding_all rfl
theorem wc_eqs {a b : Str} : Wp (cmpD .eq (.str a) (.str b) s) PB = PB (decide (a = b)) s := by
  unfold cmpD cmpO; dsimp only; rw [eqD_str]; with_unfolding_all rfl
theorem wc_nes {a b : Str} : Wp (cmpD .ne (.str a) (.str b) s) PB = PB (!decide (a = b)) s := by
  unfold cmpD cmpO; dsimp only; rw [eqD_str]; with_unfolding_all rfl
theorem wri_1 {n : Nat} (h : n < 2 ^ 62) : Wp (rngI [.int (n : Int)] s) PI = PI ⟨rangeL 0 n 1, fun _ => true⟩ s := by
  have hb : bnd (n : Int) = true := by
    unfold bnd
    rw [decide_eq_true (by omega), decide_eq_true (by omega)]; with_unfolding_all rfl
  unfold rngI
  dsimp only
  rw [if_pos hb]
  with_unfolding_all rfl
theorem rangeL_1 {n : Nat} : rangeL 0 n 1 = (List.range n).map fun (k : Nat) => D.int (k : Int) := by
  unfold rangeL
  with_unfolding_all exact List.map_congr_left fun k _ => by simp
theorem wl_rng {turn : D → S → R (Option D)} {ok : S → Bool} {n : Nat} (g : Nat → Option D) (hok : ok s = true) (hl : n ≤ sizeLine) (h : ∀ k, k < n → Wp (turn (.int (k : Nat)) s) fun o s' => o = g k ∧ s' = s) (hp : PD (.lst ((List.range n).filterMap g)) s) : Wp (lcL turn ok (rangeL 0 n 1) [] s) PD := by
  rw [rangeL_1]
  refine wl_inv (fun r acc s' => s' = s ∧ ∃ a b, List.range n = a ++ b ∧ r = b.map (fun (k : Nat) => D.int (k : Int)) ∧ acc = a.filterMap g) ⟨rfl, [], _, rfl, rfl, rfl⟩ ?_ ?_
  · rintro acc s' ⟨rfl, a, b, e1, e2, rfl⟩
    have : b = [] := by cases b with
      | nil => with_unfolding_all rfl
      | cons _ _ => cases e2
    subst this
    rw [List.append_nil] at e1
    subst e1
    with_unfolding_all exact ⟨hok, hp⟩
  · rintro x r acc s' ⟨rfl, a, b, e1, e2, rfl⟩
    cases b with
    | nil => cases e2
    | cons k b =>
      rw [List.map_cons] at e2
      cases e2
      have hk : k < n := List.mem_range.mp (by rw [e1]; simp)
      refine ⟨hok, (h k hk).imp ?_⟩
      rintro o s'' ⟨rfl, rfl⟩
      have l3 : a.length < n := by have := congrArg List.length e1; simp at this; omega
      have l1 : (a.filterMap g).length ≤ a.length := List.length_filterMap_le _ _
      cases e : g k with
      | none => with_unfolding_all exact ⟨rfl, a ++ [k], b, by rw [e1]; simp, rfl, by simp [e]⟩
      | some d => with_unfolding_all exact ⟨by omega, rfl, a ++ [k], b, by rw [e1]; simp, rfl, by simp [e]⟩
theorem atI_nat {α : Type} {xs : List α} {n : Nat} {x : α} (h : xs[n]? = some x) : atI xs (n : Int) = some x := by
  have hl := (List.getElem?_eq_some_iff.mp h).1
  unfold atI ixN
  rw [if_pos (Int.natCast_nonneg n), if_pos (by omega)]
  simpa using h
theorem wixt {xs : List D} {d : D} {n : Nat} (h : xs[n]? = some d) : Wp (ixD (.tup xs) (.int (n : Int)) s) PD = PD d s := wix (a := .tup xs) rfl (atI_nat h)
theorem wixl {xs : List D} {d : D} {n : Nat} (h : xs[n]? = some d) : Wp (ixD (.lst xs) (.int (n : Int)) s) PD = PD d s := wix (a := .lst xs) rfl (atI_nat h)
end
mutual
theorem same_rfl : ∀ {a : D}, D.same a a = true
  | .non => rfl
  | .bl _ => by unfold D.same; exact beq_self_eq_true _
  | .int _ => by unfold D.same; exact beq_self_eq_true _
  | .str _ => by unfold D.same; exact decide_eq_true rfl
  | .tup xs => by unfold D.same; exact sames_rfl
  | .ref _ => by unfold D.same; exact beq_self_eq_true _
  | .lst xs => by unfold D.same; exact sames_rfl
  | .rol xs => by unfold D.same; exact sames_rfl
  | .ist _ => by unfold D.same; exact beq_self_eq_true _
theorem sames_rfl : ∀ {a : List D}, D.sames a a = true
  | [] => rfl
  | x :: xs => by unfold D.sames; rw [same_rfl, sames_rfl]; rfl
end
theorem sames_ix : ∀ {xs ys : List D}, xs.length = ys.length → (D.sames xs ys = true ↔ ∀ (k : Nat) (x y : D), xs[k]? = some x → ys[k]? = some y → D.same x y = true)
  | [], [], _ => ⟨fun _ k x y h => (by cases h), fun _ => rfl⟩
  | x :: xs, y :: ys, h => by
    have ih := sames_ix (xs := xs) (ys := ys) (by simpa using h)
    unfold D.sames
    rw [Bool.and_eq_true, ih]
    constructor
    · rintro ⟨h1, h2⟩ k a b ha hb
      cases k with
      | zero => cases ha; cases hb; exact h1
      | succ k => exact h2 k a b (by simpa using ha) (by simpa using hb)
    · intro h
      exact ⟨h 0 x y rfl rfl, fun k a b ha hb => h (k + 1) a b (by simpa using ha) (by simpa using hb)⟩
  | [], _ :: _, h => by cases h
  | _ :: _, [], h => by cases h
/-- plain: no list, no set; tuples of at most n -/
def D.dep : D → Nat
  | .tup xs => D.deps xs + 1
  | _ => 0
where D.deps : List D → Nat
  | [] => 0
  | x :: xs => max x.dep (D.deps xs)
mutual
def D.pl (n : Nat) : D → Bool
  | .non => true
  | .bl _ => true
  | .int _ => true
  | .str _ => true
  | .tup xs => decide (xs.length ≤ n) && D.pls n xs
  | _ => false
def D.pls (n : Nat) : List D → Bool
  | [] => true
  | d :: ds => d.pl n && D.pls n ds
end
theorem pls_mem {n : Nat} {x : D} : ∀ {xs : List D}, D.pls n xs = true → x ∈ xs → x.pl n = true
  | y :: ys, h, hm => by
    unfold D.pls at h
    rw [Bool.and_eq_true] at h
    rcases List.mem_cons.mp hm with e | hm
    · rw [e]; exact h.1
    · exact pls_mem h.2 hm
  | [], _, hm => by cases hm
theorem pls_of {n : Nat} : ∀ {xs : List D}, (∀ x ∈ xs, x.pl n = true) → D.pls n xs = true
  | [], _ => rfl
  | y :: ys, h => by
    unfold D.pls
    rw [h y List.mem_cons_self, pls_of fun x hx => h x (List.mem_cons_of_mem _ hx)]; rfl
theorem pl_tup {n : Nat} {xs : List D} (h : (D.tup xs).pl n = true) : xs.length ≤ n ∧ ∀ x ∈ xs, x.pl n = true := by
  unfold D.pl at h
  rw [Bool.and_eq_true] at h
  exact ⟨of_decide_eq_true h.1, fun x hx => pls_mem h.2 hx⟩
theorem dep_mem {x : D} {xs : List D} (h : x ∈ xs) : x.dep < (D.tup xs).dep := by
  have key : ∀ {xs : List D}, x ∈ xs → x.dep ≤ D.dep.D.deps xs := by
    intro xs
    induction xs with
    | nil => intro h; cases h
    | cons y ys ih =>
      intro h
      unfold D.dep.D.deps
      rcases List.mem_cons.mp h with e | h
      · rw [e]; exact Nat.le_max_left _ _
      · exact Nat.le_trans (ih h) (Nat.le_max_right _ _)
  show x.dep < D.dep.D.deps xs + 1
  have := key h
  omega
def D.isInt : D → Bool
  | .int _ => true
  | _ => false
theorem pl_shr {n : Nat} {d : D} (h : d.pl n = true) : d.shr = true := by
  cases d <;> first | rfl | exact nomatch h
end DI

set_option Elab.async false
set_option linter.all false
set_option maxRecDepth 100000
set_option maxHeartbeats 4000000
/-! DI 21: wishes: walks, lists, built-ins. -/
namespace DI
open PySem L2
section
variable {α β : Type} {P : α → S → Prop} {s : S} {ρ : En} {q : Rq} {PD : D → S → Prop} {PL : List D → S → Prop} {PB : Bool → S → Prop} {PO : Option Int → S → Prop} {PI : Its → S → Prop} {PN : En → S → Prop} {Q : Kt}
theorem wi_tup {xs : List D} : Wp (seqI (.tup xs) s) PI = PI ⟨xs, fun _ => true⟩ s := by with_unfolding_all rfl
theorem wi_lst {xs : List D} : Wp (seqI (.lst xs) s) PI = PI ⟨xs, fun _ => true⟩ s := by with_unfolding_all rfl
theorem wi_rol {xs : List D} : Wp (seqI (.rol xs) s) PI = PI ⟨xs, fun _ => true⟩ s := by with_unfolding_all rfl
/-- a list of ours, walked: it must stand -/
def okR (r : Nat) (xs : List D) (s : S) : Bool := match lk s r with
  | some ys => D.sames ys xs
  | none => false
theorem okR_ok {r : Nat} {xs : List D} (h : lk s r = some xs) : okR r xs s = true := by
  unfold okR; rw [h]; exact sames_rfl
theorem wi_ref {r : Nat} {xs : List D} (h : lk s r = some xs) : Wp (seqI (.ref r) s) PI = PI ⟨xs, okR r xs⟩ s := by
  unfold seqI; dsimp only; rw [h]; with_unfolding_all rfl
theorem we_tupI {xs : List D} : Wp (enumI (.tup xs) s) PI = PI ⟨xs.zipIdx.map fun p => .tup [.int (p.2 : Nat), p.1], fun _ => true⟩ s := by with_unfolding_all rfl
theorem intsD_map (ns : List Int) : intsD (ns.map .int) = some ns := by
  induction ns with
  | nil => rfl
  | cons n ns ih => rw [List.map_cons, intsD, ih]; rfl
theorem blsD_map (ns : List Bool) : blsD (ns.map .bl) = some ns := by
  induction ns with
  | nil => rfl
  | cons n ns ih => rw [List.map_cons, blsD, ih]; rfl
theorem wx_all {bs : List Bool} : Wp (bltD .all [.lst (bs.map .bl)] s) PD = PD (.bl (bs.all id)) s := by
  have : bltD .all [.lst (bs.map .bl)] s = .ok (.bl (bs.all id)) s := by
    show (match (some (bs.map D.bl)).bind blsD with
      | some bs => R.ok (D.bl (bs.all id)) s
      | none => .bad) = _
    rw [show (some (bs.map D.bl)).bind blsD = blsD (bs.map D.bl) from rfl, blsD_map]
  rw [this, wp_ok]
theorem wx_any {bs : List Bool} : Wp (bltD .any [.lst (bs.map .bl)] s) PD = PD (.bl (bs.any id)) s := by
  have : bltD .any [.lst (bs.map .bl)] s = .ok (.bl (bs.any id)) s := by
    show (match (some (bs.map D.bl)).bind blsD with
      | some bs => R.ok (D.bl (bs.any id)) s
      | none => .bad) = _
    rw [show (some (bs.map D.bl)).bind blsD = blsD (bs.map D.bl) from rfl, blsD_map]
  rw [this, wp_ok]
theorem wx_sum {ns : List Int} : Wp (bltD .sum [.lst (ns.map .int)] s) PD = PD (.int ns.sum) s := by
  have : bltD .sum [.lst (ns.map .int)] s = .ok (.int ns.sum) s := by
    show (match (some (ns.map D.int)).bind intsD with
      | some ns => R.ok (D.int ns.sum) s
      | none => .bad) = _
    rw [show (some (ns.map D.int)).bind intsD = intsD (ns.map D.int) from rfl, intsD_map]
  rw [this, wp_ok]
theorem wx_max {ns : List Int} (h : ns ≠ []) : Wp (bltD .max [.lst (ns.map .int)] s) PD = PD (.int (maxL ns)) s := by
  have : bltD .max [.lst (ns.map .int)] s = .ok (.int (maxL ns)) s := by
    show (match (some (ns.map D.int)).bind intsD with
      | some ns => if ns ≠ [] then R.ok (D.int (maxL ns)) s else .bad
      | none => .bad) = _
    rw [show (some (ns.map D.int)).bind intsD = intsD (ns.map D.int) from rfl, intsD_map]
    dsimp only
    rw [if_pos h]
  rw [this, wp_ok]
theorem wx_tuplel {xs : List D} : Wp (bltD .tuple [.lst xs] s) PD = PD (.tup xs) s := by with_unfolding_all rfl
theorem wx_tuplet {xs : List D} : Wp (bltD .tuple [.tup xs] s) PD = PD (.tup xs) s := by with_unfolding_all rfl
theorem wx_tupler {r : Nat} {xs : List D} (h : lk s r = some xs) : Wp (bltD .tuple [.ref r] s) PD = PD (.tup xs) s := by
  have : bltD .tuple [.ref r] s = .ok (.tup xs) s := by
    show (match lk s r with
      | some xs => R.ok (D.tup xs) s
      | none => .bad) = _
    rw [h]
  rw [this, wp_ok]
theorem wx_listt {xs : List D} : Wp (bltD .list [.tup xs] s) PD = PD (.lst xs) s := by with_unfolding_all rfl
theorem wb_tmul {d : D} {n : Nat} (h1 : 1 ≤ n) (h2 : n ≤ 1000) : Wp (binD .mul (.tup [d]) (.int (n : Int)) s) PD = PD (.tup (List.replicate n d)) s := by
  have : binD .mul (.tup [d]) (.int (n : Int)) s = .ok (.tup (List.replicate n d)) s := by
    show (if [d] ≠ [] ∧ (n : Int) = 1 then R.ok (D.tup [d]) s else if [d] ≠ [] ∧ 2 ≤ (n : Int) ∧ (n : Int) ≤ 1000 ∧ [d].length ≤ 1000 then .ok (.tup (List.replicate (n : Int).toNat [d]).flatten) s else .bad) = _
    by_cases h : n = 1
    · subst h
      rw [if_pos ⟨by simp, rfl⟩]; rfl
    · rw [if_neg (fun z => h (by omega)), if_pos ⟨by simp, by omega, by omega, by simp⟩]
      congr 2
      rw [Int.toNat_natCast]
      clear h h1 h2
      induction n with
      | zero => rfl
      | succ n ih => rw [List.replicate_succ, List.flatten_cons, ih]; rfl
  rw [this, wp_ok]
theorem wb_tadd {xs ys : List D} (h : xs.length + ys.length ≤ sizeLine) : Wp (binD .add (.tup xs) (.tup ys) s) PD = PD (.tup (xs ++ ys)) s := by
  have : binD .add (.tup xs) (.tup ys) s = .ok (.tup (xs ++ ys)) s := by
    show (if xs.length + ys.length ≤ sizeLine then R.ok (D.tup (xs ++ ys)) s else .bad) = _
    rw [if_pos h]
  rw [this, wp_ok]
theorem wb_ladd {a b : D} {xs ys : List D} (ha : a.mutOf s = some xs) (hb : b.mutOf s = some ys) (h : xs.length + ys.length ≤ sizeLine) : Wp (binD .add a b s) PD = PD (.lst (xs ++ ys)) s := by
  have : binD .add a b s = .ok (.lst (xs ++ ys)) s := by
    show addD a b s = _
    unfold addD
    split
    · cases ha
    · cases ha
    · cases ha
    · rw [ha, hb]
      dsimp only
      rw [if_pos h]
  rw [this, wp_ok]
theorem wb_lmul {xs : List D} {n : Nat} (h : n ≤ 1000) (h2 : xs.length ≤ 1000) : Wp (binD .mul (.lst xs) (.int (n : Int)) s) PD = PD (.lst (List.replicate n xs).flatten) s := by
  have : binD .mul (.lst xs) (.int (n : Int)) s = .ok (.lst (List.replicate n xs).flatten) s := by
    show mulD (.lst xs) (.int (n : Int)) s = _
    unfold mulD
    dsimp only [D.mutOf]
    have h3 : (n : Int) ≤ 1000 := by omega
    have h4 : -(2 ^ 63) ≤ (n : Int) := Int.le_trans (by decide) (Int.natCast_nonneg n)
    have h5 : (n : Int) < 2 ^ 63 := Int.lt_of_le_of_lt h3 (by decide)
    have h6 : xs.length * (n : Int).toNat ≤ sizeLine := by
      rw [Int.toNat_natCast]
      exact Nat.le_trans (Nat.mul_le_mul h2 h) (by decide)
    rw [if_pos ⟨h4, h5, h6⟩, Int.toNat_natCast]
  rw [this, wp_ok]
theorem wm_app {r : Nat} {xs : List D} {d : D} (h : lk s r = some xs) (hl : xs.length < sizeLine) : Wp (mthD .append (.ref r) [d] s) PD = PD .non (s.set r (.lst (xs ++ [d]))) := by
  have : mthD .append (.ref r) [d] s = .ok .non (s.set r (.lst (xs ++ [d]))) := by
    show (match lk s r with
      | some xs => if xs.length < sizeLine then R.ok D.non (s.set r (.lst (xs ++ [d]))) else .bad
      | none => .bad) = _
    rw [h]
    dsimp only
    rw [if_pos hl]
  rw [this, wp_ok]
theorem mut_ref {r : Nat} {xs : List D} (h : lk s r = some xs) : (D.ref r).mutOf s = some xs := h
theorem mut_lst {xs : List D} : (D.lst xs).mutOf s = some xs := rfl
theorem wri_d {n : Nat} (h : n < 2 ^ 62) : Wp (rngI [.int ((n : Int) - 1), .int (-1), .int (-1)] s) PI = PI ⟨(List.range n).map fun (k : Nat) => .int ((n - 1 - k : Nat) : Int), fun _ => true⟩ s := by
  have : rngI [.int ((n : Int) - 1), .int (-1), .int (-1)] s = .ok ⟨(List.range n).map fun (k : Nat) => .int ((n - 1 - k : Nat) : Int), fun _ => true⟩ s := by
    unfold rngI
    dsimp only
    have hb : bnd ((n : Int) - 1) = true := by
      unfold bnd
      rw [decide_eq_true (by omega), decide_eq_true (by omega)]; rfl
    have hb2 : (bnd ((n : Int) - 1) && bnd (-1) && ((-1 : Int) == -1)) = true := by rw [hb, show bnd (-1) = true by decide +kernel]; rfl
    rw [if_pos hb2]
    refine congrArg (fun l => R.ok (⟨l, fun _ => true⟩ : Its) s) ?_
    rw [show ((n : Int) - 1 - (-1)).toNat = n by omega]
    unfold rangeL
    refine List.map_congr_left fun k hk => ?_
    have := List.mem_range.mp hk
    exact congrArg D.int (by omega)
  rw [this, wp_ok]
theorem wri_2 {a b : Nat} (ha : a < 2 ^ 62) (hb : b < 2 ^ 62) : Wp (rngI [.int (a : Int), .int (b : Int)] s) PI = PI ⟨(List.range (b - a)).map fun (k : Nat) => .int ((a + k : Nat) : Int), fun _ => true⟩ s := by
  have : rngI [.int (a : Int), .int (b : Int)] s = .ok ⟨(List.range (b - a)).map fun (k : Nat) => .int ((a + k : Nat) : Int), fun _ => true⟩ s := by
    unfold rngI
    dsimp only
    have h1 : bnd (a : Int) = true := by
      unfold bnd
      rw [decide_eq_true (by omega), decide_eq_true (by omega)]; rfl
    have h2 : bnd (b : Int) = true := by
      unfold bnd
      rw [decide_eq_true (by omega), decide_eq_true (by omega)]; rfl
    rw [if_pos (by rw [h1, h2]; rfl)]
    refine congrArg (fun l => R.ok (⟨l, fun _ => true⟩ : Its) s) ?_
    rw [show ((b : Int) - a).toNat = b - a by omega]
    unfold rangeL
    refine List.map_congr_left fun k hk => ?_
    exact congrArg D.int (by omega)
  rw [this, wp_ok]
/-- the end of a list -/
theorem atI_last {α : Type} {xs : List α} {x : α} (h : xs.getLast? = some x) : atI xs (-1) = some x := by
  rw [List.getLast?_eq_getElem?] at h
  have hl : 0 < xs.length := by
    cases xs with
    | nil => cases h
    | cons _ _ => simp
  unfold atI ixN
  rw [if_neg (by decide), if_pos (by omega)]
  show xs[((-1 : Int) + xs.length).toNat]? = _
  rw [show ((-1 : Int) + xs.length).toNat = xs.length - 1 by omega]
  exact h
theorem maxL_cons {i : Int} {r : List Int} (h : r ≠ []) : maxL (i :: r) = max i (maxL r) := by
  cases r with
  | nil => exact (h rfl).elim
  | cons j r =>
    show (let m := maxL (j :: r); if i < m then m else i) = _
    dsimp only
    split <;> omega
theorem maxL_2 {i j : Int} : maxL [i, j] = max i j := by rw [maxL_cons (by simp)]; rfl
theorem maxL_mem : ∀ {ns : List Int}, ns ≠ [] → maxL ns ∈ ns
  | [i], _ => by simp [maxL]
  | i :: j :: r, _ => by
    rw [maxL_cons (by simp)]
    have := maxL_mem (ns := j :: r) (by simp)
    by_cases h : i ≤ maxL (j :: r)
    · rw [Int.max_eq_right h]; exact List.mem_cons_of_mem _ this
    · rw [Int.max_eq_left (by omega)]; exact List.mem_cons_self
theorem maxL_ge : ∀ {ns : List Int} {i : Int}, i ∈ ns → i ≤ maxL ns
  | [j], i, h => by simp at h; subst h; exact Int.le_refl _
  | j :: k :: r, i, h => by
    rw [maxL_cons (by simp)]
    rcases List.mem_cons.mp h with h | h
    · subst h; exact Int.le_max_left _ _
    · exact Int.le_trans (maxL_ge h) (Int.le_max_right _ _)
theorem maxL_eq {ns : List Int} {m : Int} (h : m ∈ ns) (g : ∀ i ∈ ns, i ≤ m) : maxL ns = m := by
  have h1 : ns ≠ [] := by rintro rfl; cases h
  exact Int.le_antisymm (g _ (maxL_mem h1)) (maxL_ge h)
end
theorem wisT {d : D} {ty : Ty} {s : S} {P : Bool → Prop} : (∃ k, isT d ty s = some k ∧ P k) = (match isT d ty s with
  | some k => P k
  | none => False) := by
  cases isT d ty s <;> simp
theorem ex_bl {b : Bool} {P : Bool → Prop} : (∃ k, D.bl b = D.bl k ∧ P k) = P b := by
  refine propext ⟨?_, fun h => ⟨b, rfl, h⟩⟩
  rintro ⟨k, e, h⟩
  cases e; exact h
theorem ex_int {i : Int} {P : Int → Prop} : (∃ k, D.int i = D.int k ∧ P k) = P i := by
  refine propext ⟨?_, fun h => ⟨i, rfl, h⟩⟩
  rintro ⟨k, e, h⟩
  cases e; exact h
theorem ite_tf {A B : Prop} : (if true = false then A else B) = B := if_neg (by decide)
theorem ite_ff {A B : Prop} : (if false = false then A else B) = A := if_pos rfl
theorem it_non_int {b : Bool} {i : Int} {x : Str} {xs : List D} {s : S} : isT .non .int s = some false := rfl
theorem it_non_bool {b : Bool} {i : Int} {x : Str} {xs : List D} {s : S} : isT .non .bool s = some false := rfl
theorem it_non_str {b : Bool} {i : Int} {x : Str} {xs : List D} {s : S} : isT .non .str s = some false := rfl
theorem it_non_tuple {b : Bool} {i : Int} {x : Str} {xs : List D} {s : S} : isT .non .tuple s = some false := rfl
theorem it_non_list {b : Bool} {i : Int} {x : Str} {xs : List D} {s : S} : isT .non .list s = some false := rfl
theorem it_non_dict {b : Bool} {i : Int} {x : Str} {xs : List D} {s : S} : isT .non .dict s = some false := rfl
theorem it_bl_int {b : Bool} {i : Int} {x : Str} {xs : List D} {s : S} : isT (.bl b) .int s = some true := rfl
theorem it_bl_bool {b : Bool} {i : Int} {x : Str} {xs : List D} {s : S} : isT (.bl b) .bool s = some true := rfl
theorem it_bl_str {b : Bool} {i : Int} {x : Str} {xs : List D} {s : S} : isT (.bl b) .str s = some false := rfl
theorem it_bl_tuple {b : Bool} {i : Int} {x : Str} {xs : List D} {s : S} : isT (.bl b) .tuple s = some false := rfl
theorem it_bl_list {b : Bool} {i : Int} {x : Str} {xs : List D} {s : S} : isT (.bl b) .list s = some false := rfl
theorem it_bl_dict {b : Bool} {i : Int} {x : Str} {xs : List D} {s : S} : isT (.bl b) .dict s = some false := rfl
theorem it_int_int {b : Bool} {i : Int} {x : Str} {xs : List D} {s : S} : isT (.int i) .int s = some true := rfl
theorem it_int_bool {b : Bool} {i : Int} {x : Str} {xs : List D} {s : S} : isT (.int i) .bool s = some false := rfl
theorem it_int_str {b : Bool} {i : Int} {x : Str} {xs : List D} {s : S} : isT (.int i) .str s = some false := rfl
theorem it_int_tuple {b : Bool} {i : Int} {x : Str} {xs : List D} {s : S} : isT (.int i) .tuple s = some false := rfl
theorem it_int_list {b : Bool} {i : Int} {x : Str} {xs : List D} {s : S} : isT (.int i) .list s = some false := rfl
theorem it_int_dict {b : Bool} {i : Int} {x : Str} {xs : List D} {s : S} : isT (.int i) .dict s = some false := rfl
theorem it_str_int {b : Bool} {i : Int} {x : Str} {xs : List D} {s : S} : isT (.str x) .int s = some false := rfl
theorem it_str_bool {b : Bool} {i : Int} {x : Str} {xs : List D} {s : S} : isT (.str x) .bool s = some false := rfl
theorem it_str_str {b : Bool} {i : Int} {x : Str} {xs : List D} {s : S} : isT (.str x) .str s = some true := rfl
theorem it_str_tuple {b : Bool} {i : Int} {x : Str} {xs : List D} {s : S} : isT (.str x) .tuple s = some false := rfl
theorem it_str_list {b : Bool} {i : Int} {x : Str} {xs : List D} {s : S} : isT (.str x) .list s = some false := rfl
theorem it_str_dict {b : Bool} {i : Int} {x : Str} {xs : List D} {s : S} : isT (.str x) .dict s = some false := rfl
theorem it_tup_int {b : Bool} {i : Int} {x : Str} {xs : List D} {s : S} : isT (.tup xs) .int s = some false := rfl
theorem it_tup_bool {b : Bool} {i : Int} {x : Str} {xs : List D} {s : S} : isT (.tup xs) .bool s = some false := rfl
theorem it_tup_str {b : Bool} {i : Int} {x : Str} {xs : List D} {s : S} : isT (.tup xs) .str s = some false := rfl
theorem it_tup_tuple {b : Bool} {i : Int} {x : Str} {xs : List D} {s : S} : isT (.tup xs) .tuple s = some true := rfl
theorem it_tup_list {b : Bool} {i : Int} {x : Str} {xs : List D} {s : S} : isT (.tup xs) .list s = some false := rfl
theorem it_tup_dict {b : Bool} {i : Int} {x : Str} {xs : List D} {s : S} : isT (.tup xs) .dict s = some false := rfl
theorem it_lst_int {b : Bool} {i : Int} {x : Str} {xs : List D} {s : S} : isT (.lst xs) .int s = some false := rfl
theorem it_lst_bool {b : Bool} {i : Int} {x : Str} {xs : List D} {s : S} : isT (.lst xs) .bool s = some false := rfl
theorem it_lst_str {b : Bool} {i : Int} {x : Str} {xs : List D} {s : S} : isT (.lst xs) .str s = some false := rfl
theorem it_lst_tuple {b : Bool} {i : Int} {x : Str} {xs : List D} {s : S} : isT (.lst xs) .tuple s = some false := rfl
theorem it_lst_list {b : Bool} {i : Int} {x : Str} {xs : List D} {s : S} : isT (.lst xs) .list s = some true := rfl
theorem it_lst_dict {b : Bool} {i : Int} {x : Str} {xs : List D} {s : S} : isT (.lst xs) .dict s = some false := rfl
theorem it_rol_int {b : Bool} {i : Int} {x : Str} {xs : List D} {s : S} : isT (.rol xs) .int s = some false := rfl
theorem it_rol_bool {b : Bool} {i : Int} {x : Str} {xs : List D} {s : S} : isT (.rol xs) .bool s = some false := rfl
theorem it_rol_str {b : Bool} {i : Int} {x : Str} {xs : List D} {s : S} : isT (.rol xs) .str s = some false := rfl
theorem it_rol_tuple {b : Bool} {i : Int} {x : Str} {xs : List D} {s : S} : isT (.rol xs) .tuple s = some false := rfl
theorem it_rol_list {b : Bool} {i : Int} {x : Str} {xs : List D} {s : S} : isT (.rol xs) .list s = some true := rfl
theorem it_rol_dict {b : Bool} {i : Int} {x : Str} {xs : List D} {s : S} : isT (.rol xs) .dict s = some false := rfl
section
variable {s : S} {PD : D → S → Prop} {a b c : D} {r : List D}
theorem wix0 : Wp (ixD (.tup (a :: r)) (.int 0) s) PD = PD a s := wixt (n := 0) rfl
theorem wix1 : Wp (ixD (.tup (a :: b :: r)) (.int 1) s) PD = PD b s := wixt (n := 1) rfl
theorem wix2 : Wp (ixD (.tup (a :: b :: c :: r)) (.int 2) s) PD = PD c s := wixt (n := 2) rfl
end
theorem map_tt {α : Type} {xs : List α} : xs.map (fun _ => D.bl true) = (List.replicate xs.length true).map .bl := by
  rw [List.map_replicate, List.map_const']
theorem all_rep {n : Nat} : (List.replicate n true).all id = true := by simp
theorem sl0 : (0 ≤ sizeLine) = True := propext ⟨fun _ => trivial, fun _ => by decide⟩
theorem sl1 : (1 ≤ sizeLine) = True := propext ⟨fun _ => trivial, fun _ => by decide⟩
theorem sl2 : (2 ≤ sizeLine) = True := propext ⟨fun _ => trivial, fun _ => by decide⟩
theorem sl3 : (3 ≤ sizeLine) = True := propext ⟨fun _ => trivial, fun _ => by decide⟩
theorem sl4 : (4 ≤ sizeLine) = True := propext ⟨fun _ => trivial, fun _ => by decide⟩
theorem sl5 : (5 ≤ sizeLine) = True := propext ⟨fun _ => trivial, fun _ => by decide⟩
theorem sl6 : (6 ≤ sizeLine) = True := propext ⟨fun _ => trivial, fun _ => by decide⟩
theorem sl10 : (10 ≤ sizeLine) = True := propext ⟨fun _ => trivial, fun _ => by decide⟩
theorem ex_lst {s : S} {r : Nat} {xs : List D} {P : List D → Prop} (h : lk s r = some xs) : (∃ ys, (D.ref r).lstOf s = some ys ∧ P ys) = P xs := by
  refine propext ⟨?_, fun z => ⟨xs, h, z⟩⟩
  rintro ⟨ys, e, z⟩
  rw [show (D.ref r).lstOf s = lk s r from rfl, h] at e
  cases e; exact z
theorem ex_lstl {s : S} {xs : List D} {P : List D → Prop} : (∃ ys, (D.lst xs).lstOf s = some ys ∧ P ys) = P xs := by
  refine propext ⟨?_, fun z => ⟨xs, rfl, z⟩⟩
  rintro ⟨ys, e, z⟩
  cases e; exact z
theorem wixlast {s : S} {PD : D → S → Prop} {xs : List D} {x : D} (h : xs.getLast? = some x) : Wp (ixD (.tup xs) (.int (-1)) s) PD = PD x s := wix (a := .tup xs) rfl (atI_last h)
section
variable {s : S} {PD : D → S → Prop} {ι : Type}
theorem wl_m {turn : D → S → R (Option D)} {ok : S → Bool} {l : List ι} (e : ι → D) (f : ι → Option D) (hok : ok s = true) (hl : l.length ≤ sizeLine) (h : ∀ i ∈ l, Wp (turn (e i) s) fun o s' => o = f i ∧ s' = s) (hp : PD (.lst (l.filterMap f)) s) : Wp (lcL turn ok (l.map e) [] s) PD := by
  refine wl_inv (fun r acc s' => s' = s ∧ ∃ a b, l = a ++ b ∧ r = b.map e ∧ acc = a.filterMap f) ⟨rfl, [], _, rfl, rfl, rfl⟩ ?_ ?_
  · rintro acc s' ⟨rfl, a, b, e1, e2, rfl⟩
    have : b = [] := by cases b with
      | nil => rfl
      | cons _ _ => cases e2
    subst this
    rw [List.append_nil] at e1
    subst e1
    exact ⟨hok, hp⟩
  · rintro x r acc s' ⟨rfl, a, b, e1, e2, rfl⟩
    cases b with
    | nil => cases e2
    | cons k b =>
      rw [List.map_cons] at e2
      cases e2
      refine ⟨hok, (h k (by rw [e1]; simp)).imp ?_⟩
      rintro o s'' ⟨rfl, rfl⟩
      have l3 : a.length < l.length := by have := congrArg List.length e1; simp at this; omega
      have l1 : (a.filterMap f).length ≤ a.length := List.length_filterMap_le _ _
      cases e : f k with
      | none => exact ⟨rfl, a ++ [k], b, by rw [e1]; simp, rfl, by simp [e]⟩
      | some d => exact ⟨by omega, rfl, a ++ [k], b, by rw [e1]; simp, rfl, by simp [e]⟩
theorem wl_mm {turn : D → S → R (Option D)} {ok : S → Bool} {l : List ι} (e f : ι → D) (hok : ok s = true) (hl : l.length ≤ sizeLine) (h : ∀ i ∈ l, Wp (turn (e i) s) fun o s' => o = some (f i) ∧ s' = s) (hp : PD (.lst (l.map f)) s) : Wp (lcL turn ok (l.map e) [] s) PD :=
  wl_m e (fun i => some (f i)) hok hl h (by rw [List.filterMap_eq_map']; exact hp)
theorem cut_take {xs : List D} {k : Nat} (h : k ≤ xs.length) : cutD xs none (some (k : Int)) = xs.take k := by
  unfold cutD
  have e1 : HT.sIx xs.length 0 none = 0 := rfl
  have e2 : HT.sIx xs.length xs.length (some (k : Int)) = k := by
    rw [HT.sIx_nat]; omega
  rw [e1, e2]; simp
theorem cut_drop {xs : List D} {k : Nat} (h : k ≤ xs.length) : cutD xs (some (k : Int)) none = xs.drop k := by
  unfold cutD
  have e1 : HT.sIx xs.length xs.length none = xs.length := rfl
  have e2 : HT.sIx xs.length 0 (some (k : Int)) = k := by
    rw [HT.sIx_nat]; omega
  rw [e1, e2]
  exact List.take_of_length_le (by simp)
theorem ws_slt {xs : List D} {lo hi : Option Int} : Wp (slD (.tup xs) lo hi s) PD = PD (.tup (cutD xs lo hi)) s := by with_unfolding_all rfl
end
theorem fm_congr {α β : Type} {f g : α → Option β} : ∀ {l : List α}, (∀ x ∈ l, f x = g x) → l.filterMap f = l.filterMap g
  | [], _ => rfl
  | x :: xs, h => by
    rw [List.filterMap_cons, List.filterMap_cons, h x List.mem_cons_self, fm_congr fun y hy => h y (List.mem_cons_of_mem _ hy)]
theorem fm_filter {α : Type} {p : α → Bool} : ∀ {l : List α}, (l.filterMap fun x => if p x = true then some x else none) = l.filter p
  | [] => rfl
  | x :: xs => by
    rw [List.filterMap_cons, List.filter_cons]
    by_cases h : p x = true
    · rw [if_pos h, if_pos h, fm_filter]
    · rw [if_neg h, if_neg h, fm_filter]
theorem wx_maxr {s : S} {PD : D → S → Prop} {r : Nat} {ns : List Int} (hl : lk s r = some (ns.map .int)) (h : ns ≠ []) : Wp (bltD .max [.ref r] s) PD = PD (.int (maxL ns)) s := by
  have : bltD .max [.ref r] s = .ok (.int (maxL ns)) s := by
    show (match (lk s r).bind intsD with
      | some ns => if ns ≠ [] then R.ok (D.int (maxL ns)) s else .bad
      | none => .bad) = _
    rw [hl, show (some (ns.map D.int)).bind intsD = intsD (ns.map D.int) from rfl, intsD_map]
    dsimp only
    rw [if_pos h]
  rw [this, wp_ok]
end DI

set_option Elab.async false
set_option linter.all false
set_option maxRecDepth 100000
set_option maxHeartbeats 0
namespace DI.L
open PySem PySem.Spec PyProof.Rows L2
abbrev RW : PySem.W.OpenLaw := PySem.Challenge.rw_remaderight_k69_whole_best_rows_within_a
abbrev PW : Program := PySem.Challenge.pw_remaderight_k69_whole_best_rows_within_a
def top (i : Nat) : Stmt := PW.main.body.getD i (.Pass ⟨0, 0, 0, 0⟩)
def topC (i j : Nat) : Stmt := match top i with
  | .ClassDef _ _ _ b _ _ _ _ _ _ _ => b.getD j (.Pass ⟨0, 0, 0, 0⟩)
  | _ => .Pass ⟨0, 0, 0, 0⟩
def mkD (x : Str) (i : Nat) : He.DefD := ⟨(x, none), x, x, defArgs (top i), defBody (top i), defScope (top i), [], []⟩
def mkI (C q : Str) (i j : Nat) : He.DefD := ⟨(C, some ("__init__" : Str)), "__init__", q, defArgs (topC i j), defBody (topC i j), defScope (topC i j), [], []⟩
def d_is_whole : Df := ⟨("is_whole" : Str), 1, [("value" : Str)], [(.ret (some (.and (.isi (.var 0) .int) (.not (.isi (.var 0) .bool)))))]⟩
def d_look_at_worths : Df := ⟨("look_at_worths" : Str), 2, [("rows" : Str), ("room" : Str), ("one" : Str)], [(.ife (.or (.not (.tru (.isi (.var 0) .tuple))) (.not (.tru (.blt .all [(.lc [(("one" : Str), 2)] (.and (.isi (.var 2) .tuple) (.cmp .eq (.blt .len [(.var 2)]) (.con (.int 2)))) (.nm 2) (.seq (.var 0)) none)])))) [(.raise ("BadPlan" : Str) [(.con (.str ("rows" : Str)))])] []), (.ife (.not (.tru (.blt .all [(.lc [(("one" : Str), 2)] (.and (.call ("is_whole" : Str) [(.ix (.var 2) (.con (.int 0)))]) (.and (.call ("is_whole" : Str) [(.ix (.var 2) (.con (.int 1)))]) (.and (.cmp .ge (.ix (.var 2) (.con (.int 0))) (.con (.int 1))) (.cmp .ge (.ix (.var 2) (.con (.int 1))) (.con (.int 0)))))) (.nm 2) (.seq (.var 0)) none)]))) [(.raise ("BadPlan" : Str) [(.con (.str ("rows" : Str)))])] []), (.ife (.or (.not (.tru (.call ("is_whole" : Str) [(.var 1)]))) (.not (.chain .le .le (.con (.int 0)) (.var 1) (.glo ("MOST_WORDS" : Str))))) [(.raise ("BadPlan" : Str) [(.con (.str ("room" : Str)))])] []), (.ife (.cmp .gt (.blt .len [(.var 0)]) (.glo ("MOST_ROWS" : Str))) [(.raise ("Refused" : Str) [(.con (.str ("many" : Str)))])] [])]⟩
def d_sums_table : Df := ⟨("sums_table" : Str), 2, [("rows" : Str), ("room" : Str), ("found" : Str), ("size" : Str), ("worth" : Str), ("last" : Str), ("at" : Str)], [(.asg (.nm 2) (.lst [(.bin .mul (.tup [(.con (.int 0))]) (.bin .add (.var 1) (.con (.int 1))))])), (.fo (.tup [(.nm 3), (.nm 4)]) (.seq (.var 0)) [(.asg (.nm 5) (.ix (.var 2) (.neg (.con (.int 1))))), (.expr (.mth .append (.var 2) [(.blt .tuple [(.lc [(("at" : Str), 6)] (.blt .max [(.bin .add (.lst [(.ix (.var 5) (.var 6))]) (.ife (.cmp .ge (.var 6) (.var 3)) (.lst [(.bin .add (.ix (.var 5) (.bin .sub (.var 6) (.var 3))) (.var 4))]) (.lst [])))]) (.nm 6) (.range [(.bin .add (.var 1) (.con (.int 1)))]) none)])]))]), (.ret (some (.blt .tuple [(.var 2)])))]⟩
def d_best_kept : Df := ⟨("best_kept" : Str), 2, [("rows" : Str), ("room" : Str), ("table" : Str), ("at" : Str), ("left" : Str), ("places" : Str)], [(.expr (.call ("look_at_worths" : Str) [(.var 0), (.var 1)])), (.asg (.nm 2) (.call ("sums_table" : Str) [(.var 0), (.var 1)])), (.par [4, 5] [(.var 1), (.lst [])]), (.fo (.nm 3) (.range [(.bin .sub (.blt .len [(.var 0)]) (.con (.int 1))), (.neg (.con (.int 1))), (.neg (.con (.int 1)))]) [(.ife (.cmp .ne (.ix (.ix (.var 2) (.bin .add (.var 3) (.con (.int 1)))) (.var 4)) (.ix (.ix (.var 2) (.var 3)) (.var 4))) [(.expr (.mth .append (.var 5) [(.var 3)])), (.aug 4 .sub (.ix (.ix (.var 0) (.var 3)) (.con (.int 0))))] [])]), (.ret (some (.tup [(.ix (.ix (.var 2) (.neg (.con (.int 1)))) (.var 1)), (.blt .tuple [(.rev (.var 5))]), (.var 2)])))]⟩
def d_is_table : Df := ⟨("is_table" : Str), 3, [("rows" : Str), ("room" : Str), ("value" : Str), ("row" : Str), ("at" : Str), ("place" : Str), ("size" : Str), ("worth" : Str), ("told" : Str), ("one" : Str)], [(.ife (.or (.not (.tru (.isi (.var 2) .tuple))) (.cmp .ne (.blt .len [(.var 2)]) (.bin .add (.blt .len [(.var 0)]) (.con (.int 1))))) [(.ret (some (.con (.bl false))))] []), (.fo (.nm 3) (.seq (.var 2)) [(.ife (.or (.not (.tru (.isi (.var 3) .tuple))) (.or (.cmp .ne (.blt .len [(.var 3)]) (.bin .add (.var 1) (.con (.int 1)))) (.not (.tru (.blt .all [(.lc [(("one" : Str), 9)] (.call ("is_whole" : Str) [(.var 9)]) (.nm 9) (.seq (.var 3)) none)]))))) [(.ret (some (.con (.bl false))))] [])]), (.ife (.tru (.blt .any [(.lc [(("one" : Str), 9)] (.cmp .ne (.var 9) (.con (.int 0))) (.nm 9) (.seq (.ix (.var 2) (.con (.int 0)))) none)])) [(.ret (some (.con (.bl false))))] []), (.fo (.tup [(.nm 4), (.tup [(.nm 6), (.nm 7)])]) (.enum (.var 0)) [(.fo (.nm 5) (.range [(.bin .add (.var 1) (.con (.int 1)))]) [(.asg (.nm 8) (.bin .add (.lst [(.ix (.ix (.var 2) (.var 4)) (.var 5))]) (.ife (.cmp .ge (.var 5) (.var 6)) (.lst [(.bin .add (.ix (.ix (.var 2) (.var 4)) (.bin .sub (.var 5) (.var 6))) (.var 7))]) (.lst [])))), (.ife (.cmp .ne (.ix (.ix (.var 2) (.bin .add (.var 4) (.con (.int 1)))) (.var 5)) (.blt .max [(.var 8)])) [(.ret (some (.con (.bl false))))] [])])]), (.ret (some (.con (.bl true))))]⟩
def d_best_fault : Df := ⟨("best_fault" : Str), 3, [("rows" : Str), ("room" : Str), ("value" : Str), ("places" : Str), ("at" : Str)], [(.expr (.call ("look_at_worths" : Str) [(.var 0), (.var 1)])), (.ife (.or (.not (.tru (.isi (.var 2) .tuple))) (.or (.cmp .ne (.blt .len [(.var 2)]) (.con (.int 3))) (.or (.not (.tru (.call ("is_whole" : Str) [(.ix (.var 2) (.con (.int 0)))]))) (.not (.tru (.isi (.ix (.var 2) (.con (.int 1))) .tuple)))))) [(.ret (some (.con (.str ("form" : Str)))))] []), (.asg (.nm 3) (.ix (.var 2) (.con (.int 1)))), (.ife (.or (.not (.tru (.blt .all [(.lc [(("at" : Str), 4)] (.and (.call ("is_whole" : Str) [(.var 4)]) (.chain .le .lt (.con (.int 0)) (.var 4) (.blt .len [(.var 0)]))) (.nm 4) (.seq (.var 3)) none)]))) (.cmp .ne (.blt .list [(.var 3)]) (.blt .sorted [(.blt .set [(.var 3)])]))) [(.ret (some (.con (.str ("places" : Str)))))] []), (.ife (.cmp .gt (.blt .sum [(.lc [(("at" : Str), 4)] (.ix (.ix (.var 0) (.var 4)) (.con (.int 0))) (.nm 4) (.seq (.var 3)) none)]) (.var 1)) [(.ret (some (.con (.str ("room" : Str)))))] []), (.ife (.cmp .ne (.blt .sum [(.lc [(("at" : Str), 4)] (.ix (.ix (.var 0) (.var 4)) (.con (.int 1))) (.nm 4) (.seq (.var 3)) none)]) (.ix (.var 2) (.con (.int 0)))) [(.ret (some (.con (.str ("worth" : Str)))))] []), (.ife (.not (.tru (.call ("is_table" : Str) [(.var 0), (.var 1), (.ix (.var 2) (.con (.int 2)))]))) [(.ret (some (.con (.str ("table" : Str)))))] []), (.ret (some (.ife (.cmp .eq (.ix (.ix (.ix (.var 2) (.con (.int 2))) (.neg (.con (.int 1)))) (.var 1)) (.ix (.var 2) (.con (.int 0)))) (.con .non) (.con (.str ("greatest" : Str))))))]⟩
def d__law_draws : Df := ⟨("_law_draws" : Str), 1, [("script" : Str)], [(.ret (some (.lst [(.blt .list [(.var 0)]), (.con (.int 0)), (.con (.int 0)), (.con (.int 1))])))]⟩
def d__law_draw : Df := ⟨("_law_draw" : Str), 2, [("draws" : Str), ("limit" : Str), ("cell" : Str), ("value" : Str)], [(.ife (.and (.cmp .eq (.ix (.var 0) (.con (.int 2))) (.con (.int 0))) (.cmp .lt (.ix (.var 0) (.con (.int 1))) (.blt .len [(.ix (.var 0) (.con (.int 0)))]))) [(.asg (.nm 2) (.ix (.ix (.var 0) (.con (.int 0))) (.ix (.var 0) (.con (.int 1))))), (.asg (.sub (.var 0) (.con (.int 1))) (.bin .add (.ix (.var 0) (.con (.int 1))) (.con (.int 1)))), (.ife (.cmp .ge (.var 2) (.bin .pow (.con (.int 10)) (.con (.int 18)))) [(.asg (.sub (.var 0) (.con (.int 2))) (.var 2))] []), (.asg (.sub (.var 0) (.con (.int 3))) (.bin .mod (.blt .int [(.bin .add (.bin .add (.bin .mul (.ix (.var 0) (.con (.int 3))) (.con (.int 48271))) (.var 2)) (.con (.int 13)))]) (.con (.int 2147483647))))] []), (.ife (.cmp .gt (.ix (.var 0) (.con (.int 2))) (.con (.int 0))) [(.asg (.nm 3) (.bin .mod (.blt .int [(.ix (.var 0) (.con (.int 2)))]) (.var 1))), (.asg (.sub (.var 0) (.con (.int 2))) (.bin .fdiv (.ix (.var 0) (.con (.int 2))) (.var 1))), (.ret (some (.var 3)))] []), (.asg (.sub (.var 0) (.con (.int 3))) (.bin .mod (.blt .int [(.bin .add (.bin .mul (.ix (.var 0) (.con (.int 3))) (.con (.int 69621))) (.con (.int 7)))]) (.con (.int 2147483629)))), (.ret (some (.bin .mod (.blt .int [(.bin .fdiv (.ix (.var 0) (.con (.int 3))) (.con (.int 11)))]) (.var 1))))]⟩
def d__law_pick : Df := ⟨("_law_pick" : Str), 2, [("draws" : Str), ("row" : Str)], [(.ret (some (.ix (.var 1) (.call ("_law_draw" : Str) [(.var 0), (.blt .len [(.var 1)])]))))]⟩
def d__law_same : Df := ⟨("_law_same" : Str), 2, [("actual" : Str), ("expected" : Str), ("k" : Str)], [(.ife (.or (.tru (.isi (.var 1) .tuple)) (.tru (.isi (.var 1) .list))) [(.ife (.or (.cmp .ne (.isi (.var 0) .tuple) (.isi (.var 1) .tuple)) (.cmp .ne (.isi (.var 0) .list) (.isi (.var 1) .list))) [(.ret (some (.con (.bl false))))] []), (.ife (.cmp .ne (.blt .len [(.var 0)]) (.blt .len [(.var 1)])) [(.ret (some (.con (.bl false))))] []), (.ret (some (.cmp .eq (.blt .len [(.lc [(("k" : Str), 2)] (.var 2) (.nm 2) (.range [(.blt .len [(.var 1)])]) (some (.not (.tru (.call ("_law_same" : Str) [(.ix (.var 0) (.var 2)), (.ix (.var 1) (.var 2))])))))]) (.con (.int 0)))))] []), (.ife (.or (.tru (.isi (.var 1) .bool)) (.tru (.isi (.var 0) .bool))) [(.ret (some (.and (.isi (.var 1) .bool) (.and (.isi (.var 0) .bool) (.cmp .eq (.var 0) (.var 1))))))] []), (.ife (.or (.cmp .isv (.var 1) (.con .non)) (.cmp .isv (.var 0) (.con .non))) [(.ret (some (.and (.cmp .isv (.var 1) (.con .non)) (.cmp .isv (.var 0) (.con .non)))))] []), (.ife (.or (.tru (.isi (.var 1) .str)) (.tru (.isi (.var 0) .str))) [(.ret (some (.and (.isi (.var 1) .str) (.and (.isi (.var 0) .str) (.cmp .eq (.var 0) (.var 1))))))] []), (.ret (some (.and (.isi (.var 0) .int) (.and (.isi (.var 1) .int) (.cmp .eq (.var 0) (.var 1))))))]⟩
def d__law_lots : Df := ⟨("_law_lots" : Str), 2, [("rows" : Str), ("room" : Str), ("found" : Str), ("k" : Str), ("lot" : Str), ("size" : Str), ("worth" : Str)], [(.asg (.nm 2) (.lst [(.tup [(.tup []), (.con (.int 0)), (.con (.int 0))])])), (.fo (.nm 3) (.range [(.blt .len [(.var 0)])]) [(.asg (.nm 2) (.bin .add (.var 2) (.lc [(("lot" : Str), 4), (("size" : Str), 5), (("worth" : Str), 6)] (.tup [(.bin .add (.var 4) (.tup [(.var 3)])), (.bin .add (.var 5) (.ix (.ix (.var 0) (.var 3)) (.con (.int 0)))), (.bin .add (.var 6) (.ix (.ix (.var 0) (.var 3)) (.con (.int 1))))]) (.tup [(.nm 4), (.nm 5), (.nm 6)]) (.seq (.var 2)) (some (.cmp .le (.bin .add (.var 5) (.ix (.ix (.var 0) (.var 3)) (.con (.int 0)))) (.var 1))))))]), (.ret (some (.var 2)))]⟩
def d__law_table : Df := ⟨("_law_table" : Str), 2, [("rows" : Str), ("room" : Str), ("lots" : Str), ("k" : Str), ("some" : Str), ("at" : Str), ("lot" : Str), ("size" : Str), ("worth" : Str)], [(.asg (.nm 2) (.lc [(("k" : Str), 3)] (.call ("_law_lots" : Str) [(.sl (.var 0) none (some (.var 3))), (.var 1)]) (.nm 3) (.range [(.bin .add (.blt .len [(.var 0)]) (.con (.int 1)))]) none)), (.ret (some (.blt .tuple [(.lc [(("some" : Str), 4)] (.blt .tuple [(.lc [(("at" : Str), 5)] (.blt .max [(.lc [(("lot" : Str), 6), (("size" : Str), 7), (("worth" : Str), 8)] (.var 8) (.tup [(.nm 6), (.nm 7), (.nm 8)]) (.seq (.var 4)) (some (.cmp .le (.var 7) (.var 5))))]) (.nm 5) (.range [(.bin .add (.var 1) (.con (.int 1)))]) none)]) (.nm 4) (.seq (.var 2)) none)])))]⟩
def d__law_due : Df := ⟨("_law_due" : Str), 2, [("rows" : Str), ("room" : Str), ("lots" : Str), ("most" : Str), ("good" : Str), ("k" : Str), ("without" : Str), ("lot" : Str), ("size" : Str), ("worth" : Str)], [(.asg (.nm 2) (.call ("_law_lots" : Str) [(.var 0), (.var 1)])), (.asg (.nm 3) (.blt .max [(.lc [(("lot" : Str), 7), (("size" : Str), 8), (("worth" : Str), 9)] (.var 9) (.tup [(.nm 7), (.nm 8), (.nm 9)]) (.seq (.var 2)) none)])), (.asg (.nm 4) (.lc [(("lot" : Str), 7), (("size" : Str), 8), (("worth" : Str), 9)] (.var 7) (.tup [(.nm 7), (.nm 8), (.nm 9)]) (.seq (.var 2)) (some (.cmp .eq (.var 9) (.var 3))))), (.fo (.nm 5) (.range [(.bin .sub (.blt .len [(.var 0)]) (.con (.int 1))), (.neg (.con (.int 1))), (.neg (.con (.int 1)))]) [(.asg (.nm 6) (.lc [(("lot" : Str), 7)] (.var 7) (.nm 7) (.seq (.var 4)) (some (.cmp .nin (.var 5) (.var 7))))), (.asg (.nm 4) (.ife (.cmp .ne (.var 6) (.lst [])) (.var 6) (.var 4)))]), (.ret (some (.tup [(.var 3), (.ix (.var 4) (.con (.int 0))), (.call ("_law_table" : Str) [(.var 0), (.var 1)])])))]⟩
def d__law_whole : Df := ⟨("_law_whole" : Str), 1, [("value" : Str)], [(.ret (some (.and (.isi (.var 0) .int) (.not (.isi (.var 0) .bool)))))]⟩
def d__law_fault : Df := ⟨("_law_fault" : Str), 3, [("rows" : Str), ("room" : Str), ("value" : Str), ("places" : Str), ("one" : Str), ("k" : Str)], [(.ife (.or (.not (.tru (.isi (.var 2) .tuple))) (.or (.cmp .ne (.blt .len [(.var 2)]) (.con (.int 3))) (.or (.not (.tru (.call ("_law_whole" : Str) [(.ix (.var 2) (.con (.int 0)))]))) (.not (.tru (.isi (.ix (.var 2) (.con (.int 1))) .tuple)))))) [(.ret (some (.con (.str ("form" : Str)))))] []), (.asg (.nm 3) (.ix (.var 2) (.con (.int 1)))), (.ife (.or (.cmp .ne (.lc [(("one" : Str), 4)] (.con (.int 1)) (.nm 4) (.seq (.var 3)) (some (.or (.not (.tru (.call ("_law_whole" : Str) [(.var 4)]))) (.not (.chain .le .lt (.con (.int 0)) (.var 4) (.blt .len [(.var 0)])))))) (.lst [])) (.cmp .ne (.blt .list [(.var 3)]) (.blt .sorted [(.blt .set [(.var 3)])]))) [(.ret (some (.con (.str ("places" : Str)))))] []), (.ife (.cmp .gt (.blt .sum [(.lc [(("k" : Str), 5)] (.ix (.ix (.var 0) (.var 5)) (.con (.int 0))) (.nm 5) (.seq (.var 3)) none)]) (.var 1)) [(.ret (some (.con (.str ("room" : Str)))))] []), (.ife (.cmp .ne (.blt .sum [(.lc [(("k" : Str), 5)] (.ix (.ix (.var 0) (.var 5)) (.con (.int 1))) (.nm 5) (.seq (.var 3)) none)]) (.ix (.var 2) (.con (.int 0)))) [(.ret (some (.con (.str ("worth" : Str)))))] []), (.ife (.not (.tru (.call ("_law_same" : Str) [(.ix (.var 2) (.con (.int 2))), (.call ("_law_table" : Str) [(.var 0), (.var 1)])]))) [(.ret (some (.con (.str ("table" : Str)))))] []), (.ret (some (.ife (.cmp .eq (.ix (.ix (.ix (.var 2) (.con (.int 2))) (.neg (.con (.int 1)))) (.var 1)) (.ix (.var 2) (.con (.int 0)))) (.con .non) (.con (.str ("greatest" : Str))))))]⟩
def d__law_bent : Df := ⟨("_law_bent" : Str), 2, [("draws" : Str), ("value" : Str), ("kind" : Str), ("k" : Str)], [(.asg (.nm 2) (.call ("_law_draw" : Str) [(.var 0), (.con (.int 4))])), (.ife (.and (.tru (.isi (.var 1) .tuple)) (.and (.cmp .gt (.blt .len [(.var 1)]) (.con (.int 0))) (.cmp .gt (.var 2) (.con (.int 0))))) [(.asg (.nm 3) (.call ("_law_draw" : Str) [(.var 0), (.blt .len [(.var 1)])])), (.ret (some (.ife (.cmp .gt (.var 2) (.con (.int 1))) (.bin .add (.bin .add (.sl (.var 1) none (some (.var 3))) (.tup [(.call ("_law_bent" : Str) [(.var 0), (.ix (.var 1) (.var 3))])])) (.sl (.var 1) (some (.bin .add (.var 3) (.con (.int 1)))) none)) (.bin .add (.sl (.var 1) none (some (.var 3))) (.sl (.var 1) (some (.bin .add (.var 3) (.con (.int 1)))) none)))))] []), (.ife (.and (.tru (.call ("_law_whole" : Str) [(.var 1)])) (.cmp .gt (.var 2) (.con (.int 0)))) [(.ret (some (.bin .add (.var 1) (.call ("_law_pick" : Str) [(.var 0), (.lst [(.neg (.con (.int 1))), (.con (.int 1)), (.con (.int 2))])]))))] []), (.ret (some (.call ("_law_pick" : Str) [(.var 0), (.lst [(.con .non), (.tup []), (.con (.int 0)), (.con (.str ("a" : Str))), (.con (.bl true)), (.tup [(.con (.int 0))])])])))]⟩
def d_law : Df := ⟨("law" : Str), 1, [("script" : Str), ("draws" : Str), ("turn" : Str), ("words" : Str), ("bads" : Str), ("rows" : Str), ("room" : Str), ("due" : Str), ("lots" : Str), ("again" : Str), ("e" : Str), ("lot" : Str), ("size" : Str), ("worth" : Str), ("value" : Str), ("k" : Str)], [(.asg (.nm 1) (.call ("_law_draws" : Str) [(.var 0)])), (.fo (.nm 2) (.range [(.con (.int 4))]) [(.asg (.nm 5) (.blt .tuple [(.lc [(("k" : Str), 15)] (.tup [(.bin .add (.con (.int 1)) (.call ("_law_draw" : Str) [(.var 1), (.con (.int 6))])), (.call ("_law_draw" : Str) [(.var 1), (.con (.int 7))])]) (.nm 15) (.range [(.call ("_law_draw" : Str) [(.var 1), (.con (.int 8))])]) none)])), (.asg (.nm 6) (.call ("_law_draw" : Str) [(.var 1), (.con (.int 18))])), (.asg (.nm 7) (.call ("_law_due" : Str) [(.var 5), (.var 6)])), (.ife (.or (.not (.tru (.call ("_law_same" : Str) [(.call ("best_kept" : Str) [(.var 5), (.var 6)]), (.var 7)]))) (.cmp .isn (.call ("best_fault" : Str) [(.var 5), (.var 6), (.var 7)]) (.con .non))) [(.ret (some (.con (.bl false))))] []), (.asg (.nm 8) (.call ("_law_lots" : Str) [(.var 5), (.var 6)])), (.asg (.tup [(.nm 11), (.nm 12), (.nm 13)]) (.ix (.var 8) (.call ("_law_draw" : Str) [(.var 1), (.blt .len [(.var 8)])]))), (.ife (.not (.tru (.call ("_law_same" : Str) [(.call ("best_fault" : Str) [(.var 5), (.var 6), (.tup [(.var 13), (.var 11), (.ix (.var 7) (.con (.int 2)))])]), (.ife (.cmp .eq (.var 13) (.ix (.var 7) (.con (.int 0)))) (.con .non) (.con (.str ("greatest" : Str))))]))) [(.ret (some (.con (.bl false))))] []), (.fo (.nm 9) (.range [(.con (.int 8))]) [(.asg (.nm 14) (.call ("_law_bent" : Str) [(.var 1), (.var 7)])), (.ife (.not (.tru (.call ("_law_same" : Str) [(.call ("best_fault" : Str) [(.var 5), (.var 6), (.var 14)]), (.call ("_law_fault" : Str) [(.var 5), (.var 6), (.var 14)])]))) [(.ret (some (.con (.bl false))))] [])])]), (.asg (.nm 3) (.lst [])), (.asg (.nm 4) (.lst [(.tup [(.con .non), (.con (.int 1))]), (.tup [(.lst []), (.con (.int 1))]), (.tup [(.tup [(.con .non)]), (.con (.int 1))]), (.tup [(.tup [(.tup [(.con (.int 0)), (.con (.int 1))])]), (.con (.int 1))]), (.tup [(.tup [(.tup [(.con (.int 1)), (.neg (.con (.int 1)))])]), (.con (.int 1))]), (.tup [(.tup [(.tup [(.con (.bl true)), (.con (.int 1))])]), (.con (.int 1))]), (.tup [(.tup []), (.neg (.con (.int 1)))]), (.tup [(.tup []), (.con (.int 401))]), (.tup [(.tup []), (.con .non)]), (.tup [(.bin .mul (.tup [(.tup [(.con (.int 1)), (.con (.int 1))])]) (.con (.int 21))), (.con (.int 1))])])), (.fo (.tup [(.nm 5), (.nm 6)]) (.seq (.var 4)) [(.tr [(.expr (.call ("best_kept" : Str) [(.var 5), (.var 6)]))] [(("BadPlan" : Str), some 10, [(.expr (.mth .append (.var 3) [(.ife (.tru (.eisi 10 ("ValueError" : Str))) (.efld 10 ("word" : Str)) (.con (.str ("" : Str))))]))]), (("Refused" : Str), some 10, [(.expr (.mth .append (.var 3) [(.ife (.tru (.eisi 10 ("ValueError" : Str))) (.efld 10 ("word" : Str)) (.con (.str ("" : Str))))]))])])]), (.ret (some (.cmp .eq (.var 3) (.bin .add (.bin .add (.bin .mul (.lst [(.con (.str ("rows" : Str)))]) (.con (.int 6))) (.bin .mul (.lst [(.con (.str ("room" : Str)))]) (.con (.int 3)))) (.lst [(.con (.str ("many" : Str)))])))))]⟩
def ds : List Df := [d_is_whole, d_look_at_worths, d_sums_table, d_best_kept, d_is_table, d_best_fault, d__law_draws, d__law_draw, d__law_pick, d__law_same, d__law_lots, d__law_table, d__law_due, d__law_whole, d__law_fault, d__law_bent, d_law]
def fns : List He.DefD := [mkD ("is_whole" : Str) 1, mkD ("look_at_worths" : Str) 9, mkD ("sums_table" : Str) 10, mkD ("best_kept" : Str) 11, mkD ("is_table" : Str) 12, mkD ("best_fault" : Str) 13, mkD ("_law_draws" : Str) 15, mkD ("_law_draw" : Str) 16, mkD ("_law_pick" : Str) 17, mkD ("_law_same" : Str) 18, mkD ("_law_lots" : Str) 19, mkD ("_law_table" : Str) 20, mkD ("_law_due" : Str) 21, mkD ("_law_whole" : Str) 22, mkD ("_law_fault" : Str) 23, mkD ("_law_bent" : Str) 24, mkD ("law" : Str) 25]
def inis : List Ini := [⟨("BadPlan" : Str), [("word" : Str)], ("RemadeError" : Str), ("self" : Str), [("word" : Str)], [1], mkI ("BadPlan" : Str) ("BadPlan.__init__" : Str) 4 0⟩, ⟨("Refused" : Str), [("word" : Str)], ("RemadeError" : Str), ("self" : Str), [("word" : Str)], [1], mkI ("Refused" : Str) ("Refused.__init__" : Str) 5 0⟩]
def cfg : Cfg := { ds := ds, fns := fns, free := [("all" : Str), ("any" : Str), ("bool" : Str), ("enumerate" : Str), ("int" : Str), ("isinstance" : Str), ("len" : Str), ("list" : Str), ("max" : Str), ("range" : Str), ("set" : Str), ("sorted" : Str), ("str" : Str), ("sum" : Str), ("tuple" : Str)], cons := [(("MOST_ROWS" : Str), (.int 20)), (("MOST_WORDS" : Str), (.int 400))], cls := [("BadPlan" : Str), ("Refused" : Str), ("ValueError" : Str)], inis := inis, isx := [(("BadPlan" : Str), ("BadPlan" : Str), true), (("BadPlan" : Str), ("Refused" : Str), false), (("BadPlan" : Str), ("ValueError" : Str), true), (("Refused" : Str), ("BadPlan" : Str), false), (("Refused" : Str), ("Refused" : Str), true), (("Refused" : Str), ("ValueError" : Str), true)], fuel := 0 }
theorem hdefs : DefsOk cfg.G cfg.ds cfg.fns := by
  refine .cons (by decide +kernel) (fun _ _ _ _ _ _ us hl => match us, hl with | [_], _ => rfl) (.cons (by decide +kernel) (fun _ _ _ _ _ _ us hl => match us, hl with | [_, _], _ => rfl) (.cons (by decide +kernel) (fun _ _ _ _ _ _ us hl => match us, hl with | [_, _], _ => rfl) (.cons (by decide +kernel) (fun _ _ _ _ _ _ us hl => match us, hl with | [_, _], _ => rfl) (.cons (by decide +kernel) (fun _ _ _ _ _ _ us hl => match us, hl with | [_, _, _], _ => rfl) (.cons (by decide +kernel) (fun _ _ _ _ _ _ us hl => match us, hl with | [_, _, _], _ => rfl) (.cons (by decide +kernel) (fun _ _ _ _ _ _ us hl => match us, hl with | [_], _ => rfl) (.cons (by decide +kernel) (fun _ _ _ _ _ _ us hl => match us, hl with | [_, _], _ => rfl) (.cons (by decide +kernel) (fun _ _ _ _ _ _ us hl => match us, hl with | [_, _], _ => rfl) (.cons (by decide +kernel) (fun _ _ _ _ _ _ us hl => match us, hl with | [_, _], _ => rfl) (.cons (by decide +kernel) (fun _ _ _ _ _ _ us hl => match us, hl with | [_, _], _ => rfl) (.cons (by decide +kernel) (fun _ _ _ _ _ _ us hl => match us, hl with | [_, _], _ => rfl) (.cons (by decide +kernel) (fun _ _ _ _ _ _ us hl => match us, hl with | [_, _], _ => rfl) (.cons (by decide +kernel) (fun _ _ _ _ _ _ us hl => match us, hl with | [_], _ => rfl) (.cons (by decide +kernel) (fun _ _ _ _ _ _ us hl => match us, hl with | [_, _, _], _ => rfl) (.cons (by decide +kernel) (fun _ _ _ _ _ _ us hl => match us, hl with | [_, _], _ => rfl) (.cons (by decide +kernel) (fun _ _ _ _ _ _ us hl => match us, hl with | [_], _ => rfl) (.nil)))))))))))))))))
theorem hinis : InitsOk cfg.inis := by
  intro i hi
  simp only [cfg, inis, List.mem_cons, List.not_mem_nil, or_false] at hi
  rcases hi with rfl | rfl
  · exact ⟨by decide +kernel, fun _ _ _ _ _ _ us hl => match us, hl with | [_, _], _ => rfl⟩
  · exact ⟨by decide +kernel, fun _ _ _ _ _ _ us hl => match us, hl with | [_, _], _ => rfl⟩
theorem hnd : (cfg.ds.map fun d : Df => d.name).Nodup := by decide +kernel
-- law at 25; names __name__ is_whole RemadeError BadPlan Refused MOST_ROWS MOST_WORDS look_at_worths sums_table best_kept is_table best_fault _law_draws _law_draw _law_pick _law_same _law_lots _law_table _law_due _law_whole _law_fault _law_bent
def names : List Str := [("__name__" : Str), ("is_whole" : Str), ("RemadeError" : Str), ("BadPlan" : Str), ("Refused" : Str), ("MOST_ROWS" : Str), ("MOST_WORDS" : Str), ("look_at_worths" : Str), ("sums_table" : Str), ("best_kept" : Str), ("is_table" : Str), ("best_fault" : Str), ("_law_draws" : Str), ("_law_draw" : Str), ("_law_pick" : Str), ("_law_same" : Str), ("_law_lots" : Str), ("_law_table" : Str), ("_law_due" : Str), ("_law_whole" : Str), ("_law_fault" : Str), ("_law_bent" : Str)]
def lawI : Nat := 25
end DI.L

set_option Elab.async false
set_option linter.all false
set_option maxRecDepth 100000
set_option maxHeartbeats 0
namespace DI.L
open PySem PySem.Spec PyProof.Rows L2
abbrev ORow : PySem.W.OpenRow := PySem.W.OpenLaw.row RW
abbrev hk : PySem.W.Hook := hookX 6 cfg
def ob (s : PySem.W.SharedT) : He.AlD := obsXG 6 cfg (HandSHeadRun.getT s)
theorem ob_eq (s : PySem.W.SharedT) : ob s = hk.obs s.abs := obsXG_eq (HandSHeadRun.getT_eq s)
theorem run (w : World) : HandSHeadRun.RunEq ORow (PySem.W.view ORow.prog [lawI]) hk ob 1400 names w := by
  intro os
  kernel_rfl
end DI.L
namespace DI.L
open PySem PySem.W PySem.Calls PyProof.Rows
theorem fin (hcall : ∀ ns : List Int, ns.length ≤ 63 → ∃ s', callN cfg.ds cfg.q0 60 d_law.name [.rol (ns.map .int)] [] = .ok (.bl true) s') : PySem.Challenge.rw_remaderight_k69_whole_best_rows_within_a.Holds := by
  w_on; o_law
  refine HandSHeadRun.head_any (r := OpenLaw.row RW) (q := view (OpenLaw.row RW).prog [lawI]) (H := hk) (ob := ob) (M := 1400) (loose := names) (d := HandSHeadRun.topDef (OpenLaw.row RW).prog lawI) (kwd := []) ob_eq
    (by kernel_rfl) (fun s => by kernel_rfl) run (by kernel_rfl) (by kernel_rfl) (by kernel_rfl) (by rfl) (by first | assumption | decide +kernel) (by decide +kernel) ⟨rfl, rfl, rfl, rfl, rfl, by decide +kernel⟩ ?hw ?hc
  case hw => w_witness2
  case hc => exact walkX (k := 60) (n := 63) (df := d_law) rfl (by decide) (by kernel_rfl) ⟨rfl, by decide, by decide⟩ hinis hdefs hnd (List.mem_of_getElem? (i := 16) rfl) rfl (by kernel_rfl) hcall
end DI.L

set_option Elab.async false
set_option linter.all false
set_option maxRecDepth 100000
set_option maxHeartbeats 4000000
/-! the plain law, A: the draws. -/
namespace DI
open PySem L2
theorem hdq {c : Cfg} {k i : Nat} : hdOk (c.q k).hd i = true := rfl
namespace L
abbrev cl (k : Nat) (f : Str) (as : List D) (s : S) : R D := callN cfg.ds cfg.q0 k f as s
theorem hqc {k : Nat} : (cfg.q k).c = callN cfg.ds cfg.q0 k := rfl
theorem c_draw (k : Nat) (a b : D) (s : S) : cl (k+1) "_law_draw" [a, b] s = runF (cfg.q k) 4 d__law_draw.body [a, b] s := by kernel_rfl
/-- the draws: the i-th thing, started from s₀ -/
structure D4 (s₀ : S) (i j : Nat) (ns : List Int) (a b c : Int) (s : S) : Prop where
  hi : lk s i = some [.ref j, .int a, .int b, .int c]
  hj : lk s j = some (ns.map .int)
  ne : i ≠ j
  is : ∃ xs, s = s₀.set i (.lst xs)
theorem D4.put {s₀ i j ns a b c s} (h : D4 s₀ i j ns a b c s) {a' b' c' : Int} : D4 s₀ i j ns a' b' c' (s.set i (.lst [.ref j, .int a', .int b', .int c'])) := by
  obtain ⟨hi, hj, ne, xs, rfl⟩ := h
  refine ⟨by rw [lk_set hi], by rw [lk_set_ne ne]; exact hj, ne, [.ref j, .int a', .int b', .int c'], ?_⟩
  rw [List.set_set]
theorem D4.sub1 {s₀ i j ns a b c s} (h : D4 s₀ i j ns a b c s) {v : Int} {P : S → Prop} (hp : D4 s₀ i j ns v b c (s.set i (.lst [.ref j, .int v, .int b, .int c])) → P (s.set i (.lst [.ref j, .int v, .int b, .int c]))) : ∃ s', subD (.ref i) (.int 1) (.int v) s = some s' ∧ P s' :=
  ⟨_, wsub h.hi (j := 1) rfl, hp h.put⟩
theorem D4.sub2 {s₀ i j ns a b c s} (h : D4 s₀ i j ns a b c s) {v : Int} {P : S → Prop} (hp : D4 s₀ i j ns a v c (s.set i (.lst [.ref j, .int a, .int v, .int c])) → P (s.set i (.lst [.ref j, .int a, .int v, .int c]))) : ∃ s', subD (.ref i) (.int 2) (.int v) s = some s' ∧ P s' :=
  ⟨_, wsub h.hi (j := 2) rfl, hp h.put⟩
theorem D4.sub3 {s₀ i j ns a b c s} (h : D4 s₀ i j ns a b c s) {v : Int} {P : S → Prop} (hp : D4 s₀ i j ns a b v (s.set i (.lst [.ref j, .int a, .int b, .int v])) → P (s.set i (.lst [.ref j, .int a, .int b, .int v]))) : ∃ s', subD (.ref i) (.int 3) (.int v) s = some s' ∧ P s' :=
  ⟨_, wsub h.hi (j := 3) rfl, hp h.put⟩
theorem D4.ix0 {s₀ i j ns a b c s} (h : D4 s₀ i j ns a b c s) {P} : Wp (ixD (.ref i) (.int 0) s) P = P (.ref j) s := wixr h.hi rfl
theorem D4.ix1 {s₀ i j ns a b c s} (h : D4 s₀ i j ns a b c s) {P} : Wp (ixD (.ref i) (.int 1) s) P = P (.int a) s := wixr h.hi rfl
theorem D4.ix2 {s₀ i j ns a b c s} (h : D4 s₀ i j ns a b c s) {P} : Wp (ixD (.ref i) (.int 2) s) P = P (.int b) s := wixr h.hi rfl
theorem D4.ix3 {s₀ i j ns a b c s} (h : D4 s₀ i j ns a b c s) {P} : Wp (ixD (.ref i) (.int 3) s) P = P (.int c) s := wixr h.hi rfl
def Dr (s : S) (i : Nat) : Prop := ∃ (j : Nat) (ns : List Int) (a b c : Int), lk s i = some [.ref j, .int a, .int b, .int c] ∧ lk s j = some (ns.map .int) ∧ i ≠ j ∧ 0 ≤ a ∧ 0 ≤ b
theorem D4.dr {s₀ i j ns a b c s} (h : D4 s₀ i j ns a b c s) (ha : 0 ≤ a) (hb : 0 ≤ b) : Dr s i := ⟨j, ns, a, b, c, h.hi, h.hj, h.ne, ha, hb⟩
theorem set_same {s : S} {i : Nat} {xs : List D} (h : lk s i = some xs) : s.set i (.lst xs) = s := by
  have h := lk_some.mp h
  obtain ⟨h1, h2⟩ := List.getElem?_eq_some_iff.mp h
  rw [← h2]; exact List.set_getElem_self h1
theorem s_draw (k : Nat) (i : Nat) (n : Int) (s : S) (h : Dr s i) (h1 : 1 ≤ n) (h2 : n < 1073741824) : Wp (cl (k+1) "_law_draw" [.ref i, .int n] s) fun d s' => ∃ (v : Int) (xs : List D), d = .int v ∧ s' = s.set i (.lst xs) ∧ 0 ≤ v ∧ v < n ∧ Dr s' i := by
  rw [c_draw]
  obtain ⟨j, ns, a, b, c, hi, hj, hij, ha, hb⟩ := h
  have h4 : D4 s i j ns a b c s := ⟨hi, hj, hij, _, (set_same hi).symm⟩
  refine wf_run ?_
  show Ws (runSs (cfg.q k) d__law_draw.body [some (.ref i), some (.int n), none, none] s) _
  unfold d__law_draw
  refine ws_cut (fun ρ s' => ∃ o a b c, ρ = [some (.ref i), some (.int n), o, none] ∧ D4 s i j ns a b c s' ∧ 0 ≤ a ∧ 0 ≤ b) (ws_ife ?_) ?_
  · simp only [we_con, we_varm, we_glom, we_bin, we_neg, we_cmp, we_chain, we_and, we_or, we_not, we_ife, we_tup, we_lst, we_ix, we_sl, we_rev, we_call, we_blt, we_isi, we_app, we_lc, wa_nil, wa_cons, wr_nil, wr_cons, wo_none, wo_some, wto_none, wto_some, wt_and, wt_or, wt_not, wt_cmp, wt_chain, wt_tru, wi_seq, wi_range, wi_enum, wg_nm, wg_tup, wg_nil, wg_cons, wg_sub, wp_ok, wp_bad, wp_nox, wb_add, wb_sub, wb_mul, wb_fdiv, wb_mod, wb_pow, wc_eq, wc_ne, wc_lt, wc_le, wc_gt, wc_ge, wc_eqb, wc_neb, wc_eqs, wc_nes, wx_int, wx_lent, wx_lenl, wx_lenr, wz_int, wz_str, wz_bl, wz_non, wz_tup, wz_rol, wz_ref, wz_lst, List.getElem?_cons_zero, List.getElem?_cons_succ, List.set_cons_zero, List.set_cons_succ, List.length_cons, List.length_nil, wi_tup, wi_lst, wi_rol, wx_tuplel, wx_tuplet, wx_listt, wto_some, hdq, hqc, ite_f, ite_tt, decide_eq_true_eq, Bool.not_eq_true', h4.ix2]
    refine ite_p (fun hb0 => ?_) fun hb0 => ?_
    · simp only [we_con, we_varm, we_glom, we_bin, we_neg, we_cmp, we_chain, we_and, we_or, we_not, we_ife, we_tup, we_lst, we_ix, we_sl, we_rev, we_call, we_blt, we_isi, we_app, we_lc, wa_nil, wa_cons, wr_nil, wr_cons, wo_none, wo_some, wto_none, wto_some, wt_and, wt_or, wt_not, wt_cmp, wt_chain, wt_tru, wi_seq, wi_range, wi_enum, wg_nm, wg_tup, wg_nil, wg_cons, wg_sub, wp_ok, wp_bad, wp_nox, wb_add, wb_sub, wb_mul, wb_fdiv, wb_mod, wb_pow, wc_eq, wc_ne, wc_lt, wc_le, wc_gt, wc_ge, wc_eqb, wc_neb, wc_eqs, wc_nes, wx_int, wx_lent, wx_lenl, wx_lenr, wz_int, wz_str, wz_bl, wz_non, wz_tup, wz_rol, wz_ref, wz_lst, List.getElem?_cons_zero, List.getElem?_cons_succ, List.set_cons_zero, List.set_cons_succ, List.length_cons, List.length_nil, wi_tup, wi_lst, wi_rol, wx_tuplel, wx_tuplet, wx_listt, wto_some, hdq, hqc, ite_f, ite_tt, decide_eq_true_eq, Bool.not_eq_true', h4.ix1, h4.ix0, wx_len hj, List.length_map]
      refine ite_p (fun hlt => ?_) fun hlt => ?_
      · rw [ws_cons]
        refine ws_asg ?_
        obtain ⟨n', rfl⟩ := Int.eq_ofNat_of_zero_le ha
        have hn' : n' < ns.length := by omega
        have hat : atI (ns.map D.int) (n' : Int) = some (.int ns[n']) := atI_nat (by rw [List.getElem?_map, List.getElem?_eq_getElem hn']; rfl)
        simp only [we_con, we_varm, we_glom, we_bin, we_neg, we_cmp, we_chain, we_and, we_or, we_not, we_ife, we_tup, we_lst, we_ix, we_sl, we_rev, we_call, we_blt, we_isi, we_app, we_lc, wa_nil, wa_cons, wr_nil, wr_cons, wo_none, wo_some, wto_none, wto_some, wt_and, wt_or, wt_not, wt_cmp, wt_chain, wt_tru, wi_seq, wi_range, wi_enum, wg_nm, wg_tup, wg_nil, wg_cons, wg_sub, wp_ok, wp_bad, wp_nox, wb_add, wb_sub, wb_mul, wb_fdiv, wb_mod, wb_pow, wc_eq, wc_ne, wc_lt, wc_le, wc_gt, wc_ge, wc_eqb, wc_neb, wc_eqs, wc_nes, wx_int, wx_lent, wx_lenl, wx_lenr, wz_int, wz_str, wz_bl, wz_non, wz_tup, wz_rol, wz_ref, wz_lst, List.getElem?_cons_zero, List.getElem?_cons_succ, List.set_cons_zero, List.set_cons_succ, List.length_cons, List.length_nil, wi_tup, wi_lst, wi_rol, wx_tuplel, wx_tuplet, wx_listt, wto_some, hdq, hqc, ite_f, ite_tt, decide_eq_true_eq, Bool.not_eq_true', h4.ix1, h4.ix0]
        refine (wixr hj hat).mpr ?_
        simp only [we_con, we_varm, we_glom, we_bin, we_neg, we_cmp, we_chain, we_and, we_or, we_not, we_ife, we_tup, we_lst, we_ix, we_sl, we_rev, we_call, we_blt, we_isi, we_app, we_lc, wa_nil, wa_cons, wr_nil, wr_cons, wo_none, wo_some, wto_none, wto_some, wt_and, wt_or, wt_not, wt_cmp, wt_chain, wt_tru, wi_seq, wi_range, wi_enum, wg_nm, wg_tup, wg_nil, wg_cons, wg_sub, wp_ok, wp_bad, wp_nox, wb_add, wb_sub, wb_mul, wb_fdiv, wb_mod, wb_pow, wc_eq, wc_ne, wc_lt, wc_le, wc_gt, wc_ge, wc_eqb, wc_neb, wc_eqs, wc_nes, wx_int, wx_lent, wx_lenl, wx_lenr, wz_int, wz_str, wz_bl, wz_non, wz_tup, wz_rol, wz_ref, wz_lst, List.getElem?_cons_zero, List.getElem?_cons_succ, List.set_cons_zero, List.set_cons_succ, List.length_cons, List.length_nil, wi_tup, wi_lst, wi_rol, wx_tuplel, wx_tuplet, wx_listt, wto_some, hdq, hqc, ite_f, ite_tt, decide_eq_true_eq, Bool.not_eq_true']
        refine ⟨by decide, ?_⟩
        rw [ws_cons]
        refine ws_asg ?_
        simp only [we_con, we_varm, we_glom, we_bin, we_neg, we_cmp, we_chain, we_and, we_or, we_not, we_ife, we_tup, we_lst, we_ix, we_sl, we_rev, we_call, we_blt, we_isi, we_app, we_lc, wa_nil, wa_cons, wr_nil, wr_cons, wo_none, wo_some, wto_none, wto_some, wt_and, wt_or, wt_not, wt_cmp, wt_chain, wt_tru, wi_seq, wi_range, wi_enum, wg_nm, wg_tup, wg_nil, wg_cons, wg_sub, wp_ok, wp_bad, wp_nox, wb_add, wb_sub, wb_mul, wb_fdiv, wb_mod, wb_pow, wc_eq, wc_ne, wc_lt, wc_le, wc_gt, wc_ge, wc_eqb, wc_neb, wc_eqs, wc_nes, wx_int, wx_lent, wx_lenl, wx_lenr, wz_int, wz_str, wz_bl, wz_non, wz_tup, wz_rol, wz_ref, wz_lst, List.getElem?_cons_zero, List.getElem?_cons_succ, List.set_cons_zero, List.set_cons_succ, List.length_cons, List.length_nil, wi_tup, wi_lst, wi_rol, wx_tuplel, wx_tuplet, wx_listt, wto_some, hdq, hqc, ite_f, ite_tt, decide_eq_true_eq, Bool.not_eq_true', h4.ix1]
        refine h4.sub1 fun h4 => ?_
        refine ws_cut (fun ρ s' => ∃ b, ρ = [some (.ref i), some (.int n), some (.int ns[n']), none] ∧ D4 s i j ns (n' + 1) b c s' ∧ 0 ≤ b) (ws_ife ?_) ?_
        · simp only [we_con, we_varm, we_glom, we_bin, we_neg, we_cmp, we_chain, we_and, we_or, we_not, we_ife, we_tup, we_lst, we_ix, we_sl, we_rev, we_call, we_blt, we_isi, we_app, we_lc, wa_nil, wa_cons, wr_nil, wr_cons, wo_none, wo_some, wto_none, wto_some, wt_and, wt_or, wt_not, wt_cmp, wt_chain, wt_tru, wi_seq, wi_range, wi_enum, wg_nm, wg_tup, wg_nil, wg_cons, wg_sub, wp_ok, wp_bad, wp_nox, wb_add, wb_sub, wb_mul, wb_fdiv, wb_mod, wb_pow, wc_eq, wc_ne, wc_lt, wc_le, wc_gt, wc_ge, wc_eqb, wc_neb, wc_eqs, wc_nes, wx_int, wx_lent, wx_lenl, wx_lenr, wz_int, wz_str, wz_bl, wz_non, wz_tup, wz_rol, wz_ref, wz_lst, List.getElem?_cons_zero, List.getElem?_cons_succ, List.set_cons_zero, List.set_cons_succ, List.length_cons, List.length_nil, wi_tup, wi_lst, wi_rol, wx_tuplel, wx_tuplet, wx_listt, wto_some, hdq, hqc, ite_f, ite_tt, decide_eq_true_eq, Bool.not_eq_true']
          refine ⟨by decide, ite_p (fun hc => ?_) fun hc => ?_⟩
          · rw [ws_cons]
            refine ws_asg ?_
            simp only [we_con, we_varm, we_glom, we_bin, we_neg, we_cmp, we_chain, we_and, we_or, we_not, we_ife, we_tup, we_lst, we_ix, we_sl, we_rev, we_call, we_blt, we_isi, we_app, we_lc, wa_nil, wa_cons, wr_nil, wr_cons, wo_none, wo_some, wto_none, wto_some, wt_and, wt_or, wt_not, wt_cmp, wt_chain, wt_tru, wi_seq, wi_range, wi_enum, wg_nm, wg_tup, wg_nil, wg_cons, wg_sub, wp_ok, wp_bad, wp_nox, wb_add, wb_sub, wb_mul, wb_fdiv, wb_mod, wb_pow, wc_eq, wc_ne, wc_lt, wc_le, wc_gt, wc_ge, wc_eqb, wc_neb, wc_eqs, wc_nes, wx_int, wx_lent, wx_lenl, wx_lenr, wz_int, wz_str, wz_bl, wz_non, wz_tup, wz_rol, wz_ref, wz_lst, List.getElem?_cons_zero, List.getElem?_cons_succ, List.set_cons_zero, List.set_cons_succ, List.length_cons, List.length_nil, wi_tup, wi_lst, wi_rol, wx_tuplel, wx_tuplet, wx_listt, wto_some, hdq, hqc, ite_f, ite_tt, decide_eq_true_eq, Bool.not_eq_true']
            refine h4.sub2 fun h4 => ?_
            rw [ws_nil]
            exact ⟨_, rfl, h4, Int.le_trans (by decide) hc⟩
          · rw [ws_nil]
            exact ⟨_, rfl, h4, hb⟩
        · rintro ρ s2 ⟨b', rfl, h4, hb'⟩
          rw [ws_cons]
          refine ws_asg ?_
          simp only [we_con, we_varm, we_glom, we_bin, we_neg, we_cmp, we_chain, we_and, we_or, we_not, we_ife, we_tup, we_lst, we_ix, we_sl, we_rev, we_call, we_blt, we_isi, we_app, we_lc, wa_nil, wa_cons, wr_nil, wr_cons, wo_none, wo_some, wto_none, wto_some, wt_and, wt_or, wt_not, wt_cmp, wt_chain, wt_tru, wi_seq, wi_range, wi_enum, wg_nm, wg_tup, wg_nil, wg_cons, wg_sub, wp_ok, wp_bad, wp_nox, wb_add, wb_sub, wb_mul, wb_fdiv, wb_mod, wb_pow, wc_eq, wc_ne, wc_lt, wc_le, wc_gt, wc_ge, wc_eqb, wc_neb, wc_eqs, wc_nes, wx_int, wx_lent, wx_lenl, wx_lenr, wz_int, wz_str, wz_bl, wz_non, wz_tup, wz_rol, wz_ref, wz_lst, List.getElem?_cons_zero, List.getElem?_cons_succ, List.set_cons_zero, List.set_cons_succ, List.length_cons, List.length_nil, wi_tup, wi_lst, wi_rol, wx_tuplel, wx_tuplet, wx_listt, wto_some, hdq, hqc, ite_f, ite_tt, decide_eq_true_eq, Bool.not_eq_true', h4.ix3]
          refine ⟨.inr (by decide), by decide, h4.sub3 fun h4 => ?_⟩
          rw [ws_nil]
          exact ⟨_, _, _, _, rfl, h4, by omega, hb'⟩
      · rw [ws_nil]
        exact ⟨_, _, _, _, rfl, h4, ha, hb⟩
    · rw [ws_nil]
      exact ⟨_, _, _, _, rfl, h4, ha, hb⟩
  · rintro ρ s2 ⟨o, a, b, c, rfl, h4, ha, hb⟩
    have fin : ∀ {s' : S} {v a b c : Int}, D4 s i j ns a b c s' → 0 ≤ a → 0 ≤ b → ∃ (v' : Int) (xs : List D), D.int (v.fmod n) = .int v' ∧ s' = s.set i (.lst xs) ∧ 0 ≤ v' ∧ v' < n ∧ Dr s' i := fun {s' v a b c} h4 ha hb => by
      obtain ⟨xs, e⟩ := h4.is
      exact ⟨_, xs, rfl, e, Int.fmod_nonneg_of_pos v (by omega), Int.fmod_lt_of_pos v (by omega), h4.dr ha hb⟩
    refine ws_cut (fun ρ s' => ρ = [some (.ref i), some (.int n), o, none] ∧ s' = s2) (ws_ife ?_) ?_
    · simp only [we_con, we_varm, we_glom, we_bin, we_neg, we_cmp, we_chain, we_and, we_or, we_not, we_ife, we_tup, we_lst, we_ix, we_sl, we_rev, we_call, we_blt, we_isi, we_app, we_lc, wa_nil, wa_cons, wr_nil, wr_cons, wo_none, wo_some, wto_none, wto_some, wt_and, wt_or, wt_not, wt_cmp, wt_chain, wt_tru, wi_seq, wi_range, wi_enum, wg_nm, wg_tup, wg_nil, wg_cons, wg_sub, wp_ok, wp_bad, wp_nox, wb_add, wb_sub, wb_mul, wb_fdiv, wb_mod, wb_pow, wc_eq, wc_ne, wc_lt, wc_le, wc_gt, wc_ge, wc_eqb, wc_neb, wc_eqs, wc_nes, wx_int, wx_lent, wx_lenl, wx_lenr, wz_int, wz_str, wz_bl, wz_non, wz_tup, wz_rol, wz_ref, wz_lst, List.getElem?_cons_zero, List.getElem?_cons_succ, List.set_cons_zero, List.set_cons_succ, List.length_cons, List.length_nil, wi_tup, wi_lst, wi_rol, wx_tuplel, wx_tuplet, wx_listt, wto_some, hdq, hqc, ite_f, ite_tt, decide_eq_true_eq, Bool.not_eq_true', h4.ix2]
      refine ite_p (fun hb0 => ?_) fun hb0 => ?_
      · rw [ws_cons]
        refine ws_asg ?_
        simp only [we_con, we_varm, we_glom, we_bin, we_neg, we_cmp, we_chain, we_and, we_or, we_not, we_ife, we_tup, we_lst, we_ix, we_sl, we_rev, we_call, we_blt, we_isi, we_app, we_lc, wa_nil, wa_cons, wr_nil, wr_cons, wo_none, wo_some, wto_none, wto_some, wt_and, wt_or, wt_not, wt_cmp, wt_chain, wt_tru, wi_seq, wi_range, wi_enum, wg_nm, wg_tup, wg_nil, wg_cons, wg_sub, wp_ok, wp_bad, wp_nox, wb_add, wb_sub, wb_mul, wb_fdiv, wb_mod, wb_pow, wc_eq, wc_ne, wc_lt, wc_le, wc_gt, wc_ge, wc_eqb, wc_neb, wc_eqs, wc_nes, wx_int, wx_lent, wx_lenl, wx_lenr, wz_int, wz_str, wz_bl, wz_non, wz_tup, wz_rol, wz_ref, wz_lst, List.getElem?_cons_zero, List.getElem?_cons_succ, List.set_cons_zero, List.set_cons_succ, List.length_cons, List.length_nil, wi_tup, wi_lst, wi_rol, wx_tuplel, wx_tuplet, wx_listt, wto_some, hdq, hqc, ite_f, ite_tt, decide_eq_true_eq, Bool.not_eq_true', h4.ix2]
        refine ⟨by omega, by decide, ?_⟩
        rw [ws_cons]
        refine ws_asg ?_
        simp only [we_con, we_varm, we_glom, we_bin, we_neg, we_cmp, we_chain, we_and, we_or, we_not, we_ife, we_tup, we_lst, we_ix, we_sl, we_rev, we_call, we_blt, we_isi, we_app, we_lc, wa_nil, wa_cons, wr_nil, wr_cons, wo_none, wo_some, wto_none, wto_some, wt_and, wt_or, wt_not, wt_cmp, wt_chain, wt_tru, wi_seq, wi_range, wi_enum, wg_nm, wg_tup, wg_nil, wg_cons, wg_sub, wp_ok, wp_bad, wp_nox, wb_add, wb_sub, wb_mul, wb_fdiv, wb_mod, wb_pow, wc_eq, wc_ne, wc_lt, wc_le, wc_gt, wc_ge, wc_eqb, wc_neb, wc_eqs, wc_nes, wx_int, wx_lent, wx_lenl, wx_lenr, wz_int, wz_str, wz_bl, wz_non, wz_tup, wz_rol, wz_ref, wz_lst, List.getElem?_cons_zero, List.getElem?_cons_succ, List.set_cons_zero, List.set_cons_succ, List.length_cons, List.length_nil, wi_tup, wi_lst, wi_rol, wx_tuplel, wx_tuplet, wx_listt, wto_some, hdq, hqc, ite_f, ite_tt, decide_eq_true_eq, Bool.not_eq_true', h4.ix2]
        refine ⟨⟨by omega, by omega⟩, h4.sub2 fun h4 => ?_⟩
        rw [ws_cons]
        refine ws_ret ?_
        simp only [we_con, we_varm, we_glom, we_bin, we_neg, we_cmp, we_chain, we_and, we_or, we_not, we_ife, we_tup, we_lst, we_ix, we_sl, we_rev, we_call, we_blt, we_isi, we_app, we_lc, wa_nil, wa_cons, wr_nil, wr_cons, wo_none, wo_some, wto_none, wto_some, wt_and, wt_or, wt_not, wt_cmp, wt_chain, wt_tru, wi_seq, wi_range, wi_enum, wg_nm, wg_tup, wg_nil, wg_cons, wg_sub, wp_ok, wp_bad, wp_nox, wb_add, wb_sub, wb_mul, wb_fdiv, wb_mod, wb_pow, wc_eq, wc_ne, wc_lt, wc_le, wc_gt, wc_ge, wc_eqb, wc_neb, wc_eqs, wc_nes, wx_int, wx_lent, wx_lenl, wx_lenr, wz_int, wz_str, wz_bl, wz_non, wz_tup, wz_rol, wz_ref, wz_lst, List.getElem?_cons_zero, List.getElem?_cons_succ, List.set_cons_zero, List.set_cons_succ, List.length_cons, List.length_nil, wi_tup, wi_lst, wi_rol, wx_tuplel, wx_tuplet, wx_listt, wto_some, hdq, hqc, ite_f, ite_tt, decide_eq_true_eq, Bool.not_eq_true']
        exact fin h4 ha (Int.fdiv_nonneg hb (by omega))
      · rw [ws_nil]
        exact ⟨rfl, rfl⟩
    · rintro ρ s' ⟨rfl, rfl⟩
      rw [ws_cons]
      refine ws_asg ?_
      simp only [we_con, we_varm, we_glom, we_bin, we_neg, we_cmp, we_chain, we_and, we_or, we_not, we_ife, we_tup, we_lst, we_ix, we_sl, we_rev, we_call, we_blt, we_isi, we_app, we_lc, wa_nil, wa_cons, wr_nil, wr_cons, wo_none, wo_some, wto_none, wto_some, wt_and, wt_or, wt_not, wt_cmp, wt_chain, wt_tru, wi_seq, wi_range, wi_enum, wg_nm, wg_tup, wg_nil, wg_cons, wg_sub, wp_ok, wp_bad, wp_nox, wb_add, wb_sub, wb_mul, wb_fdiv, wb_mod, wb_pow, wc_eq, wc_ne, wc_lt, wc_le, wc_gt, wc_ge, wc_eqb, wc_neb, wc_eqs, wc_nes, wx_int, wx_lent, wx_lenl, wx_lenr, wz_int, wz_str, wz_bl, wz_non, wz_tup, wz_rol, wz_ref, wz_lst, List.getElem?_cons_zero, List.getElem?_cons_succ, List.set_cons_zero, List.set_cons_succ, List.length_cons, List.length_nil, wi_tup, wi_lst, wi_rol, wx_tuplel, wx_tuplet, wx_listt, wto_some, hdq, hqc, ite_f, ite_tt, decide_eq_true_eq, Bool.not_eq_true', h4.ix3]
      refine ⟨.inr (by decide), by decide, h4.sub3 fun h4 => ?_⟩
      rw [ws_cons]
      refine ws_ret ?_
      simp only [we_con, we_varm, we_glom, we_bin, we_neg, we_cmp, we_chain, we_and, we_or, we_not, we_ife, we_tup, we_lst, we_ix, we_sl, we_rev, we_call, we_blt, we_isi, we_app, we_lc, wa_nil, wa_cons, wr_nil, wr_cons, wo_none, wo_some, wto_none, wto_some, wt_and, wt_or, wt_not, wt_cmp, wt_chain, wt_tru, wi_seq, wi_range, wi_enum, wg_nm, wg_tup, wg_nil, wg_cons, wg_sub, wp_ok, wp_bad, wp_nox, wb_add, wb_sub, wb_mul, wb_fdiv, wb_mod, wb_pow, wc_eq, wc_ne, wc_lt, wc_le, wc_gt, wc_ge, wc_eqb, wc_neb, wc_eqs, wc_nes, wx_int, wx_lent, wx_lenl, wx_lenr, wz_int, wz_str, wz_bl, wz_non, wz_tup, wz_rol, wz_ref, wz_lst, List.getElem?_cons_zero, List.getElem?_cons_succ, List.set_cons_zero, List.set_cons_succ, List.length_cons, List.length_nil, wi_tup, wi_lst, wi_rol, wx_tuplel, wx_tuplet, wx_listt, wto_some, hdq, hqc, ite_f, ite_tt, decide_eq_true_eq, Bool.not_eq_true', h4.ix3]
      exact ⟨⟨by decide, by decide⟩, by omega, fin h4 ha hb⟩
end L
end DI

set_option Elab.async false
set_option linter.all false
set_option maxRecDepth 100000
set_option maxHeartbeats 4000000
/-! the plain law, B: the law's small defs. -/
namespace DI.L
open PySem L2
theorem lt62 {n : Nat} (h : n ≤ 1000000) : n < 2 ^ 62 := Nat.lt_of_le_of_lt h (by decide)
theorem leL {n : Nat} (h : n ≤ 1000000) : n ≤ sizeLine := Nat.le_trans h (by decide)
theorem c_whole (k : Nat) (d : D) (s : S) : cl (k+1) "is_whole" [d] s = runF (cfg.q k) 1 d_is_whole.body [d] s := by kernel_rfl
theorem c_lwhole (k : Nat) (d : D) (s : S) : cl (k+1) "_law_whole" [d] s = runF (cfg.q k) 1 d__law_whole.body [d] s := by kernel_rfl
theorem c_same (k : Nat) (a b : D) (s : S) : cl (k+1) "_law_same" [a, b] s = runF (cfg.q k) 3 d__law_same.body [a, b] s := by kernel_rfl
theorem c_draws (k : Nat) (a : D) (s : S) : cl (k+1) "_law_draws" [a] s = runF (cfg.q k) 1 d__law_draws.body [a] s := by kernel_rfl
theorem c_pick (k : Nat) (a b : D) (s : S) : cl (k+1) "_law_pick" [a, b] s = runF (cfg.q k) 2 d__law_pick.body [a, b] s := by kernel_rfl
theorem s_whole {n : Nat} {k : Nat} {d : D} {s : S} (h : d.pl n = true) : cl (k+1) "is_whole" [d] s = .ok (.bl d.isInt) s := by
  rw [c_whole]
  cases d <;> first | rfl | exact nomatch h
theorem s_lwhole {n : Nat} {k : Nat} {d : D} {s : S} (h : d.pl n = true) : cl (k+1) "_law_whole" [d] s = .ok (.bl d.isInt) s := by
  rw [c_lwhole]
  cases d <;> first | rfl | exact nomatch h
theorem s_draws {k : Nat} {ns : List Int} {s : S} : Wp (cl (k+1) "_law_draws" [.rol (ns.map .int)] s) fun d s' => d = .lst [.ref s.length, .int 0, .int 0, .int 1] ∧ s' = s ++ [.lst (ns.map .int)] := by
  rw [c_draws]
  exact .of rfl ⟨rfl, rfl⟩
theorem same_flat {k : Nat} {a e : D} {s : S} (ha : ∀ xs, a ≠ .tup xs) (he : ∀ xs, e ≠ .tup xs) {n : Nat} (pa : a.pl n = true) (pe : e.pl n = true) : cl (k+1) "_law_same" [a, e] s = .ok (.bl (D.same a e)) s := by
  rw [c_same]
  have key : ∀ {b : Bool}, Wp (runF (cfg.q k) 3 d__law_same.body [a, e] s) (fun d s' => d = .bl b ∧ s' = s) → runF (cfg.q k) 3 d__law_same.body [a, e] s = .ok (.bl b) s := fun h => by
    obtain ⟨d, s', e, rfl, rfl⟩ := h.eq
    exact e
  cases a with
  | tup xs => exact (ha xs rfl).elim
  | non => cases e <;> first | exact (he _ rfl).elim | rfl | exact nomatch pe
  | bl x =>
    cases e with
    | tup xs => exact (he xs rfl).elim
    | bl y => cases x <;> cases y <;> rfl
    | _ => first | rfl | exact nomatch pe
  | int x =>
    cases e with
    | tup xs => exact (he xs rfl).elim
    | int y =>
      refine key (wf_run ?_)
      show Ws (runSs (cfg.q k) d__law_same.body [some (.int x), some (.int y), none] s) _
      unfold D.same
      refine ws_skip (.of rfl ⟨rfl, rfl⟩) ?_
      refine ws_skip (.of rfl ⟨rfl, rfl⟩) ?_
      refine ws_skip (.of rfl ⟨rfl, rfl⟩) ?_
      refine ws_skip (.of rfl ⟨rfl, rfl⟩) ?_
      rw [ws_cons]
      refine ws_ret ?_
      simp only [we_con, we_varm, we_glom, we_bin, we_neg, we_cmp, we_chain, we_and, we_or, we_not, we_ife, we_tup, we_lst, we_ix, we_sl, we_rev, we_call, we_blt, we_isi, we_app, we_lc, wa_nil, wa_cons, wr_nil, wr_cons, wo_none, wo_some, wto_none, wto_some, wt_and, wt_or, wt_not, wt_cmp, wt_chain, wt_tru, wi_seq, wi_range, wi_enum, wg_nm, wg_tup, wg_nil, wg_cons, wg_sub, wp_ok, wp_bad, wp_nox, wb_add, wb_sub, wb_mul, wb_fdiv, wb_mod, wb_pow, wc_eq, wc_ne, wc_lt, wc_le, wc_gt, wc_ge, wc_eqb, wc_neb, wc_eqs, wc_nes, wx_int, wx_lent, wx_lenl, wx_lenr, wz_int, wz_str, wz_bl, wz_non, wz_tup, wz_rol, wz_ref, wz_lst, List.getElem?_cons_zero, List.getElem?_cons_succ, List.set_cons_zero, List.set_cons_succ, List.length_cons, List.length_nil, wi_tup, wi_lst, wi_rol, wx_tuplel, wx_tuplet, wx_listt, wto_some, hdq, hqc, ite_f, ite_tt, decide_eq_true_eq, Bool.not_eq_true']
      refine ⟨true, rfl, true, rfl, true, rfl, true, rfl, ?_⟩
      rw [if_pos rfl]
      exact ⟨congrArg D.bl (by rw [Bool.eq_iff_iff]; simp), trivial⟩
    | _ => first | rfl | exact nomatch pe
  | str x =>
    cases e with
    | tup xs => exact (he xs rfl).elim
    | str y =>
      refine key (wf_run ?_)
      show Ws (runSs (cfg.q k) d__law_same.body [some (.str x), some (.str y), none] s) _
      unfold D.same
      refine ws_skip (.of rfl ⟨rfl, rfl⟩) ?_
      refine ws_skip (.of rfl ⟨rfl, rfl⟩) ?_
      refine ws_skip (.of rfl ⟨rfl, rfl⟩) ?_
      rw [ws_cons]
      refine ws_ife ?_
      simp only [we_con, we_varm, we_glom, we_bin, we_neg, we_cmp, we_chain, we_and, we_or, we_not, we_ife, we_tup, we_lst, we_ix, we_sl, we_rev, we_call, we_blt, we_isi, we_app, we_lc, wa_nil, wa_cons, wr_nil, wr_cons, wo_none, wo_some, wto_none, wto_some, wt_and, wt_or, wt_not, wt_cmp, wt_chain, wt_tru, wi_seq, wi_range, wi_enum, wg_nm, wg_tup, wg_nil, wg_cons, wg_sub, wp_ok, wp_bad, wp_nox, wb_add, wb_sub, wb_mul, wb_fdiv, wb_mod, wb_pow, wc_eq, wc_ne, wc_lt, wc_le, wc_gt, wc_ge, wc_eqb, wc_neb, wc_eqs, wc_nes, wx_int, wx_lent, wx_lenl, wx_lenr, wz_int, wz_str, wz_bl, wz_non, wz_tup, wz_rol, wz_ref, wz_lst, List.getElem?_cons_zero, List.getElem?_cons_succ, List.set_cons_zero, List.set_cons_succ, List.length_cons, List.length_nil, wi_tup, wi_lst, wi_rol, wx_tuplel, wx_tuplet, wx_listt, wto_some, hdq, hqc, ite_f, ite_tt, decide_eq_true_eq, Bool.not_eq_true']
      refine ⟨true, rfl, true, rfl, ?_⟩
      rw [if_pos rfl, if_pos trivial, ws_cons]
      refine ws_ret ?_
      simp only [we_con, we_varm, we_glom, we_bin, we_neg, we_cmp, we_chain, we_and, we_or, we_not, we_ife, we_tup, we_lst, we_ix, we_sl, we_rev, we_call, we_blt, we_isi, we_app, we_lc, wa_nil, wa_cons, wr_nil, wr_cons, wo_none, wo_some, wto_none, wto_some, wt_and, wt_or, wt_not, wt_cmp, wt_chain, wt_tru, wi_seq, wi_range, wi_enum, wg_nm, wg_tup, wg_nil, wg_cons, wg_sub, wp_ok, wp_bad, wp_nox, wb_add, wb_sub, wb_mul, wb_fdiv, wb_mod, wb_pow, wc_eq, wc_ne, wc_lt, wc_le, wc_gt, wc_ge, wc_eqb, wc_neb, wc_eqs, wc_nes, wx_int, wx_lent, wx_lenl, wx_lenr, wz_int, wz_str, wz_bl, wz_non, wz_tup, wz_rol, wz_ref, wz_lst, List.getElem?_cons_zero, List.getElem?_cons_succ, List.set_cons_zero, List.set_cons_succ, List.length_cons, List.length_nil, wi_tup, wi_lst, wi_rol, wx_tuplel, wx_tuplet, wx_listt, wto_some, hdq, hqc, ite_f, ite_tt, decide_eq_true_eq, Bool.not_eq_true']
      refine ⟨true, rfl, true, rfl, ?_⟩
      rw [if_pos rfl]
      refine ⟨true, rfl, true, rfl, ?_⟩
      rw [if_pos rfl]
      exact ⟨trivial, trivial⟩
    | _ => first | rfl | exact nomatch pe
  | _ => exact nomatch pa
theorem same_tup {n : Nat} (hn : n ≤ 1000) {k : Nat} {xs ys : List D} {s : S} (px : (D.tup xs).pl n = true) (py : (D.tup ys).pl n = true)
    (ih : ∀ (a e : D) (s : S), a ∈ xs → e ∈ ys → Wp (cl k "_law_same" [a, e] s) fun d s' => d = .bl (D.same a e) ∧ s' = s) : Wp (cl (k+1) "_law_same" [.tup xs, .tup ys] s) fun d s' => d = .bl (D.same (.tup xs) (.tup ys)) ∧ s' = s := by
  rw [c_same]
  refine wf_run ?_
  show Ws (runSs (cfg.q k) d__law_same.body [some (.tup xs), some (.tup ys), none] s) _
  unfold d__law_same
  refine ws_take (.of rfl ⟨rfl, rfl⟩) ?_
  refine ws_skip (.of rfl ⟨rfl, rfl⟩) ?_
  have lx := pl_tup px
  have ly := pl_tup py
  by_cases hl : xs.length = ys.length
  · refine ws_skip ?_ ?_
    · simp only [we_con, we_varm, we_glom, we_bin, we_neg, we_cmp, we_chain, we_and, we_or, we_not, we_ife, we_tup, we_lst, we_ix, we_sl, we_rev, we_call, we_blt, we_isi, we_app, we_lc, wa_nil, wa_cons, wr_nil, wr_cons, wo_none, wo_some, wto_none, wto_some, wt_and, wt_or, wt_not, wt_cmp, wt_chain, wt_tru, wi_seq, wi_range, wi_enum, wg_nm, wg_tup, wg_nil, wg_cons, wg_sub, wp_ok, wp_bad, wp_nox, wb_add, wb_sub, wb_mul, wb_fdiv, wb_mod, wb_pow, wc_eq, wc_ne, wc_lt, wc_le, wc_gt, wc_ge, wc_eqb, wc_neb, wc_eqs, wc_nes, wx_int, wx_lent, wx_lenl, wx_lenr, wz_int, wz_str, wz_bl, wz_non, wz_tup, wz_rol, wz_ref, wz_lst, List.getElem?_cons_zero, List.getElem?_cons_succ, List.set_cons_zero, List.set_cons_succ, List.length_cons, List.length_nil, wi_tup, wi_lst, wi_rol, wx_tuplel, wx_tuplet, wx_listt, wto_some, hdq, hqc, ite_f, ite_tt, decide_eq_true_eq, Bool.not_eq_true']
      rw [hl]
      simp
    refine ws_rets ?_
    simp only [we_con, we_varm, we_glom, we_bin, we_neg, we_cmp, we_chain, we_and, we_or, we_not, we_ife, we_tup, we_lst, we_ix, we_sl, we_rev, we_call, we_blt, we_isi, we_app, we_lc, wa_nil, wa_cons, wr_nil, wr_cons, wo_none, wo_some, wto_none, wto_some, wt_and, wt_or, wt_not, wt_cmp, wt_chain, wt_tru, wi_seq, wi_range, wi_enum, wg_nm, wg_tup, wg_nil, wg_cons, wg_sub, wp_ok, wp_bad, wp_nox, wb_add, wb_sub, wb_mul, wb_fdiv, wb_mod, wb_pow, wc_eq, wc_ne, wc_lt, wc_le, wc_gt, wc_ge, wc_eqb, wc_neb, wc_eqs, wc_nes, wx_int, wx_lent, wx_lenl, wx_lenr, wz_int, wz_str, wz_bl, wz_non, wz_tup, wz_rol, wz_ref, wz_lst, List.getElem?_cons_zero, List.getElem?_cons_succ, List.set_cons_zero, List.set_cons_succ, List.length_cons, List.length_nil, wi_tup, wi_lst, wi_rol, wx_tuplel, wx_tuplet, wx_listt, wto_some, hdq, hqc, ite_f, ite_tt, decide_eq_true_eq, Bool.not_eq_true']
    rw [wri_1 (n := ys.length) (lt62 (by omega))]
    refine wl_rng (fun j => if D.same (xs.getD j .non) (ys.getD j .non) = true then none else some (.int (j : Nat))) rfl (leL (by omega)) (fun j hj => ?_) ?_
    · rw [wt_turn]
      have hx : xs[j]? = some xs[j] := List.getElem?_eq_getElem (by omega)
      have hy : ys[j]? = some ys[j] := List.getElem?_eq_getElem hj
      simp only [we_con, we_varm, we_glom, we_bin, we_neg, we_cmp, we_chain, we_and, we_or, we_not, we_ife, we_tup, we_lst, we_ix, we_sl, we_rev, we_call, we_blt, we_isi, we_app, we_lc, wa_nil, wa_cons, wr_nil, wr_cons, wo_none, wo_some, wto_none, wto_some, wt_and, wt_or, wt_not, wt_cmp, wt_chain, wt_tru, wi_seq, wi_range, wi_enum, wg_nm, wg_tup, wg_nil, wg_cons, wg_sub, wp_ok, wp_bad, wp_nox, wb_add, wb_sub, wb_mul, wb_fdiv, wb_mod, wb_pow, wc_eq, wc_ne, wc_lt, wc_le, wc_gt, wc_ge, wc_eqb, wc_neb, wc_eqs, wc_nes, wx_int, wx_lent, wx_lenl, wx_lenr, wz_int, wz_str, wz_bl, wz_non, wz_tup, wz_rol, wz_ref, wz_lst, List.getElem?_cons_zero, List.getElem?_cons_succ, List.set_cons_zero, List.set_cons_succ, List.length_cons, List.length_nil, wi_tup, wi_lst, wi_rol, wx_tuplel, wx_tuplet, wx_listt, wto_some, hdq, hqc, ite_f, ite_tt, decide_eq_true_eq, Bool.not_eq_true', wip, List.map_cons, List.map_nil, wixt hx, wixt hy]
      refine ⟨⟨by decide, trivial⟩, ?_⟩
      rw [wz_shr (pl_shr (lx.2 _ (List.getElem_mem (by omega)))), wz_shr (pl_shr (ly.2 _ (List.getElem_mem hj)))]
      refine (ih _ _ s (List.getElem_mem (by omega)) (List.getElem_mem hj)).imp ?_
      rintro d s1 ⟨rfl, rfl⟩
      refine ⟨_, rfl, ?_⟩
      have ex : xs.getD j .non = xs[j] := by rw [List.getD_eq_getElem?_getD, hx]; rfl
      have ey : ys.getD j .non = ys[j] := by rw [List.getD_eq_getElem?_getD, hy]; rfl
      rw [ex, ey]
      cases hs : D.same xs[j] ys[j]
      · rw [if_pos rfl]; exact ⟨rfl, rfl⟩
      · rw [if_neg (by simp)]; exact ⟨rfl, rfl⟩
    · simp only [we_con, we_varm, we_glom, we_bin, we_neg, we_cmp, we_chain, we_and, we_or, we_not, we_ife, we_tup, we_lst, we_ix, we_sl, we_rev, we_call, we_blt, we_isi, we_app, we_lc, wa_nil, wa_cons, wr_nil, wr_cons, wo_none, wo_some, wto_none, wto_some, wt_and, wt_or, wt_not, wt_cmp, wt_chain, wt_tru, wi_seq, wi_range, wi_enum, wg_nm, wg_tup, wg_nil, wg_cons, wg_sub, wp_ok, wp_bad, wp_nox, wb_add, wb_sub, wb_mul, wb_fdiv, wb_mod, wb_pow, wc_eq, wc_ne, wc_lt, wc_le, wc_gt, wc_ge, wc_eqb, wc_neb, wc_eqs, wc_nes, wx_int, wx_lent, wx_lenl, wx_lenr, wz_int, wz_str, wz_bl, wz_non, wz_tup, wz_rol, wz_ref, wz_lst, List.getElem?_cons_zero, List.getElem?_cons_succ, List.set_cons_zero, List.set_cons_succ, List.length_cons, List.length_nil, wi_tup, wi_lst, wi_rol, wx_tuplel, wx_tuplet, wx_listt, wto_some, hdq, hqc, ite_f, ite_tt, decide_eq_true_eq, Bool.not_eq_true']
      refine ⟨congrArg D.bl ?_, trivial⟩
      show _ = D.sames xs ys
      rw [Bool.eq_iff_iff, decide_eq_true_eq, sames_ix hl]
      constructor
      · intro h j x y hx hy
        have hj : j < ys.length := (List.getElem?_eq_some_iff.mp hy).1
        have h0 : (List.range ys.length).filterMap (fun j => if D.same (xs.getD j .non) (ys.getD j .non) = true then none else some (D.int (j : Nat))) = [] := List.eq_nil_of_length_eq_zero (by omega)
        have := List.filterMap_eq_nil_iff.mp h0 j (List.mem_range.mpr hj)
        rw [List.getD_eq_getElem?_getD, List.getD_eq_getElem?_getD, hx, hy] at this
        by_cases hs : D.same x y = true
        · exact hs
        · rw [show (some x).getD D.non = x from rfl, show (some y).getD D.non = y from rfl, if_neg hs] at this
          cases this
      · intro h
        have h0 : (List.range ys.length).filterMap (fun j => if D.same (xs.getD j .non) (ys.getD j .non) = true then none else some (D.int (j : Nat))) = [] := by
          refine List.filterMap_eq_nil_iff.mpr fun j hj => ?_
          have hj := List.mem_range.mp hj
          have hx : xs[j]? = some xs[j] := List.getElem?_eq_getElem (by omega)
          have hy : ys[j]? = some ys[j] := List.getElem?_eq_getElem hj
          rw [List.getD_eq_getElem?_getD, List.getD_eq_getElem?_getD, hx, hy]
          exact if_pos (h j _ _ hx hy)
        rw [h0]; rfl
  · refine ws_take ?_ ?_
    · simp only [we_con, we_varm, we_glom, we_bin, we_neg, we_cmp, we_chain, we_and, we_or, we_not, we_ife, we_tup, we_lst, we_ix, we_sl, we_rev, we_call, we_blt, we_isi, we_app, we_lc, wa_nil, wa_cons, wr_nil, wr_cons, wo_none, wo_some, wto_none, wto_some, wt_and, wt_or, wt_not, wt_cmp, wt_chain, wt_tru, wi_seq, wi_range, wi_enum, wg_nm, wg_tup, wg_nil, wg_cons, wg_sub, wp_ok, wp_bad, wp_nox, wb_add, wb_sub, wb_mul, wb_fdiv, wb_mod, wb_pow, wc_eq, wc_ne, wc_lt, wc_le, wc_gt, wc_ge, wc_eqb, wc_neb, wc_eqs, wc_nes, wx_int, wx_lent, wx_lenl, wx_lenr, wz_int, wz_str, wz_bl, wz_non, wz_tup, wz_rol, wz_ref, wz_lst, List.getElem?_cons_zero, List.getElem?_cons_succ, List.set_cons_zero, List.set_cons_succ, List.length_cons, List.length_nil, wi_tup, wi_lst, wi_rol, wx_tuplel, wx_tuplet, wx_listt, wto_some, hdq, hqc, ite_f, ite_tt, decide_eq_true_eq, Bool.not_eq_true']
      simp; omega
    refine ws_rets ?_
    simp only [we_con, we_varm, we_glom, we_bin, we_neg, we_cmp, we_chain, we_and, we_or, we_not, we_ife, we_tup, we_lst, we_ix, we_sl, we_rev, we_call, we_blt, we_isi, we_app, we_lc, wa_nil, wa_cons, wr_nil, wr_cons, wo_none, wo_some, wto_none, wto_some, wt_and, wt_or, wt_not, wt_cmp, wt_chain, wt_tru, wi_seq, wi_range, wi_enum, wg_nm, wg_tup, wg_nil, wg_cons, wg_sub, wp_ok, wp_bad, wp_nox, wb_add, wb_sub, wb_mul, wb_fdiv, wb_mod, wb_pow, wc_eq, wc_ne, wc_lt, wc_le, wc_gt, wc_ge, wc_eqb, wc_neb, wc_eqs, wc_nes, wx_int, wx_lent, wx_lenl, wx_lenr, wz_int, wz_str, wz_bl, wz_non, wz_tup, wz_rol, wz_ref, wz_lst, List.getElem?_cons_zero, List.getElem?_cons_succ, List.set_cons_zero, List.set_cons_succ, List.length_cons, List.length_nil, wi_tup, wi_lst, wi_rol, wx_tuplel, wx_tuplet, wx_listt, wto_some, hdq, hqc, ite_f, ite_tt, decide_eq_true_eq, Bool.not_eq_true']
    refine ⟨congrArg D.bl ?_, trivial⟩
    show _ = D.sames xs ys
    cases h : D.sames xs ys with
    | false => rfl
    | true =>
      exfalso
      have key : ∀ {xs ys : List D}, D.sames xs ys = true → xs.length = ys.length := by
        intro xs
        induction xs with
        | nil => intro ys h; cases ys with
          | nil => rfl
          | cons _ _ => cases h
        | cons x xs ih => intro ys h; cases ys with
          | nil => cases h
          | cons y ys => unfold D.sames at h; rw [Bool.and_eq_true] at h; simp [ih h.2]
      exact hl (key h)
/-- two of them compared -/
theorem s_same {n : Nat} (hn : n ≤ 1000) : ∀ (k : Nat) (a e : D) (s : S), e.dep ≤ k → a.pl n = true → e.pl n = true → Wp (cl (k+1) "_law_same" [a, e] s) fun d s' => d = .bl (D.same a e) ∧ s' = s := by
  have other : ∀ (k : Nat) (a e : D) (s : S), (∀ xs ys, ¬ (a = .tup xs ∧ e = .tup ys)) → a.pl n = true → e.pl n = true → Wp (cl (k+1) "_law_same" [a, e] s) fun d s' => d = .bl (D.same a e) ∧ s' = s := by
    intro k a e s hne pa pe
    by_cases ha : ∃ xs, a = .tup xs
    · obtain ⟨xs, rfl⟩ := ha
      refine .of (a := .bl (D.same (.tup xs) e)) (s' := s) ?_ ⟨rfl, rfl⟩
      rw [c_same]
      cases e with
      | tup ys => exact (hne _ _ ⟨rfl, rfl⟩).elim
      | _ => first | rfl | exact nomatch pe
    · by_cases he : ∃ ys, e = .tup ys
      · obtain ⟨ys, rfl⟩ := he
        refine .of (a := .bl (D.same a (.tup ys))) (s' := s) ?_ ⟨rfl, rfl⟩
        rw [c_same]
        cases a with
        | tup xs => exact (hne _ _ ⟨rfl, rfl⟩).elim
        | _ => first | rfl | exact nomatch pa
      · exact .of (same_flat (fun xs h => ha ⟨xs, h⟩) (fun xs h => he ⟨xs, h⟩) pa pe) ⟨rfl, rfl⟩
  intro k
  induction k with
  | zero =>
    intro a e s hd pa pe
    refine other 0 a e s (fun xs ys h => ?_) pa pe
    obtain ⟨_, rfl⟩ := h
    unfold D.dep at hd; omega
  | succ k ih =>
    intro a e s hd pa pe
    by_cases h : ∃ xs ys, a = .tup xs ∧ e = .tup ys
    · obtain ⟨xs, ys, rfl, rfl⟩ := h
      exact same_tup hn pa pe fun a e s ha he => ih a e s (by have := dep_mem he; omega) ((pl_tup pa).2 _ ha) ((pl_tup pe).2 _ he)
    · exact other (k + 1) a e s (fun xs ys z => h ⟨xs, ys, z⟩) pa pe
end DI.L

set_option Elab.async false
set_option linter.all false
set_option maxRecDepth 100000
set_option maxHeartbeats 4000000
/-! the plain law, C: rows, the table. -/
namespace DI.L
open PySem L2
/-- a row; a list of rows -/
def dRow (r : Nat × Nat) : D := .tup [.int (r.1 : Nat), .int (r.2 : Nat)]
def dRows (rows : List (Nat × Nat)) : D := .tup (rows.map dRow)
structure Good (rows : List (Nat × Nat)) (room : Nat) : Prop where
  few : rows.length ≤ 7
  big : ∀ r ∈ rows, 1 ≤ r.1
  room : room ≤ 17
theorem c_look (k : Nat) (a b : D) (s : S) : cl (k+1) "look_at_worths" [a, b] s = runF (cfg.q k) 3 d_look_at_worths.body [a, b] s := by kernel_rfl
theorem g_words {k : Nat} : (cfg.q k).gl "MOST_WORDS" = some (.int 400) := by kernel_rfl
theorem g_rows {k : Nat} : (cfg.q k).gl "MOST_ROWS" = some (.int 20) := by kernel_rfl
theorem w_whole {k : Nat} {i : Int} {s : S} {P : D → S → Prop} : Wp (callN cfg.ds cfg.q0 (k+1) "is_whole" [.int i] s) P = P (.bl true) s := by
  rw [show callN cfg.ds cfg.q0 (k+1) "is_whole" [.int i] s = .ok (.bl true) s from s_whole (n := 0) rfl, wp_ok]
theorem s_look {k : Nat} {rows : List (Nat × Nat)} {room : Nat} {s : S} (g : Good rows room) : Wp (cl (k+2) "look_at_worths" [dRows rows, .int (room : Nat)] s) fun d s' => d = .non ∧ s' = s := by
  rw [c_look]
  refine wf_run ?_
  show Ws (runSs (cfg.q (k+1)) d_look_at_worths.body [some (.tup (rows.map dRow)), some (.int (room : Nat)), none] s) _
  unfold d_look_at_worths
  refine ws_skip ?_ ?_
  · simp only [we_con, we_varm, we_glom, we_bin, we_neg, we_cmp, we_chain, we_and, we_or, we_not, we_ife, we_tup, we_lst, we_ix, we_sl, we_rev, we_call, we_blt, we_isi, we_app, we_lc, wa_nil, wa_cons, wr_nil, wr_cons, wo_none, wo_some, wto_none, wto_some, wt_and, wt_or, wt_not, wt_cmp, wt_chain, wt_tru, wi_seq, wi_range, wi_enum, wg_nm, wg_tup, wg_nil, wg_cons, wg_sub, wp_ok, wp_bad, wp_nox, wb_add, wb_sub, wb_mul, wb_fdiv, wb_mod, wb_pow, wc_eq, wc_ne, wc_lt, wc_le, wc_gt, wc_ge, wc_eqb, wc_neb, wc_eqs, wc_nes, wx_int, wx_lent, wx_lenl, wx_lenr, wz_int, wz_str, wz_bl, wz_non, wz_tup, wz_rol, wz_ref, wz_lst, List.getElem?_cons_zero, List.getElem?_cons_succ, List.set_cons_zero, List.set_cons_succ, List.length_cons, List.length_nil, wi_tup, wi_lst, wi_rol, wx_tuplel, wx_tuplet, wx_listt, wto_some, hdq, hqc, ite_f, ite_tt, decide_eq_true_eq, Bool.not_eq_true', wisT, ex_bl, ex_int, ite_tf, ite_ff, wix0, wix1, wix2, Nat.reduceAdd, Nat.reduceLT, sl0, sl1, sl2, sl3, sl4, sl5, sl6, sl10, if_true, true_and, and_true, List.map_cons, List.map_nil, wip, wt_turn, it_non_int, it_non_bool, it_non_str, it_non_tuple, it_non_list, it_non_dict, it_bl_int, it_bl_bool, it_bl_str, it_bl_tuple, it_bl_list, it_bl_dict, it_int_int, it_int_bool, it_int_str, it_int_tuple, it_int_list, it_int_dict, it_str_int, it_str_bool, it_str_str, it_str_tuple, it_str_list, it_str_dict, it_tup_int, it_tup_bool, it_tup_str, it_tup_tuple, it_tup_list, it_tup_dict, it_lst_int, it_lst_bool, it_lst_str, it_lst_tuple, it_lst_list, it_lst_dict, it_rol_int, it_rol_bool, it_rol_str, it_rol_tuple, it_rol_list, it_rol_dict]
    refine wl_map (fun _ => .bl true) rfl (leL (by have := g.few; simp; omega)) (fun x hx => ?_) ?_
    · obtain ⟨r, hr, rfl⟩ := List.mem_map.mp hx
      simp only [we_con, we_varm, we_glom, we_bin, we_neg, we_cmp, we_chain, we_and, we_or, we_not, we_ife, we_tup, we_lst, we_ix, we_sl, we_rev, we_call, we_blt, we_isi, we_app, we_lc, wa_nil, wa_cons, wr_nil, wr_cons, wo_none, wo_some, wto_none, wto_some, wt_and, wt_or, wt_not, wt_cmp, wt_chain, wt_tru, wi_seq, wi_range, wi_enum, wg_nm, wg_tup, wg_nil, wg_cons, wg_sub, wp_ok, wp_bad, wp_nox, wb_add, wb_sub, wb_mul, wb_fdiv, wb_mod, wb_pow, wc_eq, wc_ne, wc_lt, wc_le, wc_gt, wc_ge, wc_eqb, wc_neb, wc_eqs, wc_nes, wx_int, wx_lent, wx_lenl, wx_lenr, wz_int, wz_str, wz_bl, wz_non, wz_tup, wz_rol, wz_ref, wz_lst, List.getElem?_cons_zero, List.getElem?_cons_succ, List.set_cons_zero, List.set_cons_succ, List.length_cons, List.length_nil, wi_tup, wi_lst, wi_rol, wx_tuplel, wx_tuplet, wx_listt, wto_some, hdq, hqc, ite_f, ite_tt, decide_eq_true_eq, Bool.not_eq_true', wisT, ex_bl, ex_int, ite_tf, ite_ff, wix0, wix1, wix2, Nat.reduceAdd, Nat.reduceLT, sl0, sl1, sl2, sl3, sl4, sl5, sl6, sl10, if_true, true_and, and_true, List.map_cons, List.map_nil, wip, wt_turn, it_non_int, it_non_bool, it_non_str, it_non_tuple, it_non_list, it_non_dict, it_bl_int, it_bl_bool, it_bl_str, it_bl_tuple, it_bl_list, it_bl_dict, it_int_int, it_int_bool, it_int_str, it_int_tuple, it_int_list, it_int_dict, it_str_int, it_str_bool, it_str_str, it_str_tuple, it_str_list, it_str_dict, it_tup_int, it_tup_bool, it_tup_str, it_tup_tuple, it_tup_list, it_tup_dict, it_lst_int, it_lst_bool, it_lst_str, it_lst_tuple, it_lst_list, it_lst_dict, it_rol_int, it_rol_bool, it_rol_str, it_rol_tuple, it_rol_list, it_rol_dict, dRow]
      simp
    · rw [map_tt, wx_all, all_rep]
      simp
  refine ws_skip ?_ ?_
  · simp only [we_con, we_varm, we_glom, we_bin, we_neg, we_cmp, we_chain, we_and, we_or, we_not, we_ife, we_tup, we_lst, we_ix, we_sl, we_rev, we_call, we_blt, we_isi, we_app, we_lc, wa_nil, wa_cons, wr_nil, wr_cons, wo_none, wo_some, wto_none, wto_some, wt_and, wt_or, wt_not, wt_cmp, wt_chain, wt_tru, wi_seq, wi_range, wi_enum, wg_nm, wg_tup, wg_nil, wg_cons, wg_sub, wp_ok, wp_bad, wp_nox, wb_add, wb_sub, wb_mul, wb_fdiv, wb_mod, wb_pow, wc_eq, wc_ne, wc_lt, wc_le, wc_gt, wc_ge, wc_eqb, wc_neb, wc_eqs, wc_nes, wx_int, wx_lent, wx_lenl, wx_lenr, wz_int, wz_str, wz_bl, wz_non, wz_tup, wz_rol, wz_ref, wz_lst, List.getElem?_cons_zero, List.getElem?_cons_succ, List.set_cons_zero, List.set_cons_succ, List.length_cons, List.length_nil, wi_tup, wi_lst, wi_rol, wx_tuplel, wx_tuplet, wx_listt, wto_some, hdq, hqc, ite_f, ite_tt, decide_eq_true_eq, Bool.not_eq_true', wisT, ex_bl, ex_int, ite_tf, ite_ff, wix0, wix1, wix2, Nat.reduceAdd, Nat.reduceLT, sl0, sl1, sl2, sl3, sl4, sl5, sl6, sl10, if_true, true_and, and_true, List.map_cons, List.map_nil, wip, wt_turn, it_non_int, it_non_bool, it_non_str, it_non_tuple, it_non_list, it_non_dict, it_bl_int, it_bl_bool, it_bl_str, it_bl_tuple, it_bl_list, it_bl_dict, it_int_int, it_int_bool, it_int_str, it_int_tuple, it_int_list, it_int_dict, it_str_int, it_str_bool, it_str_str, it_str_tuple, it_str_list, it_str_dict, it_tup_int, it_tup_bool, it_tup_str, it_tup_tuple, it_tup_list, it_tup_dict, it_lst_int, it_lst_bool, it_lst_str, it_lst_tuple, it_lst_list, it_lst_dict, it_rol_int, it_rol_bool, it_rol_str, it_rol_tuple, it_rol_list, it_rol_dict]
    refine wl_map (fun _ => .bl true) rfl (leL (by have := g.few; simp; omega)) (fun x hx => ?_) ?_
    · obtain ⟨r, hr, rfl⟩ := List.mem_map.mp hx
      have := g.big r hr
      simp only [we_con, we_varm, we_glom, we_bin, we_neg, we_cmp, we_chain, we_and, we_or, we_not, we_ife, we_tup, we_lst, we_ix, we_sl, we_rev, we_call, we_blt, we_isi, we_app, we_lc, wa_nil, wa_cons, wr_nil, wr_cons, wo_none, wo_some, wto_none, wto_some, wt_and, wt_or, wt_not, wt_cmp, wt_chain, wt_tru, wi_seq, wi_range, wi_enum, wg_nm, wg_tup, wg_nil, wg_cons, wg_sub, wp_ok, wp_bad, wp_nox, wb_add, wb_sub, wb_mul, wb_fdiv, wb_mod, wb_pow, wc_eq, wc_ne, wc_lt, wc_le, wc_gt, wc_ge, wc_eqb, wc_neb, wc_eqs, wc_nes, wx_int, wx_lent, wx_lenl, wx_lenr, wz_int, wz_str, wz_bl, wz_non, wz_tup, wz_rol, wz_ref, wz_lst, List.getElem?_cons_zero, List.getElem?_cons_succ, List.set_cons_zero, List.set_cons_succ, List.length_cons, List.length_nil, wi_tup, wi_lst, wi_rol, wx_tuplel, wx_tuplet, wx_listt, wto_some, hdq, hqc, ite_f, ite_tt, decide_eq_true_eq, Bool.not_eq_true', wisT, ex_bl, ex_int, ite_tf, ite_ff, wix0, wix1, wix2, Nat.reduceAdd, Nat.reduceLT, sl0, sl1, sl2, sl3, sl4, sl5, sl6, sl10, if_true, true_and, and_true, List.map_cons, List.map_nil, wip, wt_turn, it_non_int, it_non_bool, it_non_str, it_non_tuple, it_non_list, it_non_dict, it_bl_int, it_bl_bool, it_bl_str, it_bl_tuple, it_bl_list, it_bl_dict, it_int_int, it_int_bool, it_int_str, it_int_tuple, it_int_list, it_int_dict, it_str_int, it_str_bool, it_str_str, it_str_tuple, it_str_list, it_str_dict, it_tup_int, it_tup_bool, it_tup_str, it_tup_tuple, it_tup_list, it_tup_dict, it_lst_int, it_lst_bool, it_lst_str, it_lst_tuple, it_lst_list, it_lst_dict, it_rol_int, it_rol_bool, it_rol_str, it_rol_tuple, it_rol_list, it_rol_dict, dRow, w_whole]
      rw [if_pos (by omega)]
      simp
    · rw [map_tt, wx_all, all_rep]
      simp
  refine ws_skip ?_ ?_
  · simp only [we_con, we_varm, we_glom, we_bin, we_neg, we_cmp, we_chain, we_and, we_or, we_not, we_ife, we_tup, we_lst, we_ix, we_sl, we_rev, we_call, we_blt, we_isi, we_app, we_lc, wa_nil, wa_cons, wr_nil, wr_cons, wo_none, wo_some, wto_none, wto_some, wt_and, wt_or, wt_not, wt_cmp, wt_chain, wt_tru, wi_seq, wi_range, wi_enum, wg_nm, wg_tup, wg_nil, wg_cons, wg_sub, wp_ok, wp_bad, wp_nox, wb_add, wb_sub, wb_mul, wb_fdiv, wb_mod, wb_pow, wc_eq, wc_ne, wc_lt, wc_le, wc_gt, wc_ge, wc_eqb, wc_neb, wc_eqs, wc_nes, wx_int, wx_lent, wx_lenl, wx_lenr, wz_int, wz_str, wz_bl, wz_non, wz_tup, wz_rol, wz_ref, wz_lst, List.getElem?_cons_zero, List.getElem?_cons_succ, List.set_cons_zero, List.set_cons_succ, List.length_cons, List.length_nil, wi_tup, wi_lst, wi_rol, wx_tuplel, wx_tuplet, wx_listt, wto_some, hdq, hqc, ite_f, ite_tt, decide_eq_true_eq, Bool.not_eq_true', wisT, ex_bl, ex_int, ite_tf, ite_ff, wix0, wix1, wix2, Nat.reduceAdd, Nat.reduceLT, sl0, sl1, sl2, sl3, sl4, sl5, sl6, sl10, if_true, true_and, and_true, List.map_cons, List.map_nil, wip, wt_turn, it_non_int, it_non_bool, it_non_str, it_non_tuple, it_non_list, it_non_dict, it_bl_int, it_bl_bool, it_bl_str, it_bl_tuple, it_bl_list, it_bl_dict, it_int_int, it_int_bool, it_int_str, it_int_tuple, it_int_list, it_int_dict, it_str_int, it_str_bool, it_str_str, it_str_tuple, it_str_list, it_str_dict, it_tup_int, it_tup_bool, it_tup_str, it_tup_tuple, it_tup_list, it_tup_dict, it_lst_int, it_lst_bool, it_lst_str, it_lst_tuple, it_lst_list, it_lst_dict, it_rol_int, it_rol_bool, it_rol_str, it_rol_tuple, it_rol_list, it_rol_dict, w_whole, g_words]
    have := g.room
    rw [if_pos (by omega)]
    simp; omega
  refine ws_skip ?_ ?_
  · simp only [we_con, we_varm, we_glom, we_bin, we_neg, we_cmp, we_chain, we_and, we_or, we_not, we_ife, we_tup, we_lst, we_ix, we_sl, we_rev, we_call, we_blt, we_isi, we_app, we_lc, wa_nil, wa_cons, wr_nil, wr_cons, wo_none, wo_some, wto_none, wto_some, wt_and, wt_or, wt_not, wt_cmp, wt_chain, wt_tru, wi_seq, wi_range, wi_enum, wg_nm, wg_tup, wg_nil, wg_cons, wg_sub, wp_ok, wp_bad, wp_nox, wb_add, wb_sub, wb_mul, wb_fdiv, wb_mod, wb_pow, wc_eq, wc_ne, wc_lt, wc_le, wc_gt, wc_ge, wc_eqb, wc_neb, wc_eqs, wc_nes, wx_int, wx_lent, wx_lenl, wx_lenr, wz_int, wz_str, wz_bl, wz_non, wz_tup, wz_rol, wz_ref, wz_lst, List.getElem?_cons_zero, List.getElem?_cons_succ, List.set_cons_zero, List.set_cons_succ, List.length_cons, List.length_nil, wi_tup, wi_lst, wi_rol, wx_tuplel, wx_tuplet, wx_listt, wto_some, hdq, hqc, ite_f, ite_tt, decide_eq_true_eq, Bool.not_eq_true', wisT, ex_bl, ex_int, ite_tf, ite_ff, wix0, wix1, wix2, Nat.reduceAdd, Nat.reduceLT, sl0, sl1, sl2, sl3, sl4, sl5, sl6, sl10, if_true, true_and, and_true, List.map_cons, List.map_nil, wip, wt_turn, it_non_int, it_non_bool, it_non_str, it_non_tuple, it_non_list, it_non_dict, it_bl_int, it_bl_bool, it_bl_str, it_bl_tuple, it_bl_list, it_bl_dict, it_int_int, it_int_bool, it_int_str, it_int_tuple, it_int_list, it_int_dict, it_str_int, it_str_bool, it_str_str, it_str_tuple, it_str_list, it_str_dict, it_tup_int, it_tup_bool, it_tup_str, it_tup_tuple, it_tup_list, it_tup_dict, it_lst_int, it_lst_bool, it_lst_str, it_lst_tuple, it_lst_list, it_lst_dict, it_rol_int, it_rol_bool, it_rol_str, it_rol_tuple, it_rol_list, it_rol_dict, g_rows]
    have := g.few
    simp; omega
  rw [ws_nil]
  exact ⟨rfl, rfl⟩
end DI.L

set_option Elab.async false
set_option linter.all false
set_option maxRecDepth 100000
set_option maxHeartbeats 4000000
/-! the plain law, D: the table. -/
namespace DI.L
open PySem L2
def Tk (rows : List (Nat × Nat)) : Nat → Nat → Nat
  | 0, _ => 0
  | k + 1, j => if (rows.getD k (0, 0)).1 ≤ j then max (Tk rows k j) (Tk rows k (j - (rows.getD k (0, 0)).1) + (rows.getD k (0, 0)).2) else Tk rows k j
def dT (rows : List (Nat × Nat)) (room k : Nat) : D := .tup ((List.range (room + 1)).map fun j => .int (Tk rows k j : Nat))
def dTab (rows : List (Nat × Nat)) (room : Nat) : D := .tup ((List.range (rows.length + 1)).map (dT rows room))
theorem dT_at {rows : List (Nat × Nat)} {room k j : Nat} (h : j < room + 1) : ((List.range (room + 1)).map fun j => D.int (Tk rows k j : Nat))[j]? = some (.int (Tk rows k j : Nat)) := by
  rw [List.getElem?_map, List.getElem?_range h]; rfl
theorem cst1 {n : Nat} : (n : Int) + 1 = ((n + 1 : Nat) : Int) := rfl
theorem rng1 {α : Type} {f : Nat → α} {n : Nat} : (List.range (n + 1)).map f = (List.range n).map f ++ [f n] := by rw [List.range_succ, List.map_append]; rfl
theorem c_sums (k : Nat) (a b : D) (s : S) : cl (k+1) "sums_table" [a, b] s = runF (cfg.q k) 7 d_sums_table.body [a, b] s := by kernel_rfl
theorem s_sums {k : Nat} {rows : List (Nat × Nat)} {room : Nat} {s : S} (g : Good rows room) : Wp (cl (k+1) "sums_table" [dRows rows, .int (room : Nat)] s) fun d s' => d = dTab rows room ∧ ∃ t, s' = s ++ t := by
  rw [c_sums]
  refine wf_run ?_
  show Ws (runSs (cfg.q k) d_sums_table.body [some (.tup (rows.map dRow)), some (.int (room : Nat)), none, none, none, none, none] s) _
  unfold d_sums_table
  refine ws_asgs ?_
  simp only [we_con, we_varm, we_glom, we_bin, we_neg, we_cmp, we_chain, we_and, we_or, we_not, we_ife, we_tup, we_lst, we_ix, we_sl, we_rev, we_call, we_blt, we_isi, we_app, we_lc, wa_nil, wa_cons, wr_nil, wr_cons, wo_none, wo_some, wto_none, wto_some, wt_and, wt_or, wt_not, wt_cmp, wt_chain, wt_tru, wi_seq, wi_range, wi_enum, wg_nm, wg_tup, wg_nil, wg_cons, wg_sub, wp_ok, wp_bad, wp_nox, wb_add, wb_sub, wb_mul, wb_fdiv, wb_mod, wb_pow, wc_eq, wc_ne, wc_lt, wc_le, wc_gt, wc_ge, wc_eqb, wc_neb, wc_eqs, wc_nes, wx_int, wx_lent, wx_lenl, wx_lenr, wz_int, wz_str, wz_bl, wz_non, wz_tup, wz_rol, wz_ref, wz_lst, List.getElem?_cons_zero, List.getElem?_cons_succ, List.set_cons_zero, List.set_cons_succ, List.length_cons, List.length_nil, wi_tup, wi_lst, wi_rol, wx_tuplel, wx_tuplet, wx_listt, wto_some, hdq, hqc, ite_f, ite_tt, decide_eq_true_eq, Bool.not_eq_true', wisT, ex_bl, ex_int, ite_tf, ite_ff, wix0, wix1, wix2, Nat.reduceAdd, Nat.reduceLT, sl0, sl1, sl2, sl3, sl4, sl5, sl6, sl10, if_true, true_and, and_true, List.map_cons, List.map_nil, wip, wt_turn, it_non_int, it_non_bool, it_non_str, it_non_tuple, it_non_list, it_non_dict, it_bl_int, it_bl_bool, it_bl_str, it_bl_tuple, it_bl_list, it_bl_dict, it_int_int, it_int_bool, it_int_str, it_int_tuple, it_int_list, it_int_dict, it_str_int, it_str_bool, it_str_str, it_str_tuple, it_str_list, it_str_dict, it_tup_int, it_tup_bool, it_tup_str, it_tup_tuple, it_tup_list, it_tup_dict, it_lst_int, it_lst_bool, it_lst_str, it_lst_tuple, it_lst_list, it_lst_dict, it_rol_int, it_rol_bool, it_rol_str, it_rol_tuple, it_rol_list, it_rol_dict]
  rw [show ((room : Int) + 1) = ((room + 1 : Nat) : Int) from rfl, wb_tmul (by omega) (by have := g.room; omega)]
  simp only [we_con, we_varm, we_glom, we_bin, we_neg, we_cmp, we_chain, we_and, we_or, we_not, we_ife, we_tup, we_lst, we_ix, we_sl, we_rev, we_call, we_blt, we_isi, we_app, we_lc, wa_nil, wa_cons, wr_nil, wr_cons, wo_none, wo_some, wto_none, wto_some, wt_and, wt_or, wt_not, wt_cmp, wt_chain, wt_tru, wi_seq, wi_range, wi_enum, wg_nm, wg_tup, wg_nil, wg_cons, wg_sub, wp_ok, wp_bad, wp_nox, wb_add, wb_sub, wb_mul, wb_fdiv, wb_mod, wb_pow, wc_eq, wc_ne, wc_lt, wc_le, wc_gt, wc_ge, wc_eqb, wc_neb, wc_eqs, wc_nes, wx_int, wx_lent, wx_lenl, wx_lenr, wz_int, wz_str, wz_bl, wz_non, wz_tup, wz_rol, wz_ref, wz_lst, List.getElem?_cons_zero, List.getElem?_cons_succ, List.set_cons_zero, List.set_cons_succ, List.length_cons, List.length_nil, wi_tup, wi_lst, wi_rol, wx_tuplel, wx_tuplet, wx_listt, wto_some, hdq, hqc, ite_f, ite_tt, decide_eq_true_eq, Bool.not_eq_true', wisT, ex_bl, ex_int, ite_tf, ite_ff, wix0, wix1, wix2, Nat.reduceAdd, Nat.reduceLT, sl0, sl1, sl2, sl3, sl4, sl5, sl6, sl10, if_true, true_and, and_true, List.map_cons, List.map_nil, wip, wt_turn, it_non_int, it_non_bool, it_non_str, it_non_tuple, it_non_list, it_non_dict, it_bl_int, it_bl_bool, it_bl_str, it_bl_tuple, it_bl_list, it_bl_dict, it_int_int, it_int_bool, it_int_str, it_int_tuple, it_int_list, it_int_dict, it_str_int, it_str_bool, it_str_str, it_str_tuple, it_str_list, it_str_dict, it_tup_int, it_tup_bool, it_tup_str, it_tup_tuple, it_tup_list, it_tup_dict, it_lst_int, it_lst_bool, it_lst_str, it_lst_tuple, it_lst_list, it_lst_dict, it_rol_int, it_rol_bool, it_rol_str, it_rol_tuple, it_rol_list, it_rol_dict]
  refine ws_cut (fun ρ s' => ∃ x y z w, ρ = [some (dRows rows), some (.int (room : Nat)), some (.ref s.length), x, y, z, w] ∧ s' = s ++ [.lst ((List.range (rows.length + 1)).map (dT rows room))]) (ws_fo ?_) ?_
  · simp only [we_con, we_varm, we_glom, we_bin, we_neg, we_cmp, we_chain, we_and, we_or, we_not, we_ife, we_tup, we_lst, we_ix, we_sl, we_rev, we_call, we_blt, we_isi, we_app, we_lc, wa_nil, wa_cons, wr_nil, wr_cons, wo_none, wo_some, wto_none, wto_some, wt_and, wt_or, wt_not, wt_cmp, wt_chain, wt_tru, wi_seq, wi_range, wi_enum, wg_nm, wg_tup, wg_nil, wg_cons, wg_sub, wp_ok, wp_bad, wp_nox, wb_add, wb_sub, wb_mul, wb_fdiv, wb_mod, wb_pow, wc_eq, wc_ne, wc_lt, wc_le, wc_gt, wc_ge, wc_eqb, wc_neb, wc_eqs, wc_nes, wx_int, wx_lent, wx_lenl, wx_lenr, wz_int, wz_str, wz_bl, wz_non, wz_tup, wz_rol, wz_ref, wz_lst, List.getElem?_cons_zero, List.getElem?_cons_succ, List.set_cons_zero, List.set_cons_succ, List.length_cons, List.length_nil, wi_tup, wi_lst, wi_rol, wx_tuplel, wx_tuplet, wx_listt, wto_some, hdq, hqc, ite_f, ite_tt, decide_eq_true_eq, Bool.not_eq_true', wisT, ex_bl, ex_int, ite_tf, ite_ff, wix0, wix1, wix2, Nat.reduceAdd, Nat.reduceLT, sl0, sl1, sl2, sl3, sl4, sl5, sl6, sl10, if_true, true_and, and_true, List.map_cons, List.map_nil, wip, wt_turn, it_non_int, it_non_bool, it_non_str, it_non_tuple, it_non_list, it_non_dict, it_bl_int, it_bl_bool, it_bl_str, it_bl_tuple, it_bl_list, it_bl_dict, it_int_int, it_int_bool, it_int_str, it_int_tuple, it_int_list, it_int_dict, it_str_int, it_str_bool, it_str_str, it_str_tuple, it_str_list, it_str_dict, it_tup_int, it_tup_bool, it_tup_str, it_tup_tuple, it_tup_list, it_tup_dict, it_lst_int, it_lst_bool, it_lst_str, it_lst_tuple, it_lst_list, it_lst_dict, it_rol_int, it_rol_bool, it_rol_str, it_rol_tuple, it_rol_list, it_rol_dict]
    refine ⟨fun r ρ s' => ∃ k x y z w, k ≤ rows.length ∧ r = (rows.drop k).map dRow ∧ ρ = [some (dRows rows), some (.int (room : Nat)), some (.ref s.length), x, y, z, w] ∧ s' = s ++ [.lst ((List.range (k + 1)).map (dT rows room))], ?_, ?_, ?_⟩
    · refine ⟨0, none, none, none, none, Nat.zero_le _, by rw [List.drop_zero], rfl, ?_⟩
      have : List.replicate (room + 1) (D.int 0) = (List.range (room + 1)).map fun j => .int (Tk rows 0 j : Nat) := by
        rw [show (fun j => D.int ((Tk rows 0 j : Nat) : Int)) = fun _ => .int 0 from rfl, List.map_const', List.length_range]
      rw [this]
      rfl
    · rintro ρ s' ⟨k, x, y, z, w, hk, e, rfl, rfl⟩
      have hk2 : k = rows.length := by
        have := congrArg List.length e
        simp at this; omega
      subst hk2
      exact ⟨x, y, z, w, rfl, rfl⟩
    · rintro x r ρ s' ⟨k, x1, y, z, w, hk, e, rfl, rfl⟩
      have hk2 : k < rows.length := by
        have := congrArg List.length e
        simp at this; omega
      rw [List.drop_eq_getElem_cons hk2, List.map_cons] at e
      cases e
      simp only [we_con, we_varm, we_glom, we_bin, we_neg, we_cmp, we_chain, we_and, we_or, we_not, we_ife, we_tup, we_lst, we_ix, we_sl, we_rev, we_call, we_blt, we_isi, we_app, we_lc, wa_nil, wa_cons, wr_nil, wr_cons, wo_none, wo_some, wto_none, wto_some, wt_and, wt_or, wt_not, wt_cmp, wt_chain, wt_tru, wi_seq, wi_range, wi_enum, wg_nm, wg_tup, wg_nil, wg_cons, wg_sub, wp_ok, wp_bad, wp_nox, wb_add, wb_sub, wb_mul, wb_fdiv, wb_mod, wb_pow, wc_eq, wc_ne, wc_lt, wc_le, wc_gt, wc_ge, wc_eqb, wc_neb, wc_eqs, wc_nes, wx_int, wx_lent, wx_lenl, wx_lenr, wz_int, wz_str, wz_bl, wz_non, wz_tup, wz_rol, wz_ref, wz_lst, List.getElem?_cons_zero, List.getElem?_cons_succ, List.set_cons_zero, List.set_cons_succ, List.length_cons, List.length_nil, wi_tup, wi_lst, wi_rol, wx_tuplel, wx_tuplet, wx_listt, wto_some, hdq, hqc, ite_f, ite_tt, decide_eq_true_eq, Bool.not_eq_true', wisT, ex_bl, ex_int, ite_tf, ite_ff, wix0, wix1, wix2, Nat.reduceAdd, Nat.reduceLT, sl0, sl1, sl2, sl3, sl4, sl5, sl6, sl10, if_true, true_and, and_true, List.map_cons, List.map_nil, wip, wt_turn, it_non_int, it_non_bool, it_non_str, it_non_tuple, it_non_list, it_non_dict, it_bl_int, it_bl_bool, it_bl_str, it_bl_tuple, it_bl_list, it_bl_dict, it_int_int, it_int_bool, it_int_str, it_int_tuple, it_int_list, it_int_dict, it_str_int, it_str_bool, it_str_str, it_str_tuple, it_str_list, it_str_dict, it_tup_int, it_tup_bool, it_tup_str, it_tup_tuple, it_tup_list, it_tup_dict, it_lst_int, it_lst_bool, it_lst_str, it_lst_tuple, it_lst_list, it_lst_dict, it_rol_int, it_rol_bool, it_rol_str, it_rol_tuple, it_rol_list, it_rol_dict, dRow]
      refine ws_asgs ?_
      simp only [we_con, we_varm, we_glom, we_bin, we_neg, we_cmp, we_chain, we_and, we_or, we_not, we_ife, we_tup, we_lst, we_ix, we_sl, we_rev, we_call, we_blt, we_isi, we_app, we_lc, wa_nil, wa_cons, wr_nil, wr_cons, wo_none, wo_some, wto_none, wto_some, wt_and, wt_or, wt_not, wt_cmp, wt_chain, wt_tru, wi_seq, wi_range, wi_enum, wg_nm, wg_tup, wg_nil, wg_cons, wg_sub, wp_ok, wp_bad, wp_nox, wb_add, wb_sub, wb_mul, wb_fdiv, wb_mod, wb_pow, wc_eq, wc_ne, wc_lt, wc_le, wc_gt, wc_ge, wc_eqb, wc_neb, wc_eqs, wc_nes, wx_int, wx_lent, wx_lenl, wx_lenr, wz_int, wz_str, wz_bl, wz_non, wz_tup, wz_rol, wz_ref, wz_lst, List.getElem?_cons_zero, List.getElem?_cons_succ, List.set_cons_zero, List.set_cons_succ, List.length_cons, List.length_nil, wi_tup, wi_lst, wi_rol, wx_tuplel, wx_tuplet, wx_listt, wto_some, hdq, hqc, ite_f, ite_tt, decide_eq_true_eq, Bool.not_eq_true', wisT, ex_bl, ex_int, ite_tf, ite_ff, wix0, wix1, wix2, Nat.reduceAdd, Nat.reduceLT, sl0, sl1, sl2, sl3, sl4, sl5, sl6, sl10, if_true, true_and, and_true, List.map_cons, List.map_nil, wip, wt_turn, it_non_int, it_non_bool, it_non_str, it_non_tuple, it_non_list, it_non_dict, it_bl_int, it_bl_bool, it_bl_str, it_bl_tuple, it_bl_list, it_bl_dict, it_int_int, it_int_bool, it_int_str, it_int_tuple, it_int_list, it_int_dict, it_str_int, it_str_bool, it_str_str, it_str_tuple, it_str_list, it_str_dict, it_tup_int, it_tup_bool, it_tup_str, it_tup_tuple, it_tup_list, it_tup_dict, it_lst_int, it_lst_bool, it_lst_str, it_lst_tuple, it_lst_list, it_lst_dict, it_rol_int, it_rol_bool, it_rol_str, it_rol_tuple, it_rol_list, it_rol_dict]
      rw [wixr (d := dT rows room k) lk_new1 (atI_last (by rw [rng1]; simp))]
      simp only [dT, we_con, we_varm, we_glom, we_bin, we_neg, we_cmp, we_chain, we_and, we_or, we_not, we_ife, we_tup, we_lst, we_ix, we_sl, we_rev, we_call, we_blt, we_isi, we_app, we_lc, wa_nil, wa_cons, wr_nil, wr_cons, wo_none, wo_some, wto_none, wto_some, wt_and, wt_or, wt_not, wt_cmp, wt_chain, wt_tru, wi_seq, wi_range, wi_enum, wg_nm, wg_tup, wg_nil, wg_cons, wg_sub, wp_ok, wp_bad, wp_nox, wb_add, wb_sub, wb_mul, wb_fdiv, wb_mod, wb_pow, wc_eq, wc_ne, wc_lt, wc_le, wc_gt, wc_ge, wc_eqb, wc_neb, wc_eqs, wc_nes, wx_int, wx_lent, wx_lenl, wx_lenr, wz_int, wz_str, wz_bl, wz_non, wz_tup, wz_rol, wz_ref, wz_lst, List.getElem?_cons_zero, List.getElem?_cons_succ, List.set_cons_zero, List.set_cons_succ, List.length_cons, List.length_nil, wi_tup, wi_lst, wi_rol, wx_tuplel, wx_tuplet, wx_listt, wto_some, hdq, hqc, ite_f, ite_tt, decide_eq_true_eq, Bool.not_eq_true', wisT, ex_bl, ex_int, ite_tf, ite_ff, wix0, wix1, wix2, Nat.reduceAdd, Nat.reduceLT, sl0, sl1, sl2, sl3, sl4, sl5, sl6, sl10, if_true, true_and, and_true, List.map_cons, List.map_nil, wip, wt_turn, it_non_int, it_non_bool, it_non_str, it_non_tuple, it_non_list, it_non_dict, it_bl_int, it_bl_bool, it_bl_str, it_bl_tuple, it_bl_list, it_bl_dict, it_int_int, it_int_bool, it_int_str, it_int_tuple, it_int_list, it_int_dict, it_str_int, it_str_bool, it_str_str, it_str_tuple, it_str_list, it_str_dict, it_tup_int, it_tup_bool, it_tup_str, it_tup_tuple, it_tup_list, it_tup_dict, it_lst_int, it_lst_bool, it_lst_str, it_lst_tuple, it_lst_list, it_lst_dict, it_rol_int, it_rol_bool, it_rol_str, it_rol_tuple, it_rol_list, it_rol_dict]
      rw [ws_cons]
      refine ws_expr ?_
      simp only [we_con, we_varm, we_glom, we_bin, we_neg, we_cmp, we_chain, we_and, we_or, we_not, we_ife, we_tup, we_lst, we_ix, we_sl, we_rev, we_call, we_blt, we_isi, we_app, we_lc, wa_nil, wa_cons, wr_nil, wr_cons, wo_none, wo_some, wto_none, wto_some, wt_and, wt_or, wt_not, wt_cmp, wt_chain, wt_tru, wi_seq, wi_range, wi_enum, wg_nm, wg_tup, wg_nil, wg_cons, wg_sub, wp_ok, wp_bad, wp_nox, wb_add, wb_sub, wb_mul, wb_fdiv, wb_mod, wb_pow, wc_eq, wc_ne, wc_lt, wc_le, wc_gt, wc_ge, wc_eqb, wc_neb, wc_eqs, wc_nes, wx_int, wx_lent, wx_lenl, wx_lenr, wz_int, wz_str, wz_bl, wz_non, wz_tup, wz_rol, wz_ref, wz_lst, List.getElem?_cons_zero, List.getElem?_cons_succ, List.set_cons_zero, List.set_cons_succ, List.length_cons, List.length_nil, wi_tup, wi_lst, wi_rol, wx_tuplel, wx_tuplet, wx_listt, wto_some, hdq, hqc, ite_f, ite_tt, decide_eq_true_eq, Bool.not_eq_true', wisT, ex_bl, ex_int, ite_tf, ite_ff, wix0, wix1, wix2, Nat.reduceAdd, Nat.reduceLT, sl0, sl1, sl2, sl3, sl4, sl5, sl6, sl10, if_true, true_and, and_true, List.map_cons, List.map_nil, wip, wt_turn, it_non_int, it_non_bool, it_non_str, it_non_tuple, it_non_list, it_non_dict, it_bl_int, it_bl_bool, it_bl_str, it_bl_tuple, it_bl_list, it_bl_dict, it_int_int, it_int_bool, it_int_str, it_int_tuple, it_int_list, it_int_dict, it_str_int, it_str_bool, it_str_str, it_str_tuple, it_str_list, it_str_dict, it_tup_int, it_tup_bool, it_tup_str, it_tup_tuple, it_tup_list, it_tup_dict, it_lst_int, it_lst_bool, it_lst_str, it_lst_tuple, it_lst_list, it_lst_dict, it_rol_int, it_rol_bool, it_rol_str, it_rol_tuple, it_rol_list, it_rol_dict, mut_ref lk_new1, Option.isSome_some]
      rw [cst1, wri_1 (lt62 (by have := g.room; omega))]
      refine wl_rng (fun j => some (.int (Tk rows (k + 1) j : Nat))) rfl (leL (by have := g.room; omega)) (fun j hj => ?_) ?_
      · simp only [we_con, we_varm, we_glom, we_bin, we_neg, we_cmp, we_chain, we_and, we_or, we_not, we_ife, we_tup, we_lst, we_ix, we_sl, we_rev, we_call, we_blt, we_isi, we_app, we_lc, wa_nil, wa_cons, wr_nil, wr_cons, wo_none, wo_some, wto_none, wto_some, wt_and, wt_or, wt_not, wt_cmp, wt_chain, wt_tru, wi_seq, wi_range, wi_enum, wg_nm, wg_tup, wg_nil, wg_cons, wg_sub, wp_ok, wp_bad, wp_nox, wb_add, wb_sub, wb_mul, wb_fdiv, wb_mod, wb_pow, wc_eq, wc_ne, wc_lt, wc_le, wc_gt, wc_ge, wc_eqb, wc_neb, wc_eqs, wc_nes, wx_int, wx_lent, wx_lenl, wx_lenr, wz_int, wz_str, wz_bl, wz_non, wz_tup, wz_rol, wz_ref, wz_lst, List.getElem?_cons_zero, List.getElem?_cons_succ, List.set_cons_zero, List.set_cons_succ, List.length_cons, List.length_nil, wi_tup, wi_lst, wi_rol, wx_tuplel, wx_tuplet, wx_listt, wto_some, hdq, hqc, ite_f, ite_tt, decide_eq_true_eq, Bool.not_eq_true', wisT, ex_bl, ex_int, ite_tf, ite_ff, wix0, wix1, wix2, Nat.reduceAdd, Nat.reduceLT, sl0, sl1, sl2, sl3, sl4, sl5, sl6, sl10, if_true, true_and, and_true, List.map_cons, List.map_nil, wip, wt_turn, it_non_int, it_non_bool, it_non_str, it_non_tuple, it_non_list, it_non_dict, it_bl_int, it_bl_bool, it_bl_str, it_bl_tuple, it_bl_list, it_bl_dict, it_int_int, it_int_bool, it_int_str, it_int_tuple, it_int_list, it_int_dict, it_str_int, it_str_bool, it_str_str, it_str_tuple, it_str_list, it_str_dict, it_tup_int, it_tup_bool, it_tup_str, it_tup_tuple, it_tup_list, it_tup_dict, it_lst_int, it_lst_bool, it_lst_str, it_lst_tuple, it_lst_list, it_lst_dict, it_rol_int, it_rol_bool, it_rol_str, it_rol_tuple, it_rol_list, it_rol_dict, wixt (dT_at hj)]
        have hr : rows.getD k (0, 0) = rows[k] := by rw [List.getD_eq_getElem?_getD, List.getElem?_eq_getElem hk2]; rfl
        refine ite_p (fun hle => ?_) fun hle => ?_
        · have hle : rows[k].1 ≤ j := by omega
          rw [show ((j : Int) - (rows[k].1 : Nat)) = ((j - rows[k].1 : Nat) : Int) by omega, wixt (dT_at (by omega))]
          simp only [we_con, we_varm, we_glom, we_bin, we_neg, we_cmp, we_chain, we_and, we_or, we_not, we_ife, we_tup, we_lst, we_ix, we_sl, we_rev, we_call, we_blt, we_isi, we_app, we_lc, wa_nil, wa_cons, wr_nil, wr_cons, wo_none, wo_some, wto_none, wto_some, wt_and, wt_or, wt_not, wt_cmp, wt_chain, wt_tru, wi_seq, wi_range, wi_enum, wg_nm, wg_tup, wg_nil, wg_cons, wg_sub, wp_ok, wp_bad, wp_nox, wb_add, wb_sub, wb_mul, wb_fdiv, wb_mod, wb_pow, wc_eq, wc_ne, wc_lt, wc_le, wc_gt, wc_ge, wc_eqb, wc_neb, wc_eqs, wc_nes, wx_int, wx_lent, wx_lenl, wx_lenr, wz_int, wz_str, wz_bl, wz_non, wz_tup, wz_rol, wz_ref, wz_lst, List.getElem?_cons_zero, List.getElem?_cons_succ, List.set_cons_zero, List.set_cons_succ, List.length_cons, List.length_nil, wi_tup, wi_lst, wi_rol, wx_tuplel, wx_tuplet, wx_listt, wto_some, hdq, hqc, ite_f, ite_tt, decide_eq_true_eq, Bool.not_eq_true', wisT, ex_bl, ex_int, ite_tf, ite_ff, wix0, wix1, wix2, Nat.reduceAdd, Nat.reduceLT, sl0, sl1, sl2, sl3, sl4, sl5, sl6, sl10, if_true, true_and, and_true, List.map_cons, List.map_nil, wip, wt_turn, it_non_int, it_non_bool, it_non_str, it_non_tuple, it_non_list, it_non_dict, it_bl_int, it_bl_bool, it_bl_str, it_bl_tuple, it_bl_list, it_bl_dict, it_int_int, it_int_bool, it_int_str, it_int_tuple, it_int_list, it_int_dict, it_str_int, it_str_bool, it_str_str, it_str_tuple, it_str_list, it_str_dict, it_tup_int, it_tup_bool, it_tup_str, it_tup_tuple, it_tup_list, it_tup_dict, it_lst_int, it_lst_bool, it_lst_str, it_lst_tuple, it_lst_list, it_lst_dict, it_rol_int, it_rol_bool, it_rol_str, it_rol_tuple, it_rol_list, it_rol_dict]
          rw [wb_ladd mut_lst mut_lst (leL (by simp))]
          simp only [we_con, we_varm, we_glom, we_bin, we_neg, we_cmp, we_chain, we_and, we_or, we_not, we_ife, we_tup, we_lst, we_ix, we_sl, we_rev, we_call, we_blt, we_isi, we_app, we_lc, wa_nil, wa_cons, wr_nil, wr_cons, wo_none, wo_some, wto_none, wto_some, wt_and, wt_or, wt_not, wt_cmp, wt_chain, wt_tru, wi_seq, wi_range, wi_enum, wg_nm, wg_tup, wg_nil, wg_cons, wg_sub, wp_ok, wp_bad, wp_nox, wb_add, wb_sub, wb_mul, wb_fdiv, wb_mod, wb_pow, wc_eq, wc_ne, wc_lt, wc_le, wc_gt, wc_ge, wc_eqb, wc_neb, wc_eqs, wc_nes, wx_int, wx_lent, wx_lenl, wx_lenr, wz_int, wz_str, wz_bl, wz_non, wz_tup, wz_rol, wz_ref, wz_lst, List.getElem?_cons_zero, List.getElem?_cons_succ, List.set_cons_zero, List.set_cons_succ, List.length_cons, List.length_nil, wi_tup, wi_lst, wi_rol, wx_tuplel, wx_tuplet, wx_listt, wto_some, hdq, hqc, ite_f, ite_tt, decide_eq_true_eq, Bool.not_eq_true', wisT, ex_bl, ex_int, ite_tf, ite_ff, wix0, wix1, wix2, Nat.reduceAdd, Nat.reduceLT, sl0, sl1, sl2, sl3, sl4, sl5, sl6, sl10, if_true, true_and, and_true, List.map_cons, List.map_nil, wip, wt_turn, it_non_int, it_non_bool, it_non_str, it_non_tuple, it_non_list, it_non_dict, it_bl_int, it_bl_bool, it_bl_str, it_bl_tuple, it_bl_list, it_bl_dict, it_int_int, it_int_bool, it_int_str, it_int_tuple, it_int_list, it_int_dict, it_str_int, it_str_bool, it_str_str, it_str_tuple, it_str_list, it_str_dict, it_tup_int, it_tup_bool, it_tup_str, it_tup_tuple, it_tup_list, it_tup_dict, it_lst_int, it_lst_bool, it_lst_str, it_lst_tuple, it_lst_list, it_lst_dict, it_rol_int, it_rol_bool, it_rol_str, it_rol_tuple, it_rol_list, it_rol_dict, List.cons_append, List.nil_append]
          rw [show [D.int (Tk rows k j : Nat), .int ((Tk rows k (j - rows[k].1) : Nat) + (rows[k].2 : Nat))] = [((Tk rows k j : Nat) : Int), (Tk rows k (j - rows[k].1) : Nat) + (rows[k].2 : Nat)].map .int from rfl, wx_max (by simp), maxL_2, wz_int]
          refine ⟨congrArg some (congrArg D.int ?_), rfl⟩
          show _ = (((if (rows.getD k (0, 0)).1 ≤ j then max (Tk rows k j) (Tk rows k (j - (rows.getD k (0, 0)).1) + (rows.getD k (0, 0)).2) else Tk rows k j) : Nat) : Int)
          rw [hr, if_pos hle]
          omega
        · have hle : ¬ rows[k].1 ≤ j := by omega
          rw [wb_ladd mut_lst mut_lst (leL (by simp))]
          simp only [we_con, we_varm, we_glom, we_bin, we_neg, we_cmp, we_chain, we_and, we_or, we_not, we_ife, we_tup, we_lst, we_ix, we_sl, we_rev, we_call, we_blt, we_isi, we_app, we_lc, wa_nil, wa_cons, wr_nil, wr_cons, wo_none, wo_some, wto_none, wto_some, wt_and, wt_or, wt_not, wt_cmp, wt_chain, wt_tru, wi_seq, wi_range, wi_enum, wg_nm, wg_tup, wg_nil, wg_cons, wg_sub, wp_ok, wp_bad, wp_nox, wb_add, wb_sub, wb_mul, wb_fdiv, wb_mod, wb_pow, wc_eq, wc_ne, wc_lt, wc_le, wc_gt, wc_ge, wc_eqb, wc_neb, wc_eqs, wc_nes, wx_int, wx_lent, wx_lenl, wx_lenr, wz_int, wz_str, wz_bl, wz_non, wz_tup, wz_rol, wz_ref, wz_lst, List.getElem?_cons_zero, List.getElem?_cons_succ, List.set_cons_zero, List.set_cons_succ, List.length_cons, List.length_nil, wi_tup, wi_lst, wi_rol, wx_tuplel, wx_tuplet, wx_listt, wto_some, hdq, hqc, ite_f, ite_tt, decide_eq_true_eq, Bool.not_eq_true', wisT, ex_bl, ex_int, ite_tf, ite_ff, wix0, wix1, wix2, Nat.reduceAdd, Nat.reduceLT, sl0, sl1, sl2, sl3, sl4, sl5, sl6, sl10, if_true, true_and, and_true, List.map_cons, List.map_nil, wip, wt_turn, it_non_int, it_non_bool, it_non_str, it_non_tuple, it_non_list, it_non_dict, it_bl_int, it_bl_bool, it_bl_str, it_bl_tuple, it_bl_list, it_bl_dict, it_int_int, it_int_bool, it_int_str, it_int_tuple, it_int_list, it_int_dict, it_str_int, it_str_bool, it_str_str, it_str_tuple, it_str_list, it_str_dict, it_tup_int, it_tup_bool, it_tup_str, it_tup_tuple, it_tup_list, it_tup_dict, it_lst_int, it_lst_bool, it_lst_str, it_lst_tuple, it_lst_list, it_lst_dict, it_rol_int, it_rol_bool, it_rol_str, it_rol_tuple, it_rol_list, it_rol_dict, List.cons_append, List.nil_append]
          rw [show [D.int (Tk rows k j : Nat)] = [((Tk rows k j : Nat) : Int)].map .int from rfl, wx_max (by simp), wz_int]
          refine ⟨congrArg some (congrArg D.int ?_), rfl⟩
          show ((Tk rows k j : Nat) : Int) = (((if (rows.getD k (0, 0)).1 ≤ j then max (Tk rows k j) (Tk rows k (j - (rows.getD k (0, 0)).1) + (rows.getD k (0, 0)).2) else Tk rows k j) : Nat) : Int)
          rw [hr, if_neg hle]
      · simp only [we_con, we_varm, we_glom, we_bin, we_neg, we_cmp, we_chain, we_and, we_or, we_not, we_ife, we_tup, we_lst, we_ix, we_sl, we_rev, we_call, we_blt, we_isi, we_app, we_lc, wa_nil, wa_cons, wr_nil, wr_cons, wo_none, wo_some, wto_none, wto_some, wt_and, wt_or, wt_not, wt_cmp, wt_chain, wt_tru, wi_seq, wi_range, wi_enum, wg_nm, wg_tup, wg_nil, wg_cons, wg_sub, wp_ok, wp_bad, wp_nox, wb_add, wb_sub, wb_mul, wb_fdiv, wb_mod, wb_pow, wc_eq, wc_ne, wc_lt, wc_le, wc_gt, wc_ge, wc_eqb, wc_neb, wc_eqs, wc_nes, wx_int, wx_lent, wx_lenl, wx_lenr, wz_int, wz_str, wz_bl, wz_non, wz_tup, wz_rol, wz_ref, wz_lst, List.getElem?_cons_zero, List.getElem?_cons_succ, List.set_cons_zero, List.set_cons_succ, List.length_cons, List.length_nil, wi_tup, wi_lst, wi_rol, wx_tuplel, wx_tuplet, wx_listt, wto_some, hdq, hqc, ite_f, ite_tt, decide_eq_true_eq, Bool.not_eq_true', wisT, ex_bl, ex_int, ite_tf, ite_ff, wix0, wix1, wix2, Nat.reduceAdd, Nat.reduceLT, sl0, sl1, sl2, sl3, sl4, sl5, sl6, sl10, if_true, true_and, and_true, List.map_cons, List.map_nil, wip, wt_turn, it_non_int, it_non_bool, it_non_str, it_non_tuple, it_non_list, it_non_dict, it_bl_int, it_bl_bool, it_bl_str, it_bl_tuple, it_bl_list, it_bl_dict, it_int_int, it_int_bool, it_int_str, it_int_tuple, it_int_list, it_int_dict, it_str_int, it_str_bool, it_str_str, it_str_tuple, it_str_list, it_str_dict, it_tup_int, it_tup_bool, it_tup_str, it_tup_tuple, it_tup_list, it_tup_dict, it_lst_int, it_lst_bool, it_lst_str, it_lst_tuple, it_lst_list, it_lst_dict, it_rol_int, it_rol_bool, it_rol_str, it_rol_tuple, it_rol_list, it_rol_dict]
        rw [wm_app lk_new1 (Nat.lt_of_le_of_lt (m := 8) (by have := g.few; simp; omega) (by decide)), ws_nil]
        refine ⟨k + 1, _, _, _, _, hk2, rfl, rfl, ?_⟩
        rw [List.set_append_right _ _ (Nat.le_refl _), Nat.sub_self, List.set_cons_zero]
        rw [rng1 (n := k + 1)]
        rw [List.filterMap_eq_map']
        rfl
  · rintro ρ s' ⟨x, y, z, w, rfl, rfl⟩
    refine ws_rets ?_
    simp only [we_con, we_varm, we_glom, we_bin, we_neg, we_cmp, we_chain, we_and, we_or, we_not, we_ife, we_tup, we_lst, we_ix, we_sl, we_rev, we_call, we_blt, we_isi, we_app, we_lc, wa_nil, wa_cons, wr_nil, wr_cons, wo_none, wo_some, wto_none, wto_some, wt_and, wt_or, wt_not, wt_cmp, wt_chain, wt_tru, wi_seq, wi_range, wi_enum, wg_nm, wg_tup, wg_nil, wg_cons, wg_sub, wp_ok, wp_bad, wp_nox, wb_add, wb_sub, wb_mul, wb_fdiv, wb_mod, wb_pow, wc_eq, wc_ne, wc_lt, wc_le, wc_gt, wc_ge, wc_eqb, wc_neb, wc_eqs, wc_nes, wx_int, wx_lent, wx_lenl, wx_lenr, wz_int, wz_str, wz_bl, wz_non, wz_tup, wz_rol, wz_ref, wz_lst, List.getElem?_cons_zero, List.getElem?_cons_succ, List.set_cons_zero, List.set_cons_succ, List.length_cons, List.length_nil, wi_tup, wi_lst, wi_rol, wx_tuplel, wx_tuplet, wx_listt, wto_some, hdq, hqc, ite_f, ite_tt, decide_eq_true_eq, Bool.not_eq_true', wisT, ex_bl, ex_int, ite_tf, ite_ff, wix0, wix1, wix2, Nat.reduceAdd, Nat.reduceLT, sl0, sl1, sl2, sl3, sl4, sl5, sl6, sl10, if_true, true_and, and_true, List.map_cons, List.map_nil, wip, wt_turn, it_non_int, it_non_bool, it_non_str, it_non_tuple, it_non_list, it_non_dict, it_bl_int, it_bl_bool, it_bl_str, it_bl_tuple, it_bl_list, it_bl_dict, it_int_int, it_int_bool, it_int_str, it_int_tuple, it_int_list, it_int_dict, it_str_int, it_str_bool, it_str_str, it_str_tuple, it_str_list, it_str_dict, it_tup_int, it_tup_bool, it_tup_str, it_tup_tuple, it_tup_list, it_tup_dict, it_lst_int, it_lst_bool, it_lst_str, it_lst_tuple, it_lst_list, it_lst_dict, it_rol_int, it_rol_bool, it_rol_str, it_rol_tuple, it_rol_list, it_rol_dict]
    rw [wx_tupler lk_new1]
    exact ⟨rfl, _, rfl⟩
/-- which rows are kept, walked back from row k with left left -/
def asc (rows : List (Nat × Nat)) : Nat → Nat → List Nat
  | 0, _ => []
  | k + 1, left => if Tk rows (k + 1) left ≠ Tk rows k left then asc rows k (left - (rows.getD k (0, 0)).1) ++ [k] else asc rows k left
def dNs (l : List Nat) : D := .tup (l.map fun (k : Nat) => .int (k : Int))
theorem c_kept (k : Nat) (a b : D) (s : S) : cl (k+1) "best_kept" [a, b] s = runF (cfg.q k) 6 d_best_kept.body [a, b] s := by kernel_rfl
theorem w_call {f : Str} {as : List D} {k : Nat} {s : S} {P Q : D → S → Prop} (h : Wp (cl k f as s) Q) (i : ∀ d s', Q d s' → P d s') : Wp (callN cfg.ds cfg.q0 k f as s) P := h.imp i
theorem down {n : Nat} : (List.range n).map (fun (k : Nat) => D.int ((n - 1 - k : Nat) : Int)) = (List.range n).reverse.map fun (k : Nat) => .int (k : Int) := by
  refine List.ext_getElem (by simp) fun i h1 h2 => ?_
  simp at h1
  simp
theorem tab_at {rows : List (Nat × Nat)} {room k : Nat} (h : k < rows.length + 1) : ((List.range (rows.length + 1)).map (dT rows room))[k]? = some (dT rows room k) := by
  rw [List.getElem?_map, List.getElem?_range h]; rfl
theorem row_at {rows : List (Nat × Nat)} {k : Nat} (h : k < rows.length) : (rows.map dRow)[k]? = some (dRow rows[k]) := by
  rw [List.getElem?_map, List.getElem?_eq_getElem h]; rfl
theorem s_kept {k : Nat} {rows : List (Nat × Nat)} {room : Nat} {s : S} (g : Good rows room) : Wp (cl (k+3) "best_kept" [dRows rows, .int (room : Nat)] s) fun d s' => d = .tup [.int (Tk rows rows.length room : Nat), dNs (asc rows rows.length room), dTab rows room] ∧ ∃ t, s' = s ++ t := by
  rw [c_kept]
  refine wf_run ?_
  show Ws (runSs (cfg.q (k+2)) d_best_kept.body [some (.tup (rows.map dRow)), some (.int (room : Nat)), none, none, none, none] s) _
  unfold d_best_kept
  rw [ws_cons]
  refine ws_expr ?_
  simp only [we_con, we_varm, we_glom, we_bin, we_neg, we_cmp, we_chain, we_and, we_or, we_not, we_ife, we_tup, we_lst, we_ix, we_sl, we_rev, we_call, we_blt, we_isi, we_app, we_lc, wa_nil, wa_cons, wr_nil, wr_cons, wo_none, wo_some, wto_none, wto_some, wt_and, wt_or, wt_not, wt_cmp, wt_chain, wt_tru, wi_seq, wi_range, wi_enum, wg_nm, wg_tup, wg_nil, wg_cons, wg_sub, wp_ok, wp_bad, wp_nox, wb_add, wb_sub, wb_mul, wb_fdiv, wb_mod, wb_pow, wc_eq, wc_ne, wc_lt, wc_le, wc_gt, wc_ge, wc_eqb, wc_neb, wc_eqs, wc_nes, wx_int, wx_lent, wx_lenl, wx_lenr, wz_int, wz_str, wz_bl, wz_non, wz_tup, wz_rol, wz_ref, wz_lst, List.getElem?_cons_zero, List.getElem?_cons_succ, List.set_cons_zero, List.set_cons_succ, List.length_cons, List.length_nil, wi_tup, wi_lst, wi_rol, wx_tuplel, wx_tuplet, wx_listt, wto_some, hdq, hqc, ite_f, ite_tt, decide_eq_true_eq, Bool.not_eq_true', wisT, ex_bl, ex_int, ite_tf, ite_ff, wix0, wix1, wix2, Nat.reduceAdd, Nat.reduceLT, sl0, sl1, sl2, sl3, sl4, sl5, sl6, sl10, if_true, true_and, and_true, List.map_cons, List.map_nil, wip, wt_turn, it_non_int, it_non_bool, it_non_str, it_non_tuple, it_non_list, it_non_dict, it_bl_int, it_bl_bool, it_bl_str, it_bl_tuple, it_bl_list, it_bl_dict, it_int_int, it_int_bool, it_int_str, it_int_tuple, it_int_list, it_int_dict, it_str_int, it_str_bool, it_str_str, it_str_tuple, it_str_list, it_str_dict, it_tup_int, it_tup_bool, it_tup_str, it_tup_tuple, it_tup_list, it_tup_dict, it_lst_int, it_lst_bool, it_lst_str, it_lst_tuple, it_lst_list, it_lst_dict, it_rol_int, it_rol_bool, it_rol_str, it_rol_tuple, it_rol_list, it_rol_dict]
  refine w_call (s_look g) ?_
  rintro d s1 ⟨rfl, rfl⟩
  refine ws_asgs ?_
  simp only [we_con, we_varm, we_glom, we_bin, we_neg, we_cmp, we_chain, we_and, we_or, we_not, we_ife, we_tup, we_lst, we_ix, we_sl, we_rev, we_call, we_blt, we_isi, we_app, we_lc, wa_nil, wa_cons, wr_nil, wr_cons, wo_none, wo_some, wto_none, wto_some, wt_and, wt_or, wt_not, wt_cmp, wt_chain, wt_tru, wi_seq, wi_range, wi_enum, wg_nm, wg_tup, wg_nil, wg_cons, wg_sub, wp_ok, wp_bad, wp_nox, wb_add, wb_sub, wb_mul, wb_fdiv, wb_mod, wb_pow, wc_eq, wc_ne, wc_lt, wc_le, wc_gt, wc_ge, wc_eqb, wc_neb, wc_eqs, wc_nes, wx_int, wx_lent, wx_lenl, wx_lenr, wz_int, wz_str, wz_bl, wz_non, wz_tup, wz_rol, wz_ref, wz_lst, List.getElem?_cons_zero, List.getElem?_cons_succ, List.set_cons_zero, List.set_cons_succ, List.length_cons, List.length_nil, wi_tup, wi_lst, wi_rol, wx_tuplel, wx_tuplet, wx_listt, wto_some, hdq, hqc, ite_f, ite_tt, decide_eq_true_eq, Bool.not_eq_true', wisT, ex_bl, ex_int, ite_tf, ite_ff, wix0, wix1, wix2, Nat.reduceAdd, Nat.reduceLT, sl0, sl1, sl2, sl3, sl4, sl5, sl6, sl10, if_true, true_and, and_true, List.map_cons, List.map_nil, wip, wt_turn, it_non_int, it_non_bool, it_non_str, it_non_tuple, it_non_list, it_non_dict, it_bl_int, it_bl_bool, it_bl_str, it_bl_tuple, it_bl_list, it_bl_dict, it_int_int, it_int_bool, it_int_str, it_int_tuple, it_int_list, it_int_dict, it_str_int, it_str_bool, it_str_str, it_str_tuple, it_str_list, it_str_dict, it_tup_int, it_tup_bool, it_tup_str, it_tup_tuple, it_tup_list, it_tup_dict, it_lst_int, it_lst_bool, it_lst_str, it_lst_tuple, it_lst_list, it_lst_dict, it_rol_int, it_rol_bool, it_rol_str, it_rol_tuple, it_rol_list, it_rol_dict]
  refine w_call (s_sums (k := k + 1) g) ?_
  rintro d s2 ⟨rfl, t, rfl⟩
  simp only [we_con, we_varm, we_glom, we_bin, we_neg, we_cmp, we_chain, we_and, we_or, we_not, we_ife, we_tup, we_lst, we_ix, we_sl, we_rev, we_call, we_blt, we_isi, we_app, we_lc, wa_nil, wa_cons, wr_nil, wr_cons, wo_none, wo_some, wto_none, wto_some, wt_and, wt_or, wt_not, wt_cmp, wt_chain, wt_tru, wi_seq, wi_range, wi_enum, wg_nm, wg_tup, wg_nil, wg_cons, wg_sub, wp_ok, wp_bad, wp_nox, wb_add, wb_sub, wb_mul, wb_fdiv, wb_mod, wb_pow, wc_eq, wc_ne, wc_lt, wc_le, wc_gt, wc_ge, wc_eqb, wc_neb, wc_eqs, wc_nes, wx_int, wx_lent, wx_lenl, wx_lenr, wz_int, wz_str, wz_bl, wz_non, wz_tup, wz_rol, wz_ref, wz_lst, List.getElem?_cons_zero, List.getElem?_cons_succ, List.set_cons_zero, List.set_cons_succ, List.length_cons, List.length_nil, wi_tup, wi_lst, wi_rol, wx_tuplel, wx_tuplet, wx_listt, wto_some, hdq, hqc, ite_f, ite_tt, decide_eq_true_eq, Bool.not_eq_true', wisT, ex_bl, ex_int, ite_tf, ite_ff, wix0, wix1, wix2, Nat.reduceAdd, Nat.reduceLT, sl0, sl1, sl2, sl3, sl4, sl5, sl6, sl10, if_true, true_and, and_true, List.map_cons, List.map_nil, wip, wt_turn, it_non_int, it_non_bool, it_non_str, it_non_tuple, it_non_list, it_non_dict, it_bl_int, it_bl_bool, it_bl_str, it_bl_tuple, it_bl_list, it_bl_dict, it_int_int, it_int_bool, it_int_str, it_int_tuple, it_int_list, it_int_dict, it_str_int, it_str_bool, it_str_str, it_str_tuple, it_str_list, it_str_dict, it_tup_int, it_tup_bool, it_tup_str, it_tup_tuple, it_tup_list, it_tup_dict, it_lst_int, it_lst_bool, it_lst_str, it_lst_tuple, it_lst_list, it_lst_dict, it_rol_int, it_rol_bool, it_rol_str, it_rol_tuple, it_rol_list, it_rol_dict, dTab]
  rw [ws_cons]
  refine ws_par ?_
  simp only [we_con, we_varm, we_glom, we_bin, we_neg, we_cmp, we_chain, we_and, we_or, we_not, we_ife, we_tup, we_lst, we_ix, we_sl, we_rev, we_call, we_blt, we_isi, we_app, we_lc, wa_nil, wa_cons, wr_nil, wr_cons, wo_none, wo_some, wto_none, wto_some, wt_and, wt_or, wt_not, wt_cmp, wt_chain, wt_tru, wi_seq, wi_range, wi_enum, wg_nm, wg_tup, wg_nil, wg_cons, wg_sub, wp_ok, wp_bad, wp_nox, wb_add, wb_sub, wb_mul, wb_fdiv, wb_mod, wb_pow, wc_eq, wc_ne, wc_lt, wc_le, wc_gt, wc_ge, wc_eqb, wc_neb, wc_eqs, wc_nes, wx_int, wx_lent, wx_lenl, wx_lenr, wz_int, wz_str, wz_bl, wz_non, wz_tup, wz_rol, wz_ref, wz_lst, List.getElem?_cons_zero, List.getElem?_cons_succ, List.set_cons_zero, List.set_cons_succ, List.length_cons, List.length_nil, wi_tup, wi_lst, wi_rol, wx_tuplel, wx_tuplet, wx_listt, wto_some, hdq, hqc, ite_f, ite_tt, decide_eq_true_eq, Bool.not_eq_true', wisT, ex_bl, ex_int, ite_tf, ite_ff, wix0, wix1, wix2, Nat.reduceAdd, Nat.reduceLT, sl0, sl1, sl2, sl3, sl4, sl5, sl6, sl10, if_true, true_and, and_true, List.map_cons, List.map_nil, wip, wt_turn, it_non_int, it_non_bool, it_non_str, it_non_tuple, it_non_list, it_non_dict, it_bl_int, it_bl_bool, it_bl_str, it_bl_tuple, it_bl_list, it_bl_dict, it_int_int, it_int_bool, it_int_str, it_int_tuple, it_int_list, it_int_dict, it_str_int, it_str_bool, it_str_str, it_str_tuple, it_str_list, it_str_dict, it_tup_int, it_tup_bool, it_tup_str, it_tup_tuple, it_tup_list, it_tup_dict, it_lst_int, it_lst_bool, it_lst_str, it_lst_tuple, it_lst_list, it_lst_dict, it_rol_int, it_rol_bool, it_rol_str, it_rol_tuple, it_rol_list, it_rol_dict]
  refine ⟨rfl, ?_⟩
  simp only [setPar, we_con, we_varm, we_glom, we_bin, we_neg, we_cmp, we_chain, we_and, we_or, we_not, we_ife, we_tup, we_lst, we_ix, we_sl, we_rev, we_call, we_blt, we_isi, we_app, we_lc, wa_nil, wa_cons, wr_nil, wr_cons, wo_none, wo_some, wto_none, wto_some, wt_and, wt_or, wt_not, wt_cmp, wt_chain, wt_tru, wi_seq, wi_range, wi_enum, wg_nm, wg_tup, wg_nil, wg_cons, wg_sub, wp_ok, wp_bad, wp_nox, wb_add, wb_sub, wb_mul, wb_fdiv, wb_mod, wb_pow, wc_eq, wc_ne, wc_lt, wc_le, wc_gt, wc_ge, wc_eqb, wc_neb, wc_eqs, wc_nes, wx_int, wx_lent, wx_lenl, wx_lenr, wz_int, wz_str, wz_bl, wz_non, wz_tup, wz_rol, wz_ref, wz_lst, List.getElem?_cons_zero, List.getElem?_cons_succ, List.set_cons_zero, List.set_cons_succ, List.length_cons, List.length_nil, wi_tup, wi_lst, wi_rol, wx_tuplel, wx_tuplet, wx_listt, wto_some, hdq, hqc, ite_f, ite_tt, decide_eq_true_eq, Bool.not_eq_true', wisT, ex_bl, ex_int, ite_tf, ite_ff, wix0, wix1, wix2, Nat.reduceAdd, Nat.reduceLT, sl0, sl1, sl2, sl3, sl4, sl5, sl6, sl10, if_true, true_and, and_true, List.map_cons, List.map_nil, wip, wt_turn, it_non_int, it_non_bool, it_non_str, it_non_tuple, it_non_list, it_non_dict, it_bl_int, it_bl_bool, it_bl_str, it_bl_tuple, it_bl_list, it_bl_dict, it_int_int, it_int_bool, it_int_str, it_int_tuple, it_int_list, it_int_dict, it_str_int, it_str_bool, it_str_str, it_str_tuple, it_str_list, it_str_dict, it_tup_int, it_tup_bool, it_tup_str, it_tup_tuple, it_tup_list, it_tup_dict, it_lst_int, it_lst_bool, it_lst_str, it_lst_tuple, it_lst_list, it_lst_dict, it_rol_int, it_rol_bool, it_rol_str, it_rol_tuple, it_rol_list, it_rol_dict]
  have hst : ∀ {j left : Nat}, j < rows.length → Tk rows (j + 1) left ≠ Tk rows j left → (rows.getD j (0, 0)).1 ≤ left := fun {j left} hj h => by
    apply Classical.byContradiction
    intro z
    exact h (if_neg z)
  generalize hu : s1 ++ t = u
  refine ws_cut (fun ρ s' => ∃ x z, ρ = [some (dRows rows), some (.int (room : Nat)), some (dTab rows room), x, z, some (.ref u.length)] ∧ s' = u ++ [.lst ((asc rows rows.length room).reverse.map fun (k : Nat) => .int (k : Int))]) (ws_fo ?_) ?_
  · simp only [we_con, we_varm, we_glom, we_bin, we_neg, we_cmp, we_chain, we_and, we_or, we_not, we_ife, we_tup, we_lst, we_ix, we_sl, we_rev, we_call, we_blt, we_isi, we_app, we_lc, wa_nil, wa_cons, wr_nil, wr_cons, wo_none, wo_some, wto_none, wto_some, wt_and, wt_or, wt_not, wt_cmp, wt_chain, wt_tru, wi_seq, wi_range, wi_enum, wg_nm, wg_tup, wg_nil, wg_cons, wg_sub, wp_ok, wp_bad, wp_nox, wb_add, wb_sub, wb_mul, wb_fdiv, wb_mod, wb_pow, wc_eq, wc_ne, wc_lt, wc_le, wc_gt, wc_ge, wc_eqb, wc_neb, wc_eqs, wc_nes, wx_int, wx_lent, wx_lenl, wx_lenr, wz_int, wz_str, wz_bl, wz_non, wz_tup, wz_rol, wz_ref, wz_lst, List.getElem?_cons_zero, List.getElem?_cons_succ, List.set_cons_zero, List.set_cons_succ, List.length_cons, List.length_nil, wi_tup, wi_lst, wi_rol, wx_tuplel, wx_tuplet, wx_listt, wto_some, hdq, hqc, ite_f, ite_tt, decide_eq_true_eq, Bool.not_eq_true', wisT, ex_bl, ex_int, ite_tf, ite_ff, wix0, wix1, wix2, Nat.reduceAdd, Nat.reduceLT, sl0, sl1, sl2, sl3, sl4, sl5, sl6, sl10, if_true, true_and, and_true, List.map_cons, List.map_nil, wip, wt_turn, it_non_int, it_non_bool, it_non_str, it_non_tuple, it_non_list, it_non_dict, it_bl_int, it_bl_bool, it_bl_str, it_bl_tuple, it_bl_list, it_bl_dict, it_int_int, it_int_bool, it_int_str, it_int_tuple, it_int_list, it_int_dict, it_str_int, it_str_bool, it_str_str, it_str_tuple, it_str_list, it_str_dict, it_tup_int, it_tup_bool, it_tup_str, it_tup_tuple, it_tup_list, it_tup_dict, it_lst_int, it_lst_bool, it_lst_str, it_lst_tuple, it_lst_list, it_lst_dict, it_rol_int, it_rol_bool, it_rol_str, it_rol_tuple, it_rol_list, it_rol_dict, List.length_map]
    rw [wri_d (lt62 (by have := g.few; omega)), down]
    refine ⟨fun r ρ s' => ∃ (j : Nat) (x : Option D) (P : List Nat) (left : Nat), j ≤ rows.length ∧ r = (List.range j).reverse.map (fun (k : Nat) => D.int (k : Int)) ∧ ρ = [some (dRows rows), some (.int (room : Nat)), some (dTab rows room), x, some (.int (left : Nat)), some (.ref u.length)] ∧
      s' = u ++ [.lst (P.map fun (k : Nat) => D.int (k : Int))] ∧ left ≤ room ∧ asc rows rows.length room = asc rows j left ++ P.reverse ∧ P.length + j ≤ rows.length, ?_, ?_, ?_⟩
    · exact ⟨rows.length, none, [], room, Nat.le_refl _, rfl, rfl, rfl, Nat.le_refl _, by simp, by simp⟩
    · rintro ρ s' ⟨j, x, P, left, hj, e, rfl, rfl, hle, ha, _⟩
      have hj0 : j = 0 := by
        have := congrArg List.length e
        simp at this; omega
      subst hj0
      refine ⟨rfl, x, _, rfl, ?_⟩
      rw [ha]
      show _ = u ++ [O.lst (([] ++ P.reverse).reverse.map _)]
      rw [List.nil_append, List.reverse_reverse]
    · rintro x r ρ s' ⟨j, y, P, left, hj, e, rfl, rfl, hle, ha, hP⟩
      cases j with
      | zero => cases e
      | succ j =>
        rw [List.range_succ, List.reverse_append, List.reverse_singleton, List.singleton_append, List.map_cons] at e
        cases e
        refine ⟨rfl, ?_⟩
        have hj2 : j < rows.length := hj
        simp only [we_con, we_varm, we_glom, we_bin, we_neg, we_cmp, we_chain, we_and, we_or, we_not, we_ife, we_tup, we_lst, we_ix, we_sl, we_rev, we_call, we_blt, we_isi, we_app, we_lc, wa_nil, wa_cons, wr_nil, wr_cons, wo_none, wo_some, wto_none, wto_some, wt_and, wt_or, wt_not, wt_cmp, wt_chain, wt_tru, wi_seq, wi_range, wi_enum, wg_nm, wg_tup, wg_nil, wg_cons, wg_sub, wp_ok, wp_bad, wp_nox, wb_add, wb_sub, wb_mul, wb_fdiv, wb_mod, wb_pow, wc_eq, wc_ne, wc_lt, wc_le, wc_gt, wc_ge, wc_eqb, wc_neb, wc_eqs, wc_nes, wx_int, wx_lent, wx_lenl, wx_lenr, wz_int, wz_str, wz_bl, wz_non, wz_tup, wz_rol, wz_ref, wz_lst, List.getElem?_cons_zero, List.getElem?_cons_succ, List.set_cons_zero, List.set_cons_succ, List.length_cons, List.length_nil, wi_tup, wi_lst, wi_rol, wx_tuplel, wx_tuplet, wx_listt, wto_some, hdq, hqc, ite_f, ite_tt, decide_eq_true_eq, Bool.not_eq_true', wisT, ex_bl, ex_int, ite_tf, ite_ff, wix0, wix1, wix2, Nat.reduceAdd, Nat.reduceLT, sl0, sl1, sl2, sl3, sl4, sl5, sl6, sl10, if_true, true_and, and_true, List.map_cons, List.map_nil, wip, wt_turn, it_non_int, it_non_bool, it_non_str, it_non_tuple, it_non_list, it_non_dict, it_bl_int, it_bl_bool, it_bl_str, it_bl_tuple, it_bl_list, it_bl_dict, it_int_int, it_int_bool, it_int_str, it_int_tuple, it_int_list, it_int_dict, it_str_int, it_str_bool, it_str_str, it_str_tuple, it_str_list, it_str_dict, it_tup_int, it_tup_bool, it_tup_str, it_tup_tuple, it_tup_list, it_tup_dict, it_lst_int, it_lst_bool, it_lst_str, it_lst_tuple, it_lst_list, it_lst_dict, it_rol_int, it_rol_bool, it_rol_str, it_rol_tuple, it_rol_list, it_rol_dict]
        refine ws_1 (ws_ife ?_)
        have e1 : ∀ {s : S} {P : D → S → Prop}, Wp (ixD (dTab rows room) (.int ((j : Int) + 1)) s) P = P (dT rows room (j + 1)) s := by
          intro s P
          exact wixt (n := j + 1) (tab_at (by omega))
        have e2 : ∀ {s : S} {P : D → S → Prop}, Wp (ixD (dTab rows room) (.int (j : Int)) s) P = P (dT rows room j) s := by
          intro s P
          exact wixt (n := j) (tab_at (by omega))
        have e3 : ∀ {s : S} {P : D → S → Prop} {i : Nat}, Wp (ixD (dT rows room i) (.int (left : Int)) s) P = P (.int (Tk rows i left : Nat)) s := by
          intro s P i
          exact wixt (n := left) (dT_at (by omega))
        have e4 : ∀ {s : S} {P : D → S → Prop}, Wp (ixD (dRows rows) (.int (j : Int)) s) P = P (dRow rows[j]) s := by
          intro s P
          exact wixt (n := j) (row_at hj2)
        have hr : rows.getD j (0, 0) = rows[j] := by rw [List.getD_eq_getElem?_getD, List.getElem?_eq_getElem hj2]; rfl
        simp only [we_con, we_varm, we_glom, we_bin, we_neg, we_cmp, we_chain, we_and, we_or, we_not, we_ife, we_tup, we_lst, we_ix, we_sl, we_rev, we_call, we_blt, we_isi, we_app, we_lc, wa_nil, wa_cons, wr_nil, wr_cons, wo_none, wo_some, wto_none, wto_some, wt_and, wt_or, wt_not, wt_cmp, wt_chain, wt_tru, wi_seq, wi_range, wi_enum, wg_nm, wg_tup, wg_nil, wg_cons, wg_sub, wp_ok, wp_bad, wp_nox, wb_add, wb_sub, wb_mul, wb_fdiv, wb_mod, wb_pow, wc_eq, wc_ne, wc_lt, wc_le, wc_gt, wc_ge, wc_eqb, wc_neb, wc_eqs, wc_nes, wx_int, wx_lent, wx_lenl, wx_lenr, wz_int, wz_str, wz_bl, wz_non, wz_tup, wz_rol, wz_ref, wz_lst, List.getElem?_cons_zero, List.getElem?_cons_succ, List.set_cons_zero, List.set_cons_succ, List.length_cons, List.length_nil, wi_tup, wi_lst, wi_rol, wx_tuplel, wx_tuplet, wx_listt, wto_some, hdq, hqc, ite_f, ite_tt, decide_eq_true_eq, Bool.not_eq_true', wisT, ex_bl, ex_int, ite_tf, ite_ff, wix0, wix1, wix2, Nat.reduceAdd, Nat.reduceLT, sl0, sl1, sl2, sl3, sl4, sl5, sl6, sl10, if_true, true_and, and_true, List.map_cons, List.map_nil, wip, wt_turn, it_non_int, it_non_bool, it_non_str, it_non_tuple, it_non_list, it_non_dict, it_bl_int, it_bl_bool, it_bl_str, it_bl_tuple, it_bl_list, it_bl_dict, it_int_int, it_int_bool, it_int_str, it_int_tuple, it_int_list, it_int_dict, it_str_int, it_str_bool, it_str_str, it_str_tuple, it_str_list, it_str_dict, it_tup_int, it_tup_bool, it_tup_str, it_tup_tuple, it_tup_list, it_tup_dict, it_lst_int, it_lst_bool, it_lst_str, it_lst_tuple, it_lst_list, it_lst_dict, it_rol_int, it_rol_bool, it_rol_str, it_rol_tuple, it_rol_list, it_rol_dict, e1, e2, e3]
        refine ite_p (fun hne => ?_) fun hne => ?_
        · have hne : Tk rows (j + 1) left ≠ Tk rows j left := by
            simp at hne; omega
          have hsz := hst hj2 hne
          rw [hr] at hsz
          rw [ws_cons]
          refine ws_expr ?_
          simp only [we_con, we_varm, we_glom, we_bin, we_neg, we_cmp, we_chain, we_and, we_or, we_not, we_ife, we_tup, we_lst, we_ix, we_sl, we_rev, we_call, we_blt, we_isi, we_app, we_lc, wa_nil, wa_cons, wr_nil, wr_cons, wo_none, wo_some, wto_none, wto_some, wt_and, wt_or, wt_not, wt_cmp, wt_chain, wt_tru, wi_seq, wi_range, wi_enum, wg_nm, wg_tup, wg_nil, wg_cons, wg_sub, wp_ok, wp_bad, wp_nox, wb_add, wb_sub, wb_mul, wb_fdiv, wb_mod, wb_pow, wc_eq, wc_ne, wc_lt, wc_le, wc_gt, wc_ge, wc_eqb, wc_neb, wc_eqs, wc_nes, wx_int, wx_lent, wx_lenl, wx_lenr, wz_int, wz_str, wz_bl, wz_non, wz_tup, wz_rol, wz_ref, wz_lst, List.getElem?_cons_zero, List.getElem?_cons_succ, List.set_cons_zero, List.set_cons_succ, List.length_cons, List.length_nil, wi_tup, wi_lst, wi_rol, wx_tuplel, wx_tuplet, wx_listt, wto_some, hdq, hqc, ite_f, ite_tt, decide_eq_true_eq, Bool.not_eq_true', wisT, ex_bl, ex_int, ite_tf, ite_ff, wix0, wix1, wix2, Nat.reduceAdd, Nat.reduceLT, sl0, sl1, sl2, sl3, sl4, sl5, sl6, sl10, if_true, true_and, and_true, List.map_cons, List.map_nil, wip, wt_turn, it_non_int, it_non_bool, it_non_str, it_non_tuple, it_non_list, it_non_dict, it_bl_int, it_bl_bool, it_bl_str, it_bl_tuple, it_bl_list, it_bl_dict, it_int_int, it_int_bool, it_int_str, it_int_tuple, it_int_list, it_int_dict, it_str_int, it_str_bool, it_str_str, it_str_tuple, it_str_list, it_str_dict, it_tup_int, it_tup_bool, it_tup_str, it_tup_tuple, it_tup_list, it_tup_dict, it_lst_int, it_lst_bool, it_lst_str, it_lst_tuple, it_lst_list, it_lst_dict, it_rol_int, it_rol_bool, it_rol_str, it_rol_tuple, it_rol_list, it_rol_dict, mut_ref lk_new1, Option.isSome_some]
          rw [wm_app lk_new1 (Nat.lt_of_le_of_lt (m := 8) (by have := g.few; simp; omega) (by decide))]
          rw [List.set_append_right _ _ (Nat.le_refl _), Nat.sub_self, List.set_cons_zero]
          refine ws_1 (ws_aug (x := .int (left : Nat)) rfl ?_)
          simp only [we_con, we_varm, we_glom, we_bin, we_neg, we_cmp, we_chain, we_and, we_or, we_not, we_ife, we_tup, we_lst, we_ix, we_sl, we_rev, we_call, we_blt, we_isi, we_app, we_lc, wa_nil, wa_cons, wr_nil, wr_cons, wo_none, wo_some, wto_none, wto_some, wt_and, wt_or, wt_not, wt_cmp, wt_chain, wt_tru, wi_seq, wi_range, wi_enum, wg_nm, wg_tup, wg_nil, wg_cons, wg_sub, wp_ok, wp_bad, wp_nox, wb_add, wb_sub, wb_mul, wb_fdiv, wb_mod, wb_pow, wc_eq, wc_ne, wc_lt, wc_le, wc_gt, wc_ge, wc_eqb, wc_neb, wc_eqs, wc_nes, wx_int, wx_lent, wx_lenl, wx_lenr, wz_int, wz_str, wz_bl, wz_non, wz_tup, wz_rol, wz_ref, wz_lst, List.getElem?_cons_zero, List.getElem?_cons_succ, List.set_cons_zero, List.set_cons_succ, List.length_cons, List.length_nil, wi_tup, wi_lst, wi_rol, wx_tuplel, wx_tuplet, wx_listt, wto_some, hdq, hqc, ite_f, ite_tt, decide_eq_true_eq, Bool.not_eq_true', wisT, ex_bl, ex_int, ite_tf, ite_ff, wix0, wix1, wix2, Nat.reduceAdd, Nat.reduceLT, sl0, sl1, sl2, sl3, sl4, sl5, sl6, sl10, if_true, true_and, and_true, List.map_cons, List.map_nil, wip, wt_turn, it_non_int, it_non_bool, it_non_str, it_non_tuple, it_non_list, it_non_dict, it_bl_int, it_bl_bool, it_bl_str, it_bl_tuple, it_bl_list, it_bl_dict, it_int_int, it_int_bool, it_int_str, it_int_tuple, it_int_list, it_int_dict, it_str_int, it_str_bool, it_str_str, it_str_tuple, it_str_list, it_str_dict, it_tup_int, it_tup_bool, it_tup_str, it_tup_tuple, it_tup_list, it_tup_dict, it_lst_int, it_lst_bool, it_lst_str, it_lst_tuple, it_lst_list, it_lst_dict, it_rol_int, it_rol_bool, it_rol_str, it_rol_tuple, it_rol_list, it_rol_dict, e4, dRow]
          refine .of (a := .int ((left - rows[j].1 : Nat) : Int)) (s' := u ++ [.lst (P.map (fun (k : Nat) => D.int (k : Int)) ++ [.int (j : Nat)])]) ?_ ?_
          · show R.ok _ _ = _
            refine congrArg (fun z => R.ok (D.int z) _) ?_
            omega
          · refine ⟨j, _, P ++ [j], left - rows[j].1, by omega, rfl, rfl, ?_, by omega, ?_, ?_⟩
            · rw [List.map_append]; rfl
            · rw [ha]
              show (if Tk rows (j + 1) left ≠ Tk rows j left then _ else _) ++ _ = _
              rw [if_pos hne, hr]
              simp
            · simp; omega
        · have hne : ¬ Tk rows (j + 1) left ≠ Tk rows j left := by
            simp at hne; omega
          rw [ws_nil]
          refine ⟨j, _, P, left, by omega, rfl, rfl, rfl, hle, ?_, by omega⟩
          rw [ha]
          show (if Tk rows (j + 1) left ≠ Tk rows j left then _ else _) ++ _ = _
          rw [if_neg hne]
  · rintro ρ s' ⟨x, z, rfl, rfl⟩
    refine ws_rets ?_
    simp only [we_con, we_varm, we_glom, we_bin, we_neg, we_cmp, we_chain, we_and, we_or, we_not, we_ife, we_tup, we_lst, we_ix, we_sl, we_rev, we_call, we_blt, we_isi, we_app, we_lc, wa_nil, wa_cons, wr_nil, wr_cons, wo_none, wo_some, wto_none, wto_some, wt_and, wt_or, wt_not, wt_cmp, wt_chain, wt_tru, wi_seq, wi_range, wi_enum, wg_nm, wg_tup, wg_nil, wg_cons, wg_sub, wp_ok, wp_bad, wp_nox, wb_add, wb_sub, wb_mul, wb_fdiv, wb_mod, wb_pow, wc_eq, wc_ne, wc_lt, wc_le, wc_gt, wc_ge, wc_eqb, wc_neb, wc_eqs, wc_nes, wx_int, wx_lent, wx_lenl, wx_lenr, wz_int, wz_str, wz_bl, wz_non, wz_tup, wz_rol, wz_ref, wz_lst, List.getElem?_cons_zero, List.getElem?_cons_succ, List.set_cons_zero, List.set_cons_succ, List.length_cons, List.length_nil, wi_tup, wi_lst, wi_rol, wx_tuplel, wx_tuplet, wx_listt, wto_some, hdq, hqc, ite_f, ite_tt, decide_eq_true_eq, Bool.not_eq_true', wisT, ex_bl, ex_int, ite_tf, ite_ff, wix0, wix1, wix2, Nat.reduceAdd, Nat.reduceLT, sl0, sl1, sl2, sl3, sl4, sl5, sl6, sl10, if_true, true_and, and_true, List.map_cons, List.map_nil, wip, wt_turn, it_non_int, it_non_bool, it_non_str, it_non_tuple, it_non_list, it_non_dict, it_bl_int, it_bl_bool, it_bl_str, it_bl_tuple, it_bl_list, it_bl_dict, it_int_int, it_int_bool, it_int_str, it_int_tuple, it_int_list, it_int_dict, it_str_int, it_str_bool, it_str_str, it_str_tuple, it_str_list, it_str_dict, it_tup_int, it_tup_bool, it_tup_str, it_tup_tuple, it_tup_list, it_tup_dict, it_lst_int, it_lst_bool, it_lst_str, it_lst_tuple, it_lst_list, it_lst_dict, it_rol_int, it_rol_bool, it_rol_str, it_rol_tuple, it_rol_list, it_rol_dict]
    have h1 : ((List.range (rows.length + 1)).map (dT rows room)).getLast? = some (dT rows room rows.length) := by rw [rng1]; simp
    unfold dTab
    rw [wixlast h1]
    unfold dT
    rw [wixt (dT_at (Nat.lt_succ_self room))]
    simp only [we_con, we_varm, we_glom, we_bin, we_neg, we_cmp, we_chain, we_and, we_or, we_not, we_ife, we_tup, we_lst, we_ix, we_sl, we_rev, we_call, we_blt, we_isi, we_app, we_lc, wa_nil, wa_cons, wr_nil, wr_cons, wo_none, wo_some, wto_none, wto_some, wt_and, wt_or, wt_not, wt_cmp, wt_chain, wt_tru, wi_seq, wi_range, wi_enum, wg_nm, wg_tup, wg_nil, wg_cons, wg_sub, wp_ok, wp_bad, wp_nox, wb_add, wb_sub, wb_mul, wb_fdiv, wb_mod, wb_pow, wc_eq, wc_ne, wc_lt, wc_le, wc_gt, wc_ge, wc_eqb, wc_neb, wc_eqs, wc_nes, wx_int, wx_lent, wx_lenl, wx_lenr, wz_int, wz_str, wz_bl, wz_non, wz_tup, wz_rol, wz_ref, wz_lst, List.getElem?_cons_zero, List.getElem?_cons_succ, List.set_cons_zero, List.set_cons_succ, List.length_cons, List.length_nil, wi_tup, wi_lst, wi_rol, wx_tuplel, wx_tuplet, wx_listt, wto_some, hdq, hqc, ite_f, ite_tt, decide_eq_true_eq, Bool.not_eq_true', wisT, ex_bl, ex_int, ite_tf, ite_ff, wix0, wix1, wix2, Nat.reduceAdd, Nat.reduceLT, sl0, sl1, sl2, sl3, sl4, sl5, sl6, sl10, if_true, true_and, and_true, List.map_cons, List.map_nil, wip, wt_turn, it_non_int, it_non_bool, it_non_str, it_non_tuple, it_non_list, it_non_dict, it_bl_int, it_bl_bool, it_bl_str, it_bl_tuple, it_bl_list, it_bl_dict, it_int_int, it_int_bool, it_int_str, it_int_tuple, it_int_list, it_int_dict, it_str_int, it_str_bool, it_str_str, it_str_tuple, it_str_list, it_str_dict, it_tup_int, it_tup_bool, it_tup_str, it_tup_tuple, it_tup_list, it_tup_dict, it_lst_int, it_lst_bool, it_lst_str, it_lst_tuple, it_lst_list, it_lst_dict, it_rol_int, it_rol_bool, it_rol_str, it_rol_tuple, it_rol_list, it_rol_dict, ex_lst lk_new1]
    refine ⟨?_, by rw [← hu, List.append_assoc]; exact ⟨_, rfl⟩⟩
    unfold dNs
    rw [← List.map_reverse, List.reverse_reverse]
end DI.L

set_option Elab.async false
set_option linter.all false
set_option maxRecDepth 100000
set_option maxHeartbeats 4000000
/-! the plain law, E: the lots. -/
namespace DI.L
open PySem L2
abbrev Lot := List Nat × Nat × Nat
def lots (rows : List (Nat × Nat)) (room : Nat) : Nat → List Lot
  | 0 => [([], 0, 0)]
  | k + 1 => lots rows room k ++ (lots rows room k).filterMap fun l => if l.2.1 + (rows.getD k (0, 0)).1 ≤ room then some (l.1 ++ [k], l.2.1 + (rows.getD k (0, 0)).1, l.2.2 + (rows.getD k (0, 0)).2) else none
def dLot (l : Lot) : D := .tup [dNs l.1, .int (l.2.1 : Nat), .int (l.2.2 : Nat)]
theorem lots_succ {rows : List (Nat × Nat)} {room k : Nat} {l : Lot} : l ∈ lots rows room (k + 1) ↔ l ∈ lots rows room k ∨ ∃ l', l' ∈ lots rows room k ∧ l'.2.1 + (rows.getD k (0, 0)).1 ≤ room ∧ l = (l'.1 ++ [k], l'.2.1 + (rows.getD k (0, 0)).1, l'.2.2 + (rows.getD k (0, 0)).2) := by
  show l ∈ lots rows room k ++ _ ↔ _
  rw [List.mem_append, List.mem_filterMap]
  refine or_congr Iff.rfl ⟨?_, ?_⟩
  · rintro ⟨l', h1, h2⟩
    split at h2
    · cases h2; exact ⟨l', h1, by assumption, rfl⟩
    · cases h2
  · rintro ⟨l', h1, h2, rfl⟩
    exact ⟨l', h1, by rw [if_pos h2]⟩
theorem lots_len {rows : List (Nat × Nat)} {room : Nat} : ∀ {k : Nat}, (lots rows room k).length ≤ 2 ^ k
  | 0 => Nat.le_refl _
  | k + 1 => by
    have ih := lots_len (rows := rows) (room := room) (k := k)
    show (lots rows room k ++ _).length ≤ _
    rw [List.length_append]
    have := List.length_filterMap_le (fun l : Lot => if l.2.1 + (rows.getD k (0, 0)).1 ≤ room then some (l.1 ++ [k], l.2.1 + (rows.getD k (0, 0)).1, l.2.2 + (rows.getD k (0, 0)).2) else none) (lots rows room k)
    rw [Nat.pow_succ]; omega
/-- what is within a lot -/
theorem lots_in {rows : List (Nat × Nat)} {room : Nat} : ∀ {k : Nat} {l : Lot}, l ∈ lots rows room k → l.1.length ≤ k ∧ (∀ j ∈ l.1, j < k) ∧ l.1.Pairwise (· < ·) ∧ l.2.1 ≤ room ∧ l.2.1 = (l.1.map fun j => (rows.getD j (0, 0)).1).sum ∧ l.2.2 = (l.1.map fun j => (rows.getD j (0, 0)).2).sum
  | 0, l, h => by
    have : l = ([], 0, 0) := by simpa [lots] using h
    subst this
    simp
  | k + 1, l, h => by
    rcases lots_succ.mp h with h' | ⟨l', h', hle, rfl⟩
    · obtain ⟨a, b, c, d, e, f⟩ := lots_in h'
      exact ⟨by omega, fun j hj => by have := b j hj; omega, c, d, e, f⟩
    · obtain ⟨a, b, c, d, e, f⟩ := lots_in h'
      refine ⟨by simp; omega, fun j hj => ?_, ?_, hle, by simp [e], by simp [f]⟩
      · rcases List.mem_append.mp hj with hj | hj
        · have := b j hj; omega
        · simp at hj; omega
      · rw [List.pairwise_append]
        exact ⟨c, by simp, fun x hx y hy => by simp at hy; subst hy; exact b x hx⟩
theorem lots_nil {rows : List (Nat × Nat)} {room : Nat} : ∀ {k : Nat}, ([], 0, 0) ∈ lots rows room k
  | 0 => by simp [lots]
  | k + 1 => lots_succ.mpr (.inl lots_nil)
/-- the table is the most that a lot gives -/
theorem tk_ge {rows : List (Nat × Nat)} {room : Nat} : ∀ {k : Nat} {l : Lot} {j : Nat}, l ∈ lots rows room k → l.2.1 ≤ j → l.2.2 ≤ Tk rows k j
  | 0, l, j, h, hj => by
    have : l = ([], 0, 0) := by simpa [lots] using h
    subst this
    exact Nat.zero_le _
  | k + 1, l, j, h, hj => by
    unfold Tk
    rcases lots_succ.mp h with h' | ⟨l', h', hle, rfl⟩
    · have := tk_ge h' hj
      split <;> omega
    · have hj : l'.2.1 + (rows.getD k (0, 0)).1 ≤ j := hj
      have := tk_ge (j := j - (rows.getD k (0, 0)).1) h' (by omega)
      rw [if_pos (by omega)]
      show l'.2.2 + (rows.getD k (0, 0)).2 ≤ _
      omega
theorem tk_is {rows : List (Nat × Nat)} {room : Nat} : ∀ {k : Nat} {j : Nat}, j ≤ room → ∃ l ∈ lots rows room k, l.2.1 ≤ j ∧ l.2.2 = Tk rows k j
  | 0, j, _ => ⟨([], 0, 0), by simp [lots], Nat.zero_le _, rfl⟩
  | k + 1, j, hj => by
    obtain ⟨l1, a1, b1, c1⟩ := tk_is (rows := rows) (room := room) (k := k) (j := j) hj
    unfold Tk
    split
    · rename_i hs
      obtain ⟨l2, a2, b2, c2⟩ := tk_is (rows := rows) (room := room) (k := k) (j := j - (rows.getD k (0, 0)).1) (by omega)
      by_cases h : Tk rows k j ≤ Tk rows k (j - (rows.getD k (0, 0)).1) + (rows.getD k (0, 0)).2
      · refine ⟨_, lots_succ.mpr (.inr ⟨l2, a2, by omega, rfl⟩), ?_, ?_⟩
        · show l2.2.1 + _ ≤ j; omega
        · show l2.2.2 + _ = _; omega
      · exact ⟨l1, lots_succ.mpr (.inl a1), b1, by omega⟩
    · exact ⟨l1, lots_succ.mpr (.inl a1), b1, c1⟩
/-- the rows ahead of k alone -/
theorem lots_take {rows : List (Nat × Nat)} {room n : Nat} : ∀ {k : Nat}, k ≤ n → lots (rows.take n) room k = lots rows room k
  | 0, _ => rfl
  | k + 1, h => by
    unfold lots
    have e : (rows.take n).getD k (0, 0) = rows.getD k (0, 0) := by
      rw [List.getD_eq_getElem?_getD, List.getD_eq_getElem?_getD, List.getElem?_take_of_lt (by omega)]
    rw [lots_take (by omega), e]
theorem c_lots (k : Nat) (a b : D) (s : S) : cl (k+1) "_law_lots" [a, b] s = runF (cfg.q k) 7 d__law_lots.body [a, b] s := by kernel_rfl
theorem range_map {n : Nat} : rangeL 0 n 1 = (List.range' 0 n).map fun (k : Nat) => D.int (k : Int) := by rw [rangeL_1, List.range_eq_range']
theorem s_lots {k : Nat} {rows : List (Nat × Nat)} {room : Nat} {s : S} (g : Good rows room) : Wp (cl (k+1) "_law_lots" [dRows rows, .int (room : Nat)] s) fun d s' => ∃ r t, d = .ref r ∧ s' = s ++ t ∧ lk s' r = some ((lots rows room rows.length).map dLot) := by
  rw [c_lots]
  refine wf_run ?_
  show Ws (runSs (cfg.q k) d__law_lots.body [some (dRows rows), some (.int (room : Nat)), none, none, none, none, none] s) _
  unfold d__law_lots
  refine ws_asgs ?_
  simp only [we_con, we_varm, we_glom, we_bin, we_neg, we_cmp, we_chain, we_and, we_or, we_not, we_ife, we_tup, we_lst, we_ix, we_sl, we_rev, we_call, we_blt, we_isi, we_app, we_lc, wa_nil, wa_cons, wr_nil, wr_cons, wo_none, wo_some, wto_none, wto_some, wt_and, wt_or, wt_not, wt_cmp, wt_chain, wt_tru, wi_seq, wi_range, wi_enum, wg_nm, wg_tup, wg_nil, wg_cons, wg_sub, wp_ok, wp_bad, wp_nox, wb_add, wb_sub, wb_mul, wb_fdiv, wb_mod, wb_pow, wc_eq, wc_ne, wc_lt, wc_le, wc_gt, wc_ge, wc_eqb, wc_neb, wc_eqs, wc_nes, wx_int, wx_lent, wx_lenl, wx_lenr, wz_int, wz_str, wz_bl, wz_non, wz_tup, wz_rol, wz_ref, wz_lst, List.getElem?_cons_zero, List.getElem?_cons_succ, List.set_cons_zero, List.set_cons_succ, List.length_cons, List.length_nil, wi_tup, wi_lst, wi_rol, wx_tuplel, wx_tuplet, wx_listt, wto_some, hdq, hqc, ite_f, ite_tt, decide_eq_true_eq, Bool.not_eq_true', wisT, ex_bl, ex_int, ite_tf, ite_ff, wix0, wix1, wix2, Nat.reduceAdd, Nat.reduceLT, sl0, sl1, sl2, sl3, sl4, sl5, sl6, sl10, if_true, true_and, and_true, List.map_cons, List.map_nil, wip, wt_turn, it_non_int, it_non_bool, it_non_str, it_non_tuple, it_non_list, it_non_dict, it_bl_int, it_bl_bool, it_bl_str, it_bl_tuple, it_bl_list, it_bl_dict, it_int_int, it_int_bool, it_int_str, it_int_tuple, it_int_list, it_int_dict, it_str_int, it_str_bool, it_str_str, it_str_tuple, it_str_list, it_str_dict, it_tup_int, it_tup_bool, it_tup_str, it_tup_tuple, it_tup_list, it_tup_dict, it_lst_int, it_lst_bool, it_lst_str, it_lst_tuple, it_lst_list, it_lst_dict, it_rol_int, it_rol_bool, it_rol_str, it_rol_tuple, it_rol_list, it_rol_dict]
  refine ws_cut (fun ρ s' => ∃ x r t, ρ = [some (dRows rows), some (.int (room : Nat)), some (.ref r), x, none, none, none] ∧ s' = s ++ t ∧ lk s' r = some ((lots rows room rows.length).map dLot)) (ws_fo ?_) ?_
  · have hlen : (dRows rows).seqOf s = some (rows.map dRow) := rfl
    simp only [dRows, we_con, we_varm, we_glom, we_bin, we_neg, we_cmp, we_chain, we_and, we_or, we_not, we_ife, we_tup, we_lst, we_ix, we_sl, we_rev, we_call, we_blt, we_isi, we_app, we_lc, wa_nil, wa_cons, wr_nil, wr_cons, wo_none, wo_some, wto_none, wto_some, wt_and, wt_or, wt_not, wt_cmp, wt_chain, wt_tru, wi_seq, wi_range, wi_enum, wg_nm, wg_tup, wg_nil, wg_cons, wg_sub, wp_ok, wp_bad, wp_nox, wb_add, wb_sub, wb_mul, wb_fdiv, wb_mod, wb_pow, wc_eq, wc_ne, wc_lt, wc_le, wc_gt, wc_ge, wc_eqb, wc_neb, wc_eqs, wc_nes, wx_int, wx_lent, wx_lenl, wx_lenr, wz_int, wz_str, wz_bl, wz_non, wz_tup, wz_rol, wz_ref, wz_lst, List.getElem?_cons_zero, List.getElem?_cons_succ, List.set_cons_zero, List.set_cons_succ, List.length_cons, List.length_nil, wi_tup, wi_lst, wi_rol, wx_tuplel, wx_tuplet, wx_listt, wto_some, hdq, hqc, ite_f, ite_tt, decide_eq_true_eq, Bool.not_eq_true', wisT, ex_bl, ex_int, ite_tf, ite_ff, wix0, wix1, wix2, Nat.reduceAdd, Nat.reduceLT, sl0, sl1, sl2, sl3, sl4, sl5, sl6, sl10, if_true, true_and, and_true, List.map_cons, List.map_nil, wip, wt_turn, it_non_int, it_non_bool, it_non_str, it_non_tuple, it_non_list, it_non_dict, it_bl_int, it_bl_bool, it_bl_str, it_bl_tuple, it_bl_list, it_bl_dict, it_int_int, it_int_bool, it_int_str, it_int_tuple, it_int_list, it_int_dict, it_str_int, it_str_bool, it_str_str, it_str_tuple, it_str_list, it_str_dict, it_tup_int, it_tup_bool, it_tup_str, it_tup_tuple, it_tup_list, it_tup_dict, it_lst_int, it_lst_bool, it_lst_str, it_lst_tuple, it_lst_list, it_lst_dict, it_rol_int, it_rol_bool, it_rol_str, it_rol_tuple, it_rol_list, it_rol_dict, List.length_map]
    rw [wri_1 (lt62 (by have := g.few; omega)), range_map]
    refine ⟨fun it ρ s' => ∃ (j : Nat) (x : Option D) (r : Nat) (t : S), j ≤ rows.length ∧ it = (List.range' j (rows.length - j)).map (fun (k : Nat) => D.int (k : Int)) ∧ ρ = [some (dRows rows), some (.int (room : Nat)), some (.ref r), x, none, none, none] ∧ s' = s ++ t ∧ lk s' r = some ((lots rows room j).map dLot), ?_, ?_, ?_⟩
    · exact ⟨0, none, _, _, Nat.zero_le _, rfl, rfl, rfl, lk_new1⟩
    · rintro ρ s' ⟨j, x, r, t, hj, e, rfl, rfl, hl⟩
      have hj0 : j = rows.length := by
        have := congrArg List.length e
        simp at this; omega
      subst hj0
      exact ⟨rfl, x, r, t, rfl, rfl, hl⟩
    · rintro x it ρ s' ⟨j, y, r, t, hj, e, rfl, rfl, hl⟩
      obtain ⟨m, hm⟩ : ∃ m, rows.length - j = m + 1 := by
        cases h : rows.length - j with
        | zero => rw [h] at e; cases e
        | succ m => exact ⟨m, rfl⟩
      rw [hm, List.range'_succ, List.map_cons] at e
      cases e
      refine ⟨rfl, ?_⟩
      have hj2 : j < rows.length := by omega
      simp only [we_con, we_varm, we_glom, we_bin, we_neg, we_cmp, we_chain, we_and, we_or, we_not, we_ife, we_tup, we_lst, we_ix, we_sl, we_rev, we_call, we_blt, we_isi, we_app, we_lc, wa_nil, wa_cons, wr_nil, wr_cons, wo_none, wo_some, wto_none, wto_some, wt_and, wt_or, wt_not, wt_cmp, wt_chain, wt_tru, wi_seq, wi_range, wi_enum, wg_nm, wg_tup, wg_nil, wg_cons, wg_sub, wp_ok, wp_bad, wp_nox, wb_add, wb_sub, wb_mul, wb_fdiv, wb_mod, wb_pow, wc_eq, wc_ne, wc_lt, wc_le, wc_gt, wc_ge, wc_eqb, wc_neb, wc_eqs, wc_nes, wx_int, wx_lent, wx_lenl, wx_lenr, wz_int, wz_str, wz_bl, wz_non, wz_tup, wz_rol, wz_ref, wz_lst, List.getElem?_cons_zero, List.getElem?_cons_succ, List.set_cons_zero, List.set_cons_succ, List.length_cons, List.length_nil, wi_tup, wi_lst, wi_rol, wx_tuplel, wx_tuplet, wx_listt, wto_some, hdq, hqc, ite_f, ite_tt, decide_eq_true_eq, Bool.not_eq_true', wisT, ex_bl, ex_int, ite_tf, ite_ff, wix0, wix1, wix2, Nat.reduceAdd, Nat.reduceLT, sl0, sl1, sl2, sl3, sl4, sl5, sl6, sl10, if_true, true_and, and_true, List.map_cons, List.map_nil, wip, wt_turn, it_non_int, it_non_bool, it_non_str, it_non_tuple, it_non_list, it_non_dict, it_bl_int, it_bl_bool, it_bl_str, it_bl_tuple, it_bl_list, it_bl_dict, it_int_int, it_int_bool, it_int_str, it_int_tuple, it_int_list, it_int_dict, it_str_int, it_str_bool, it_str_str, it_str_tuple, it_str_list, it_str_dict, it_tup_int, it_tup_bool, it_tup_str, it_tup_tuple, it_tup_list, it_tup_dict, it_lst_int, it_lst_bool, it_lst_str, it_lst_tuple, it_lst_list, it_lst_dict, it_rol_int, it_rol_bool, it_rol_str, it_rol_tuple, it_rol_list, it_rol_dict]
      refine ws_1 (ws_asg ?_)
      simp only [we_con, we_varm, we_glom, we_bin, we_neg, we_cmp, we_chain, we_and, we_or, we_not, we_ife, we_tup, we_lst, we_ix, we_sl, we_rev, we_call, we_blt, we_isi, we_app, we_lc, wa_nil, wa_cons, wr_nil, wr_cons, wo_none, wo_some, wto_none, wto_some, wt_and, wt_or, wt_not, wt_cmp, wt_chain, wt_tru, wi_seq, wi_range, wi_enum, wg_nm, wg_tup, wg_nil, wg_cons, wg_sub, wp_ok, wp_bad, wp_nox, wb_add, wb_sub, wb_mul, wb_fdiv, wb_mod, wb_pow, wc_eq, wc_ne, wc_lt, wc_le, wc_gt, wc_ge, wc_eqb, wc_neb, wc_eqs, wc_nes, wx_int, wx_lent, wx_lenl, wx_lenr, wz_int, wz_str, wz_bl, wz_non, wz_tup, wz_rol, wz_ref, wz_lst, List.getElem?_cons_zero, List.getElem?_cons_succ, List.set_cons_zero, List.set_cons_succ, List.length_cons, List.length_nil, wi_tup, wi_lst, wi_rol, wx_tuplel, wx_tuplet, wx_listt, wto_some, hdq, hqc, ite_f, ite_tt, decide_eq_true_eq, Bool.not_eq_true', wisT, ex_bl, ex_int, ite_tf, ite_ff, wix0, wix1, wix2, Nat.reduceAdd, Nat.reduceLT, sl0, sl1, sl2, sl3, sl4, sl5, sl6, sl10, if_true, true_and, and_true, List.map_cons, List.map_nil, wip, wt_turn, it_non_int, it_non_bool, it_non_str, it_non_tuple, it_non_list, it_non_dict, it_bl_int, it_bl_bool, it_bl_str, it_bl_tuple, it_bl_list, it_bl_dict, it_int_int, it_int_bool, it_int_str, it_int_tuple, it_int_list, it_int_dict, it_str_int, it_str_bool, it_str_str, it_str_tuple, it_str_list, it_str_dict, it_tup_int, it_tup_bool, it_tup_str, it_tup_tuple, it_tup_list, it_tup_dict, it_lst_int, it_lst_bool, it_lst_str, it_lst_tuple, it_lst_list, it_lst_dict, it_rol_int, it_rol_bool, it_rol_str, it_rol_tuple, it_rol_list, it_rol_dict]
      rw [wi_ref hl]
      have hr : rows.getD j (0, 0) = rows[j] := by rw [List.getD_eq_getElem?_getD, List.getElem?_eq_getElem hj2]; rfl
      have e4 : ∀ {s : S} {P : D → S → Prop}, Wp (ixD (dRows rows) (.int (j : Int)) s) P = P (dRow rows[j]) s := by
        intro s P
        exact wixt (n := j) (row_at hj2)
      have few := g.few
      have big : (lots rows room j).length ≤ 128 := Nat.le_trans lots_len (Nat.le_trans (Nat.pow_le_pow_right (by decide) (by omega : j ≤ 7)) (by decide))
      refine wl_m dLot (fun l => if l.2.1 + rows[j].1 ≤ room then some (dLot (l.1 ++ [j], l.2.1 + rows[j].1, l.2.2 + rows[j].2)) else none) (okR_ok hl) (leL (by omega)) (fun l hm => ?_) ?_
      · obtain ⟨b1, _⟩ := lots_in hm
        simp only [we_con, we_varm, we_glom, we_bin, we_neg, we_cmp, we_chain, we_and, we_or, we_not, we_ife, we_tup, we_lst, we_ix, we_sl, we_rev, we_call, we_blt, we_isi, we_app, we_lc, wa_nil, wa_cons, wr_nil, wr_cons, wo_none, wo_some, wto_none, wto_some, wt_and, wt_or, wt_not, wt_cmp, wt_chain, wt_tru, wi_seq, wi_range, wi_enum, wg_nm, wg_tup, wg_nil, wg_cons, wg_sub, wp_ok, wp_bad, wp_nox, wb_add, wb_sub, wb_mul, wb_fdiv, wb_mod, wb_pow, wc_eq, wc_ne, wc_lt, wc_le, wc_gt, wc_ge, wc_eqb, wc_neb, wc_eqs, wc_nes, wx_int, wx_lent, wx_lenl, wx_lenr, wz_int, wz_str, wz_bl, wz_non, wz_tup, wz_rol, wz_ref, wz_lst, List.getElem?_cons_zero, List.getElem?_cons_succ, List.set_cons_zero, List.set_cons_succ, List.length_cons, List.length_nil, wi_tup, wi_lst, wi_rol, wx_tuplel, wx_tuplet, wx_listt, wto_some, hdq, hqc, ite_f, ite_tt, decide_eq_true_eq, Bool.not_eq_true', wisT, ex_bl, ex_int, ite_tf, ite_ff, wix0, wix1, wix2, Nat.reduceAdd, Nat.reduceLT, sl0, sl1, sl2, sl3, sl4, sl5, sl6, sl10, if_true, true_and, and_true, List.map_cons, List.map_nil, wip, wt_turn, it_non_int, it_non_bool, it_non_str, it_non_tuple, it_non_list, it_non_dict, it_bl_int, it_bl_bool, it_bl_str, it_bl_tuple, it_bl_list, it_bl_dict, it_int_int, it_int_bool, it_int_str, it_int_tuple, it_int_list, it_int_dict, it_str_int, it_str_bool, it_str_str, it_str_tuple, it_str_list, it_str_dict, it_tup_int, it_tup_bool, it_tup_str, it_tup_tuple, it_tup_list, it_tup_dict, it_lst_int, it_lst_bool, it_lst_str, it_lst_tuple, it_lst_list, it_lst_dict, it_rol_int, it_rol_bool, it_rol_str, it_rol_tuple, it_rol_list, it_rol_dict, dLot, dNs, e4, dRow]
        refine ite_p (fun hle => ?_) fun hle => ?_
        · rw [wb_tadd (leL (by simp; omega))]
          simp only [we_con, we_varm, we_glom, we_bin, we_neg, we_cmp, we_chain, we_and, we_or, we_not, we_ife, we_tup, we_lst, we_ix, we_sl, we_rev, we_call, we_blt, we_isi, we_app, we_lc, wa_nil, wa_cons, wr_nil, wr_cons, wo_none, wo_some, wto_none, wto_some, wt_and, wt_or, wt_not, wt_cmp, wt_chain, wt_tru, wi_seq, wi_range, wi_enum, wg_nm, wg_tup, wg_nil, wg_cons, wg_sub, wp_ok, wp_bad, wp_nox, wb_add, wb_sub, wb_mul, wb_fdiv, wb_mod, wb_pow, wc_eq, wc_ne, wc_lt, wc_le, wc_gt, wc_ge, wc_eqb, wc_neb, wc_eqs, wc_nes, wx_int, wx_lent, wx_lenl, wx_lenr, wz_int, wz_str, wz_bl, wz_non, wz_tup, wz_rol, wz_ref, wz_lst, List.getElem?_cons_zero, List.getElem?_cons_succ, List.set_cons_zero, List.set_cons_succ, List.length_cons, List.length_nil, wi_tup, wi_lst, wi_rol, wx_tuplel, wx_tuplet, wx_listt, wto_some, hdq, hqc, ite_f, ite_tt, decide_eq_true_eq, Bool.not_eq_true', wisT, ex_bl, ex_int, ite_tf, ite_ff, wix0, wix1, wix2, Nat.reduceAdd, Nat.reduceLT, sl0, sl1, sl2, sl3, sl4, sl5, sl6, sl10, if_true, true_and, and_true, List.map_cons, List.map_nil, wip, wt_turn, it_non_int, it_non_bool, it_non_str, it_non_tuple, it_non_list, it_non_dict, it_bl_int, it_bl_bool, it_bl_str, it_bl_tuple, it_bl_list, it_bl_dict, it_int_int, it_int_bool, it_int_str, it_int_tuple, it_int_list, it_int_dict, it_str_int, it_str_bool, it_str_str, it_str_tuple, it_str_list, it_str_dict, it_tup_int, it_tup_bool, it_tup_str, it_tup_tuple, it_tup_list, it_tup_dict, it_lst_int, it_lst_bool, it_lst_str, it_lst_tuple, it_lst_list, it_lst_dict, it_rol_int, it_rol_bool, it_rol_str, it_rol_tuple, it_rol_list, it_rol_dict]
          rw [if_pos (by omega)]
          simp
        · rw [if_neg (by omega)]
      · have hbig : ((lots rows room j).filterMap fun l => if l.2.1 + rows[j].1 ≤ room then some (dLot (l.1 ++ [j], l.2.1 + rows[j].1, l.2.2 + rows[j].2)) else none).length ≤ 128 := Nat.le_trans (List.length_filterMap_le _ _) big
        rw [wb_ladd (mut_ref hl) mut_lst (leL (by rw [List.length_map]; omega))]
        simp only [we_con, we_varm, we_glom, we_bin, we_neg, we_cmp, we_chain, we_and, we_or, we_not, we_ife, we_tup, we_lst, we_ix, we_sl, we_rev, we_call, we_blt, we_isi, we_app, we_lc, wa_nil, wa_cons, wr_nil, wr_cons, wo_none, wo_some, wto_none, wto_some, wt_and, wt_or, wt_not, wt_cmp, wt_chain, wt_tru, wi_seq, wi_range, wi_enum, wg_nm, wg_tup, wg_nil, wg_cons, wg_sub, wp_ok, wp_bad, wp_nox, wb_add, wb_sub, wb_mul, wb_fdiv, wb_mod, wb_pow, wc_eq, wc_ne, wc_lt, wc_le, wc_gt, wc_ge, wc_eqb, wc_neb, wc_eqs, wc_nes, wx_int, wx_lent, wx_lenl, wx_lenr, wz_int, wz_str, wz_bl, wz_non, wz_tup, wz_rol, wz_ref, wz_lst, List.getElem?_cons_zero, List.getElem?_cons_succ, List.set_cons_zero, List.set_cons_succ, List.length_cons, List.length_nil, wi_tup, wi_lst, wi_rol, wx_tuplel, wx_tuplet, wx_listt, wto_some, hdq, hqc, ite_f, ite_tt, decide_eq_true_eq, Bool.not_eq_true', wisT, ex_bl, ex_int, ite_tf, ite_ff, wix0, wix1, wix2, Nat.reduceAdd, Nat.reduceLT, sl0, sl1, sl2, sl3, sl4, sl5, sl6, sl10, if_true, true_and, and_true, List.map_cons, List.map_nil, wip, wt_turn, it_non_int, it_non_bool, it_non_str, it_non_tuple, it_non_list, it_non_dict, it_bl_int, it_bl_bool, it_bl_str, it_bl_tuple, it_bl_list, it_bl_dict, it_int_int, it_int_bool, it_int_str, it_int_tuple, it_int_list, it_int_dict, it_str_int, it_str_bool, it_str_str, it_str_tuple, it_str_list, it_str_dict, it_tup_int, it_tup_bool, it_tup_str, it_tup_tuple, it_tup_list, it_tup_dict, it_lst_int, it_lst_bool, it_lst_str, it_lst_tuple, it_lst_list, it_lst_dict, it_rol_int, it_rol_bool, it_rol_str, it_rol_tuple, it_rol_list, it_rol_dict]
        refine ⟨j + 1, _, _, t ++ [_], hj2, by rw [show rows.length - (j + 1) = m by omega], rfl, by rw [List.append_assoc], ?_⟩
        rw [lk_new1]
        refine congrArg some ?_
        show _ = (lots rows room j ++ _).map dLot
        rw [List.map_append, hr]
        congr 1
        rw [List.map_filterMap]
        refine fm_congr fun l _ => ?_
        split <;> rfl
  · rintro ρ s' ⟨x, r, t, rfl, rfl, hl⟩
    refine ws_rets ?_
    simp only [we_con, we_varm, we_glom, we_bin, we_neg, we_cmp, we_chain, we_and, we_or, we_not, we_ife, we_tup, we_lst, we_ix, we_sl, we_rev, we_call, we_blt, we_isi, we_app, we_lc, wa_nil, wa_cons, wr_nil, wr_cons, wo_none, wo_some, wto_none, wto_some, wt_and, wt_or, wt_not, wt_cmp, wt_chain, wt_tru, wi_seq, wi_range, wi_enum, wg_nm, wg_tup, wg_nil, wg_cons, wg_sub, wp_ok, wp_bad, wp_nox, wb_add, wb_sub, wb_mul, wb_fdiv, wb_mod, wb_pow, wc_eq, wc_ne, wc_lt, wc_le, wc_gt, wc_ge, wc_eqb, wc_neb, wc_eqs, wc_nes, wx_int, wx_lent, wx_lenl, wx_lenr, wz_int, wz_str, wz_bl, wz_non, wz_tup, wz_rol, wz_ref, wz_lst, List.getElem?_cons_zero, List.getElem?_cons_succ, List.set_cons_zero, List.set_cons_succ, List.length_cons, List.length_nil, wi_tup, wi_lst, wi_rol, wx_tuplel, wx_tuplet, wx_listt, wto_some, hdq, hqc, ite_f, ite_tt, decide_eq_true_eq, Bool.not_eq_true', wisT, ex_bl, ex_int, ite_tf, ite_ff, wix0, wix1, wix2, Nat.reduceAdd, Nat.reduceLT, sl0, sl1, sl2, sl3, sl4, sl5, sl6, sl10, if_true, true_and, and_true, List.map_cons, List.map_nil, wip, wt_turn, it_non_int, it_non_bool, it_non_str, it_non_tuple, it_non_list, it_non_dict, it_bl_int, it_bl_bool, it_bl_str, it_bl_tuple, it_bl_list, it_bl_dict, it_int_int, it_int_bool, it_int_str, it_int_tuple, it_int_list, it_int_dict, it_str_int, it_str_bool, it_str_str, it_str_tuple, it_str_list, it_str_dict, it_tup_int, it_tup_bool, it_tup_str, it_tup_tuple, it_tup_list, it_tup_dict, it_lst_int, it_lst_bool, it_lst_str, it_lst_tuple, it_lst_list, it_lst_dict, it_rol_int, it_rol_bool, it_rol_str, it_rol_tuple, it_rol_list, it_rol_dict]
    exact ⟨r, t, rfl, rfl, hl⟩
end DI.L

set_option Elab.async false
set_option linter.all false
set_option maxRecDepth 100000
set_option maxHeartbeats 4000000
/-! the plain law, F: the law's table, what is due. -/
namespace DI.L
open PySem L2
theorem c_table (k : Nat) (a b : D) (s : S) : cl (k+1) "_law_table" [a, b] s = runF (cfg.q k) 9 d__law_table.body [a, b] s := by kernel_rfl
theorem good_take {rows : List (Nat × Nat)} {room k : Nat} (g : Good rows room) : Good (rows.take k) room :=
  ⟨by have := g.few; simp; omega, fun r hr => g.big r (List.mem_of_mem_take hr), g.room⟩
theorem max_tk {rows : List (Nat × Nat)} {room i j : Nat} (hj : j ≤ room) {ns : List Int} (h : ns = (lots rows room i).filterMap fun l => if l.2.1 ≤ j then some ((l.2.2 : Nat) : Int) else none) : ns ≠ [] ∧ maxL ns = (Tk rows i j : Nat) := by
  obtain ⟨l, a, b, c⟩ := tk_is (rows := rows) (room := room) (k := i) hj
  have hm : ((Tk rows i j : Nat) : Int) ∈ ns := by
    rw [h, List.mem_filterMap]
    exact ⟨l, a, by rw [if_pos b, c]⟩
  refine ⟨fun z => (by rw [z] at hm; cases hm), maxL_eq hm fun v hv => ?_⟩
  rw [h, List.mem_filterMap] at hv
  obtain ⟨l', a', e⟩ := hv
  split at e
  · cases e
    have := tk_ge a' (by assumption : l'.2.1 ≤ j)
    omega
  · cases e
theorem s_table {k : Nat} {rows : List (Nat × Nat)} {room : Nat} {s : S} (g : Good rows room) : Wp (cl (k+2) "_law_table" [dRows rows, .int (room : Nat)] s) fun d s' => d = dTab rows room ∧ ∃ t, s' = s ++ t := by
  rw [c_table]
  refine wf_run ?_
  show Ws (runSs (cfg.q (k+1)) d__law_table.body [some (dRows rows), some (.int (room : Nat)), none, none, none, none, none, none, none] s) _
  unfold d__law_table
  have few := g.few
  have rm := g.room
  refine ws_asgs ?_
  simp only [dRows, we_con, we_varm, we_glom, we_bin, we_neg, we_cmp, we_chain, we_and, we_or, we_not, we_ife, we_tup, we_lst, we_ix, we_sl, we_rev, we_call, we_blt, we_isi, we_app, we_lc, wa_nil, wa_cons, wr_nil, wr_cons, wo_none, wo_some, wto_none, wto_some, wt_and, wt_or, wt_not, wt_cmp, wt_chain, wt_tru, wi_seq, wi_range, wi_enum, wg_nm, wg_tup, wg_nil, wg_cons, wg_sub, wp_ok, wp_bad, wp_nox, wb_add, wb_sub, wb_mul, wb_fdiv, wb_mod, wb_pow, wc_eq, wc_ne, wc_lt, wc_le, wc_gt, wc_ge, wc_eqb, wc_neb, wc_eqs, wc_nes, wx_int, wx_lent, wx_lenl, wx_lenr, wz_int, wz_str, wz_bl, wz_non, wz_tup, wz_rol, wz_ref, wz_lst, List.getElem?_cons_zero, List.getElem?_cons_succ, List.set_cons_zero, List.set_cons_succ, List.length_cons, List.length_nil, wi_tup, wi_lst, wi_rol, wx_tuplel, wx_tuplet, wx_listt, wto_some, hdq, hqc, ite_f, ite_tt, decide_eq_true_eq, Bool.not_eq_true', wisT, ex_bl, ex_int, ite_tf, ite_ff, wix0, wix1, wix2, Nat.reduceAdd, Nat.reduceLT, sl0, sl1, sl2, sl3, sl4, sl5, sl6, sl10, if_true, true_and, and_true, List.map_cons, List.map_nil, wip, wt_turn, it_non_int, it_non_bool, it_non_str, it_non_tuple, it_non_list, it_non_dict, it_bl_int, it_bl_bool, it_bl_str, it_bl_tuple, it_bl_list, it_bl_dict, it_int_int, it_int_bool, it_int_str, it_int_tuple, it_int_list, it_int_dict, it_str_int, it_str_bool, it_str_str, it_str_tuple, it_str_list, it_str_dict, it_tup_int, it_tup_bool, it_tup_str, it_tup_tuple, it_tup_list, it_tup_dict, it_lst_int, it_lst_bool, it_lst_str, it_lst_tuple, it_lst_list, it_lst_dict, it_rol_int, it_rol_bool, it_rol_str, it_rol_tuple, it_rol_list, it_rol_dict, List.length_map]
  rw [cst1, wri_1 (lt62 (by omega)), range_map]
  refine wl_inv (fun it acc s' => ∃ (j : Nat) (t : S), j ≤ rows.length + 1 ∧ it = (List.range' j (rows.length + 1 - j)).map (fun (k : Nat) => D.int (k : Int)) ∧ s' = s ++ t ∧ acc.length = j ∧ ∀ i, i < j → ∃ q, acc[i]? = some (.ref q) ∧ lk s' q = some ((lots rows room i).map dLot)) ?_ ?_ ?_
  · exact ⟨0, [], Nat.zero_le _, rfl, by simp, rfl, fun i h => absurd h (Nat.not_lt_zero _)⟩
  · rintro acc s' ⟨j, t, hj, e, rfl, hl, hi⟩
    have hj0 : j = rows.length + 1 := by
      have := congrArg List.length e
      simp at this; omega
    subst hj0
    refine ⟨rfl, ?_⟩
    simp only [we_con, we_varm, we_glom, we_bin, we_neg, we_cmp, we_chain, we_and, we_or, we_not, we_ife, we_tup, we_lst, we_ix, we_sl, we_rev, we_call, we_blt, we_isi, we_app, we_lc, wa_nil, wa_cons, wr_nil, wr_cons, wo_none, wo_some, wto_none, wto_some, wt_and, wt_or, wt_not, wt_cmp, wt_chain, wt_tru, wi_seq, wi_range, wi_enum, wg_nm, wg_tup, wg_nil, wg_cons, wg_sub, wp_ok, wp_bad, wp_nox, wb_add, wb_sub, wb_mul, wb_fdiv, wb_mod, wb_pow, wc_eq, wc_ne, wc_lt, wc_le, wc_gt, wc_ge, wc_eqb, wc_neb, wc_eqs, wc_nes, wx_int, wx_lent, wx_lenl, wx_lenr, wz_int, wz_str, wz_bl, wz_non, wz_tup, wz_rol, wz_ref, wz_lst, List.getElem?_cons_zero, List.getElem?_cons_succ, List.set_cons_zero, List.set_cons_succ, List.length_cons, List.length_nil, wi_tup, wi_lst, wi_rol, wx_tuplel, wx_tuplet, wx_listt, wto_some, hdq, hqc, ite_f, ite_tt, decide_eq_true_eq, Bool.not_eq_true', wisT, ex_bl, ex_int, ite_tf, ite_ff, wix0, wix1, wix2, Nat.reduceAdd, Nat.reduceLT, sl0, sl1, sl2, sl3, sl4, sl5, sl6, sl10, if_true, true_and, and_true, List.map_cons, List.map_nil, wip, wt_turn, it_non_int, it_non_bool, it_non_str, it_non_tuple, it_non_list, it_non_dict, it_bl_int, it_bl_bool, it_bl_str, it_bl_tuple, it_bl_list, it_bl_dict, it_int_int, it_int_bool, it_int_str, it_int_tuple, it_int_list, it_int_dict, it_str_int, it_str_bool, it_str_str, it_str_tuple, it_str_list, it_str_dict, it_tup_int, it_tup_bool, it_tup_str, it_tup_tuple, it_tup_list, it_tup_dict, it_lst_int, it_lst_bool, it_lst_str, it_lst_tuple, it_lst_list, it_lst_dict, it_rol_int, it_rol_bool, it_rol_str, it_rol_tuple, it_rol_list, it_rol_dict]
    refine ws_rets ?_
    simp only [we_con, we_varm, we_glom, we_bin, we_neg, we_cmp, we_chain, we_and, we_or, we_not, we_ife, we_tup, we_lst, we_ix, we_sl, we_rev, we_call, we_blt, we_isi, we_app, we_lc, wa_nil, wa_cons, wr_nil, wr_cons, wo_none, wo_some, wto_none, wto_some, wt_and, wt_or, wt_not, wt_cmp, wt_chain, wt_tru, wi_seq, wi_range, wi_enum, wg_nm, wg_tup, wg_nil, wg_cons, wg_sub, wp_ok, wp_bad, wp_nox, wb_add, wb_sub, wb_mul, wb_fdiv, wb_mod, wb_pow, wc_eq, wc_ne, wc_lt, wc_le, wc_gt, wc_ge, wc_eqb, wc_neb, wc_eqs, wc_nes, wx_int, wx_lent, wx_lenl, wx_lenr, wz_int, wz_str, wz_bl, wz_non, wz_tup, wz_rol, wz_ref, wz_lst, List.getElem?_cons_zero, List.getElem?_cons_succ, List.set_cons_zero, List.set_cons_succ, List.length_cons, List.length_nil, wi_tup, wi_lst, wi_rol, wx_tuplel, wx_tuplet, wx_listt, wto_some, hdq, hqc, ite_f, ite_tt, decide_eq_true_eq, Bool.not_eq_true', wisT, ex_bl, ex_int, ite_tf, ite_ff, wix0, wix1, wix2, Nat.reduceAdd, Nat.reduceLT, sl0, sl1, sl2, sl3, sl4, sl5, sl6, sl10, if_true, true_and, and_true, List.map_cons, List.map_nil, wip, wt_turn, it_non_int, it_non_bool, it_non_str, it_non_tuple, it_non_list, it_non_dict, it_bl_int, it_bl_bool, it_bl_str, it_bl_tuple, it_bl_list, it_bl_dict, it_int_int, it_int_bool, it_int_str, it_int_tuple, it_int_list, it_int_dict, it_str_int, it_str_bool, it_str_str, it_str_tuple, it_str_list, it_str_dict, it_tup_int, it_tup_bool, it_tup_str, it_tup_tuple, it_tup_list, it_tup_dict, it_lst_int, it_lst_bool, it_lst_str, it_lst_tuple, it_lst_list, it_lst_dict, it_rol_int, it_rol_bool, it_rol_str, it_rol_tuple, it_rol_list, it_rol_dict]
    rw [wi_ref lk_new1]
    have hacc : acc = (List.range (rows.length + 1)).map fun i => acc.getD i .non := by
      refine List.ext_getElem (by simp; omega) fun i h1 h2 => ?_
      rw [List.getElem_map, List.getElem_range, List.getD_eq_getElem?_getD, List.getElem?_eq_getElem h1]; rfl
    have sok : ∀ {i : Nat} {q : Nat}, lk (s ++ t) q = some ((lots rows room i).map dLot) → lk (s ++ t ++ [.lst acc]) q = some ((lots rows room i).map dLot) := fun h => lk_app h
    generalize hu : s ++ t ++ [O.lst acc] = u at *
    have hok : okR (s ++ t).length acc u = true := okR_ok (by rw [← hu]; exact lk_new1)
    show Wp (lcL _ (okR (s ++ t).length acc) acc [] u) _
    generalize okR (s ++ t).length acc = ok0 at *
    rw [hacc]
    refine wl_mm (fun i => acc.getD i .non) (fun i => dT rows room i) hok (leL (by simp; omega)) (fun i hi' => ?_) ?_
    · have hi2 := List.mem_range.mp hi'
      obtain ⟨q, hq, hlq⟩ := hi i hi2
      have e0 : acc.getD i .non = .ref q := by rw [List.getD_eq_getElem?_getD, hq]; rfl
      have hlq := sok hlq
      rw [e0]
      simp only [we_con, we_varm, we_glom, we_bin, we_neg, we_cmp, we_chain, we_and, we_or, we_not, we_ife, we_tup, we_lst, we_ix, we_sl, we_rev, we_call, we_blt, we_isi, we_app, we_lc, wa_nil, wa_cons, wr_nil, wr_cons, wo_none, wo_some, wto_none, wto_some, wt_and, wt_or, wt_not, wt_cmp, wt_chain, wt_tru, wi_seq, wi_range, wi_enum, wg_nm, wg_tup, wg_nil, wg_cons, wg_sub, wp_ok, wp_bad, wp_nox, wb_add, wb_sub, wb_mul, wb_fdiv, wb_mod, wb_pow, wc_eq, wc_ne, wc_lt, wc_le, wc_gt, wc_ge, wc_eqb, wc_neb, wc_eqs, wc_nes, wx_int, wx_lent, wx_lenl, wx_lenr, wz_int, wz_str, wz_bl, wz_non, wz_tup, wz_rol, wz_ref, wz_lst, List.getElem?_cons_zero, List.getElem?_cons_succ, List.set_cons_zero, List.set_cons_succ, List.length_cons, List.length_nil, wi_tup, wi_lst, wi_rol, wx_tuplel, wx_tuplet, wx_listt, wto_some, hdq, hqc, ite_f, ite_tt, decide_eq_true_eq, Bool.not_eq_true', wisT, ex_bl, ex_int, ite_tf, ite_ff, wix0, wix1, wix2, Nat.reduceAdd, Nat.reduceLT, sl0, sl1, sl2, sl3, sl4, sl5, sl6, sl10, if_true, true_and, and_true, List.map_cons, List.map_nil, wip, wt_turn, it_non_int, it_non_bool, it_non_str, it_non_tuple, it_non_list, it_non_dict, it_bl_int, it_bl_bool, it_bl_str, it_bl_tuple, it_bl_list, it_bl_dict, it_int_int, it_int_bool, it_int_str, it_int_tuple, it_int_list, it_int_dict, it_str_int, it_str_bool, it_str_str, it_str_tuple, it_str_list, it_str_dict, it_tup_int, it_tup_bool, it_tup_str, it_tup_tuple, it_tup_list, it_tup_dict, it_lst_int, it_lst_bool, it_lst_str, it_lst_tuple, it_lst_list, it_lst_dict, it_rol_int, it_rol_bool, it_rol_str, it_rol_tuple, it_rol_list, it_rol_dict]
      rw [cst1, wri_1 (lt62 (by omega))]
      refine wl_rng (fun j => some (.int (Tk rows i j : Nat))) rfl (leL (by omega)) (fun j hj => ?_) ?_
      · simp only [we_con, we_varm, we_glom, we_bin, we_neg, we_cmp, we_chain, we_and, we_or, we_not, we_ife, we_tup, we_lst, we_ix, we_sl, we_rev, we_call, we_blt, we_isi, we_app, we_lc, wa_nil, wa_cons, wr_nil, wr_cons, wo_none, wo_some, wto_none, wto_some, wt_and, wt_or, wt_not, wt_cmp, wt_chain, wt_tru, wi_seq, wi_range, wi_enum, wg_nm, wg_tup, wg_nil, wg_cons, wg_sub, wp_ok, wp_bad, wp_nox, wb_add, wb_sub, wb_mul, wb_fdiv, wb_mod, wb_pow, wc_eq, wc_ne, wc_lt, wc_le, wc_gt, wc_ge, wc_eqb, wc_neb, wc_eqs, wc_nes, wx_int, wx_lent, wx_lenl, wx_lenr, wz_int, wz_str, wz_bl, wz_non, wz_tup, wz_rol, wz_ref, wz_lst, List.getElem?_cons_zero, List.getElem?_cons_succ, List.set_cons_zero, List.set_cons_succ, List.length_cons, List.length_nil, wi_tup, wi_lst, wi_rol, wx_tuplel, wx_tuplet, wx_listt, wto_some, hdq, hqc, ite_f, ite_tt, decide_eq_true_eq, Bool.not_eq_true', wisT, ex_bl, ex_int, ite_tf, ite_ff, wix0, wix1, wix2, Nat.reduceAdd, Nat.reduceLT, sl0, sl1, sl2, sl3, sl4, sl5, sl6, sl10, if_true, true_and, and_true, List.map_cons, List.map_nil, wip, wt_turn, it_non_int, it_non_bool, it_non_str, it_non_tuple, it_non_list, it_non_dict, it_bl_int, it_bl_bool, it_bl_str, it_bl_tuple, it_bl_list, it_bl_dict, it_int_int, it_int_bool, it_int_str, it_int_tuple, it_int_list, it_int_dict, it_str_int, it_str_bool, it_str_str, it_str_tuple, it_str_list, it_str_dict, it_tup_int, it_tup_bool, it_tup_str, it_tup_tuple, it_tup_list, it_tup_dict, it_lst_int, it_lst_bool, it_lst_str, it_lst_tuple, it_lst_list, it_lst_dict, it_rol_int, it_rol_bool, it_rol_str, it_rol_tuple, it_rol_list, it_rol_dict]
        rw [wi_ref hlq]
        have big : (lots rows room i).length ≤ 256 := Nat.le_trans lots_len (Nat.le_trans (Nat.pow_le_pow_right (by decide) (by omega : i ≤ 8)) (by decide))
        refine wl_m dLot (fun l : Lot => (if l.2.1 ≤ j then some ((l.2.2 : Nat) : Int) else none).map .int) (okR_ok hlq) (leL (by omega)) (fun l hm => ?_) ?_
        · simp only [we_con, we_varm, we_glom, we_bin, we_neg, we_cmp, we_chain, we_and, we_or, we_not, we_ife, we_tup, we_lst, we_ix, we_sl, we_rev, we_call, we_blt, we_isi, we_app, we_lc, wa_nil, wa_cons, wr_nil, wr_cons, wo_none, wo_some, wto_none, wto_some, wt_and, wt_or, wt_not, wt_cmp, wt_chain, wt_tru, wi_seq, wi_range, wi_enum, wg_nm, wg_tup, wg_nil, wg_cons, wg_sub, wp_ok, wp_bad, wp_nox, wb_add, wb_sub, wb_mul, wb_fdiv, wb_mod, wb_pow, wc_eq, wc_ne, wc_lt, wc_le, wc_gt, wc_ge, wc_eqb, wc_neb, wc_eqs, wc_nes, wx_int, wx_lent, wx_lenl, wx_lenr, wz_int, wz_str, wz_bl, wz_non, wz_tup, wz_rol, wz_ref, wz_lst, List.getElem?_cons_zero, List.getElem?_cons_succ, List.set_cons_zero, List.set_cons_succ, List.length_cons, List.length_nil, wi_tup, wi_lst, wi_rol, wx_tuplel, wx_tuplet, wx_listt, wto_some, hdq, hqc, ite_f, ite_tt, decide_eq_true_eq, Bool.not_eq_true', wisT, ex_bl, ex_int, ite_tf, ite_ff, wix0, wix1, wix2, Nat.reduceAdd, Nat.reduceLT, sl0, sl1, sl2, sl3, sl4, sl5, sl6, sl10, if_true, true_and, and_true, List.map_cons, List.map_nil, wip, wt_turn, it_non_int, it_non_bool, it_non_str, it_non_tuple, it_non_list, it_non_dict, it_bl_int, it_bl_bool, it_bl_str, it_bl_tuple, it_bl_list, it_bl_dict, it_int_int, it_int_bool, it_int_str, it_int_tuple, it_int_list, it_int_dict, it_str_int, it_str_bool, it_str_str, it_str_tuple, it_str_list, it_str_dict, it_tup_int, it_tup_bool, it_tup_str, it_tup_tuple, it_tup_list, it_tup_dict, it_lst_int, it_lst_bool, it_lst_str, it_lst_tuple, it_lst_list, it_lst_dict, it_rol_int, it_rol_bool, it_rol_str, it_rol_tuple, it_rol_list, it_rol_dict, dLot, dNs]
          refine ite_p (fun hle => ?_) fun hle => ?_
          · have hle : l.2.1 ≤ j := by omega
            simp [hle]
          · have hle : ¬ l.2.1 ≤ j := by omega
            simp [hle]
        · rw [← List.map_filterMap]
          obtain ⟨n1, n2⟩ := max_tk (rows := rows) (room := room) (i := i) (j := j) (by omega) rfl
          rw [wx_max n1, n2]
          simp only [we_con, we_varm, we_glom, we_bin, we_neg, we_cmp, we_chain, we_and, we_or, we_not, we_ife, we_tup, we_lst, we_ix, we_sl, we_rev, we_call, we_blt, we_isi, we_app, we_lc, wa_nil, wa_cons, wr_nil, wr_cons, wo_none, wo_some, wto_none, wto_some, wt_and, wt_or, wt_not, wt_cmp, wt_chain, wt_tru, wi_seq, wi_range, wi_enum, wg_nm, wg_tup, wg_nil, wg_cons, wg_sub, wp_ok, wp_bad, wp_nox, wb_add, wb_sub, wb_mul, wb_fdiv, wb_mod, wb_pow, wc_eq, wc_ne, wc_lt, wc_le, wc_gt, wc_ge, wc_eqb, wc_neb, wc_eqs, wc_nes, wx_int, wx_lent, wx_lenl, wx_lenr, wz_int, wz_str, wz_bl, wz_non, wz_tup, wz_rol, wz_ref, wz_lst, List.getElem?_cons_zero, List.getElem?_cons_succ, List.set_cons_zero, List.set_cons_succ, List.length_cons, List.length_nil, wi_tup, wi_lst, wi_rol, wx_tuplel, wx_tuplet, wx_listt, wto_some, hdq, hqc, ite_f, ite_tt, decide_eq_true_eq, Bool.not_eq_true', wisT, ex_bl, ex_int, ite_tf, ite_ff, wix0, wix1, wix2, Nat.reduceAdd, Nat.reduceLT, sl0, sl1, sl2, sl3, sl4, sl5, sl6, sl10, if_true, true_and, and_true, List.map_cons, List.map_nil, wip, wt_turn, it_non_int, it_non_bool, it_non_str, it_non_tuple, it_non_list, it_non_dict, it_bl_int, it_bl_bool, it_bl_str, it_bl_tuple, it_bl_list, it_bl_dict, it_int_int, it_int_bool, it_int_str, it_int_tuple, it_int_list, it_int_dict, it_str_int, it_str_bool, it_str_str, it_str_tuple, it_str_list, it_str_dict, it_tup_int, it_tup_bool, it_tup_str, it_tup_tuple, it_tup_list, it_tup_dict, it_lst_int, it_lst_bool, it_lst_str, it_lst_tuple, it_lst_list, it_lst_dict, it_rol_int, it_rol_bool, it_rol_str, it_rol_tuple, it_rol_list, it_rol_dict]
      · simp only [we_con, we_varm, we_glom, we_bin, we_neg, we_cmp, we_chain, we_and, we_or, we_not, we_ife, we_tup, we_lst, we_ix, we_sl, we_rev, we_call, we_blt, we_isi, we_app, we_lc, wa_nil, wa_cons, wr_nil, wr_cons, wo_none, wo_some, wto_none, wto_some, wt_and, wt_or, wt_not, wt_cmp, wt_chain, wt_tru, wi_seq, wi_range, wi_enum, wg_nm, wg_tup, wg_nil, wg_cons, wg_sub, wp_ok, wp_bad, wp_nox, wb_add, wb_sub, wb_mul, wb_fdiv, wb_mod, wb_pow, wc_eq, wc_ne, wc_lt, wc_le, wc_gt, wc_ge, wc_eqb, wc_neb, wc_eqs, wc_nes, wx_int, wx_lent, wx_lenl, wx_lenr, wz_int, wz_str, wz_bl, wz_non, wz_tup, wz_rol, wz_ref, wz_lst, List.getElem?_cons_zero, List.getElem?_cons_succ, List.set_cons_zero, List.set_cons_succ, List.length_cons, List.length_nil, wi_tup, wi_lst, wi_rol, wx_tuplel, wx_tuplet, wx_listt, wto_some, hdq, hqc, ite_f, ite_tt, decide_eq_true_eq, Bool.not_eq_true', wisT, ex_bl, ex_int, ite_tf, ite_ff, wix0, wix1, wix2, Nat.reduceAdd, Nat.reduceLT, sl0, sl1, sl2, sl3, sl4, sl5, sl6, sl10, if_true, true_and, and_true, List.map_cons, List.map_nil, wip, wt_turn, it_non_int, it_non_bool, it_non_str, it_non_tuple, it_non_list, it_non_dict, it_bl_int, it_bl_bool, it_bl_str, it_bl_tuple, it_bl_list, it_bl_dict, it_int_int, it_int_bool, it_int_str, it_int_tuple, it_int_list, it_int_dict, it_str_int, it_str_bool, it_str_str, it_str_tuple, it_str_list, it_str_dict, it_tup_int, it_tup_bool, it_tup_str, it_tup_tuple, it_tup_list, it_tup_dict, it_lst_int, it_lst_bool, it_lst_str, it_lst_tuple, it_lst_list, it_lst_dict, it_rol_int, it_rol_bool, it_rol_str, it_rol_tuple, it_rol_list, it_rol_dict]
        rw [List.filterMap_eq_map']
        simp [dT]
    · simp only [we_con, we_varm, we_glom, we_bin, we_neg, we_cmp, we_chain, we_and, we_or, we_not, we_ife, we_tup, we_lst, we_ix, we_sl, we_rev, we_call, we_blt, we_isi, we_app, we_lc, wa_nil, wa_cons, wr_nil, wr_cons, wo_none, wo_some, wto_none, wto_some, wt_and, wt_or, wt_not, wt_cmp, wt_chain, wt_tru, wi_seq, wi_range, wi_enum, wg_nm, wg_tup, wg_nil, wg_cons, wg_sub, wp_ok, wp_bad, wp_nox, wb_add, wb_sub, wb_mul, wb_fdiv, wb_mod, wb_pow, wc_eq, wc_ne, wc_lt, wc_le, wc_gt, wc_ge, wc_eqb, wc_neb, wc_eqs, wc_nes, wx_int, wx_lent, wx_lenl, wx_lenr, wz_int, wz_str, wz_bl, wz_non, wz_tup, wz_rol, wz_ref, wz_lst, List.getElem?_cons_zero, List.getElem?_cons_succ, List.set_cons_zero, List.set_cons_succ, List.length_cons, List.length_nil, wi_tup, wi_lst, wi_rol, wx_tuplel, wx_tuplet, wx_listt, wto_some, hdq, hqc, ite_f, ite_tt, decide_eq_true_eq, Bool.not_eq_true', wisT, ex_bl, ex_int, ite_tf, ite_ff, wix0, wix1, wix2, Nat.reduceAdd, Nat.reduceLT, sl0, sl1, sl2, sl3, sl4, sl5, sl6, sl10, if_true, true_and, and_true, List.map_cons, List.map_nil, wip, wt_turn, it_non_int, it_non_bool, it_non_str, it_non_tuple, it_non_list, it_non_dict, it_bl_int, it_bl_bool, it_bl_str, it_bl_tuple, it_bl_list, it_bl_dict, it_int_int, it_int_bool, it_int_str, it_int_tuple, it_int_list, it_int_dict, it_str_int, it_str_bool, it_str_str, it_str_tuple, it_str_list, it_str_dict, it_tup_int, it_tup_bool, it_tup_str, it_tup_tuple, it_tup_list, it_tup_dict, it_lst_int, it_lst_bool, it_lst_str, it_lst_tuple, it_lst_list, it_lst_dict, it_rol_int, it_rol_bool, it_rol_str, it_rol_tuple, it_rol_list, it_rol_dict]
      refine ⟨rfl, t ++ [.lst acc], ?_⟩
      rw [← hu, List.append_assoc]
  · rintro x it acc s' ⟨j, t, hj, e, rfl, hl, hi⟩
    obtain ⟨m, hm⟩ : ∃ m, rows.length + 1 - j = m + 1 := by
      cases h : rows.length + 1 - j with
      | zero => rw [h] at e; cases e
      | succ m => exact ⟨m, rfl⟩
    rw [hm, List.range'_succ, List.map_cons] at e
    cases e
    refine ⟨rfl, ?_⟩
    simp only [we_con, we_varm, we_glom, we_bin, we_neg, we_cmp, we_chain, we_and, we_or, we_not, we_ife, we_tup, we_lst, we_ix, we_sl, we_rev, we_call, we_blt, we_isi, we_app, we_lc, wa_nil, wa_cons, wr_nil, wr_cons, wo_none, wo_some, wto_none, wto_some, wt_and, wt_or, wt_not, wt_cmp, wt_chain, wt_tru, wi_seq, wi_range, wi_enum, wg_nm, wg_tup, wg_nil, wg_cons, wg_sub, wp_ok, wp_bad, wp_nox, wb_add, wb_sub, wb_mul, wb_fdiv, wb_mod, wb_pow, wc_eq, wc_ne, wc_lt, wc_le, wc_gt, wc_ge, wc_eqb, wc_neb, wc_eqs, wc_nes, wx_int, wx_lent, wx_lenl, wx_lenr, wz_int, wz_str, wz_bl, wz_non, wz_tup, wz_rol, wz_ref, wz_lst, List.getElem?_cons_zero, List.getElem?_cons_succ, List.set_cons_zero, List.set_cons_succ, List.length_cons, List.length_nil, wi_tup, wi_lst, wi_rol, wx_tuplel, wx_tuplet, wx_listt, wto_some, hdq, hqc, ite_f, ite_tt, decide_eq_true_eq, Bool.not_eq_true', wisT, ex_bl, ex_int, ite_tf, ite_ff, wix0, wix1, wix2, Nat.reduceAdd, Nat.reduceLT, sl0, sl1, sl2, sl3, sl4, sl5, sl6, sl10, if_true, true_and, and_true, List.map_cons, List.map_nil, wip, wt_turn, it_non_int, it_non_bool, it_non_str, it_non_tuple, it_non_list, it_non_dict, it_bl_int, it_bl_bool, it_bl_str, it_bl_tuple, it_bl_list, it_bl_dict, it_int_int, it_int_bool, it_int_str, it_int_tuple, it_int_list, it_int_dict, it_str_int, it_str_bool, it_str_str, it_str_tuple, it_str_list, it_str_dict, it_tup_int, it_tup_bool, it_tup_str, it_tup_tuple, it_tup_list, it_tup_dict, it_lst_int, it_lst_bool, it_lst_str, it_lst_tuple, it_lst_list, it_lst_dict, it_rol_int, it_rol_bool, it_rol_str, it_rol_tuple, it_rol_list, it_rol_dict, ws_slt]
    rw [cut_take (by simp; omega)]
    have e1 : D.tup (List.take j (List.map dRow rows)) = dRows (rows.take j) := by unfold dRows; rw [List.map_take]
    rw [e1]
    refine w_call (s_lots (good_take g)) ?_
    rintro d s' ⟨r, t', rfl, rfl, hl'⟩
    have e2 : (rows.take j).length = j := by simp; omega
    rw [e2, lots_take (Nat.le_refl _)] at hl'
    simp only [we_con, we_varm, we_glom, we_bin, we_neg, we_cmp, we_chain, we_and, we_or, we_not, we_ife, we_tup, we_lst, we_ix, we_sl, we_rev, we_call, we_blt, we_isi, we_app, we_lc, wa_nil, wa_cons, wr_nil, wr_cons, wo_none, wo_some, wto_none, wto_some, wt_and, wt_or, wt_not, wt_cmp, wt_chain, wt_tru, wi_seq, wi_range, wi_enum, wg_nm, wg_tup, wg_nil, wg_cons, wg_sub, wp_ok, wp_bad, wp_nox, wb_add, wb_sub, wb_mul, wb_fdiv, wb_mod, wb_pow, wc_eq, wc_ne, wc_lt, wc_le, wc_gt, wc_ge, wc_eqb, wc_neb, wc_eqs, wc_nes, wx_int, wx_lent, wx_lenl, wx_lenr, wz_int, wz_str, wz_bl, wz_non, wz_tup, wz_rol, wz_ref, wz_lst, List.getElem?_cons_zero, List.getElem?_cons_succ, List.set_cons_zero, List.set_cons_succ, List.length_cons, List.length_nil, wi_tup, wi_lst, wi_rol, wx_tuplel, wx_tuplet, wx_listt, wto_some, hdq, hqc, ite_f, ite_tt, decide_eq_true_eq, Bool.not_eq_true', wisT, ex_bl, ex_int, ite_tf, ite_ff, wix0, wix1, wix2, Nat.reduceAdd, Nat.reduceLT, sl0, sl1, sl2, sl3, sl4, sl5, sl6, sl10, if_true, true_and, and_true, List.map_cons, List.map_nil, wip, wt_turn, it_non_int, it_non_bool, it_non_str, it_non_tuple, it_non_list, it_non_dict, it_bl_int, it_bl_bool, it_bl_str, it_bl_tuple, it_bl_list, it_bl_dict, it_int_int, it_int_bool, it_int_str, it_int_tuple, it_int_list, it_int_dict, it_str_int, it_str_bool, it_str_str, it_str_tuple, it_str_list, it_str_dict, it_tup_int, it_tup_bool, it_tup_str, it_tup_tuple, it_tup_list, it_tup_dict, it_lst_int, it_lst_bool, it_lst_str, it_lst_tuple, it_lst_list, it_lst_dict, it_rol_int, it_rol_bool, it_rol_str, it_rol_tuple, it_rol_list, it_rol_dict]
    refine ⟨Nat.lt_of_le_of_lt (m := 8) (by omega) (by decide), j + 1, t ++ t', by omega, by rw [show rows.length + 1 - (j + 1) = m by omega], by rw [List.append_assoc], by simp; omega, fun i hij => ?_⟩
    by_cases hi2 : i < j
    · obtain ⟨q, a, b⟩ := hi i hi2
      exact ⟨q, by rw [List.getElem?_append_left (by omega)]; exact a, lk_app b⟩
    · have : i = j := by omega
      subst this
      exact ⟨r, by rw [List.getElem?_append_right (by omega), hl, Nat.sub_self]; rfl, hl'⟩
end DI.L

set_option Elab.async false
set_option linter.all false
set_option maxRecDepth 100000
set_option maxHeartbeats 4000000
/-! the plain law, G: what is due. -/
namespace DI.L
open PySem L2
theorem canAll {ps : List PyData} (h : ∀ p ∈ ps, PyData.canLay0 p = true) : PyData.canLayAll0 ps = true := by
  induction ps with
  | nil => unfold PyData.canLayAll0; rfl
  | cons p ps ih => unfold PyData.canLayAll0; rw [h p List.mem_cons_self, ih fun q hq => h q (List.mem_cons_of_mem _ hq)]; rfl
theorem depAll {ps : List PyData} {n : Nat} (h : ∀ p ∈ ps, PyData.depth p ≤ n) : PyData.depthAll ps ≤ n := by
  induction ps with
  | nil => unfold PyData.depthAll; exact Nat.zero_le _
  | cons p ps ih => unfold PyData.depthAll; exact Nat.max_le.mpr ⟨h p List.mem_cons_self, ih fun q hq => h q (List.mem_cons_of_mem _ hq)⟩
theorem pys_ints (ns : List Int) : D.pys (ns.map .int) = some (ns.map .int) := by
  induction ns with
  | nil => unfold D.pys; rfl
  | cons n ns ih => rw [List.map_cons, D.pys, D.py0, ih]; rfl
theorem eqv_ints : ∀ (a b : List Int), PyData.eqvAll (a.map .int) (b.map .int) = decide (a = b)
  | [], [] => by simp [PyData.eqvAll]
  | [], _ :: _ => by simp [PyData.eqvAll]
  | _ :: _, [] => by simp [PyData.eqvAll]
  | x :: xs, y :: ys => by
    rw [List.map_cons, List.map_cons, PyData.eqvAll, PyData.eqv, eqv_ints xs ys]
    rw [Bool.eq_iff_iff]
    simp
theorem shaped_ints (ns : List Int) : SeqAt.shaped (.list (ns.map .int)) = true := by
  unfold SeqAt.shaped
  rw [Bool.and_eq_true]
  refine ⟨?_, decide_eq_true ?_⟩
  · unfold PyData.canLay0
    exact canAll fun p hp => by
      obtain ⟨n, _, rfl⟩ := List.mem_map.mp hp
      unfold PyData.canLay0; rfl
  · unfold PyData.depth
    have := depAll (ps := ns.map PyData.int) (n := 0) fun p hp => by
      obtain ⟨n, _, rfl⟩ := List.mem_map.mp hp
      unfold PyData.depth; exact Nat.le_refl _
    omega
/-- lists of numbers compared -/
theorem wc_eql {a b : List Int} {s : S} {PB : Bool → S → Prop} : Wp (cmpD .eq (.lst (a.map .int)) (.lst (b.map .int)) s) PB = PB (decide (a = b)) s := by
  have : cmpD .eq (.lst (a.map .int)) (.lst (b.map .int)) s = .ok (decide (a = b)) s := by
    unfold cmpD cmpO
    dsimp only
    have e : eqD s (.lst (a.map .int)) (.lst (b.map .int)) = some (decide (a = b)) := by
      unfold eqD
      rw [if_neg (by simp [D.scal])]
      unfold D.py D.py0
      dsimp only
      rw [pys_ints, pys_ints]
      dsimp only [Option.map]
      rw [shaped_ints, shaped_ints, if_pos (by decide)]
      unfold PyData.eqv
      rw [eqv_ints]
    rw [e]
  rw [this, wp_ok]
theorem wc_nel {a b : List Int} {s : S} {PB : Bool → S → Prop} : Wp (cmpD .ne (.lst (a.map .int)) (.lst (b.map .int)) s) PB = PB (!decide (a = b)) s := by
  have : cmpD .ne (.lst (a.map .int)) (.lst (b.map .int)) s = .ok (!decide (a = b)) s := by
    unfold cmpD cmpO
    dsimp only
    have e : eqD s (.lst (a.map .int)) (.lst (b.map .int)) = some (decide (a = b)) := by
      unfold eqD
      rw [if_neg (by simp [D.scal])]
      unfold D.py D.py0
      dsimp only
      rw [pys_ints, pys_ints]
      dsimp only [Option.map]
      rw [shaped_ints, shaped_ints, if_pos (by decide)]
      unfold PyData.eqv
      rw [eqv_ints]
    rw [e]
    rfl
  rw [this, wp_ok]
theorem pys_dNs (ls : List (List Nat)) : D.pys (ls.map dNs) = some (ls.map fun l => .tuple (l.map fun (k : Nat) => .int (k : Int))) := by
  induction ls with
  | nil => unfold D.pys; rfl
  | cons l ls ih =>
    have h0 : D.py0 (dNs l) = some (.tuple (l.map fun (k : Nat) => .int (k : Int))) := by
      unfold dNs D.py0
      have := pys_ints (l.map fun (k : Nat) => (k : Int))
      rw [List.map_map, List.map_map] at this
      rw [show (l.map fun (k : Nat) => D.int (k : Int)) = l.map (D.int ∘ fun (k : Nat) => (k : Int)) from rfl, this]; rfl
    rw [List.map_cons, D.pys, h0, ih]; rfl
/-- a list of lots' rows: is it empty -/
theorem wc_nenil {ls : List (List Nat)} {r : Nat} {s : S} {PB : Bool → S → Prop} (h : lk s r = some (ls.map dNs)) : Wp (cmpD .ne (.ref r) (.lst []) s) PB = PB (!ls.isEmpty) s := by
  have : cmpD .ne (.ref r) (.lst []) s = .ok (!ls.isEmpty) s := by
    unfold cmpD cmpO
    dsimp only
    have e : eqD s (.ref r) (.lst []) = some ls.isEmpty := by
      unfold eqD
      rw [if_neg (by simp [D.scal])]
      unfold D.py D.py0
      dsimp only
      rw [h]
      dsimp only [Option.bind]
      rw [pys_dNs]
      unfold D.pys
      dsimp only [Option.map]
      have sh : SeqAt.shaped (.list (ls.map fun l => .tuple (l.map fun (k : Nat) => .int (k : Int)))) = true := by
        unfold SeqAt.shaped
        rw [Bool.and_eq_true]
        refine ⟨?_, decide_eq_true ?_⟩
        · unfold PyData.canLay0
          refine canAll fun p hp => ?_
          obtain ⟨l, _, rfl⟩ := List.mem_map.mp hp
          unfold PyData.canLay0
          refine canAll fun p hp => ?_
          obtain ⟨k, _, rfl⟩ := List.mem_map.mp hp
          unfold PyData.canLay0; rfl
        · unfold PyData.depth
          have := depAll (ps := ls.map fun l => PyData.tuple (l.map fun (k : Nat) => .int (k : Int))) (n := 1) fun p hp => by
            obtain ⟨l, _, rfl⟩ := List.mem_map.mp hp
            unfold PyData.depth
            have := depAll (ps := l.map fun (k : Nat) => PyData.int (k : Int)) (n := 0) fun p hp => by
              obtain ⟨n, _, rfl⟩ := List.mem_map.mp hp
              unfold PyData.depth; exact Nat.le_refl _
            omega
          omega
      rw [sh, show SeqAt.shaped (.list []) = true from shaped_ints [], if_pos (by decide)]
      cases ls with
      | nil => rfl
      | cons _ _ => rfl
    rw [e]
    rfl
  rw [this, wp_ok]
/-- a number within a tuple of numbers -/
theorem wc_nin {l : List Nat} {k : Nat} {s : S} {PB : Bool → S → Prop} : Wp (cmpD .nin (.int (k : Int)) (dNs l) s) PB = PB (!decide (k ∈ l)) s := by
  have : cmpD .nin (.int (k : Int)) (dNs l) s = .ok (!decide (k ∈ l)) s := by
    unfold cmpD cmpO
    dsimp only
    have e : inD s (.int (k : Int)) (dNs l) = some (decide (k ∈ l)) := by
      unfold inD dNs
      dsimp only
      have h1 : (l.map fun (k : Nat) => D.int (k : Int)).all D.scal = true := by
        rw [List.all_eq_true]
        intro d hd
        obtain ⟨n, _, rfl⟩ := List.mem_map.mp hd
        rfl
      rw [h1, if_pos (by rfl)]
      refine congrArg some ?_
      unfold inV
      rw [Bool.eq_iff_iff, List.any_eq_true, decide_eq_true_eq]
      constructor
      · rintro ⟨v, hv, he⟩
        rw [List.map_map, List.mem_map] at hv
        obtain ⟨n, hn, rfl⟩ := hv
        have he : ((n : Int) == (k : Int)) = true := he
        have : n = k := by have := eq_of_beq he; omega
        rw [← this]; exact hn
      · intro hk
        refine ⟨.int (k : Int), ?_, ?_⟩
        · rw [List.map_map, List.mem_map]; exact ⟨k, hk, rfl⟩
        · show ((k : Int) == (k : Int)) = true
          exact beq_self_eq_true _
    rw [e]
    rfl
  rw [this, wp_ok]
theorem wz_dNs {l : List Nat} {s : S} {PD : D → S → Prop} : Wp (setl (dNs l) s) PD = PD (dNs l) s := wz_tup
theorem wz_dRows {l : List (Nat × Nat)} {s : S} {PD : D → S → Prop} : Wp (setl (dRows l) s) PD = PD (dRows l) s := wz_tup
theorem wz_dTab {l : List (Nat × Nat)} {room : Nat} {s : S} {PD : D → S → Prop} : Wp (setl (dTab l room) s) PD = PD (dTab l room) s := wz_tup
theorem c_due (k : Nat) (a b : D) (s : S) : cl (k+1) "_law_due" [a, b] s = runF (cfg.q k) 10 d__law_due.body [a, b] s := by kernel_rfl
theorem tk_mono {rows : List (Nat × Nat)} {k j : Nat} : Tk rows k j ≤ Tk rows (k + 1) j := by
  have e : Tk rows (k + 1) j = if (rows.getD k (0, 0)).1 ≤ j then max (Tk rows k j) (Tk rows k (j - (rows.getD k (0, 0)).1) + (rows.getD k (0, 0)).2) else Tk rows k j := rfl
  rw [e]
  split
  · exact Nat.le_max_left _ _
  · exact Nat.le_refl _
/-- the good lots, walked back to row j -/
structure GoodL (rows : List (Nat × Nat)) (room j left : Nat) (suf : List Nat) (gl : List (List Nat)) : Prop where
  hl : left ≤ room
  ha : asc rows rows.length room = asc rows j left ++ suf
  big : ∀ i ∈ suf, j ≤ i
  mem : ∀ lot, lot ∈ gl ↔ ∃ l ∈ lots rows room j, lot = l.1 ++ suf ∧ l.2.1 ≤ left ∧ l.2.2 = Tk rows j left
theorem GoodL.ne {rows : List (Nat × Nat)} {room j left : Nat} {suf : List Nat} {gl : List (List Nat)} (h : GoodL rows room j left suf gl) : gl ≠ [] := by
  obtain ⟨l, a, b, c⟩ := tk_is (rows := rows) (k := j) h.hl
  have := (h.mem _).mpr ⟨l, a, rfl, b, c⟩
  rintro rfl
  cases this
theorem GoodL.step {rows : List (Nat × Nat)} {room j left : Nat} {suf : List Nat} {gl : List (List Nat)} (h : GoodL rows room (j + 1) left suf gl) :
    ∃ left' suf', GoodL rows room j left' suf' (if (gl.filter fun lot => !decide (j ∈ lot)).isEmpty = true then gl else gl.filter fun lot => !decide (j ∈ lot)) := by
  have nsuf : j ∉ suf := fun z => by have := h.big j z; omega
  by_cases hne : Tk rows (j + 1) left ≠ Tk rows j left
  · -- the row is in every lot
    have hs : (rows.getD j (0, 0)).1 ≤ left := by
      apply Classical.byContradiction
      intro z
      exact hne (if_neg z)
    have ht : Tk rows (j + 1) left = Tk rows j (left - (rows.getD j (0, 0)).1) + (rows.getD j (0, 0)).2 := by
      have e : Tk rows (j + 1) left = max (Tk rows j left) (Tk rows j (left - (rows.getD j (0, 0)).1) + (rows.getD j (0, 0)).2) := if_pos hs
      omega
    have he : (gl.filter fun lot => !decide (j ∈ lot)) = [] := by
      rw [List.filter_eq_nil_iff]
      intro lot hl
      obtain ⟨l, a, rfl, b, c⟩ := (h.mem lot).mp hl
      rcases lots_succ.mp a with a | ⟨l', a, a2, rfl⟩
      · have := tk_ge a b
        have := tk_mono (rows := rows) (k := j) (j := left)
        omega
      · simp
    rw [he]
    refine ⟨left - (rows.getD j (0, 0)).1, j :: suf, by have := h.hl; omega, ?_, ?_, fun lot => ?_⟩
    · rw [h.ha]
      show (if Tk rows (j + 1) left ≠ Tk rows j left then _ else _) ++ _ = _
      rw [if_pos hne]; simp
    · intro i hi
      rcases List.mem_cons.mp hi with e | hi
      · omega
      · have := h.big i hi; omega
    · rw [if_pos (by rfl), h.mem lot]
      constructor
      · rintro ⟨l, a, rfl, b, c⟩
        rcases lots_succ.mp a with a' | ⟨l', a', a2, rfl⟩
        · have := tk_ge a' b
          have := tk_mono (rows := rows) (k := j) (j := left)
          omega
        · have b : l'.2.1 + (rows.getD j (0, 0)).1 ≤ left := b
          have c : l'.2.2 + (rows.getD j (0, 0)).2 = Tk rows (j + 1) left := c
          exact ⟨l', a', by simp, by omega, by omega⟩
      · rintro ⟨l, a, rfl, b, c⟩
        refine ⟨_, lots_succ.mpr (.inr ⟨l, a, by have := h.hl; omega, rfl⟩), by simp, ?_, ?_⟩
        · show l.2.1 + _ ≤ left; omega
        · show l.2.2 + _ = _; omega
  · have hne : Tk rows (j + 1) left = Tk rows j left := Classical.not_not.mp hne
    have key : ∀ lot, lot ∈ (gl.filter fun lot => !decide (j ∈ lot)) ↔ ∃ l ∈ lots rows room j, lot = l.1 ++ suf ∧ l.2.1 ≤ left ∧ l.2.2 = Tk rows j left := by
      intro lot
      rw [List.mem_filter, h.mem lot]
      constructor
      · rintro ⟨⟨l, a, rfl, b, c⟩, d⟩
        rcases lots_succ.mp a with a | ⟨l', a, a2, rfl⟩
        · exact ⟨l, a, rfl, b, by omega⟩
        · simp at d
      · rintro ⟨l, a, rfl, b, c⟩
        refine ⟨⟨l, lots_succ.mpr (.inl a), rfl, b, by omega⟩, ?_⟩
        have := (lots_in a).2.1 j
        simp [nsuf]
        intro z
        have := this z; omega
    have hne2 : (gl.filter fun lot => !decide (j ∈ lot)).isEmpty = false := by
      obtain ⟨l, a, b, c⟩ := tk_is (rows := rows) (k := j) h.hl
      have := (key _).mpr ⟨l, a, rfl, b, c⟩
      cases e : (gl.filter fun lot => !decide (j ∈ lot)) with
      | nil => rw [e] at this; cases this
      | cons _ _ => rfl
    rw [hne2]
    refine ⟨left, suf, h.hl, ?_, fun i hi => by have := h.big i hi; omega, fun lot => ?_⟩
    · rw [h.ha]
      show (if Tk rows (j + 1) left ≠ Tk rows j left then _ else _) ++ _ = _
      rw [if_neg (by omega)]
    · rw [if_neg (by decide)]; exact key lot
theorem GoodL.zero {rows : List (Nat × Nat)} {room left : Nat} {suf : List Nat} {gl : List (List Nat)} (h : GoodL rows room 0 left suf gl) : gl[0]? = some (asc rows rows.length room) := by
  have hn := h.ne
  cases gl with
  | nil => exact (hn rfl).elim
  | cons a gl =>
    obtain ⟨l, hl, e, _⟩ := (h.mem a).mp List.mem_cons_self
    have hl : l = ([], 0, 0) := by simpa [lots] using hl
    subst hl
    rw [h.ha]
    show some a = some ([] ++ suf)
    rw [e]
theorem GoodL.start {rows : List (Nat × Nat)} {room : Nat} : GoodL rows room rows.length room [] ((lots rows room rows.length).filterMap fun l => if l.2.2 = Tk rows rows.length room then some l.1 else none) := by
  refine ⟨Nat.le_refl _, by simp, (fun i hi => by cases hi), fun lot => ?_⟩
  rw [List.mem_filterMap]
  constructor
  · rintro ⟨l, a, e⟩
    split at e
    · cases e
      exact ⟨l, a, by simp, (lots_in a).2.2.2.1, by assumption⟩
    · cases e
  · rintro ⟨l, a, rfl, b, c⟩
    exact ⟨l, a, by rw [if_pos c]; simp⟩
theorem s_due {k : Nat} {rows : List (Nat × Nat)} {room : Nat} {s : S} (g : Good rows room) : Wp (cl (k+3) "_law_due" [dRows rows, .int (room : Nat)] s) fun d s' => d = .tup [.int (Tk rows rows.length room : Nat), dNs (asc rows rows.length room), dTab rows room] ∧ ∃ t, s' = s ++ t := by
  rw [c_due]
  refine wf_run ?_
  show Ws (runSs (cfg.q (k+2)) d__law_due.body [some (dRows rows), some (.int (room : Nat)), none, none, none, none, none, none, none, none] s) _
  unfold d__law_due
  have few := g.few
  have rm := g.room
  have big : (lots rows room rows.length).length ≤ 128 := Nat.le_trans lots_len (Nat.le_trans (Nat.pow_le_pow_right (by decide) (by omega : rows.length ≤ 7)) (by decide))
  refine ws_asgs ?_
  simp only [we_con, we_varm, we_glom, we_bin, we_neg, we_cmp, we_chain, we_and, we_or, we_not, we_ife, we_tup, we_lst, we_ix, we_sl, we_rev, we_call, we_blt, we_isi, we_app, we_lc, wa_nil, wa_cons, wr_nil, wr_cons, wo_none, wo_some, wto_none, wto_some, wt_and, wt_or, wt_not, wt_cmp, wt_chain, wt_tru, wi_seq, wi_range, wi_enum, wg_nm, wg_tup, wg_nil, wg_cons, wg_sub, wp_ok, wp_bad, wp_nox, wb_add, wb_sub, wb_mul, wb_fdiv, wb_mod, wb_pow, wc_eq, wc_ne, wc_lt, wc_le, wc_gt, wc_ge, wc_eqb, wc_neb, wc_eqs, wc_nes, wx_int, wx_lent, wx_lenl, wx_lenr, wz_int, wz_str, wz_bl, wz_non, wz_tup, wz_rol, wz_ref, wz_lst, List.getElem?_cons_zero, List.getElem?_cons_succ, List.set_cons_zero, List.set_cons_succ, List.length_cons, List.length_nil, wi_tup, wi_lst, wi_rol, wx_tuplel, wx_tuplet, wx_listt, wto_some, hdq, hqc, ite_f, ite_tt, decide_eq_true_eq, Bool.not_eq_true', wisT, ex_bl, ex_int, ite_tf, ite_ff, wix0, wix1, wix2, Nat.reduceAdd, Nat.reduceLT, sl0, sl1, sl2, sl3, sl4, sl5, sl6, sl10, if_true, true_and, and_true, List.map_cons, List.map_nil, wip, wt_turn, it_non_int, it_non_bool, it_non_str, it_non_tuple, it_non_list, it_non_dict, it_bl_int, it_bl_bool, it_bl_str, it_bl_tuple, it_bl_list, it_bl_dict, it_int_int, it_int_bool, it_int_str, it_int_tuple, it_int_list, it_int_dict, it_str_int, it_str_bool, it_str_str, it_str_tuple, it_str_list, it_str_dict, it_tup_int, it_tup_bool, it_tup_str, it_tup_tuple, it_tup_list, it_tup_dict, it_lst_int, it_lst_bool, it_lst_str, it_lst_tuple, it_lst_list, it_lst_dict, it_rol_int, it_rol_bool, it_rol_str, it_rol_tuple, it_rol_list, it_rol_dict]
  rw [show Wp (setl (dRows rows) s) = fun P => P (dRows rows) s from funext fun P => wz_tup]
  dsimp only
  refine w_call (s_lots (k := k + 1) g) ?_
  rintro d s1 ⟨r, t, rfl, rfl, hl⟩
  simp only [we_con, we_varm, we_glom, we_bin, we_neg, we_cmp, we_chain, we_and, we_or, we_not, we_ife, we_tup, we_lst, we_ix, we_sl, we_rev, we_call, we_blt, we_isi, we_app, we_lc, wa_nil, wa_cons, wr_nil, wr_cons, wo_none, wo_some, wto_none, wto_some, wt_and, wt_or, wt_not, wt_cmp, wt_chain, wt_tru, wi_seq, wi_range, wi_enum, wg_nm, wg_tup, wg_nil, wg_cons, wg_sub, wp_ok, wp_bad, wp_nox, wb_add, wb_sub, wb_mul, wb_fdiv, wb_mod, wb_pow, wc_eq, wc_ne, wc_lt, wc_le, wc_gt, wc_ge, wc_eqb, wc_neb, wc_eqs, wc_nes, wx_int, wx_lent, wx_lenl, wx_lenr, wz_int, wz_str, wz_bl, wz_non, wz_tup, wz_rol, wz_ref, wz_lst, List.getElem?_cons_zero, List.getElem?_cons_succ, List.set_cons_zero, List.set_cons_succ, List.length_cons, List.length_nil, wi_tup, wi_lst, wi_rol, wx_tuplel, wx_tuplet, wx_listt, wto_some, hdq, hqc, ite_f, ite_tt, decide_eq_true_eq, Bool.not_eq_true', wisT, ex_bl, ex_int, ite_tf, ite_ff, wix0, wix1, wix2, Nat.reduceAdd, Nat.reduceLT, sl0, sl1, sl2, sl3, sl4, sl5, sl6, sl10, if_true, true_and, and_true, List.map_cons, List.map_nil, wip, wt_turn, it_non_int, it_non_bool, it_non_str, it_non_tuple, it_non_list, it_non_dict, it_bl_int, it_bl_bool, it_bl_str, it_bl_tuple, it_bl_list, it_bl_dict, it_int_int, it_int_bool, it_int_str, it_int_tuple, it_int_list, it_int_dict, it_str_int, it_str_bool, it_str_str, it_str_tuple, it_str_list, it_str_dict, it_tup_int, it_tup_bool, it_tup_str, it_tup_tuple, it_tup_list, it_tup_dict, it_lst_int, it_lst_bool, it_lst_str, it_lst_tuple, it_lst_list, it_lst_dict, it_rol_int, it_rol_bool, it_rol_str, it_rol_tuple, it_rol_list, it_rol_dict]
  refine ws_asgs ?_
  simp only [we_con, we_varm, we_glom, we_bin, we_neg, we_cmp, we_chain, we_and, we_or, we_not, we_ife, we_tup, we_lst, we_ix, we_sl, we_rev, we_call, we_blt, we_isi, we_app, we_lc, wa_nil, wa_cons, wr_nil, wr_cons, wo_none, wo_some, wto_none, wto_some, wt_and, wt_or, wt_not, wt_cmp, wt_chain, wt_tru, wi_seq, wi_range, wi_enum, wg_nm, wg_tup, wg_nil, wg_cons, wg_sub, wp_ok, wp_bad, wp_nox, wb_add, wb_sub, wb_mul, wb_fdiv, wb_mod, wb_pow, wc_eq, wc_ne, wc_lt, wc_le, wc_gt, wc_ge, wc_eqb, wc_neb, wc_eqs, wc_nes, wx_int, wx_lent, wx_lenl, wx_lenr, wz_int, wz_str, wz_bl, wz_non, wz_tup, wz_rol, wz_ref, wz_lst, List.getElem?_cons_zero, List.getElem?_cons_succ, List.set_cons_zero, List.set_cons_succ, List.length_cons, List.length_nil, wi_tup, wi_lst, wi_rol, wx_tuplel, wx_tuplet, wx_listt, wto_some, hdq, hqc, ite_f, ite_tt, decide_eq_true_eq, Bool.not_eq_true', wisT, ex_bl, ex_int, ite_tf, ite_ff, wix0, wix1, wix2, Nat.reduceAdd, Nat.reduceLT, sl0, sl1, sl2, sl3, sl4, sl5, sl6, sl10, if_true, true_and, and_true, List.map_cons, List.map_nil, wip, wt_turn, it_non_int, it_non_bool, it_non_str, it_non_tuple, it_non_list, it_non_dict, it_bl_int, it_bl_bool, it_bl_str, it_bl_tuple, it_bl_list, it_bl_dict, it_int_int, it_int_bool, it_int_str, it_int_tuple, it_int_list, it_int_dict, it_str_int, it_str_bool, it_str_str, it_str_tuple, it_str_list, it_str_dict, it_tup_int, it_tup_bool, it_tup_str, it_tup_tuple, it_tup_list, it_tup_dict, it_lst_int, it_lst_bool, it_lst_str, it_lst_tuple, it_lst_list, it_lst_dict, it_rol_int, it_rol_bool, it_rol_str, it_rol_tuple, it_rol_list, it_rol_dict]
  rw [wi_ref hl]
  refine wl_mm dLot (fun l : Lot => .int (l.2.2 : Nat)) (okR_ok hl) (leL (by omega)) (fun l hm => ?_) ?_
  · simp only [we_con, we_varm, we_glom, we_bin, we_neg, we_cmp, we_chain, we_and, we_or, we_not, we_ife, we_tup, we_lst, we_ix, we_sl, we_rev, we_call, we_blt, we_isi, we_app, we_lc, wa_nil, wa_cons, wr_nil, wr_cons, wo_none, wo_some, wto_none, wto_some, wt_and, wt_or, wt_not, wt_cmp, wt_chain, wt_tru, wi_seq, wi_range, wi_enum, wg_nm, wg_tup, wg_nil, wg_cons, wg_sub, wp_ok, wp_bad, wp_nox, wb_add, wb_sub, wb_mul, wb_fdiv, wb_mod, wb_pow, wc_eq, wc_ne, wc_lt, wc_le, wc_gt, wc_ge, wc_eqb, wc_neb, wc_eqs, wc_nes, wx_int, wx_lent, wx_lenl, wx_lenr, wz_int, wz_str, wz_bl, wz_non, wz_tup, wz_rol, wz_ref, wz_lst, List.getElem?_cons_zero, List.getElem?_cons_succ, List.set_cons_zero, List.set_cons_succ, List.length_cons, List.length_nil, wi_tup, wi_lst, wi_rol, wx_tuplel, wx_tuplet, wx_listt, wto_some, hdq, hqc, ite_f, ite_tt, decide_eq_true_eq, Bool.not_eq_true', wisT, ex_bl, ex_int, ite_tf, ite_ff, wix0, wix1, wix2, Nat.reduceAdd, Nat.reduceLT, sl0, sl1, sl2, sl3, sl4, sl5, sl6, sl10, if_true, true_and, and_true, List.map_cons, List.map_nil, wip, wt_turn, it_non_int, it_non_bool, it_non_str, it_non_tuple, it_non_list, it_non_dict, it_bl_int, it_bl_bool, it_bl_str, it_bl_tuple, it_bl_list, it_bl_dict, it_int_int, it_int_bool, it_int_str, it_int_tuple, it_int_list, it_int_dict, it_str_int, it_str_bool, it_str_str, it_str_tuple, it_str_list, it_str_dict, it_tup_int, it_tup_bool, it_tup_str, it_tup_tuple, it_tup_list, it_tup_dict, it_lst_int, it_lst_bool, it_lst_str, it_lst_tuple, it_lst_list, it_lst_dict, it_rol_int, it_rol_bool, it_rol_str, it_rol_tuple, it_rol_list, it_rol_dict, dLot, dNs]
  obtain ⟨n1, n2⟩ := max_tk (rows := rows) (room := room) (i := rows.length) (j := room) (Nat.le_refl _) (ns := (lots rows room rows.length).map fun l => ((l.2.2 : Nat) : Int)) (by
    rw [← List.filterMap_eq_map']
    refine fm_congr fun l hm => ?_
    rw [if_pos (lots_in hm).2.2.2.1])
  rw [show (lots rows room rows.length).map (fun l : Lot => D.int (l.2.2 : Nat)) = ((lots rows room rows.length).map fun l => ((l.2.2 : Nat) : Int)).map .int by rw [List.map_map]; rfl, wx_max n1, n2]
  simp only [we_con, we_varm, we_glom, we_bin, we_neg, we_cmp, we_chain, we_and, we_or, we_not, we_ife, we_tup, we_lst, we_ix, we_sl, we_rev, we_call, we_blt, we_isi, we_app, we_lc, wa_nil, wa_cons, wr_nil, wr_cons, wo_none, wo_some, wto_none, wto_some, wt_and, wt_or, wt_not, wt_cmp, wt_chain, wt_tru, wi_seq, wi_range, wi_enum, wg_nm, wg_tup, wg_nil, wg_cons, wg_sub, wp_ok, wp_bad, wp_nox, wb_add, wb_sub, wb_mul, wb_fdiv, wb_mod, wb_pow, wc_eq, wc_ne, wc_lt, wc_le, wc_gt, wc_ge, wc_eqb, wc_neb, wc_eqs, wc_nes, wx_int, wx_lent, wx_lenl, wx_lenr, wz_int, wz_str, wz_bl, wz_non, wz_tup, wz_rol, wz_ref, wz_lst, List.getElem?_cons_zero, List.getElem?_cons_succ, List.set_cons_zero, List.set_cons_succ, List.length_cons, List.length_nil, wi_tup, wi_lst, wi_rol, wx_tuplel, wx_tuplet, wx_listt, wto_some, hdq, hqc, ite_f, ite_tt, decide_eq_true_eq, Bool.not_eq_true', wisT, ex_bl, ex_int, ite_tf, ite_ff, wix0, wix1, wix2, Nat.reduceAdd, Nat.reduceLT, sl0, sl1, sl2, sl3, sl4, sl5, sl6, sl10, if_true, true_and, and_true, List.map_cons, List.map_nil, wip, wt_turn, it_non_int, it_non_bool, it_non_str, it_non_tuple, it_non_list, it_non_dict, it_bl_int, it_bl_bool, it_bl_str, it_bl_tuple, it_bl_list, it_bl_dict, it_int_int, it_int_bool, it_int_str, it_int_tuple, it_int_list, it_int_dict, it_str_int, it_str_bool, it_str_str, it_str_tuple, it_str_list, it_str_dict, it_tup_int, it_tup_bool, it_tup_str, it_tup_tuple, it_tup_list, it_tup_dict, it_lst_int, it_lst_bool, it_lst_str, it_lst_tuple, it_lst_list, it_lst_dict, it_rol_int, it_rol_bool, it_rol_str, it_rol_tuple, it_rol_list, it_rol_dict]
  refine ws_asgs ?_
  simp only [we_con, we_varm, we_glom, we_bin, we_neg, we_cmp, we_chain, we_and, we_or, we_not, we_ife, we_tup, we_lst, we_ix, we_sl, we_rev, we_call, we_blt, we_isi, we_app, we_lc, wa_nil, wa_cons, wr_nil, wr_cons, wo_none, wo_some, wto_none, wto_some, wt_and, wt_or, wt_not, wt_cmp, wt_chain, wt_tru, wi_seq, wi_range, wi_enum, wg_nm, wg_tup, wg_nil, wg_cons, wg_sub, wp_ok, wp_bad, wp_nox, wb_add, wb_sub, wb_mul, wb_fdiv, wb_mod, wb_pow, wc_eq, wc_ne, wc_lt, wc_le, wc_gt, wc_ge, wc_eqb, wc_neb, wc_eqs, wc_nes, wx_int, wx_lent, wx_lenl, wx_lenr, wz_int, wz_str, wz_bl, wz_non, wz_tup, wz_rol, wz_ref, wz_lst, List.getElem?_cons_zero, List.getElem?_cons_succ, List.set_cons_zero, List.set_cons_succ, List.length_cons, List.length_nil, wi_tup, wi_lst, wi_rol, wx_tuplel, wx_tuplet, wx_listt, wto_some, hdq, hqc, ite_f, ite_tt, decide_eq_true_eq, Bool.not_eq_true', wisT, ex_bl, ex_int, ite_tf, ite_ff, wix0, wix1, wix2, Nat.reduceAdd, Nat.reduceLT, sl0, sl1, sl2, sl3, sl4, sl5, sl6, sl10, if_true, true_and, and_true, List.map_cons, List.map_nil, wip, wt_turn, it_non_int, it_non_bool, it_non_str, it_non_tuple, it_non_list, it_non_dict, it_bl_int, it_bl_bool, it_bl_str, it_bl_tuple, it_bl_list, it_bl_dict, it_int_int, it_int_bool, it_int_str, it_int_tuple, it_int_list, it_int_dict, it_str_int, it_str_bool, it_str_str, it_str_tuple, it_str_list, it_str_dict, it_tup_int, it_tup_bool, it_tup_str, it_tup_tuple, it_tup_list, it_tup_dict, it_lst_int, it_lst_bool, it_lst_str, it_lst_tuple, it_lst_list, it_lst_dict, it_rol_int, it_rol_bool, it_rol_str, it_rol_tuple, it_rol_list, it_rol_dict]
  rw [wi_ref hl]
  refine wl_m dLot (fun l : Lot => (if l.2.2 = Tk rows rows.length room then some l.1 else none).map dNs) (okR_ok hl) (leL (by omega)) (fun l hm => ?_) ?_
  · simp only [we_con, we_varm, we_glom, we_bin, we_neg, we_cmp, we_chain, we_and, we_or, we_not, we_ife, we_tup, we_lst, we_ix, we_sl, we_rev, we_call, we_blt, we_isi, we_app, we_lc, wa_nil, wa_cons, wr_nil, wr_cons, wo_none, wo_some, wto_none, wto_some, wt_and, wt_or, wt_not, wt_cmp, wt_chain, wt_tru, wi_seq, wi_range, wi_enum, wg_nm, wg_tup, wg_nil, wg_cons, wg_sub, wp_ok, wp_bad, wp_nox, wb_add, wb_sub, wb_mul, wb_fdiv, wb_mod, wb_pow, wc_eq, wc_ne, wc_lt, wc_le, wc_gt, wc_ge, wc_eqb, wc_neb, wc_eqs, wc_nes, wx_int, wx_lent, wx_lenl, wx_lenr, wz_int, wz_str, wz_bl, wz_non, wz_tup, wz_rol, wz_ref, wz_lst, List.getElem?_cons_zero, List.getElem?_cons_succ, List.set_cons_zero, List.set_cons_succ, List.length_cons, List.length_nil, wi_tup, wi_lst, wi_rol, wx_tuplel, wx_tuplet, wx_listt, wto_some, hdq, hqc, ite_f, ite_tt, decide_eq_true_eq, Bool.not_eq_true', wisT, ex_bl, ex_int, ite_tf, ite_ff, wix0, wix1, wix2, Nat.reduceAdd, Nat.reduceLT, sl0, sl1, sl2, sl3, sl4, sl5, sl6, sl10, if_true, true_and, and_true, List.map_cons, List.map_nil, wip, wt_turn, it_non_int, it_non_bool, it_non_str, it_non_tuple, it_non_list, it_non_dict, it_bl_int, it_bl_bool, it_bl_str, it_bl_tuple, it_bl_list, it_bl_dict, it_int_int, it_int_bool, it_int_str, it_int_tuple, it_int_list, it_int_dict, it_str_int, it_str_bool, it_str_str, it_str_tuple, it_str_list, it_str_dict, it_tup_int, it_tup_bool, it_tup_str, it_tup_tuple, it_tup_list, it_tup_dict, it_lst_int, it_lst_bool, it_lst_str, it_lst_tuple, it_lst_list, it_lst_dict, it_rol_int, it_rol_bool, it_rol_str, it_rol_tuple, it_rol_list, it_rol_dict, dLot, dNs]
    refine ite_p (fun he => ?_) fun he => ?_
    · have he : l.2.2 = Tk rows rows.length room := by omega
      simp [he, dNs]
    · have he : ¬ l.2.2 = Tk rows rows.length room := by omega
      simp [he]
  rw [← List.map_filterMap]
  simp only [we_con, we_varm, we_glom, we_bin, we_neg, we_cmp, we_chain, we_and, we_or, we_not, we_ife, we_tup, we_lst, we_ix, we_sl, we_rev, we_call, we_blt, we_isi, we_app, we_lc, wa_nil, wa_cons, wr_nil, wr_cons, wo_none, wo_some, wto_none, wto_some, wt_and, wt_or, wt_not, wt_cmp, wt_chain, wt_tru, wi_seq, wi_range, wi_enum, wg_nm, wg_tup, wg_nil, wg_cons, wg_sub, wp_ok, wp_bad, wp_nox, wb_add, wb_sub, wb_mul, wb_fdiv, wb_mod, wb_pow, wc_eq, wc_ne, wc_lt, wc_le, wc_gt, wc_ge, wc_eqb, wc_neb, wc_eqs, wc_nes, wx_int, wx_lent, wx_lenl, wx_lenr, wz_int, wz_str, wz_bl, wz_non, wz_tup, wz_rol, wz_ref, wz_lst, List.getElem?_cons_zero, List.getElem?_cons_succ, List.set_cons_zero, List.set_cons_succ, List.length_cons, List.length_nil, wi_tup, wi_lst, wi_rol, wx_tuplel, wx_tuplet, wx_listt, wto_some, hdq, hqc, ite_f, ite_tt, decide_eq_true_eq, Bool.not_eq_true', wisT, ex_bl, ex_int, ite_tf, ite_ff, wix0, wix1, wix2, Nat.reduceAdd, Nat.reduceLT, sl0, sl1, sl2, sl3, sl4, sl5, sl6, sl10, if_true, true_and, and_true, List.map_cons, List.map_nil, wip, wt_turn, it_non_int, it_non_bool, it_non_str, it_non_tuple, it_non_list, it_non_dict, it_bl_int, it_bl_bool, it_bl_str, it_bl_tuple, it_bl_list, it_bl_dict, it_int_int, it_int_bool, it_int_str, it_int_tuple, it_int_list, it_int_dict, it_str_int, it_str_bool, it_str_str, it_str_tuple, it_str_list, it_str_dict, it_tup_int, it_tup_bool, it_tup_str, it_tup_tuple, it_tup_list, it_tup_dict, it_lst_int, it_lst_bool, it_lst_str, it_lst_tuple, it_lst_list, it_lst_dict, it_rol_int, it_rol_bool, it_rol_str, it_rol_tuple, it_rol_list, it_rol_dict]
  have G0 := GoodL.start (rows := rows) (room := room)
  have G0l : ((lots rows room rows.length).filterMap fun l => if l.2.2 = Tk rows rows.length room then some l.1 else none).length ≤ 128 := Nat.le_trans (List.length_filterMap_le _ _) big
  generalize ((lots rows room rows.length).filterMap fun l => if l.2.2 = Tk rows rows.length room then some l.1 else none) = gl0 at *
  refine ws_cut (fun ρ s' => ∃ (x y w : Option D) (r' : Nat) (t' : S) (gl : List (List Nat)), ρ = [some (dRows rows), some (.int (room : Nat)), some (.ref r), some (.int (Tk rows rows.length room : Nat)), some (.ref r'), x, y, w, none, none] ∧ s' = s ++ t' ∧ lk s' r' = some (gl.map dNs) ∧ gl[0]? = some (asc rows rows.length room)) (ws_fo ?_) ?_
  · simp only [dRows, we_con, we_varm, we_glom, we_bin, we_neg, we_cmp, we_chain, we_and, we_or, we_not, we_ife, we_tup, we_lst, we_ix, we_sl, we_rev, we_call, we_blt, we_isi, we_app, we_lc, wa_nil, wa_cons, wr_nil, wr_cons, wo_none, wo_some, wto_none, wto_some, wt_and, wt_or, wt_not, wt_cmp, wt_chain, wt_tru, wi_seq, wi_range, wi_enum, wg_nm, wg_tup, wg_nil, wg_cons, wg_sub, wp_ok, wp_bad, wp_nox, wb_add, wb_sub, wb_mul, wb_fdiv, wb_mod, wb_pow, wc_eq, wc_ne, wc_lt, wc_le, wc_gt, wc_ge, wc_eqb, wc_neb, wc_eqs, wc_nes, wx_int, wx_lent, wx_lenl, wx_lenr, wz_int, wz_str, wz_bl, wz_non, wz_tup, wz_rol, wz_ref, wz_lst, List.getElem?_cons_zero, List.getElem?_cons_succ, List.set_cons_zero, List.set_cons_succ, List.length_cons, List.length_nil, wi_tup, wi_lst, wi_rol, wx_tuplel, wx_tuplet, wx_listt, wto_some, hdq, hqc, ite_f, ite_tt, decide_eq_true_eq, Bool.not_eq_true', wisT, ex_bl, ex_int, ite_tf, ite_ff, wix0, wix1, wix2, Nat.reduceAdd, Nat.reduceLT, sl0, sl1, sl2, sl3, sl4, sl5, sl6, sl10, if_true, true_and, and_true, List.map_cons, List.map_nil, wip, wt_turn, it_non_int, it_non_bool, it_non_str, it_non_tuple, it_non_list, it_non_dict, it_bl_int, it_bl_bool, it_bl_str, it_bl_tuple, it_bl_list, it_bl_dict, it_int_int, it_int_bool, it_int_str, it_int_tuple, it_int_list, it_int_dict, it_str_int, it_str_bool, it_str_str, it_str_tuple, it_str_list, it_str_dict, it_tup_int, it_tup_bool, it_tup_str, it_tup_tuple, it_tup_list, it_tup_dict, it_lst_int, it_lst_bool, it_lst_str, it_lst_tuple, it_lst_list, it_lst_dict, it_rol_int, it_rol_bool, it_rol_str, it_rol_tuple, it_rol_list, it_rol_dict, List.length_map]
    rw [wri_d (lt62 (by omega)), down]
    refine ⟨fun it ρ s' => ∃ (j : Nat) (x y : Option D) (r' : Nat) (t' : S) (gl : List (List Nat)) (left : Nat) (suf : List Nat), j ≤ rows.length ∧ it = (List.range j).reverse.map (fun (k : Nat) => D.int (k : Int)) ∧
      ρ = [some (dRows rows), some (.int (room : Nat)), some (.ref r), some (.int (Tk rows rows.length room : Nat)), some (.ref r'), x, y, none, none, none] ∧ s' = s ++ t' ∧ lk s' r' = some (gl.map dNs) ∧ GoodL rows room j left suf gl ∧ gl.length ≤ 128, ?_, ?_, ?_⟩
    · exact ⟨rows.length, none, none, _, t ++ [_], gl0, room, [], Nat.le_refl _, rfl, rfl, by rw [List.append_assoc], lk_new1, G0, G0l⟩
    · rintro ρ s' ⟨j, x, y, r', t', gl, left, suf, hj, e, rfl, rfl, hg, G, _⟩
      have hj0 : j = 0 := by
        have := congrArg List.length e
        simp at this; omega
      subst hj0
      exact ⟨rfl, x, y, none, r', t', gl, rfl, rfl, hg, G.zero⟩
    · rintro z it ρ s' ⟨j, x, y, r', t', gl, left, suf, hj, e, rfl, rfl, hg, G, Gl⟩
      cases j with
      | zero => cases e
      | succ j =>
        rw [List.range_succ, List.reverse_append, List.reverse_singleton, List.singleton_append, List.map_cons] at e
        cases e
        refine ⟨rfl, ?_⟩
        simp only [we_con, we_varm, we_glom, we_bin, we_neg, we_cmp, we_chain, we_and, we_or, we_not, we_ife, we_tup, we_lst, we_ix, we_sl, we_rev, we_call, we_blt, we_isi, we_app, we_lc, wa_nil, wa_cons, wr_nil, wr_cons, wo_none, wo_some, wto_none, wto_some, wt_and, wt_or, wt_not, wt_cmp, wt_chain, wt_tru, wi_seq, wi_range, wi_enum, wg_nm, wg_tup, wg_nil, wg_cons, wg_sub, wp_ok, wp_bad, wp_nox, wb_add, wb_sub, wb_mul, wb_fdiv, wb_mod, wb_pow, wc_eq, wc_ne, wc_lt, wc_le, wc_gt, wc_ge, wc_eqb, wc_neb, wc_eqs, wc_nes, wx_int, wx_lent, wx_lenl, wx_lenr, wz_int, wz_str, wz_bl, wz_non, wz_tup, wz_rol, wz_ref, wz_lst, List.getElem?_cons_zero, List.getElem?_cons_succ, List.set_cons_zero, List.set_cons_succ, List.length_cons, List.length_nil, wi_tup, wi_lst, wi_rol, wx_tuplel, wx_tuplet, wx_listt, wto_some, hdq, hqc, ite_f, ite_tt, decide_eq_true_eq, Bool.not_eq_true', wisT, ex_bl, ex_int, ite_tf, ite_ff, wix0, wix1, wix2, Nat.reduceAdd, Nat.reduceLT, sl0, sl1, sl2, sl3, sl4, sl5, sl6, sl10, if_true, true_and, and_true, List.map_cons, List.map_nil, wip, wt_turn, it_non_int, it_non_bool, it_non_str, it_non_tuple, it_non_list, it_non_dict, it_bl_int, it_bl_bool, it_bl_str, it_bl_tuple, it_bl_list, it_bl_dict, it_int_int, it_int_bool, it_int_str, it_int_tuple, it_int_list, it_int_dict, it_str_int, it_str_bool, it_str_str, it_str_tuple, it_str_list, it_str_dict, it_tup_int, it_tup_bool, it_tup_str, it_tup_tuple, it_tup_list, it_tup_dict, it_lst_int, it_lst_bool, it_lst_str, it_lst_tuple, it_lst_list, it_lst_dict, it_rol_int, it_rol_bool, it_rol_str, it_rol_tuple, it_rol_list, it_rol_dict]
        refine ws_asgs ?_
        simp only [we_con, we_varm, we_glom, we_bin, we_neg, we_cmp, we_chain, we_and, we_or, we_not, we_ife, we_tup, we_lst, we_ix, we_sl, we_rev, we_call, we_blt, we_isi, we_app, we_lc, wa_nil, wa_cons, wr_nil, wr_cons, wo_none, wo_some, wto_none, wto_some, wt_and, wt_or, wt_not, wt_cmp, wt_chain, wt_tru, wi_seq, wi_range, wi_enum, wg_nm, wg_tup, wg_nil, wg_cons, wg_sub, wp_ok, wp_bad, wp_nox, wb_add, wb_sub, wb_mul, wb_fdiv, wb_mod, wb_pow, wc_eq, wc_ne, wc_lt, wc_le, wc_gt, wc_ge, wc_eqb, wc_neb, wc_eqs, wc_nes, wx_int, wx_lent, wx_lenl, wx_lenr, wz_int, wz_str, wz_bl, wz_non, wz_tup, wz_rol, wz_ref, wz_lst, List.getElem?_cons_zero, List.getElem?_cons_succ, List.set_cons_zero, List.set_cons_succ, List.length_cons, List.length_nil, wi_tup, wi_lst, wi_rol, wx_tuplel, wx_tuplet, wx_listt, wto_some, hdq, hqc, ite_f, ite_tt, decide_eq_true_eq, Bool.not_eq_true', wisT, ex_bl, ex_int, ite_tf, ite_ff, wix0, wix1, wix2, Nat.reduceAdd, Nat.reduceLT, sl0, sl1, sl2, sl3, sl4, sl5, sl6, sl10, if_true, true_and, and_true, List.map_cons, List.map_nil, wip, wt_turn, it_non_int, it_non_bool, it_non_str, it_non_tuple, it_non_list, it_non_dict, it_bl_int, it_bl_bool, it_bl_str, it_bl_tuple, it_bl_list, it_bl_dict, it_int_int, it_int_bool, it_int_str, it_int_tuple, it_int_list, it_int_dict, it_str_int, it_str_bool, it_str_str, it_str_tuple, it_str_list, it_str_dict, it_tup_int, it_tup_bool, it_tup_str, it_tup_tuple, it_tup_list, it_tup_dict, it_lst_int, it_lst_bool, it_lst_str, it_lst_tuple, it_lst_list, it_lst_dict, it_rol_int, it_rol_bool, it_rol_str, it_rol_tuple, it_rol_list, it_rol_dict]
        rw [wi_ref hg]
        refine wl_m dNs (fun lot => (if !decide (j ∈ lot) then some lot else none).map dNs) (okR_ok hg) (leL (by omega)) (fun lot hm => ?_) ?_
        · simp only [we_con, we_varm, we_glom, we_bin, we_neg, we_cmp, we_chain, we_and, we_or, we_not, we_ife, we_tup, we_lst, we_ix, we_sl, we_rev, we_call, we_blt, we_isi, we_app, we_lc, wa_nil, wa_cons, wr_nil, wr_cons, wo_none, wo_some, wto_none, wto_some, wt_and, wt_or, wt_not, wt_cmp, wt_chain, wt_tru, wi_seq, wi_range, wi_enum, wg_nm, wg_tup, wg_nil, wg_cons, wg_sub, wp_ok, wp_bad, wp_nox, wb_add, wb_sub, wb_mul, wb_fdiv, wb_mod, wb_pow, wc_eq, wc_ne, wc_lt, wc_le, wc_gt, wc_ge, wc_eqb, wc_neb, wc_eqs, wc_nes, wx_int, wx_lent, wx_lenl, wx_lenr, wz_int, wz_str, wz_bl, wz_non, wz_tup, wz_rol, wz_ref, wz_lst, List.getElem?_cons_zero, List.getElem?_cons_succ, List.set_cons_zero, List.set_cons_succ, List.length_cons, List.length_nil, wi_tup, wi_lst, wi_rol, wx_tuplel, wx_tuplet, wx_listt, wto_some, hdq, hqc, ite_f, ite_tt, decide_eq_true_eq, Bool.not_eq_true', wisT, ex_bl, ex_int, ite_tf, ite_ff, wix0, wix1, wix2, Nat.reduceAdd, Nat.reduceLT, sl0, sl1, sl2, sl3, sl4, sl5, sl6, sl10, if_true, true_and, and_true, List.map_cons, List.map_nil, wip, wt_turn, it_non_int, it_non_bool, it_non_str, it_non_tuple, it_non_list, it_non_dict, it_bl_int, it_bl_bool, it_bl_str, it_bl_tuple, it_bl_list, it_bl_dict, it_int_int, it_int_bool, it_int_str, it_int_tuple, it_int_list, it_int_dict, it_str_int, it_str_bool, it_str_str, it_str_tuple, it_str_list, it_str_dict, it_tup_int, it_tup_bool, it_tup_str, it_tup_tuple, it_tup_list, it_tup_dict, it_lst_int, it_lst_bool, it_lst_str, it_lst_tuple, it_lst_list, it_lst_dict, it_rol_int, it_rol_bool, it_rol_str, it_rol_tuple, it_rol_list, it_rol_dict, wz_dNs, wc_nin]
          refine ite_p (fun h => ?_) fun h => ?_
          · simp at h
            simp [h]
          · simp at h
            simp [h]
        · rw [← List.map_filterMap, fm_filter]
          obtain ⟨left', suf', G'⟩ := G.step
          have gl2 : (gl.filter fun lot => !decide (j ∈ lot)).length ≤ 128 := Nat.le_trans (List.length_filter_le _ _) Gl
          generalize (gl.filter fun lot => !decide (j ∈ lot)) = gw at *
          simp only [we_con, we_varm, we_glom, we_bin, we_neg, we_cmp, we_chain, we_and, we_or, we_not, we_ife, we_tup, we_lst, we_ix, we_sl, we_rev, we_call, we_blt, we_isi, we_app, we_lc, wa_nil, wa_cons, wr_nil, wr_cons, wo_none, wo_some, wto_none, wto_some, wt_and, wt_or, wt_not, wt_cmp, wt_chain, wt_tru, wi_seq, wi_range, wi_enum, wg_nm, wg_tup, wg_nil, wg_cons, wg_sub, wp_ok, wp_bad, wp_nox, wb_add, wb_sub, wb_mul, wb_fdiv, wb_mod, wb_pow, wc_eq, wc_ne, wc_lt, wc_le, wc_gt, wc_ge, wc_eqb, wc_neb, wc_eqs, wc_nes, wx_int, wx_lent, wx_lenl, wx_lenr, wz_int, wz_str, wz_bl, wz_non, wz_tup, wz_rol, wz_ref, wz_lst, List.getElem?_cons_zero, List.getElem?_cons_succ, List.set_cons_zero, List.set_cons_succ, List.length_cons, List.length_nil, wi_tup, wi_lst, wi_rol, wx_tuplel, wx_tuplet, wx_listt, wto_some, hdq, hqc, ite_f, ite_tt, decide_eq_true_eq, Bool.not_eq_true', wisT, ex_bl, ex_int, ite_tf, ite_ff, wix0, wix1, wix2, Nat.reduceAdd, Nat.reduceLT, sl0, sl1, sl2, sl3, sl4, sl5, sl6, sl10, if_true, true_and, and_true, List.map_cons, List.map_nil, wip, wt_turn, it_non_int, it_non_bool, it_non_str, it_non_tuple, it_non_list, it_non_dict, it_bl_int, it_bl_bool, it_bl_str, it_bl_tuple, it_bl_list, it_bl_dict, it_int_int, it_int_bool, it_int_str, it_int_tuple, it_int_list, it_int_dict, it_str_int, it_str_bool, it_str_str, it_str_tuple, it_str_list, it_str_dict, it_tup_int, it_tup_bool, it_tup_str, it_tup_tuple, it_tup_list, it_tup_dict, it_lst_int, it_lst_bool, it_lst_str, it_lst_tuple, it_lst_list, it_lst_dict, it_rol_int, it_rol_bool, it_rol_str, it_rol_tuple, it_rol_list, it_rol_dict]
          refine ws_1 (ws_asg ?_)
          simp only [we_con, we_varm, we_glom, we_bin, we_neg, we_cmp, we_chain, we_and, we_or, we_not, we_ife, we_tup, we_lst, we_ix, we_sl, we_rev, we_call, we_blt, we_isi, we_app, we_lc, wa_nil, wa_cons, wr_nil, wr_cons, wo_none, wo_some, wto_none, wto_some, wt_and, wt_or, wt_not, wt_cmp, wt_chain, wt_tru, wi_seq, wi_range, wi_enum, wg_nm, wg_tup, wg_nil, wg_cons, wg_sub, wp_ok, wp_bad, wp_nox, wb_add, wb_sub, wb_mul, wb_fdiv, wb_mod, wb_pow, wc_eq, wc_ne, wc_lt, wc_le, wc_gt, wc_ge, wc_eqb, wc_neb, wc_eqs, wc_nes, wx_int, wx_lent, wx_lenl, wx_lenr, wz_int, wz_str, wz_bl, wz_non, wz_tup, wz_rol, wz_ref, wz_lst, List.getElem?_cons_zero, List.getElem?_cons_succ, List.set_cons_zero, List.set_cons_succ, List.length_cons, List.length_nil, wi_tup, wi_lst, wi_rol, wx_tuplel, wx_tuplet, wx_listt, wto_some, hdq, hqc, ite_f, ite_tt, decide_eq_true_eq, Bool.not_eq_true', wisT, ex_bl, ex_int, ite_tf, ite_ff, wix0, wix1, wix2, Nat.reduceAdd, Nat.reduceLT, sl0, sl1, sl2, sl3, sl4, sl5, sl6, sl10, if_true, true_and, and_true, List.map_cons, List.map_nil, wip, wt_turn, it_non_int, it_non_bool, it_non_str, it_non_tuple, it_non_list, it_non_dict, it_bl_int, it_bl_bool, it_bl_str, it_bl_tuple, it_bl_list, it_bl_dict, it_int_int, it_int_bool, it_int_str, it_int_tuple, it_int_list, it_int_dict, it_str_int, it_str_bool, it_str_str, it_str_tuple, it_str_list, it_str_dict, it_tup_int, it_tup_bool, it_tup_str, it_tup_tuple, it_tup_list, it_tup_dict, it_lst_int, it_lst_bool, it_lst_str, it_lst_tuple, it_lst_list, it_lst_dict, it_rol_int, it_rol_bool, it_rol_str, it_rol_tuple, it_rol_list, it_rol_dict]
          rw [wc_nenil lk_new1]
          cases hgw : gw.isEmpty with
          | false =>
            rw [hgw] at G'
            rw [if_pos (by decide)]
            exact ⟨j, _, _, _, t' ++ [_], gw, left', suf', by omega, rfl, rfl, by rw [List.append_assoc], lk_new1, G', gl2⟩
          | true =>
            rw [hgw] at G'
            rw [if_neg (by decide)]
            exact ⟨j, _, _, r', t' ++ [_], gl, left', suf', by omega, rfl, rfl, by rw [List.append_assoc], lk_app hg, G', Gl⟩
  · rintro ρ s' ⟨x, y, w, r', t', gl, rfl, rfl, hg, h0⟩
    refine ws_rets ?_
    simp only [we_con, we_varm, we_glom, we_bin, we_neg, we_cmp, we_chain, we_and, we_or, we_not, we_ife, we_tup, we_lst, we_ix, we_sl, we_rev, we_call, we_blt, we_isi, we_app, we_lc, wa_nil, wa_cons, wr_nil, wr_cons, wo_none, wo_some, wto_none, wto_some, wt_and, wt_or, wt_not, wt_cmp, wt_chain, wt_tru, wi_seq, wi_range, wi_enum, wg_nm, wg_tup, wg_nil, wg_cons, wg_sub, wp_ok, wp_bad, wp_nox, wb_add, wb_sub, wb_mul, wb_fdiv, wb_mod, wb_pow, wc_eq, wc_ne, wc_lt, wc_le, wc_gt, wc_ge, wc_eqb, wc_neb, wc_eqs, wc_nes, wx_int, wx_lent, wx_lenl, wx_lenr, wz_int, wz_str, wz_bl, wz_non, wz_tup, wz_rol, wz_ref, wz_lst, List.getElem?_cons_zero, List.getElem?_cons_succ, List.set_cons_zero, List.set_cons_succ, List.length_cons, List.length_nil, wi_tup, wi_lst, wi_rol, wx_tuplel, wx_tuplet, wx_listt, wto_some, hdq, hqc, ite_f, ite_tt, decide_eq_true_eq, Bool.not_eq_true', wisT, ex_bl, ex_int, ite_tf, ite_ff, wix0, wix1, wix2, Nat.reduceAdd, Nat.reduceLT, sl0, sl1, sl2, sl3, sl4, sl5, sl6, sl10, if_true, true_and, and_true, List.map_cons, List.map_nil, wip, wt_turn, it_non_int, it_non_bool, it_non_str, it_non_tuple, it_non_list, it_non_dict, it_bl_int, it_bl_bool, it_bl_str, it_bl_tuple, it_bl_list, it_bl_dict, it_int_int, it_int_bool, it_int_str, it_int_tuple, it_int_list, it_int_dict, it_str_int, it_str_bool, it_str_str, it_str_tuple, it_str_list, it_str_dict, it_tup_int, it_tup_bool, it_tup_str, it_tup_tuple, it_tup_list, it_tup_dict, it_lst_int, it_lst_bool, it_lst_str, it_lst_tuple, it_lst_list, it_lst_dict, it_rol_int, it_rol_bool, it_rol_str, it_rol_tuple, it_rol_list, it_rol_dict]
    have h1 : (gl.map dNs)[0]? = some (dNs (asc rows rows.length room)) := by rw [List.getElem?_map, h0]; rfl
    have ha0 : atI (gl.map dNs) (0 : Int) = some (dNs (asc rows rows.length room)) := atI_nat (n := 0) h1
    rw [wixr hg ha0]
    show Wp (setl (dNs _) _) _
    rw [wz_dNs]
    show Wp (setl (dRows rows) _) _
    rw [wz_dRows]
    refine w_call (s_table (k := k) g) ?_
    rintro d s3 ⟨rfl, t3, rfl⟩
    rw [wz_dTab]
    exact ⟨rfl, t' ++ t3, by rw [List.append_assoc]⟩
end DI.L

set_option Elab.async false
set_option linter.all false
set_option maxRecDepth 100000
set_option maxHeartbeats 4000000
/-! the plain law, H: is_table. -/
namespace DI.L
open PySem L2
theorem w_whole2 {k : Nat} {d : D} {s : S} {P : D → S → Prop} {n : Nat} (h : d.pl n = true) : Wp (callN cfg.ds cfg.q0 (k+1) "is_whole" [d] s) P = P (.bl d.isInt) s := by
  rw [show callN cfg.ds cfg.q0 (k+1) "is_whole" [d] s = .ok (.bl d.isInt) s from s_whole h, wp_ok]
theorem w_lwhole2 {k : Nat} {d : D} {s : S} {P : D → S → Prop} {n : Nat} (h : d.pl n = true) : Wp (callN cfg.ds cfg.q0 (k+1) "_law_whole" [d] s) P = P (.bl d.isInt) s := by
  rw [show callN cfg.ds cfg.q0 (k+1) "_law_whole" [d] s = .ok (.bl d.isInt) s from s_lwhole h, wp_ok]
/-- a row of numbers -/
def rowB (n : Nat) : D → Bool
  | .tup ys => decide (ys.length = n) && ys.all D.isInt
  | _ => false
def dR (n : Nat) (f : Nat → Int) : D := .tup ((List.range n).map fun j => .int (f j))
theorem rowB_is {n : Nat} {d : D} (h : rowB n d = true) : ∃ f, d = dR n f := by
  cases d with
  | tup ys =>
    obtain ⟨h1, h2⟩ := ba (show (decide (ys.length = n) && ys.all D.isInt) = true from h)
    have h1 := of_decide_eq_true h1
    refine ⟨fun j => match ys.getD j .non with
      | .int i => i
      | _ => 0, congrArg D.tup (List.ext_getElem (by simp [h1]) fun i a b => ?_)⟩
    rw [List.getElem_map, List.getElem_range]
    dsimp only
    rw [List.getD_eq_getElem?_getD, List.getElem?_eq_getElem a]
    have := List.all_eq_true.mp h2 _ (List.getElem_mem a)
    show ys[i] = .int (match (some ys[i]).getD .non with
      | .int i => i
      | _ => 0)
    cases e : ys[i] with
    | int x => rfl
    | _ => rw [e] at this; cases this
  | _ => cases h
theorem dR_row {n : Nat} {f : Nat → Int} : rowB n (dR n f) = true := by
  unfold rowB dR
  dsimp only
  rw [decide_eq_true (by simp)]
  simp [D.isInt]
theorem same_ints {n : Nat} {f g : Nat → Int} : D.same (dR n f) (dR n g) = true ↔ ∀ j, j < n → f j = g j := by
  unfold dR D.same
  rw [sames_ix (by simp)]
  constructor
  · intro h j hj
    have := h j (.int (f j)) (.int (g j)) (by rw [List.getElem?_map, List.getElem?_range hj]; rfl) (by rw [List.getElem?_map, List.getElem?_range hj]; rfl)
    unfold D.same at this
    exact eq_of_beq this
  · intro h j x y hx hy
    have hj : j < n := by
      have := (List.getElem?_eq_some_iff.mp hx).1
      simpa using this
    rw [List.getElem?_map, List.getElem?_range hj] at hx hy
    cases hx; cases hy
    unfold D.same
    rw [h j hj]; exact beq_self_eq_true _
/-- the step from one row to the next -/
def Rec (rows : List (Nat × Nat)) (M : Nat → Nat → Int) (i j : Nat) : Prop := M (i + 1) j = if (rows.getD i (0, 0)).1 ≤ j then max (M i j) (M i (j - (rows.getD i (0, 0)).1) + ((rows.getD i (0, 0)).2 : Nat)) else M i j
def dM (n m : Nat) (M : Nat → Nat → Int) : D := .tup ((List.range n).map fun i => dR m (M i))
theorem same_dM {n m : Nat} {M M' : Nat → Nat → Int} : D.same (dM n m M) (dM n m M') = true ↔ ∀ i, i < n → ∀ j, j < m → M i j = M' i j := by
  unfold dM D.same
  rw [sames_ix (by simp)]
  constructor
  · intro h i hi
    exact same_ints.mp (h i _ _ (by rw [List.getElem?_map, List.getElem?_range hi]; rfl) (by rw [List.getElem?_map, List.getElem?_range hi]; rfl))
  · intro h i x y hx hy
    have hi : i < n := by
      have := (List.getElem?_eq_some_iff.mp hx).1
      simpa using this
    rw [List.getElem?_map, List.getElem?_range hi] at hx hy
    cases hx; cases hy
    exact same_ints.mpr (h i hi)
theorem dTab_M {rows : List (Nat × Nat)} {room : Nat} : dTab rows room = dM (rows.length + 1) (room + 1) fun i j => (Tk rows i j : Nat) := rfl
theorem rec_tk {rows : List (Nat × Nat)} {i j : Nat} : Rec rows (fun i j => (Tk rows i j : Nat)) i j := by
  unfold Rec
  have e : Tk rows (i + 1) j = if (rows.getD i (0, 0)).1 ≤ j then max (Tk rows i j) (Tk rows i (j - (rows.getD i (0, 0)).1) + (rows.getD i (0, 0)).2) else Tk rows i j := rfl
  dsimp only
  rw [e]
  split
  · omega
  · rfl
theorem tk_rec {rows : List (Nat × Nat)} {M : Nat → Nat → Int} {n m : Nat} (h0 : ∀ j, j < m → M 0 j = 0) (h : ∀ i, i < n → ∀ j, j < m → Rec rows M i j) : ∀ i, i < n + 1 → ∀ j, j < m → M i j = (Tk rows i j : Nat) := by
  intro i
  induction i with
  | zero => intro _ j hj; rw [h0 j hj]; rfl
  | succ i ih =>
    intro hi j hj
    have r1 := h i (by omega) j hj
    have r2 := rec_tk (rows := rows) (i := i) (j := j)
    unfold Rec at r1 r2
    dsimp only at r2
    rw [r1, r2, ih (by omega) j hj]
    split
    · rw [ih (by omega) (j - (rows.getD i (0, 0)).1) (by omega)]
    · rfl
/-- the rows, numbered -/
theorem en_rows {rows : List (Nat × Nat)} : ((rows.map dRow).zipIdx.map fun p => D.tup [.int (p.2 : Nat), p.1]) = (List.range' 0 rows.length).map fun (i : Nat) => .tup [.int (i : Int), dRow (rows.getD i (0, 0))] := by
  refine List.ext_getElem (by simp) fun i a b => ?_
  simp at a
  simp [a]
theorem c_ist (k : Nat) (a b c : D) (s : S) : cl (k+1) "is_table" [a, b, c] s = runF (cfg.q k) 10 d_is_table.body [a, b, c] s := by kernel_rfl
theorem s_ist {k : Nat} {rows : List (Nat × Nat)} {room : Nat} {v : D} {s : S} (g : Good rows room) (pv : v.pl 30 = true) : Wp (cl (k+2) "is_table" [dRows rows, .int (room : Nat), v] s) fun d s' => d = .bl (D.same v (dTab rows room)) ∧ ∃ t, s' = s ++ t := by
  rw [c_ist]
  refine wf_run ?_
  show Ws (runSs (cfg.q (k+1)) d_is_table.body [some (dRows rows), some (.int (room : Nat)), some v, none, none, none, none, none, none, none] s) _
  unfold d_is_table
  have few := g.few
  have rm := g.room
  have leave : ∀ {ρ : En} {s : S} {r : List IS} {Q : Kt}, Q.rt (.bl false) s → Ws (runSs (cfg.q (k+1)) (.ret (some (.con (.bl false))) :: r) ρ s) Q := fun h => ws_rets (by rw [we_con]; exact h)
  by_cases hv : ∃ xs, v = .tup xs ∧ xs.length = rows.length + 1
  rotate_left
  · refine ws_take ?_ (leave ?_)
    · cases v with
      | tup xs =>
        simp only [dRows, we_con, we_varm, we_glom, we_bin, we_neg, we_cmp, we_chain, we_and, we_or, we_not, we_ife, we_tup, we_lst, we_ix, we_sl, we_rev, we_call, we_blt, we_isi, we_app, we_lc, wa_nil, wa_cons, wr_nil, wr_cons, wo_none, wo_some, wto_none, wto_some, wt_and, wt_or, wt_not, wt_cmp, wt_chain, wt_tru, wi_seq, wi_range, wi_enum, wg_nm, wg_tup, wg_nil, wg_cons, wg_sub, wp_ok, wp_bad, wp_nox, wb_add, wb_sub, wb_mul, wb_fdiv, wb_mod, wb_pow, wc_eq, wc_ne, wc_lt, wc_le, wc_gt, wc_ge, wc_eqb, wc_neb, wc_eqs, wc_nes, wx_int, wx_lent, wx_lenl, wx_lenr, wz_int, wz_str, wz_bl, wz_non, wz_tup, wz_rol, wz_ref, wz_lst, List.getElem?_cons_zero, List.getElem?_cons_succ, List.set_cons_zero, List.set_cons_succ, List.length_cons, List.length_nil, wi_tup, wi_lst, wi_rol, wx_tuplel, wx_tuplet, wx_listt, wto_some, hdq, hqc, ite_f, ite_tt, decide_eq_true_eq, Bool.not_eq_true', wisT, ex_bl, ex_int, ite_tf, ite_ff, wix0, wix1, wix2, Nat.reduceAdd, Nat.reduceLT, sl0, sl1, sl2, sl3, sl4, sl5, sl6, sl10, if_true, true_and, and_true, List.map_cons, List.map_nil, wip, wt_turn, it_non_int, it_non_bool, it_non_str, it_non_tuple, it_non_list, it_non_dict, it_bl_int, it_bl_bool, it_bl_str, it_bl_tuple, it_bl_list, it_bl_dict, it_int_int, it_int_bool, it_int_str, it_int_tuple, it_int_list, it_int_dict, it_str_int, it_str_bool, it_str_str, it_str_tuple, it_str_list, it_str_dict, it_tup_int, it_tup_bool, it_tup_str, it_tup_tuple, it_tup_list, it_tup_dict, it_lst_int, it_lst_bool, it_lst_str, it_lst_tuple, it_lst_list, it_lst_dict, it_rol_int, it_rol_bool, it_rol_str, it_rol_tuple, it_rol_list, it_rol_dict, List.length_map]
        have : xs.length ≠ rows.length + 1 := fun z => hv ⟨xs, rfl, z⟩
        simp; omega
      | non => simp only [we_con, we_varm, we_glom, we_bin, we_neg, we_cmp, we_chain, we_and, we_or, we_not, we_ife, we_tup, we_lst, we_ix, we_sl, we_rev, we_call, we_blt, we_isi, we_app, we_lc, wa_nil, wa_cons, wr_nil, wr_cons, wo_none, wo_some, wto_none, wto_some, wt_and, wt_or, wt_not, wt_cmp, wt_chain, wt_tru, wi_seq, wi_range, wi_enum, wg_nm, wg_tup, wg_nil, wg_cons, wg_sub, wp_ok, wp_bad, wp_nox, wb_add, wb_sub, wb_mul, wb_fdiv, wb_mod, wb_pow, wc_eq, wc_ne, wc_lt, wc_le, wc_gt, wc_ge, wc_eqb, wc_neb, wc_eqs, wc_nes, wx_int, wx_lent, wx_lenl, wx_lenr, wz_int, wz_str, wz_bl, wz_non, wz_tup, wz_rol, wz_ref, wz_lst, List.getElem?_cons_zero, List.getElem?_cons_succ, List.set_cons_zero, List.set_cons_succ, List.length_cons, List.length_nil, wi_tup, wi_lst, wi_rol, wx_tuplel, wx_tuplet, wx_listt, wto_some, hdq, hqc, ite_f, ite_tt, decide_eq_true_eq, Bool.not_eq_true', wisT, ex_bl, ex_int, ite_tf, ite_ff, wix0, wix1, wix2, Nat.reduceAdd, Nat.reduceLT, sl0, sl1, sl2, sl3, sl4, sl5, sl6, sl10, if_true, true_and, and_true, List.map_cons, List.map_nil, wip, wt_turn, it_non_int, it_non_bool, it_non_str, it_non_tuple, it_non_list, it_non_dict, it_bl_int, it_bl_bool, it_bl_str, it_bl_tuple, it_bl_list, it_bl_dict, it_int_int, it_int_bool, it_int_str, it_int_tuple, it_int_list, it_int_dict, it_str_int, it_str_bool, it_str_str, it_str_tuple, it_str_list, it_str_dict, it_tup_int, it_tup_bool, it_tup_str, it_tup_tuple, it_tup_list, it_tup_dict, it_lst_int, it_lst_bool, it_lst_str, it_lst_tuple, it_lst_list, it_lst_dict, it_rol_int, it_rol_bool, it_rol_str, it_rol_tuple, it_rol_list, it_rol_dict]
      | bl b => simp only [we_con, we_varm, we_glom, we_bin, we_neg, we_cmp, we_chain, we_and, we_or, we_not, we_ife, we_tup, we_lst, we_ix, we_sl, we_rev, we_call, we_blt, we_isi, we_app, we_lc, wa_nil, wa_cons, wr_nil, wr_cons, wo_none, wo_some, wto_none, wto_some, wt_and, wt_or, wt_not, wt_cmp, wt_chain, wt_tru, wi_seq, wi_range, wi_enum, wg_nm, wg_tup, wg_nil, wg_cons, wg_sub, wp_ok, wp_bad, wp_nox, wb_add, wb_sub, wb_mul, wb_fdiv, wb_mod, wb_pow, wc_eq, wc_ne, wc_lt, wc_le, wc_gt, wc_ge, wc_eqb, wc_neb, wc_eqs, wc_nes, wx_int, wx_lent, wx_lenl, wx_lenr, wz_int, wz_str, wz_bl, wz_non, wz_tup, wz_rol, wz_ref, wz_lst, List.getElem?_cons_zero, List.getElem?_cons_succ, List.set_cons_zero, List.set_cons_succ, List.length_cons, List.length_nil, wi_tup, wi_lst, wi_rol, wx_tuplel, wx_tuplet, wx_listt, wto_some, hdq, hqc, ite_f, ite_tt, decide_eq_true_eq, Bool.not_eq_true', wisT, ex_bl, ex_int, ite_tf, ite_ff, wix0, wix1, wix2, Nat.reduceAdd, Nat.reduceLT, sl0, sl1, sl2, sl3, sl4, sl5, sl6, sl10, if_true, true_and, and_true, List.map_cons, List.map_nil, wip, wt_turn, it_non_int, it_non_bool, it_non_str, it_non_tuple, it_non_list, it_non_dict, it_bl_int, it_bl_bool, it_bl_str, it_bl_tuple, it_bl_list, it_bl_dict, it_int_int, it_int_bool, it_int_str, it_int_tuple, it_int_list, it_int_dict, it_str_int, it_str_bool, it_str_str, it_str_tuple, it_str_list, it_str_dict, it_tup_int, it_tup_bool, it_tup_str, it_tup_tuple, it_tup_list, it_tup_dict, it_lst_int, it_lst_bool, it_lst_str, it_lst_tuple, it_lst_list, it_lst_dict, it_rol_int, it_rol_bool, it_rol_str, it_rol_tuple, it_rol_list, it_rol_dict]
      | int b => simp only [we_con, we_varm, we_glom, we_bin, we_neg, we_cmp, we_chain, we_and, we_or, we_not, we_ife, we_tup, we_lst, we_ix, we_sl, we_rev, we_call, we_blt, we_isi, we_app, we_lc, wa_nil, wa_cons, wr_nil, wr_cons, wo_none, wo_some, wto_none, wto_some, wt_and, wt_or, wt_not, wt_cmp, wt_chain, wt_tru, wi_seq, wi_range, wi_enum, wg_nm, wg_tup, wg_nil, wg_cons, wg_sub, wp_ok, wp_bad, wp_nox, wb_add, wb_sub, wb_mul, wb_fdiv, wb_mod, wb_pow, wc_eq, wc_ne, wc_lt, wc_le, wc_gt, wc_ge, wc_eqb, wc_neb, wc_eqs, wc_nes, wx_int, wx_lent, wx_lenl, wx_lenr, wz_int, wz_str, wz_bl, wz_non, wz_tup, wz_rol, wz_ref, wz_lst, List.getElem?_cons_zero, List.getElem?_cons_succ, List.set_cons_zero, List.set_cons_succ, List.length_cons, List.length_nil, wi_tup, wi_lst, wi_rol, wx_tuplel, wx_tuplet, wx_listt, wto_some, hdq, hqc, ite_f, ite_tt, decide_eq_true_eq, Bool.not_eq_true', wisT, ex_bl, ex_int, ite_tf, ite_ff, wix0, wix1, wix2, Nat.reduceAdd, Nat.reduceLT, sl0, sl1, sl2, sl3, sl4, sl5, sl6, sl10, if_true, true_and, and_true, List.map_cons, List.map_nil, wip, wt_turn, it_non_int, it_non_bool, it_non_str, it_non_tuple, it_non_list, it_non_dict, it_bl_int, it_bl_bool, it_bl_str, it_bl_tuple, it_bl_list, it_bl_dict, it_int_int, it_int_bool, it_int_str, it_int_tuple, it_int_list, it_int_dict, it_str_int, it_str_bool, it_str_str, it_str_tuple, it_str_list, it_str_dict, it_tup_int, it_tup_bool, it_tup_str, it_tup_tuple, it_tup_list, it_tup_dict, it_lst_int, it_lst_bool, it_lst_str, it_lst_tuple, it_lst_list, it_lst_dict, it_rol_int, it_rol_bool, it_rol_str, it_rol_tuple, it_rol_list, it_rol_dict]
      | str b => simp only [we_con, we_varm, we_glom, we_bin, we_neg, we_cmp, we_chain, we_and, we_or, we_not, we_ife, we_tup, we_lst, we_ix, we_sl, we_rev, we_call, we_blt, we_isi, we_app, we_lc, wa_nil, wa_cons, wr_nil, wr_cons, wo_none, wo_some, wto_none, wto_some, wt_and, wt_or, wt_not, wt_cmp, wt_chain, wt_tru, wi_seq, wi_range, wi_enum, wg_nm, wg_tup, wg_nil, wg_cons, wg_sub, wp_ok, wp_bad, wp_nox, wb_add, wb_sub, wb_mul, wb_fdiv, wb_mod, wb_pow, wc_eq, wc_ne, wc_lt, wc_le, wc_gt, wc_ge, wc_eqb, wc_neb, wc_eqs, wc_nes, wx_int, wx_lent, wx_lenl, wx_lenr, wz_int, wz_str, wz_bl, wz_non, wz_tup, wz_rol, wz_ref, wz_lst, List.getElem?_cons_zero, List.getElem?_cons_succ, List.set_cons_zero, List.set_cons_succ, List.length_cons, List.length_nil, wi_tup, wi_lst, wi_rol, wx_tuplel, wx_tuplet, wx_listt, wto_some, hdq, hqc, ite_f, ite_tt, decide_eq_true_eq, Bool.not_eq_true', wisT, ex_bl, ex_int, ite_tf, ite_ff, wix0, wix1, wix2, Nat.reduceAdd, Nat.reduceLT, sl0, sl1, sl2, sl3, sl4, sl5, sl6, sl10, if_true, true_and, and_true, List.map_cons, List.map_nil, wip, wt_turn, it_non_int, it_non_bool, it_non_str, it_non_tuple, it_non_list, it_non_dict, it_bl_int, it_bl_bool, it_bl_str, it_bl_tuple, it_bl_list, it_bl_dict, it_int_int, it_int_bool, it_int_str, it_int_tuple, it_int_list, it_int_dict, it_str_int, it_str_bool, it_str_str, it_str_tuple, it_str_list, it_str_dict, it_tup_int, it_tup_bool, it_tup_str, it_tup_tuple, it_tup_list, it_tup_dict, it_lst_int, it_lst_bool, it_lst_str, it_lst_tuple, it_lst_list, it_lst_dict, it_rol_int, it_rol_bool, it_rol_str, it_rol_tuple, it_rol_list, it_rol_dict]
      | _ => exact nomatch pv
    · refine ⟨congrArg D.bl ?_, [], (List.append_nil _).symm⟩
      cases e : D.same v (dTab rows room) with
      | false => rfl
      | true =>
        exfalso
        have := same_eq e
        exact hv ⟨_, this, by simp⟩
  obtain ⟨xs, rfl, hl⟩ := hv
  have px := pl_tup pv
  refine ws_skip ?_ ?_
  · simp only [dRows, we_con, we_varm, we_glom, we_bin, we_neg, we_cmp, we_chain, we_and, we_or, we_not, we_ife, we_tup, we_lst, we_ix, we_sl, we_rev, we_call, we_blt, we_isi, we_app, we_lc, wa_nil, wa_cons, wr_nil, wr_cons, wo_none, wo_some, wto_none, wto_some, wt_and, wt_or, wt_not, wt_cmp, wt_chain, wt_tru, wi_seq, wi_range, wi_enum, wg_nm, wg_tup, wg_nil, wg_cons, wg_sub, wp_ok, wp_bad, wp_nox, wb_add, wb_sub, wb_mul, wb_fdiv, wb_mod, wb_pow, wc_eq, wc_ne, wc_lt, wc_le, wc_gt, wc_ge, wc_eqb, wc_neb, wc_eqs, wc_nes, wx_int, wx_lent, wx_lenl, wx_lenr, wz_int, wz_str, wz_bl, wz_non, wz_tup, wz_rol, wz_ref, wz_lst, List.getElem?_cons_zero, List.getElem?_cons_succ, List.set_cons_zero, List.set_cons_succ, List.length_cons, List.length_nil, wi_tup, wi_lst, wi_rol, wx_tuplel, wx_tuplet, wx_listt, wto_some, hdq, hqc, ite_f, ite_tt, decide_eq_true_eq, Bool.not_eq_true', wisT, ex_bl, ex_int, ite_tf, ite_ff, wix0, wix1, wix2, Nat.reduceAdd, Nat.reduceLT, sl0, sl1, sl2, sl3, sl4, sl5, sl6, sl10, if_true, true_and, and_true, List.map_cons, List.map_nil, wip, wt_turn, it_non_int, it_non_bool, it_non_str, it_non_tuple, it_non_list, it_non_dict, it_bl_int, it_bl_bool, it_bl_str, it_bl_tuple, it_bl_list, it_bl_dict, it_int_int, it_int_bool, it_int_str, it_int_tuple, it_int_list, it_int_dict, it_str_int, it_str_bool, it_str_str, it_str_tuple, it_str_list, it_str_dict, it_tup_int, it_tup_bool, it_tup_str, it_tup_tuple, it_tup_list, it_tup_dict, it_lst_int, it_lst_bool, it_lst_str, it_lst_tuple, it_lst_list, it_lst_dict, it_rol_int, it_rol_bool, it_rol_str, it_rol_tuple, it_rol_list, it_rol_dict, List.length_map]
    simp; omega
  -- the rows
  refine ws_cut (fun ρ s' => ∃ x, ρ = [some (dRows rows), some (.int (room : Nat)), some (.tup xs), x, none, none, none, none, none, none] ∧ s' = s ∧ ∀ d ∈ xs, rowB (room + 1) d = true) (ws_fo ?_) ?_
  · simp only [we_con, we_varm, we_glom, we_bin, we_neg, we_cmp, we_chain, we_and, we_or, we_not, we_ife, we_tup, we_lst, we_ix, we_sl, we_rev, we_call, we_blt, we_isi, we_app, we_lc, wa_nil, wa_cons, wr_nil, wr_cons, wo_none, wo_some, wto_none, wto_some, wt_and, wt_or, wt_not, wt_cmp, wt_chain, wt_tru, wi_seq, wi_range, wi_enum, wg_nm, wg_tup, wg_nil, wg_cons, wg_sub, wp_ok, wp_bad, wp_nox, wb_add, wb_sub, wb_mul, wb_fdiv, wb_mod, wb_pow, wc_eq, wc_ne, wc_lt, wc_le, wc_gt, wc_ge, wc_eqb, wc_neb, wc_eqs, wc_nes, wx_int, wx_lent, wx_lenl, wx_lenr, wz_int, wz_str, wz_bl, wz_non, wz_tup, wz_rol, wz_ref, wz_lst, List.getElem?_cons_zero, List.getElem?_cons_succ, List.set_cons_zero, List.set_cons_succ, List.length_cons, List.length_nil, wi_tup, wi_lst, wi_rol, wx_tuplel, wx_tuplet, wx_listt, wto_some, hdq, hqc, ite_f, ite_tt, decide_eq_true_eq, Bool.not_eq_true', wisT, ex_bl, ex_int, ite_tf, ite_ff, wix0, wix1, wix2, Nat.reduceAdd, Nat.reduceLT, sl0, sl1, sl2, sl3, sl4, sl5, sl6, sl10, if_true, true_and, and_true, List.map_cons, List.map_nil, wip, wt_turn, it_non_int, it_non_bool, it_non_str, it_non_tuple, it_non_list, it_non_dict, it_bl_int, it_bl_bool, it_bl_str, it_bl_tuple, it_bl_list, it_bl_dict, it_int_int, it_int_bool, it_int_str, it_int_tuple, it_int_list, it_int_dict, it_str_int, it_str_bool, it_str_str, it_str_tuple, it_str_list, it_str_dict, it_tup_int, it_tup_bool, it_tup_str, it_tup_tuple, it_tup_list, it_tup_dict, it_lst_int, it_lst_bool, it_lst_str, it_lst_tuple, it_lst_list, it_lst_dict, it_rol_int, it_rol_bool, it_rol_str, it_rol_tuple, it_rol_list, it_rol_dict]
    refine ⟨fun r ρ s' => ∃ a x, xs = a ++ r ∧ (∀ d ∈ a, rowB (room + 1) d = true) ∧ ρ = [some (dRows rows), some (.int (room : Nat)), some (.tup xs), x, none, none, none, none, none, none] ∧ s' = s, ?_, ?_, ?_⟩
    · exact ⟨[], none, rfl, by simp, rfl, rfl⟩
    · rintro ρ s' ⟨a, x, e, ha, rfl, rfl⟩
      rw [List.append_nil] at e
      subst e
      exact ⟨x, rfl, rfl, ha⟩
    · rintro d r ρ s2 ⟨a, x, e, ha, rfl, rfl⟩
      have hd : d ∈ xs := by rw [e]; simp
      have pd := px.2 d hd
      simp only [we_con, we_varm, we_glom, we_bin, we_neg, we_cmp, we_chain, we_and, we_or, we_not, we_ife, we_tup, we_lst, we_ix, we_sl, we_rev, we_call, we_blt, we_isi, we_app, we_lc, wa_nil, wa_cons, wr_nil, wr_cons, wo_none, wo_some, wto_none, wto_some, wt_and, wt_or, wt_not, wt_cmp, wt_chain, wt_tru, wi_seq, wi_range, wi_enum, wg_nm, wg_tup, wg_nil, wg_cons, wg_sub, wp_ok, wp_bad, wp_nox, wb_add, wb_sub, wb_mul, wb_fdiv, wb_mod, wb_pow, wc_eq, wc_ne, wc_lt, wc_le, wc_gt, wc_ge, wc_eqb, wc_neb, wc_eqs, wc_nes, wx_int, wx_lent, wx_lenl, wx_lenr, wz_int, wz_str, wz_bl, wz_non, wz_tup, wz_rol, wz_ref, wz_lst, List.getElem?_cons_zero, List.getElem?_cons_succ, List.set_cons_zero, List.set_cons_succ, List.length_cons, List.length_nil, wi_tup, wi_lst, wi_rol, wx_tuplel, wx_tuplet, wx_listt, wto_some, hdq, hqc, ite_f, ite_tt, decide_eq_true_eq, Bool.not_eq_true', wisT, ex_bl, ex_int, ite_tf, ite_ff, wix0, wix1, wix2, Nat.reduceAdd, Nat.reduceLT, sl0, sl1, sl2, sl3, sl4, sl5, sl6, sl10, if_true, true_and, and_true, List.map_cons, List.map_nil, wip, wt_turn, it_non_int, it_non_bool, it_non_str, it_non_tuple, it_non_list, it_non_dict, it_bl_int, it_bl_bool, it_bl_str, it_bl_tuple, it_bl_list, it_bl_dict, it_int_int, it_int_bool, it_int_str, it_int_tuple, it_int_list, it_int_dict, it_str_int, it_str_bool, it_str_str, it_str_tuple, it_str_list, it_str_dict, it_tup_int, it_tup_bool, it_tup_str, it_tup_tuple, it_tup_list, it_tup_dict, it_lst_int, it_lst_bool, it_lst_str, it_lst_tuple, it_lst_list, it_lst_dict, it_rol_int, it_rol_bool, it_rol_str, it_rol_tuple, it_rol_list, it_rol_dict]
      rw [wz_shr (pl_shr pd)]
      have test : Wp (runT (cfg.q (k+1)) (.or (.not (.tru (.isi (.var 3) .tuple))) (.or (.cmp .ne (.blt .len [.var 3]) (.bin .add (.var 1) (.con (.int 1)))) (.not (.tru (.blt .all [.lc [(("one" : Str), 9)] (.call ("is_whole" : Str) [.var 9]) (.nm 9) (.seq (.var 3)) none])))))
          [some (dRows rows), some (.int (room : Nat)), some (.tup xs), some d, none, none, none, none, none, none] s2) fun k s' => k = (!rowB (room + 1) d) ∧ s' = s2 := by
        cases d with
        | tup ys =>
          simp only [we_con, we_varm, we_glom, we_bin, we_neg, we_cmp, we_chain, we_and, we_or, we_not, we_ife, we_tup, we_lst, we_ix, we_sl, we_rev, we_call, we_blt, we_isi, we_app, we_lc, wa_nil, wa_cons, wr_nil, wr_cons, wo_none, wo_some, wto_none, wto_some, wt_and, wt_or, wt_not, wt_cmp, wt_chain, wt_tru, wi_seq, wi_range, wi_enum, wg_nm, wg_tup, wg_nil, wg_cons, wg_sub, wp_ok, wp_bad, wp_nox, wb_add, wb_sub, wb_mul, wb_fdiv, wb_mod, wb_pow, wc_eq, wc_ne, wc_lt, wc_le, wc_gt, wc_ge, wc_eqb, wc_neb, wc_eqs, wc_nes, wx_int, wx_lent, wx_lenl, wx_lenr, wz_int, wz_str, wz_bl, wz_non, wz_tup, wz_rol, wz_ref, wz_lst, List.getElem?_cons_zero, List.getElem?_cons_succ, List.set_cons_zero, List.set_cons_succ, List.length_cons, List.length_nil, wi_tup, wi_lst, wi_rol, wx_tuplel, wx_tuplet, wx_listt, wto_some, hdq, hqc, ite_f, ite_tt, decide_eq_true_eq, Bool.not_eq_true', wisT, ex_bl, ex_int, ite_tf, ite_ff, wix0, wix1, wix2, Nat.reduceAdd, Nat.reduceLT, sl0, sl1, sl2, sl3, sl4, sl5, sl6, sl10, if_true, true_and, and_true, List.map_cons, List.map_nil, wip, wt_turn, it_non_int, it_non_bool, it_non_str, it_non_tuple, it_non_list, it_non_dict, it_bl_int, it_bl_bool, it_bl_str, it_bl_tuple, it_bl_list, it_bl_dict, it_int_int, it_int_bool, it_int_str, it_int_tuple, it_int_list, it_int_dict, it_str_int, it_str_bool, it_str_str, it_str_tuple, it_str_list, it_str_dict, it_tup_int, it_tup_bool, it_tup_str, it_tup_tuple, it_tup_list, it_tup_dict, it_lst_int, it_lst_bool, it_lst_str, it_lst_tuple, it_lst_list, it_lst_dict, it_rol_int, it_rol_bool, it_rol_str, it_rol_tuple, it_rol_list, it_rol_dict]
          have py := pl_tup pd
          by_cases hy : ys.length = room + 1
          · rw [if_neg (by simp; omega)]
            refine wl_map (fun x => .bl x.isInt) rfl (leL (by omega)) (fun x hx => ?_) ?_
            · simp only [we_con, we_varm, we_glom, we_bin, we_neg, we_cmp, we_chain, we_and, we_or, we_not, we_ife, we_tup, we_lst, we_ix, we_sl, we_rev, we_call, we_blt, we_isi, we_app, we_lc, wa_nil, wa_cons, wr_nil, wr_cons, wo_none, wo_some, wto_none, wto_some, wt_and, wt_or, wt_not, wt_cmp, wt_chain, wt_tru, wi_seq, wi_range, wi_enum, wg_nm, wg_tup, wg_nil, wg_cons, wg_sub, wp_ok, wp_bad, wp_nox, wb_add, wb_sub, wb_mul, wb_fdiv, wb_mod, wb_pow, wc_eq, wc_ne, wc_lt, wc_le, wc_gt, wc_ge, wc_eqb, wc_neb, wc_eqs, wc_nes, wx_int, wx_lent, wx_lenl, wx_lenr, wz_int, wz_str, wz_bl, wz_non, wz_tup, wz_rol, wz_ref, wz_lst, List.getElem?_cons_zero, List.getElem?_cons_succ, List.set_cons_zero, List.set_cons_succ, List.length_cons, List.length_nil, wi_tup, wi_lst, wi_rol, wx_tuplel, wx_tuplet, wx_listt, wto_some, hdq, hqc, ite_f, ite_tt, decide_eq_true_eq, Bool.not_eq_true', wisT, ex_bl, ex_int, ite_tf, ite_ff, wix0, wix1, wix2, Nat.reduceAdd, Nat.reduceLT, sl0, sl1, sl2, sl3, sl4, sl5, sl6, sl10, if_true, true_and, and_true, List.map_cons, List.map_nil, wip, wt_turn, it_non_int, it_non_bool, it_non_str, it_non_tuple, it_non_list, it_non_dict, it_bl_int, it_bl_bool, it_bl_str, it_bl_tuple, it_bl_list, it_bl_dict, it_int_int, it_int_bool, it_int_str, it_int_tuple, it_int_list, it_int_dict, it_str_int, it_str_bool, it_str_str, it_str_tuple, it_str_list, it_str_dict, it_tup_int, it_tup_bool, it_tup_str, it_tup_tuple, it_tup_list, it_tup_dict, it_lst_int, it_lst_bool, it_lst_str, it_lst_tuple, it_lst_list, it_lst_dict, it_rol_int, it_rol_bool, it_rol_str, it_rol_tuple, it_rol_list, it_rol_dict]
              rw [wz_shr (pl_shr (py.2 x hx)), wz_shr (pl_shr (py.2 x hx)), w_whole2 (py.2 x hx)]
              simp only [we_con, we_varm, we_glom, we_bin, we_neg, we_cmp, we_chain, we_and, we_or, we_not, we_ife, we_tup, we_lst, we_ix, we_sl, we_rev, we_call, we_blt, we_isi, we_app, we_lc, wa_nil, wa_cons, wr_nil, wr_cons, wo_none, wo_some, wto_none, wto_some, wt_and, wt_or, wt_not, wt_cmp, wt_chain, wt_tru, wi_seq, wi_range, wi_enum, wg_nm, wg_tup, wg_nil, wg_cons, wg_sub, wp_ok, wp_bad, wp_nox, wb_add, wb_sub, wb_mul, wb_fdiv, wb_mod, wb_pow, wc_eq, wc_ne, wc_lt, wc_le, wc_gt, wc_ge, wc_eqb, wc_neb, wc_eqs, wc_nes, wx_int, wx_lent, wx_lenl, wx_lenr, wz_int, wz_str, wz_bl, wz_non, wz_tup, wz_rol, wz_ref, wz_lst, List.getElem?_cons_zero, List.getElem?_cons_succ, List.set_cons_zero, List.set_cons_succ, List.length_cons, List.length_nil, wi_tup, wi_lst, wi_rol, wx_tuplel, wx_tuplet, wx_listt, wto_some, hdq, hqc, ite_f, ite_tt, decide_eq_true_eq, Bool.not_eq_true', wisT, ex_bl, ex_int, ite_tf, ite_ff, wix0, wix1, wix2, Nat.reduceAdd, Nat.reduceLT, sl0, sl1, sl2, sl3, sl4, sl5, sl6, sl10, if_true, true_and, and_true, List.map_cons, List.map_nil, wip, wt_turn, it_non_int, it_non_bool, it_non_str, it_non_tuple, it_non_list, it_non_dict, it_bl_int, it_bl_bool, it_bl_str, it_bl_tuple, it_bl_list, it_bl_dict, it_int_int, it_int_bool, it_int_str, it_int_tuple, it_int_list, it_int_dict, it_str_int, it_str_bool, it_str_str, it_str_tuple, it_str_list, it_str_dict, it_tup_int, it_tup_bool, it_tup_str, it_tup_tuple, it_tup_list, it_tup_dict, it_lst_int, it_lst_bool, it_lst_str, it_lst_tuple, it_lst_list, it_lst_dict, it_rol_int, it_rol_bool, it_rol_str, it_rol_tuple, it_rol_list, it_rol_dict]
            · rw [show ys.map (fun x => D.bl x.isInt) = (ys.map D.isInt).map .bl by rw [List.map_map]; rfl, wx_all]
              simp only [we_con, we_varm, we_glom, we_bin, we_neg, we_cmp, we_chain, we_and, we_or, we_not, we_ife, we_tup, we_lst, we_ix, we_sl, we_rev, we_call, we_blt, we_isi, we_app, we_lc, wa_nil, wa_cons, wr_nil, wr_cons, wo_none, wo_some, wto_none, wto_some, wt_and, wt_or, wt_not, wt_cmp, wt_chain, wt_tru, wi_seq, wi_range, wi_enum, wg_nm, wg_tup, wg_nil, wg_cons, wg_sub, wp_ok, wp_bad, wp_nox, wb_add, wb_sub, wb_mul, wb_fdiv, wb_mod, wb_pow, wc_eq, wc_ne, wc_lt, wc_le, wc_gt, wc_ge, wc_eqb, wc_neb, wc_eqs, wc_nes, wx_int, wx_lent, wx_lenl, wx_lenr, wz_int, wz_str, wz_bl, wz_non, wz_tup, wz_rol, wz_ref, wz_lst, List.getElem?_cons_zero, List.getElem?_cons_succ, List.set_cons_zero, List.set_cons_succ, List.length_cons, List.length_nil, wi_tup, wi_lst, wi_rol, wx_tuplel, wx_tuplet, wx_listt, wto_some, hdq, hqc, ite_f, ite_tt, decide_eq_true_eq, Bool.not_eq_true', wisT, ex_bl, ex_int, ite_tf, ite_ff, wix0, wix1, wix2, Nat.reduceAdd, Nat.reduceLT, sl0, sl1, sl2, sl3, sl4, sl5, sl6, sl10, if_true, true_and, and_true, List.map_cons, List.map_nil, wip, wt_turn, it_non_int, it_non_bool, it_non_str, it_non_tuple, it_non_list, it_non_dict, it_bl_int, it_bl_bool, it_bl_str, it_bl_tuple, it_bl_list, it_bl_dict, it_int_int, it_int_bool, it_int_str, it_int_tuple, it_int_list, it_int_dict, it_str_int, it_str_bool, it_str_str, it_str_tuple, it_str_list, it_str_dict, it_tup_int, it_tup_bool, it_tup_str, it_tup_tuple, it_tup_list, it_tup_dict, it_lst_int, it_lst_bool, it_lst_str, it_lst_tuple, it_lst_list, it_lst_dict, it_rol_int, it_rol_bool, it_rol_str, it_rol_tuple, it_rol_list, it_rol_dict]
              unfold rowB
              dsimp only
              rw [decide_eq_true hy]
              simp [List.all_map]
          · rw [if_pos (by simp; omega)]
            unfold rowB
            dsimp only
            rw [decide_eq_false hy]
            simp
        | non => simp only [we_con, we_varm, we_glom, we_bin, we_neg, we_cmp, we_chain, we_and, we_or, we_not, we_ife, we_tup, we_lst, we_ix, we_sl, we_rev, we_call, we_blt, we_isi, we_app, we_lc, wa_nil, wa_cons, wr_nil, wr_cons, wo_none, wo_some, wto_none, wto_some, wt_and, wt_or, wt_not, wt_cmp, wt_chain, wt_tru, wi_seq, wi_range, wi_enum, wg_nm, wg_tup, wg_nil, wg_cons, wg_sub, wp_ok, wp_bad, wp_nox, wb_add, wb_sub, wb_mul, wb_fdiv, wb_mod, wb_pow, wc_eq, wc_ne, wc_lt, wc_le, wc_gt, wc_ge, wc_eqb, wc_neb, wc_eqs, wc_nes, wx_int, wx_lent, wx_lenl, wx_lenr, wz_int, wz_str, wz_bl, wz_non, wz_tup, wz_rol, wz_ref, wz_lst, List.getElem?_cons_zero, List.getElem?_cons_succ, List.set_cons_zero, List.set_cons_succ, List.length_cons, List.length_nil, wi_tup, wi_lst, wi_rol, wx_tuplel, wx_tuplet, wx_listt, wto_some, hdq, hqc, ite_f, ite_tt, decide_eq_true_eq, Bool.not_eq_true', wisT, ex_bl, ex_int, ite_tf, ite_ff, wix0, wix1, wix2, Nat.reduceAdd, Nat.reduceLT, sl0, sl1, sl2, sl3, sl4, sl5, sl6, sl10, if_true, true_and, and_true, List.map_cons, List.map_nil, wip, wt_turn, it_non_int, it_non_bool, it_non_str, it_non_tuple, it_non_list, it_non_dict, it_bl_int, it_bl_bool, it_bl_str, it_bl_tuple, it_bl_list, it_bl_dict, it_int_int, it_int_bool, it_int_str, it_int_tuple, it_int_list, it_int_dict, it_str_int, it_str_bool, it_str_str, it_str_tuple, it_str_list, it_str_dict, it_tup_int, it_tup_bool, it_tup_str, it_tup_tuple, it_tup_list, it_tup_dict, it_lst_int, it_lst_bool, it_lst_str, it_lst_tuple, it_lst_list, it_lst_dict, it_rol_int, it_rol_bool, it_rol_str, it_rol_tuple, it_rol_list, it_rol_dict]; simp [rowB]
        | bl b => simp only [we_con, we_varm, we_glom, we_bin, we_neg, we_cmp, we_chain, we_and, we_or, we_not, we_ife, we_tup, we_lst, we_ix, we_sl, we_rev, we_call, we_blt, we_isi, we_app, we_lc, wa_nil, wa_cons, wr_nil, wr_cons, wo_none, wo_some, wto_none, wto_some, wt_and, wt_or, wt_not, wt_cmp, wt_chain, wt_tru, wi_seq, wi_range, wi_enum, wg_nm, wg_tup, wg_nil, wg_cons, wg_sub, wp_ok, wp_bad, wp_nox, wb_add, wb_sub, wb_mul, wb_fdiv, wb_mod, wb_pow, wc_eq, wc_ne, wc_lt, wc_le, wc_gt, wc_ge, wc_eqb, wc_neb, wc_eqs, wc_nes, wx_int, wx_lent, wx_lenl, wx_lenr, wz_int, wz_str, wz_bl, wz_non, wz_tup, wz_rol, wz_ref, wz_lst, List.getElem?_cons_zero, List.getElem?_cons_succ, List.set_cons_zero, List.set_cons_succ, List.length_cons, List.length_nil, wi_tup, wi_lst, wi_rol, wx_tuplel, wx_tuplet, wx_listt, wto_some, hdq, hqc, ite_f, ite_tt, decide_eq_true_eq, Bool.not_eq_true', wisT, ex_bl, ex_int, ite_tf, ite_ff, wix0, wix1, wix2, Nat.reduceAdd, Nat.reduceLT, sl0, sl1, sl2, sl3, sl4, sl5, sl6, sl10, if_true, true_and, and_true, List.map_cons, List.map_nil, wip, wt_turn, it_non_int, it_non_bool, it_non_str, it_non_tuple, it_non_list, it_non_dict, it_bl_int, it_bl_bool, it_bl_str, it_bl_tuple, it_bl_list, it_bl_dict, it_int_int, it_int_bool, it_int_str, it_int_tuple, it_int_list, it_int_dict, it_str_int, it_str_bool, it_str_str, it_str_tuple, it_str_list, it_str_dict, it_tup_int, it_tup_bool, it_tup_str, it_tup_tuple, it_tup_list, it_tup_dict, it_lst_int, it_lst_bool, it_lst_str, it_lst_tuple, it_lst_list, it_lst_dict, it_rol_int, it_rol_bool, it_rol_str, it_rol_tuple, it_rol_list, it_rol_dict]; simp [rowB]
        | int b => simp only [we_con, we_varm, we_glom, we_bin, we_neg, we_cmp, we_chain, we_and, we_or, we_not, we_ife, we_tup, we_lst, we_ix, we_sl, we_rev, we_call, we_blt, we_isi, we_app, we_lc, wa_nil, wa_cons, wr_nil, wr_cons, wo_none, wo_some, wto_none, wto_some, wt_and, wt_or, wt_not, wt_cmp, wt_chain, wt_tru, wi_seq, wi_range, wi_enum, wg_nm, wg_tup, wg_nil, wg_cons, wg_sub, wp_ok, wp_bad, wp_nox, wb_add, wb_sub, wb_mul, wb_fdiv, wb_mod, wb_pow, wc_eq, wc_ne, wc_lt, wc_le, wc_gt, wc_ge, wc_eqb, wc_neb, wc_eqs, wc_nes, wx_int, wx_lent, wx_lenl, wx_lenr, wz_int, wz_str, wz_bl, wz_non, wz_tup, wz_rol, wz_ref, wz_lst, List.getElem?_cons_zero, List.getElem?_cons_succ, List.set_cons_zero, List.set_cons_succ, List.length_cons, List.length_nil, wi_tup, wi_lst, wi_rol, wx_tuplel, wx_tuplet, wx_listt, wto_some, hdq, hqc, ite_f, ite_tt, decide_eq_true_eq, Bool.not_eq_true', wisT, ex_bl, ex_int, ite_tf, ite_ff, wix0, wix1, wix2, Nat.reduceAdd, Nat.reduceLT, sl0, sl1, sl2, sl3, sl4, sl5, sl6, sl10, if_true, true_and, and_true, List.map_cons, List.map_nil, wip, wt_turn, it_non_int, it_non_bool, it_non_str, it_non_tuple, it_non_list, it_non_dict, it_bl_int, it_bl_bool, it_bl_str, it_bl_tuple, it_bl_list, it_bl_dict, it_int_int, it_int_bool, it_int_str, it_int_tuple, it_int_list, it_int_dict, it_str_int, it_str_bool, it_str_str, it_str_tuple, it_str_list, it_str_dict, it_tup_int, it_tup_bool, it_tup_str, it_tup_tuple, it_tup_list, it_tup_dict, it_lst_int, it_lst_bool, it_lst_str, it_lst_tuple, it_lst_list, it_lst_dict, it_rol_int, it_rol_bool, it_rol_str, it_rol_tuple, it_rol_list, it_rol_dict]; simp [rowB]
        | str b => simp only [we_con, we_varm, we_glom, we_bin, we_neg, we_cmp, we_chain, we_and, we_or, we_not, we_ife, we_tup, we_lst, we_ix, we_sl, we_rev, we_call, we_blt, we_isi, we_app, we_lc, wa_nil, wa_cons, wr_nil, wr_cons, wo_none, wo_some, wto_none, wto_some, wt_and, wt_or, wt_not, wt_cmp, wt_chain, wt_tru, wi_seq, wi_range, wi_enum, wg_nm, wg_tup, wg_nil, wg_cons, wg_sub, wp_ok, wp_bad, wp_nox, wb_add, wb_sub, wb_mul, wb_fdiv, wb_mod, wb_pow, wc_eq, wc_ne, wc_lt, wc_le, wc_gt, wc_ge, wc_eqb, wc_neb, wc_eqs, wc_nes, wx_int, wx_lent, wx_lenl, wx_lenr, wz_int, wz_str, wz_bl, wz_non, wz_tup, wz_rol, wz_ref, wz_lst, List.getElem?_cons_zero, List.getElem?_cons_succ, List.set_cons_zero, List.set_cons_succ, List.length_cons, List.length_nil, wi_tup, wi_lst, wi_rol, wx_tuplel, wx_tuplet, wx_listt, wto_some, hdq, hqc, ite_f, ite_tt, decide_eq_true_eq, Bool.not_eq_true', wisT, ex_bl, ex_int, ite_tf, ite_ff, wix0, wix1, wix2, Nat.reduceAdd, Nat.reduceLT, sl0, sl1, sl2, sl3, sl4, sl5, sl6, sl10, if_true, true_and, and_true, List.map_cons, List.map_nil, wip, wt_turn, it_non_int, it_non_bool, it_non_str, it_non_tuple, it_non_list, it_non_dict, it_bl_int, it_bl_bool, it_bl_str, it_bl_tuple, it_bl_list, it_bl_dict, it_int_int, it_int_bool, it_int_str, it_int_tuple, it_int_list, it_int_dict, it_str_int, it_str_bool, it_str_str, it_str_tuple, it_str_list, it_str_dict, it_tup_int, it_tup_bool, it_tup_str, it_tup_tuple, it_tup_list, it_tup_dict, it_lst_int, it_lst_bool, it_lst_str, it_lst_tuple, it_lst_list, it_lst_dict, it_rol_int, it_rol_bool, it_rol_str, it_rol_tuple, it_rol_list, it_rol_dict]; simp [rowB]
        | _ => exact nomatch pd
      cases hr : rowB (room + 1) d with
      | true =>
        refine ws_skip (test.imp fun k' s' z => ⟨by rw [z.1, hr]; rfl, z.2⟩) ?_
        rw [ws_nil]
        refine ⟨a ++ [d], _, by rw [e]; simp, fun d' hd' => ?_, rfl, rfl⟩
        rcases List.mem_append.mp hd' with h | h
        · exact ha d' h
        · simp at h; rw [h]; exact hr
      | false =>
        refine ws_take (test.imp fun k' s' z => ⟨by rw [z.1, hr]; rfl, z.2⟩) (leave ?_)
        refine ⟨congrArg D.bl ?_, [], (List.append_nil _).symm⟩
        cases es : D.same (.tup xs) (dTab rows room) with
        | false => rfl
        | true =>
          exfalso
          have e2 := same_eq es
          unfold dTab at e2
          have e2 : xs = _ := D.tup.inj e2
          rw [e2] at hd
          obtain ⟨i, hi, rfl⟩ := List.mem_map.mp hd
          have : rowB (room + 1) (dT rows room i) = true := dR_row (f := fun j => (Tk rows i j : Nat))
          rw [this] at hr; cases hr
  rintro ρ s' ⟨x, rfl, rfl, hrows⟩
  -- numbers all
  obtain ⟨M, hM⟩ : ∃ M : Nat → Nat → Int, xs = (List.range (rows.length + 1)).map fun i => dR (room + 1) (M i) := by
    have h1 : ∀ i : Nat, ∃ f : Nat → Int, ∀ h : i < xs.length, xs[i] = dR (room + 1) f := fun i => by
      by_cases h : i < xs.length
      · obtain ⟨f, e⟩ := rowB_is (hrows _ (List.getElem_mem h))
        exact ⟨f, fun _ => e⟩
      · exact ⟨fun _ => 0, fun z => absurd z h⟩
    refine ⟨fun i => (h1 i).choose, List.ext_getElem (by simp [hl]) fun i a b => ?_⟩
    rw [List.getElem_map, List.getElem_range]
    exact (h1 i).choose_spec a
  subst hM
  have e0 : D.tup ((List.range (rows.length + 1)).map fun i => dR (room + 1) (M i)) = dM (rows.length + 1) (room + 1) M := rfl
  rw [e0]
  clear hl px hrows
  have wrong : ∀ {s2 : S}, (∃ t, s2 = s' ++ t) → ¬ (∀ i, i < rows.length + 1 → ∀ j, j < room + 1 → M i j = (Tk rows i j : Nat)) → D.bl false = .bl (D.same (dM (rows.length + 1) (room + 1) M) (dTab rows room)) ∧ ∃ t, s2 = s' ++ t := fun ht hn => by
    refine ⟨congrArg D.bl ?_, ht⟩
    cases e : D.same (dM (rows.length + 1) (room + 1) M) (dTab rows room) with
    | false => rfl
    | true =>
      rw [dTab_M] at e
      exact absurd (same_dM.mp e) hn
  have at0 : ∀ {i : Nat} {s : S} {P : D → S → Prop}, i < rows.length + 1 → Wp (ixD (dM (rows.length + 1) (room + 1) M) (.int (i : Int)) s) P = P (dR (room + 1) (M i)) s := fun {i s P} hi =>
    wixt (n := i) (by rw [List.getElem?_map, List.getElem?_range hi]; rfl)
  have at1 : ∀ {i j : Nat} {s : S} {P : D → S → Prop}, j < room + 1 → Wp (ixD (dR (room + 1) (M i)) (.int (j : Int)) s) P = P (.int (M i j)) s := fun {i j s P} hj =>
    wixt (n := j) (by rw [List.getElem?_map, List.getElem?_range hj]; rfl)
  have a00 : ∀ {s : S} {P : D → S → Prop}, Wp (ixD (dM (rows.length + 1) (room + 1) M) (.int 0) s) P = P (dR (room + 1) (M 0)) s := fun {s P} => at0 (i := 0) (by omega)
  -- the row ahead
  have test : Wp (runT (cfg.q (k+1)) (.tru (.blt .any [.lc [(("one" : Str), 9)] (.cmp .ne (.var 9) (.con (.int 0))) (.nm 9) (.seq (.ix (.var 2) (.con (.int 0)))) none]))
      [some (dRows rows), some (.int (room : Nat)), some (dM (rows.length + 1) (room + 1) M), x, none, none, none, none, none, none] s') fun k s2 => k = ((List.range (room + 1)).map fun j => !decide (M 0 j = 0)).any id ∧ s2 = s' := by
    simp only [we_con, we_varm, we_glom, we_bin, we_neg, we_cmp, we_chain, we_and, we_or, we_not, we_ife, we_tup, we_lst, we_ix, we_sl, we_rev, we_call, we_blt, we_isi, we_app, we_lc, wa_nil, wa_cons, wr_nil, wr_cons, wo_none, wo_some, wto_none, wto_some, wt_and, wt_or, wt_not, wt_cmp, wt_chain, wt_tru, wi_seq, wi_range, wi_enum, wg_nm, wg_tup, wg_nil, wg_cons, wg_sub, wp_ok, wp_bad, wp_nox, wb_add, wb_sub, wb_mul, wb_fdiv, wb_mod, wb_pow, wc_eq, wc_ne, wc_lt, wc_le, wc_gt, wc_ge, wc_eqb, wc_neb, wc_eqs, wc_nes, wx_int, wx_lent, wx_lenl, wx_lenr, wz_int, wz_str, wz_bl, wz_non, wz_tup, wz_rol, wz_ref, wz_lst, List.getElem?_cons_zero, List.getElem?_cons_succ, List.set_cons_zero, List.set_cons_succ, List.length_cons, List.length_nil, wi_tup, wi_lst, wi_rol, wx_tuplel, wx_tuplet, wx_listt, wto_some, hdq, hqc, ite_f, ite_tt, decide_eq_true_eq, Bool.not_eq_true', wisT, ex_bl, ex_int, ite_tf, ite_ff, wix0, wix1, wix2, Nat.reduceAdd, Nat.reduceLT, sl0, sl1, sl2, sl3, sl4, sl5, sl6, sl10, if_true, true_and, and_true, List.map_cons, List.map_nil, wip, wt_turn, it_non_int, it_non_bool, it_non_str, it_non_tuple, it_non_list, it_non_dict, it_bl_int, it_bl_bool, it_bl_str, it_bl_tuple, it_bl_list, it_bl_dict, it_int_int, it_int_bool, it_int_str, it_int_tuple, it_int_list, it_int_dict, it_str_int, it_str_bool, it_str_str, it_str_tuple, it_str_list, it_str_dict, it_tup_int, it_tup_bool, it_tup_str, it_tup_tuple, it_tup_list, it_tup_dict, it_lst_int, it_lst_bool, it_lst_str, it_lst_tuple, it_lst_list, it_lst_dict, it_rol_int, it_rol_bool, it_rol_str, it_rol_tuple, it_rol_list, it_rol_dict, a00]
    unfold dR
    simp only [we_con, we_varm, we_glom, we_bin, we_neg, we_cmp, we_chain, we_and, we_or, we_not, we_ife, we_tup, we_lst, we_ix, we_sl, we_rev, we_call, we_blt, we_isi, we_app, we_lc, wa_nil, wa_cons, wr_nil, wr_cons, wo_none, wo_some, wto_none, wto_some, wt_and, wt_or, wt_not, wt_cmp, wt_chain, wt_tru, wi_seq, wi_range, wi_enum, wg_nm, wg_tup, wg_nil, wg_cons, wg_sub, wp_ok, wp_bad, wp_nox, wb_add, wb_sub, wb_mul, wb_fdiv, wb_mod, wb_pow, wc_eq, wc_ne, wc_lt, wc_le, wc_gt, wc_ge, wc_eqb, wc_neb, wc_eqs, wc_nes, wx_int, wx_lent, wx_lenl, wx_lenr, wz_int, wz_str, wz_bl, wz_non, wz_tup, wz_rol, wz_ref, wz_lst, List.getElem?_cons_zero, List.getElem?_cons_succ, List.set_cons_zero, List.set_cons_succ, List.length_cons, List.length_nil, wi_tup, wi_lst, wi_rol, wx_tuplel, wx_tuplet, wx_listt, wto_some, hdq, hqc, ite_f, ite_tt, decide_eq_true_eq, Bool.not_eq_true', wisT, ex_bl, ex_int, ite_tf, ite_ff, wix0, wix1, wix2, Nat.reduceAdd, Nat.reduceLT, sl0, sl1, sl2, sl3, sl4, sl5, sl6, sl10, if_true, true_and, and_true, List.map_cons, List.map_nil, wip, wt_turn, it_non_int, it_non_bool, it_non_str, it_non_tuple, it_non_list, it_non_dict, it_bl_int, it_bl_bool, it_bl_str, it_bl_tuple, it_bl_list, it_bl_dict, it_int_int, it_int_bool, it_int_str, it_int_tuple, it_int_list, it_int_dict, it_str_int, it_str_bool, it_str_str, it_str_tuple, it_str_list, it_str_dict, it_tup_int, it_tup_bool, it_tup_str, it_tup_tuple, it_tup_list, it_tup_dict, it_lst_int, it_lst_bool, it_lst_str, it_lst_tuple, it_lst_list, it_lst_dict, it_rol_int, it_rol_bool, it_rol_str, it_rol_tuple, it_rol_list, it_rol_dict]
    refine wl_mm (fun j => .int (M 0 j)) (fun j => .bl (!decide (M 0 j = 0))) rfl (leL (by simp; omega)) (fun j hj => ?_) ?_
    · simp only [we_con, we_varm, we_glom, we_bin, we_neg, we_cmp, we_chain, we_and, we_or, we_not, we_ife, we_tup, we_lst, we_ix, we_sl, we_rev, we_call, we_blt, we_isi, we_app, we_lc, wa_nil, wa_cons, wr_nil, wr_cons, wo_none, wo_some, wto_none, wto_some, wt_and, wt_or, wt_not, wt_cmp, wt_chain, wt_tru, wi_seq, wi_range, wi_enum, wg_nm, wg_tup, wg_nil, wg_cons, wg_sub, wp_ok, wp_bad, wp_nox, wb_add, wb_sub, wb_mul, wb_fdiv, wb_mod, wb_pow, wc_eq, wc_ne, wc_lt, wc_le, wc_gt, wc_ge, wc_eqb, wc_neb, wc_eqs, wc_nes, wx_int, wx_lent, wx_lenl, wx_lenr, wz_int, wz_str, wz_bl, wz_non, wz_tup, wz_rol, wz_ref, wz_lst, List.getElem?_cons_zero, List.getElem?_cons_succ, List.set_cons_zero, List.set_cons_succ, List.length_cons, List.length_nil, wi_tup, wi_lst, wi_rol, wx_tuplel, wx_tuplet, wx_listt, wto_some, hdq, hqc, ite_f, ite_tt, decide_eq_true_eq, Bool.not_eq_true', wisT, ex_bl, ex_int, ite_tf, ite_ff, wix0, wix1, wix2, Nat.reduceAdd, Nat.reduceLT, sl0, sl1, sl2, sl3, sl4, sl5, sl6, sl10, if_true, true_and, and_true, List.map_cons, List.map_nil, wip, wt_turn, it_non_int, it_non_bool, it_non_str, it_non_tuple, it_non_list, it_non_dict, it_bl_int, it_bl_bool, it_bl_str, it_bl_tuple, it_bl_list, it_bl_dict, it_int_int, it_int_bool, it_int_str, it_int_tuple, it_int_list, it_int_dict, it_str_int, it_str_bool, it_str_str, it_str_tuple, it_str_list, it_str_dict, it_tup_int, it_tup_bool, it_tup_str, it_tup_tuple, it_tup_list, it_tup_dict, it_lst_int, it_lst_bool, it_lst_str, it_lst_tuple, it_lst_list, it_lst_dict, it_rol_int, it_rol_bool, it_rol_str, it_rol_tuple, it_rol_list, it_rol_dict]
    · rw [show (List.range (room + 1)).map (fun j => D.bl (!decide (M 0 j = 0))) = ((List.range (room + 1)).map fun j => !decide (M 0 j = 0)).map .bl by rw [List.map_map]; rfl, wx_any]
      simp only [we_con, we_varm, we_glom, we_bin, we_neg, we_cmp, we_chain, we_and, we_or, we_not, we_ife, we_tup, we_lst, we_ix, we_sl, we_rev, we_call, we_blt, we_isi, we_app, we_lc, wa_nil, wa_cons, wr_nil, wr_cons, wo_none, wo_some, wto_none, wto_some, wt_and, wt_or, wt_not, wt_cmp, wt_chain, wt_tru, wi_seq, wi_range, wi_enum, wg_nm, wg_tup, wg_nil, wg_cons, wg_sub, wp_ok, wp_bad, wp_nox, wb_add, wb_sub, wb_mul, wb_fdiv, wb_mod, wb_pow, wc_eq, wc_ne, wc_lt, wc_le, wc_gt, wc_ge, wc_eqb, wc_neb, wc_eqs, wc_nes, wx_int, wx_lent, wx_lenl, wx_lenr, wz_int, wz_str, wz_bl, wz_non, wz_tup, wz_rol, wz_ref, wz_lst, List.getElem?_cons_zero, List.getElem?_cons_succ, List.set_cons_zero, List.set_cons_succ, List.length_cons, List.length_nil, wi_tup, wi_lst, wi_rol, wx_tuplel, wx_tuplet, wx_listt, wto_some, hdq, hqc, ite_f, ite_tt, decide_eq_true_eq, Bool.not_eq_true', wisT, ex_bl, ex_int, ite_tf, ite_ff, wix0, wix1, wix2, Nat.reduceAdd, Nat.reduceLT, sl0, sl1, sl2, sl3, sl4, sl5, sl6, sl10, if_true, true_and, and_true, List.map_cons, List.map_nil, wip, wt_turn, it_non_int, it_non_bool, it_non_str, it_non_tuple, it_non_list, it_non_dict, it_bl_int, it_bl_bool, it_bl_str, it_bl_tuple, it_bl_list, it_bl_dict, it_int_int, it_int_bool, it_int_str, it_int_tuple, it_int_list, it_int_dict, it_str_int, it_str_bool, it_str_str, it_str_tuple, it_str_list, it_str_dict, it_tup_int, it_tup_bool, it_tup_str, it_tup_tuple, it_tup_list, it_tup_dict, it_lst_int, it_lst_bool, it_lst_str, it_lst_tuple, it_lst_list, it_lst_dict, it_rol_int, it_rol_bool, it_rol_str, it_rol_tuple, it_rol_list, it_rol_dict]
  by_cases h0 : ∀ j, j < room + 1 → M 0 j = 0
  rotate_left
  · refine ws_take (test.imp fun k' s2 z => ⟨?_, z.2⟩) (leave (wrong ⟨[], (List.append_nil _).symm⟩ fun h => h0 fun j hj => ?_))
    · rw [z.1, List.any_eq_true]
      obtain ⟨j, hj⟩ := Classical.not_forall.mp h0
      obtain ⟨hj, hj2⟩ := Classical.not_imp.mp hj
      exact ⟨true, List.mem_map.mpr ⟨j, List.mem_range.mpr hj, by simp [hj2]⟩, rfl⟩
    · rw [h 0 (by omega) j hj]; rfl
  refine ws_skip (test.imp fun k' s2 z => ⟨?_, z.2⟩) ?_
  · rw [z.1, List.any_eq_false]
    intro b hb
    obtain ⟨j, hj, rfl⟩ := List.mem_map.mp hb
    simp [h0 j (List.mem_range.mp hj)]
  refine ws_cut (fun ρ s2 => (∃ t, s2 = s' ++ t) ∧ ∀ i, i < rows.length → ∀ j, j < room + 1 → Rec rows M i j) (ws_fo ?_) ?_
  · simp only [dRows, we_con, we_varm, we_glom, we_bin, we_neg, we_cmp, we_chain, we_and, we_or, we_not, we_ife, we_tup, we_lst, we_ix, we_sl, we_rev, we_call, we_blt, we_isi, we_app, we_lc, wa_nil, wa_cons, wr_nil, wr_cons, wo_none, wo_some, wto_none, wto_some, wt_and, wt_or, wt_not, wt_cmp, wt_chain, wt_tru, wi_seq, wi_range, wi_enum, wg_nm, wg_tup, wg_nil, wg_cons, wg_sub, wp_ok, wp_bad, wp_nox, wb_add, wb_sub, wb_mul, wb_fdiv, wb_mod, wb_pow, wc_eq, wc_ne, wc_lt, wc_le, wc_gt, wc_ge, wc_eqb, wc_neb, wc_eqs, wc_nes, wx_int, wx_lent, wx_lenl, wx_lenr, wz_int, wz_str, wz_bl, wz_non, wz_tup, wz_rol, wz_ref, wz_lst, List.getElem?_cons_zero, List.getElem?_cons_succ, List.set_cons_zero, List.set_cons_succ, List.length_cons, List.length_nil, wi_tup, wi_lst, wi_rol, wx_tuplel, wx_tuplet, wx_listt, wto_some, hdq, hqc, ite_f, ite_tt, decide_eq_true_eq, Bool.not_eq_true', wisT, ex_bl, ex_int, ite_tf, ite_ff, wix0, wix1, wix2, Nat.reduceAdd, Nat.reduceLT, sl0, sl1, sl2, sl3, sl4, sl5, sl6, sl10, if_true, true_and, and_true, List.map_cons, List.map_nil, wip, wt_turn, it_non_int, it_non_bool, it_non_str, it_non_tuple, it_non_list, it_non_dict, it_bl_int, it_bl_bool, it_bl_str, it_bl_tuple, it_bl_list, it_bl_dict, it_int_int, it_int_bool, it_int_str, it_int_tuple, it_int_list, it_int_dict, it_str_int, it_str_bool, it_str_str, it_str_tuple, it_str_list, it_str_dict, it_tup_int, it_tup_bool, it_tup_str, it_tup_tuple, it_tup_list, it_tup_dict, it_lst_int, it_lst_bool, it_lst_str, it_lst_tuple, it_lst_list, it_lst_dict, it_rol_int, it_rol_bool, it_rol_str, it_rol_tuple, it_rol_list, it_rol_dict, we_tupI]
    rw [en_rows]
    refine ⟨fun r ρ s2 => ∃ (i : Nat) (x3 x4 x5 x6 x7 x8 : Option D) (t : S), i ≤ rows.length ∧ r = (List.range' i (rows.length - i)).map (fun (i : Nat) => D.tup [.int (i : Int), dRow (rows.getD i (0, 0))]) ∧
      ρ = [some (dRows rows), some (.int (room : Nat)), some (dM (rows.length + 1) (room + 1) M), x3, x4, x5, x6, x7, x8, none] ∧ s2 = s' ++ t ∧ ∀ i', i' < i → ∀ j, j < room + 1 → Rec rows M i' j, ?_, ?_, ?_⟩
    · exact ⟨0, x, none, none, none, none, none, [], Nat.zero_le _, rfl, rfl, (List.append_nil _).symm, fun i h => absurd h (Nat.not_lt_zero _)⟩
    · rintro ρ s2 ⟨i, x3, x4, x5, x6, x7, x8, t, hi, e, rfl, rfl, hr⟩
      have hi0 : i = rows.length := by
        have := congrArg List.length e
        simp at this; omega
      subst hi0
      exact ⟨⟨t, rfl⟩, hr⟩
    · rintro z r ρ s2 ⟨i, x3, x4, x5, x6, x7, x8, t, hi, e, rfl, rfl, hr⟩
      obtain ⟨m, hm⟩ : ∃ m, rows.length - i = m + 1 := by
        cases h : rows.length - i with
        | zero => rw [h] at e; cases e
        | succ m => exact ⟨m, rfl⟩
      rw [hm, List.range'_succ, List.map_cons] at e
      cases e
      simp only [we_con, we_varm, we_glom, we_bin, we_neg, we_cmp, we_chain, we_and, we_or, we_not, we_ife, we_tup, we_lst, we_ix, we_sl, we_rev, we_call, we_blt, we_isi, we_app, we_lc, wa_nil, wa_cons, wr_nil, wr_cons, wo_none, wo_some, wto_none, wto_some, wt_and, wt_or, wt_not, wt_cmp, wt_chain, wt_tru, wi_seq, wi_range, wi_enum, wg_nm, wg_tup, wg_nil, wg_cons, wg_sub, wp_ok, wp_bad, wp_nox, wb_add, wb_sub, wb_mul, wb_fdiv, wb_mod, wb_pow, wc_eq, wc_ne, wc_lt, wc_le, wc_gt, wc_ge, wc_eqb, wc_neb, wc_eqs, wc_nes, wx_int, wx_lent, wx_lenl, wx_lenr, wz_int, wz_str, wz_bl, wz_non, wz_tup, wz_rol, wz_ref, wz_lst, List.getElem?_cons_zero, List.getElem?_cons_succ, List.set_cons_zero, List.set_cons_succ, List.length_cons, List.length_nil, wi_tup, wi_lst, wi_rol, wx_tuplel, wx_tuplet, wx_listt, wto_some, hdq, hqc, ite_f, ite_tt, decide_eq_true_eq, Bool.not_eq_true', wisT, ex_bl, ex_int, ite_tf, ite_ff, wix0, wix1, wix2, Nat.reduceAdd, Nat.reduceLT, sl0, sl1, sl2, sl3, sl4, sl5, sl6, sl10, if_true, true_and, and_true, List.map_cons, List.map_nil, wip, wt_turn, it_non_int, it_non_bool, it_non_str, it_non_tuple, it_non_list, it_non_dict, it_bl_int, it_bl_bool, it_bl_str, it_bl_tuple, it_bl_list, it_bl_dict, it_int_int, it_int_bool, it_int_str, it_int_tuple, it_int_list, it_int_dict, it_str_int, it_str_bool, it_str_str, it_str_tuple, it_str_list, it_str_dict, it_tup_int, it_tup_bool, it_tup_str, it_tup_tuple, it_tup_list, it_tup_dict, it_lst_int, it_lst_bool, it_lst_str, it_lst_tuple, it_lst_list, it_lst_dict, it_rol_int, it_rol_bool, it_rol_str, it_rol_tuple, it_rol_list, it_rol_dict, dRow]
      refine ws_1 (ws_fo ?_)
      simp only [we_con, we_varm, we_glom, we_bin, we_neg, we_cmp, we_chain, we_and, we_or, we_not, we_ife, we_tup, we_lst, we_ix, we_sl, we_rev, we_call, we_blt, we_isi, we_app, we_lc, wa_nil, wa_cons, wr_nil, wr_cons, wo_none, wo_some, wto_none, wto_some, wt_and, wt_or, wt_not, wt_cmp, wt_chain, wt_tru, wi_seq, wi_range, wi_enum, wg_nm, wg_tup, wg_nil, wg_cons, wg_sub, wp_ok, wp_bad, wp_nox, wb_add, wb_sub, wb_mul, wb_fdiv, wb_mod, wb_pow, wc_eq, wc_ne, wc_lt, wc_le, wc_gt, wc_ge, wc_eqb, wc_neb, wc_eqs, wc_nes, wx_int, wx_lent, wx_lenl, wx_lenr, wz_int, wz_str, wz_bl, wz_non, wz_tup, wz_rol, wz_ref, wz_lst, List.getElem?_cons_zero, List.getElem?_cons_succ, List.set_cons_zero, List.set_cons_succ, List.length_cons, List.length_nil, wi_tup, wi_lst, wi_rol, wx_tuplel, wx_tuplet, wx_listt, wto_some, hdq, hqc, ite_f, ite_tt, decide_eq_true_eq, Bool.not_eq_true', wisT, ex_bl, ex_int, ite_tf, ite_ff, wix0, wix1, wix2, Nat.reduceAdd, Nat.reduceLT, sl0, sl1, sl2, sl3, sl4, sl5, sl6, sl10, if_true, true_and, and_true, List.map_cons, List.map_nil, wip, wt_turn, it_non_int, it_non_bool, it_non_str, it_non_tuple, it_non_list, it_non_dict, it_bl_int, it_bl_bool, it_bl_str, it_bl_tuple, it_bl_list, it_bl_dict, it_int_int, it_int_bool, it_int_str, it_int_tuple, it_int_list, it_int_dict, it_str_int, it_str_bool, it_str_str, it_str_tuple, it_str_list, it_str_dict, it_tup_int, it_tup_bool, it_tup_str, it_tup_tuple, it_tup_list, it_tup_dict, it_lst_int, it_lst_bool, it_lst_str, it_lst_tuple, it_lst_list, it_lst_dict, it_rol_int, it_rol_bool, it_rol_str, it_rol_tuple, it_rol_list, it_rol_dict]
      rw [cst1, wri_1 (lt62 (by omega)), range_map]
      have hi2 : i < rows.length := by omega
      have ai : ∀ {s : S} {P : D → S → Prop}, Wp (ixD (dM (rows.length + 1) (room + 1) M) (.int (i : Int)) s) P = P (dR (room + 1) (M i)) s := fun {s P} => at0 (by omega)
      have ai1 : ∀ {s : S} {P : D → S → Prop}, Wp (ixD (dM (rows.length + 1) (room + 1) M) (.int ((i : Int) + 1)) s) P = P (dR (room + 1) (M (i + 1))) s := fun {s P} => at0 (i := i + 1) (by omega)
      obtain ⟨sz, hsz⟩ : ∃ sz, sz = (rows.getD i (0, 0)).1 := ⟨_, rfl⟩
      obtain ⟨w, hw⟩ : ∃ w, w = (rows.getD i (0, 0)).2 := ⟨_, rfl⟩
      refine ⟨fun r ρ s2 => ∃ (j : Nat) (y5 y8 : Option D) (t : S), j ≤ room + 1 ∧ r = (List.range' j (room + 1 - j)).map (fun (k : Nat) => D.int (k : Int)) ∧
        ρ = [some (dRows rows), some (.int (room : Nat)), some (dM (rows.length + 1) (room + 1) M), x3, some (.int (i : Nat)), y5, some (.int (sz : Nat)), some (.int (w : Nat)), y8, none] ∧ s2 = s' ++ t ∧ ∀ j', j' < j → Rec rows M i j', ?_, ?_, ?_⟩
      · exact ⟨0, x5, x8, t, Nat.zero_le _, rfl, by rw [hsz, hw], rfl, fun j h => absurd h (Nat.not_lt_zero _)⟩
      · rintro ρ s2 ⟨j, y5, y8, t, hj, e, rfl, rfl, hrj⟩
        have hj0 : j = room + 1 := by
          have := congrArg List.length e
          simp at this; omega
        subst hj0
        refine ⟨rfl, i + 1, x3, _, y5, _, _, y8, t, by omega, by rw [show rows.length - (i + 1) = m by omega], rfl, rfl, fun i' hi' j hj => ?_⟩
        by_cases h : i' < i
        · exact hr i' h j hj
        · have : i' = i := by omega
          subst this
          exact hrj j hj
      · rintro z r ρ s2 ⟨j, y5, y8, t, hj, e, rfl, rfl, hrj⟩
        obtain ⟨m', hm'⟩ : ∃ m, room + 1 - j = m + 1 := by
          cases h : room + 1 - j with
          | zero => rw [h] at e; cases e
          | succ m => exact ⟨m, rfl⟩
        rw [hm', List.range'_succ, List.map_cons] at e
        cases e
        refine ⟨rfl, ?_⟩
        have hj2 : j < room + 1 := by omega
        simp only [we_con, we_varm, we_glom, we_bin, we_neg, we_cmp, we_chain, we_and, we_or, we_not, we_ife, we_tup, we_lst, we_ix, we_sl, we_rev, we_call, we_blt, we_isi, we_app, we_lc, wa_nil, wa_cons, wr_nil, wr_cons, wo_none, wo_some, wto_none, wto_some, wt_and, wt_or, wt_not, wt_cmp, wt_chain, wt_tru, wi_seq, wi_range, wi_enum, wg_nm, wg_tup, wg_nil, wg_cons, wg_sub, wp_ok, wp_bad, wp_nox, wb_add, wb_sub, wb_mul, wb_fdiv, wb_mod, wb_pow, wc_eq, wc_ne, wc_lt, wc_le, wc_gt, wc_ge, wc_eqb, wc_neb, wc_eqs, wc_nes, wx_int, wx_lent, wx_lenl, wx_lenr, wz_int, wz_str, wz_bl, wz_non, wz_tup, wz_rol, wz_ref, wz_lst, List.getElem?_cons_zero, List.getElem?_cons_succ, List.set_cons_zero, List.set_cons_succ, List.length_cons, List.length_nil, wi_tup, wi_lst, wi_rol, wx_tuplel, wx_tuplet, wx_listt, wto_some, hdq, hqc, ite_f, ite_tt, decide_eq_true_eq, Bool.not_eq_true', wisT, ex_bl, ex_int, ite_tf, ite_ff, wix0, wix1, wix2, Nat.reduceAdd, Nat.reduceLT, sl0, sl1, sl2, sl3, sl4, sl5, sl6, sl10, if_true, true_and, and_true, List.map_cons, List.map_nil, wip, wt_turn, it_non_int, it_non_bool, it_non_str, it_non_tuple, it_non_list, it_non_dict, it_bl_int, it_bl_bool, it_bl_str, it_bl_tuple, it_bl_list, it_bl_dict, it_int_int, it_int_bool, it_int_str, it_int_tuple, it_int_list, it_int_dict, it_str_int, it_str_bool, it_str_str, it_str_tuple, it_str_list, it_str_dict, it_tup_int, it_tup_bool, it_tup_str, it_tup_tuple, it_tup_list, it_tup_dict, it_lst_int, it_lst_bool, it_lst_str, it_lst_tuple, it_lst_list, it_lst_dict, it_rol_int, it_rol_bool, it_rol_str, it_rol_tuple, it_rol_list, it_rol_dict]
        have aj : ∀ {s : S} {P : D → S → Prop}, Wp (ixD (dR (room + 1) (M i)) (.int (j : Int)) s) P = P (.int (M i j)) s := fun {s P} => at1 hj2
        have aj1 : ∀ {s : S} {P : D → S → Prop}, Wp (ixD (dR (room + 1) (M (i + 1))) (.int (j : Int)) s) P = P (.int (M (i + 1) j)) s := fun {s P} => at1 hj2
        refine ws_cut (fun ρ s2 => ∃ (ns : List Int) (rr : Nat) (t : S), ρ = [some (dRows rows), some (.int (room : Nat)), some (dM (rows.length + 1) (room + 1) M), x3, some (.int (i : Nat)), some (.int (j : Nat)), some (.int (sz : Nat)), some (.int (w : Nat)), some (.ref rr), none] ∧
          s2 = s' ++ t ∧ lk s2 rr = some (ns.map .int) ∧ ns ≠ [] ∧ maxL ns = if sz ≤ j then max (M i j) (M i (j - sz) + (w : Nat)) else M i j) (ws_asg ?_) ?_
        · simp only [we_con, we_varm, we_glom, we_bin, we_neg, we_cmp, we_chain, we_and, we_or, we_not, we_ife, we_tup, we_lst, we_ix, we_sl, we_rev, we_call, we_blt, we_isi, we_app, we_lc, wa_nil, wa_cons, wr_nil, wr_cons, wo_none, wo_some, wto_none, wto_some, wt_and, wt_or, wt_not, wt_cmp, wt_chain, wt_tru, wi_seq, wi_range, wi_enum, wg_nm, wg_tup, wg_nil, wg_cons, wg_sub, wp_ok, wp_bad, wp_nox, wb_add, wb_sub, wb_mul, wb_fdiv, wb_mod, wb_pow, wc_eq, wc_ne, wc_lt, wc_le, wc_gt, wc_ge, wc_eqb, wc_neb, wc_eqs, wc_nes, wx_int, wx_lent, wx_lenl, wx_lenr, wz_int, wz_str, wz_bl, wz_non, wz_tup, wz_rol, wz_ref, wz_lst, List.getElem?_cons_zero, List.getElem?_cons_succ, List.set_cons_zero, List.set_cons_succ, List.length_cons, List.length_nil, wi_tup, wi_lst, wi_rol, wx_tuplel, wx_tuplet, wx_listt, wto_some, hdq, hqc, ite_f, ite_tt, decide_eq_true_eq, Bool.not_eq_true', wisT, ex_bl, ex_int, ite_tf, ite_ff, wix0, wix1, wix2, Nat.reduceAdd, Nat.reduceLT, sl0, sl1, sl2, sl3, sl4, sl5, sl6, sl10, if_true, true_and, and_true, List.map_cons, List.map_nil, wip, wt_turn, it_non_int, it_non_bool, it_non_str, it_non_tuple, it_non_list, it_non_dict, it_bl_int, it_bl_bool, it_bl_str, it_bl_tuple, it_bl_list, it_bl_dict, it_int_int, it_int_bool, it_int_str, it_int_tuple, it_int_list, it_int_dict, it_str_int, it_str_bool, it_str_str, it_str_tuple, it_str_list, it_str_dict, it_tup_int, it_tup_bool, it_tup_str, it_tup_tuple, it_tup_list, it_tup_dict, it_lst_int, it_lst_bool, it_lst_str, it_lst_tuple, it_lst_list, it_lst_dict, it_rol_int, it_rol_bool, it_rol_str, it_rol_tuple, it_rol_list, it_rol_dict, ai, aj]
          refine ite_p (fun hle => ?_) fun hle => ?_
          · have hle : sz ≤ j := by omega
            rw [show ((j : Int) - (sz : Nat)) = ((j - sz : Nat) : Int) by omega, at1 (by omega)]
            simp only [we_con, we_varm, we_glom, we_bin, we_neg, we_cmp, we_chain, we_and, we_or, we_not, we_ife, we_tup, we_lst, we_ix, we_sl, we_rev, we_call, we_blt, we_isi, we_app, we_lc, wa_nil, wa_cons, wr_nil, wr_cons, wo_none, wo_some, wto_none, wto_some, wt_and, wt_or, wt_not, wt_cmp, wt_chain, wt_tru, wi_seq, wi_range, wi_enum, wg_nm, wg_tup, wg_nil, wg_cons, wg_sub, wp_ok, wp_bad, wp_nox, wb_add, wb_sub, wb_mul, wb_fdiv, wb_mod, wb_pow, wc_eq, wc_ne, wc_lt, wc_le, wc_gt, wc_ge, wc_eqb, wc_neb, wc_eqs, wc_nes, wx_int, wx_lent, wx_lenl, wx_lenr, wz_int, wz_str, wz_bl, wz_non, wz_tup, wz_rol, wz_ref, wz_lst, List.getElem?_cons_zero, List.getElem?_cons_succ, List.set_cons_zero, List.set_cons_succ, List.length_cons, List.length_nil, wi_tup, wi_lst, wi_rol, wx_tuplel, wx_tuplet, wx_listt, wto_some, hdq, hqc, ite_f, ite_tt, decide_eq_true_eq, Bool.not_eq_true', wisT, ex_bl, ex_int, ite_tf, ite_ff, wix0, wix1, wix2, Nat.reduceAdd, Nat.reduceLT, sl0, sl1, sl2, sl3, sl4, sl5, sl6, sl10, if_true, true_and, and_true, List.map_cons, List.map_nil, wip, wt_turn, it_non_int, it_non_bool, it_non_str, it_non_tuple, it_non_list, it_non_dict, it_bl_int, it_bl_bool, it_bl_str, it_bl_tuple, it_bl_list, it_bl_dict, it_int_int, it_int_bool, it_int_str, it_int_tuple, it_int_list, it_int_dict, it_str_int, it_str_bool, it_str_str, it_str_tuple, it_str_list, it_str_dict, it_tup_int, it_tup_bool, it_tup_str, it_tup_tuple, it_tup_list, it_tup_dict, it_lst_int, it_lst_bool, it_lst_str, it_lst_tuple, it_lst_list, it_lst_dict, it_rol_int, it_rol_bool, it_rol_str, it_rol_tuple, it_rol_list, it_rol_dict]
            rw [wb_ladd mut_lst mut_lst (leL (by simp))]
            simp only [we_con, we_varm, we_glom, we_bin, we_neg, we_cmp, we_chain, we_and, we_or, we_not, we_ife, we_tup, we_lst, we_ix, we_sl, we_rev, we_call, we_blt, we_isi, we_app, we_lc, wa_nil, wa_cons, wr_nil, wr_cons, wo_none, wo_some, wto_none, wto_some, wt_and, wt_or, wt_not, wt_cmp, wt_chain, wt_tru, wi_seq, wi_range, wi_enum, wg_nm, wg_tup, wg_nil, wg_cons, wg_sub, wp_ok, wp_bad, wp_nox, wb_add, wb_sub, wb_mul, wb_fdiv, wb_mod, wb_pow, wc_eq, wc_ne, wc_lt, wc_le, wc_gt, wc_ge, wc_eqb, wc_neb, wc_eqs, wc_nes, wx_int, wx_lent, wx_lenl, wx_lenr, wz_int, wz_str, wz_bl, wz_non, wz_tup, wz_rol, wz_ref, wz_lst, List.getElem?_cons_zero, List.getElem?_cons_succ, List.set_cons_zero, List.set_cons_succ, List.length_cons, List.length_nil, wi_tup, wi_lst, wi_rol, wx_tuplel, wx_tuplet, wx_listt, wto_some, hdq, hqc, ite_f, ite_tt, decide_eq_true_eq, Bool.not_eq_true', wisT, ex_bl, ex_int, ite_tf, ite_ff, wix0, wix1, wix2, Nat.reduceAdd, Nat.reduceLT, sl0, sl1, sl2, sl3, sl4, sl5, sl6, sl10, if_true, true_and, and_true, List.map_cons, List.map_nil, wip, wt_turn, it_non_int, it_non_bool, it_non_str, it_non_tuple, it_non_list, it_non_dict, it_bl_int, it_bl_bool, it_bl_str, it_bl_tuple, it_bl_list, it_bl_dict, it_int_int, it_int_bool, it_int_str, it_int_tuple, it_int_list, it_int_dict, it_str_int, it_str_bool, it_str_str, it_str_tuple, it_str_list, it_str_dict, it_tup_int, it_tup_bool, it_tup_str, it_tup_tuple, it_tup_list, it_tup_dict, it_lst_int, it_lst_bool, it_lst_str, it_lst_tuple, it_lst_list, it_lst_dict, it_rol_int, it_rol_bool, it_rol_str, it_rol_tuple, it_rol_list, it_rol_dict]
            exact ⟨[M i j, M i (j - sz) + (w : Nat)], _, t ++ [_], rfl, by rw [List.append_assoc], lk_new1, by simp, by rw [if_pos hle, maxL_2]⟩
          · have hle : ¬ sz ≤ j := by omega
            rw [wb_ladd mut_lst mut_lst (leL (by simp))]
            simp only [we_con, we_varm, we_glom, we_bin, we_neg, we_cmp, we_chain, we_and, we_or, we_not, we_ife, we_tup, we_lst, we_ix, we_sl, we_rev, we_call, we_blt, we_isi, we_app, we_lc, wa_nil, wa_cons, wr_nil, wr_cons, wo_none, wo_some, wto_none, wto_some, wt_and, wt_or, wt_not, wt_cmp, wt_chain, wt_tru, wi_seq, wi_range, wi_enum, wg_nm, wg_tup, wg_nil, wg_cons, wg_sub, wp_ok, wp_bad, wp_nox, wb_add, wb_sub, wb_mul, wb_fdiv, wb_mod, wb_pow, wc_eq, wc_ne, wc_lt, wc_le, wc_gt, wc_ge, wc_eqb, wc_neb, wc_eqs, wc_nes, wx_int, wx_lent, wx_lenl, wx_lenr, wz_int, wz_str, wz_bl, wz_non, wz_tup, wz_rol, wz_ref, wz_lst, List.getElem?_cons_zero, List.getElem?_cons_succ, List.set_cons_zero, List.set_cons_succ, List.length_cons, List.length_nil, wi_tup, wi_lst, wi_rol, wx_tuplel, wx_tuplet, wx_listt, wto_some, hdq, hqc, ite_f, ite_tt, decide_eq_true_eq, Bool.not_eq_true', wisT, ex_bl, ex_int, ite_tf, ite_ff, wix0, wix1, wix2, Nat.reduceAdd, Nat.reduceLT, sl0, sl1, sl2, sl3, sl4, sl5, sl6, sl10, if_true, true_and, and_true, List.map_cons, List.map_nil, wip, wt_turn, it_non_int, it_non_bool, it_non_str, it_non_tuple, it_non_list, it_non_dict, it_bl_int, it_bl_bool, it_bl_str, it_bl_tuple, it_bl_list, it_bl_dict, it_int_int, it_int_bool, it_int_str, it_int_tuple, it_int_list, it_int_dict, it_str_int, it_str_bool, it_str_str, it_str_tuple, it_str_list, it_str_dict, it_tup_int, it_tup_bool, it_tup_str, it_tup_tuple, it_tup_list, it_tup_dict, it_lst_int, it_lst_bool, it_lst_str, it_lst_tuple, it_lst_list, it_lst_dict, it_rol_int, it_rol_bool, it_rol_str, it_rol_tuple, it_rol_list, it_rol_dict]
            exact ⟨[M i j], _, t ++ [_], rfl, by rw [List.append_assoc], lk_new1, by simp, by rw [if_neg hle]; rfl⟩
        · rintro ρ s2 ⟨ns, rr, t, rfl, rfl, hl, hne, hmax⟩
          have test2 : Wp (runT (cfg.q (k+1)) (.cmp .ne (.ix (.ix (.var 2) (.bin .add (.var 4) (.con (.int 1)))) (.var 5)) (.blt .max [.var 8]))
              [some (dRows rows), some (.int (room : Nat)), some (dM (rows.length + 1) (room + 1) M), x3, some (.int (i : Nat)), some (.int (j : Nat)), some (.int (sz : Nat)), some (.int (w : Nat)), some (.ref rr), none] (s' ++ t)) fun k s2 => k = (!decide (M (i + 1) j = if sz ≤ j then max (M i j) (M i (j - sz) + (w : Nat)) else M i j)) ∧ s2 = s' ++ t := by
            simp only [we_con, we_varm, we_glom, we_bin, we_neg, we_cmp, we_chain, we_and, we_or, we_not, we_ife, we_tup, we_lst, we_ix, we_sl, we_rev, we_call, we_blt, we_isi, we_app, we_lc, wa_nil, wa_cons, wr_nil, wr_cons, wo_none, wo_some, wto_none, wto_some, wt_and, wt_or, wt_not, wt_cmp, wt_chain, wt_tru, wi_seq, wi_range, wi_enum, wg_nm, wg_tup, wg_nil, wg_cons, wg_sub, wp_ok, wp_bad, wp_nox, wb_add, wb_sub, wb_mul, wb_fdiv, wb_mod, wb_pow, wc_eq, wc_ne, wc_lt, wc_le, wc_gt, wc_ge, wc_eqb, wc_neb, wc_eqs, wc_nes, wx_int, wx_lent, wx_lenl, wx_lenr, wz_int, wz_str, wz_bl, wz_non, wz_tup, wz_rol, wz_ref, wz_lst, List.getElem?_cons_zero, List.getElem?_cons_succ, List.set_cons_zero, List.set_cons_succ, List.length_cons, List.length_nil, wi_tup, wi_lst, wi_rol, wx_tuplel, wx_tuplet, wx_listt, wto_some, hdq, hqc, ite_f, ite_tt, decide_eq_true_eq, Bool.not_eq_true', wisT, ex_bl, ex_int, ite_tf, ite_ff, wix0, wix1, wix2, Nat.reduceAdd, Nat.reduceLT, sl0, sl1, sl2, sl3, sl4, sl5, sl6, sl10, if_true, true_and, and_true, List.map_cons, List.map_nil, wip, wt_turn, it_non_int, it_non_bool, it_non_str, it_non_tuple, it_non_list, it_non_dict, it_bl_int, it_bl_bool, it_bl_str, it_bl_tuple, it_bl_list, it_bl_dict, it_int_int, it_int_bool, it_int_str, it_int_tuple, it_int_list, it_int_dict, it_str_int, it_str_bool, it_str_str, it_str_tuple, it_str_list, it_str_dict, it_tup_int, it_tup_bool, it_tup_str, it_tup_tuple, it_tup_list, it_tup_dict, it_lst_int, it_lst_bool, it_lst_str, it_lst_tuple, it_lst_list, it_lst_dict, it_rol_int, it_rol_bool, it_rol_str, it_rol_tuple, it_rol_list, it_rol_dict, ai1, aj1]
            rw [wx_maxr hl hne, hmax]
            simp only [we_con, we_varm, we_glom, we_bin, we_neg, we_cmp, we_chain, we_and, we_or, we_not, we_ife, we_tup, we_lst, we_ix, we_sl, we_rev, we_call, we_blt, we_isi, we_app, we_lc, wa_nil, wa_cons, wr_nil, wr_cons, wo_none, wo_some, wto_none, wto_some, wt_and, wt_or, wt_not, wt_cmp, wt_chain, wt_tru, wi_seq, wi_range, wi_enum, wg_nm, wg_tup, wg_nil, wg_cons, wg_sub, wp_ok, wp_bad, wp_nox, wb_add, wb_sub, wb_mul, wb_fdiv, wb_mod, wb_pow, wc_eq, wc_ne, wc_lt, wc_le, wc_gt, wc_ge, wc_eqb, wc_neb, wc_eqs, wc_nes, wx_int, wx_lent, wx_lenl, wx_lenr, wz_int, wz_str, wz_bl, wz_non, wz_tup, wz_rol, wz_ref, wz_lst, List.getElem?_cons_zero, List.getElem?_cons_succ, List.set_cons_zero, List.set_cons_succ, List.length_cons, List.length_nil, wi_tup, wi_lst, wi_rol, wx_tuplel, wx_tuplet, wx_listt, wto_some, hdq, hqc, ite_f, ite_tt, decide_eq_true_eq, Bool.not_eq_true', wisT, ex_bl, ex_int, ite_tf, ite_ff, wix0, wix1, wix2, Nat.reduceAdd, Nat.reduceLT, sl0, sl1, sl2, sl3, sl4, sl5, sl6, sl10, if_true, true_and, and_true, List.map_cons, List.map_nil, wip, wt_turn, it_non_int, it_non_bool, it_non_str, it_non_tuple, it_non_list, it_non_dict, it_bl_int, it_bl_bool, it_bl_str, it_bl_tuple, it_bl_list, it_bl_dict, it_int_int, it_int_bool, it_int_str, it_int_tuple, it_int_list, it_int_dict, it_str_int, it_str_bool, it_str_str, it_str_tuple, it_str_list, it_str_dict, it_tup_int, it_tup_bool, it_tup_str, it_tup_tuple, it_tup_list, it_tup_dict, it_lst_int, it_lst_bool, it_lst_str, it_lst_tuple, it_lst_list, it_lst_dict, it_rol_int, it_rol_bool, it_rol_str, it_rol_tuple, it_rol_list, it_rol_dict]
          by_cases hrec : Rec rows M i j
          · have hrec2 := hrec
            unfold Rec at hrec
            rw [← hsz, ← hw] at hrec
            refine ws_skip (test2.imp fun k' s2 z => ⟨by rw [z.1, decide_eq_true hrec]; rfl, z.2⟩) ?_
            rw [ws_nil]
            refine ⟨j + 1, _, _, t, by omega, by rw [show room + 1 - (j + 1) = m' by omega], rfl, rfl, fun j' hj' => ?_⟩
            by_cases h : j' < j
            · exact hrj j' h
            · have : j' = j := by omega
              subst this
              exact hrec2
          · have hrec2 := hrec
            unfold Rec at hrec
            rw [← hsz, ← hw] at hrec
            refine ws_take (test2.imp fun k' s2 z => ⟨by rw [z.1, decide_eq_false hrec]; rfl, z.2⟩) (leave (wrong ⟨t, rfl⟩ fun h => hrec2 ?_))
            have r2 := rec_tk (rows := rows) (i := i) (j := j)
            unfold Rec at r2 ⊢
            dsimp only at r2
            rw [h (i + 1) (by omega) j hj2, h i (by omega) j hj2, r2]
            split
            · rw [h i (by omega) _ (by omega)]
            · rfl
  · rintro ρ s2 ⟨⟨t, rfl⟩, hr⟩
    refine ws_rets ?_
    simp only [we_con, we_varm, we_glom, we_bin, we_neg, we_cmp, we_chain, we_and, we_or, we_not, we_ife, we_tup, we_lst, we_ix, we_sl, we_rev, we_call, we_blt, we_isi, we_app, we_lc, wa_nil, wa_cons, wr_nil, wr_cons, wo_none, wo_some, wto_none, wto_some, wt_and, wt_or, wt_not, wt_cmp, wt_chain, wt_tru, wi_seq, wi_range, wi_enum, wg_nm, wg_tup, wg_nil, wg_cons, wg_sub, wp_ok, wp_bad, wp_nox, wb_add, wb_sub, wb_mul, wb_fdiv, wb_mod, wb_pow, wc_eq, wc_ne, wc_lt, wc_le, wc_gt, wc_ge, wc_eqb, wc_neb, wc_eqs, wc_nes, wx_int, wx_lent, wx_lenl, wx_lenr, wz_int, wz_str, wz_bl, wz_non, wz_tup, wz_rol, wz_ref, wz_lst, List.getElem?_cons_zero, List.getElem?_cons_succ, List.set_cons_zero, List.set_cons_succ, List.length_cons, List.length_nil, wi_tup, wi_lst, wi_rol, wx_tuplel, wx_tuplet, wx_listt, wto_some, hdq, hqc, ite_f, ite_tt, decide_eq_true_eq, Bool.not_eq_true', wisT, ex_bl, ex_int, ite_tf, ite_ff, wix0, wix1, wix2, Nat.reduceAdd, Nat.reduceLT, sl0, sl1, sl2, sl3, sl4, sl5, sl6, sl10, if_true, true_and, and_true, List.map_cons, List.map_nil, wip, wt_turn, it_non_int, it_non_bool, it_non_str, it_non_tuple, it_non_list, it_non_dict, it_bl_int, it_bl_bool, it_bl_str, it_bl_tuple, it_bl_list, it_bl_dict, it_int_int, it_int_bool, it_int_str, it_int_tuple, it_int_list, it_int_dict, it_str_int, it_str_bool, it_str_str, it_str_tuple, it_str_list, it_str_dict, it_tup_int, it_tup_bool, it_tup_str, it_tup_tuple, it_tup_list, it_tup_dict, it_lst_int, it_lst_bool, it_lst_str, it_lst_tuple, it_lst_list, it_lst_dict, it_rol_int, it_rol_bool, it_rol_str, it_rol_tuple, it_rol_list, it_rol_dict]
    refine ⟨congrArg D.bl ?_, t, rfl⟩
    rw [dTab_M]
    exact (same_dM.mpr (tk_rec h0 hr)).symm
end DI.L

set_option Elab.async false
set_option linter.all false
set_option maxRecDepth 100000
set_option maxHeartbeats 4000000
/-! the plain law, I: the two looks at a value (printed by a small program: the two proofs differ in slots and names alone). -/
namespace DI.L
open PySem L2
def okP (n : Nat) : D → Bool
  | .int i => decide (0 ≤ i) && decide (i < n)
  | _ => false
def toN : D → Nat
  | .int i => i.toNat
  | _ => 0
def ntI (ns : List Nat) : List Int := ns.map fun (k : Nat) => (k : Int)
def sumS (rows : List (Nat × Nat)) (ns : List Nat) : Int := (ns.map fun k => (((rows.getD k (0, 0)).1 : Nat) : Int)).sum
def sumW (rows : List (Nat × Nat)) (ns : List Nat) : Int := (ns.map fun k => (((rows.getD k (0, 0)).2 : Nat) : Int)).sum
def srt (ns : List Nat) : List Int := (ntI ns).eraseDups.mergeSort (fun a b => decide (a ≤ b))
def fRest (rows : List (Nat × Nat)) (room : Nat) (a : Int) (ns : List Nat) (t : D) : D :=
  if ntI ns ≠ srt ns then .str "places" else if (room : Int) < sumS rows ns then .str "room" else if sumW rows ns ≠ a then .str "worth" else
  if D.same t (dTab rows room) = false then .str "table" else if ((Tk rows rows.length room : Nat) : Int) = a then .non else .str "greatest"
def form : D → Bool
  | .tup [.int _, .tup _, _] => true
  | _ => false
def fv (rows : List (Nat × Nat)) (room : Nat) : D → D
  | .tup [.int a, .tup ps, t] => if ps.all (okP rows.length) = true then fRest rows room a (ps.map toN) t else .str "places"
  | _ => .str "form"
theorem form_is {v : D} (h : form v = true) : ∃ a ps t, v = .tup [.int a, .tup ps, t] := by
  unfold form at h
  split at h
  · exact ⟨_, _, _, rfl⟩
  · cases h
theorem fv_no {rows : List (Nat × Nat)} {room : Nat} {v : D} (h : form v = false) : fv rows room v = .str "form" := by
  unfold fv
  split
  · cases h
  · rfl
theorem okP_is {n : Nat} {ps : List D} (h : ps.all (okP n) = true) : ps = (ps.map toN).map (fun (k : Nat) => D.int (k : Int)) ∧ ∀ k ∈ ps.map toN, k < n := by
  rw [List.all_eq_true] at h
  refine ⟨?_, fun k hk => ?_⟩
  · rw [List.map_map]
    conv => lhs; rw [← List.map_id ps]
    refine List.map_congr_left fun d hd => ?_
    have := h d hd
    cases d with
    | int i =>
      obtain ⟨h1, h2⟩ := ba this
      have h1 := of_decide_eq_true h1
      show D.int i = .int ((i.toNat : Nat) : Int)
      rw [Int.toNat_of_nonneg h1]
    | _ => cases this
  · obtain ⟨d, hd, rfl⟩ := List.mem_map.mp hk
    have := h d hd
    cases d with
    | int i =>
      obtain ⟨h1, h2⟩ := ba this
      have h1 := of_decide_eq_true h1
      have h2 := of_decide_eq_true h2
      show i.toNat < n
      omega
    | _ => cases this
theorem wx_set {ns : List Int} {s : S} {PD : D → S → Prop} (h : ns.length ≤ 60) : Wp (bltD .set [.tup (ns.map .int)] s) PD = PD (.ist ns) s := by
  have : bltD .set [.tup (ns.map .int)] s = .ok (.ist ns) s := by
    show (match intsD (ns.map D.int) with
      | some ns => if ns.length + 1 < scanBound then R.ok (D.ist ns) s else .bad
      | none => .bad) = _
    rw [intsD_map]
    dsimp only
    rw [if_pos (by unfold scanBound; omega)]
  rw [this, wp_ok]
theorem wx_srt {ns : List Int} {s : S} {PD : D → S → Prop} (h : ns.length ≤ 60) : Wp (bltD .sorted [.ist ns] s) PD = PD (.lst ((ns.eraseDups.mergeSort (fun a b => decide (a ≤ b))).map .int)) s := by
  have : bltD .sorted [.ist ns] s = .ok (.lst ((ns.eraseDups.mergeSort (fun a b => decide (a ≤ b))).map .int)) s := by
    show (if ns.length < 64 then R.ok (D.lst ((ns.eraseDups.mergeSort (fun a b => decide (a ≤ b))).map .int)) s else .bad) = _
    rw [if_pos (by omega)]
  rw [this, wp_ok]
theorem dRow_getD {rows : List (Nat × Nat)} {k : Nat} (h : k < rows.length) {s : S} {P : D → S → Prop} : Wp (ixD (dRows rows) (.int (k : Int)) s) P = P (dRow (rows.getD k (0, 0))) s := by
  have hr : rows.getD k (0, 0) = rows[k] := by rw [List.getD_eq_getElem?_getD, List.getElem?_eq_getElem h]; rfl
  rw [hr]
  exact wixt (n := k) (row_at h)
theorem pl_dNs {n : Nat} {l : List Nat} (h : l.length ≤ n) : (dNs l).pl n = true := by
  unfold dNs D.pl
  rw [Bool.and_eq_true]
  refine ⟨decide_eq_true (by simpa using h), pls_of fun x hx => ?_⟩
  obtain ⟨k, _, rfl⟩ := List.mem_map.mp hx
  rfl
theorem pl_dTab {rows : List (Nat × Nat)} {room : Nat} (g : Good rows room) : (dTab rows room).pl 30 = true := by
  have few := g.few
  have rm := g.room
  unfold dTab D.pl
  rw [Bool.and_eq_true]
  refine ⟨decide_eq_true (by simp; omega), pls_of fun x hx => ?_⟩
  obtain ⟨k, _, rfl⟩ := List.mem_map.mp hx
  unfold dT D.pl
  rw [Bool.and_eq_true]
  refine ⟨decide_eq_true (by simp; omega), pls_of fun x hx => ?_⟩
  obtain ⟨k, _, rfl⟩ := List.mem_map.mp hx
  rfl
theorem deps_le {n : Nat} : ∀ {xs : List D}, (∀ x ∈ xs, x.dep ≤ n) → D.dep.D.deps xs ≤ n
  | [], _ => by unfold D.dep.D.deps; exact Nat.zero_le _
  | x :: xs, h => by
    unfold D.dep.D.deps
    exact Nat.max_le.mpr ⟨h x List.mem_cons_self, deps_le fun y hy => h y (List.mem_cons_of_mem _ hy)⟩
theorem dep_dTab {rows : List (Nat × Nat)} {room : Nat} : (dTab rows room).dep ≤ 2 := by
  show D.dep.D.deps _ + 1 ≤ 2
  have := deps_le (n := 1) (xs := (List.range (rows.length + 1)).map (dT rows room)) fun x hx => by
    obtain ⟨k, _, rfl⟩ := List.mem_map.mp hx
    show D.dep.D.deps _ + 1 ≤ 1
    have := deps_le (n := 0) (xs := (List.range (room + 1)).map fun j => D.int (Tk rows k j : Nat)) fun x hx => by
      obtain ⟨k, _, rfl⟩ := List.mem_map.mp hx
      exact Nat.le_refl _
    omega
  omega
theorem wix_tabl {rows : List (Nat × Nat)} {room : Nat} {s : S} {P : D → S → Prop} : Wp (ixD (dTab rows room) (.int (-1)) s) P = P (dT rows room rows.length) s := wixlast (by rw [rng1]; simp)
theorem wix_dT {rows : List (Nat × Nat)} {room i : Nat} {s : S} {P : D → S → Prop} : Wp (ixD (dT rows room i) (.int (room : Int)) s) P = P (.int (Tk rows i room : Nat)) s := wixt (dT_at (Nat.lt_succ_self room))
theorem dRows_ix {rows : List (Nat × Nat)} : D.tup (rows.map dRow) = dRows rows := rfl
theorem c_bf (k : Nat) (a b c : D) (s : S) : cl (k+1) "best_fault" [a, b, c] s = runF (cfg.q k) 5 d_best_fault.body [a, b, c] s := by kernel_rfl
theorem s_bf {k : Nat} {rows : List (Nat × Nat)} {room : Nat} {v : D} {s : S} (g : Good rows room) (pv : v.pl 30 = true) : Wp (cl (k+5) "best_fault" [dRows rows, .int (room : Nat), v] s) fun d s' => d = fv rows room v ∧ ∃ t, s' = s ++ t := by
  rw [c_bf]
  refine wf_run ?_
  show Ws (runSs (cfg.q (k+4)) d_best_fault.body [some (dRows rows), some (.int (room : Nat)), some v, none, none] s) _
  unfold d_best_fault
  have few := g.few
  have rm := g.room
  have leave : ∀ {ρ : En} {s : S} {r : List IS} {Q : Kt} {x : Str}, Q.rt (.str x) s → Ws (runSs (cfg.q (k+4)) (.ret (some (.con (.str x))) :: r) ρ s) Q := fun h => ws_rets (by rw [we_con]; exact h)
  rw [ws_cons]
  refine ws_expr ?_
  simp only [we_con, we_varm, we_glom, we_bin, we_neg, we_cmp, we_chain, we_and, we_or, we_not, we_ife, we_tup, we_lst, we_ix, we_sl, we_rev, we_call, we_blt, we_isi, we_app, we_lc, wa_nil, wa_cons, wr_nil, wr_cons, wo_none, wo_some, wto_none, wto_some, wt_and, wt_or, wt_not, wt_cmp, wt_chain, wt_tru, wi_seq, wi_range, wi_enum, wg_nm, wg_tup, wg_nil, wg_cons, wg_sub, wp_ok, wp_bad, wp_nox, wb_add, wb_sub, wb_mul, wb_fdiv, wb_mod, wb_pow, wc_eq, wc_ne, wc_lt, wc_le, wc_gt, wc_ge, wc_eqb, wc_neb, wc_eqs, wc_nes, wx_int, wx_lent, wx_lenl, wx_lenr, wz_int, wz_str, wz_bl, wz_non, wz_tup, wz_rol, wz_ref, wz_lst, List.getElem?_cons_zero, List.getElem?_cons_succ, List.set_cons_zero, List.set_cons_succ, List.length_cons, List.length_nil, wi_tup, wi_lst, wi_rol, wx_tuplel, wx_tuplet, wx_listt, wto_some, hdq, hqc, ite_f, ite_tt, decide_eq_true_eq, Bool.not_eq_true', wisT, ex_bl, ex_int, ite_tf, ite_ff, wix0, wix1, wix2, Nat.reduceAdd, Nat.reduceLT, sl0, sl1, sl2, sl3, sl4, sl5, sl6, sl10, if_true, true_and, and_true, List.map_cons, List.map_nil, wip, wt_turn, it_non_int, it_non_bool, it_non_str, it_non_tuple, it_non_list, it_non_dict, it_bl_int, it_bl_bool, it_bl_str, it_bl_tuple, it_bl_list, it_bl_dict, it_int_int, it_int_bool, it_int_str, it_int_tuple, it_int_list, it_int_dict, it_str_int, it_str_bool, it_str_str, it_str_tuple, it_str_list, it_str_dict, it_tup_int, it_tup_bool, it_tup_str, it_tup_tuple, it_tup_list, it_tup_dict, it_lst_int, it_lst_bool, it_lst_str, it_lst_tuple, it_lst_list, it_lst_dict, it_rol_int, it_rol_bool, it_rol_str, it_rol_tuple, it_rol_list, it_rol_dict]
  show Wp (setl (dRows rows) _) _
  rw [wz_dRows]
  refine w_call (s_look (k := k + 2) g) ?_
  rintro d s1 ⟨rfl, hs1⟩
  rw [hs1]
  -- its form
  have test1 : Wp (runT (cfg.q (k+4)) (.or (.not (.tru (.isi (.var 2) .tuple))) (.or (.cmp .ne (.blt .len [(.var 2)]) (.con (.int 3))) (.or (.not (.tru (.call ("is_whole" : Str) [(.ix (.var 2) (.con (.int 0)))]))) (.not (.tru (.isi (.ix (.var 2) (.con (.int 1))) .tuple))))))
      [some (dRows rows), some (.int (room : Nat)), some v, none, none] s) fun b s' => b = (!form v) ∧ s' = s := by
    cases v with
    | tup xs =>
      have px := pl_tup pv
      match xs, px with
      | [x, y, z], px =>
        have hx := px.2 x (by simp)
        have hy := px.2 y (by simp)
        simp only [we_con, we_varm, we_glom, we_bin, we_neg, we_cmp, we_chain, we_and, we_or, we_not, we_ife, we_tup, we_lst, we_ix, we_sl, we_rev, we_call, we_blt, we_isi, we_app, we_lc, wa_nil, wa_cons, wr_nil, wr_cons, wo_none, wo_some, wto_none, wto_some, wt_and, wt_or, wt_not, wt_cmp, wt_chain, wt_tru, wi_seq, wi_range, wi_enum, wg_nm, wg_tup, wg_nil, wg_cons, wg_sub, wp_ok, wp_bad, wp_nox, wb_add, wb_sub, wb_mul, wb_fdiv, wb_mod, wb_pow, wc_eq, wc_ne, wc_lt, wc_le, wc_gt, wc_ge, wc_eqb, wc_neb, wc_eqs, wc_nes, wx_int, wx_lent, wx_lenl, wx_lenr, wz_int, wz_str, wz_bl, wz_non, wz_tup, wz_rol, wz_ref, wz_lst, List.getElem?_cons_zero, List.getElem?_cons_succ, List.set_cons_zero, List.set_cons_succ, List.length_cons, List.length_nil, wi_tup, wi_lst, wi_rol, wx_tuplel, wx_tuplet, wx_listt, wto_some, hdq, hqc, ite_f, ite_tt, decide_eq_true_eq, Bool.not_eq_true', wisT, ex_bl, ex_int, ite_tf, ite_ff, wix0, wix1, wix2, Nat.reduceAdd, Nat.reduceLT, sl0, sl1, sl2, sl3, sl4, sl5, sl6, sl10, if_true, true_and, and_true, List.map_cons, List.map_nil, wip, wt_turn, it_non_int, it_non_bool, it_non_str, it_non_tuple, it_non_list, it_non_dict, it_bl_int, it_bl_bool, it_bl_str, it_bl_tuple, it_bl_list, it_bl_dict, it_int_int, it_int_bool, it_int_str, it_int_tuple, it_int_list, it_int_dict, it_str_int, it_str_bool, it_str_str, it_str_tuple, it_str_list, it_str_dict, it_tup_int, it_tup_bool, it_tup_str, it_tup_tuple, it_tup_list, it_tup_dict, it_lst_int, it_lst_bool, it_lst_str, it_lst_tuple, it_lst_list, it_lst_dict, it_rol_int, it_rol_bool, it_rol_str, it_rol_tuple, it_rol_list, it_rol_dict]
        rw [if_neg (by simp), wz_shr (pl_shr hx), w_whole2 hx]
        cases x with
        | int i =>
          simp only [we_con, we_varm, we_glom, we_bin, we_neg, we_cmp, we_chain, we_and, we_or, we_not, we_ife, we_tup, we_lst, we_ix, we_sl, we_rev, we_call, we_blt, we_isi, we_app, we_lc, wa_nil, wa_cons, wr_nil, wr_cons, wo_none, wo_some, wto_none, wto_some, wt_and, wt_or, wt_not, wt_cmp, wt_chain, wt_tru, wi_seq, wi_range, wi_enum, wg_nm, wg_tup, wg_nil, wg_cons, wg_sub, wp_ok, wp_bad, wp_nox, wb_add, wb_sub, wb_mul, wb_fdiv, wb_mod, wb_pow, wc_eq, wc_ne, wc_lt, wc_le, wc_gt, wc_ge, wc_eqb, wc_neb, wc_eqs, wc_nes, wx_int, wx_lent, wx_lenl, wx_lenr, wz_int, wz_str, wz_bl, wz_non, wz_tup, wz_rol, wz_ref, wz_lst, List.getElem?_cons_zero, List.getElem?_cons_succ, List.set_cons_zero, List.set_cons_succ, List.length_cons, List.length_nil, wi_tup, wi_lst, wi_rol, wx_tuplel, wx_tuplet, wx_listt, wto_some, hdq, hqc, ite_f, ite_tt, decide_eq_true_eq, Bool.not_eq_true', wisT, ex_bl, ex_int, ite_tf, ite_ff, wix0, wix1, wix2, Nat.reduceAdd, Nat.reduceLT, sl0, sl1, sl2, sl3, sl4, sl5, sl6, sl10, if_true, true_and, and_true, List.map_cons, List.map_nil, wip, wt_turn, it_non_int, it_non_bool, it_non_str, it_non_tuple, it_non_list, it_non_dict, it_bl_int, it_bl_bool, it_bl_str, it_bl_tuple, it_bl_list, it_bl_dict, it_int_int, it_int_bool, it_int_str, it_int_tuple, it_int_list, it_int_dict, it_str_int, it_str_bool, it_str_str, it_str_tuple, it_str_list, it_str_dict, it_tup_int, it_tup_bool, it_tup_str, it_tup_tuple, it_tup_list, it_tup_dict, it_lst_int, it_lst_bool, it_lst_str, it_lst_tuple, it_lst_list, it_lst_dict, it_rol_int, it_rol_bool, it_rol_str, it_rol_tuple, it_rol_list, it_rol_dict, D.isInt]
          cases y with
          | tup ys => simp only [we_con, we_varm, we_glom, we_bin, we_neg, we_cmp, we_chain, we_and, we_or, we_not, we_ife, we_tup, we_lst, we_ix, we_sl, we_rev, we_call, we_blt, we_isi, we_app, we_lc, wa_nil, wa_cons, wr_nil, wr_cons, wo_none, wo_some, wto_none, wto_some, wt_and, wt_or, wt_not, wt_cmp, wt_chain, wt_tru, wi_seq, wi_range, wi_enum, wg_nm, wg_tup, wg_nil, wg_cons, wg_sub, wp_ok, wp_bad, wp_nox, wb_add, wb_sub, wb_mul, wb_fdiv, wb_mod, wb_pow, wc_eq, wc_ne, wc_lt, wc_le, wc_gt, wc_ge, wc_eqb, wc_neb, wc_eqs, wc_nes, wx_int, wx_lent, wx_lenl, wx_lenr, wz_int, wz_str, wz_bl, wz_non, wz_tup, wz_rol, wz_ref, wz_lst, List.getElem?_cons_zero, List.getElem?_cons_succ, List.set_cons_zero, List.set_cons_succ, List.length_cons, List.length_nil, wi_tup, wi_lst, wi_rol, wx_tuplel, wx_tuplet, wx_listt, wto_some, hdq, hqc, ite_f, ite_tt, decide_eq_true_eq, Bool.not_eq_true', wisT, ex_bl, ex_int, ite_tf, ite_ff, wix0, wix1, wix2, Nat.reduceAdd, Nat.reduceLT, sl0, sl1, sl2, sl3, sl4, sl5, sl6, sl10, if_true, true_and, and_true, List.map_cons, List.map_nil, wip, wt_turn, it_non_int, it_non_bool, it_non_str, it_non_tuple, it_non_list, it_non_dict, it_bl_int, it_bl_bool, it_bl_str, it_bl_tuple, it_bl_list, it_bl_dict, it_int_int, it_int_bool, it_int_str, it_int_tuple, it_int_list, it_int_dict, it_str_int, it_str_bool, it_str_str, it_str_tuple, it_str_list, it_str_dict, it_tup_int, it_tup_bool, it_tup_str, it_tup_tuple, it_tup_list, it_tup_dict, it_lst_int, it_lst_bool, it_lst_str, it_lst_tuple, it_lst_list, it_lst_dict, it_rol_int, it_rol_bool, it_rol_str, it_rol_tuple, it_rol_list, it_rol_dict]; rfl
          | non => simp only [we_con, we_varm, we_glom, we_bin, we_neg, we_cmp, we_chain, we_and, we_or, we_not, we_ife, we_tup, we_lst, we_ix, we_sl, we_rev, we_call, we_blt, we_isi, we_app, we_lc, wa_nil, wa_cons, wr_nil, wr_cons, wo_none, wo_some, wto_none, wto_some, wt_and, wt_or, wt_not, wt_cmp, wt_chain, wt_tru, wi_seq, wi_range, wi_enum, wg_nm, wg_tup, wg_nil, wg_cons, wg_sub, wp_ok, wp_bad, wp_nox, wb_add, wb_sub, wb_mul, wb_fdiv, wb_mod, wb_pow, wc_eq, wc_ne, wc_lt, wc_le, wc_gt, wc_ge, wc_eqb, wc_neb, wc_eqs, wc_nes, wx_int, wx_lent, wx_lenl, wx_lenr, wz_int, wz_str, wz_bl, wz_non, wz_tup, wz_rol, wz_ref, wz_lst, List.getElem?_cons_zero, List.getElem?_cons_succ, List.set_cons_zero, List.set_cons_succ, List.length_cons, List.length_nil, wi_tup, wi_lst, wi_rol, wx_tuplel, wx_tuplet, wx_listt, wto_some, hdq, hqc, ite_f, ite_tt, decide_eq_true_eq, Bool.not_eq_true', wisT, ex_bl, ex_int, ite_tf, ite_ff, wix0, wix1, wix2, Nat.reduceAdd, Nat.reduceLT, sl0, sl1, sl2, sl3, sl4, sl5, sl6, sl10, if_true, true_and, and_true, List.map_cons, List.map_nil, wip, wt_turn, it_non_int, it_non_bool, it_non_str, it_non_tuple, it_non_list, it_non_dict, it_bl_int, it_bl_bool, it_bl_str, it_bl_tuple, it_bl_list, it_bl_dict, it_int_int, it_int_bool, it_int_str, it_int_tuple, it_int_list, it_int_dict, it_str_int, it_str_bool, it_str_str, it_str_tuple, it_str_list, it_str_dict, it_tup_int, it_tup_bool, it_tup_str, it_tup_tuple, it_tup_list, it_tup_dict, it_lst_int, it_lst_bool, it_lst_str, it_lst_tuple, it_lst_list, it_lst_dict, it_rol_int, it_rol_bool, it_rol_str, it_rol_tuple, it_rol_list, it_rol_dict]; rfl
          | bl b => simp only [we_con, we_varm, we_glom, we_bin, we_neg, we_cmp, we_chain, we_and, we_or, we_not, we_ife, we_tup, we_lst, we_ix, we_sl, we_rev, we_call, we_blt, we_isi, we_app, we_lc, wa_nil, wa_cons, wr_nil, wr_cons, wo_none, wo_some, wto_none, wto_some, wt_and, wt_or, wt_not, wt_cmp, wt_chain, wt_tru, wi_seq, wi_range, wi_enum, wg_nm, wg_tup, wg_nil, wg_cons, wg_sub, wp_ok, wp_bad, wp_nox, wb_add, wb_sub, wb_mul, wb_fdiv, wb_mod, wb_pow, wc_eq, wc_ne, wc_lt, wc_le, wc_gt, wc_ge, wc_eqb, wc_neb, wc_eqs, wc_nes, wx_int, wx_lent, wx_lenl, wx_lenr, wz_int, wz_str, wz_bl, wz_non, wz_tup, wz_rol, wz_ref, wz_lst, List.getElem?_cons_zero, List.getElem?_cons_succ, List.set_cons_zero, List.set_cons_succ, List.length_cons, List.length_nil, wi_tup, wi_lst, wi_rol, wx_tuplel, wx_tuplet, wx_listt, wto_some, hdq, hqc, ite_f, ite_tt, decide_eq_true_eq, Bool.not_eq_true', wisT, ex_bl, ex_int, ite_tf, ite_ff, wix0, wix1, wix2, Nat.reduceAdd, Nat.reduceLT, sl0, sl1, sl2, sl3, sl4, sl5, sl6, sl10, if_true, true_and, and_true, List.map_cons, List.map_nil, wip, wt_turn, it_non_int, it_non_bool, it_non_str, it_non_tuple, it_non_list, it_non_dict, it_bl_int, it_bl_bool, it_bl_str, it_bl_tuple, it_bl_list, it_bl_dict, it_int_int, it_int_bool, it_int_str, it_int_tuple, it_int_list, it_int_dict, it_str_int, it_str_bool, it_str_str, it_str_tuple, it_str_list, it_str_dict, it_tup_int, it_tup_bool, it_tup_str, it_tup_tuple, it_tup_list, it_tup_dict, it_lst_int, it_lst_bool, it_lst_str, it_lst_tuple, it_lst_list, it_lst_dict, it_rol_int, it_rol_bool, it_rol_str, it_rol_tuple, it_rol_list, it_rol_dict]; rfl
          | int b => simp only [we_con, we_varm, we_glom, we_bin, we_neg, we_cmp, we_chain, we_and, we_or, we_not, we_ife, we_tup, we_lst, we_ix, we_sl, we_rev, we_call, we_blt, we_isi, we_app, we_lc, wa_nil, wa_cons, wr_nil, wr_cons, wo_none, wo_some, wto_none, wto_some, wt_and, wt_or, wt_not, wt_cmp, wt_chain, wt_tru, wi_seq, wi_range, wi_enum, wg_nm, wg_tup, wg_nil, wg_cons, wg_sub, wp_ok, wp_bad, wp_nox, wb_add, wb_sub, wb_mul, wb_fdiv, wb_mod, wb_pow, wc_eq, wc_ne, wc_lt, wc_le, wc_gt, wc_ge, wc_eqb, wc_neb, wc_eqs, wc_nes, wx_int, wx_lent, wx_lenl, wx_lenr, wz_int, wz_str, wz_bl, wz_non, wz_tup, wz_rol, wz_ref, wz_lst, List.getElem?_cons_zero, List.getElem?_cons_succ, List.set_cons_zero, List.set_cons_succ, List.length_cons, List.length_nil, wi_tup, wi_lst, wi_rol, wx_tuplel, wx_tuplet, wx_listt, wto_some, hdq, hqc, ite_f, ite_tt, decide_eq_true_eq, Bool.not_eq_true', wisT, ex_bl, ex_int, ite_tf, ite_ff, wix0, wix1, wix2, Nat.reduceAdd, Nat.reduceLT, sl0, sl1, sl2, sl3, sl4, sl5, sl6, sl10, if_true, true_and, and_true, List.map_cons, List.map_nil, wip, wt_turn, it_non_int, it_non_bool, it_non_str, it_non_tuple, it_non_list, it_non_dict, it_bl_int, it_bl_bool, it_bl_str, it_bl_tuple, it_bl_list, it_bl_dict, it_int_int, it_int_bool, it_int_str, it_int_tuple, it_int_list, it_int_dict, it_str_int, it_str_bool, it_str_str, it_str_tuple, it_str_list, it_str_dict, it_tup_int, it_tup_bool, it_tup_str, it_tup_tuple, it_tup_list, it_tup_dict, it_lst_int, it_lst_bool, it_lst_str, it_lst_tuple, it_lst_list, it_lst_dict, it_rol_int, it_rol_bool, it_rol_str, it_rol_tuple, it_rol_list, it_rol_dict]; rfl
          | str b => simp only [we_con, we_varm, we_glom, we_bin, we_neg, we_cmp, we_chain, we_and, we_or, we_not, we_ife, we_tup, we_lst, we_ix, we_sl, we_rev, we_call, we_blt, we_isi, we_app, we_lc, wa_nil, wa_cons, wr_nil, wr_cons, wo_none, wo_some, wto_none, wto_some, wt_and, wt_or, wt_not, wt_cmp, wt_chain, wt_tru, wi_seq, wi_range, wi_enum, wg_nm, wg_tup, wg_nil, wg_cons, wg_sub, wp_ok, wp_bad, wp_nox, wb_add, wb_sub, wb_mul, wb_fdiv, wb_mod, wb_pow, wc_eq, wc_ne, wc_lt, wc_le, wc_gt, wc_ge, wc_eqb, wc_neb, wc_eqs, wc_nes, wx_int, wx_lent, wx_lenl, wx_lenr, wz_int, wz_str, wz_bl, wz_non, wz_tup, wz_rol, wz_ref, wz_lst, List.getElem?_cons_zero, List.getElem?_cons_succ, List.set_cons_zero, List.set_cons_succ, List.length_cons, List.length_nil, wi_tup, wi_lst, wi_rol, wx_tuplel, wx_tuplet, wx_listt, wto_some, hdq, hqc, ite_f, ite_tt, decide_eq_true_eq, Bool.not_eq_true', wisT, ex_bl, ex_int, ite_tf, ite_ff, wix0, wix1, wix2, Nat.reduceAdd, Nat.reduceLT, sl0, sl1, sl2, sl3, sl4, sl5, sl6, sl10, if_true, true_and, and_true, List.map_cons, List.map_nil, wip, wt_turn, it_non_int, it_non_bool, it_non_str, it_non_tuple, it_non_list, it_non_dict, it_bl_int, it_bl_bool, it_bl_str, it_bl_tuple, it_bl_list, it_bl_dict, it_int_int, it_int_bool, it_int_str, it_int_tuple, it_int_list, it_int_dict, it_str_int, it_str_bool, it_str_str, it_str_tuple, it_str_list, it_str_dict, it_tup_int, it_tup_bool, it_tup_str, it_tup_tuple, it_tup_list, it_tup_dict, it_lst_int, it_lst_bool, it_lst_str, it_lst_tuple, it_lst_list, it_lst_dict, it_rol_int, it_rol_bool, it_rol_str, it_rol_tuple, it_rol_list, it_rol_dict]; rfl
          | _ => exact nomatch hy
        | non => simp only [we_con, we_varm, we_glom, we_bin, we_neg, we_cmp, we_chain, we_and, we_or, we_not, we_ife, we_tup, we_lst, we_ix, we_sl, we_rev, we_call, we_blt, we_isi, we_app, we_lc, wa_nil, wa_cons, wr_nil, wr_cons, wo_none, wo_some, wto_none, wto_some, wt_and, wt_or, wt_not, wt_cmp, wt_chain, wt_tru, wi_seq, wi_range, wi_enum, wg_nm, wg_tup, wg_nil, wg_cons, wg_sub, wp_ok, wp_bad, wp_nox, wb_add, wb_sub, wb_mul, wb_fdiv, wb_mod, wb_pow, wc_eq, wc_ne, wc_lt, wc_le, wc_gt, wc_ge, wc_eqb, wc_neb, wc_eqs, wc_nes, wx_int, wx_lent, wx_lenl, wx_lenr, wz_int, wz_str, wz_bl, wz_non, wz_tup, wz_rol, wz_ref, wz_lst, List.getElem?_cons_zero, List.getElem?_cons_succ, List.set_cons_zero, List.set_cons_succ, List.length_cons, List.length_nil, wi_tup, wi_lst, wi_rol, wx_tuplel, wx_tuplet, wx_listt, wto_some, hdq, hqc, ite_f, ite_tt, decide_eq_true_eq, Bool.not_eq_true', wisT, ex_bl, ex_int, ite_tf, ite_ff, wix0, wix1, wix2, Nat.reduceAdd, Nat.reduceLT, sl0, sl1, sl2, sl3, sl4, sl5, sl6, sl10, if_true, true_and, and_true, List.map_cons, List.map_nil, wip, wt_turn, it_non_int, it_non_bool, it_non_str, it_non_tuple, it_non_list, it_non_dict, it_bl_int, it_bl_bool, it_bl_str, it_bl_tuple, it_bl_list, it_bl_dict, it_int_int, it_int_bool, it_int_str, it_int_tuple, it_int_list, it_int_dict, it_str_int, it_str_bool, it_str_str, it_str_tuple, it_str_list, it_str_dict, it_tup_int, it_tup_bool, it_tup_str, it_tup_tuple, it_tup_list, it_tup_dict, it_lst_int, it_lst_bool, it_lst_str, it_lst_tuple, it_lst_list, it_lst_dict, it_rol_int, it_rol_bool, it_rol_str, it_rol_tuple, it_rol_list, it_rol_dict, D.isInt]; rfl
        | bl b => simp only [we_con, we_varm, we_glom, we_bin, we_neg, we_cmp, we_chain, we_and, we_or, we_not, we_ife, we_tup, we_lst, we_ix, we_sl, we_rev, we_call, we_blt, we_isi, we_app, we_lc, wa_nil, wa_cons, wr_nil, wr_cons, wo_none, wo_some, wto_none, wto_some, wt_and, wt_or, wt_not, wt_cmp, wt_chain, wt_tru, wi_seq, wi_range, wi_enum, wg_nm, wg_tup, wg_nil, wg_cons, wg_sub, wp_ok, wp_bad, wp_nox, wb_add, wb_sub, wb_mul, wb_fdiv, wb_mod, wb_pow, wc_eq, wc_ne, wc_lt, wc_le, wc_gt, wc_ge, wc_eqb, wc_neb, wc_eqs, wc_nes, wx_int, wx_lent, wx_lenl, wx_lenr, wz_int, wz_str, wz_bl, wz_non, wz_tup, wz_rol, wz_ref, wz_lst, List.getElem?_cons_zero, List.getElem?_cons_succ, List.set_cons_zero, List.set_cons_succ, List.length_cons, List.length_nil, wi_tup, wi_lst, wi_rol, wx_tuplel, wx_tuplet, wx_listt, wto_some, hdq, hqc, ite_f, ite_tt, decide_eq_true_eq, Bool.not_eq_true', wisT, ex_bl, ex_int, ite_tf, ite_ff, wix0, wix1, wix2, Nat.reduceAdd, Nat.reduceLT, sl0, sl1, sl2, sl3, sl4, sl5, sl6, sl10, if_true, true_and, and_true, List.map_cons, List.map_nil, wip, wt_turn, it_non_int, it_non_bool, it_non_str, it_non_tuple, it_non_list, it_non_dict, it_bl_int, it_bl_bool, it_bl_str, it_bl_tuple, it_bl_list, it_bl_dict, it_int_int, it_int_bool, it_int_str, it_int_tuple, it_int_list, it_int_dict, it_str_int, it_str_bool, it_str_str, it_str_tuple, it_str_list, it_str_dict, it_tup_int, it_tup_bool, it_tup_str, it_tup_tuple, it_tup_list, it_tup_dict, it_lst_int, it_lst_bool, it_lst_str, it_lst_tuple, it_lst_list, it_lst_dict, it_rol_int, it_rol_bool, it_rol_str, it_rol_tuple, it_rol_list, it_rol_dict, D.isInt]; rfl
        | str b => simp only [we_con, we_varm, we_glom, we_bin, we_neg, we_cmp, we_chain, we_and, we_or, we_not, we_ife, we_tup, we_lst, we_ix, we_sl, we_rev, we_call, we_blt, we_isi, we_app, we_lc, wa_nil, wa_cons, wr_nil, wr_cons, wo_none, wo_some, wto_none, wto_some, wt_and, wt_or, wt_not, wt_cmp, wt_chain, wt_tru, wi_seq, wi_range, wi_enum, wg_nm, wg_tup, wg_nil, wg_cons, wg_sub, wp_ok, wp_bad, wp_nox, wb_add, wb_sub, wb_mul, wb_fdiv, wb_mod, wb_pow, wc_eq, wc_ne, wc_lt, wc_le, wc_gt, wc_ge, wc_eqb, wc_neb, wc_eqs, wc_nes, wx_int, wx_lent, wx_lenl, wx_lenr, wz_int, wz_str, wz_bl, wz_non, wz_tup, wz_rol, wz_ref, wz_lst, List.getElem?_cons_zero, List.getElem?_cons_succ, List.set_cons_zero, List.set_cons_succ, List.length_cons, List.length_nil, wi_tup, wi_lst, wi_rol, wx_tuplel, wx_tuplet, wx_listt, wto_some, hdq, hqc, ite_f, ite_tt, decide_eq_true_eq, Bool.not_eq_true', wisT, ex_bl, ex_int, ite_tf, ite_ff, wix0, wix1, wix2, Nat.reduceAdd, Nat.reduceLT, sl0, sl1, sl2, sl3, sl4, sl5, sl6, sl10, if_true, true_and, and_true, List.map_cons, List.map_nil, wip, wt_turn, it_non_int, it_non_bool, it_non_str, it_non_tuple, it_non_list, it_non_dict, it_bl_int, it_bl_bool, it_bl_str, it_bl_tuple, it_bl_list, it_bl_dict, it_int_int, it_int_bool, it_int_str, it_int_tuple, it_int_list, it_int_dict, it_str_int, it_str_bool, it_str_str, it_str_tuple, it_str_list, it_str_dict, it_tup_int, it_tup_bool, it_tup_str, it_tup_tuple, it_tup_list, it_tup_dict, it_lst_int, it_lst_bool, it_lst_str, it_lst_tuple, it_lst_list, it_lst_dict, it_rol_int, it_rol_bool, it_rol_str, it_rol_tuple, it_rol_list, it_rol_dict, D.isInt]; rfl
        | tup b => simp only [we_con, we_varm, we_glom, we_bin, we_neg, we_cmp, we_chain, we_and, we_or, we_not, we_ife, we_tup, we_lst, we_ix, we_sl, we_rev, we_call, we_blt, we_isi, we_app, we_lc, wa_nil, wa_cons, wr_nil, wr_cons, wo_none, wo_some, wto_none, wto_some, wt_and, wt_or, wt_not, wt_cmp, wt_chain, wt_tru, wi_seq, wi_range, wi_enum, wg_nm, wg_tup, wg_nil, wg_cons, wg_sub, wp_ok, wp_bad, wp_nox, wb_add, wb_sub, wb_mul, wb_fdiv, wb_mod, wb_pow, wc_eq, wc_ne, wc_lt, wc_le, wc_gt, wc_ge, wc_eqb, wc_neb, wc_eqs, wc_nes, wx_int, wx_lent, wx_lenl, wx_lenr, wz_int, wz_str, wz_bl, wz_non, wz_tup, wz_rol, wz_ref, wz_lst, List.getElem?_cons_zero, List.getElem?_cons_succ, List.set_cons_zero, List.set_cons_succ, List.length_cons, List.length_nil, wi_tup, wi_lst, wi_rol, wx_tuplel, wx_tuplet, wx_listt, wto_some, hdq, hqc, ite_f, ite_tt, decide_eq_true_eq, Bool.not_eq_true', wisT, ex_bl, ex_int, ite_tf, ite_ff, wix0, wix1, wix2, Nat.reduceAdd, Nat.reduceLT, sl0, sl1, sl2, sl3, sl4, sl5, sl6, sl10, if_true, true_and, and_true, List.map_cons, List.map_nil, wip, wt_turn, it_non_int, it_non_bool, it_non_str, it_non_tuple, it_non_list, it_non_dict, it_bl_int, it_bl_bool, it_bl_str, it_bl_tuple, it_bl_list, it_bl_dict, it_int_int, it_int_bool, it_int_str, it_int_tuple, it_int_list, it_int_dict, it_str_int, it_str_bool, it_str_str, it_str_tuple, it_str_list, it_str_dict, it_tup_int, it_tup_bool, it_tup_str, it_tup_tuple, it_tup_list, it_tup_dict, it_lst_int, it_lst_bool, it_lst_str, it_lst_tuple, it_lst_list, it_lst_dict, it_rol_int, it_rol_bool, it_rol_str, it_rol_tuple, it_rol_list, it_rol_dict, D.isInt]; rfl
        | _ => exact nomatch hx
      | [], _ => simp only [we_con, we_varm, we_glom, we_bin, we_neg, we_cmp, we_chain, we_and, we_or, we_not, we_ife, we_tup, we_lst, we_ix, we_sl, we_rev, we_call, we_blt, we_isi, we_app, we_lc, wa_nil, wa_cons, wr_nil, wr_cons, wo_none, wo_some, wto_none, wto_some, wt_and, wt_or, wt_not, wt_cmp, wt_chain, wt_tru, wi_seq, wi_range, wi_enum, wg_nm, wg_tup, wg_nil, wg_cons, wg_sub, wp_ok, wp_bad, wp_nox, wb_add, wb_sub, wb_mul, wb_fdiv, wb_mod, wb_pow, wc_eq, wc_ne, wc_lt, wc_le, wc_gt, wc_ge, wc_eqb, wc_neb, wc_eqs, wc_nes, wx_int, wx_lent, wx_lenl, wx_lenr, wz_int, wz_str, wz_bl, wz_non, wz_tup, wz_rol, wz_ref, wz_lst, List.getElem?_cons_zero, List.getElem?_cons_succ, List.set_cons_zero, List.set_cons_succ, List.length_cons, List.length_nil, wi_tup, wi_lst, wi_rol, wx_tuplel, wx_tuplet, wx_listt, wto_some, hdq, hqc, ite_f, ite_tt, decide_eq_true_eq, Bool.not_eq_true', wisT, ex_bl, ex_int, ite_tf, ite_ff, wix0, wix1, wix2, Nat.reduceAdd, Nat.reduceLT, sl0, sl1, sl2, sl3, sl4, sl5, sl6, sl10, if_true, true_and, and_true, List.map_cons, List.map_nil, wip, wt_turn, it_non_int, it_non_bool, it_non_str, it_non_tuple, it_non_list, it_non_dict, it_bl_int, it_bl_bool, it_bl_str, it_bl_tuple, it_bl_list, it_bl_dict, it_int_int, it_int_bool, it_int_str, it_int_tuple, it_int_list, it_int_dict, it_str_int, it_str_bool, it_str_str, it_str_tuple, it_str_list, it_str_dict, it_tup_int, it_tup_bool, it_tup_str, it_tup_tuple, it_tup_list, it_tup_dict, it_lst_int, it_lst_bool, it_lst_str, it_lst_tuple, it_lst_list, it_lst_dict, it_rol_int, it_rol_bool, it_rol_str, it_rol_tuple, it_rol_list, it_rol_dict]; rw [if_pos (by simp)]; simp [form]
      | [_], _ => simp only [we_con, we_varm, we_glom, we_bin, we_neg, we_cmp, we_chain, we_and, we_or, we_not, we_ife, we_tup, we_lst, we_ix, we_sl, we_rev, we_call, we_blt, we_isi, we_app, we_lc, wa_nil, wa_cons, wr_nil, wr_cons, wo_none, wo_some, wto_none, wto_some, wt_and, wt_or, wt_not, wt_cmp, wt_chain, wt_tru, wi_seq, wi_range, wi_enum, wg_nm, wg_tup, wg_nil, wg_cons, wg_sub, wp_ok, wp_bad, wp_nox, wb_add, wb_sub, wb_mul, wb_fdiv, wb_mod, wb_pow, wc_eq, wc_ne, wc_lt, wc_le, wc_gt, wc_ge, wc_eqb, wc_neb, wc_eqs, wc_nes, wx_int, wx_lent, wx_lenl, wx_lenr, wz_int, wz_str, wz_bl, wz_non, wz_tup, wz_rol, wz_ref, wz_lst, List.getElem?_cons_zero, List.getElem?_cons_succ, List.set_cons_zero, List.set_cons_succ, List.length_cons, List.length_nil, wi_tup, wi_lst, wi_rol, wx_tuplel, wx_tuplet, wx_listt, wto_some, hdq, hqc, ite_f, ite_tt, decide_eq_true_eq, Bool.not_eq_true', wisT, ex_bl, ex_int, ite_tf, ite_ff, wix0, wix1, wix2, Nat.reduceAdd, Nat.reduceLT, sl0, sl1, sl2, sl3, sl4, sl5, sl6, sl10, if_true, true_and, and_true, List.map_cons, List.map_nil, wip, wt_turn, it_non_int, it_non_bool, it_non_str, it_non_tuple, it_non_list, it_non_dict, it_bl_int, it_bl_bool, it_bl_str, it_bl_tuple, it_bl_list, it_bl_dict, it_int_int, it_int_bool, it_int_str, it_int_tuple, it_int_list, it_int_dict, it_str_int, it_str_bool, it_str_str, it_str_tuple, it_str_list, it_str_dict, it_tup_int, it_tup_bool, it_tup_str, it_tup_tuple, it_tup_list, it_tup_dict, it_lst_int, it_lst_bool, it_lst_str, it_lst_tuple, it_lst_list, it_lst_dict, it_rol_int, it_rol_bool, it_rol_str, it_rol_tuple, it_rol_list, it_rol_dict]; rw [if_pos (by simp)]; simp [form]
      | [_, _], _ => simp only [we_con, we_varm, we_glom, we_bin, we_neg, we_cmp, we_chain, we_and, we_or, we_not, we_ife, we_tup, we_lst, we_ix, we_sl, we_rev, we_call, we_blt, we_isi, we_app, we_lc, wa_nil, wa_cons, wr_nil, wr_cons, wo_none, wo_some, wto_none, wto_some, wt_and, wt_or, wt_not, wt_cmp, wt_chain, wt_tru, wi_seq, wi_range, wi_enum, wg_nm, wg_tup, wg_nil, wg_cons, wg_sub, wp_ok, wp_bad, wp_nox, wb_add, wb_sub, wb_mul, wb_fdiv, wb_mod, wb_pow, wc_eq, wc_ne, wc_lt, wc_le, wc_gt, wc_ge, wc_eqb, wc_neb, wc_eqs, wc_nes, wx_int, wx_lent, wx_lenl, wx_lenr, wz_int, wz_str, wz_bl, wz_non, wz_tup, wz_rol, wz_ref, wz_lst, List.getElem?_cons_zero, List.getElem?_cons_succ, List.set_cons_zero, List.set_cons_succ, List.length_cons, List.length_nil, wi_tup, wi_lst, wi_rol, wx_tuplel, wx_tuplet, wx_listt, wto_some, hdq, hqc, ite_f, ite_tt, decide_eq_true_eq, Bool.not_eq_true', wisT, ex_bl, ex_int, ite_tf, ite_ff, wix0, wix1, wix2, Nat.reduceAdd, Nat.reduceLT, sl0, sl1, sl2, sl3, sl4, sl5, sl6, sl10, if_true, true_and, and_true, List.map_cons, List.map_nil, wip, wt_turn, it_non_int, it_non_bool, it_non_str, it_non_tuple, it_non_list, it_non_dict, it_bl_int, it_bl_bool, it_bl_str, it_bl_tuple, it_bl_list, it_bl_dict, it_int_int, it_int_bool, it_int_str, it_int_tuple, it_int_list, it_int_dict, it_str_int, it_str_bool, it_str_str, it_str_tuple, it_str_list, it_str_dict, it_tup_int, it_tup_bool, it_tup_str, it_tup_tuple, it_tup_list, it_tup_dict, it_lst_int, it_lst_bool, it_lst_str, it_lst_tuple, it_lst_list, it_lst_dict, it_rol_int, it_rol_bool, it_rol_str, it_rol_tuple, it_rol_list, it_rol_dict]; rw [if_pos (by simp)]; simp [form]
      | _ :: _ :: _ :: _ :: _, _ => simp only [we_con, we_varm, we_glom, we_bin, we_neg, we_cmp, we_chain, we_and, we_or, we_not, we_ife, we_tup, we_lst, we_ix, we_sl, we_rev, we_call, we_blt, we_isi, we_app, we_lc, wa_nil, wa_cons, wr_nil, wr_cons, wo_none, wo_some, wto_none, wto_some, wt_and, wt_or, wt_not, wt_cmp, wt_chain, wt_tru, wi_seq, wi_range, wi_enum, wg_nm, wg_tup, wg_nil, wg_cons, wg_sub, wp_ok, wp_bad, wp_nox, wb_add, wb_sub, wb_mul, wb_fdiv, wb_mod, wb_pow, wc_eq, wc_ne, wc_lt, wc_le, wc_gt, wc_ge, wc_eqb, wc_neb, wc_eqs, wc_nes, wx_int, wx_lent, wx_lenl, wx_lenr, wz_int, wz_str, wz_bl, wz_non, wz_tup, wz_rol, wz_ref, wz_lst, List.getElem?_cons_zero, List.getElem?_cons_succ, List.set_cons_zero, List.set_cons_succ, List.length_cons, List.length_nil, wi_tup, wi_lst, wi_rol, wx_tuplel, wx_tuplet, wx_listt, wto_some, hdq, hqc, ite_f, ite_tt, decide_eq_true_eq, Bool.not_eq_true', wisT, ex_bl, ex_int, ite_tf, ite_ff, wix0, wix1, wix2, Nat.reduceAdd, Nat.reduceLT, sl0, sl1, sl2, sl3, sl4, sl5, sl6, sl10, if_true, true_and, and_true, List.map_cons, List.map_nil, wip, wt_turn, it_non_int, it_non_bool, it_non_str, it_non_tuple, it_non_list, it_non_dict, it_bl_int, it_bl_bool, it_bl_str, it_bl_tuple, it_bl_list, it_bl_dict, it_int_int, it_int_bool, it_int_str, it_int_tuple, it_int_list, it_int_dict, it_str_int, it_str_bool, it_str_str, it_str_tuple, it_str_list, it_str_dict, it_tup_int, it_tup_bool, it_tup_str, it_tup_tuple, it_tup_list, it_tup_dict, it_lst_int, it_lst_bool, it_lst_str, it_lst_tuple, it_lst_list, it_lst_dict, it_rol_int, it_rol_bool, it_rol_str, it_rol_tuple, it_rol_list, it_rol_dict]; rw [if_pos (by simp; omega)]; simp [form]
    | non => simp only [we_con, we_varm, we_glom, we_bin, we_neg, we_cmp, we_chain, we_and, we_or, we_not, we_ife, we_tup, we_lst, we_ix, we_sl, we_rev, we_call, we_blt, we_isi, we_app, we_lc, wa_nil, wa_cons, wr_nil, wr_cons, wo_none, wo_some, wto_none, wto_some, wt_and, wt_or, wt_not, wt_cmp, wt_chain, wt_tru, wi_seq, wi_range, wi_enum, wg_nm, wg_tup, wg_nil, wg_cons, wg_sub, wp_ok, wp_bad, wp_nox, wb_add, wb_sub, wb_mul, wb_fdiv, wb_mod, wb_pow, wc_eq, wc_ne, wc_lt, wc_le, wc_gt, wc_ge, wc_eqb, wc_neb, wc_eqs, wc_nes, wx_int, wx_lent, wx_lenl, wx_lenr, wz_int, wz_str, wz_bl, wz_non, wz_tup, wz_rol, wz_ref, wz_lst, List.getElem?_cons_zero, List.getElem?_cons_succ, List.set_cons_zero, List.set_cons_succ, List.length_cons, List.length_nil, wi_tup, wi_lst, wi_rol, wx_tuplel, wx_tuplet, wx_listt, wto_some, hdq, hqc, ite_f, ite_tt, decide_eq_true_eq, Bool.not_eq_true', wisT, ex_bl, ex_int, ite_tf, ite_ff, wix0, wix1, wix2, Nat.reduceAdd, Nat.reduceLT, sl0, sl1, sl2, sl3, sl4, sl5, sl6, sl10, if_true, true_and, and_true, List.map_cons, List.map_nil, wip, wt_turn, it_non_int, it_non_bool, it_non_str, it_non_tuple, it_non_list, it_non_dict, it_bl_int, it_bl_bool, it_bl_str, it_bl_tuple, it_bl_list, it_bl_dict, it_int_int, it_int_bool, it_int_str, it_int_tuple, it_int_list, it_int_dict, it_str_int, it_str_bool, it_str_str, it_str_tuple, it_str_list, it_str_dict, it_tup_int, it_tup_bool, it_tup_str, it_tup_tuple, it_tup_list, it_tup_dict, it_lst_int, it_lst_bool, it_lst_str, it_lst_tuple, it_lst_list, it_lst_dict, it_rol_int, it_rol_bool, it_rol_str, it_rol_tuple, it_rol_list, it_rol_dict]; simp [form]
    | bl b => simp only [we_con, we_varm, we_glom, we_bin, we_neg, we_cmp, we_chain, we_and, we_or, we_not, we_ife, we_tup, we_lst, we_ix, we_sl, we_rev, we_call, we_blt, we_isi, we_app, we_lc, wa_nil, wa_cons, wr_nil, wr_cons, wo_none, wo_some, wto_none, wto_some, wt_and, wt_or, wt_not, wt_cmp, wt_chain, wt_tru, wi_seq, wi_range, wi_enum, wg_nm, wg_tup, wg_nil, wg_cons, wg_sub, wp_ok, wp_bad, wp_nox, wb_add, wb_sub, wb_mul, wb_fdiv, wb_mod, wb_pow, wc_eq, wc_ne, wc_lt, wc_le, wc_gt, wc_ge, wc_eqb, wc_neb, wc_eqs, wc_nes, wx_int, wx_lent, wx_lenl, wx_lenr, wz_int, wz_str, wz_bl, wz_non, wz_tup, wz_rol, wz_ref, wz_lst, List.getElem?_cons_zero, List.getElem?_cons_succ, List.set_cons_zero, List.set_cons_succ, List.length_cons, List.length_nil, wi_tup, wi_lst, wi_rol, wx_tuplel, wx_tuplet, wx_listt, wto_some, hdq, hqc, ite_f, ite_tt, decide_eq_true_eq, Bool.not_eq_true', wisT, ex_bl, ex_int, ite_tf, ite_ff, wix0, wix1, wix2, Nat.reduceAdd, Nat.reduceLT, sl0, sl1, sl2, sl3, sl4, sl5, sl6, sl10, if_true, true_and, and_true, List.map_cons, List.map_nil, wip, wt_turn, it_non_int, it_non_bool, it_non_str, it_non_tuple, it_non_list, it_non_dict, it_bl_int, it_bl_bool, it_bl_str, it_bl_tuple, it_bl_list, it_bl_dict, it_int_int, it_int_bool, it_int_str, it_int_tuple, it_int_list, it_int_dict, it_str_int, it_str_bool, it_str_str, it_str_tuple, it_str_list, it_str_dict, it_tup_int, it_tup_bool, it_tup_str, it_tup_tuple, it_tup_list, it_tup_dict, it_lst_int, it_lst_bool, it_lst_str, it_lst_tuple, it_lst_list, it_lst_dict, it_rol_int, it_rol_bool, it_rol_str, it_rol_tuple, it_rol_list, it_rol_dict]; simp [form]
    | int b => simp only [we_con, we_varm, we_glom, we_bin, we_neg, we_cmp, we_chain, we_and, we_or, we_not, we_ife, we_tup, we_lst, we_ix, we_sl, we_rev, we_call, we_blt, we_isi, we_app, we_lc, wa_nil, wa_cons, wr_nil, wr_cons, wo_none, wo_some, wto_none, wto_some, wt_and, wt_or, wt_not, wt_cmp, wt_chain, wt_tru, wi_seq, wi_range, wi_enum, wg_nm, wg_tup, wg_nil, wg_cons, wg_sub, wp_ok, wp_bad, wp_nox, wb_add, wb_sub, wb_mul, wb_fdiv, wb_mod, wb_pow, wc_eq, wc_ne, wc_lt, wc_le, wc_gt, wc_ge, wc_eqb, wc_neb, wc_eqs, wc_nes, wx_int, wx_lent, wx_lenl, wx_lenr, wz_int, wz_str, wz_bl, wz_non, wz_tup, wz_rol, wz_ref, wz_lst, List.getElem?_cons_zero, List.getElem?_cons_succ, List.set_cons_zero, List.set_cons_succ, List.length_cons, List.length_nil, wi_tup, wi_lst, wi_rol, wx_tuplel, wx_tuplet, wx_listt, wto_some, hdq, hqc, ite_f, ite_tt, decide_eq_true_eq, Bool.not_eq_true', wisT, ex_bl, ex_int, ite_tf, ite_ff, wix0, wix1, wix2, Nat.reduceAdd, Nat.reduceLT, sl0, sl1, sl2, sl3, sl4, sl5, sl6, sl10, if_true, true_and, and_true, List.map_cons, List.map_nil, wip, wt_turn, it_non_int, it_non_bool, it_non_str, it_non_tuple, it_non_list, it_non_dict, it_bl_int, it_bl_bool, it_bl_str, it_bl_tuple, it_bl_list, it_bl_dict, it_int_int, it_int_bool, it_int_str, it_int_tuple, it_int_list, it_int_dict, it_str_int, it_str_bool, it_str_str, it_str_tuple, it_str_list, it_str_dict, it_tup_int, it_tup_bool, it_tup_str, it_tup_tuple, it_tup_list, it_tup_dict, it_lst_int, it_lst_bool, it_lst_str, it_lst_tuple, it_lst_list, it_lst_dict, it_rol_int, it_rol_bool, it_rol_str, it_rol_tuple, it_rol_list, it_rol_dict]; simp [form]
    | str b => simp only [we_con, we_varm, we_glom, we_bin, we_neg, we_cmp, we_chain, we_and, we_or, we_not, we_ife, we_tup, we_lst, we_ix, we_sl, we_rev, we_call, we_blt, we_isi, we_app, we_lc, wa_nil, wa_cons, wr_nil, wr_cons, wo_none, wo_some, wto_none, wto_some, wt_and, wt_or, wt_not, wt_cmp, wt_chain, wt_tru, wi_seq, wi_range, wi_enum, wg_nm, wg_tup, wg_nil, wg_cons, wg_sub, wp_ok, wp_bad, wp_nox, wb_add, wb_sub, wb_mul, wb_fdiv, wb_mod, wb_pow, wc_eq, wc_ne, wc_lt, wc_le, wc_gt, wc_ge, wc_eqb, wc_neb, wc_eqs, wc_nes, wx_int, wx_lent, wx_lenl, wx_lenr, wz_int, wz_str, wz_bl, wz_non, wz_tup, wz_rol, wz_ref, wz_lst, List.getElem?_cons_zero, List.getElem?_cons_succ, List.set_cons_zero, List.set_cons_succ, List.length_cons, List.length_nil, wi_tup, wi_lst, wi_rol, wx_tuplel, wx_tuplet, wx_listt, wto_some, hdq, hqc, ite_f, ite_tt, decide_eq_true_eq, Bool.not_eq_true', wisT, ex_bl, ex_int, ite_tf, ite_ff, wix0, wix1, wix2, Nat.reduceAdd, Nat.reduceLT, sl0, sl1, sl2, sl3, sl4, sl5, sl6, sl10, if_true, true_and, and_true, List.map_cons, List.map_nil, wip, wt_turn, it_non_int, it_non_bool, it_non_str, it_non_tuple, it_non_list, it_non_dict, it_bl_int, it_bl_bool, it_bl_str, it_bl_tuple, it_bl_list, it_bl_dict, it_int_int, it_int_bool, it_int_str, it_int_tuple, it_int_list, it_int_dict, it_str_int, it_str_bool, it_str_str, it_str_tuple, it_str_list, it_str_dict, it_tup_int, it_tup_bool, it_tup_str, it_tup_tuple, it_tup_list, it_tup_dict, it_lst_int, it_lst_bool, it_lst_str, it_lst_tuple, it_lst_list, it_lst_dict, it_rol_int, it_rol_bool, it_rol_str, it_rol_tuple, it_rol_list, it_rol_dict]; simp [form]
    | _ => exact nomatch pv
  cases hf : form v with
  | false =>
    refine ws_take (test1.imp fun b s' z => ⟨by rw [z.1, hf]; rfl, z.2⟩) (leave ?_)
    exact ⟨(fv_no hf).symm, [], (List.append_nil _).symm⟩
  | true =>
  refine ws_skip (test1.imp fun b s' z => ⟨by rw [z.1, hf]; rfl, z.2⟩) ?_
  obtain ⟨a, ps, t, rfl⟩ := form_is hf
  clear test1
  have pps := pl_tup ((pl_tup pv).2 (.tup ps) (by simp))
  have pt := (pl_tup pv).2 t (by simp)
  refine ws_asgs ?_
  simp only [we_con, we_varm, we_glom, we_bin, we_neg, we_cmp, we_chain, we_and, we_or, we_not, we_ife, we_tup, we_lst, we_ix, we_sl, we_rev, we_call, we_blt, we_isi, we_app, we_lc, wa_nil, wa_cons, wr_nil, wr_cons, wo_none, wo_some, wto_none, wto_some, wt_and, wt_or, wt_not, wt_cmp, wt_chain, wt_tru, wi_seq, wi_range, wi_enum, wg_nm, wg_tup, wg_nil, wg_cons, wg_sub, wp_ok, wp_bad, wp_nox, wb_add, wb_sub, wb_mul, wb_fdiv, wb_mod, wb_pow, wc_eq, wc_ne, wc_lt, wc_le, wc_gt, wc_ge, wc_eqb, wc_neb, wc_eqs, wc_nes, wx_int, wx_lent, wx_lenl, wx_lenr, wz_int, wz_str, wz_bl, wz_non, wz_tup, wz_rol, wz_ref, wz_lst, List.getElem?_cons_zero, List.getElem?_cons_succ, List.set_cons_zero, List.set_cons_succ, List.length_cons, List.length_nil, wi_tup, wi_lst, wi_rol, wx_tuplel, wx_tuplet, wx_listt, wto_some, hdq, hqc, ite_f, ite_tt, decide_eq_true_eq, Bool.not_eq_true', wisT, ex_bl, ex_int, ite_tf, ite_ff, wix0, wix1, wix2, Nat.reduceAdd, Nat.reduceLT, sl0, sl1, sl2, sl3, sl4, sl5, sl6, sl10, if_true, true_and, and_true, List.map_cons, List.map_nil, wip, wt_turn, it_non_int, it_non_bool, it_non_str, it_non_tuple, it_non_list, it_non_dict, it_bl_int, it_bl_bool, it_bl_str, it_bl_tuple, it_bl_list, it_bl_dict, it_int_int, it_int_bool, it_int_str, it_int_tuple, it_int_list, it_int_dict, it_str_int, it_str_bool, it_str_str, it_str_tuple, it_str_list, it_str_dict, it_tup_int, it_tup_bool, it_tup_str, it_tup_tuple, it_tup_list, it_tup_dict, it_lst_int, it_lst_bool, it_lst_str, it_lst_tuple, it_lst_list, it_lst_dict, it_rol_int, it_rol_bool, it_rol_str, it_rol_tuple, it_rol_list, it_rol_dict]
  -- its places
  have plen : ps.length ≤ 30 := pps.1
  have tst2 : Wp (runT (cfg.q (k+4)) (.or (.not (.tru (.blt .all [(.lc [(("at" : Str), 4)] (.and (.call ("is_whole" : Str) [(.var 4)]) (.chain .le .lt (.con (.int 0)) (.var 4) (.blt .len [(.var 0)]))) (.nm 4) (.seq (.var 3)) none)]))) (.cmp .ne (.blt .list [(.var 3)]) (.blt .sorted [(.blt .set [(.var 3)])])))
      [some (dRows rows), some (.int (room : Nat)), some (.tup [.int a, .tup ps, t]), some (.tup ps), none] s) fun b s' => b = (!(ps.all (okP rows.length) && decide (ntI (ps.map toN) = srt (ps.map toN)))) ∧ s' = s := by
    simp only [we_con, we_varm, we_glom, we_bin, we_neg, we_cmp, we_chain, we_and, we_or, we_not, we_ife, we_tup, we_lst, we_ix, we_sl, we_rev, we_call, we_blt, we_isi, we_app, we_lc, wa_nil, wa_cons, wr_nil, wr_cons, wo_none, wo_some, wto_none, wto_some, wt_and, wt_or, wt_not, wt_cmp, wt_chain, wt_tru, wi_seq, wi_range, wi_enum, wg_nm, wg_tup, wg_nil, wg_cons, wg_sub, wp_ok, wp_bad, wp_nox, wb_add, wb_sub, wb_mul, wb_fdiv, wb_mod, wb_pow, wc_eq, wc_ne, wc_lt, wc_le, wc_gt, wc_ge, wc_eqb, wc_neb, wc_eqs, wc_nes, wx_int, wx_lent, wx_lenl, wx_lenr, wz_int, wz_str, wz_bl, wz_non, wz_tup, wz_rol, wz_ref, wz_lst, List.getElem?_cons_zero, List.getElem?_cons_succ, List.set_cons_zero, List.set_cons_succ, List.length_cons, List.length_nil, wi_tup, wi_lst, wi_rol, wx_tuplel, wx_tuplet, wx_listt, wto_some, hdq, hqc, ite_f, ite_tt, decide_eq_true_eq, Bool.not_eq_true', wisT, ex_bl, ex_int, ite_tf, ite_ff, wix0, wix1, wix2, Nat.reduceAdd, Nat.reduceLT, sl0, sl1, sl2, sl3, sl4, sl5, sl6, sl10, if_true, true_and, and_true, List.map_cons, List.map_nil, wip, wt_turn, it_non_int, it_non_bool, it_non_str, it_non_tuple, it_non_list, it_non_dict, it_bl_int, it_bl_bool, it_bl_str, it_bl_tuple, it_bl_list, it_bl_dict, it_int_int, it_int_bool, it_int_str, it_int_tuple, it_int_list, it_int_dict, it_str_int, it_str_bool, it_str_str, it_str_tuple, it_str_list, it_str_dict, it_tup_int, it_tup_bool, it_tup_str, it_tup_tuple, it_tup_list, it_tup_dict, it_lst_int, it_lst_bool, it_lst_str, it_lst_tuple, it_lst_list, it_lst_dict, it_rol_int, it_rol_bool, it_rol_str, it_rol_tuple, it_rol_list, it_rol_dict]
    refine wl_map (fun d => .bl (okP rows.length d)) rfl (leL (by omega)) (fun d hd => ?_) ?_
    · have pd := pps.2 d hd
      simp only [we_con, we_varm, we_glom, we_bin, we_neg, we_cmp, we_chain, we_and, we_or, we_not, we_ife, we_tup, we_lst, we_ix, we_sl, we_rev, we_call, we_blt, we_isi, we_app, we_lc, wa_nil, wa_cons, wr_nil, wr_cons, wo_none, wo_some, wto_none, wto_some, wt_and, wt_or, wt_not, wt_cmp, wt_chain, wt_tru, wi_seq, wi_range, wi_enum, wg_nm, wg_tup, wg_nil, wg_cons, wg_sub, wp_ok, wp_bad, wp_nox, wb_add, wb_sub, wb_mul, wb_fdiv, wb_mod, wb_pow, wc_eq, wc_ne, wc_lt, wc_le, wc_gt, wc_ge, wc_eqb, wc_neb, wc_eqs, wc_nes, wx_int, wx_lent, wx_lenl, wx_lenr, wz_int, wz_str, wz_bl, wz_non, wz_tup, wz_rol, wz_ref, wz_lst, List.getElem?_cons_zero, List.getElem?_cons_succ, List.set_cons_zero, List.set_cons_succ, List.length_cons, List.length_nil, wi_tup, wi_lst, wi_rol, wx_tuplel, wx_tuplet, wx_listt, wto_some, hdq, hqc, ite_f, ite_tt, decide_eq_true_eq, Bool.not_eq_true', wisT, ex_bl, ex_int, ite_tf, ite_ff, wix0, wix1, wix2, Nat.reduceAdd, Nat.reduceLT, sl0, sl1, sl2, sl3, sl4, sl5, sl6, sl10, if_true, true_and, and_true, List.map_cons, List.map_nil, wip, wt_turn, it_non_int, it_non_bool, it_non_str, it_non_tuple, it_non_list, it_non_dict, it_bl_int, it_bl_bool, it_bl_str, it_bl_tuple, it_bl_list, it_bl_dict, it_int_int, it_int_bool, it_int_str, it_int_tuple, it_int_list, it_int_dict, it_str_int, it_str_bool, it_str_str, it_str_tuple, it_str_list, it_str_dict, it_tup_int, it_tup_bool, it_tup_str, it_tup_tuple, it_tup_list, it_tup_dict, it_lst_int, it_lst_bool, it_lst_str, it_lst_tuple, it_lst_list, it_lst_dict, it_rol_int, it_rol_bool, it_rol_str, it_rol_tuple, it_rol_list, it_rol_dict]
      rw [wz_shr (pl_shr pd), wz_shr (pl_shr pd), w_whole2 pd]
      cases d with
      | int i =>
        simp only [we_con, we_varm, we_glom, we_bin, we_neg, we_cmp, we_chain, we_and, we_or, we_not, we_ife, we_tup, we_lst, we_ix, we_sl, we_rev, we_call, we_blt, we_isi, we_app, we_lc, wa_nil, wa_cons, wr_nil, wr_cons, wo_none, wo_some, wto_none, wto_some, wt_and, wt_or, wt_not, wt_cmp, wt_chain, wt_tru, wi_seq, wi_range, wi_enum, wg_nm, wg_tup, wg_nil, wg_cons, wg_sub, wp_ok, wp_bad, wp_nox, wb_add, wb_sub, wb_mul, wb_fdiv, wb_mod, wb_pow, wc_eq, wc_ne, wc_lt, wc_le, wc_gt, wc_ge, wc_eqb, wc_neb, wc_eqs, wc_nes, wx_int, wx_lent, wx_lenl, wx_lenr, wz_int, wz_str, wz_bl, wz_non, wz_tup, wz_rol, wz_ref, wz_lst, List.getElem?_cons_zero, List.getElem?_cons_succ, List.set_cons_zero, List.set_cons_succ, List.length_cons, List.length_nil, wi_tup, wi_lst, wi_rol, wx_tuplel, wx_tuplet, wx_listt, wto_some, hdq, hqc, ite_f, ite_tt, decide_eq_true_eq, Bool.not_eq_true', wisT, ex_bl, ex_int, ite_tf, ite_ff, wix0, wix1, wix2, Nat.reduceAdd, Nat.reduceLT, sl0, sl1, sl2, sl3, sl4, sl5, sl6, sl10, if_true, true_and, and_true, List.map_cons, List.map_nil, wip, wt_turn, it_non_int, it_non_bool, it_non_str, it_non_tuple, it_non_list, it_non_dict, it_bl_int, it_bl_bool, it_bl_str, it_bl_tuple, it_bl_list, it_bl_dict, it_int_int, it_int_bool, it_int_str, it_int_tuple, it_int_list, it_int_dict, it_str_int, it_str_bool, it_str_str, it_str_tuple, it_str_list, it_str_dict, it_tup_int, it_tup_bool, it_tup_str, it_tup_tuple, it_tup_list, it_tup_dict, it_lst_int, it_lst_bool, it_lst_str, it_lst_tuple, it_lst_list, it_lst_dict, it_rol_int, it_rol_bool, it_rol_str, it_rol_tuple, it_rol_list, it_rol_dict, D.isInt, dRows, List.length_map]
        refine ite_p (fun h => ?_) fun h => ?_
        · simp [okP, h]
        · simp [okP, h]
      | non => simp only [we_con, we_varm, we_glom, we_bin, we_neg, we_cmp, we_chain, we_and, we_or, we_not, we_ife, we_tup, we_lst, we_ix, we_sl, we_rev, we_call, we_blt, we_isi, we_app, we_lc, wa_nil, wa_cons, wr_nil, wr_cons, wo_none, wo_some, wto_none, wto_some, wt_and, wt_or, wt_not, wt_cmp, wt_chain, wt_tru, wi_seq, wi_range, wi_enum, wg_nm, wg_tup, wg_nil, wg_cons, wg_sub, wp_ok, wp_bad, wp_nox, wb_add, wb_sub, wb_mul, wb_fdiv, wb_mod, wb_pow, wc_eq, wc_ne, wc_lt, wc_le, wc_gt, wc_ge, wc_eqb, wc_neb, wc_eqs, wc_nes, wx_int, wx_lent, wx_lenl, wx_lenr, wz_int, wz_str, wz_bl, wz_non, wz_tup, wz_rol, wz_ref, wz_lst, List.getElem?_cons_zero, List.getElem?_cons_succ, List.set_cons_zero, List.set_cons_succ, List.length_cons, List.length_nil, wi_tup, wi_lst, wi_rol, wx_tuplel, wx_tuplet, wx_listt, wto_some, hdq, hqc, ite_f, ite_tt, decide_eq_true_eq, Bool.not_eq_true', wisT, ex_bl, ex_int, ite_tf, ite_ff, wix0, wix1, wix2, Nat.reduceAdd, Nat.reduceLT, sl0, sl1, sl2, sl3, sl4, sl5, sl6, sl10, if_true, true_and, and_true, List.map_cons, List.map_nil, wip, wt_turn, it_non_int, it_non_bool, it_non_str, it_non_tuple, it_non_list, it_non_dict, it_bl_int, it_bl_bool, it_bl_str, it_bl_tuple, it_bl_list, it_bl_dict, it_int_int, it_int_bool, it_int_str, it_int_tuple, it_int_list, it_int_dict, it_str_int, it_str_bool, it_str_str, it_str_tuple, it_str_list, it_str_dict, it_tup_int, it_tup_bool, it_tup_str, it_tup_tuple, it_tup_list, it_tup_dict, it_lst_int, it_lst_bool, it_lst_str, it_lst_tuple, it_lst_list, it_lst_dict, it_rol_int, it_rol_bool, it_rol_str, it_rol_tuple, it_rol_list, it_rol_dict, D.isInt]; simp [okP]
      | bl b => simp only [we_con, we_varm, we_glom, we_bin, we_neg, we_cmp, we_chain, we_and, we_or, we_not, we_ife, we_tup, we_lst, we_ix, we_sl, we_rev, we_call, we_blt, we_isi, we_app, we_lc, wa_nil, wa_cons, wr_nil, wr_cons, wo_none, wo_some, wto_none, wto_some, wt_and, wt_or, wt_not, wt_cmp, wt_chain, wt_tru, wi_seq, wi_range, wi_enum, wg_nm, wg_tup, wg_nil, wg_cons, wg_sub, wp_ok, wp_bad, wp_nox, wb_add, wb_sub, wb_mul, wb_fdiv, wb_mod, wb_pow, wc_eq, wc_ne, wc_lt, wc_le, wc_gt, wc_ge, wc_eqb, wc_neb, wc_eqs, wc_nes, wx_int, wx_lent, wx_lenl, wx_lenr, wz_int, wz_str, wz_bl, wz_non, wz_tup, wz_rol, wz_ref, wz_lst, List.getElem?_cons_zero, List.getElem?_cons_succ, List.set_cons_zero, List.set_cons_succ, List.length_cons, List.length_nil, wi_tup, wi_lst, wi_rol, wx_tuplel, wx_tuplet, wx_listt, wto_some, hdq, hqc, ite_f, ite_tt, decide_eq_true_eq, Bool.not_eq_true', wisT, ex_bl, ex_int, ite_tf, ite_ff, wix0, wix1, wix2, Nat.reduceAdd, Nat.reduceLT, sl0, sl1, sl2, sl3, sl4, sl5, sl6, sl10, if_true, true_and, and_true, List.map_cons, List.map_nil, wip, wt_turn, it_non_int, it_non_bool, it_non_str, it_non_tuple, it_non_list, it_non_dict, it_bl_int, it_bl_bool, it_bl_str, it_bl_tuple, it_bl_list, it_bl_dict, it_int_int, it_int_bool, it_int_str, it_int_tuple, it_int_list, it_int_dict, it_str_int, it_str_bool, it_str_str, it_str_tuple, it_str_list, it_str_dict, it_tup_int, it_tup_bool, it_tup_str, it_tup_tuple, it_tup_list, it_tup_dict, it_lst_int, it_lst_bool, it_lst_str, it_lst_tuple, it_lst_list, it_lst_dict, it_rol_int, it_rol_bool, it_rol_str, it_rol_tuple, it_rol_list, it_rol_dict, D.isInt]; simp [okP]
      | str b => simp only [we_con, we_varm, we_glom, we_bin, we_neg, we_cmp, we_chain, we_and, we_or, we_not, we_ife, we_tup, we_lst, we_ix, we_sl, we_rev, we_call, we_blt, we_isi, we_app, we_lc, wa_nil, wa_cons, wr_nil, wr_cons, wo_none, wo_some, wto_none, wto_some, wt_and, wt_or, wt_not, wt_cmp, wt_chain, wt_tru, wi_seq, wi_range, wi_enum, wg_nm, wg_tup, wg_nil, wg_cons, wg_sub, wp_ok, wp_bad, wp_nox, wb_add, wb_sub, wb_mul, wb_fdiv, wb_mod, wb_pow, wc_eq, wc_ne, wc_lt, wc_le, wc_gt, wc_ge, wc_eqb, wc_neb, wc_eqs, wc_nes, wx_int, wx_lent, wx_lenl, wx_lenr, wz_int, wz_str, wz_bl, wz_non, wz_tup, wz_rol, wz_ref, wz_lst, List.getElem?_cons_zero, List.getElem?_cons_succ, List.set_cons_zero, List.set_cons_succ, List.length_cons, List.length_nil, wi_tup, wi_lst, wi_rol, wx_tuplel, wx_tuplet, wx_listt, wto_some, hdq, hqc, ite_f, ite_tt, decide_eq_true_eq, Bool.not_eq_true', wisT, ex_bl, ex_int, ite_tf, ite_ff, wix0, wix1, wix2, Nat.reduceAdd, Nat.reduceLT, sl0, sl1, sl2, sl3, sl4, sl5, sl6, sl10, if_true, true_and, and_true, List.map_cons, List.map_nil, wip, wt_turn, it_non_int, it_non_bool, it_non_str, it_non_tuple, it_non_list, it_non_dict, it_bl_int, it_bl_bool, it_bl_str, it_bl_tuple, it_bl_list, it_bl_dict, it_int_int, it_int_bool, it_int_str, it_int_tuple, it_int_list, it_int_dict, it_str_int, it_str_bool, it_str_str, it_str_tuple, it_str_list, it_str_dict, it_tup_int, it_tup_bool, it_tup_str, it_tup_tuple, it_tup_list, it_tup_dict, it_lst_int, it_lst_bool, it_lst_str, it_lst_tuple, it_lst_list, it_lst_dict, it_rol_int, it_rol_bool, it_rol_str, it_rol_tuple, it_rol_list, it_rol_dict, D.isInt]; simp [okP]
      | tup b => simp only [we_con, we_varm, we_glom, we_bin, we_neg, we_cmp, we_chain, we_and, we_or, we_not, we_ife, we_tup, we_lst, we_ix, we_sl, we_rev, we_call, we_blt, we_isi, we_app, we_lc, wa_nil, wa_cons, wr_nil, wr_cons, wo_none, wo_some, wto_none, wto_some, wt_and, wt_or, wt_not, wt_cmp, wt_chain, wt_tru, wi_seq, wi_range, wi_enum, wg_nm, wg_tup, wg_nil, wg_cons, wg_sub, wp_ok, wp_bad, wp_nox, wb_add, wb_sub, wb_mul, wb_fdiv, wb_mod, wb_pow, wc_eq, wc_ne, wc_lt, wc_le, wc_gt, wc_ge, wc_eqb, wc_neb, wc_eqs, wc_nes, wx_int, wx_lent, wx_lenl, wx_lenr, wz_int, wz_str, wz_bl, wz_non, wz_tup, wz_rol, wz_ref, wz_lst, List.getElem?_cons_zero, List.getElem?_cons_succ, List.set_cons_zero, List.set_cons_succ, List.length_cons, List.length_nil, wi_tup, wi_lst, wi_rol, wx_tuplel, wx_tuplet, wx_listt, wto_some, hdq, hqc, ite_f, ite_tt, decide_eq_true_eq, Bool.not_eq_true', wisT, ex_bl, ex_int, ite_tf, ite_ff, wix0, wix1, wix2, Nat.reduceAdd, Nat.reduceLT, sl0, sl1, sl2, sl3, sl4, sl5, sl6, sl10, if_true, true_and, and_true, List.map_cons, List.map_nil, wip, wt_turn, it_non_int, it_non_bool, it_non_str, it_non_tuple, it_non_list, it_non_dict, it_bl_int, it_bl_bool, it_bl_str, it_bl_tuple, it_bl_list, it_bl_dict, it_int_int, it_int_bool, it_int_str, it_int_tuple, it_int_list, it_int_dict, it_str_int, it_str_bool, it_str_str, it_str_tuple, it_str_list, it_str_dict, it_tup_int, it_tup_bool, it_tup_str, it_tup_tuple, it_tup_list, it_tup_dict, it_lst_int, it_lst_bool, it_lst_str, it_lst_tuple, it_lst_list, it_lst_dict, it_rol_int, it_rol_bool, it_rol_str, it_rol_tuple, it_rol_list, it_rol_dict, D.isInt]; simp [okP]
      | _ => exact nomatch pd
    rw [show ps.map (fun d => D.bl (okP rows.length d)) = (ps.map (okP rows.length)).map .bl by rw [List.map_map]; rfl, wx_all]
    simp only [we_con, we_varm, we_glom, we_bin, we_neg, we_cmp, we_chain, we_and, we_or, we_not, we_ife, we_tup, we_lst, we_ix, we_sl, we_rev, we_call, we_blt, we_isi, we_app, we_lc, wa_nil, wa_cons, wr_nil, wr_cons, wo_none, wo_some, wto_none, wto_some, wt_and, wt_or, wt_not, wt_cmp, wt_chain, wt_tru, wi_seq, wi_range, wi_enum, wg_nm, wg_tup, wg_nil, wg_cons, wg_sub, wp_ok, wp_bad, wp_nox, wb_add, wb_sub, wb_mul, wb_fdiv, wb_mod, wb_pow, wc_eq, wc_ne, wc_lt, wc_le, wc_gt, wc_ge, wc_eqb, wc_neb, wc_eqs, wc_nes, wx_int, wx_lent, wx_lenl, wx_lenr, wz_int, wz_str, wz_bl, wz_non, wz_tup, wz_rol, wz_ref, wz_lst, List.getElem?_cons_zero, List.getElem?_cons_succ, List.set_cons_zero, List.set_cons_succ, List.length_cons, List.length_nil, wi_tup, wi_lst, wi_rol, wx_tuplel, wx_tuplet, wx_listt, wto_some, hdq, hqc, ite_f, ite_tt, decide_eq_true_eq, Bool.not_eq_true', wisT, ex_bl, ex_int, ite_tf, ite_ff, wix0, wix1, wix2, Nat.reduceAdd, Nat.reduceLT, sl0, sl1, sl2, sl3, sl4, sl5, sl6, sl10, if_true, true_and, and_true, List.map_cons, List.map_nil, wip, wt_turn, it_non_int, it_non_bool, it_non_str, it_non_tuple, it_non_list, it_non_dict, it_bl_int, it_bl_bool, it_bl_str, it_bl_tuple, it_bl_list, it_bl_dict, it_int_int, it_int_bool, it_int_str, it_int_tuple, it_int_list, it_int_dict, it_str_int, it_str_bool, it_str_str, it_str_tuple, it_str_list, it_str_dict, it_tup_int, it_tup_bool, it_tup_str, it_tup_tuple, it_tup_list, it_tup_dict, it_lst_int, it_lst_bool, it_lst_str, it_lst_tuple, it_lst_list, it_lst_dict, it_rol_int, it_rol_bool, it_rol_str, it_rol_tuple, it_rol_list, it_rol_dict]
    rw [show (ps.map (okP rows.length)).all id = ps.all (okP rows.length) by rw [List.all_map]; rfl]
    cases hall : ps.all (okP rows.length) with
    | false => simp only [we_con, we_varm, we_glom, we_bin, we_neg, we_cmp, we_chain, we_and, we_or, we_not, we_ife, we_tup, we_lst, we_ix, we_sl, we_rev, we_call, we_blt, we_isi, we_app, we_lc, wa_nil, wa_cons, wr_nil, wr_cons, wo_none, wo_some, wto_none, wto_some, wt_and, wt_or, wt_not, wt_cmp, wt_chain, wt_tru, wi_seq, wi_range, wi_enum, wg_nm, wg_tup, wg_nil, wg_cons, wg_sub, wp_ok, wp_bad, wp_nox, wb_add, wb_sub, wb_mul, wb_fdiv, wb_mod, wb_pow, wc_eq, wc_ne, wc_lt, wc_le, wc_gt, wc_ge, wc_eqb, wc_neb, wc_eqs, wc_nes, wx_int, wx_lent, wx_lenl, wx_lenr, wz_int, wz_str, wz_bl, wz_non, wz_tup, wz_rol, wz_ref, wz_lst, List.getElem?_cons_zero, List.getElem?_cons_succ, List.set_cons_zero, List.set_cons_succ, List.length_cons, List.length_nil, wi_tup, wi_lst, wi_rol, wx_tuplel, wx_tuplet, wx_listt, wto_some, hdq, hqc, ite_f, ite_tt, decide_eq_true_eq, Bool.not_eq_true', wisT, ex_bl, ex_int, ite_tf, ite_ff, wix0, wix1, wix2, Nat.reduceAdd, Nat.reduceLT, sl0, sl1, sl2, sl3, sl4, sl5, sl6, sl10, if_true, true_and, and_true, List.map_cons, List.map_nil, wip, wt_turn, it_non_int, it_non_bool, it_non_str, it_non_tuple, it_non_list, it_non_dict, it_bl_int, it_bl_bool, it_bl_str, it_bl_tuple, it_bl_list, it_bl_dict, it_int_int, it_int_bool, it_int_str, it_int_tuple, it_int_list, it_int_dict, it_str_int, it_str_bool, it_str_str, it_str_tuple, it_str_list, it_str_dict, it_tup_int, it_tup_bool, it_tup_str, it_tup_tuple, it_tup_list, it_tup_dict, it_lst_int, it_lst_bool, it_lst_str, it_lst_tuple, it_lst_list, it_lst_dict, it_rol_int, it_rol_bool, it_rol_str, it_rol_tuple, it_rol_list, it_rol_dict]; simp
    | true =>
      obtain ⟨hps, _⟩ := okP_is hall
      have hps2 : ps = (ntI (ps.map toN)).map .int := by
        unfold ntI
        rw [List.map_map]
        exact hps
      have hlen : (ntI (ps.map toN)).length ≤ 60 := by unfold ntI; simp; omega
      unfold srt
      generalize ntI (ps.map toN) = zs at *
      rw [if_neg (by decide)]
      rw [hps2, wx_set hlen, wx_srt hlen, wc_nel]
      exact ⟨by rw [Bool.true_and], rfl⟩
  cases hall : ps.all (okP rows.length) with
  | false =>
    refine ws_take (tst2.imp fun b s' z => ⟨by rw [z.1, hall]; rfl, z.2⟩) (leave ?_)
    refine ⟨?_, [], (List.append_nil _).symm⟩
    show _ = if ps.all (okP rows.length) = true then _ else _
    rw [if_neg (by rw [hall]; decide)]
  | true =>
  have hfv : fv rows room (.tup [.int a, .tup ps, t]) = fRest rows room a (ps.map toN) t := if_pos hall
  rw [hfv]
  obtain ⟨hps, hlt⟩ := okP_is hall
  have hns : (ps.map toN).length ≤ 30 := by simpa using plen
  rw [hall] at tst2
  clear hall hfv
  generalize ps.map toN = ns at *
  subst hps
  by_cases hs : ntI ns = srt ns
  rotate_left
  · refine ws_take (tst2.imp fun b s' z => ⟨by rw [z.1, decide_eq_false hs]; rfl, z.2⟩) (leave ?_)
    refine ⟨?_, [], (List.append_nil _).symm⟩
    unfold fRest
    rw [if_pos hs]
  refine ws_skip (tst2.imp fun b s' z => ⟨by rw [z.1, decide_eq_true hs]; rfl, z.2⟩) ?_
  clear tst2
  -- the room
  have tst3 : Wp (runT (cfg.q (k+4)) (.cmp .gt (.blt .sum [(.lc [(("at" : Str), 4)] (.ix (.ix (.var 0) (.var 4)) (.con (.int 0))) (.nm 4) (.seq (.var 3)) none)]) (.var 1))
      [some (dRows rows), some (.int (room : Nat)), some (.tup [.int a, .tup (ns.map fun (k : Nat) => D.int (k : Int)), t]), some (.tup (ns.map fun (k : Nat) => D.int (k : Int))), none] s) fun b s' => b = decide ((room : Int) < sumS rows ns) ∧ s' = s := by
    simp only [we_con, we_varm, we_glom, we_bin, we_neg, we_cmp, we_chain, we_and, we_or, we_not, we_ife, we_tup, we_lst, we_ix, we_sl, we_rev, we_call, we_blt, we_isi, we_app, we_lc, wa_nil, wa_cons, wr_nil, wr_cons, wo_none, wo_some, wto_none, wto_some, wt_and, wt_or, wt_not, wt_cmp, wt_chain, wt_tru, wi_seq, wi_range, wi_enum, wg_nm, wg_tup, wg_nil, wg_cons, wg_sub, wp_ok, wp_bad, wp_nox, wb_add, wb_sub, wb_mul, wb_fdiv, wb_mod, wb_pow, wc_eq, wc_ne, wc_lt, wc_le, wc_gt, wc_ge, wc_eqb, wc_neb, wc_eqs, wc_nes, wx_int, wx_lent, wx_lenl, wx_lenr, wz_int, wz_str, wz_bl, wz_non, wz_tup, wz_rol, wz_ref, wz_lst, List.getElem?_cons_zero, List.getElem?_cons_succ, List.set_cons_zero, List.set_cons_succ, List.length_cons, List.length_nil, wi_tup, wi_lst, wi_rol, wx_tuplel, wx_tuplet, wx_listt, wto_some, hdq, hqc, ite_f, ite_tt, decide_eq_true_eq, Bool.not_eq_true', wisT, ex_bl, ex_int, ite_tf, ite_ff, wix0, wix1, wix2, Nat.reduceAdd, Nat.reduceLT, sl0, sl1, sl2, sl3, sl4, sl5, sl6, sl10, if_true, true_and, and_true, List.map_cons, List.map_nil, wip, wt_turn, it_non_int, it_non_bool, it_non_str, it_non_tuple, it_non_list, it_non_dict, it_bl_int, it_bl_bool, it_bl_str, it_bl_tuple, it_bl_list, it_bl_dict, it_int_int, it_int_bool, it_int_str, it_int_tuple, it_int_list, it_int_dict, it_str_int, it_str_bool, it_str_str, it_str_tuple, it_str_list, it_str_dict, it_tup_int, it_tup_bool, it_tup_str, it_tup_tuple, it_tup_list, it_tup_dict, it_lst_int, it_lst_bool, it_lst_str, it_lst_tuple, it_lst_list, it_lst_dict, it_rol_int, it_rol_bool, it_rol_str, it_rol_tuple, it_rol_list, it_rol_dict]
    refine wl_mm (fun (k : Nat) => D.int (k : Int)) (fun k => .int ((rows.getD k (0, 0)).1 : Nat)) rfl (leL (by omega)) (fun i hi => ?_) ?_
    · simp only [we_con, we_varm, we_glom, we_bin, we_neg, we_cmp, we_chain, we_and, we_or, we_not, we_ife, we_tup, we_lst, we_ix, we_sl, we_rev, we_call, we_blt, we_isi, we_app, we_lc, wa_nil, wa_cons, wr_nil, wr_cons, wo_none, wo_some, wto_none, wto_some, wt_and, wt_or, wt_not, wt_cmp, wt_chain, wt_tru, wi_seq, wi_range, wi_enum, wg_nm, wg_tup, wg_nil, wg_cons, wg_sub, wp_ok, wp_bad, wp_nox, wb_add, wb_sub, wb_mul, wb_fdiv, wb_mod, wb_pow, wc_eq, wc_ne, wc_lt, wc_le, wc_gt, wc_ge, wc_eqb, wc_neb, wc_eqs, wc_nes, wx_int, wx_lent, wx_lenl, wx_lenr, wz_int, wz_str, wz_bl, wz_non, wz_tup, wz_rol, wz_ref, wz_lst, List.getElem?_cons_zero, List.getElem?_cons_succ, List.set_cons_zero, List.set_cons_succ, List.length_cons, List.length_nil, wi_tup, wi_lst, wi_rol, wx_tuplel, wx_tuplet, wx_listt, wto_some, hdq, hqc, ite_f, ite_tt, decide_eq_true_eq, Bool.not_eq_true', wisT, ex_bl, ex_int, ite_tf, ite_ff, wix0, wix1, wix2, Nat.reduceAdd, Nat.reduceLT, sl0, sl1, sl2, sl3, sl4, sl5, sl6, sl10, if_true, true_and, and_true, List.map_cons, List.map_nil, wip, wt_turn, it_non_int, it_non_bool, it_non_str, it_non_tuple, it_non_list, it_non_dict, it_bl_int, it_bl_bool, it_bl_str, it_bl_tuple, it_bl_list, it_bl_dict, it_int_int, it_int_bool, it_int_str, it_int_tuple, it_int_list, it_int_dict, it_str_int, it_str_bool, it_str_str, it_str_tuple, it_str_list, it_str_dict, it_tup_int, it_tup_bool, it_tup_str, it_tup_tuple, it_tup_list, it_tup_dict, it_lst_int, it_lst_bool, it_lst_str, it_lst_tuple, it_lst_list, it_lst_dict, it_rol_int, it_rol_bool, it_rol_str, it_rol_tuple, it_rol_list, it_rol_dict]
      rw [dRow_getD (hlt i hi)]
      simp only [dRow, we_con, we_varm, we_glom, we_bin, we_neg, we_cmp, we_chain, we_and, we_or, we_not, we_ife, we_tup, we_lst, we_ix, we_sl, we_rev, we_call, we_blt, we_isi, we_app, we_lc, wa_nil, wa_cons, wr_nil, wr_cons, wo_none, wo_some, wto_none, wto_some, wt_and, wt_or, wt_not, wt_cmp, wt_chain, wt_tru, wi_seq, wi_range, wi_enum, wg_nm, wg_tup, wg_nil, wg_cons, wg_sub, wp_ok, wp_bad, wp_nox, wb_add, wb_sub, wb_mul, wb_fdiv, wb_mod, wb_pow, wc_eq, wc_ne, wc_lt, wc_le, wc_gt, wc_ge, wc_eqb, wc_neb, wc_eqs, wc_nes, wx_int, wx_lent, wx_lenl, wx_lenr, wz_int, wz_str, wz_bl, wz_non, wz_tup, wz_rol, wz_ref, wz_lst, List.getElem?_cons_zero, List.getElem?_cons_succ, List.set_cons_zero, List.set_cons_succ, List.length_cons, List.length_nil, wi_tup, wi_lst, wi_rol, wx_tuplel, wx_tuplet, wx_listt, wto_some, hdq, hqc, ite_f, ite_tt, decide_eq_true_eq, Bool.not_eq_true', wisT, ex_bl, ex_int, ite_tf, ite_ff, wix0, wix1, wix2, Nat.reduceAdd, Nat.reduceLT, sl0, sl1, sl2, sl3, sl4, sl5, sl6, sl10, if_true, true_and, and_true, List.map_cons, List.map_nil, wip, wt_turn, it_non_int, it_non_bool, it_non_str, it_non_tuple, it_non_list, it_non_dict, it_bl_int, it_bl_bool, it_bl_str, it_bl_tuple, it_bl_list, it_bl_dict, it_int_int, it_int_bool, it_int_str, it_int_tuple, it_int_list, it_int_dict, it_str_int, it_str_bool, it_str_str, it_str_tuple, it_str_list, it_str_dict, it_tup_int, it_tup_bool, it_tup_str, it_tup_tuple, it_tup_list, it_tup_dict, it_lst_int, it_lst_bool, it_lst_str, it_lst_tuple, it_lst_list, it_lst_dict, it_rol_int, it_rol_bool, it_rol_str, it_rol_tuple, it_rol_list, it_rol_dict]
    · rw [show ns.map (fun k => D.int ((rows.getD k (0, 0)).1 : Nat)) = (ns.map fun k => (((rows.getD k (0, 0)).1 : Nat) : Int)).map .int by rw [List.map_map]; rfl, wx_sum]
      simp only [we_con, we_varm, we_glom, we_bin, we_neg, we_cmp, we_chain, we_and, we_or, we_not, we_ife, we_tup, we_lst, we_ix, we_sl, we_rev, we_call, we_blt, we_isi, we_app, we_lc, wa_nil, wa_cons, wr_nil, wr_cons, wo_none, wo_some, wto_none, wto_some, wt_and, wt_or, wt_not, wt_cmp, wt_chain, wt_tru, wi_seq, wi_range, wi_enum, wg_nm, wg_tup, wg_nil, wg_cons, wg_sub, wp_ok, wp_bad, wp_nox, wb_add, wb_sub, wb_mul, wb_fdiv, wb_mod, wb_pow, wc_eq, wc_ne, wc_lt, wc_le, wc_gt, wc_ge, wc_eqb, wc_neb, wc_eqs, wc_nes, wx_int, wx_lent, wx_lenl, wx_lenr, wz_int, wz_str, wz_bl, wz_non, wz_tup, wz_rol, wz_ref, wz_lst, List.getElem?_cons_zero, List.getElem?_cons_succ, List.set_cons_zero, List.set_cons_succ, List.length_cons, List.length_nil, wi_tup, wi_lst, wi_rol, wx_tuplel, wx_tuplet, wx_listt, wto_some, hdq, hqc, ite_f, ite_tt, decide_eq_true_eq, Bool.not_eq_true', wisT, ex_bl, ex_int, ite_tf, ite_ff, wix0, wix1, wix2, Nat.reduceAdd, Nat.reduceLT, sl0, sl1, sl2, sl3, sl4, sl5, sl6, sl10, if_true, true_and, and_true, List.map_cons, List.map_nil, wip, wt_turn, it_non_int, it_non_bool, it_non_str, it_non_tuple, it_non_list, it_non_dict, it_bl_int, it_bl_bool, it_bl_str, it_bl_tuple, it_bl_list, it_bl_dict, it_int_int, it_int_bool, it_int_str, it_int_tuple, it_int_list, it_int_dict, it_str_int, it_str_bool, it_str_str, it_str_tuple, it_str_list, it_str_dict, it_tup_int, it_tup_bool, it_tup_str, it_tup_tuple, it_tup_list, it_tup_dict, it_lst_int, it_lst_bool, it_lst_str, it_lst_tuple, it_lst_list, it_lst_dict, it_rol_int, it_rol_bool, it_rol_str, it_rol_tuple, it_rol_list, it_rol_dict]
      rfl
  by_cases hr : (room : Int) < sumS rows ns
  · refine ws_take (tst3.imp fun b s' z => ⟨by rw [z.1, decide_eq_true hr], z.2⟩) (leave ?_)
    refine ⟨?_, [], (List.append_nil _).symm⟩
    unfold fRest
    rw [if_neg (fun z => z hs), if_pos hr]
  refine ws_skip (tst3.imp fun b s' z => ⟨by rw [z.1, decide_eq_false hr], z.2⟩) ?_
  clear tst3
  -- the worth
  have tst4 : Wp (runT (cfg.q (k+4)) (.cmp .ne (.blt .sum [(.lc [(("at" : Str), 4)] (.ix (.ix (.var 0) (.var 4)) (.con (.int 1))) (.nm 4) (.seq (.var 3)) none)]) (.ix (.var 2) (.con (.int 0))))
      [some (dRows rows), some (.int (room : Nat)), some (.tup [.int a, .tup (ns.map fun (k : Nat) => D.int (k : Int)), t]), some (.tup (ns.map fun (k : Nat) => D.int (k : Int))), none] s) fun b s' => b = (!decide (sumW rows ns = a)) ∧ s' = s := by
    simp only [we_con, we_varm, we_glom, we_bin, we_neg, we_cmp, we_chain, we_and, we_or, we_not, we_ife, we_tup, we_lst, we_ix, we_sl, we_rev, we_call, we_blt, we_isi, we_app, we_lc, wa_nil, wa_cons, wr_nil, wr_cons, wo_none, wo_some, wto_none, wto_some, wt_and, wt_or, wt_not, wt_cmp, wt_chain, wt_tru, wi_seq, wi_range, wi_enum, wg_nm, wg_tup, wg_nil, wg_cons, wg_sub, wp_ok, wp_bad, wp_nox, wb_add, wb_sub, wb_mul, wb_fdiv, wb_mod, wb_pow, wc_eq, wc_ne, wc_lt, wc_le, wc_gt, wc_ge, wc_eqb, wc_neb, wc_eqs, wc_nes, wx_int, wx_lent, wx_lenl, wx_lenr, wz_int, wz_str, wz_bl, wz_non, wz_tup, wz_rol, wz_ref, wz_lst, List.getElem?_cons_zero, List.getElem?_cons_succ, List.set_cons_zero, List.set_cons_succ, List.length_cons, List.length_nil, wi_tup, wi_lst, wi_rol, wx_tuplel, wx_tuplet, wx_listt, wto_some, hdq, hqc, ite_f, ite_tt, decide_eq_true_eq, Bool.not_eq_true', wisT, ex_bl, ex_int, ite_tf, ite_ff, wix0, wix1, wix2, Nat.reduceAdd, Nat.reduceLT, sl0, sl1, sl2, sl3, sl4, sl5, sl6, sl10, if_true, true_and, and_true, List.map_cons, List.map_nil, wip, wt_turn, it_non_int, it_non_bool, it_non_str, it_non_tuple, it_non_list, it_non_dict, it_bl_int, it_bl_bool, it_bl_str, it_bl_tuple, it_bl_list, it_bl_dict, it_int_int, it_int_bool, it_int_str, it_int_tuple, it_int_list, it_int_dict, it_str_int, it_str_bool, it_str_str, it_str_tuple, it_str_list, it_str_dict, it_tup_int, it_tup_bool, it_tup_str, it_tup_tuple, it_tup_list, it_tup_dict, it_lst_int, it_lst_bool, it_lst_str, it_lst_tuple, it_lst_list, it_lst_dict, it_rol_int, it_rol_bool, it_rol_str, it_rol_tuple, it_rol_list, it_rol_dict]
    refine wl_mm (fun (k : Nat) => D.int (k : Int)) (fun k => .int ((rows.getD k (0, 0)).2 : Nat)) rfl (leL (by omega)) (fun i hi => ?_) ?_
    · simp only [we_con, we_varm, we_glom, we_bin, we_neg, we_cmp, we_chain, we_and, we_or, we_not, we_ife, we_tup, we_lst, we_ix, we_sl, we_rev, we_call, we_blt, we_isi, we_app, we_lc, wa_nil, wa_cons, wr_nil, wr_cons, wo_none, wo_some, wto_none, wto_some, wt_and, wt_or, wt_not, wt_cmp, wt_chain, wt_tru, wi_seq, wi_range, wi_enum, wg_nm, wg_tup, wg_nil, wg_cons, wg_sub, wp_ok, wp_bad, wp_nox, wb_add, wb_sub, wb_mul, wb_fdiv, wb_mod, wb_pow, wc_eq, wc_ne, wc_lt, wc_le, wc_gt, wc_ge, wc_eqb, wc_neb, wc_eqs, wc_nes, wx_int, wx_lent, wx_lenl, wx_lenr, wz_int, wz_str, wz_bl, wz_non, wz_tup, wz_rol, wz_ref, wz_lst, List.getElem?_cons_zero, List.getElem?_cons_succ, List.set_cons_zero, List.set_cons_succ, List.length_cons, List.length_nil, wi_tup, wi_lst, wi_rol, wx_tuplel, wx_tuplet, wx_listt, wto_some, hdq, hqc, ite_f, ite_tt, decide_eq_true_eq, Bool.not_eq_true', wisT, ex_bl, ex_int, ite_tf, ite_ff, wix0, wix1, wix2, Nat.reduceAdd, Nat.reduceLT, sl0, sl1, sl2, sl3, sl4, sl5, sl6, sl10, if_true, true_and, and_true, List.map_cons, List.map_nil, wip, wt_turn, it_non_int, it_non_bool, it_non_str, it_non_tuple, it_non_list, it_non_dict, it_bl_int, it_bl_bool, it_bl_str, it_bl_tuple, it_bl_list, it_bl_dict, it_int_int, it_int_bool, it_int_str, it_int_tuple, it_int_list, it_int_dict, it_str_int, it_str_bool, it_str_str, it_str_tuple, it_str_list, it_str_dict, it_tup_int, it_tup_bool, it_tup_str, it_tup_tuple, it_tup_list, it_tup_dict, it_lst_int, it_lst_bool, it_lst_str, it_lst_tuple, it_lst_list, it_lst_dict, it_rol_int, it_rol_bool, it_rol_str, it_rol_tuple, it_rol_list, it_rol_dict]
      rw [dRow_getD (hlt i hi)]
      simp only [dRow, we_con, we_varm, we_glom, we_bin, we_neg, we_cmp, we_chain, we_and, we_or, we_not, we_ife, we_tup, we_lst, we_ix, we_sl, we_rev, we_call, we_blt, we_isi, we_app, we_lc, wa_nil, wa_cons, wr_nil, wr_cons, wo_none, wo_some, wto_none, wto_some, wt_and, wt_or, wt_not, wt_cmp, wt_chain, wt_tru, wi_seq, wi_range, wi_enum, wg_nm, wg_tup, wg_nil, wg_cons, wg_sub, wp_ok, wp_bad, wp_nox, wb_add, wb_sub, wb_mul, wb_fdiv, wb_mod, wb_pow, wc_eq, wc_ne, wc_lt, wc_le, wc_gt, wc_ge, wc_eqb, wc_neb, wc_eqs, wc_nes, wx_int, wx_lent, wx_lenl, wx_lenr, wz_int, wz_str, wz_bl, wz_non, wz_tup, wz_rol, wz_ref, wz_lst, List.getElem?_cons_zero, List.getElem?_cons_succ, List.set_cons_zero, List.set_cons_succ, List.length_cons, List.length_nil, wi_tup, wi_lst, wi_rol, wx_tuplel, wx_tuplet, wx_listt, wto_some, hdq, hqc, ite_f, ite_tt, decide_eq_true_eq, Bool.not_eq_true', wisT, ex_bl, ex_int, ite_tf, ite_ff, wix0, wix1, wix2, Nat.reduceAdd, Nat.reduceLT, sl0, sl1, sl2, sl3, sl4, sl5, sl6, sl10, if_true, true_and, and_true, List.map_cons, List.map_nil, wip, wt_turn, it_non_int, it_non_bool, it_non_str, it_non_tuple, it_non_list, it_non_dict, it_bl_int, it_bl_bool, it_bl_str, it_bl_tuple, it_bl_list, it_bl_dict, it_int_int, it_int_bool, it_int_str, it_int_tuple, it_int_list, it_int_dict, it_str_int, it_str_bool, it_str_str, it_str_tuple, it_str_list, it_str_dict, it_tup_int, it_tup_bool, it_tup_str, it_tup_tuple, it_tup_list, it_tup_dict, it_lst_int, it_lst_bool, it_lst_str, it_lst_tuple, it_lst_list, it_lst_dict, it_rol_int, it_rol_bool, it_rol_str, it_rol_tuple, it_rol_list, it_rol_dict]
    · rw [show ns.map (fun k => D.int ((rows.getD k (0, 0)).2 : Nat)) = (ns.map fun k => (((rows.getD k (0, 0)).2 : Nat) : Int)).map .int by rw [List.map_map]; rfl, wx_sum]
      simp only [we_con, we_varm, we_glom, we_bin, we_neg, we_cmp, we_chain, we_and, we_or, we_not, we_ife, we_tup, we_lst, we_ix, we_sl, we_rev, we_call, we_blt, we_isi, we_app, we_lc, wa_nil, wa_cons, wr_nil, wr_cons, wo_none, wo_some, wto_none, wto_some, wt_and, wt_or, wt_not, wt_cmp, wt_chain, wt_tru, wi_seq, wi_range, wi_enum, wg_nm, wg_tup, wg_nil, wg_cons, wg_sub, wp_ok, wp_bad, wp_nox, wb_add, wb_sub, wb_mul, wb_fdiv, wb_mod, wb_pow, wc_eq, wc_ne, wc_lt, wc_le, wc_gt, wc_ge, wc_eqb, wc_neb, wc_eqs, wc_nes, wx_int, wx_lent, wx_lenl, wx_lenr, wz_int, wz_str, wz_bl, wz_non, wz_tup, wz_rol, wz_ref, wz_lst, List.getElem?_cons_zero, List.getElem?_cons_succ, List.set_cons_zero, List.set_cons_succ, List.length_cons, List.length_nil, wi_tup, wi_lst, wi_rol, wx_tuplel, wx_tuplet, wx_listt, wto_some, hdq, hqc, ite_f, ite_tt, decide_eq_true_eq, Bool.not_eq_true', wisT, ex_bl, ex_int, ite_tf, ite_ff, wix0, wix1, wix2, Nat.reduceAdd, Nat.reduceLT, sl0, sl1, sl2, sl3, sl4, sl5, sl6, sl10, if_true, true_and, and_true, List.map_cons, List.map_nil, wip, wt_turn, it_non_int, it_non_bool, it_non_str, it_non_tuple, it_non_list, it_non_dict, it_bl_int, it_bl_bool, it_bl_str, it_bl_tuple, it_bl_list, it_bl_dict, it_int_int, it_int_bool, it_int_str, it_int_tuple, it_int_list, it_int_dict, it_str_int, it_str_bool, it_str_str, it_str_tuple, it_str_list, it_str_dict, it_tup_int, it_tup_bool, it_tup_str, it_tup_tuple, it_tup_list, it_tup_dict, it_lst_int, it_lst_bool, it_lst_str, it_lst_tuple, it_lst_list, it_lst_dict, it_rol_int, it_rol_bool, it_rol_str, it_rol_tuple, it_rol_list, it_rol_dict]
      rfl
  by_cases hw : sumW rows ns = a
  rotate_left
  · refine ws_take (tst4.imp fun b s' z => ⟨by rw [z.1, decide_eq_false hw]; rfl, z.2⟩) (leave ?_)
    refine ⟨?_, [], (List.append_nil _).symm⟩
    unfold fRest
    rw [if_neg (fun z => z hs), if_neg hr, if_pos hw]
  refine ws_skip (tst4.imp fun b s' z => ⟨by rw [z.1, decide_eq_true hw]; rfl, z.2⟩) ?_
  clear tst4
  -- the table
  rw [ws_cons]
  refine ws_ife ?_
  simp only [we_con, we_varm, we_glom, we_bin, we_neg, we_cmp, we_chain, we_and, we_or, we_not, we_ife, we_tup, we_lst, we_ix, we_sl, we_rev, we_call, we_blt, we_isi, we_app, we_lc, wa_nil, wa_cons, wr_nil, wr_cons, wo_none, wo_some, wto_none, wto_some, wt_and, wt_or, wt_not, wt_cmp, wt_chain, wt_tru, wi_seq, wi_range, wi_enum, wg_nm, wg_tup, wg_nil, wg_cons, wg_sub, wp_ok, wp_bad, wp_nox, wb_add, wb_sub, wb_mul, wb_fdiv, wb_mod, wb_pow, wc_eq, wc_ne, wc_lt, wc_le, wc_gt, wc_ge, wc_eqb, wc_neb, wc_eqs, wc_nes, wx_int, wx_lent, wx_lenl, wx_lenr, wz_int, wz_str, wz_bl, wz_non, wz_tup, wz_rol, wz_ref, wz_lst, List.getElem?_cons_zero, List.getElem?_cons_succ, List.set_cons_zero, List.set_cons_succ, List.length_cons, List.length_nil, wi_tup, wi_lst, wi_rol, wx_tuplel, wx_tuplet, wx_listt, wto_some, hdq, hqc, ite_f, ite_tt, decide_eq_true_eq, Bool.not_eq_true', wisT, ex_bl, ex_int, ite_tf, ite_ff, wix0, wix1, wix2, Nat.reduceAdd, Nat.reduceLT, sl0, sl1, sl2, sl3, sl4, sl5, sl6, sl10, if_true, true_and, and_true, List.map_cons, List.map_nil, wip, wt_turn, it_non_int, it_non_bool, it_non_str, it_non_tuple, it_non_list, it_non_dict, it_bl_int, it_bl_bool, it_bl_str, it_bl_tuple, it_bl_list, it_bl_dict, it_int_int, it_int_bool, it_int_str, it_int_tuple, it_int_list, it_int_dict, it_str_int, it_str_bool, it_str_str, it_str_tuple, it_str_list, it_str_dict, it_tup_int, it_tup_bool, it_tup_str, it_tup_tuple, it_tup_list, it_tup_dict, it_lst_int, it_lst_bool, it_lst_str, it_lst_tuple, it_lst_list, it_lst_dict, it_rol_int, it_rol_bool, it_rol_str, it_rol_tuple, it_rol_list, it_rol_dict]
  show Wp (setl (dRows rows) _) _
  rw [wz_dRows, wz_shr (pl_shr pt)]
  refine w_call (s_ist (k := k + 2) g pt) ?_
  rintro d s3 ⟨rfl, t3, rfl⟩
  simp only [we_con, we_varm, we_glom, we_bin, we_neg, we_cmp, we_chain, we_and, we_or, we_not, we_ife, we_tup, we_lst, we_ix, we_sl, we_rev, we_call, we_blt, we_isi, we_app, we_lc, wa_nil, wa_cons, wr_nil, wr_cons, wo_none, wo_some, wto_none, wto_some, wt_and, wt_or, wt_not, wt_cmp, wt_chain, wt_tru, wi_seq, wi_range, wi_enum, wg_nm, wg_tup, wg_nil, wg_cons, wg_sub, wp_ok, wp_bad, wp_nox, wb_add, wb_sub, wb_mul, wb_fdiv, wb_mod, wb_pow, wc_eq, wc_ne, wc_lt, wc_le, wc_gt, wc_ge, wc_eqb, wc_neb, wc_eqs, wc_nes, wx_int, wx_lent, wx_lenl, wx_lenr, wz_int, wz_str, wz_bl, wz_non, wz_tup, wz_rol, wz_ref, wz_lst, List.getElem?_cons_zero, List.getElem?_cons_succ, List.set_cons_zero, List.set_cons_succ, List.length_cons, List.length_nil, wi_tup, wi_lst, wi_rol, wx_tuplel, wx_tuplet, wx_listt, wto_some, hdq, hqc, ite_f, ite_tt, decide_eq_true_eq, Bool.not_eq_true', wisT, ex_bl, ex_int, ite_tf, ite_ff, wix0, wix1, wix2, Nat.reduceAdd, Nat.reduceLT, sl0, sl1, sl2, sl3, sl4, sl5, sl6, sl10, if_true, true_and, and_true, List.map_cons, List.map_nil, wip, wt_turn, it_non_int, it_non_bool, it_non_str, it_non_tuple, it_non_list, it_non_dict, it_bl_int, it_bl_bool, it_bl_str, it_bl_tuple, it_bl_list, it_bl_dict, it_int_int, it_int_bool, it_int_str, it_int_tuple, it_int_list, it_int_dict, it_str_int, it_str_bool, it_str_str, it_str_tuple, it_str_list, it_str_dict, it_tup_int, it_tup_bool, it_tup_str, it_tup_tuple, it_tup_list, it_tup_dict, it_lst_int, it_lst_bool, it_lst_str, it_lst_tuple, it_lst_list, it_lst_dict, it_rol_int, it_rol_bool, it_rol_str, it_rol_tuple, it_rol_list, it_rol_dict]
  cases he : D.same t (dTab rows room) with
  | false =>
    rw [if_pos (by decide)]
    refine leave ⟨?_, t3, rfl⟩
    unfold fRest
    rw [if_neg (fun z => z hs), if_neg hr, if_neg (fun z => z hw), if_pos he]
  | true =>
    rw [if_neg (by decide), ws_nil]
    have ht := same_eq he
    subst ht
    show Ws (runSs _ _ _ _) _
    refine ws_rets ?_
    simp only [we_con, we_varm, we_glom, we_bin, we_neg, we_cmp, we_chain, we_and, we_or, we_not, we_ife, we_tup, we_lst, we_ix, we_sl, we_rev, we_call, we_blt, we_isi, we_app, we_lc, wa_nil, wa_cons, wr_nil, wr_cons, wo_none, wo_some, wto_none, wto_some, wt_and, wt_or, wt_not, wt_cmp, wt_chain, wt_tru, wi_seq, wi_range, wi_enum, wg_nm, wg_tup, wg_nil, wg_cons, wg_sub, wp_ok, wp_bad, wp_nox, wb_add, wb_sub, wb_mul, wb_fdiv, wb_mod, wb_pow, wc_eq, wc_ne, wc_lt, wc_le, wc_gt, wc_ge, wc_eqb, wc_neb, wc_eqs, wc_nes, wx_int, wx_lent, wx_lenl, wx_lenr, wz_int, wz_str, wz_bl, wz_non, wz_tup, wz_rol, wz_ref, wz_lst, List.getElem?_cons_zero, List.getElem?_cons_succ, List.set_cons_zero, List.set_cons_succ, List.length_cons, List.length_nil, wi_tup, wi_lst, wi_rol, wx_tuplel, wx_tuplet, wx_listt, wto_some, hdq, hqc, ite_f, ite_tt, decide_eq_true_eq, Bool.not_eq_true', wisT, ex_bl, ex_int, ite_tf, ite_ff, wix0, wix1, wix2, Nat.reduceAdd, Nat.reduceLT, sl0, sl1, sl2, sl3, sl4, sl5, sl6, sl10, if_true, true_and, and_true, List.map_cons, List.map_nil, wip, wt_turn, it_non_int, it_non_bool, it_non_str, it_non_tuple, it_non_list, it_non_dict, it_bl_int, it_bl_bool, it_bl_str, it_bl_tuple, it_bl_list, it_bl_dict, it_int_int, it_int_bool, it_int_str, it_int_tuple, it_int_list, it_int_dict, it_str_int, it_str_bool, it_str_str, it_str_tuple, it_str_list, it_str_dict, it_tup_int, it_tup_bool, it_tup_str, it_tup_tuple, it_tup_list, it_tup_dict, it_lst_int, it_lst_bool, it_lst_str, it_lst_tuple, it_lst_list, it_lst_dict, it_rol_int, it_rol_bool, it_rol_str, it_rol_tuple, it_rol_list, it_rol_dict, wix_tabl, wix_dT]
    have key : fRest rows room a ns (dTab rows room) = if ((Tk rows rows.length room : Nat) : Int) = a then D.non else .str "greatest" := by
      unfold fRest
      rw [if_neg (fun z => z hs), if_neg hr, if_neg (fun z => z hw), if_neg (by rw [he]; decide)]
    rw [key]
    refine ite_p (fun h => ?_) fun h => ?_
    · rw [if_pos h]
      exact ⟨rfl, t3, rfl⟩
    · rw [if_neg h]
      exact ⟨rfl, t3, rfl⟩
theorem c_lf (k : Nat) (a b c : D) (s : S) : cl (k+1) "_law_fault" [a, b, c] s = runF (cfg.q k) 6 d__law_fault.body [a, b, c] s := by kernel_rfl
theorem s_lf {k : Nat} {rows : List (Nat × Nat)} {room : Nat} {v : D} {s : S} (g : Good rows room) (pv : v.pl 30 = true) : Wp (cl (k+5) "_law_fault" [dRows rows, .int (room : Nat), v] s) fun d s' => d = fv rows room v ∧ ∃ t, s' = s ++ t := by
  rw [c_lf]
  refine wf_run ?_
  show Ws (runSs (cfg.q (k+4)) d__law_fault.body [some (dRows rows), some (.int (room : Nat)), some v, none, none, none] s) _
  unfold d__law_fault
  have few := g.few
  have rm := g.room
  have leave : ∀ {ρ : En} {s : S} {r : List IS} {Q : Kt} {x : Str}, Q.rt (.str x) s → Ws (runSs (cfg.q (k+4)) (.ret (some (.con (.str x))) :: r) ρ s) Q := fun h => ws_rets (by rw [we_con]; exact h)
  -- its form
  have test1 : Wp (runT (cfg.q (k+4)) (.or (.not (.tru (.isi (.var 2) .tuple))) (.or (.cmp .ne (.blt .len [(.var 2)]) (.con (.int 3))) (.or (.not (.tru (.call ("_law_whole" : Str) [(.ix (.var 2) (.con (.int 0)))]))) (.not (.tru (.isi (.ix (.var 2) (.con (.int 1))) .tuple))))))
      [some (dRows rows), some (.int (room : Nat)), some v, none, none, none] s) fun b s' => b = (!form v) ∧ s' = s := by
    cases v with
    | tup xs =>
      have px := pl_tup pv
      match xs, px with
      | [x, y, z], px =>
        have hx := px.2 x (by simp)
        have hy := px.2 y (by simp)
        simp only [we_con, we_varm, we_glom, we_bin, we_neg, we_cmp, we_chain, we_and, we_or, we_not, we_ife, we_tup, we_lst, we_ix, we_sl, we_rev, we_call, we_blt, we_isi, we_app, we_lc, wa_nil, wa_cons, wr_nil, wr_cons, wo_none, wo_some, wto_none, wto_some, wt_and, wt_or, wt_not, wt_cmp, wt_chain, wt_tru, wi_seq, wi_range, wi_enum, wg_nm, wg_tup, wg_nil, wg_cons, wg_sub, wp_ok, wp_bad, wp_nox, wb_add, wb_sub, wb_mul, wb_fdiv, wb_mod, wb_pow, wc_eq, wc_ne, wc_lt, wc_le, wc_gt, wc_ge, wc_eqb, wc_neb, wc_eqs, wc_nes, wx_int, wx_lent, wx_lenl, wx_lenr, wz_int, wz_str, wz_bl, wz_non, wz_tup, wz_rol, wz_ref, wz_lst, List.getElem?_cons_zero, List.getElem?_cons_succ, List.set_cons_zero, List.set_cons_succ, List.length_cons, List.length_nil, wi_tup, wi_lst, wi_rol, wx_tuplel, wx_tuplet, wx_listt, wto_some, hdq, hqc, ite_f, ite_tt, decide_eq_true_eq, Bool.not_eq_true', wisT, ex_bl, ex_int, ite_tf, ite_ff, wix0, wix1, wix2, Nat.reduceAdd, Nat.reduceLT, sl0, sl1, sl2, sl3, sl4, sl5, sl6, sl10, if_true, true_and, and_true, List.map_cons, List.map_nil, wip, wt_turn, it_non_int, it_non_bool, it_non_str, it_non_tuple, it_non_list, it_non_dict, it_bl_int, it_bl_bool, it_bl_str, it_bl_tuple, it_bl_list, it_bl_dict, it_int_int, it_int_bool, it_int_str, it_int_tuple, it_int_list, it_int_dict, it_str_int, it_str_bool, it_str_str, it_str_tuple, it_str_list, it_str_dict, it_tup_int, it_tup_bool, it_tup_str, it_tup_tuple, it_tup_list, it_tup_dict, it_lst_int, it_lst_bool, it_lst_str, it_lst_tuple, it_lst_list, it_lst_dict, it_rol_int, it_rol_bool, it_rol_str, it_rol_tuple, it_rol_list, it_rol_dict]
        rw [if_neg (by simp), wz_shr (pl_shr hx), w_lwhole2 hx]
        cases x with
        | int i =>
          simp only [we_con, we_varm, we_glom, we_bin, we_neg, we_cmp, we_chain, we_and, we_or, we_not, we_ife, we_tup, we_lst, we_ix, we_sl, we_rev, we_call, we_blt, we_isi, we_app, we_lc, wa_nil, wa_cons, wr_nil, wr_cons, wo_none, wo_some, wto_none, wto_some, wt_and, wt_or, wt_not, wt_cmp, wt_chain, wt_tru, wi_seq, wi_range, wi_enum, wg_nm, wg_tup, wg_nil, wg_cons, wg_sub, wp_ok, wp_bad, wp_nox, wb_add, wb_sub, wb_mul, wb_fdiv, wb_mod, wb_pow, wc_eq, wc_ne, wc_lt, wc_le, wc_gt, wc_ge, wc_eqb, wc_neb, wc_eqs, wc_nes, wx_int, wx_lent, wx_lenl, wx_lenr, wz_int, wz_str, wz_bl, wz_non, wz_tup, wz_rol, wz_ref, wz_lst, List.getElem?_cons_zero, List.getElem?_cons_succ, List.set_cons_zero, List.set_cons_succ, List.length_cons, List.length_nil, wi_tup, wi_lst, wi_rol, wx_tuplel, wx_tuplet, wx_listt, wto_some, hdq, hqc, ite_f, ite_tt, decide_eq_true_eq, Bool.not_eq_true', wisT, ex_bl, ex_int, ite_tf, ite_ff, wix0, wix1, wix2, Nat.reduceAdd, Nat.reduceLT, sl0, sl1, sl2, sl3, sl4, sl5, sl6, sl10, if_true, true_and, and_true, List.map_cons, List.map_nil, wip, wt_turn, it_non_int, it_non_bool, it_non_str, it_non_tuple, it_non_list, it_non_dict, it_bl_int, it_bl_bool, it_bl_str, it_bl_tuple, it_bl_list, it_bl_dict, it_int_int, it_int_bool, it_int_str, it_int_tuple, it_int_list, it_int_dict, it_str_int, it_str_bool, it_str_str, it_str_tuple, it_str_list, it_str_dict, it_tup_int, it_tup_bool, it_tup_str, it_tup_tuple, it_tup_list, it_tup_dict, it_lst_int, it_lst_bool, it_lst_str, it_lst_tuple, it_lst_list, it_lst_dict, it_rol_int, it_rol_bool, it_rol_str, it_rol_tuple, it_rol_list, it_rol_dict, D.isInt]
          cases y with
          | tup ys => simp only [we_con, we_varm, we_glom, we_bin, we_neg, we_cmp, we_chain, we_and, we_or, we_not, we_ife, we_tup, we_lst, we_ix, we_sl, we_rev, we_call, we_blt, we_isi, we_app, we_lc, wa_nil, wa_cons, wr_nil, wr_cons, wo_none, wo_some, wto_none, wto_some, wt_and, wt_or, wt_not, wt_cmp, wt_chain, wt_tru, wi_seq, wi_range, wi_enum, wg_nm, wg_tup, wg_nil, wg_cons, wg_sub, wp_ok, wp_bad, wp_nox, wb_add, wb_sub, wb_mul, wb_fdiv, wb_mod, wb_pow, wc_eq, wc_ne, wc_lt, wc_le, wc_gt, wc_ge, wc_eqb, wc_neb, wc_eqs, wc_nes, wx_int, wx_lent, wx_lenl, wx_lenr, wz_int, wz_str, wz_bl, wz_non, wz_tup, wz_rol, wz_ref, wz_lst, List.getElem?_cons_zero, List.getElem?_cons_succ, List.set_cons_zero, List.set_cons_succ, List.length_cons, List.length_nil, wi_tup, wi_lst, wi_rol, wx_tuplel, wx_tuplet, wx_listt, wto_some, hdq, hqc, ite_f, ite_tt, decide_eq_true_eq, Bool.not_eq_true', wisT, ex_bl, ex_int, ite_tf, ite_ff, wix0, wix1, wix2, Nat.reduceAdd, Nat.reduceLT, sl0, sl1, sl2, sl3, sl4, sl5, sl6, sl10, if_true, true_and, and_true, List.map_cons, List.map_nil, wip, wt_turn, it_non_int, it_non_bool, it_non_str, it_non_tuple, it_non_list, it_non_dict, it_bl_int, it_bl_bool, it_bl_str, it_bl_tuple, it_bl_list, it_bl_dict, it_int_int, it_int_bool, it_int_str, it_int_tuple, it_int_list, it_int_dict, it_str_int, it_str_bool, it_str_str, it_str_tuple, it_str_list, it_str_dict, it_tup_int, it_tup_bool, it_tup_str, it_tup_tuple, it_tup_list, it_tup_dict, it_lst_int, it_lst_bool, it_lst_str, it_lst_tuple, it_lst_list, it_lst_dict, it_rol_int, it_rol_bool, it_rol_str, it_rol_tuple, it_rol_list, it_rol_dict]; rfl
          | non => simp only [we_con, we_varm, we_glom, we_bin, we_neg, we_cmp, we_chain, we_and, we_or, we_not, we_ife, we_tup, we_lst, we_ix, we_sl, we_rev, we_call, we_blt, we_isi, we_app, we_lc, wa_nil, wa_cons, wr_nil, wr_cons, wo_none, wo_some, wto_none, wto_some, wt_and, wt_or, wt_not, wt_cmp, wt_chain, wt_tru, wi_seq, wi_range, wi_enum, wg_nm, wg_tup, wg_nil, wg_cons, wg_sub, wp_ok, wp_bad, wp_nox, wb_add, wb_sub, wb_mul, wb_fdiv, wb_mod, wb_pow, wc_eq, wc_ne, wc_lt, wc_le, wc_gt, wc_ge, wc_eqb, wc_neb, wc_eqs, wc_nes, wx_int, wx_lent, wx_lenl, wx_lenr, wz_int, wz_str, wz_bl, wz_non, wz_tup, wz_rol, wz_ref, wz_lst, List.getElem?_cons_zero, List.getElem?_cons_succ, List.set_cons_zero, List.set_cons_succ, List.length_cons, List.length_nil, wi_tup, wi_lst, wi_rol, wx_tuplel, wx_tuplet, wx_listt, wto_some, hdq, hqc, ite_f, ite_tt, decide_eq_true_eq, Bool.not_eq_true', wisT, ex_bl, ex_int, ite_tf, ite_ff, wix0, wix1, wix2, Nat.reduceAdd, Nat.reduceLT, sl0, sl1, sl2, sl3, sl4, sl5, sl6, sl10, if_true, true_and, and_true, List.map_cons, List.map_nil, wip, wt_turn, it_non_int, it_non_bool, it_non_str, it_non_tuple, it_non_list, it_non_dict, it_bl_int, it_bl_bool, it_bl_str, it_bl_tuple, it_bl_list, it_bl_dict, it_int_int, it_int_bool, it_int_str, it_int_tuple, it_int_list, it_int_dict, it_str_int, it_str_bool, it_str_str, it_str_tuple, it_str_list, it_str_dict, it_tup_int, it_tup_bool, it_tup_str, it_tup_tuple, it_tup_list, it_tup_dict, it_lst_int, it_lst_bool, it_lst_str, it_lst_tuple, it_lst_list, it_lst_dict, it_rol_int, it_rol_bool, it_rol_str, it_rol_tuple, it_rol_list, it_rol_dict]; rfl
          | bl b => simp only [we_con, we_varm, we_glom, we_bin, we_neg, we_cmp, we_chain, we_and, we_or, we_not, we_ife, we_tup, we_lst, we_ix, we_sl, we_rev, we_call, we_blt, we_isi, we_app, we_lc, wa_nil, wa_cons, wr_nil, wr_cons, wo_none, wo_some, wto_none, wto_some, wt_and, wt_or, wt_not, wt_cmp, wt_chain, wt_tru, wi_seq, wi_range, wi_enum, wg_nm, wg_tup, wg_nil, wg_cons, wg_sub, wp_ok, wp_bad, wp_nox, wb_add, wb_sub, wb_mul, wb_fdiv, wb_mod, wb_pow, wc_eq, wc_ne, wc_lt, wc_le, wc_gt, wc_ge, wc_eqb, wc_neb, wc_eqs, wc_nes, wx_int, wx_lent, wx_lenl, wx_lenr, wz_int, wz_str, wz_bl, wz_non, wz_tup, wz_rol, wz_ref, wz_lst, List.getElem?_cons_zero, List.getElem?_cons_succ, List.set_cons_zero, List.set_cons_succ, List.length_cons, List.length_nil, wi_tup, wi_lst, wi_rol, wx_tuplel, wx_tuplet, wx_listt, wto_some, hdq, hqc, ite_f, ite_tt, decide_eq_true_eq, Bool.not_eq_true', wisT, ex_bl, ex_int, ite_tf, ite_ff, wix0, wix1, wix2, Nat.reduceAdd, Nat.reduceLT, sl0, sl1, sl2, sl3, sl4, sl5, sl6, sl10, if_true, true_and, and_true, List.map_cons, List.map_nil, wip, wt_turn, it_non_int, it_non_bool, it_non_str, it_non_tuple, it_non_list, it_non_dict, it_bl_int, it_bl_bool, it_bl_str, it_bl_tuple, it_bl_list, it_bl_dict, it_int_int, it_int_bool, it_int_str, it_int_tuple, it_int_list, it_int_dict, it_str_int, it_str_bool, it_str_str, it_str_tuple, it_str_list, it_str_dict, it_tup_int, it_tup_bool, it_tup_str, it_tup_tuple, it_tup_list, it_tup_dict, it_lst_int, it_lst_bool, it_lst_str, it_lst_tuple, it_lst_list, it_lst_dict, it_rol_int, it_rol_bool, it_rol_str, it_rol_tuple, it_rol_list, it_rol_dict]; rfl
          | int b => simp only [we_con, we_varm, we_glom, we_bin, we_neg, we_cmp, we_chain, we_and, we_or, we_not, we_ife, we_tup, we_lst, we_ix, we_sl, we_rev, we_call, we_blt, we_isi, we_app, we_lc, wa_nil, wa_cons, wr_nil, wr_cons, wo_none, wo_some, wto_none, wto_some, wt_and, wt_or, wt_not, wt_cmp, wt_chain, wt_tru, wi_seq, wi_range, wi_enum, wg_nm, wg_tup, wg_nil, wg_cons, wg_sub, wp_ok, wp_bad, wp_nox, wb_add, wb_sub, wb_mul, wb_fdiv, wb_mod, wb_pow, wc_eq, wc_ne, wc_lt, wc_le, wc_gt, wc_ge, wc_eqb, wc_neb, wc_eqs, wc_nes, wx_int, wx_lent, wx_lenl, wx_lenr, wz_int, wz_str, wz_bl, wz_non, wz_tup, wz_rol, wz_ref, wz_lst, List.getElem?_cons_zero, List.getElem?_cons_succ, List.set_cons_zero, List.set_cons_succ, List.length_cons, List.length_nil, wi_tup, wi_lst, wi_rol, wx_tuplel, wx_tuplet, wx_listt, wto_some, hdq, hqc, ite_f, ite_tt, decide_eq_true_eq, Bool.not_eq_true', wisT, ex_bl, ex_int, ite_tf, ite_ff, wix0, wix1, wix2, Nat.reduceAdd, Nat.reduceLT, sl0, sl1, sl2, sl3, sl4, sl5, sl6, sl10, if_true, true_and, and_true, List.map_cons, List.map_nil, wip, wt_turn, it_non_int, it_non_bool, it_non_str, it_non_tuple, it_non_list, it_non_dict, it_bl_int, it_bl_bool, it_bl_str, it_bl_tuple, it_bl_list, it_bl_dict, it_int_int, it_int_bool, it_int_str, it_int_tuple, it_int_list, it_int_dict, it_str_int, it_str_bool, it_str_str, it_str_tuple, it_str_list, it_str_dict, it_tup_int, it_tup_bool, it_tup_str, it_tup_tuple, it_tup_list, it_tup_dict, it_lst_int, it_lst_bool, it_lst_str, it_lst_tuple, it_lst_list, it_lst_dict, it_rol_int, it_rol_bool, it_rol_str, it_rol_tuple, it_rol_list, it_rol_dict]; rfl
          | str b => simp only [we_con, we_varm, we_glom, we_bin, we_neg, we_cmp, we_chain, we_and, we_or, we_not, we_ife, we_tup, we_lst, we_ix, we_sl, we_rev, we_call, we_blt, we_isi, we_app, we_lc, wa_nil, wa_cons, wr_nil, wr_cons, wo_none, wo_some, wto_none, wto_some, wt_and, wt_or, wt_not, wt_cmp, wt_chain, wt_tru, wi_seq, wi_range, wi_enum, wg_nm, wg_tup, wg_nil, wg_cons, wg_sub, wp_ok, wp_bad, wp_nox, wb_add, wb_sub, wb_mul, wb_fdiv, wb_mod, wb_pow, wc_eq, wc_ne, wc_lt, wc_le, wc_gt, wc_ge, wc_eqb, wc_neb, wc_eqs, wc_nes, wx_int, wx_lent, wx_lenl, wx_lenr, wz_int, wz_str, wz_bl, wz_non, wz_tup, wz_rol, wz_ref, wz_lst, List.getElem?_cons_zero, List.getElem?_cons_succ, List.set_cons_zero, List.set_cons_succ, List.length_cons, List.length_nil, wi_tup, wi_lst, wi_rol, wx_tuplel, wx_tuplet, wx_listt, wto_some, hdq, hqc, ite_f, ite_tt, decide_eq_true_eq, Bool.not_eq_true', wisT, ex_bl, ex_int, ite_tf, ite_ff, wix0, wix1, wix2, Nat.reduceAdd, Nat.reduceLT, sl0, sl1, sl2, sl3, sl4, sl5, sl6, sl10, if_true, true_and, and_true, List.map_cons, List.map_nil, wip, wt_turn, it_non_int, it_non_bool, it_non_str, it_non_tuple, it_non_list, it_non_dict, it_bl_int, it_bl_bool, it_bl_str, it_bl_tuple, it_bl_list, it_bl_dict, it_int_int, it_int_bool, it_int_str, it_int_tuple, it_int_list, it_int_dict, it_str_int, it_str_bool, it_str_str, it_str_tuple, it_str_list, it_str_dict, it_tup_int, it_tup_bool, it_tup_str, it_tup_tuple, it_tup_list, it_tup_dict, it_lst_int, it_lst_bool, it_lst_str, it_lst_tuple, it_lst_list, it_lst_dict, it_rol_int, it_rol_bool, it_rol_str, it_rol_tuple, it_rol_list, it_rol_dict]; rfl
          | _ => exact nomatch hy
        | non => simp only [we_con, we_varm, we_glom, we_bin, we_neg, we_cmp, we_chain, we_and, we_or, we_not, we_ife, we_tup, we_lst, we_ix, we_sl, we_rev, we_call, we_blt, we_isi, we_app, we_lc, wa_nil, wa_cons, wr_nil, wr_cons, wo_none, wo_some, wto_none, wto_some, wt_and, wt_or, wt_not, wt_cmp, wt_chain, wt_tru, wi_seq, wi_range, wi_enum, wg_nm, wg_tup, wg_nil, wg_cons, wg_sub, wp_ok, wp_bad, wp_nox, wb_add, wb_sub, wb_mul, wb_fdiv, wb_mod, wb_pow, wc_eq, wc_ne, wc_lt, wc_le, wc_gt, wc_ge, wc_eqb, wc_neb, wc_eqs, wc_nes, wx_int, wx_lent, wx_lenl, wx_lenr, wz_int, wz_str, wz_bl, wz_non, wz_tup, wz_rol, wz_ref, wz_lst, List.getElem?_cons_zero, List.getElem?_cons_succ, List.set_cons_zero, List.set_cons_succ, List.length_cons, List.length_nil, wi_tup, wi_lst, wi_rol, wx_tuplel, wx_tuplet, wx_listt, wto_some, hdq, hqc, ite_f, ite_tt, decide_eq_true_eq, Bool.not_eq_true', wisT, ex_bl, ex_int, ite_tf, ite_ff, wix0, wix1, wix2, Nat.reduceAdd, Nat.reduceLT, sl0, sl1, sl2, sl3, sl4, sl5, sl6, sl10, if_true, true_and, and_true, List.map_cons, List.map_nil, wip, wt_turn, it_non_int, it_non_bool, it_non_str, it_non_tuple, it_non_list, it_non_dict, it_bl_int, it_bl_bool, it_bl_str, it_bl_tuple, it_bl_list, it_bl_dict, it_int_int, it_int_bool, it_int_str, it_int_tuple, it_int_list, it_int_dict, it_str_int, it_str_bool, it_str_str, it_str_tuple, it_str_list, it_str_dict, it_tup_int, it_tup_bool, it_tup_str, it_tup_tuple, it_tup_list, it_tup_dict, it_lst_int, it_lst_bool, it_lst_str, it_lst_tuple, it_lst_list, it_lst_dict, it_rol_int, it_rol_bool, it_rol_str, it_rol_tuple, it_rol_list, it_rol_dict, D.isInt]; rfl
        | bl b => simp only [we_con, we_varm, we_glom, we_bin, we_neg, we_cmp, we_chain, we_and, we_or, we_not, we_ife, we_tup, we_lst, we_ix, we_sl, we_rev, we_call, we_blt, we_isi, we_app, we_lc, wa_nil, wa_cons, wr_nil, wr_cons, wo_none, wo_some, wto_none, wto_some, wt_and, wt_or, wt_not, wt_cmp, wt_chain, wt_tru, wi_seq, wi_range, wi_enum, wg_nm, wg_tup, wg_nil, wg_cons, wg_sub, wp_ok, wp_bad, wp_nox, wb_add, wb_sub, wb_mul, wb_fdiv, wb_mod, wb_pow, wc_eq, wc_ne, wc_lt, wc_le, wc_gt, wc_ge, wc_eqb, wc_neb, wc_eqs, wc_nes, wx_int, wx_lent, wx_lenl, wx_lenr, wz_int, wz_str, wz_bl, wz_non, wz_tup, wz_rol, wz_ref, wz_lst, List.getElem?_cons_zero, List.getElem?_cons_succ, List.set_cons_zero, List.set_cons_succ, List.length_cons, List.length_nil, wi_tup, wi_lst, wi_rol, wx_tuplel, wx_tuplet, wx_listt, wto_some, hdq, hqc, ite_f, ite_tt, decide_eq_true_eq, Bool.not_eq_true', wisT, ex_bl, ex_int, ite_tf, ite_ff, wix0, wix1, wix2, Nat.reduceAdd, Nat.reduceLT, sl0, sl1, sl2, sl3, sl4, sl5, sl6, sl10, if_true, true_and, and_true, List.map_cons, List.map_nil, wip, wt_turn, it_non_int, it_non_bool, it_non_str, it_non_tuple, it_non_list, it_non_dict, it_bl_int, it_bl_bool, it_bl_str, it_bl_tuple, it_bl_list, it_bl_dict, it_int_int, it_int_bool, it_int_str, it_int_tuple, it_int_list, it_int_dict, it_str_int, it_str_bool, it_str_str, it_str_tuple, it_str_list, it_str_dict, it_tup_int, it_tup_bool, it_tup_str, it_tup_tuple, it_tup_list, it_tup_dict, it_lst_int, it_lst_bool, it_lst_str, it_lst_tuple, it_lst_list, it_lst_dict, it_rol_int, it_rol_bool, it_rol_str, it_rol_tuple, it_rol_list, it_rol_dict, D.isInt]; rfl
        | str b => simp only [we_con, we_varm, we_glom, we_bin, we_neg, we_cmp, we_chain, we_and, we_or, we_not, we_ife, we_tup, we_lst, we_ix, we_sl, we_rev, we_call, we_blt, we_isi, we_app, we_lc, wa_nil, wa_cons, wr_nil, wr_cons, wo_none, wo_some, wto_none, wto_some, wt_and, wt_or, wt_not, wt_cmp, wt_chain, wt_tru, wi_seq, wi_range, wi_enum, wg_nm, wg_tup, wg_nil, wg_cons, wg_sub, wp_ok, wp_bad, wp_nox, wb_add, wb_sub, wb_mul, wb_fdiv, wb_mod, wb_pow, wc_eq, wc_ne, wc_lt, wc_le, wc_gt, wc_ge, wc_eqb, wc_neb, wc_eqs, wc_nes, wx_int, wx_lent, wx_lenl, wx_lenr, wz_int, wz_str, wz_bl, wz_non, wz_tup, wz_rol, wz_ref, wz_lst, List.getElem?_cons_zero, List.getElem?_cons_succ, List.set_cons_zero, List.set_cons_succ, List.length_cons, List.length_nil, wi_tup, wi_lst, wi_rol, wx_tuplel, wx_tuplet, wx_listt, wto_some, hdq, hqc, ite_f, ite_tt, decide_eq_true_eq, Bool.not_eq_true', wisT, ex_bl, ex_int, ite_tf, ite_ff, wix0, wix1, wix2, Nat.reduceAdd, Nat.reduceLT, sl0, sl1, sl2, sl3, sl4, sl5, sl6, sl10, if_true, true_and, and_true, List.map_cons, List.map_nil, wip, wt_turn, it_non_int, it_non_bool, it_non_str, it_non_tuple, it_non_list, it_non_dict, it_bl_int, it_bl_bool, it_bl_str, it_bl_tuple, it_bl_list, it_bl_dict, it_int_int, it_int_bool, it_int_str, it_int_tuple, it_int_list, it_int_dict, it_str_int, it_str_bool, it_str_str, it_str_tuple, it_str_list, it_str_dict, it_tup_int, it_tup_bool, it_tup_str, it_tup_tuple, it_tup_list, it_tup_dict, it_lst_int, it_lst_bool, it_lst_str, it_lst_tuple, it_lst_list, it_lst_dict, it_rol_int, it_rol_bool, it_rol_str, it_rol_tuple, it_rol_list, it_rol_dict, D.isInt]; rfl
        | tup b => simp only [we_con, we_varm, we_glom, we_bin, we_neg, we_cmp, we_chain, we_and, we_or, we_not, we_ife, we_tup, we_lst, we_ix, we_sl, we_rev, we_call, we_blt, we_isi, we_app, we_lc, wa_nil, wa_cons, wr_nil, wr_cons, wo_none, wo_some, wto_none, wto_some, wt_and, wt_or, wt_not, wt_cmp, wt_chain, wt_tru, wi_seq, wi_range, wi_enum, wg_nm, wg_tup, wg_nil, wg_cons, wg_sub, wp_ok, wp_bad, wp_nox, wb_add, wb_sub, wb_mul, wb_fdiv, wb_mod, wb_pow, wc_eq, wc_ne, wc_lt, wc_le, wc_gt, wc_ge, wc_eqb, wc_neb, wc_eqs, wc_nes, wx_int, wx_lent, wx_lenl, wx_lenr, wz_int, wz_str, wz_bl, wz_non, wz_tup, wz_rol, wz_ref, wz_lst, List.getElem?_cons_zero, List.getElem?_cons_succ, List.set_cons_zero, List.set_cons_succ, List.length_cons, List.length_nil, wi_tup, wi_lst, wi_rol, wx_tuplel, wx_tuplet, wx_listt, wto_some, hdq, hqc, ite_f, ite_tt, decide_eq_true_eq, Bool.not_eq_true', wisT, ex_bl, ex_int, ite_tf, ite_ff, wix0, wix1, wix2, Nat.reduceAdd, Nat.reduceLT, sl0, sl1, sl2, sl3, sl4, sl5, sl6, sl10, if_true, true_and, and_true, List.map_cons, List.map_nil, wip, wt_turn, it_non_int, it_non_bool, it_non_str, it_non_tuple, it_non_list, it_non_dict, it_bl_int, it_bl_bool, it_bl_str, it_bl_tuple, it_bl_list, it_bl_dict, it_int_int, it_int_bool, it_int_str, it_int_tuple, it_int_list, it_int_dict, it_str_int, it_str_bool, it_str_str, it_str_tuple, it_str_list, it_str_dict, it_tup_int, it_tup_bool, it_tup_str, it_tup_tuple, it_tup_list, it_tup_dict, it_lst_int, it_lst_bool, it_lst_str, it_lst_tuple, it_lst_list, it_lst_dict, it_rol_int, it_rol_bool, it_rol_str, it_rol_tuple, it_rol_list, it_rol_dict, D.isInt]; rfl
        | _ => exact nomatch hx
      | [], _ => simp only [we_con, we_varm, we_glom, we_bin, we_neg, we_cmp, we_chain, we_and, we_or, we_not, we_ife, we_tup, we_lst, we_ix, we_sl, we_rev, we_call, we_blt, we_isi, we_app, we_lc, wa_nil, wa_cons, wr_nil, wr_cons, wo_none, wo_some, wto_none, wto_some, wt_and, wt_or, wt_not, wt_cmp, wt_chain, wt_tru, wi_seq, wi_range, wi_enum, wg_nm, wg_tup, wg_nil, wg_cons, wg_sub, wp_ok, wp_bad, wp_nox, wb_add, wb_sub, wb_mul, wb_fdiv, wb_mod, wb_pow, wc_eq, wc_ne, wc_lt, wc_le, wc_gt, wc_ge, wc_eqb, wc_neb, wc_eqs, wc_nes, wx_int, wx_lent, wx_lenl, wx_lenr, wz_int, wz_str, wz_bl, wz_non, wz_tup, wz_rol, wz_ref, wz_lst, List.getElem?_cons_zero, List.getElem?_cons_succ, List.set_cons_zero, List.set_cons_succ, List.length_cons, List.length_nil, wi_tup, wi_lst, wi_rol, wx_tuplel, wx_tuplet, wx_listt, wto_some, hdq, hqc, ite_f, ite_tt, decide_eq_true_eq, Bool.not_eq_true', wisT, ex_bl, ex_int, ite_tf, ite_ff, wix0, wix1, wix2, Nat.reduceAdd, Nat.reduceLT, sl0, sl1, sl2, sl3, sl4, sl5, sl6, sl10, if_true, true_and, and_true, List.map_cons, List.map_nil, wip, wt_turn, it_non_int, it_non_bool, it_non_str, it_non_tuple, it_non_list, it_non_dict, it_bl_int, it_bl_bool, it_bl_str, it_bl_tuple, it_bl_list, it_bl_dict, it_int_int, it_int_bool, it_int_str, it_int_tuple, it_int_list, it_int_dict, it_str_int, it_str_bool, it_str_str, it_str_tuple, it_str_list, it_str_dict, it_tup_int, it_tup_bool, it_tup_str, it_tup_tuple, it_tup_list, it_tup_dict, it_lst_int, it_lst_bool, it_lst_str, it_lst_tuple, it_lst_list, it_lst_dict, it_rol_int, it_rol_bool, it_rol_str, it_rol_tuple, it_rol_list, it_rol_dict]; rw [if_pos (by simp)]; simp [form]
      | [_], _ => simp only [we_con, we_varm, we_glom, we_bin, we_neg, we_cmp, we_chain, we_and, we_or, we_not, we_ife, we_tup, we_lst, we_ix, we_sl, we_rev, we_call, we_blt, we_isi, we_app, we_lc, wa_nil, wa_cons, wr_nil, wr_cons, wo_none, wo_some, wto_none, wto_some, wt_and, wt_or, wt_not, wt_cmp, wt_chain, wt_tru, wi_seq, wi_range, wi_enum, wg_nm, wg_tup, wg_nil, wg_cons, wg_sub, wp_ok, wp_bad, wp_nox, wb_add, wb_sub, wb_mul, wb_fdiv, wb_mod, wb_pow, wc_eq, wc_ne, wc_lt, wc_le, wc_gt, wc_ge, wc_eqb, wc_neb, wc_eqs, wc_nes, wx_int, wx_lent, wx_lenl, wx_lenr, wz_int, wz_str, wz_bl, wz_non, wz_tup, wz_rol, wz_ref, wz_lst, List.getElem?_cons_zero, List.getElem?_cons_succ, List.set_cons_zero, List.set_cons_succ, List.length_cons, List.length_nil, wi_tup, wi_lst, wi_rol, wx_tuplel, wx_tuplet, wx_listt, wto_some, hdq, hqc, ite_f, ite_tt, decide_eq_true_eq, Bool.not_eq_true', wisT, ex_bl, ex_int, ite_tf, ite_ff, wix0, wix1, wix2, Nat.reduceAdd, Nat.reduceLT, sl0, sl1, sl2, sl3, sl4, sl5, sl6, sl10, if_true, true_and, and_true, List.map_cons, List.map_nil, wip, wt_turn, it_non_int, it_non_bool, it_non_str, it_non_tuple, it_non_list, it_non_dict, it_bl_int, it_bl_bool, it_bl_str, it_bl_tuple, it_bl_list, it_bl_dict, it_int_int, it_int_bool, it_int_str, it_int_tuple, it_int_list, it_int_dict, it_str_int, it_str_bool, it_str_str, it_str_tuple, it_str_list, it_str_dict, it_tup_int, it_tup_bool, it_tup_str, it_tup_tuple, it_tup_list, it_tup_dict, it_lst_int, it_lst_bool, it_lst_str, it_lst_tuple, it_lst_list, it_lst_dict, it_rol_int, it_rol_bool, it_rol_str, it_rol_tuple, it_rol_list, it_rol_dict]; rw [if_pos (by simp)]; simp [form]
      | [_, _], _ => simp only [we_con, we_varm, we_glom, we_bin, we_neg, we_cmp, we_chain, we_and, we_or, we_not, we_ife, we_tup, we_lst, we_ix, we_sl, we_rev, we_call, we_blt, we_isi, we_app, we_lc, wa_nil, wa_cons, wr_nil, wr_cons, wo_none, wo_some, wto_none, wto_some, wt_and, wt_or, wt_not, wt_cmp, wt_chain, wt_tru, wi_seq, wi_range, wi_enum, wg_nm, wg_tup, wg_nil, wg_cons, wg_sub, wp_ok, wp_bad, wp_nox, wb_add, wb_sub, wb_mul, wb_fdiv, wb_mod, wb_pow, wc_eq, wc_ne, wc_lt, wc_le, wc_gt, wc_ge, wc_eqb, wc_neb, wc_eqs, wc_nes, wx_int, wx_lent, wx_lenl, wx_lenr, wz_int, wz_str, wz_bl, wz_non, wz_tup, wz_rol, wz_ref, wz_lst, List.getElem?_cons_zero, List.getElem?_cons_succ, List.set_cons_zero, List.set_cons_succ, List.length_cons, List.length_nil, wi_tup, wi_lst, wi_rol, wx_tuplel, wx_tuplet, wx_listt, wto_some, hdq, hqc, ite_f, ite_tt, decide_eq_true_eq, Bool.not_eq_true', wisT, ex_bl, ex_int, ite_tf, ite_ff, wix0, wix1, wix2, Nat.reduceAdd, Nat.reduceLT, sl0, sl1, sl2, sl3, sl4, sl5, sl6, sl10, if_true, true_and, and_true, List.map_cons, List.map_nil, wip, wt_turn, it_non_int, it_non_bool, it_non_str, it_non_tuple, it_non_list, it_non_dict, it_bl_int, it_bl_bool, it_bl_str, it_bl_tuple, it_bl_list, it_bl_dict, it_int_int, it_int_bool, it_int_str, it_int_tuple, it_int_list, it_int_dict, it_str_int, it_str_bool, it_str_str, it_str_tuple, it_str_list, it_str_dict, it_tup_int, it_tup_bool, it_tup_str, it_tup_tuple, it_tup_list, it_tup_dict, it_lst_int, it_lst_bool, it_lst_str, it_lst_tuple, it_lst_list, it_lst_dict, it_rol_int, it_rol_bool, it_rol_str, it_rol_tuple, it_rol_list, it_rol_dict]; rw [if_pos (by simp)]; simp [form]
      | _ :: _ :: _ :: _ :: _, _ => simp only [we_con, we_varm, we_glom, we_bin, we_neg, we_cmp, we_chain, we_and, we_or, we_not, we_ife, we_tup, we_lst, we_ix, we_sl, we_rev, we_call, we_blt, we_isi, we_app, we_lc, wa_nil, wa_cons, wr_nil, wr_cons, wo_none, wo_some, wto_none, wto_some, wt_and, wt_or, wt_not, wt_cmp, wt_chain, wt_tru, wi_seq, wi_range, wi_enum, wg_nm, wg_tup, wg_nil, wg_cons, wg_sub, wp_ok, wp_bad, wp_nox, wb_add, wb_sub, wb_mul, wb_fdiv, wb_mod, wb_pow, wc_eq, wc_ne, wc_lt, wc_le, wc_gt, wc_ge, wc_eqb, wc_neb, wc_eqs, wc_nes, wx_int, wx_lent, wx_lenl, wx_lenr, wz_int, wz_str, wz_bl, wz_non, wz_tup, wz_rol, wz_ref, wz_lst, List.getElem?_cons_zero, List.getElem?_cons_succ, List.set_cons_zero, List.set_cons_succ, List.length_cons, List.length_nil, wi_tup, wi_lst, wi_rol, wx_tuplel, wx_tuplet, wx_listt, wto_some, hdq, hqc, ite_f, ite_tt, decide_eq_true_eq, Bool.not_eq_true', wisT, ex_bl, ex_int, ite_tf, ite_ff, wix0, wix1, wix2, Nat.reduceAdd, Nat.reduceLT, sl0, sl1, sl2, sl3, sl4, sl5, sl6, sl10, if_true, true_and, and_true, List.map_cons, List.map_nil, wip, wt_turn, it_non_int, it_non_bool, it_non_str, it_non_tuple, it_non_list, it_non_dict, it_bl_int, it_bl_bool, it_bl_str, it_bl_tuple, it_bl_list, it_bl_dict, it_int_int, it_int_bool, it_int_str, it_int_tuple, it_int_list, it_int_dict, it_str_int, it_str_bool, it_str_str, it_str_tuple, it_str_list, it_str_dict, it_tup_int, it_tup_bool, it_tup_str, it_tup_tuple, it_tup_list, it_tup_dict, it_lst_int, it_lst_bool, it_lst_str, it_lst_tuple, it_lst_list, it_lst_dict, it_rol_int, it_rol_bool, it_rol_str, it_rol_tuple, it_rol_list, it_rol_dict]; rw [if_pos (by simp; omega)]; simp [form]
    | non => simp only [we_con, we_varm, we_glom, we_bin, we_neg, we_cmp, we_chain, we_and, we_or, we_not, we_ife, we_tup, we_lst, we_ix, we_sl, we_rev, we_call, we_blt, we_isi, we_app, we_lc, wa_nil, wa_cons, wr_nil, wr_cons, wo_none, wo_some, wto_none, wto_some, wt_and, wt_or, wt_not, wt_cmp, wt_chain, wt_tru, wi_seq, wi_range, wi_enum, wg_nm, wg_tup, wg_nil, wg_cons, wg_sub, wp_ok, wp_bad, wp_nox, wb_add, wb_sub, wb_mul, wb_fdiv, wb_mod, wb_pow, wc_eq, wc_ne, wc_lt, wc_le, wc_gt, wc_ge, wc_eqb, wc_neb, wc_eqs, wc_nes, wx_int, wx_lent, wx_lenl, wx_lenr, wz_int, wz_str, wz_bl, wz_non, wz_tup, wz_rol, wz_ref, wz_lst, List.getElem?_cons_zero, List.getElem?_cons_succ, List.set_cons_zero, List.set_cons_succ, List.length_cons, List.length_nil, wi_tup, wi_lst, wi_rol, wx_tuplel, wx_tuplet, wx_listt, wto_some, hdq, hqc, ite_f, ite_tt, decide_eq_true_eq, Bool.not_eq_true', wisT, ex_bl, ex_int, ite_tf, ite_ff, wix0, wix1, wix2, Nat.reduceAdd, Nat.reduceLT, sl0, sl1, sl2, sl3, sl4, sl5, sl6, sl10, if_true, true_and, and_true, List.map_cons, List.map_nil, wip, wt_turn, it_non_int, it_non_bool, it_non_str, it_non_tuple, it_non_list, it_non_dict, it_bl_int, it_bl_bool, it_bl_str, it_bl_tuple, it_bl_list, it_bl_dict, it_int_int, it_int_bool, it_int_str, it_int_tuple, it_int_list, it_int_dict, it_str_int, it_str_bool, it_str_str, it_str_tuple, it_str_list, it_str_dict, it_tup_int, it_tup_bool, it_tup_str, it_tup_tuple, it_tup_list, it_tup_dict, it_lst_int, it_lst_bool, it_lst_str, it_lst_tuple, it_lst_list, it_lst_dict, it_rol_int, it_rol_bool, it_rol_str, it_rol_tuple, it_rol_list, it_rol_dict]; simp [form]
    | bl b => simp only [we_con, we_varm, we_glom, we_bin, we_neg, we_cmp, we_chain, we_and, we_or, we_not, we_ife, we_tup, we_lst, we_ix, we_sl, we_rev, we_call, we_blt, we_isi, we_app, we_lc, wa_nil, wa_cons, wr_nil, wr_cons, wo_none, wo_some, wto_none, wto_some, wt_and, wt_or, wt_not, wt_cmp, wt_chain, wt_tru, wi_seq, wi_range, wi_enum, wg_nm, wg_tup, wg_nil, wg_cons, wg_sub, wp_ok, wp_bad, wp_nox, wb_add, wb_sub, wb_mul, wb_fdiv, wb_mod, wb_pow, wc_eq, wc_ne, wc_lt, wc_le, wc_gt, wc_ge, wc_eqb, wc_neb, wc_eqs, wc_nes, wx_int, wx_lent, wx_lenl, wx_lenr, wz_int, wz_str, wz_bl, wz_non, wz_tup, wz_rol, wz_ref, wz_lst, List.getElem?_cons_zero, List.getElem?_cons_succ, List.set_cons_zero, List.set_cons_succ, List.length_cons, List.length_nil, wi_tup, wi_lst, wi_rol, wx_tuplel, wx_tuplet, wx_listt, wto_some, hdq, hqc, ite_f, ite_tt, decide_eq_true_eq, Bool.not_eq_true', wisT, ex_bl, ex_int, ite_tf, ite_ff, wix0, wix1, wix2, Nat.reduceAdd, Nat.reduceLT, sl0, sl1, sl2, sl3, sl4, sl5, sl6, sl10, if_true, true_and, and_true, List.map_cons, List.map_nil, wip, wt_turn, it_non_int, it_non_bool, it_non_str, it_non_tuple, it_non_list, it_non_dict, it_bl_int, it_bl_bool, it_bl_str, it_bl_tuple, it_bl_list, it_bl_dict, it_int_int, it_int_bool, it_int_str, it_int_tuple, it_int_list, it_int_dict, it_str_int, it_str_bool, it_str_str, it_str_tuple, it_str_list, it_str_dict, it_tup_int, it_tup_bool, it_tup_str, it_tup_tuple, it_tup_list, it_tup_dict, it_lst_int, it_lst_bool, it_lst_str, it_lst_tuple, it_lst_list, it_lst_dict, it_rol_int, it_rol_bool, it_rol_str, it_rol_tuple, it_rol_list, it_rol_dict]; simp [form]
    | int b => simp only [we_con, we_varm, we_glom, we_bin, we_neg, we_cmp, we_chain, we_and, we_or, we_not, we_ife, we_tup, we_lst, we_ix, we_sl, we_rev, we_call, we_blt, we_isi, we_app, we_lc, wa_nil, wa_cons, wr_nil, wr_cons, wo_none, wo_some, wto_none, wto_some, wt_and, wt_or, wt_not, wt_cmp, wt_chain, wt_tru, wi_seq, wi_range, wi_enum, wg_nm, wg_tup, wg_nil, wg_cons, wg_sub, wp_ok, wp_bad, wp_nox, wb_add, wb_sub, wb_mul, wb_fdiv, wb_mod, wb_pow, wc_eq, wc_ne, wc_lt, wc_le, wc_gt, wc_ge, wc_eqb, wc_neb, wc_eqs, wc_nes, wx_int, wx_lent, wx_lenl, wx_lenr, wz_int, wz_str, wz_bl, wz_non, wz_tup, wz_rol, wz_ref, wz_lst, List.getElem?_cons_zero, List.getElem?_cons_succ, List.set_cons_zero, List.set_cons_succ, List.length_cons, List.length_nil, wi_tup, wi_lst, wi_rol, wx_tuplel, wx_tuplet, wx_listt, wto_some, hdq, hqc, ite_f, ite_tt, decide_eq_true_eq, Bool.not_eq_true', wisT, ex_bl, ex_int, ite_tf, ite_ff, wix0, wix1, wix2, Nat.reduceAdd, Nat.reduceLT, sl0, sl1, sl2, sl3, sl4, sl5, sl6, sl10, if_true, true_and, and_true, List.map_cons, List.map_nil, wip, wt_turn, it_non_int, it_non_bool, it_non_str, it_non_tuple, it_non_list, it_non_dict, it_bl_int, it_bl_bool, it_bl_str, it_bl_tuple, it_bl_list, it_bl_dict, it_int_int, it_int_bool, it_int_str, it_int_tuple, it_int_list, it_int_dict, it_str_int, it_str_bool, it_str_str, it_str_tuple, it_str_list, it_str_dict, it_tup_int, it_tup_bool, it_tup_str, it_tup_tuple, it_tup_list, it_tup_dict, it_lst_int, it_lst_bool, it_lst_str, it_lst_tuple, it_lst_list, it_lst_dict, it_rol_int, it_rol_bool, it_rol_str, it_rol_tuple, it_rol_list, it_rol_dict]; simp [form]
    | str b => simp only [we_con, we_varm, we_glom, we_bin, we_neg, we_cmp, we_chain, we_and, we_or, we_not, we_ife, we_tup, we_lst, we_ix, we_sl, we_rev, we_call, we_blt, we_isi, we_app, we_lc, wa_nil, wa_cons, wr_nil, wr_cons, wo_none, wo_some, wto_none, wto_some, wt_and, wt_or, wt_not, wt_cmp, wt_chain, wt_tru, wi_seq, wi_range, wi_enum, wg_nm, wg_tup, wg_nil, wg_cons, wg_sub, wp_ok, wp_bad, wp_nox, wb_add, wb_sub, wb_mul, wb_fdiv, wb_mod, wb_pow, wc_eq, wc_ne, wc_lt, wc_le, wc_gt, wc_ge, wc_eqb, wc_neb, wc_eqs, wc_nes, wx_int, wx_lent, wx_lenl, wx_lenr, wz_int, wz_str, wz_bl, wz_non, wz_tup, wz_rol, wz_ref, wz_lst, List.getElem?_cons_zero, List.getElem?_cons_succ, List.set_cons_zero, List.set_cons_succ, List.length_cons, List.length_nil, wi_tup, wi_lst, wi_rol, wx_tuplel, wx_tuplet, wx_listt, wto_some, hdq, hqc, ite_f, ite_tt, decide_eq_true_eq, Bool.not_eq_true', wisT, ex_bl, ex_int, ite_tf, ite_ff, wix0, wix1, wix2, Nat.reduceAdd, Nat.reduceLT, sl0, sl1, sl2, sl3, sl4, sl5, sl6, sl10, if_true, true_and, and_true, List.map_cons, List.map_nil, wip, wt_turn, it_non_int, it_non_bool, it_non_str, it_non_tuple, it_non_list, it_non_dict, it_bl_int, it_bl_bool, it_bl_str, it_bl_tuple, it_bl_list, it_bl_dict, it_int_int, it_int_bool, it_int_str, it_int_tuple, it_int_list, it_int_dict, it_str_int, it_str_bool, it_str_str, it_str_tuple, it_str_list, it_str_dict, it_tup_int, it_tup_bool, it_tup_str, it_tup_tuple, it_tup_list, it_tup_dict, it_lst_int, it_lst_bool, it_lst_str, it_lst_tuple, it_lst_list, it_lst_dict, it_rol_int, it_rol_bool, it_rol_str, it_rol_tuple, it_rol_list, it_rol_dict]; simp [form]
    | _ => exact nomatch pv
  cases hf : form v with
  | false =>
    refine ws_take (test1.imp fun b s' z => ⟨by rw [z.1, hf]; rfl, z.2⟩) (leave ?_)
    exact ⟨(fv_no hf).symm, [], (List.append_nil _).symm⟩
  | true =>
  refine ws_skip (test1.imp fun b s' z => ⟨by rw [z.1, hf]; rfl, z.2⟩) ?_
  obtain ⟨a, ps, t, rfl⟩ := form_is hf
  clear test1
  have pps := pl_tup ((pl_tup pv).2 (.tup ps) (by simp))
  have pt := (pl_tup pv).2 t (by simp)
  refine ws_asgs ?_
  simp only [we_con, we_varm, we_glom, we_bin, we_neg, we_cmp, we_chain, we_and, we_or, we_not, we_ife, we_tup, we_lst, we_ix, we_sl, we_rev, we_call, we_blt, we_isi, we_app, we_lc, wa_nil, wa_cons, wr_nil, wr_cons, wo_none, wo_some, wto_none, wto_some, wt_and, wt_or, wt_not, wt_cmp, wt_chain, wt_tru, wi_seq, wi_range, wi_enum, wg_nm, wg_tup, wg_nil, wg_cons, wg_sub, wp_ok, wp_bad, wp_nox, wb_add, wb_sub, wb_mul, wb_fdiv, wb_mod, wb_pow, wc_eq, wc_ne, wc_lt, wc_le, wc_gt, wc_ge, wc_eqb, wc_neb, wc_eqs, wc_nes, wx_int, wx_lent, wx_lenl, wx_lenr, wz_int, wz_str, wz_bl, wz_non, wz_tup, wz_rol, wz_ref, wz_lst, List.getElem?_cons_zero, List.getElem?_cons_succ, List.set_cons_zero, List.set_cons_succ, List.length_cons, List.length_nil, wi_tup, wi_lst, wi_rol, wx_tuplel, wx_tuplet, wx_listt, wto_some, hdq, hqc, ite_f, ite_tt, decide_eq_true_eq, Bool.not_eq_true', wisT, ex_bl, ex_int, ite_tf, ite_ff, wix0, wix1, wix2, Nat.reduceAdd, Nat.reduceLT, sl0, sl1, sl2, sl3, sl4, sl5, sl6, sl10, if_true, true_and, and_true, List.map_cons, List.map_nil, wip, wt_turn, it_non_int, it_non_bool, it_non_str, it_non_tuple, it_non_list, it_non_dict, it_bl_int, it_bl_bool, it_bl_str, it_bl_tuple, it_bl_list, it_bl_dict, it_int_int, it_int_bool, it_int_str, it_int_tuple, it_int_list, it_int_dict, it_str_int, it_str_bool, it_str_str, it_str_tuple, it_str_list, it_str_dict, it_tup_int, it_tup_bool, it_tup_str, it_tup_tuple, it_tup_list, it_tup_dict, it_lst_int, it_lst_bool, it_lst_str, it_lst_tuple, it_lst_list, it_lst_dict, it_rol_int, it_rol_bool, it_rol_str, it_rol_tuple, it_rol_list, it_rol_dict]
  -- its places
  have plen : ps.length ≤ 30 := pps.1
  have tst2 : Wp (runT (cfg.q (k+4)) (.or (.cmp .ne (.lc [(("one" : Str), 4)] (.con (.int 1)) (.nm 4) (.seq (.var 3)) (some (.or (.not (.tru (.call ("_law_whole" : Str) [(.var 4)]))) (.not (.chain .le .lt (.con (.int 0)) (.var 4) (.blt .len [(.var 0)])))))) (.lst [])) (.cmp .ne (.blt .list [(.var 3)]) (.blt .sorted [(.blt .set [(.var 3)])])))
      [some (dRows rows), some (.int (room : Nat)), some (.tup [.int a, .tup ps, t]), some (.tup ps), none, none] s) fun b s' => b = (!(ps.all (okP rows.length) && decide (ntI (ps.map toN) = srt (ps.map toN)))) ∧ s' = s := by
    simp only [we_con, we_varm, we_glom, we_bin, we_neg, we_cmp, we_chain, we_and, we_or, we_not, we_ife, we_tup, we_lst, we_ix, we_sl, we_rev, we_call, we_blt, we_isi, we_app, we_lc, wa_nil, wa_cons, wr_nil, wr_cons, wo_none, wo_some, wto_none, wto_some, wt_and, wt_or, wt_not, wt_cmp, wt_chain, wt_tru, wi_seq, wi_range, wi_enum, wg_nm, wg_tup, wg_nil, wg_cons, wg_sub, wp_ok, wp_bad, wp_nox, wb_add, wb_sub, wb_mul, wb_fdiv, wb_mod, wb_pow, wc_eq, wc_ne, wc_lt, wc_le, wc_gt, wc_ge, wc_eqb, wc_neb, wc_eqs, wc_nes, wx_int, wx_lent, wx_lenl, wx_lenr, wz_int, wz_str, wz_bl, wz_non, wz_tup, wz_rol, wz_ref, wz_lst, List.getElem?_cons_zero, List.getElem?_cons_succ, List.set_cons_zero, List.set_cons_succ, List.length_cons, List.length_nil, wi_tup, wi_lst, wi_rol, wx_tuplel, wx_tuplet, wx_listt, wto_some, hdq, hqc, ite_f, ite_tt, decide_eq_true_eq, Bool.not_eq_true', wisT, ex_bl, ex_int, ite_tf, ite_ff, wix0, wix1, wix2, Nat.reduceAdd, Nat.reduceLT, sl0, sl1, sl2, sl3, sl4, sl5, sl6, sl10, if_true, true_and, and_true, List.map_cons, List.map_nil, wip, wt_turn, it_non_int, it_non_bool, it_non_str, it_non_tuple, it_non_list, it_non_dict, it_bl_int, it_bl_bool, it_bl_str, it_bl_tuple, it_bl_list, it_bl_dict, it_int_int, it_int_bool, it_int_str, it_int_tuple, it_int_list, it_int_dict, it_str_int, it_str_bool, it_str_str, it_str_tuple, it_str_list, it_str_dict, it_tup_int, it_tup_bool, it_tup_str, it_tup_tuple, it_tup_list, it_tup_dict, it_lst_int, it_lst_bool, it_lst_str, it_lst_tuple, it_lst_list, it_lst_dict, it_rol_int, it_rol_bool, it_rol_str, it_rol_tuple, it_rol_list, it_rol_dict]
    refine wl_pure (fun d => if okP rows.length d = true then none else some (.int 1)) rfl (leL (by omega)) (fun d hd => ?_) ?_
    · have pd := pps.2 d hd
      simp only [we_con, we_varm, we_glom, we_bin, we_neg, we_cmp, we_chain, we_and, we_or, we_not, we_ife, we_tup, we_lst, we_ix, we_sl, we_rev, we_call, we_blt, we_isi, we_app, we_lc, wa_nil, wa_cons, wr_nil, wr_cons, wo_none, wo_some, wto_none, wto_some, wt_and, wt_or, wt_not, wt_cmp, wt_chain, wt_tru, wi_seq, wi_range, wi_enum, wg_nm, wg_tup, wg_nil, wg_cons, wg_sub, wp_ok, wp_bad, wp_nox, wb_add, wb_sub, wb_mul, wb_fdiv, wb_mod, wb_pow, wc_eq, wc_ne, wc_lt, wc_le, wc_gt, wc_ge, wc_eqb, wc_neb, wc_eqs, wc_nes, wx_int, wx_lent, wx_lenl, wx_lenr, wz_int, wz_str, wz_bl, wz_non, wz_tup, wz_rol, wz_ref, wz_lst, List.getElem?_cons_zero, List.getElem?_cons_succ, List.set_cons_zero, List.set_cons_succ, List.length_cons, List.length_nil, wi_tup, wi_lst, wi_rol, wx_tuplel, wx_tuplet, wx_listt, wto_some, hdq, hqc, ite_f, ite_tt, decide_eq_true_eq, Bool.not_eq_true', wisT, ex_bl, ex_int, ite_tf, ite_ff, wix0, wix1, wix2, Nat.reduceAdd, Nat.reduceLT, sl0, sl1, sl2, sl3, sl4, sl5, sl6, sl10, if_true, true_and, and_true, List.map_cons, List.map_nil, wip, wt_turn, it_non_int, it_non_bool, it_non_str, it_non_tuple, it_non_list, it_non_dict, it_bl_int, it_bl_bool, it_bl_str, it_bl_tuple, it_bl_list, it_bl_dict, it_int_int, it_int_bool, it_int_str, it_int_tuple, it_int_list, it_int_dict, it_str_int, it_str_bool, it_str_str, it_str_tuple, it_str_list, it_str_dict, it_tup_int, it_tup_bool, it_tup_str, it_tup_tuple, it_tup_list, it_tup_dict, it_lst_int, it_lst_bool, it_lst_str, it_lst_tuple, it_lst_list, it_lst_dict, it_rol_int, it_rol_bool, it_rol_str, it_rol_tuple, it_rol_list, it_rol_dict]
      rw [wz_shr (pl_shr pd), wz_shr (pl_shr pd), w_lwhole2 pd]
      cases d with
      | int i =>
        simp only [we_con, we_varm, we_glom, we_bin, we_neg, we_cmp, we_chain, we_and, we_or, we_not, we_ife, we_tup, we_lst, we_ix, we_sl, we_rev, we_call, we_blt, we_isi, we_app, we_lc, wa_nil, wa_cons, wr_nil, wr_cons, wo_none, wo_some, wto_none, wto_some, wt_and, wt_or, wt_not, wt_cmp, wt_chain, wt_tru, wi_seq, wi_range, wi_enum, wg_nm, wg_tup, wg_nil, wg_cons, wg_sub, wp_ok, wp_bad, wp_nox, wb_add, wb_sub, wb_mul, wb_fdiv, wb_mod, wb_pow, wc_eq, wc_ne, wc_lt, wc_le, wc_gt, wc_ge, wc_eqb, wc_neb, wc_eqs, wc_nes, wx_int, wx_lent, wx_lenl, wx_lenr, wz_int, wz_str, wz_bl, wz_non, wz_tup, wz_rol, wz_ref, wz_lst, List.getElem?_cons_zero, List.getElem?_cons_succ, List.set_cons_zero, List.set_cons_succ, List.length_cons, List.length_nil, wi_tup, wi_lst, wi_rol, wx_tuplel, wx_tuplet, wx_listt, wto_some, hdq, hqc, ite_f, ite_tt, decide_eq_true_eq, Bool.not_eq_true', wisT, ex_bl, ex_int, ite_tf, ite_ff, wix0, wix1, wix2, Nat.reduceAdd, Nat.reduceLT, sl0, sl1, sl2, sl3, sl4, sl5, sl6, sl10, if_true, true_and, and_true, List.map_cons, List.map_nil, wip, wt_turn, it_non_int, it_non_bool, it_non_str, it_non_tuple, it_non_list, it_non_dict, it_bl_int, it_bl_bool, it_bl_str, it_bl_tuple, it_bl_list, it_bl_dict, it_int_int, it_int_bool, it_int_str, it_int_tuple, it_int_list, it_int_dict, it_str_int, it_str_bool, it_str_str, it_str_tuple, it_str_list, it_str_dict, it_tup_int, it_tup_bool, it_tup_str, it_tup_tuple, it_tup_list, it_tup_dict, it_lst_int, it_lst_bool, it_lst_str, it_lst_tuple, it_lst_list, it_lst_dict, it_rol_int, it_rol_bool, it_rol_str, it_rol_tuple, it_rol_list, it_rol_dict, D.isInt, dRows, List.length_map]
        by_cases h : 0 ≤ i
        · by_cases h2 : i < rows.length
          · simp [okP, h, h2]
          · simp [okP, h, h2]
        · simp [okP, h]
      | non => simp only [we_con, we_varm, we_glom, we_bin, we_neg, we_cmp, we_chain, we_and, we_or, we_not, we_ife, we_tup, we_lst, we_ix, we_sl, we_rev, we_call, we_blt, we_isi, we_app, we_lc, wa_nil, wa_cons, wr_nil, wr_cons, wo_none, wo_some, wto_none, wto_some, wt_and, wt_or, wt_not, wt_cmp, wt_chain, wt_tru, wi_seq, wi_range, wi_enum, wg_nm, wg_tup, wg_nil, wg_cons, wg_sub, wp_ok, wp_bad, wp_nox, wb_add, wb_sub, wb_mul, wb_fdiv, wb_mod, wb_pow, wc_eq, wc_ne, wc_lt, wc_le, wc_gt, wc_ge, wc_eqb, wc_neb, wc_eqs, wc_nes, wx_int, wx_lent, wx_lenl, wx_lenr, wz_int, wz_str, wz_bl, wz_non, wz_tup, wz_rol, wz_ref, wz_lst, List.getElem?_cons_zero, List.getElem?_cons_succ, List.set_cons_zero, List.set_cons_succ, List.length_cons, List.length_nil, wi_tup, wi_lst, wi_rol, wx_tuplel, wx_tuplet, wx_listt, wto_some, hdq, hqc, ite_f, ite_tt, decide_eq_true_eq, Bool.not_eq_true', wisT, ex_bl, ex_int, ite_tf, ite_ff, wix0, wix1, wix2, Nat.reduceAdd, Nat.reduceLT, sl0, sl1, sl2, sl3, sl4, sl5, sl6, sl10, if_true, true_and, and_true, List.map_cons, List.map_nil, wip, wt_turn, it_non_int, it_non_bool, it_non_str, it_non_tuple, it_non_list, it_non_dict, it_bl_int, it_bl_bool, it_bl_str, it_bl_tuple, it_bl_list, it_bl_dict, it_int_int, it_int_bool, it_int_str, it_int_tuple, it_int_list, it_int_dict, it_str_int, it_str_bool, it_str_str, it_str_tuple, it_str_list, it_str_dict, it_tup_int, it_tup_bool, it_tup_str, it_tup_tuple, it_tup_list, it_tup_dict, it_lst_int, it_lst_bool, it_lst_str, it_lst_tuple, it_lst_list, it_lst_dict, it_rol_int, it_rol_bool, it_rol_str, it_rol_tuple, it_rol_list, it_rol_dict, D.isInt]; simp [okP]
      | bl b => simp only [we_con, we_varm, we_glom, we_bin, we_neg, we_cmp, we_chain, we_and, we_or, we_not, we_ife, we_tup, we_lst, we_ix, we_sl, we_rev, we_call, we_blt, we_isi, we_app, we_lc, wa_nil, wa_cons, wr_nil, wr_cons, wo_none, wo_some, wto_none, wto_some, wt_and, wt_or, wt_not, wt_cmp, wt_chain, wt_tru, wi_seq, wi_range, wi_enum, wg_nm, wg_tup, wg_nil, wg_cons, wg_sub, wp_ok, wp_bad, wp_nox, wb_add, wb_sub, wb_mul, wb_fdiv, wb_mod, wb_pow, wc_eq, wc_ne, wc_lt, wc_le, wc_gt, wc_ge, wc_eqb, wc_neb, wc_eqs, wc_nes, wx_int, wx_lent, wx_lenl, wx_lenr, wz_int, wz_str, wz_bl, wz_non, wz_tup, wz_rol, wz_ref, wz_lst, List.getElem?_cons_zero, List.getElem?_cons_succ, List.set_cons_zero, List.set_cons_succ, List.length_cons, List.length_nil, wi_tup, wi_lst, wi_rol, wx_tuplel, wx_tuplet, wx_listt, wto_some, hdq, hqc, ite_f, ite_tt, decide_eq_true_eq, Bool.not_eq_true', wisT, ex_bl, ex_int, ite_tf, ite_ff, wix0, wix1, wix2, Nat.reduceAdd, Nat.reduceLT, sl0, sl1, sl2, sl3, sl4, sl5, sl6, sl10, if_true, true_and, and_true, List.map_cons, List.map_nil, wip, wt_turn, it_non_int, it_non_bool, it_non_str, it_non_tuple, it_non_list, it_non_dict, it_bl_int, it_bl_bool, it_bl_str, it_bl_tuple, it_bl_list, it_bl_dict, it_int_int, it_int_bool, it_int_str, it_int_tuple, it_int_list, it_int_dict, it_str_int, it_str_bool, it_str_str, it_str_tuple, it_str_list, it_str_dict, it_tup_int, it_tup_bool, it_tup_str, it_tup_tuple, it_tup_list, it_tup_dict, it_lst_int, it_lst_bool, it_lst_str, it_lst_tuple, it_lst_list, it_lst_dict, it_rol_int, it_rol_bool, it_rol_str, it_rol_tuple, it_rol_list, it_rol_dict, D.isInt]; simp [okP]
      | str b => simp only [we_con, we_varm, we_glom, we_bin, we_neg, we_cmp, we_chain, we_and, we_or, we_not, we_ife, we_tup, we_lst, we_ix, we_sl, we_rev, we_call, we_blt, we_isi, we_app, we_lc, wa_nil, wa_cons, wr_nil, wr_cons, wo_none, wo_some, wto_none, wto_some, wt_and, wt_or, wt_not, wt_cmp, wt_chain, wt_tru, wi_seq, wi_range, wi_enum, wg_nm, wg_tup, wg_nil, wg_cons, wg_sub, wp_ok, wp_bad, wp_nox, wb_add, wb_sub, wb_mul, wb_fdiv, wb_mod, wb_pow, wc_eq, wc_ne, wc_lt, wc_le, wc_gt, wc_ge, wc_eqb, wc_neb, wc_eqs, wc_nes, wx_int, wx_lent, wx_lenl, wx_lenr, wz_int, wz_str, wz_bl, wz_non, wz_tup, wz_rol, wz_ref, wz_lst, List.getElem?_cons_zero, List.getElem?_cons_succ, List.set_cons_zero, List.set_cons_succ, List.length_cons, List.length_nil, wi_tup, wi_lst, wi_rol, wx_tuplel, wx_tuplet, wx_listt, wto_some, hdq, hqc, ite_f, ite_tt, decide_eq_true_eq, Bool.not_eq_true', wisT, ex_bl, ex_int, ite_tf, ite_ff, wix0, wix1, wix2, Nat.reduceAdd, Nat.reduceLT, sl0, sl1, sl2, sl3, sl4, sl5, sl6, sl10, if_true, true_and, and_true, List.map_cons, List.map_nil, wip, wt_turn, it_non_int, it_non_bool, it_non_str, it_non_tuple, it_non_list, it_non_dict, it_bl_int, it_bl_bool, it_bl_str, it_bl_tuple, it_bl_list, it_bl_dict, it_int_int, it_int_bool, it_int_str, it_int_tuple, it_int_list, it_int_dict, it_str_int, it_str_bool, it_str_str, it_str_tuple, it_str_list, it_str_dict, it_tup_int, it_tup_bool, it_tup_str, it_tup_tuple, it_tup_list, it_tup_dict, it_lst_int, it_lst_bool, it_lst_str, it_lst_tuple, it_lst_list, it_lst_dict, it_rol_int, it_rol_bool, it_rol_str, it_rol_tuple, it_rol_list, it_rol_dict, D.isInt]; simp [okP]
      | tup b => simp only [we_con, we_varm, we_glom, we_bin, we_neg, we_cmp, we_chain, we_and, we_or, we_not, we_ife, we_tup, we_lst, we_ix, we_sl, we_rev, we_call, we_blt, we_isi, we_app, we_lc, wa_nil, wa_cons, wr_nil, wr_cons, wo_none, wo_some, wto_none, wto_some, wt_and, wt_or, wt_not, wt_cmp, wt_chain, wt_tru, wi_seq, wi_range, wi_enum, wg_nm, wg_tup, wg_nil, wg_cons, wg_sub, wp_ok, wp_bad, wp_nox, wb_add, wb_sub, wb_mul, wb_fdiv, wb_mod, wb_pow, wc_eq, wc_ne, wc_lt, wc_le, wc_gt, wc_ge, wc_eqb, wc_neb, wc_eqs, wc_nes, wx_int, wx_lent, wx_lenl, wx_lenr, wz_int, wz_str, wz_bl, wz_non, wz_tup, wz_rol, wz_ref, wz_lst, List.getElem?_cons_zero, List.getElem?_cons_succ, List.set_cons_zero, List.set_cons_succ, List.length_cons, List.length_nil, wi_tup, wi_lst, wi_rol, wx_tuplel, wx_tuplet, wx_listt, wto_some, hdq, hqc, ite_f, ite_tt, decide_eq_true_eq, Bool.not_eq_true', wisT, ex_bl, ex_int, ite_tf, ite_ff, wix0, wix1, wix2, Nat.reduceAdd, Nat.reduceLT, sl0, sl1, sl2, sl3, sl4, sl5, sl6, sl10, if_true, true_and, and_true, List.map_cons, List.map_nil, wip, wt_turn, it_non_int, it_non_bool, it_non_str, it_non_tuple, it_non_list, it_non_dict, it_bl_int, it_bl_bool, it_bl_str, it_bl_tuple, it_bl_list, it_bl_dict, it_int_int, it_int_bool, it_int_str, it_int_tuple, it_int_list, it_int_dict, it_str_int, it_str_bool, it_str_str, it_str_tuple, it_str_list, it_str_dict, it_tup_int, it_tup_bool, it_tup_str, it_tup_tuple, it_tup_list, it_tup_dict, it_lst_int, it_lst_bool, it_lst_str, it_lst_tuple, it_lst_list, it_lst_dict, it_rol_int, it_rol_bool, it_rol_str, it_rol_tuple, it_rol_list, it_rol_dict, D.isInt]; simp [okP]
      | _ => exact nomatch pd
    have hfs : ps.filterMap (fun d => if okP rows.length d = true then none else some (D.int 1)) = (ps.filterMap fun d => if okP rows.length d = true then none else some (1 : Int)).map .int := by
      rw [List.map_filterMap]
      refine fm_congr fun d _ => ?_
      split <;> rfl
    have hnil : ((ps.filterMap fun d => if okP rows.length d = true then none else some (1 : Int)) = []) ↔ ps.all (okP rows.length) = true := by
      rw [List.filterMap_eq_nil_iff, List.all_eq_true]
      refine forall_congr' fun d => forall_congr' fun _ => ?_
      by_cases h : okP rows.length d = true
      · simp [h]
      · simp [h]
    rw [hfs]
    generalize (ps.filterMap fun d => if okP rows.length d = true then none else some (1 : Int)) = fs at *
    have wn : ∀ {P : Bool → S → Prop}, Wp (cmpD .ne (.lst (fs.map .int)) (.lst []) s) P = P (!decide (fs = [])) s := fun {P} => wc_nel (b := [])
    rw [wn]
    rw [show decide (fs = []) = ps.all (okP rows.length) from by rw [Bool.eq_iff_iff, decide_eq_true_eq]; exact hnil]
    cases hall : ps.all (okP rows.length) with
    | false => simp only [we_con, we_varm, we_glom, we_bin, we_neg, we_cmp, we_chain, we_and, we_or, we_not, we_ife, we_tup, we_lst, we_ix, we_sl, we_rev, we_call, we_blt, we_isi, we_app, we_lc, wa_nil, wa_cons, wr_nil, wr_cons, wo_none, wo_some, wto_none, wto_some, wt_and, wt_or, wt_not, wt_cmp, wt_chain, wt_tru, wi_seq, wi_range, wi_enum, wg_nm, wg_tup, wg_nil, wg_cons, wg_sub, wp_ok, wp_bad, wp_nox, wb_add, wb_sub, wb_mul, wb_fdiv, wb_mod, wb_pow, wc_eq, wc_ne, wc_lt, wc_le, wc_gt, wc_ge, wc_eqb, wc_neb, wc_eqs, wc_nes, wx_int, wx_lent, wx_lenl, wx_lenr, wz_int, wz_str, wz_bl, wz_non, wz_tup, wz_rol, wz_ref, wz_lst, List.getElem?_cons_zero, List.getElem?_cons_succ, List.set_cons_zero, List.set_cons_succ, List.length_cons, List.length_nil, wi_tup, wi_lst, wi_rol, wx_tuplel, wx_tuplet, wx_listt, wto_some, hdq, hqc, ite_f, ite_tt, decide_eq_true_eq, Bool.not_eq_true', wisT, ex_bl, ex_int, ite_tf, ite_ff, wix0, wix1, wix2, Nat.reduceAdd, Nat.reduceLT, sl0, sl1, sl2, sl3, sl4, sl5, sl6, sl10, if_true, true_and, and_true, List.map_cons, List.map_nil, wip, wt_turn, it_non_int, it_non_bool, it_non_str, it_non_tuple, it_non_list, it_non_dict, it_bl_int, it_bl_bool, it_bl_str, it_bl_tuple, it_bl_list, it_bl_dict, it_int_int, it_int_bool, it_int_str, it_int_tuple, it_int_list, it_int_dict, it_str_int, it_str_bool, it_str_str, it_str_tuple, it_str_list, it_str_dict, it_tup_int, it_tup_bool, it_tup_str, it_tup_tuple, it_tup_list, it_tup_dict, it_lst_int, it_lst_bool, it_lst_str, it_lst_tuple, it_lst_list, it_lst_dict, it_rol_int, it_rol_bool, it_rol_str, it_rol_tuple, it_rol_list, it_rol_dict]; simp
    | true =>
      obtain ⟨hps, _⟩ := okP_is hall
      have hps2 : ps = (ntI (ps.map toN)).map .int := by
        unfold ntI
        rw [List.map_map]
        exact hps
      have hlen : (ntI (ps.map toN)).length ≤ 60 := by unfold ntI; simp; omega
      unfold srt
      generalize ntI (ps.map toN) = zs at *
      rw [if_neg (by decide)]
      rw [hps2, wx_set hlen, wx_srt hlen, wc_nel]
      exact ⟨by rw [Bool.true_and], rfl⟩
  cases hall : ps.all (okP rows.length) with
  | false =>
    refine ws_take (tst2.imp fun b s' z => ⟨by rw [z.1, hall]; rfl, z.2⟩) (leave ?_)
    refine ⟨?_, [], (List.append_nil _).symm⟩
    show _ = if ps.all (okP rows.length) = true then _ else _
    rw [if_neg (by rw [hall]; decide)]
  | true =>
  have hfv : fv rows room (.tup [.int a, .tup ps, t]) = fRest rows room a (ps.map toN) t := if_pos hall
  rw [hfv]
  obtain ⟨hps, hlt⟩ := okP_is hall
  have hns : (ps.map toN).length ≤ 30 := by simpa using plen
  rw [hall] at tst2
  clear hall hfv
  generalize ps.map toN = ns at *
  subst hps
  by_cases hs : ntI ns = srt ns
  rotate_left
  · refine ws_take (tst2.imp fun b s' z => ⟨by rw [z.1, decide_eq_false hs]; rfl, z.2⟩) (leave ?_)
    refine ⟨?_, [], (List.append_nil _).symm⟩
    unfold fRest
    rw [if_pos hs]
  refine ws_skip (tst2.imp fun b s' z => ⟨by rw [z.1, decide_eq_true hs]; rfl, z.2⟩) ?_
  clear tst2
  -- the room
  have tst3 : Wp (runT (cfg.q (k+4)) (.cmp .gt (.blt .sum [(.lc [(("k" : Str), 5)] (.ix (.ix (.var 0) (.var 5)) (.con (.int 0))) (.nm 5) (.seq (.var 3)) none)]) (.var 1))
      [some (dRows rows), some (.int (room : Nat)), some (.tup [.int a, .tup (ns.map fun (k : Nat) => D.int (k : Int)), t]), some (.tup (ns.map fun (k : Nat) => D.int (k : Int))), none, none] s) fun b s' => b = decide ((room : Int) < sumS rows ns) ∧ s' = s := by
    simp only [we_con, we_varm, we_glom, we_bin, we_neg, we_cmp, we_chain, we_and, we_or, we_not, we_ife, we_tup, we_lst, we_ix, we_sl, we_rev, we_call, we_blt, we_isi, we_app, we_lc, wa_nil, wa_cons, wr_nil, wr_cons, wo_none, wo_some, wto_none, wto_some, wt_and, wt_or, wt_not, wt_cmp, wt_chain, wt_tru, wi_seq, wi_range, wi_enum, wg_nm, wg_tup, wg_nil, wg_cons, wg_sub, wp_ok, wp_bad, wp_nox, wb_add, wb_sub, wb_mul, wb_fdiv, wb_mod, wb_pow, wc_eq, wc_ne, wc_lt, wc_le, wc_gt, wc_ge, wc_eqb, wc_neb, wc_eqs, wc_nes, wx_int, wx_lent, wx_lenl, wx_lenr, wz_int, wz_str, wz_bl, wz_non, wz_tup, wz_rol, wz_ref, wz_lst, List.getElem?_cons_zero, List.getElem?_cons_succ, List.set_cons_zero, List.set_cons_succ, List.length_cons, List.length_nil, wi_tup, wi_lst, wi_rol, wx_tuplel, wx_tuplet, wx_listt, wto_some, hdq, hqc, ite_f, ite_tt, decide_eq_true_eq, Bool.not_eq_true', wisT, ex_bl, ex_int, ite_tf, ite_ff, wix0, wix1, wix2, Nat.reduceAdd, Nat.reduceLT, sl0, sl1, sl2, sl3, sl4, sl5, sl6, sl10, if_true, true_and, and_true, List.map_cons, List.map_nil, wip, wt_turn, it_non_int, it_non_bool, it_non_str, it_non_tuple, it_non_list, it_non_dict, it_bl_int, it_bl_bool, it_bl_str, it_bl_tuple, it_bl_list, it_bl_dict, it_int_int, it_int_bool, it_int_str, it_int_tuple, it_int_list, it_int_dict, it_str_int, it_str_bool, it_str_str, it_str_tuple, it_str_list, it_str_dict, it_tup_int, it_tup_bool, it_tup_str, it_tup_tuple, it_tup_list, it_tup_dict, it_lst_int, it_lst_bool, it_lst_str, it_lst_tuple, it_lst_list, it_lst_dict, it_rol_int, it_rol_bool, it_rol_str, it_rol_tuple, it_rol_list, it_rol_dict]
    refine wl_mm (fun (k : Nat) => D.int (k : Int)) (fun k => .int ((rows.getD k (0, 0)).1 : Nat)) rfl (leL (by omega)) (fun i hi => ?_) ?_
    · simp only [we_con, we_varm, we_glom, we_bin, we_neg, we_cmp, we_chain, we_and, we_or, we_not, we_ife, we_tup, we_lst, we_ix, we_sl, we_rev, we_call, we_blt, we_isi, we_app, we_lc, wa_nil, wa_cons, wr_nil, wr_cons, wo_none, wo_some, wto_none, wto_some, wt_and, wt_or, wt_not, wt_cmp, wt_chain, wt_tru, wi_seq, wi_range, wi_enum, wg_nm, wg_tup, wg_nil, wg_cons, wg_sub, wp_ok, wp_bad, wp_nox, wb_add, wb_sub, wb_mul, wb_fdiv, wb_mod, wb_pow, wc_eq, wc_ne, wc_lt, wc_le, wc_gt, wc_ge, wc_eqb, wc_neb, wc_eqs, wc_nes, wx_int, wx_lent, wx_lenl, wx_lenr, wz_int, wz_str, wz_bl, wz_non, wz_tup, wz_rol, wz_ref, wz_lst, List.getElem?_cons_zero, List.getElem?_cons_succ, List.set_cons_zero, List.set_cons_succ, List.length_cons, List.length_nil, wi_tup, wi_lst, wi_rol, wx_tuplel, wx_tuplet, wx_listt, wto_some, hdq, hqc, ite_f, ite_tt, decide_eq_true_eq, Bool.not_eq_true', wisT, ex_bl, ex_int, ite_tf, ite_ff, wix0, wix1, wix2, Nat.reduceAdd, Nat.reduceLT, sl0, sl1, sl2, sl3, sl4, sl5, sl6, sl10, if_true, true_and, and_true, List.map_cons, List.map_nil, wip, wt_turn, it_non_int, it_non_bool, it_non_str, it_non_tuple, it_non_list, it_non_dict, it_bl_int, it_bl_bool, it_bl_str, it_bl_tuple, it_bl_list, it_bl_dict, it_int_int, it_int_bool, it_int_str, it_int_tuple, it_int_list, it_int_dict, it_str_int, it_str_bool, it_str_str, it_str_tuple, it_str_list, it_str_dict, it_tup_int, it_tup_bool, it_tup_str, it_tup_tuple, it_tup_list, it_tup_dict, it_lst_int, it_lst_bool, it_lst_str, it_lst_tuple, it_lst_list, it_lst_dict, it_rol_int, it_rol_bool, it_rol_str, it_rol_tuple, it_rol_list, it_rol_dict]
      rw [dRow_getD (hlt i hi)]
      simp only [dRow, we_con, we_varm, we_glom, we_bin, we_neg, we_cmp, we_chain, we_and, we_or, we_not, we_ife, we_tup, we_lst, we_ix, we_sl, we_rev, we_call, we_blt, we_isi, we_app, we_lc, wa_nil, wa_cons, wr_nil, wr_cons, wo_none, wo_some, wto_none, wto_some, wt_and, wt_or, wt_not, wt_cmp, wt_chain, wt_tru, wi_seq, wi_range, wi_enum, wg_nm, wg_tup, wg_nil, wg_cons, wg_sub, wp_ok, wp_bad, wp_nox, wb_add, wb_sub, wb_mul, wb_fdiv, wb_mod, wb_pow, wc_eq, wc_ne, wc_lt, wc_le, wc_gt, wc_ge, wc_eqb, wc_neb, wc_eqs, wc_nes, wx_int, wx_lent, wx_lenl, wx_lenr, wz_int, wz_str, wz_bl, wz_non, wz_tup, wz_rol, wz_ref, wz_lst, List.getElem?_cons_zero, List.getElem?_cons_succ, List.set_cons_zero, List.set_cons_succ, List.length_cons, List.length_nil, wi_tup, wi_lst, wi_rol, wx_tuplel, wx_tuplet, wx_listt, wto_some, hdq, hqc, ite_f, ite_tt, decide_eq_true_eq, Bool.not_eq_true', wisT, ex_bl, ex_int, ite_tf, ite_ff, wix0, wix1, wix2, Nat.reduceAdd, Nat.reduceLT, sl0, sl1, sl2, sl3, sl4, sl5, sl6, sl10, if_true, true_and, and_true, List.map_cons, List.map_nil, wip, wt_turn, it_non_int, it_non_bool, it_non_str, it_non_tuple, it_non_list, it_non_dict, it_bl_int, it_bl_bool, it_bl_str, it_bl_tuple, it_bl_list, it_bl_dict, it_int_int, it_int_bool, it_int_str, it_int_tuple, it_int_list, it_int_dict, it_str_int, it_str_bool, it_str_str, it_str_tuple, it_str_list, it_str_dict, it_tup_int, it_tup_bool, it_tup_str, it_tup_tuple, it_tup_list, it_tup_dict, it_lst_int, it_lst_bool, it_lst_str, it_lst_tuple, it_lst_list, it_lst_dict, it_rol_int, it_rol_bool, it_rol_str, it_rol_tuple, it_rol_list, it_rol_dict]
    · rw [show ns.map (fun k => D.int ((rows.getD k (0, 0)).1 : Nat)) = (ns.map fun k => (((rows.getD k (0, 0)).1 : Nat) : Int)).map .int by rw [List.map_map]; rfl, wx_sum]
      simp only [we_con, we_varm, we_glom, we_bin, we_neg, we_cmp, we_chain, we_and, we_or, we_not, we_ife, we_tup, we_lst, we_ix, we_sl, we_rev, we_call, we_blt, we_isi, we_app, we_lc, wa_nil, wa_cons, wr_nil, wr_cons, wo_none, wo_some, wto_none, wto_some, wt_and, wt_or, wt_not, wt_cmp, wt_chain, wt_tru, wi_seq, wi_range, wi_enum, wg_nm, wg_tup, wg_nil, wg_cons, wg_sub, wp_ok, wp_bad, wp_nox, wb_add, wb_sub, wb_mul, wb_fdiv, wb_mod, wb_pow, wc_eq, wc_ne, wc_lt, wc_le, wc_gt, wc_ge, wc_eqb, wc_neb, wc_eqs, wc_nes, wx_int, wx_lent, wx_lenl, wx_lenr, wz_int, wz_str, wz_bl, wz_non, wz_tup, wz_rol, wz_ref, wz_lst, List.getElem?_cons_zero, List.getElem?_cons_succ, List.set_cons_zero, List.set_cons_succ, List.length_cons, List.length_nil, wi_tup, wi_lst, wi_rol, wx_tuplel, wx_tuplet, wx_listt, wto_some, hdq, hqc, ite_f, ite_tt, decide_eq_true_eq, Bool.not_eq_true', wisT, ex_bl, ex_int, ite_tf, ite_ff, wix0, wix1, wix2, Nat.reduceAdd, Nat.reduceLT, sl0, sl1, sl2, sl3, sl4, sl5, sl6, sl10, if_true, true_and, and_true, List.map_cons, List.map_nil, wip, wt_turn, it_non_int, it_non_bool, it_non_str, it_non_tuple, it_non_list, it_non_dict, it_bl_int, it_bl_bool, it_bl_str, it_bl_tuple, it_bl_list, it_bl_dict, it_int_int, it_int_bool, it_int_str, it_int_tuple, it_int_list, it_int_dict, it_str_int, it_str_bool, it_str_str, it_str_tuple, it_str_list, it_str_dict, it_tup_int, it_tup_bool, it_tup_str, it_tup_tuple, it_tup_list, it_tup_dict, it_lst_int, it_lst_bool, it_lst_str, it_lst_tuple, it_lst_list, it_lst_dict, it_rol_int, it_rol_bool, it_rol_str, it_rol_tuple, it_rol_list, it_rol_dict]
      rfl
  by_cases hr : (room : Int) < sumS rows ns
  · refine ws_take (tst3.imp fun b s' z => ⟨by rw [z.1, decide_eq_true hr], z.2⟩) (leave ?_)
    refine ⟨?_, [], (List.append_nil _).symm⟩
    unfold fRest
    rw [if_neg (fun z => z hs), if_pos hr]
  refine ws_skip (tst3.imp fun b s' z => ⟨by rw [z.1, decide_eq_false hr], z.2⟩) ?_
  clear tst3
  -- the worth
  have tst4 : Wp (runT (cfg.q (k+4)) (.cmp .ne (.blt .sum [(.lc [(("k" : Str), 5)] (.ix (.ix (.var 0) (.var 5)) (.con (.int 1))) (.nm 5) (.seq (.var 3)) none)]) (.ix (.var 2) (.con (.int 0))))
      [some (dRows rows), some (.int (room : Nat)), some (.tup [.int a, .tup (ns.map fun (k : Nat) => D.int (k : Int)), t]), some (.tup (ns.map fun (k : Nat) => D.int (k : Int))), none, none] s) fun b s' => b = (!decide (sumW rows ns = a)) ∧ s' = s := by
    simp only [we_con, we_varm, we_glom, we_bin, we_neg, we_cmp, we_chain, we_and, we_or, we_not, we_ife, we_tup, we_lst, we_ix, we_sl, we_rev, we_call, we_blt, we_isi, we_app, we_lc, wa_nil, wa_cons, wr_nil, wr_cons, wo_none, wo_some, wto_none, wto_some, wt_and, wt_or, wt_not, wt_cmp, wt_chain, wt_tru, wi_seq, wi_range, wi_enum, wg_nm, wg_tup, wg_nil, wg_cons, wg_sub, wp_ok, wp_bad, wp_nox, wb_add, wb_sub, wb_mul, wb_fdiv, wb_mod, wb_pow, wc_eq, wc_ne, wc_lt, wc_le, wc_gt, wc_ge, wc_eqb, wc_neb, wc_eqs, wc_nes, wx_int, wx_lent, wx_lenl, wx_lenr, wz_int, wz_str, wz_bl, wz_non, wz_tup, wz_rol, wz_ref, wz_lst, List.getElem?_cons_zero, List.getElem?_cons_succ, List.set_cons_zero, List.set_cons_succ, List.length_cons, List.length_nil, wi_tup, wi_lst, wi_rol, wx_tuplel, wx_tuplet, wx_listt, wto_some, hdq, hqc, ite_f, ite_tt, decide_eq_true_eq, Bool.not_eq_true', wisT, ex_bl, ex_int, ite_tf, ite_ff, wix0, wix1, wix2, Nat.reduceAdd, Nat.reduceLT, sl0, sl1, sl2, sl3, sl4, sl5, sl6, sl10, if_true, true_and, and_true, List.map_cons, List.map_nil, wip, wt_turn, it_non_int, it_non_bool, it_non_str, it_non_tuple, it_non_list, it_non_dict, it_bl_int, it_bl_bool, it_bl_str, it_bl_tuple, it_bl_list, it_bl_dict, it_int_int, it_int_bool, it_int_str, it_int_tuple, it_int_list, it_int_dict, it_str_int, it_str_bool, it_str_str, it_str_tuple, it_str_list, it_str_dict, it_tup_int, it_tup_bool, it_tup_str, it_tup_tuple, it_tup_list, it_tup_dict, it_lst_int, it_lst_bool, it_lst_str, it_lst_tuple, it_lst_list, it_lst_dict, it_rol_int, it_rol_bool, it_rol_str, it_rol_tuple, it_rol_list, it_rol_dict]
    refine wl_mm (fun (k : Nat) => D.int (k : Int)) (fun k => .int ((rows.getD k (0, 0)).2 : Nat)) rfl (leL (by omega)) (fun i hi => ?_) ?_
    · simp only [we_con, we_varm, we_glom, we_bin, we_neg, we_cmp, we_chain, we_and, we_or, we_not, we_ife, we_tup, we_lst, we_ix, we_sl, we_rev, we_call, we_blt, we_isi, we_app, we_lc, wa_nil, wa_cons, wr_nil, wr_cons, wo_none, wo_some, wto_none, wto_some, wt_and, wt_or, wt_not, wt_cmp, wt_chain, wt_tru, wi_seq, wi_range, wi_enum, wg_nm, wg_tup, wg_nil, wg_cons, wg_sub, wp_ok, wp_bad, wp_nox, wb_add, wb_sub, wb_mul, wb_fdiv, wb_mod, wb_pow, wc_eq, wc_ne, wc_lt, wc_le, wc_gt, wc_ge, wc_eqb, wc_neb, wc_eqs, wc_nes, wx_int, wx_lent, wx_lenl, wx_lenr, wz_int, wz_str, wz_bl, wz_non, wz_tup, wz_rol, wz_ref, wz_lst, List.getElem?_cons_zero, List.getElem?_cons_succ, List.set_cons_zero, List.set_cons_succ, List.length_cons, List.length_nil, wi_tup, wi_lst, wi_rol, wx_tuplel, wx_tuplet, wx_listt, wto_some, hdq, hqc, ite_f, ite_tt, decide_eq_true_eq, Bool.not_eq_true', wisT, ex_bl, ex_int, ite_tf, ite_ff, wix0, wix1, wix2, Nat.reduceAdd, Nat.reduceLT, sl0, sl1, sl2, sl3, sl4, sl5, sl6, sl10, if_true, true_and, and_true, List.map_cons, List.map_nil, wip, wt_turn, it_non_int, it_non_bool, it_non_str, it_non_tuple, it_non_list, it_non_dict, it_bl_int, it_bl_bool, it_bl_str, it_bl_tuple, it_bl_list, it_bl_dict, it_int_int, it_int_bool, it_int_str, it_int_tuple, it_int_list, it_int_dict, it_str_int, it_str_bool, it_str_str, it_str_tuple, it_str_list, it_str_dict, it_tup_int, it_tup_bool, it_tup_str, it_tup_tuple, it_tup_list, it_tup_dict, it_lst_int, it_lst_bool, it_lst_str, it_lst_tuple, it_lst_list, it_lst_dict, it_rol_int, it_rol_bool, it_rol_str, it_rol_tuple, it_rol_list, it_rol_dict]
      rw [dRow_getD (hlt i hi)]
      simp only [dRow, we_con, we_varm, we_glom, we_bin, we_neg, we_cmp, we_chain, we_and, we_or, we_not, we_ife, we_tup, we_lst, we_ix, we_sl, we_rev, we_call, we_blt, we_isi, we_app, we_lc, wa_nil, wa_cons, wr_nil, wr_cons, wo_none, wo_some, wto_none, wto_some, wt_and, wt_or, wt_not, wt_cmp, wt_chain, wt_tru, wi_seq, wi_range, wi_enum, wg_nm, wg_tup, wg_nil, wg_cons, wg_sub, wp_ok, wp_bad, wp_nox, wb_add, wb_sub, wb_mul, wb_fdiv, wb_mod, wb_pow, wc_eq, wc_ne, wc_lt, wc_le, wc_gt, wc_ge, wc_eqb, wc_neb, wc_eqs, wc_nes, wx_int, wx_lent, wx_lenl, wx_lenr, wz_int, wz_str, wz_bl, wz_non, wz_tup, wz_rol, wz_ref, wz_lst, List.getElem?_cons_zero, List.getElem?_cons_succ, List.set_cons_zero, List.set_cons_succ, List.length_cons, List.length_nil, wi_tup, wi_lst, wi_rol, wx_tuplel, wx_tuplet, wx_listt, wto_some, hdq, hqc, ite_f, ite_tt, decide_eq_true_eq, Bool.not_eq_true', wisT, ex_bl, ex_int, ite_tf, ite_ff, wix0, wix1, wix2, Nat.reduceAdd, Nat.reduceLT, sl0, sl1, sl2, sl3, sl4, sl5, sl6, sl10, if_true, true_and, and_true, List.map_cons, List.map_nil, wip, wt_turn, it_non_int, it_non_bool, it_non_str, it_non_tuple, it_non_list, it_non_dict, it_bl_int, it_bl_bool, it_bl_str, it_bl_tuple, it_bl_list, it_bl_dict, it_int_int, it_int_bool, it_int_str, it_int_tuple, it_int_list, it_int_dict, it_str_int, it_str_bool, it_str_str, it_str_tuple, it_str_list, it_str_dict, it_tup_int, it_tup_bool, it_tup_str, it_tup_tuple, it_tup_list, it_tup_dict, it_lst_int, it_lst_bool, it_lst_str, it_lst_tuple, it_lst_list, it_lst_dict, it_rol_int, it_rol_bool, it_rol_str, it_rol_tuple, it_rol_list, it_rol_dict]
    · rw [show ns.map (fun k => D.int ((rows.getD k (0, 0)).2 : Nat)) = (ns.map fun k => (((rows.getD k (0, 0)).2 : Nat) : Int)).map .int by rw [List.map_map]; rfl, wx_sum]
      simp only [we_con, we_varm, we_glom, we_bin, we_neg, we_cmp, we_chain, we_and, we_or, we_not, we_ife, we_tup, we_lst, we_ix, we_sl, we_rev, we_call, we_blt, we_isi, we_app, we_lc, wa_nil, wa_cons, wr_nil, wr_cons, wo_none, wo_some, wto_none, wto_some, wt_and, wt_or, wt_not, wt_cmp, wt_chain, wt_tru, wi_seq, wi_range, wi_enum, wg_nm, wg_tup, wg_nil, wg_cons, wg_sub, wp_ok, wp_bad, wp_nox, wb_add, wb_sub, wb_mul, wb_fdiv, wb_mod, wb_pow, wc_eq, wc_ne, wc_lt, wc_le, wc_gt, wc_ge, wc_eqb, wc_neb, wc_eqs, wc_nes, wx_int, wx_lent, wx_lenl, wx_lenr, wz_int, wz_str, wz_bl, wz_non, wz_tup, wz_rol, wz_ref, wz_lst, List.getElem?_cons_zero, List.getElem?_cons_succ, List.set_cons_zero, List.set_cons_succ, List.length_cons, List.length_nil, wi_tup, wi_lst, wi_rol, wx_tuplel, wx_tuplet, wx_listt, wto_some, hdq, hqc, ite_f, ite_tt, decide_eq_true_eq, Bool.not_eq_true', wisT, ex_bl, ex_int, ite_tf, ite_ff, wix0, wix1, wix2, Nat.reduceAdd, Nat.reduceLT, sl0, sl1, sl2, sl3, sl4, sl5, sl6, sl10, if_true, true_and, and_true, List.map_cons, List.map_nil, wip, wt_turn, it_non_int, it_non_bool, it_non_str, it_non_tuple, it_non_list, it_non_dict, it_bl_int, it_bl_bool, it_bl_str, it_bl_tuple, it_bl_list, it_bl_dict, it_int_int, it_int_bool, it_int_str, it_int_tuple, it_int_list, it_int_dict, it_str_int, it_str_bool, it_str_str, it_str_tuple, it_str_list, it_str_dict, it_tup_int, it_tup_bool, it_tup_str, it_tup_tuple, it_tup_list, it_tup_dict, it_lst_int, it_lst_bool, it_lst_str, it_lst_tuple, it_lst_list, it_lst_dict, it_rol_int, it_rol_bool, it_rol_str, it_rol_tuple, it_rol_list, it_rol_dict]
      rfl
  by_cases hw : sumW rows ns = a
  rotate_left
  · refine ws_take (tst4.imp fun b s' z => ⟨by rw [z.1, decide_eq_false hw]; rfl, z.2⟩) (leave ?_)
    refine ⟨?_, [], (List.append_nil _).symm⟩
    unfold fRest
    rw [if_neg (fun z => z hs), if_neg hr, if_pos hw]
  refine ws_skip (tst4.imp fun b s' z => ⟨by rw [z.1, decide_eq_true hw]; rfl, z.2⟩) ?_
  clear tst4
  -- the table
  rw [ws_cons]
  refine ws_ife ?_
  simp only [we_con, we_varm, we_glom, we_bin, we_neg, we_cmp, we_chain, we_and, we_or, we_not, we_ife, we_tup, we_lst, we_ix, we_sl, we_rev, we_call, we_blt, we_isi, we_app, we_lc, wa_nil, wa_cons, wr_nil, wr_cons, wo_none, wo_some, wto_none, wto_some, wt_and, wt_or, wt_not, wt_cmp, wt_chain, wt_tru, wi_seq, wi_range, wi_enum, wg_nm, wg_tup, wg_nil, wg_cons, wg_sub, wp_ok, wp_bad, wp_nox, wb_add, wb_sub, wb_mul, wb_fdiv, wb_mod, wb_pow, wc_eq, wc_ne, wc_lt, wc_le, wc_gt, wc_ge, wc_eqb, wc_neb, wc_eqs, wc_nes, wx_int, wx_lent, wx_lenl, wx_lenr, wz_int, wz_str, wz_bl, wz_non, wz_tup, wz_rol, wz_ref, wz_lst, List.getElem?_cons_zero, List.getElem?_cons_succ, List.set_cons_zero, List.set_cons_succ, List.length_cons, List.length_nil, wi_tup, wi_lst, wi_rol, wx_tuplel, wx_tuplet, wx_listt, wto_some, hdq, hqc, ite_f, ite_tt, decide_eq_true_eq, Bool.not_eq_true', wisT, ex_bl, ex_int, ite_tf, ite_ff, wix0, wix1, wix2, Nat.reduceAdd, Nat.reduceLT, sl0, sl1, sl2, sl3, sl4, sl5, sl6, sl10, if_true, true_and, and_true, List.map_cons, List.map_nil, wip, wt_turn, it_non_int, it_non_bool, it_non_str, it_non_tuple, it_non_list, it_non_dict, it_bl_int, it_bl_bool, it_bl_str, it_bl_tuple, it_bl_list, it_bl_dict, it_int_int, it_int_bool, it_int_str, it_int_tuple, it_int_list, it_int_dict, it_str_int, it_str_bool, it_str_str, it_str_tuple, it_str_list, it_str_dict, it_tup_int, it_tup_bool, it_tup_str, it_tup_tuple, it_tup_list, it_tup_dict, it_lst_int, it_lst_bool, it_lst_str, it_lst_tuple, it_lst_list, it_lst_dict, it_rol_int, it_rol_bool, it_rol_str, it_rol_tuple, it_rol_list, it_rol_dict]
  rw [wz_shr (pl_shr pt)]
  show Wp (setl (dRows rows) _) _
  rw [wz_dRows]
  refine w_call (s_table (k := k + 2) g) ?_
  rintro d s3 ⟨rfl, t3, rfl⟩
  rw [wz_dTab]
  refine w_call (s_same (n := 30) (by decide) (k + 3) t (dTab rows room) _ (Nat.le_trans dep_dTab (by omega)) pt (pl_dTab g)) ?_
  rintro d s4 ⟨rfl, hs4⟩
  rw [hs4]
  simp only [we_con, we_varm, we_glom, we_bin, we_neg, we_cmp, we_chain, we_and, we_or, we_not, we_ife, we_tup, we_lst, we_ix, we_sl, we_rev, we_call, we_blt, we_isi, we_app, we_lc, wa_nil, wa_cons, wr_nil, wr_cons, wo_none, wo_some, wto_none, wto_some, wt_and, wt_or, wt_not, wt_cmp, wt_chain, wt_tru, wi_seq, wi_range, wi_enum, wg_nm, wg_tup, wg_nil, wg_cons, wg_sub, wp_ok, wp_bad, wp_nox, wb_add, wb_sub, wb_mul, wb_fdiv, wb_mod, wb_pow, wc_eq, wc_ne, wc_lt, wc_le, wc_gt, wc_ge, wc_eqb, wc_neb, wc_eqs, wc_nes, wx_int, wx_lent, wx_lenl, wx_lenr, wz_int, wz_str, wz_bl, wz_non, wz_tup, wz_rol, wz_ref, wz_lst, List.getElem?_cons_zero, List.getElem?_cons_succ, List.set_cons_zero, List.set_cons_succ, List.length_cons, List.length_nil, wi_tup, wi_lst, wi_rol, wx_tuplel, wx_tuplet, wx_listt, wto_some, hdq, hqc, ite_f, ite_tt, decide_eq_true_eq, Bool.not_eq_true', wisT, ex_bl, ex_int, ite_tf, ite_ff, wix0, wix1, wix2, Nat.reduceAdd, Nat.reduceLT, sl0, sl1, sl2, sl3, sl4, sl5, sl6, sl10, if_true, true_and, and_true, List.map_cons, List.map_nil, wip, wt_turn, it_non_int, it_non_bool, it_non_str, it_non_tuple, it_non_list, it_non_dict, it_bl_int, it_bl_bool, it_bl_str, it_bl_tuple, it_bl_list, it_bl_dict, it_int_int, it_int_bool, it_int_str, it_int_tuple, it_int_list, it_int_dict, it_str_int, it_str_bool, it_str_str, it_str_tuple, it_str_list, it_str_dict, it_tup_int, it_tup_bool, it_tup_str, it_tup_tuple, it_tup_list, it_tup_dict, it_lst_int, it_lst_bool, it_lst_str, it_lst_tuple, it_lst_list, it_lst_dict, it_rol_int, it_rol_bool, it_rol_str, it_rol_tuple, it_rol_list, it_rol_dict]
  cases he : D.same t (dTab rows room) with
  | false =>
    rw [if_pos (by decide)]
    refine leave ⟨?_, t3, rfl⟩
    unfold fRest
    rw [if_neg (fun z => z hs), if_neg hr, if_neg (fun z => z hw), if_pos he]
  | true =>
    rw [if_neg (by decide), ws_nil]
    have ht := same_eq he
    subst ht
    show Ws (runSs _ _ _ _) _
    refine ws_rets ?_
    simp only [we_con, we_varm, we_glom, we_bin, we_neg, we_cmp, we_chain, we_and, we_or, we_not, we_ife, we_tup, we_lst, we_ix, we_sl, we_rev, we_call, we_blt, we_isi, we_app, we_lc, wa_nil, wa_cons, wr_nil, wr_cons, wo_none, wo_some, wto_none, wto_some, wt_and, wt_or, wt_not, wt_cmp, wt_chain, wt_tru, wi_seq, wi_range, wi_enum, wg_nm, wg_tup, wg_nil, wg_cons, wg_sub, wp_ok, wp_bad, wp_nox, wb_add, wb_sub, wb_mul, wb_fdiv, wb_mod, wb_pow, wc_eq, wc_ne, wc_lt, wc_le, wc_gt, wc_ge, wc_eqb, wc_neb, wc_eqs, wc_nes, wx_int, wx_lent, wx_lenl, wx_lenr, wz_int, wz_str, wz_bl, wz_non, wz_tup, wz_rol, wz_ref, wz_lst, List.getElem?_cons_zero, List.getElem?_cons_succ, List.set_cons_zero, List.set_cons_succ, List.length_cons, List.length_nil, wi_tup, wi_lst, wi_rol, wx_tuplel, wx_tuplet, wx_listt, wto_some, hdq, hqc, ite_f, ite_tt, decide_eq_true_eq, Bool.not_eq_true', wisT, ex_bl, ex_int, ite_tf, ite_ff, wix0, wix1, wix2, Nat.reduceAdd, Nat.reduceLT, sl0, sl1, sl2, sl3, sl4, sl5, sl6, sl10, if_true, true_and, and_true, List.map_cons, List.map_nil, wip, wt_turn, it_non_int, it_non_bool, it_non_str, it_non_tuple, it_non_list, it_non_dict, it_bl_int, it_bl_bool, it_bl_str, it_bl_tuple, it_bl_list, it_bl_dict, it_int_int, it_int_bool, it_int_str, it_int_tuple, it_int_list, it_int_dict, it_str_int, it_str_bool, it_str_str, it_str_tuple, it_str_list, it_str_dict, it_tup_int, it_tup_bool, it_tup_str, it_tup_tuple, it_tup_list, it_tup_dict, it_lst_int, it_lst_bool, it_lst_str, it_lst_tuple, it_lst_list, it_lst_dict, it_rol_int, it_rol_bool, it_rol_str, it_rol_tuple, it_rol_list, it_rol_dict, wix_tabl, wix_dT]
    have key : fRest rows room a ns (dTab rows room) = if ((Tk rows rows.length room : Nat) : Int) = a then D.non else .str "greatest" := by
      unfold fRest
      rw [if_neg (fun z => z hs), if_neg hr, if_neg (fun z => z hw), if_neg (by rw [he]; decide)]
    rw [key]
    refine ite_p (fun h => ?_) fun h => ?_
    · rw [if_pos h]
      exact ⟨rfl, t3, rfl⟩
    · rw [if_neg h]
      exact ⟨rfl, t3, rfl⟩
end DI.L

set_option Elab.async false
set_option linter.all false
set_option maxRecDepth 100000
set_option maxHeartbeats 4000000
/-! the plain law, J: picks, bent values. -/
namespace DI.L
open PySem L2
/-- all but the i-th thing stands -/
def Keep (i : Nat) (s s' : S) : Prop := ∀ r xs, r ≠ i → lk s r = some xs → lk s' r = some xs
theorem Keep.rfl' {i : Nat} {s : S} : Keep i s s := fun _ _ _ h => h
theorem Keep.trans {i : Nat} {s s1 s2 : S} (a : Keep i s s1) (b : Keep i s1 s2) : Keep i s s2 := fun r xs h e => b r xs h (a r xs h e)
theorem Keep.set {i : Nat} {s : S} {o : O} : Keep i s (s.set i o) := fun r xs h e => by rw [lk_set_ne (Ne.symm h)]; exact e
theorem Keep.app {i : Nat} {s t : S} : Keep i s (s ++ t) := fun r xs h e => lk_app e
theorem Dr.lt {s : S} {i : Nat} (h : Dr s i) : i < s.length := by
  obtain ⟨j, ns, a, b, c, hi, _⟩ := h
  exact lk_lt hi
theorem Dr.app {s t : S} {i : Nat} (h : Dr s i) : Dr (s ++ t) i := by
  obtain ⟨j, ns, a, b, c, hi, hj, ne, ha, hb⟩ := h
  exact ⟨j, ns, a, b, c, lk_app hi, lk_app hj, ne, ha, hb⟩
/-- a draw, as it is used -/
theorem w_draw {k i : Nat} {n : Int} {s : S} {P : D → S → Prop} (h : Dr s i) (h1 : 1 ≤ n) (h2 : n < 1073741824) (i2 : ∀ (v : Nat) s', (v : Int) < n → Dr s' i → Keep i s s' → P (.int (v : Int)) s') : Wp (callN cfg.ds cfg.q0 (k+1) "_law_draw" [.ref i, .int n] s) P := by
  refine (s_draw k i n s h h1 h2).imp ?_
  rintro d s' ⟨v, xs, rfl, rfl, h0, hv, hD⟩
  obtain ⟨m, rfl⟩ := Int.eq_ofNat_of_zero_le h0
  exact i2 m _ hv hD Keep.set
theorem c_pick2 (k : Nat) (a b : D) (s : S) : cl (k+1) "_law_pick" [a, b] s = runF (cfg.q k) 2 d__law_pick.body [a, b] s := by kernel_rfl
theorem s_pick {k i r : Nat} {xs : List D} {s : S} {P : D → S → Prop} (h : Dr s i) (hl : lk s r = some xs) (hne : r ≠ i) (h1 : 1 ≤ xs.length) (h2 : xs.length ≤ 1000) (i2 : ∀ d s', d ∈ xs → Dr s' i → Keep i s s' → P d s') : Wp (callN cfg.ds cfg.q0 (k+2) "_law_pick" [.ref i, .ref r] s) P := by
  show Wp (cl (k+2) "_law_pick" [.ref i, .ref r] s) P
  rw [c_pick2]
  refine wf_run ?_
  show Ws (runSs (cfg.q (k+1)) d__law_pick.body [some (.ref i), some (.ref r)] s) _
  unfold d__law_pick
  refine ws_rets ?_
  simp only [we_con, we_varm, we_glom, we_bin, we_neg, we_cmp, we_chain, we_and, we_or, we_not, we_ife, we_tup, we_lst, we_ix, we_sl, we_rev, we_call, we_blt, we_isi, we_app, we_lc, wa_nil, wa_cons, wr_nil, wr_cons, wo_none, wo_some, wto_none, wto_some, wt_and, wt_or, wt_not, wt_cmp, wt_chain, wt_tru, wi_seq, wi_range, wi_enum, wg_nm, wg_tup, wg_nil, wg_cons, wg_sub, wp_ok, wp_bad, wp_nox, wb_add, wb_sub, wb_mul, wb_fdiv, wb_mod, wb_pow, wc_eq, wc_ne, wc_lt, wc_le, wc_gt, wc_ge, wc_eqb, wc_neb, wc_eqs, wc_nes, wx_int, wx_lent, wx_lenl, wx_lenr, wz_int, wz_str, wz_bl, wz_non, wz_tup, wz_rol, wz_ref, wz_lst, List.getElem?_cons_zero, List.getElem?_cons_succ, List.set_cons_zero, List.set_cons_succ, List.length_cons, List.length_nil, wi_tup, wi_lst, wi_rol, wx_tuplel, wx_tuplet, wx_listt, wto_some, hdq, hqc, ite_f, ite_tt, decide_eq_true_eq, Bool.not_eq_true', wisT, ex_bl, ex_int, ite_tf, ite_ff, wix0, wix1, wix2, Nat.reduceAdd, Nat.reduceLT, sl0, sl1, sl2, sl3, sl4, sl5, sl6, sl10, if_true, true_and, and_true, List.map_cons, List.map_nil, wip, wt_turn, it_non_int, it_non_bool, it_non_str, it_non_tuple, it_non_list, it_non_dict, it_bl_int, it_bl_bool, it_bl_str, it_bl_tuple, it_bl_list, it_bl_dict, it_int_int, it_int_bool, it_int_str, it_int_tuple, it_int_list, it_int_dict, it_str_int, it_str_bool, it_str_str, it_str_tuple, it_str_list, it_str_dict, it_tup_int, it_tup_bool, it_tup_str, it_tup_tuple, it_tup_list, it_tup_dict, it_lst_int, it_lst_bool, it_lst_str, it_lst_tuple, it_lst_list, it_lst_dict, it_rol_int, it_rol_bool, it_rol_str, it_rol_tuple, it_rol_list, it_rol_dict]
  rw [wx_len hl]
  simp only [we_con, we_varm, we_glom, we_bin, we_neg, we_cmp, we_chain, we_and, we_or, we_not, we_ife, we_tup, we_lst, we_ix, we_sl, we_rev, we_call, we_blt, we_isi, we_app, we_lc, wa_nil, wa_cons, wr_nil, wr_cons, wo_none, wo_some, wto_none, wto_some, wt_and, wt_or, wt_not, wt_cmp, wt_chain, wt_tru, wi_seq, wi_range, wi_enum, wg_nm, wg_tup, wg_nil, wg_cons, wg_sub, wp_ok, wp_bad, wp_nox, wb_add, wb_sub, wb_mul, wb_fdiv, wb_mod, wb_pow, wc_eq, wc_ne, wc_lt, wc_le, wc_gt, wc_ge, wc_eqb, wc_neb, wc_eqs, wc_nes, wx_int, wx_lent, wx_lenl, wx_lenr, wz_int, wz_str, wz_bl, wz_non, wz_tup, wz_rol, wz_ref, wz_lst, List.getElem?_cons_zero, List.getElem?_cons_succ, List.set_cons_zero, List.set_cons_succ, List.length_cons, List.length_nil, wi_tup, wi_lst, wi_rol, wx_tuplel, wx_tuplet, wx_listt, wto_some, hdq, hqc, ite_f, ite_tt, decide_eq_true_eq, Bool.not_eq_true', wisT, ex_bl, ex_int, ite_tf, ite_ff, wix0, wix1, wix2, Nat.reduceAdd, Nat.reduceLT, sl0, sl1, sl2, sl3, sl4, sl5, sl6, sl10, if_true, true_and, and_true, List.map_cons, List.map_nil, wip, wt_turn, it_non_int, it_non_bool, it_non_str, it_non_tuple, it_non_list, it_non_dict, it_bl_int, it_bl_bool, it_bl_str, it_bl_tuple, it_bl_list, it_bl_dict, it_int_int, it_int_bool, it_int_str, it_int_tuple, it_int_list, it_int_dict, it_str_int, it_str_bool, it_str_str, it_str_tuple, it_str_list, it_str_dict, it_tup_int, it_tup_bool, it_tup_str, it_tup_tuple, it_tup_list, it_tup_dict, it_lst_int, it_lst_bool, it_lst_str, it_lst_tuple, it_lst_list, it_lst_dict, it_rol_int, it_rol_bool, it_rol_str, it_rol_tuple, it_rol_list, it_rol_dict]
  refine w_draw h (by omega) (by omega) fun v s' hv hD hK => ?_
  have hv2 : v < xs.length := by omega
  rw [wixr (hK r xs hne hl) (atI_nat (List.getElem?_eq_getElem hv2))]
  exact i2 _ _ (List.getElem_mem hv2) hD hK
theorem c_bent (k : Nat) (a b : D) (s : S) : cl (k+1) "_law_bent" [a, b] s = runF (cfg.q k) 4 d__law_bent.body [a, b] s := by kernel_rfl
theorem pl_app {n : Nat} {xs : List D} (hl : xs.length ≤ n) (h : ∀ x ∈ xs, x.pl n = true) : (D.tup xs).pl n = true := by
  unfold D.pl
  rw [Bool.and_eq_true]
  exact ⟨decide_eq_true hl, pls_of h⟩
theorem bent_core {i k : Nat} {v : D} {s : S} (pv : v.pl 30 = true) (hD : Dr s i)
    (ih : ∀ xs, v = .tup xs → ∀ x ∈ xs, ∀ s, Dr s i → Wp (cl (k+3) "_law_bent" [.ref i, x] s) fun d s' => d.pl 30 = true ∧ Dr s' i ∧ Keep i s s') : Wp (cl (k+4) "_law_bent" [.ref i, v] s) fun d s' => d.pl 30 = true ∧ Dr s' i ∧ Keep i s s' := by
  rw [c_bent]
  refine wf_run ?_
  show Ws (runSs (cfg.q (k+3)) d__law_bent.body [some (.ref i), some v, none, none] s) _
  unfold d__law_bent
  refine ws_asgs ?_
  simp only [we_con, we_varm, we_glom, we_bin, we_neg, we_cmp, we_chain, we_and, we_or, we_not, we_ife, we_tup, we_lst, we_ix, we_sl, we_rev, we_call, we_blt, we_isi, we_app, we_lc, wa_nil, wa_cons, wr_nil, wr_cons, wo_none, wo_some, wto_none, wto_some, wt_and, wt_or, wt_not, wt_cmp, wt_chain, wt_tru, wi_seq, wi_range, wi_enum, wg_nm, wg_tup, wg_nil, wg_cons, wg_sub, wp_ok, wp_bad, wp_nox, wb_add, wb_sub, wb_mul, wb_fdiv, wb_mod, wb_pow, wc_eq, wc_ne, wc_lt, wc_le, wc_gt, wc_ge, wc_eqb, wc_neb, wc_eqs, wc_nes, wx_int, wx_lent, wx_lenl, wx_lenr, wz_int, wz_str, wz_bl, wz_non, wz_tup, wz_rol, wz_ref, wz_lst, List.getElem?_cons_zero, List.getElem?_cons_succ, List.set_cons_zero, List.set_cons_succ, List.length_cons, List.length_nil, wi_tup, wi_lst, wi_rol, wx_tuplel, wx_tuplet, wx_listt, wto_some, hdq, hqc, ite_f, ite_tt, decide_eq_true_eq, Bool.not_eq_true', wisT, ex_bl, ex_int, ite_tf, ite_ff, wix0, wix1, wix2, Nat.reduceAdd, Nat.reduceLT, sl0, sl1, sl2, sl3, sl4, sl5, sl6, sl10, if_true, true_and, and_true, List.map_cons, List.map_nil, wip, wt_turn, it_non_int, it_non_bool, it_non_str, it_non_tuple, it_non_list, it_non_dict, it_bl_int, it_bl_bool, it_bl_str, it_bl_tuple, it_bl_list, it_bl_dict, it_int_int, it_int_bool, it_int_str, it_int_tuple, it_int_list, it_int_dict, it_str_int, it_str_bool, it_str_str, it_str_tuple, it_str_list, it_str_dict, it_tup_int, it_tup_bool, it_tup_str, it_tup_tuple, it_tup_list, it_tup_dict, it_lst_int, it_lst_bool, it_lst_str, it_lst_tuple, it_lst_list, it_lst_dict, it_rol_int, it_rol_bool, it_rol_str, it_rol_tuple, it_rol_list, it_rol_dict]
  refine w_draw hD (by decide) (by decide) fun kind s1 hk hD1 hK1 => ?_
  simp only [we_con, we_varm, we_glom, we_bin, we_neg, we_cmp, we_chain, we_and, we_or, we_not, we_ife, we_tup, we_lst, we_ix, we_sl, we_rev, we_call, we_blt, we_isi, we_app, we_lc, wa_nil, wa_cons, wr_nil, wr_cons, wo_none, wo_some, wto_none, wto_some, wt_and, wt_or, wt_not, wt_cmp, wt_chain, wt_tru, wi_seq, wi_range, wi_enum, wg_nm, wg_tup, wg_nil, wg_cons, wg_sub, wp_ok, wp_bad, wp_nox, wb_add, wb_sub, wb_mul, wb_fdiv, wb_mod, wb_pow, wc_eq, wc_ne, wc_lt, wc_le, wc_gt, wc_ge, wc_eqb, wc_neb, wc_eqs, wc_nes, wx_int, wx_lent, wx_lenl, wx_lenr, wz_int, wz_str, wz_bl, wz_non, wz_tup, wz_rol, wz_ref, wz_lst, List.getElem?_cons_zero, List.getElem?_cons_succ, List.set_cons_zero, List.set_cons_succ, List.length_cons, List.length_nil, wi_tup, wi_lst, wi_rol, wx_tuplel, wx_tuplet, wx_listt, wto_some, hdq, hqc, ite_f, ite_tt, decide_eq_true_eq, Bool.not_eq_true', wisT, ex_bl, ex_int, ite_tf, ite_ff, wix0, wix1, wix2, Nat.reduceAdd, Nat.reduceLT, sl0, sl1, sl2, sl3, sl4, sl5, sl6, sl10, if_true, true_and, and_true, List.map_cons, List.map_nil, wip, wt_turn, it_non_int, it_non_bool, it_non_str, it_non_tuple, it_non_list, it_non_dict, it_bl_int, it_bl_bool, it_bl_str, it_bl_tuple, it_bl_list, it_bl_dict, it_int_int, it_int_bool, it_int_str, it_int_tuple, it_int_list, it_int_dict, it_str_int, it_str_bool, it_str_str, it_str_tuple, it_str_list, it_str_dict, it_tup_int, it_tup_bool, it_tup_str, it_tup_tuple, it_tup_list, it_tup_dict, it_lst_int, it_lst_bool, it_lst_str, it_lst_tuple, it_lst_list, it_lst_dict, it_rol_int, it_rol_bool, it_rol_str, it_rol_tuple, it_rol_list, it_rol_dict]
  -- a plain one in its place
  have last : ∀ {Q : Kt}, (∀ d s', d.pl 30 = true → Dr s' i → Keep i s1 s' → Q.rt d s') → Ws (runSs (cfg.q (k+3)) [.ret (some (.call ("_law_pick" : Str) [.var 0, .lst [.con .non, .tup [], .con (.int 0), .con (.str ("a" : Str)), .con (.bl true), .tup [.con (.int 0)]]]))]
      [some (.ref i), some v, some (.int (kind : Nat)), none] s1) Q := fun {Q} h => by
    refine ws_rets ?_
    simp only [we_con, we_varm, we_glom, we_bin, we_neg, we_cmp, we_chain, we_and, we_or, we_not, we_ife, we_tup, we_lst, we_ix, we_sl, we_rev, we_call, we_blt, we_isi, we_app, we_lc, wa_nil, wa_cons, wr_nil, wr_cons, wo_none, wo_some, wto_none, wto_some, wt_and, wt_or, wt_not, wt_cmp, wt_chain, wt_tru, wi_seq, wi_range, wi_enum, wg_nm, wg_tup, wg_nil, wg_cons, wg_sub, wp_ok, wp_bad, wp_nox, wb_add, wb_sub, wb_mul, wb_fdiv, wb_mod, wb_pow, wc_eq, wc_ne, wc_lt, wc_le, wc_gt, wc_ge, wc_eqb, wc_neb, wc_eqs, wc_nes, wx_int, wx_lent, wx_lenl, wx_lenr, wz_int, wz_str, wz_bl, wz_non, wz_tup, wz_rol, wz_ref, wz_lst, List.getElem?_cons_zero, List.getElem?_cons_succ, List.set_cons_zero, List.set_cons_succ, List.length_cons, List.length_nil, wi_tup, wi_lst, wi_rol, wx_tuplel, wx_tuplet, wx_listt, wto_some, hdq, hqc, ite_f, ite_tt, decide_eq_true_eq, Bool.not_eq_true', wisT, ex_bl, ex_int, ite_tf, ite_ff, wix0, wix1, wix2, Nat.reduceAdd, Nat.reduceLT, sl0, sl1, sl2, sl3, sl4, sl5, sl6, sl10, if_true, true_and, and_true, List.map_cons, List.map_nil, wip, wt_turn, it_non_int, it_non_bool, it_non_str, it_non_tuple, it_non_list, it_non_dict, it_bl_int, it_bl_bool, it_bl_str, it_bl_tuple, it_bl_list, it_bl_dict, it_int_int, it_int_bool, it_int_str, it_int_tuple, it_int_list, it_int_dict, it_str_int, it_str_bool, it_str_str, it_str_tuple, it_str_list, it_str_dict, it_tup_int, it_tup_bool, it_tup_str, it_tup_tuple, it_tup_list, it_tup_dict, it_lst_int, it_lst_bool, it_lst_str, it_lst_tuple, it_lst_list, it_lst_dict, it_rol_int, it_rol_bool, it_rol_str, it_rol_tuple, it_rol_list, it_rol_dict]
    refine s_pick (hD1.app) lk_new1 (Nat.ne_of_gt hD1.lt) (by simp) (by simp) fun d s' hd hD' hK' => ?_
    refine h d s' ?_ hD' (Keep.app.trans hK')
    simp at hd
    rcases hd with rfl | rfl | rfl | rfl | rfl | rfl <;> rfl
  have fin : ∀ {d : D} {s' : S}, d.pl 30 = true → Dr s' i → Keep i s1 s' → d.pl 30 = true ∧ Dr s' i ∧ Keep i s s' := fun a b c => ⟨a, b, hK1.trans c⟩
  have other : (∀ xs, v ≠ .tup xs) → ∀ {Q : Kt}, (∀ d s', d.pl 30 = true → Dr s' i → Keep i s1 s' → Q.rt d s') → Ws (runSs (cfg.q (k+3)) (.ife (.and (.tru (.call ("_law_whole" : Str) [.var 1])) (.cmp .gt (.var 2) (.con (.int 0)))) [.ret (some (.bin .add (.var 1) (.call ("_law_pick" : Str) [.var 0, .lst [.neg (.con (.int 1)), .con (.int 1), .con (.int 2)]])))] [] ::
      [.ret (some (.call ("_law_pick" : Str) [.var 0, .lst [.con .non, .tup [], .con (.int 0), .con (.str ("a" : Str)), .con (.bl true), .tup [.con (.int 0)]]]))]) [some (.ref i), some v, some (.int (kind : Nat)), none] s1) Q := fun hn {Q} h => by
    have nint : D.isInt v = false → Ws (runSs (cfg.q (k+3)) (.ife (.and (.tru (.call ("_law_whole" : Str) [.var 1])) (.cmp .gt (.var 2) (.con (.int 0)))) [.ret (some (.bin .add (.var 1) (.call ("_law_pick" : Str) [.var 0, .lst [.neg (.con (.int 1)), .con (.int 1), .con (.int 2)]])))] [] ::
      [.ret (some (.call ("_law_pick" : Str) [.var 0, .lst [.con .non, .tup [], .con (.int 0), .con (.str ("a" : Str)), .con (.bl true), .tup [.con (.int 0)]]]))]) [some (.ref i), some v, some (.int (kind : Nat)), none] s1) Q := fun hni => by
      refine ws_skip ?_ (last h)
      simp only [we_con, we_varm, we_glom, we_bin, we_neg, we_cmp, we_chain, we_and, we_or, we_not, we_ife, we_tup, we_lst, we_ix, we_sl, we_rev, we_call, we_blt, we_isi, we_app, we_lc, wa_nil, wa_cons, wr_nil, wr_cons, wo_none, wo_some, wto_none, wto_some, wt_and, wt_or, wt_not, wt_cmp, wt_chain, wt_tru, wi_seq, wi_range, wi_enum, wg_nm, wg_tup, wg_nil, wg_cons, wg_sub, wp_ok, wp_bad, wp_nox, wb_add, wb_sub, wb_mul, wb_fdiv, wb_mod, wb_pow, wc_eq, wc_ne, wc_lt, wc_le, wc_gt, wc_ge, wc_eqb, wc_neb, wc_eqs, wc_nes, wx_int, wx_lent, wx_lenl, wx_lenr, wz_int, wz_str, wz_bl, wz_non, wz_tup, wz_rol, wz_ref, wz_lst, List.getElem?_cons_zero, List.getElem?_cons_succ, List.set_cons_zero, List.set_cons_succ, List.length_cons, List.length_nil, wi_tup, wi_lst, wi_rol, wx_tuplel, wx_tuplet, wx_listt, wto_some, hdq, hqc, ite_f, ite_tt, decide_eq_true_eq, Bool.not_eq_true', wisT, ex_bl, ex_int, ite_tf, ite_ff, wix0, wix1, wix2, Nat.reduceAdd, Nat.reduceLT, sl0, sl1, sl2, sl3, sl4, sl5, sl6, sl10, if_true, true_and, and_true, List.map_cons, List.map_nil, wip, wt_turn, it_non_int, it_non_bool, it_non_str, it_non_tuple, it_non_list, it_non_dict, it_bl_int, it_bl_bool, it_bl_str, it_bl_tuple, it_bl_list, it_bl_dict, it_int_int, it_int_bool, it_int_str, it_int_tuple, it_int_list, it_int_dict, it_str_int, it_str_bool, it_str_str, it_str_tuple, it_str_list, it_str_dict, it_tup_int, it_tup_bool, it_tup_str, it_tup_tuple, it_tup_list, it_tup_dict, it_lst_int, it_lst_bool, it_lst_str, it_lst_tuple, it_lst_list, it_lst_dict, it_rol_int, it_rol_bool, it_rol_str, it_rol_tuple, it_rol_list, it_rol_dict]
      rw [wz_shr (pl_shr pv), w_lwhole2 pv, hni]
      simp only [we_con, we_varm, we_glom, we_bin, we_neg, we_cmp, we_chain, we_and, we_or, we_not, we_ife, we_tup, we_lst, we_ix, we_sl, we_rev, we_call, we_blt, we_isi, we_app, we_lc, wa_nil, wa_cons, wr_nil, wr_cons, wo_none, wo_some, wto_none, wto_some, wt_and, wt_or, wt_not, wt_cmp, wt_chain, wt_tru, wi_seq, wi_range, wi_enum, wg_nm, wg_tup, wg_nil, wg_cons, wg_sub, wp_ok, wp_bad, wp_nox, wb_add, wb_sub, wb_mul, wb_fdiv, wb_mod, wb_pow, wc_eq, wc_ne, wc_lt, wc_le, wc_gt, wc_ge, wc_eqb, wc_neb, wc_eqs, wc_nes, wx_int, wx_lent, wx_lenl, wx_lenr, wz_int, wz_str, wz_bl, wz_non, wz_tup, wz_rol, wz_ref, wz_lst, List.getElem?_cons_zero, List.getElem?_cons_succ, List.set_cons_zero, List.set_cons_succ, List.length_cons, List.length_nil, wi_tup, wi_lst, wi_rol, wx_tuplel, wx_tuplet, wx_listt, wto_some, hdq, hqc, ite_f, ite_tt, decide_eq_true_eq, Bool.not_eq_true', wisT, ex_bl, ex_int, ite_tf, ite_ff, wix0, wix1, wix2, Nat.reduceAdd, Nat.reduceLT, sl0, sl1, sl2, sl3, sl4, sl5, sl6, sl10, if_true, true_and, and_true, List.map_cons, List.map_nil, wip, wt_turn, it_non_int, it_non_bool, it_non_str, it_non_tuple, it_non_list, it_non_dict, it_bl_int, it_bl_bool, it_bl_str, it_bl_tuple, it_bl_list, it_bl_dict, it_int_int, it_int_bool, it_int_str, it_int_tuple, it_int_list, it_int_dict, it_str_int, it_str_bool, it_str_str, it_str_tuple, it_str_list, it_str_dict, it_tup_int, it_tup_bool, it_tup_str, it_tup_tuple, it_tup_list, it_tup_dict, it_lst_int, it_lst_bool, it_lst_str, it_lst_tuple, it_lst_list, it_lst_dict, it_rol_int, it_rol_bool, it_rol_str, it_rol_tuple, it_rol_list, it_rol_dict]
    cases v with
    | int z =>
      by_cases h0 : (0 : Int) < kind
      · refine ws_take ?_ ?_
        · simp only [we_con, we_varm, we_glom, we_bin, we_neg, we_cmp, we_chain, we_and, we_or, we_not, we_ife, we_tup, we_lst, we_ix, we_sl, we_rev, we_call, we_blt, we_isi, we_app, we_lc, wa_nil, wa_cons, wr_nil, wr_cons, wo_none, wo_some, wto_none, wto_some, wt_and, wt_or, wt_not, wt_cmp, wt_chain, wt_tru, wi_seq, wi_range, wi_enum, wg_nm, wg_tup, wg_nil, wg_cons, wg_sub, wp_ok, wp_bad, wp_nox, wb_add, wb_sub, wb_mul, wb_fdiv, wb_mod, wb_pow, wc_eq, wc_ne, wc_lt, wc_le, wc_gt, wc_ge, wc_eqb, wc_neb, wc_eqs, wc_nes, wx_int, wx_lent, wx_lenl, wx_lenr, wz_int, wz_str, wz_bl, wz_non, wz_tup, wz_rol, wz_ref, wz_lst, List.getElem?_cons_zero, List.getElem?_cons_succ, List.set_cons_zero, List.set_cons_succ, List.length_cons, List.length_nil, wi_tup, wi_lst, wi_rol, wx_tuplel, wx_tuplet, wx_listt, wto_some, hdq, hqc, ite_f, ite_tt, decide_eq_true_eq, Bool.not_eq_true', wisT, ex_bl, ex_int, ite_tf, ite_ff, wix0, wix1, wix2, Nat.reduceAdd, Nat.reduceLT, sl0, sl1, sl2, sl3, sl4, sl5, sl6, sl10, if_true, true_and, and_true, List.map_cons, List.map_nil, wip, wt_turn, it_non_int, it_non_bool, it_non_str, it_non_tuple, it_non_list, it_non_dict, it_bl_int, it_bl_bool, it_bl_str, it_bl_tuple, it_bl_list, it_bl_dict, it_int_int, it_int_bool, it_int_str, it_int_tuple, it_int_list, it_int_dict, it_str_int, it_str_bool, it_str_str, it_str_tuple, it_str_list, it_str_dict, it_tup_int, it_tup_bool, it_tup_str, it_tup_tuple, it_tup_list, it_tup_dict, it_lst_int, it_lst_bool, it_lst_str, it_lst_tuple, it_lst_list, it_lst_dict, it_rol_int, it_rol_bool, it_rol_str, it_rol_tuple, it_rol_list, it_rol_dict]
          rw [w_lwhole2 pv]
          simp only [we_con, we_varm, we_glom, we_bin, we_neg, we_cmp, we_chain, we_and, we_or, we_not, we_ife, we_tup, we_lst, we_ix, we_sl, we_rev, we_call, we_blt, we_isi, we_app, we_lc, wa_nil, wa_cons, wr_nil, wr_cons, wo_none, wo_some, wto_none, wto_some, wt_and, wt_or, wt_not, wt_cmp, wt_chain, wt_tru, wi_seq, wi_range, wi_enum, wg_nm, wg_tup, wg_nil, wg_cons, wg_sub, wp_ok, wp_bad, wp_nox, wb_add, wb_sub, wb_mul, wb_fdiv, wb_mod, wb_pow, wc_eq, wc_ne, wc_lt, wc_le, wc_gt, wc_ge, wc_eqb, wc_neb, wc_eqs, wc_nes, wx_int, wx_lent, wx_lenl, wx_lenr, wz_int, wz_str, wz_bl, wz_non, wz_tup, wz_rol, wz_ref, wz_lst, List.getElem?_cons_zero, List.getElem?_cons_succ, List.set_cons_zero, List.set_cons_succ, List.length_cons, List.length_nil, wi_tup, wi_lst, wi_rol, wx_tuplel, wx_tuplet, wx_listt, wto_some, hdq, hqc, ite_f, ite_tt, decide_eq_true_eq, Bool.not_eq_true', wisT, ex_bl, ex_int, ite_tf, ite_ff, wix0, wix1, wix2, Nat.reduceAdd, Nat.reduceLT, sl0, sl1, sl2, sl3, sl4, sl5, sl6, sl10, if_true, true_and, and_true, List.map_cons, List.map_nil, wip, wt_turn, it_non_int, it_non_bool, it_non_str, it_non_tuple, it_non_list, it_non_dict, it_bl_int, it_bl_bool, it_bl_str, it_bl_tuple, it_bl_list, it_bl_dict, it_int_int, it_int_bool, it_int_str, it_int_tuple, it_int_list, it_int_dict, it_str_int, it_str_bool, it_str_str, it_str_tuple, it_str_list, it_str_dict, it_tup_int, it_tup_bool, it_tup_str, it_tup_tuple, it_tup_list, it_tup_dict, it_lst_int, it_lst_bool, it_lst_str, it_lst_tuple, it_lst_list, it_lst_dict, it_rol_int, it_rol_bool, it_rol_str, it_rol_tuple, it_rol_list, it_rol_dict, D.isInt]
          simp; omega
        · refine ws_rets ?_
          simp only [we_con, we_varm, we_glom, we_bin, we_neg, we_cmp, we_chain, we_and, we_or, we_not, we_ife, we_tup, we_lst, we_ix, we_sl, we_rev, we_call, we_blt, we_isi, we_app, we_lc, wa_nil, wa_cons, wr_nil, wr_cons, wo_none, wo_some, wto_none, wto_some, wt_and, wt_or, wt_not, wt_cmp, wt_chain, wt_tru, wi_seq, wi_range, wi_enum, wg_nm, wg_tup, wg_nil, wg_cons, wg_sub, wp_ok, wp_bad, wp_nox, wb_add, wb_sub, wb_mul, wb_fdiv, wb_mod, wb_pow, wc_eq, wc_ne, wc_lt, wc_le, wc_gt, wc_ge, wc_eqb, wc_neb, wc_eqs, wc_nes, wx_int, wx_lent, wx_lenl, wx_lenr, wz_int, wz_str, wz_bl, wz_non, wz_tup, wz_rol, wz_ref, wz_lst, List.getElem?_cons_zero, List.getElem?_cons_succ, List.set_cons_zero, List.set_cons_succ, List.length_cons, List.length_nil, wi_tup, wi_lst, wi_rol, wx_tuplel, wx_tuplet, wx_listt, wto_some, hdq, hqc, ite_f, ite_tt, decide_eq_true_eq, Bool.not_eq_true', wisT, ex_bl, ex_int, ite_tf, ite_ff, wix0, wix1, wix2, Nat.reduceAdd, Nat.reduceLT, sl0, sl1, sl2, sl3, sl4, sl5, sl6, sl10, if_true, true_and, and_true, List.map_cons, List.map_nil, wip, wt_turn, it_non_int, it_non_bool, it_non_str, it_non_tuple, it_non_list, it_non_dict, it_bl_int, it_bl_bool, it_bl_str, it_bl_tuple, it_bl_list, it_bl_dict, it_int_int, it_int_bool, it_int_str, it_int_tuple, it_int_list, it_int_dict, it_str_int, it_str_bool, it_str_str, it_str_tuple, it_str_list, it_str_dict, it_tup_int, it_tup_bool, it_tup_str, it_tup_tuple, it_tup_list, it_tup_dict, it_lst_int, it_lst_bool, it_lst_str, it_lst_tuple, it_lst_list, it_lst_dict, it_rol_int, it_rol_bool, it_rol_str, it_rol_tuple, it_rol_list, it_rol_dict]
          refine s_pick (hD1.app) lk_new1 (Nat.ne_of_gt hD1.lt) (by simp) (by simp) fun d s' hd hD' hK' => ?_
          simp at hd
          rcases hd with rfl | rfl | rfl <;> (rw [wb_add]; exact h _ _ rfl hD' (Keep.app.trans hK'))
      · refine ws_skip ?_ (last h)
        simp only [we_con, we_varm, we_glom, we_bin, we_neg, we_cmp, we_chain, we_and, we_or, we_not, we_ife, we_tup, we_lst, we_ix, we_sl, we_rev, we_call, we_blt, we_isi, we_app, we_lc, wa_nil, wa_cons, wr_nil, wr_cons, wo_none, wo_some, wto_none, wto_some, wt_and, wt_or, wt_not, wt_cmp, wt_chain, wt_tru, wi_seq, wi_range, wi_enum, wg_nm, wg_tup, wg_nil, wg_cons, wg_sub, wp_ok, wp_bad, wp_nox, wb_add, wb_sub, wb_mul, wb_fdiv, wb_mod, wb_pow, wc_eq, wc_ne, wc_lt, wc_le, wc_gt, wc_ge, wc_eqb, wc_neb, wc_eqs, wc_nes, wx_int, wx_lent, wx_lenl, wx_lenr, wz_int, wz_str, wz_bl, wz_non, wz_tup, wz_rol, wz_ref, wz_lst, List.getElem?_cons_zero, List.getElem?_cons_succ, List.set_cons_zero, List.set_cons_succ, List.length_cons, List.length_nil, wi_tup, wi_lst, wi_rol, wx_tuplel, wx_tuplet, wx_listt, wto_some, hdq, hqc, ite_f, ite_tt, decide_eq_true_eq, Bool.not_eq_true', wisT, ex_bl, ex_int, ite_tf, ite_ff, wix0, wix1, wix2, Nat.reduceAdd, Nat.reduceLT, sl0, sl1, sl2, sl3, sl4, sl5, sl6, sl10, if_true, true_and, and_true, List.map_cons, List.map_nil, wip, wt_turn, it_non_int, it_non_bool, it_non_str, it_non_tuple, it_non_list, it_non_dict, it_bl_int, it_bl_bool, it_bl_str, it_bl_tuple, it_bl_list, it_bl_dict, it_int_int, it_int_bool, it_int_str, it_int_tuple, it_int_list, it_int_dict, it_str_int, it_str_bool, it_str_str, it_str_tuple, it_str_list, it_str_dict, it_tup_int, it_tup_bool, it_tup_str, it_tup_tuple, it_tup_list, it_tup_dict, it_lst_int, it_lst_bool, it_lst_str, it_lst_tuple, it_lst_list, it_lst_dict, it_rol_int, it_rol_bool, it_rol_str, it_rol_tuple, it_rol_list, it_rol_dict]
        rw [w_lwhole2 pv]
        simp only [we_con, we_varm, we_glom, we_bin, we_neg, we_cmp, we_chain, we_and, we_or, we_not, we_ife, we_tup, we_lst, we_ix, we_sl, we_rev, we_call, we_blt, we_isi, we_app, we_lc, wa_nil, wa_cons, wr_nil, wr_cons, wo_none, wo_some, wto_none, wto_some, wt_and, wt_or, wt_not, wt_cmp, wt_chain, wt_tru, wi_seq, wi_range, wi_enum, wg_nm, wg_tup, wg_nil, wg_cons, wg_sub, wp_ok, wp_bad, wp_nox, wb_add, wb_sub, wb_mul, wb_fdiv, wb_mod, wb_pow, wc_eq, wc_ne, wc_lt, wc_le, wc_gt, wc_ge, wc_eqb, wc_neb, wc_eqs, wc_nes, wx_int, wx_lent, wx_lenl, wx_lenr, wz_int, wz_str, wz_bl, wz_non, wz_tup, wz_rol, wz_ref, wz_lst, List.getElem?_cons_zero, List.getElem?_cons_succ, List.set_cons_zero, List.set_cons_succ, List.length_cons, List.length_nil, wi_tup, wi_lst, wi_rol, wx_tuplel, wx_tuplet, wx_listt, wto_some, hdq, hqc, ite_f, ite_tt, decide_eq_true_eq, Bool.not_eq_true', wisT, ex_bl, ex_int, ite_tf, ite_ff, wix0, wix1, wix2, Nat.reduceAdd, Nat.reduceLT, sl0, sl1, sl2, sl3, sl4, sl5, sl6, sl10, if_true, true_and, and_true, List.map_cons, List.map_nil, wip, wt_turn, it_non_int, it_non_bool, it_non_str, it_non_tuple, it_non_list, it_non_dict, it_bl_int, it_bl_bool, it_bl_str, it_bl_tuple, it_bl_list, it_bl_dict, it_int_int, it_int_bool, it_int_str, it_int_tuple, it_int_list, it_int_dict, it_str_int, it_str_bool, it_str_str, it_str_tuple, it_str_list, it_str_dict, it_tup_int, it_tup_bool, it_tup_str, it_tup_tuple, it_tup_list, it_tup_dict, it_lst_int, it_lst_bool, it_lst_str, it_lst_tuple, it_lst_list, it_lst_dict, it_rol_int, it_rol_bool, it_rol_str, it_rol_tuple, it_rol_list, it_rol_dict, D.isInt]
        simp; omega
    | tup xs => exact (hn xs rfl).elim
    | non => exact nint rfl
    | bl b => exact nint rfl
    | str b => exact nint rfl
    | _ => exact nomatch pv
  cases v with
  | tup xs =>
    have px := pl_tup pv
    by_cases hx : 0 < xs.length ∧ 0 < kind
    · refine ws_take ?_ ?_
      · simp only [we_con, we_varm, we_glom, we_bin, we_neg, we_cmp, we_chain, we_and, we_or, we_not, we_ife, we_tup, we_lst, we_ix, we_sl, we_rev, we_call, we_blt, we_isi, we_app, we_lc, wa_nil, wa_cons, wr_nil, wr_cons, wo_none, wo_some, wto_none, wto_some, wt_and, wt_or, wt_not, wt_cmp, wt_chain, wt_tru, wi_seq, wi_range, wi_enum, wg_nm, wg_tup, wg_nil, wg_cons, wg_sub, wp_ok, wp_bad, wp_nox, wb_add, wb_sub, wb_mul, wb_fdiv, wb_mod, wb_pow, wc_eq, wc_ne, wc_lt, wc_le, wc_gt, wc_ge, wc_eqb, wc_neb, wc_eqs, wc_nes, wx_int, wx_lent, wx_lenl, wx_lenr, wz_int, wz_str, wz_bl, wz_non, wz_tup, wz_rol, wz_ref, wz_lst, List.getElem?_cons_zero, List.getElem?_cons_succ, List.set_cons_zero, List.set_cons_succ, List.length_cons, List.length_nil, wi_tup, wi_lst, wi_rol, wx_tuplel, wx_tuplet, wx_listt, wto_some, hdq, hqc, ite_f, ite_tt, decide_eq_true_eq, Bool.not_eq_true', wisT, ex_bl, ex_int, ite_tf, ite_ff, wix0, wix1, wix2, Nat.reduceAdd, Nat.reduceLT, sl0, sl1, sl2, sl3, sl4, sl5, sl6, sl10, if_true, true_and, and_true, List.map_cons, List.map_nil, wip, wt_turn, it_non_int, it_non_bool, it_non_str, it_non_tuple, it_non_list, it_non_dict, it_bl_int, it_bl_bool, it_bl_str, it_bl_tuple, it_bl_list, it_bl_dict, it_int_int, it_int_bool, it_int_str, it_int_tuple, it_int_list, it_int_dict, it_str_int, it_str_bool, it_str_str, it_str_tuple, it_str_list, it_str_dict, it_tup_int, it_tup_bool, it_tup_str, it_tup_tuple, it_tup_list, it_tup_dict, it_lst_int, it_lst_bool, it_lst_str, it_lst_tuple, it_lst_list, it_lst_dict, it_rol_int, it_rol_bool, it_rol_str, it_rol_tuple, it_rol_list, it_rol_dict]
        rw [if_pos (by omega)]
        simp; omega
      · refine ws_asgs ?_
        simp only [we_con, we_varm, we_glom, we_bin, we_neg, we_cmp, we_chain, we_and, we_or, we_not, we_ife, we_tup, we_lst, we_ix, we_sl, we_rev, we_call, we_blt, we_isi, we_app, we_lc, wa_nil, wa_cons, wr_nil, wr_cons, wo_none, wo_some, wto_none, wto_some, wt_and, wt_or, wt_not, wt_cmp, wt_chain, wt_tru, wi_seq, wi_range, wi_enum, wg_nm, wg_tup, wg_nil, wg_cons, wg_sub, wp_ok, wp_bad, wp_nox, wb_add, wb_sub, wb_mul, wb_fdiv, wb_mod, wb_pow, wc_eq, wc_ne, wc_lt, wc_le, wc_gt, wc_ge, wc_eqb, wc_neb, wc_eqs, wc_nes, wx_int, wx_lent, wx_lenl, wx_lenr, wz_int, wz_str, wz_bl, wz_non, wz_tup, wz_rol, wz_ref, wz_lst, List.getElem?_cons_zero, List.getElem?_cons_succ, List.set_cons_zero, List.set_cons_succ, List.length_cons, List.length_nil, wi_tup, wi_lst, wi_rol, wx_tuplel, wx_tuplet, wx_listt, wto_some, hdq, hqc, ite_f, ite_tt, decide_eq_true_eq, Bool.not_eq_true', wisT, ex_bl, ex_int, ite_tf, ite_ff, wix0, wix1, wix2, Nat.reduceAdd, Nat.reduceLT, sl0, sl1, sl2, sl3, sl4, sl5, sl6, sl10, if_true, true_and, and_true, List.map_cons, List.map_nil, wip, wt_turn, it_non_int, it_non_bool, it_non_str, it_non_tuple, it_non_list, it_non_dict, it_bl_int, it_bl_bool, it_bl_str, it_bl_tuple, it_bl_list, it_bl_dict, it_int_int, it_int_bool, it_int_str, it_int_tuple, it_int_list, it_int_dict, it_str_int, it_str_bool, it_str_str, it_str_tuple, it_str_list, it_str_dict, it_tup_int, it_tup_bool, it_tup_str, it_tup_tuple, it_tup_list, it_tup_dict, it_lst_int, it_lst_bool, it_lst_str, it_lst_tuple, it_lst_list, it_lst_dict, it_rol_int, it_rol_bool, it_rol_str, it_rol_tuple, it_rol_list, it_rol_dict]
        refine w_draw hD1 (by omega) (by omega) fun j s2 hj hD2 hK2 => ?_
        have hj2 : j < xs.length := by omega
        simp only [we_con, we_varm, we_glom, we_bin, we_neg, we_cmp, we_chain, we_and, we_or, we_not, we_ife, we_tup, we_lst, we_ix, we_sl, we_rev, we_call, we_blt, we_isi, we_app, we_lc, wa_nil, wa_cons, wr_nil, wr_cons, wo_none, wo_some, wto_none, wto_some, wt_and, wt_or, wt_not, wt_cmp, wt_chain, wt_tru, wi_seq, wi_range, wi_enum, wg_nm, wg_tup, wg_nil, wg_cons, wg_sub, wp_ok, wp_bad, wp_nox, wb_add, wb_sub, wb_mul, wb_fdiv, wb_mod, wb_pow, wc_eq, wc_ne, wc_lt, wc_le, wc_gt, wc_ge, wc_eqb, wc_neb, wc_eqs, wc_nes, wx_int, wx_lent, wx_lenl, wx_lenr, wz_int, wz_str, wz_bl, wz_non, wz_tup, wz_rol, wz_ref, wz_lst, List.getElem?_cons_zero, List.getElem?_cons_succ, List.set_cons_zero, List.set_cons_succ, List.length_cons, List.length_nil, wi_tup, wi_lst, wi_rol, wx_tuplel, wx_tuplet, wx_listt, wto_some, hdq, hqc, ite_f, ite_tt, decide_eq_true_eq, Bool.not_eq_true', wisT, ex_bl, ex_int, ite_tf, ite_ff, wix0, wix1, wix2, Nat.reduceAdd, Nat.reduceLT, sl0, sl1, sl2, sl3, sl4, sl5, sl6, sl10, if_true, true_and, and_true, List.map_cons, List.map_nil, wip, wt_turn, it_non_int, it_non_bool, it_non_str, it_non_tuple, it_non_list, it_non_dict, it_bl_int, it_bl_bool, it_bl_str, it_bl_tuple, it_bl_list, it_bl_dict, it_int_int, it_int_bool, it_int_str, it_int_tuple, it_int_list, it_int_dict, it_str_int, it_str_bool, it_str_str, it_str_tuple, it_str_list, it_str_dict, it_tup_int, it_tup_bool, it_tup_str, it_tup_tuple, it_tup_list, it_tup_dict, it_lst_int, it_lst_bool, it_lst_str, it_lst_tuple, it_lst_list, it_lst_dict, it_rol_int, it_rol_bool, it_rol_str, it_rol_tuple, it_rol_list, it_rol_dict]
        refine ws_rets ?_
        simp only [we_con, we_varm, we_glom, we_bin, we_neg, we_cmp, we_chain, we_and, we_or, we_not, we_ife, we_tup, we_lst, we_ix, we_sl, we_rev, we_call, we_blt, we_isi, we_app, we_lc, wa_nil, wa_cons, wr_nil, wr_cons, wo_none, wo_some, wto_none, wto_some, wt_and, wt_or, wt_not, wt_cmp, wt_chain, wt_tru, wi_seq, wi_range, wi_enum, wg_nm, wg_tup, wg_nil, wg_cons, wg_sub, wp_ok, wp_bad, wp_nox, wb_add, wb_sub, wb_mul, wb_fdiv, wb_mod, wb_pow, wc_eq, wc_ne, wc_lt, wc_le, wc_gt, wc_ge, wc_eqb, wc_neb, wc_eqs, wc_nes, wx_int, wx_lent, wx_lenl, wx_lenr, wz_int, wz_str, wz_bl, wz_non, wz_tup, wz_rol, wz_ref, wz_lst, List.getElem?_cons_zero, List.getElem?_cons_succ, List.set_cons_zero, List.set_cons_succ, List.length_cons, List.length_nil, wi_tup, wi_lst, wi_rol, wx_tuplel, wx_tuplet, wx_listt, wto_some, hdq, hqc, ite_f, ite_tt, decide_eq_true_eq, Bool.not_eq_true', wisT, ex_bl, ex_int, ite_tf, ite_ff, wix0, wix1, wix2, Nat.reduceAdd, Nat.reduceLT, sl0, sl1, sl2, sl3, sl4, sl5, sl6, sl10, if_true, true_and, and_true, List.map_cons, List.map_nil, wip, wt_turn, it_non_int, it_non_bool, it_non_str, it_non_tuple, it_non_list, it_non_dict, it_bl_int, it_bl_bool, it_bl_str, it_bl_tuple, it_bl_list, it_bl_dict, it_int_int, it_int_bool, it_int_str, it_int_tuple, it_int_list, it_int_dict, it_str_int, it_str_bool, it_str_str, it_str_tuple, it_str_list, it_str_dict, it_tup_int, it_tup_bool, it_tup_str, it_tup_tuple, it_tup_list, it_tup_dict, it_lst_int, it_lst_bool, it_lst_str, it_lst_tuple, it_lst_list, it_lst_dict, it_rol_int, it_rol_bool, it_rol_str, it_rol_tuple, it_rol_list, it_rol_dict, ws_slt]
        rw [cst1, cut_take (by omega), cut_drop (by omega)]
        refine ite_p (fun h => ?_) fun h => ?_
        · rw [wixt (List.getElem?_eq_getElem hj2), wz_shr (pl_shr (px.2 _ (List.getElem_mem hj2)))]
          refine w_call (ih xs rfl _ (List.getElem_mem hj2) s2 hD2) ?_
          rintro d s3 ⟨pd, hD3, hK3⟩
          rw [wz_shr (pl_shr pd)]
          rw [wb_tadd (leL (by simp; omega))]
          rw [wb_tadd (leL (by simp; omega))]
          refine fin ?_ hD3 (hK2.trans hK3)
          refine pl_app (by simp; omega) fun x hx => ?_
          rcases List.mem_append.mp hx with hx | hx
          · rcases List.mem_append.mp hx with hx | hx
            · exact px.2 x (List.mem_of_mem_take hx)
            · simp at hx; rw [hx]; exact pd
          · exact px.2 x (List.mem_of_mem_drop hx)
        · rw [wb_tadd (leL (by simp; omega))]
          refine fin ?_ hD2 hK2
          refine pl_app (by simp; omega) fun x hx => ?_
          rcases List.mem_append.mp hx with hx | hx
          · exact px.2 x (List.mem_of_mem_take hx)
          · exact px.2 x (List.mem_of_mem_drop hx)
    · refine ws_skip ?_ ?_
      · simp only [we_con, we_varm, we_glom, we_bin, we_neg, we_cmp, we_chain, we_and, we_or, we_not, we_ife, we_tup, we_lst, we_ix, we_sl, we_rev, we_call, we_blt, we_isi, we_app, we_lc, wa_nil, wa_cons, wr_nil, wr_cons, wo_none, wo_some, wto_none, wto_some, wt_and, wt_or, wt_not, wt_cmp, wt_chain, wt_tru, wi_seq, wi_range, wi_enum, wg_nm, wg_tup, wg_nil, wg_cons, wg_sub, wp_ok, wp_bad, wp_nox, wb_add, wb_sub, wb_mul, wb_fdiv, wb_mod, wb_pow, wc_eq, wc_ne, wc_lt, wc_le, wc_gt, wc_ge, wc_eqb, wc_neb, wc_eqs, wc_nes, wx_int, wx_lent, wx_lenl, wx_lenr, wz_int, wz_str, wz_bl, wz_non, wz_tup, wz_rol, wz_ref, wz_lst, List.getElem?_cons_zero, List.getElem?_cons_succ, List.set_cons_zero, List.set_cons_succ, List.length_cons, List.length_nil, wi_tup, wi_lst, wi_rol, wx_tuplel, wx_tuplet, wx_listt, wto_some, hdq, hqc, ite_f, ite_tt, decide_eq_true_eq, Bool.not_eq_true', wisT, ex_bl, ex_int, ite_tf, ite_ff, wix0, wix1, wix2, Nat.reduceAdd, Nat.reduceLT, sl0, sl1, sl2, sl3, sl4, sl5, sl6, sl10, if_true, true_and, and_true, List.map_cons, List.map_nil, wip, wt_turn, it_non_int, it_non_bool, it_non_str, it_non_tuple, it_non_list, it_non_dict, it_bl_int, it_bl_bool, it_bl_str, it_bl_tuple, it_bl_list, it_bl_dict, it_int_int, it_int_bool, it_int_str, it_int_tuple, it_int_list, it_int_dict, it_str_int, it_str_bool, it_str_str, it_str_tuple, it_str_list, it_str_dict, it_tup_int, it_tup_bool, it_tup_str, it_tup_tuple, it_tup_list, it_tup_dict, it_lst_int, it_lst_bool, it_lst_str, it_lst_tuple, it_lst_list, it_lst_dict, it_rol_int, it_rol_bool, it_rol_str, it_rol_tuple, it_rol_list, it_rol_dict]
        refine ite_p (fun h => ?_) fun h => ?_
        · simp; omega
        · trivial
      · refine ws_skip ?_ (last fun d s' a b c => fin a b c)
        simp only [we_con, we_varm, we_glom, we_bin, we_neg, we_cmp, we_chain, we_and, we_or, we_not, we_ife, we_tup, we_lst, we_ix, we_sl, we_rev, we_call, we_blt, we_isi, we_app, we_lc, wa_nil, wa_cons, wr_nil, wr_cons, wo_none, wo_some, wto_none, wto_some, wt_and, wt_or, wt_not, wt_cmp, wt_chain, wt_tru, wi_seq, wi_range, wi_enum, wg_nm, wg_tup, wg_nil, wg_cons, wg_sub, wp_ok, wp_bad, wp_nox, wb_add, wb_sub, wb_mul, wb_fdiv, wb_mod, wb_pow, wc_eq, wc_ne, wc_lt, wc_le, wc_gt, wc_ge, wc_eqb, wc_neb, wc_eqs, wc_nes, wx_int, wx_lent, wx_lenl, wx_lenr, wz_int, wz_str, wz_bl, wz_non, wz_tup, wz_rol, wz_ref, wz_lst, List.getElem?_cons_zero, List.getElem?_cons_succ, List.set_cons_zero, List.set_cons_succ, List.length_cons, List.length_nil, wi_tup, wi_lst, wi_rol, wx_tuplel, wx_tuplet, wx_listt, wto_some, hdq, hqc, ite_f, ite_tt, decide_eq_true_eq, Bool.not_eq_true', wisT, ex_bl, ex_int, ite_tf, ite_ff, wix0, wix1, wix2, Nat.reduceAdd, Nat.reduceLT, sl0, sl1, sl2, sl3, sl4, sl5, sl6, sl10, if_true, true_and, and_true, List.map_cons, List.map_nil, wip, wt_turn, it_non_int, it_non_bool, it_non_str, it_non_tuple, it_non_list, it_non_dict, it_bl_int, it_bl_bool, it_bl_str, it_bl_tuple, it_bl_list, it_bl_dict, it_int_int, it_int_bool, it_int_str, it_int_tuple, it_int_list, it_int_dict, it_str_int, it_str_bool, it_str_str, it_str_tuple, it_str_list, it_str_dict, it_tup_int, it_tup_bool, it_tup_str, it_tup_tuple, it_tup_list, it_tup_dict, it_lst_int, it_lst_bool, it_lst_str, it_lst_tuple, it_lst_list, it_lst_dict, it_rol_int, it_rol_bool, it_rol_str, it_rol_tuple, it_rol_list, it_rol_dict]
        rw [w_lwhole2 pv]
        simp only [we_con, we_varm, we_glom, we_bin, we_neg, we_cmp, we_chain, we_and, we_or, we_not, we_ife, we_tup, we_lst, we_ix, we_sl, we_rev, we_call, we_blt, we_isi, we_app, we_lc, wa_nil, wa_cons, wr_nil, wr_cons, wo_none, wo_some, wto_none, wto_some, wt_and, wt_or, wt_not, wt_cmp, wt_chain, wt_tru, wi_seq, wi_range, wi_enum, wg_nm, wg_tup, wg_nil, wg_cons, wg_sub, wp_ok, wp_bad, wp_nox, wb_add, wb_sub, wb_mul, wb_fdiv, wb_mod, wb_pow, wc_eq, wc_ne, wc_lt, wc_le, wc_gt, wc_ge, wc_eqb, wc_neb, wc_eqs, wc_nes, wx_int, wx_lent, wx_lenl, wx_lenr, wz_int, wz_str, wz_bl, wz_non, wz_tup, wz_rol, wz_ref, wz_lst, List.getElem?_cons_zero, List.getElem?_cons_succ, List.set_cons_zero, List.set_cons_succ, List.length_cons, List.length_nil, wi_tup, wi_lst, wi_rol, wx_tuplel, wx_tuplet, wx_listt, wto_some, hdq, hqc, ite_f, ite_tt, decide_eq_true_eq, Bool.not_eq_true', wisT, ex_bl, ex_int, ite_tf, ite_ff, wix0, wix1, wix2, Nat.reduceAdd, Nat.reduceLT, sl0, sl1, sl2, sl3, sl4, sl5, sl6, sl10, if_true, true_and, and_true, List.map_cons, List.map_nil, wip, wt_turn, it_non_int, it_non_bool, it_non_str, it_non_tuple, it_non_list, it_non_dict, it_bl_int, it_bl_bool, it_bl_str, it_bl_tuple, it_bl_list, it_bl_dict, it_int_int, it_int_bool, it_int_str, it_int_tuple, it_int_list, it_int_dict, it_str_int, it_str_bool, it_str_str, it_str_tuple, it_str_list, it_str_dict, it_tup_int, it_tup_bool, it_tup_str, it_tup_tuple, it_tup_list, it_tup_dict, it_lst_int, it_lst_bool, it_lst_str, it_lst_tuple, it_lst_list, it_lst_dict, it_rol_int, it_rol_bool, it_rol_str, it_rol_tuple, it_rol_list, it_rol_dict, D.isInt]
  | non =>
    refine ws_skip ?_ (other (fun xs h => nomatch h) fun d s' a b c => fin a b c)
    simp only [we_con, we_varm, we_glom, we_bin, we_neg, we_cmp, we_chain, we_and, we_or, we_not, we_ife, we_tup, we_lst, we_ix, we_sl, we_rev, we_call, we_blt, we_isi, we_app, we_lc, wa_nil, wa_cons, wr_nil, wr_cons, wo_none, wo_some, wto_none, wto_some, wt_and, wt_or, wt_not, wt_cmp, wt_chain, wt_tru, wi_seq, wi_range, wi_enum, wg_nm, wg_tup, wg_nil, wg_cons, wg_sub, wp_ok, wp_bad, wp_nox, wb_add, wb_sub, wb_mul, wb_fdiv, wb_mod, wb_pow, wc_eq, wc_ne, wc_lt, wc_le, wc_gt, wc_ge, wc_eqb, wc_neb, wc_eqs, wc_nes, wx_int, wx_lent, wx_lenl, wx_lenr, wz_int, wz_str, wz_bl, wz_non, wz_tup, wz_rol, wz_ref, wz_lst, List.getElem?_cons_zero, List.getElem?_cons_succ, List.set_cons_zero, List.set_cons_succ, List.length_cons, List.length_nil, wi_tup, wi_lst, wi_rol, wx_tuplel, wx_tuplet, wx_listt, wto_some, hdq, hqc, ite_f, ite_tt, decide_eq_true_eq, Bool.not_eq_true', wisT, ex_bl, ex_int, ite_tf, ite_ff, wix0, wix1, wix2, Nat.reduceAdd, Nat.reduceLT, sl0, sl1, sl2, sl3, sl4, sl5, sl6, sl10, if_true, true_and, and_true, List.map_cons, List.map_nil, wip, wt_turn, it_non_int, it_non_bool, it_non_str, it_non_tuple, it_non_list, it_non_dict, it_bl_int, it_bl_bool, it_bl_str, it_bl_tuple, it_bl_list, it_bl_dict, it_int_int, it_int_bool, it_int_str, it_int_tuple, it_int_list, it_int_dict, it_str_int, it_str_bool, it_str_str, it_str_tuple, it_str_list, it_str_dict, it_tup_int, it_tup_bool, it_tup_str, it_tup_tuple, it_tup_list, it_tup_dict, it_lst_int, it_lst_bool, it_lst_str, it_lst_tuple, it_lst_list, it_lst_dict, it_rol_int, it_rol_bool, it_rol_str, it_rol_tuple, it_rol_list, it_rol_dict]
  | bl b =>
    refine ws_skip ?_ (other (fun xs h => nomatch h) fun d s' a b c => fin a b c)
    simp only [we_con, we_varm, we_glom, we_bin, we_neg, we_cmp, we_chain, we_and, we_or, we_not, we_ife, we_tup, we_lst, we_ix, we_sl, we_rev, we_call, we_blt, we_isi, we_app, we_lc, wa_nil, wa_cons, wr_nil, wr_cons, wo_none, wo_some, wto_none, wto_some, wt_and, wt_or, wt_not, wt_cmp, wt_chain, wt_tru, wi_seq, wi_range, wi_enum, wg_nm, wg_tup, wg_nil, wg_cons, wg_sub, wp_ok, wp_bad, wp_nox, wb_add, wb_sub, wb_mul, wb_fdiv, wb_mod, wb_pow, wc_eq, wc_ne, wc_lt, wc_le, wc_gt, wc_ge, wc_eqb, wc_neb, wc_eqs, wc_nes, wx_int, wx_lent, wx_lenl, wx_lenr, wz_int, wz_str, wz_bl, wz_non, wz_tup, wz_rol, wz_ref, wz_lst, List.getElem?_cons_zero, List.getElem?_cons_succ, List.set_cons_zero, List.set_cons_succ, List.length_cons, List.length_nil, wi_tup, wi_lst, wi_rol, wx_tuplel, wx_tuplet, wx_listt, wto_some, hdq, hqc, ite_f, ite_tt, decide_eq_true_eq, Bool.not_eq_true', wisT, ex_bl, ex_int, ite_tf, ite_ff, wix0, wix1, wix2, Nat.reduceAdd, Nat.reduceLT, sl0, sl1, sl2, sl3, sl4, sl5, sl6, sl10, if_true, true_and, and_true, List.map_cons, List.map_nil, wip, wt_turn, it_non_int, it_non_bool, it_non_str, it_non_tuple, it_non_list, it_non_dict, it_bl_int, it_bl_bool, it_bl_str, it_bl_tuple, it_bl_list, it_bl_dict, it_int_int, it_int_bool, it_int_str, it_int_tuple, it_int_list, it_int_dict, it_str_int, it_str_bool, it_str_str, it_str_tuple, it_str_list, it_str_dict, it_tup_int, it_tup_bool, it_tup_str, it_tup_tuple, it_tup_list, it_tup_dict, it_lst_int, it_lst_bool, it_lst_str, it_lst_tuple, it_lst_list, it_lst_dict, it_rol_int, it_rol_bool, it_rol_str, it_rol_tuple, it_rol_list, it_rol_dict]
  | int b =>
    refine ws_skip ?_ (other (fun xs h => nomatch h) fun d s' a b c => fin a b c)
    simp only [we_con, we_varm, we_glom, we_bin, we_neg, we_cmp, we_chain, we_and, we_or, we_not, we_ife, we_tup, we_lst, we_ix, we_sl, we_rev, we_call, we_blt, we_isi, we_app, we_lc, wa_nil, wa_cons, wr_nil, wr_cons, wo_none, wo_some, wto_none, wto_some, wt_and, wt_or, wt_not, wt_cmp, wt_chain, wt_tru, wi_seq, wi_range, wi_enum, wg_nm, wg_tup, wg_nil, wg_cons, wg_sub, wp_ok, wp_bad, wp_nox, wb_add, wb_sub, wb_mul, wb_fdiv, wb_mod, wb_pow, wc_eq, wc_ne, wc_lt, wc_le, wc_gt, wc_ge, wc_eqb, wc_neb, wc_eqs, wc_nes, wx_int, wx_lent, wx_lenl, wx_lenr, wz_int, wz_str, wz_bl, wz_non, wz_tup, wz_rol, wz_ref, wz_lst, List.getElem?_cons_zero, List.getElem?_cons_succ, List.set_cons_zero, List.set_cons_succ, List.length_cons, List.length_nil, wi_tup, wi_lst, wi_rol, wx_tuplel, wx_tuplet, wx_listt, wto_some, hdq, hqc, ite_f, ite_tt, decide_eq_true_eq, Bool.not_eq_true', wisT, ex_bl, ex_int, ite_tf, ite_ff, wix0, wix1, wix2, Nat.reduceAdd, Nat.reduceLT, sl0, sl1, sl2, sl3, sl4, sl5, sl6, sl10, if_true, true_and, and_true, List.map_cons, List.map_nil, wip, wt_turn, it_non_int, it_non_bool, it_non_str, it_non_tuple, it_non_list, it_non_dict, it_bl_int, it_bl_bool, it_bl_str, it_bl_tuple, it_bl_list, it_bl_dict, it_int_int, it_int_bool, it_int_str, it_int_tuple, it_int_list, it_int_dict, it_str_int, it_str_bool, it_str_str, it_str_tuple, it_str_list, it_str_dict, it_tup_int, it_tup_bool, it_tup_str, it_tup_tuple, it_tup_list, it_tup_dict, it_lst_int, it_lst_bool, it_lst_str, it_lst_tuple, it_lst_list, it_lst_dict, it_rol_int, it_rol_bool, it_rol_str, it_rol_tuple, it_rol_list, it_rol_dict]
  | str b =>
    refine ws_skip ?_ (other (fun xs h => nomatch h) fun d s' a b c => fin a b c)
    simp only [we_con, we_varm, we_glom, we_bin, we_neg, we_cmp, we_chain, we_and, we_or, we_not, we_ife, we_tup, we_lst, we_ix, we_sl, we_rev, we_call, we_blt, we_isi, we_app, we_lc, wa_nil, wa_cons, wr_nil, wr_cons, wo_none, wo_some, wto_none, wto_some, wt_and, wt_or, wt_not, wt_cmp, wt_chain, wt_tru, wi_seq, wi_range, wi_enum, wg_nm, wg_tup, wg_nil, wg_cons, wg_sub, wp_ok, wp_bad, wp_nox, wb_add, wb_sub, wb_mul, wb_fdiv, wb_mod, wb_pow, wc_eq, wc_ne, wc_lt, wc_le, wc_gt, wc_ge, wc_eqb, wc_neb, wc_eqs, wc_nes, wx_int, wx_lent, wx_lenl, wx_lenr, wz_int, wz_str, wz_bl, wz_non, wz_tup, wz_rol, wz_ref, wz_lst, List.getElem?_cons_zero, List.getElem?_cons_succ, List.set_cons_zero, List.set_cons_succ, List.length_cons, List.length_nil, wi_tup, wi_lst, wi_rol, wx_tuplel, wx_tuplet, wx_listt, wto_some, hdq, hqc, ite_f, ite_tt, decide_eq_true_eq, Bool.not_eq_true', wisT, ex_bl, ex_int, ite_tf, ite_ff, wix0, wix1, wix2, Nat.reduceAdd, Nat.reduceLT, sl0, sl1, sl2, sl3, sl4, sl5, sl6, sl10, if_true, true_and, and_true, List.map_cons, List.map_nil, wip, wt_turn, it_non_int, it_non_bool, it_non_str, it_non_tuple, it_non_list, it_non_dict, it_bl_int, it_bl_bool, it_bl_str, it_bl_tuple, it_bl_list, it_bl_dict, it_int_int, it_int_bool, it_int_str, it_int_tuple, it_int_list, it_int_dict, it_str_int, it_str_bool, it_str_str, it_str_tuple, it_str_list, it_str_dict, it_tup_int, it_tup_bool, it_tup_str, it_tup_tuple, it_tup_list, it_tup_dict, it_lst_int, it_lst_bool, it_lst_str, it_lst_tuple, it_lst_list, it_lst_dict, it_rol_int, it_rol_bool, it_rol_str, it_rol_tuple, it_rol_list, it_rol_dict]
  | _ => exact nomatch pv
theorem s_bent {i : Nat} : ∀ (k : Nat) (v : D) (s : S), v.dep ≤ k → v.pl 30 = true → Dr s i → Wp (cl (k+4) "_law_bent" [.ref i, v] s) fun d s' => d.pl 30 = true ∧ Dr s' i ∧ Keep i s s' := by
  intro k
  induction k with
  | zero =>
    intro v s hd pv hD
    refine bent_core pv hD fun xs e => ?_
    subst e
    unfold D.dep at hd; omega
  | succ k ih =>
    intro v s hd pv hD
    refine bent_core pv hD fun xs e x hx s hD => ?_
    subst e
    exact ih x s (by have := dep_mem hx; omega) ((pl_tup pv).2 x hx) hD
end DI.L

set_option Elab.async false
set_option linter.all false
set_option maxRecDepth 100000
set_option maxHeartbeats 4000000
/-! the plain law, K: what the looks say of lots; one turn of the law. -/
namespace DI.L
open PySem L2
theorem ntI_sum {f : Nat → Nat} {ns : List Nat} : (ns.map fun k => ((f k : Nat) : Int)).sum = (((ns.map f).sum : Nat) : Int) := by
  induction ns with
  | nil => rfl
  | cons n ns ih => rw [List.map_cons, List.map_cons, List.sum_cons, List.sum_cons, ih]; omega
def dVal (w : Nat) (l : List Nat) (rows : List (Nat × Nat)) (room : Nat) : D := .tup [.int (w : Nat), dNs l, dTab rows room]
theorem fv_lot {rows : List (Nat × Nat)} {room : Nat} {l : Lot} (h : l ∈ lots rows room rows.length) : fv rows room (dVal l.2.2 l.1 rows room) = if Tk rows rows.length room = l.2.2 then .non else .str "greatest" := by
  obtain ⟨h1, h2, h3, h4, h5, h6⟩ := lots_in h
  have hall : (l.1.map fun (k : Nat) => D.int (k : Int)).all (okP rows.length) = true := by
    rw [List.all_eq_true]
    intro d hd
    obtain ⟨k, hk, rfl⟩ := List.mem_map.mp hd
    have := h2 k hk
    unfold okP
    dsimp only
    rw [decide_eq_true (Int.natCast_nonneg k), decide_eq_true (by omega)]; rfl
  have hmap : (l.1.map fun (k : Nat) => D.int (k : Int)).map toN = l.1 := by
    rw [List.map_map]
    conv => rhs; rw [← List.map_id l.1]
    exact List.map_congr_left fun k _ => Int.toNat_natCast k
  show (if (l.1.map fun (k : Nat) => D.int (k : Int)).all (okP rows.length) = true then fRest rows room (l.2.2 : Nat) ((l.1.map fun (k : Nat) => D.int (k : Int)).map toN) (dTab rows room) else D.str "places") = _
  rw [if_pos hall, hmap]
  have hs : ntI l.1 = srt l.1 := by
    unfold srt
    refine set_the ?_ fun _ => Iff.rfl
    unfold ntI
    rw [List.pairwise_map]
    exact h3.imp fun h => by omega
  have hS : sumS rows l.1 = (l.2.1 : Nat) := by
    unfold sumS
    rw [h5]; exact ntI_sum
  have hW : sumW rows l.1 = (l.2.2 : Nat) := by
    unfold sumW
    rw [h6]; exact ntI_sum
  unfold fRest
  rw [if_neg (fun z => z hs), if_neg (by rw [hS]; omega), if_neg (fun z => z hW), if_neg (by rw [same_rfl]; decide)]
  by_cases h : Tk rows rows.length room = l.2.2
  · rw [if_pos h, if_pos (by omega)]
  · rw [if_neg h, if_neg (by omega)]
theorem asc_lot {rows : List (Nat × Nat)} {room : Nat} : ∀ {k left : Nat}, left ≤ room → ∃ l ∈ lots rows room k, l.1 = asc rows k left ∧ l.2.1 ≤ left ∧ l.2.2 = Tk rows k left
  | 0, left, _ => ⟨([], 0, 0), by simp [lots], rfl, Nat.zero_le _, rfl⟩
  | k + 1, left, hl => by
    by_cases hne : Tk rows (k + 1) left ≠ Tk rows k left
    · have hs : (rows.getD k (0, 0)).1 ≤ left := by
        apply Classical.byContradiction
        intro z
        exact hne (if_neg z)
      have ht : Tk rows (k + 1) left = Tk rows k (left - (rows.getD k (0, 0)).1) + (rows.getD k (0, 0)).2 := by
        have e : Tk rows (k + 1) left = max (Tk rows k left) (Tk rows k (left - (rows.getD k (0, 0)).1) + (rows.getD k (0, 0)).2) := if_pos hs
        omega
      obtain ⟨l, a, b, c, d⟩ := asc_lot (rows := rows) (room := room) (k := k) (left := left - (rows.getD k (0, 0)).1) (by omega)
      refine ⟨_, lots_succ.mpr (.inr ⟨l, a, by omega, rfl⟩), ?_, ?_, ?_⟩
      · show l.1 ++ [k] = if _ then _ else _
        rw [if_pos hne, b]
      · show l.2.1 + _ ≤ left; omega
      · show l.2.2 + _ = _; omega
    · obtain ⟨l, a, b, c, d⟩ := asc_lot (rows := rows) (room := room) (k := k) (left := left) hl
      refine ⟨l, lots_succ.mpr (.inl a), ?_, c, by omega⟩
      show l.1 = if _ then _ else _
      rw [if_neg hne, b]
def dDue (rows : List (Nat × Nat)) (room : Nat) : D := dVal (Tk rows rows.length room) (asc rows rows.length room) rows room
theorem fv_due {rows : List (Nat × Nat)} {room : Nat} : fv rows room (dDue rows room) = .non := by
  obtain ⟨l, a, b, c, d⟩ := asc_lot (rows := rows) (room := room) (k := rows.length) (left := room) (Nat.le_refl _)
  have := fv_lot a
  rw [b, d, if_pos rfl] at this
  exact this
theorem fv_plain {rows : List (Nat × Nat)} {room : Nat} {v : D} : ∃ x, (x = .non ∨ ∃ t, x = .str t) ∧ fv rows room v = x := by
  refine ⟨_, ?_, rfl⟩
  unfold fv
  split
  · split
    · unfold fRest
      repeat' split
      all_goals first | exact .inl rfl | exact .inr ⟨_, rfl⟩
    · exact .inr ⟨_, rfl⟩
  · exact .inr ⟨_, rfl⟩
theorem fv_pl {rows : List (Nat × Nat)} {room : Nat} {v : D} : (fv rows room v).pl 30 = true ∧ (fv rows room v).dep = 0 := by
  obtain ⟨x, h, e⟩ := fv_plain (rows := rows) (room := room) (v := v)
  rw [e]
  rcases h with rfl | ⟨t, rfl⟩ <;> exact ⟨rfl, rfl⟩
theorem asc_in {rows : List (Nat × Nat)} {room : Nat} : (asc rows rows.length room).length ≤ rows.length := by
  obtain ⟨l, a, b, _⟩ := asc_lot (rows := rows) (room := room) (k := rows.length) (left := room) (Nat.le_refl _)
  rw [← b]
  exact (lots_in a).1
theorem dVal_pl {rows : List (Nat × Nat)} {room w : Nat} {l : List Nat} (g : Good rows room) (h : l.length ≤ 7) : (dVal w l rows room).pl 30 = true ∧ (dVal w l rows room).dep ≤ 3 := by
  constructor
  · refine pl_app (by simp) fun x hx => ?_
    simp at hx
    rcases hx with rfl | rfl | rfl
    · rfl
    · exact pl_dNs (by omega)
    · exact pl_dTab g
  · show D.dep.D.deps _ + 1 ≤ 3
    have := deps_le (n := 2) (xs := [.int (w : Nat), dNs l, dTab rows room]) fun x hx => by
      simp at hx
      rcases hx with rfl | rfl | rfl
      · exact Nat.zero_le _
      · show D.dep.D.deps _ + 1 ≤ 2
        have := deps_le (n := 0) (xs := l.map fun (k : Nat) => D.int (k : Int)) fun x hx => by
          obtain ⟨k, _, rfl⟩ := List.mem_map.mp hx
          exact Nat.le_refl _
        omega
      · exact dep_dTab
    omega
end DI.L

set_option Elab.async false
set_option linter.all false
set_option maxRecDepth 100000
set_option maxHeartbeats 8000000
/-! the plain law, L: the law's turns. -/
namespace DI
open PySem L2
theorem ws_skipM {q : Rq} {ρ : En} {s : S} {Q : Kt} {t : IT} {a : List IS} {r : List IS} (M : S → Prop) (h : Wp (runT q t ρ s) fun k s' => k = false ∧ M s') (k : ∀ s', M s' → Ws (runSs q r ρ s') Q) : Ws (runSs q (.ife t a [] :: r) ρ s) Q := by
  rw [ws_cons]
  refine ws_ife (h.imp fun k' s' z => ?_)
  rw [if_neg (by rw [z.1]; exact Bool.false_ne_true), ws_nil]
  exact k s' z.2
theorem wc_isnn {s : S} {P : Bool → S → Prop} : Wp (cmpD .isn .non .non s) P = P false s := by with_unfolding_all rfl
namespace L
theorem c_law (k : Nat) (a : D) (s : S) : cl (k+1) "law" [a] s = runF (cfg.q k) 16 d_law.body [a] s := by kernel_rfl
theorem wz_dVal {w : Nat} {l : List Nat} {rows : List (Nat × Nat)} {room : Nat} {s : S} {PD : D → S → Prop} : Wp (setl (dVal w l rows room) s) PD = PD (dVal w l rows room) s := wz_tup
theorem wz_dDue {rows : List (Nat × Nat)} {room : Nat} {s : S} {PD : D → S → Prop} : Wp (setl (dDue rows room) s) PD = PD (dDue rows room) s := wz_tup
theorem ix_due0 {rows : List (Nat × Nat)} {room : Nat} {s : S} {PD : D → S → Prop} : Wp (ixD (dDue rows room) (.int 0) s) PD = PD (.int (Tk rows rows.length room : Nat)) s := wix0
theorem ix_due2 {rows : List (Nat × Nat)} {room : Nat} {s : S} {PD : D → S → Prop} : Wp (ixD (dDue rows room) (.int 2) s) PD = PD (dTab rows room) s := wix2
theorem wz_dRow {r : Nat × Nat} {s : S} {PD : D → S → Prop} : Wp (setl (dRow r) s) PD = PD (dRow r) s := wz_tup
theorem wx_tup_rows {rs : List (Nat × Nat)} {s : S} {PD : D → S → Prop} : Wp (bltD .tuple [.lst (rs.map dRow)] s) PD = PD (dRows rs) s := wx_tuplel
theorem law_turns {sc : D} {i : Nat} {s : S} {Q : Kt} {o : List (Option D)} (hD : Dr s i) (ho : o.length = 14) (hq : ∀ o' s', o'.length = 14 → Dr s' i → Q.nx (some sc :: some (.ref i) :: o') s') :
    Ws (runS (cfg.q 59) (match d_law.body with
      | _ :: x :: _ => x
      | _ => .pass) (some sc :: some (.ref i) :: o) s) Q := by
  unfold d_law
  dsimp only
  refine ws_fo ?_
  simp only [we_con, we_varm, we_glom, we_bin, we_neg, we_cmp, we_chain, we_and, we_or, we_not, we_ife, we_tup, we_lst, we_ix, we_sl, we_rev, we_call, we_blt, we_isi, we_app, we_lc, wa_nil, wa_cons, wr_nil, wr_cons, wo_none, wo_some, wto_none, wto_some, wt_and, wt_or, wt_not, wt_cmp, wt_chain, wt_tru, wi_seq, wi_range, wi_enum, wg_nm, wg_tup, wg_nil, wg_cons, wg_sub, wp_ok, wp_bad, wp_nox, wb_add, wb_sub, wb_mul, wb_fdiv, wb_mod, wb_pow, wc_eq, wc_ne, wc_lt, wc_le, wc_gt, wc_ge, wc_eqb, wc_neb, wc_eqs, wc_nes, wx_int, wx_lent, wx_lenl, wx_lenr, wz_int, wz_str, wz_bl, wz_non, wz_tup, wz_rol, wz_ref, wz_lst, List.getElem?_cons_zero, List.getElem?_cons_succ, List.set_cons_zero, List.set_cons_succ, List.length_cons, List.length_nil, wi_tup, wi_lst, wi_rol, wx_tuplel, wx_tuplet, wx_listt, wto_some, hdq, hqc, ite_f, ite_tt, decide_eq_true_eq, Bool.not_eq_true', wisT, ex_bl, ex_int, ite_tf, ite_ff, wix0, wix1, wix2, Nat.reduceAdd, Nat.reduceLT, sl0, sl1, sl2, sl3, sl4, sl5, sl6, sl10, if_true, true_and, and_true, List.map_cons, List.map_nil, wip, wt_turn, it_non_int, it_non_bool, it_non_str, it_non_tuple, it_non_list, it_non_dict, it_bl_int, it_bl_bool, it_bl_str, it_bl_tuple, it_bl_list, it_bl_dict, it_int_int, it_int_bool, it_int_str, it_int_tuple, it_int_list, it_int_dict, it_str_int, it_str_bool, it_str_str, it_str_tuple, it_str_list, it_str_dict, it_tup_int, it_tup_bool, it_tup_str, it_tup_tuple, it_tup_list, it_tup_dict, it_lst_int, it_lst_bool, it_lst_str, it_lst_tuple, it_lst_list, it_lst_dict, it_rol_int, it_rol_bool, it_rol_str, it_rol_tuple, it_rol_list, it_rol_dict]
  have r4 : ∀ {s : S} {P : Its → S → Prop}, Wp (rngI [.int 4] s) P = P ⟨rangeL 0 4 1, fun _ => true⟩ s := fun {s P} => wri_1 (n := 4) (by decide)
  rw [r4, range_map]
  refine ⟨fun r ρ s' => ∃ (j : Nat) (o : List (Option D)), r = (List.range' j (4 - j)).map (fun (k : Nat) => D.int (k : Int)) ∧ ρ = some sc :: some (.ref i) :: o ∧ o.length = 14 ∧ Dr s' i, ⟨0, o, rfl, rfl, ho, hD⟩, ?_, ?_⟩
  · rintro ρ s' ⟨j, o, e, rfl, ho, hD⟩
    exact ⟨rfl, hq o s' ho hD⟩
  · rintro x r ρ s' ⟨j, o, e, rfl, ho, hD⟩
    obtain ⟨m, hm⟩ : ∃ m, 4 - j = m + 1 := by
      cases h : 4 - j with
      | zero => rw [h] at e; cases e
      | succ m => exact ⟨m, rfl⟩
    rw [hm, List.range'_succ, List.map_cons] at e
    cases e
    refine ⟨rfl, ?_⟩
    have goal : ∀ o' s', o'.length = 14 → Dr s' i → ∃ (j' : Nat) (o : List (Option D)), (List.range' (j + 1) m).map (fun (k : Nat) => D.int (k : Int)) = (List.range' j' (4 - j')).map (fun (k : Nat) => D.int (k : Int)) ∧ (some sc :: some (.ref i) :: o' : En) = some sc :: some (.ref i) :: o ∧ o.length = 14 ∧ Dr s' i :=
      fun o' s' a b => ⟨j + 1, o', by rw [show 4 - (j + 1) = m by omega], rfl, a, b⟩
    match o, ho with
    | [o2, o3, o4, o5, o6, o7, o8, o9, o10, o11, o12, o13, o14, o15], _ =>
    simp only [we_con, we_varm, we_glom, we_bin, we_neg, we_cmp, we_chain, we_and, we_or, we_not, we_ife, we_tup, we_lst, we_ix, we_sl, we_rev, we_call, we_blt, we_isi, we_app, we_lc, wa_nil, wa_cons, wr_nil, wr_cons, wo_none, wo_some, wto_none, wto_some, wt_and, wt_or, wt_not, wt_cmp, wt_chain, wt_tru, wi_seq, wi_range, wi_enum, wg_nm, wg_tup, wg_nil, wg_cons, wg_sub, wp_ok, wp_bad, wp_nox, wb_add, wb_sub, wb_mul, wb_fdiv, wb_mod, wb_pow, wc_eq, wc_ne, wc_lt, wc_le, wc_gt, wc_ge, wc_eqb, wc_neb, wc_eqs, wc_nes, wx_int, wx_lent, wx_lenl, wx_lenr, wz_int, wz_str, wz_bl, wz_non, wz_tup, wz_rol, wz_ref, wz_lst, List.getElem?_cons_zero, List.getElem?_cons_succ, List.set_cons_zero, List.set_cons_succ, List.length_cons, List.length_nil, wi_tup, wi_lst, wi_rol, wx_tuplel, wx_tuplet, wx_listt, wto_some, hdq, hqc, ite_f, ite_tt, decide_eq_true_eq, Bool.not_eq_true', wisT, ex_bl, ex_int, ite_tf, ite_ff, wix0, wix1, wix2, Nat.reduceAdd, Nat.reduceLT, sl0, sl1, sl2, sl3, sl4, sl5, sl6, sl10, if_true, true_and, and_true, List.map_cons, List.map_nil, wip, wt_turn, it_non_int, it_non_bool, it_non_str, it_non_tuple, it_non_list, it_non_dict, it_bl_int, it_bl_bool, it_bl_str, it_bl_tuple, it_bl_list, it_bl_dict, it_int_int, it_int_bool, it_int_str, it_int_tuple, it_int_list, it_int_dict, it_str_int, it_str_bool, it_str_str, it_str_tuple, it_str_list, it_str_dict, it_tup_int, it_tup_bool, it_tup_str, it_tup_tuple, it_tup_list, it_tup_dict, it_lst_int, it_lst_bool, it_lst_str, it_lst_tuple, it_lst_list, it_lst_dict, it_rol_int, it_rol_bool, it_rol_str, it_rol_tuple, it_rol_list, it_rol_dict]
    -- rows
    refine ws_asgs ?_
    simp only [we_con, we_varm, we_glom, we_bin, we_neg, we_cmp, we_chain, we_and, we_or, we_not, we_ife, we_tup, we_lst, we_ix, we_sl, we_rev, we_call, we_blt, we_isi, we_app, we_lc, wa_nil, wa_cons, wr_nil, wr_cons, wo_none, wo_some, wto_none, wto_some, wt_and, wt_or, wt_not, wt_cmp, wt_chain, wt_tru, wi_seq, wi_range, wi_enum, wg_nm, wg_tup, wg_nil, wg_cons, wg_sub, wp_ok, wp_bad, wp_nox, wb_add, wb_sub, wb_mul, wb_fdiv, wb_mod, wb_pow, wc_eq, wc_ne, wc_lt, wc_le, wc_gt, wc_ge, wc_eqb, wc_neb, wc_eqs, wc_nes, wx_int, wx_lent, wx_lenl, wx_lenr, wz_int, wz_str, wz_bl, wz_non, wz_tup, wz_rol, wz_ref, wz_lst, List.getElem?_cons_zero, List.getElem?_cons_succ, List.set_cons_zero, List.set_cons_succ, List.length_cons, List.length_nil, wi_tup, wi_lst, wi_rol, wx_tuplel, wx_tuplet, wx_listt, wto_some, hdq, hqc, ite_f, ite_tt, decide_eq_true_eq, Bool.not_eq_true', wisT, ex_bl, ex_int, ite_tf, ite_ff, wix0, wix1, wix2, Nat.reduceAdd, Nat.reduceLT, sl0, sl1, sl2, sl3, sl4, sl5, sl6, sl10, if_true, true_and, and_true, List.map_cons, List.map_nil, wip, wt_turn, it_non_int, it_non_bool, it_non_str, it_non_tuple, it_non_list, it_non_dict, it_bl_int, it_bl_bool, it_bl_str, it_bl_tuple, it_bl_list, it_bl_dict, it_int_int, it_int_bool, it_int_str, it_int_tuple, it_int_list, it_int_dict, it_str_int, it_str_bool, it_str_str, it_str_tuple, it_str_list, it_str_dict, it_tup_int, it_tup_bool, it_tup_str, it_tup_tuple, it_tup_list, it_tup_dict, it_lst_int, it_lst_bool, it_lst_str, it_lst_tuple, it_lst_list, it_lst_dict, it_rol_int, it_rol_bool, it_rol_str, it_rol_tuple, it_rol_list, it_rol_dict]
    refine w_draw hD (by decide) (by decide) fun n s1 hn hD1 hK1 => ?_
    rw [wri_1 (n := n) (lt62 (by omega)), range_map]
    refine wl_inv (fun it acc s' => ∃ (j : Nat) (rs : List (Nat × Nat)), it = (List.range' j (n - j)).map (fun (k : Nat) => D.int (k : Int)) ∧ acc = rs.map dRow ∧ rs.length = j ∧ j ≤ n ∧ (∀ r ∈ rs, 1 ≤ r.1) ∧ Dr s' i) ⟨0, [], rfl, rfl, rfl, Nat.zero_le _, by simp, hD1⟩ ?_ ?_
    · rintro acc s2 ⟨j, rs, e, rfl, hl, hj, hr, hD2⟩
      refine ⟨rfl, ?_⟩
      rw [wx_tup_rows, wz_dRows]
      refine ws_asgs ?_
      simp only [we_con, we_varm, we_glom, we_bin, we_neg, we_cmp, we_chain, we_and, we_or, we_not, we_ife, we_tup, we_lst, we_ix, we_sl, we_rev, we_call, we_blt, we_isi, we_app, we_lc, wa_nil, wa_cons, wr_nil, wr_cons, wo_none, wo_some, wto_none, wto_some, wt_and, wt_or, wt_not, wt_cmp, wt_chain, wt_tru, wi_seq, wi_range, wi_enum, wg_nm, wg_tup, wg_nil, wg_cons, wg_sub, wp_ok, wp_bad, wp_nox, wb_add, wb_sub, wb_mul, wb_fdiv, wb_mod, wb_pow, wc_eq, wc_ne, wc_lt, wc_le, wc_gt, wc_ge, wc_eqb, wc_neb, wc_eqs, wc_nes, wx_int, wx_lent, wx_lenl, wx_lenr, wz_int, wz_str, wz_bl, wz_non, wz_tup, wz_rol, wz_ref, wz_lst, List.getElem?_cons_zero, List.getElem?_cons_succ, List.set_cons_zero, List.set_cons_succ, List.length_cons, List.length_nil, wi_tup, wi_lst, wi_rol, wx_tuplel, wx_tuplet, wx_listt, wto_some, hdq, hqc, ite_f, ite_tt, decide_eq_true_eq, Bool.not_eq_true', wisT, ex_bl, ex_int, ite_tf, ite_ff, wix0, wix1, wix2, Nat.reduceAdd, Nat.reduceLT, sl0, sl1, sl2, sl3, sl4, sl5, sl6, sl10, if_true, true_and, and_true, List.map_cons, List.map_nil, wip, wt_turn, it_non_int, it_non_bool, it_non_str, it_non_tuple, it_non_list, it_non_dict, it_bl_int, it_bl_bool, it_bl_str, it_bl_tuple, it_bl_list, it_bl_dict, it_int_int, it_int_bool, it_int_str, it_int_tuple, it_int_list, it_int_dict, it_str_int, it_str_bool, it_str_str, it_str_tuple, it_str_list, it_str_dict, it_tup_int, it_tup_bool, it_tup_str, it_tup_tuple, it_tup_list, it_tup_dict, it_lst_int, it_lst_bool, it_lst_str, it_lst_tuple, it_lst_list, it_lst_dict, it_rol_int, it_rol_bool, it_rol_str, it_rol_tuple, it_rol_list, it_rol_dict]
      refine w_draw hD2 (by decide) (by decide) fun room s3 hroom hD3 hK3 => ?_
      have g : Good rs room := ⟨by omega, hr, by omega⟩
      simp only [we_con, we_varm, we_glom, we_bin, we_neg, we_cmp, we_chain, we_and, we_or, we_not, we_ife, we_tup, we_lst, we_ix, we_sl, we_rev, we_call, we_blt, we_isi, we_app, we_lc, wa_nil, wa_cons, wr_nil, wr_cons, wo_none, wo_some, wto_none, wto_some, wt_and, wt_or, wt_not, wt_cmp, wt_chain, wt_tru, wi_seq, wi_range, wi_enum, wg_nm, wg_tup, wg_nil, wg_cons, wg_sub, wp_ok, wp_bad, wp_nox, wb_add, wb_sub, wb_mul, wb_fdiv, wb_mod, wb_pow, wc_eq, wc_ne, wc_lt, wc_le, wc_gt, wc_ge, wc_eqb, wc_neb, wc_eqs, wc_nes, wx_int, wx_lent, wx_lenl, wx_lenr, wz_int, wz_str, wz_bl, wz_non, wz_tup, wz_rol, wz_ref, wz_lst, List.getElem?_cons_zero, List.getElem?_cons_succ, List.set_cons_zero, List.set_cons_succ, List.length_cons, List.length_nil, wi_tup, wi_lst, wi_rol, wx_tuplel, wx_tuplet, wx_listt, wto_some, hdq, hqc, ite_f, ite_tt, decide_eq_true_eq, Bool.not_eq_true', wisT, ex_bl, ex_int, ite_tf, ite_ff, wix0, wix1, wix2, Nat.reduceAdd, Nat.reduceLT, sl0, sl1, sl2, sl3, sl4, sl5, sl6, sl10, if_true, true_and, and_true, List.map_cons, List.map_nil, wip, wt_turn, it_non_int, it_non_bool, it_non_str, it_non_tuple, it_non_list, it_non_dict, it_bl_int, it_bl_bool, it_bl_str, it_bl_tuple, it_bl_list, it_bl_dict, it_int_int, it_int_bool, it_int_str, it_int_tuple, it_int_list, it_int_dict, it_str_int, it_str_bool, it_str_str, it_str_tuple, it_str_list, it_str_dict, it_tup_int, it_tup_bool, it_tup_str, it_tup_tuple, it_tup_list, it_tup_dict, it_lst_int, it_lst_bool, it_lst_str, it_lst_tuple, it_lst_list, it_lst_dict, it_rol_int, it_rol_bool, it_rol_str, it_rol_tuple, it_rol_list, it_rol_dict]
      refine ws_asgs ?_
      simp only [we_con, we_varm, we_glom, we_bin, we_neg, we_cmp, we_chain, we_and, we_or, we_not, we_ife, we_tup, we_lst, we_ix, we_sl, we_rev, we_call, we_blt, we_isi, we_app, we_lc, wa_nil, wa_cons, wr_nil, wr_cons, wo_none, wo_some, wto_none, wto_some, wt_and, wt_or, wt_not, wt_cmp, wt_chain, wt_tru, wi_seq, wi_range, wi_enum, wg_nm, wg_tup, wg_nil, wg_cons, wg_sub, wp_ok, wp_bad, wp_nox, wb_add, wb_sub, wb_mul, wb_fdiv, wb_mod, wb_pow, wc_eq, wc_ne, wc_lt, wc_le, wc_gt, wc_ge, wc_eqb, wc_neb, wc_eqs, wc_nes, wx_int, wx_lent, wx_lenl, wx_lenr, wz_int, wz_str, wz_bl, wz_non, wz_tup, wz_rol, wz_ref, wz_lst, List.getElem?_cons_zero, List.getElem?_cons_succ, List.set_cons_zero, List.set_cons_succ, List.length_cons, List.length_nil, wi_tup, wi_lst, wi_rol, wx_tuplel, wx_tuplet, wx_listt, wto_some, hdq, hqc, ite_f, ite_tt, decide_eq_true_eq, Bool.not_eq_true', wisT, ex_bl, ex_int, ite_tf, ite_ff, wix0, wix1, wix2, Nat.reduceAdd, Nat.reduceLT, sl0, sl1, sl2, sl3, sl4, sl5, sl6, sl10, if_true, true_and, and_true, List.map_cons, List.map_nil, wip, wt_turn, it_non_int, it_non_bool, it_non_str, it_non_tuple, it_non_list, it_non_dict, it_bl_int, it_bl_bool, it_bl_str, it_bl_tuple, it_bl_list, it_bl_dict, it_int_int, it_int_bool, it_int_str, it_int_tuple, it_int_list, it_int_dict, it_str_int, it_str_bool, it_str_str, it_str_tuple, it_str_list, it_str_dict, it_tup_int, it_tup_bool, it_tup_str, it_tup_tuple, it_tup_list, it_tup_dict, it_lst_int, it_lst_bool, it_lst_str, it_lst_tuple, it_lst_list, it_lst_dict, it_rol_int, it_rol_bool, it_rol_str, it_rol_tuple, it_rol_list, it_rol_dict, wz_dRows]
      refine w_call (k := 59) (s_due (k := 56) g) ?_
      rintro d s4 ⟨rfl, t4, rfl⟩
      show Wp (setl (dDue rs room) _) _
      rw [wz_dDue]
      have hD4 : Dr (s3 ++ t4) i := hD3.app
      generalize s3 ++ t4 = s4 at *
      obtain ⟨pd, dd⟩ := dVal_pl (w := Tk rs rs.length room) (l := asc rs rs.length room) g (Nat.le_trans asc_in (by omega))
      -- the program's own
      refine ws_skipM (fun s' => Dr s' i) ?_ fun s5 hD5 => ?_
      · simp only [we_con, we_varm, we_glom, we_bin, we_neg, we_cmp, we_chain, we_and, we_or, we_not, we_ife, we_tup, we_lst, we_ix, we_sl, we_rev, we_call, we_blt, we_isi, we_app, we_lc, wa_nil, wa_cons, wr_nil, wr_cons, wo_none, wo_some, wto_none, wto_some, wt_and, wt_or, wt_not, wt_cmp, wt_chain, wt_tru, wi_seq, wi_range, wi_enum, wg_nm, wg_tup, wg_nil, wg_cons, wg_sub, wp_ok, wp_bad, wp_nox, wb_add, wb_sub, wb_mul, wb_fdiv, wb_mod, wb_pow, wc_eq, wc_ne, wc_lt, wc_le, wc_gt, wc_ge, wc_eqb, wc_neb, wc_eqs, wc_nes, wx_int, wx_lent, wx_lenl, wx_lenr, wz_int, wz_str, wz_bl, wz_non, wz_tup, wz_rol, wz_ref, wz_lst, List.getElem?_cons_zero, List.getElem?_cons_succ, List.set_cons_zero, List.set_cons_succ, List.length_cons, List.length_nil, wi_tup, wi_lst, wi_rol, wx_tuplel, wx_tuplet, wx_listt, wto_some, hdq, hqc, ite_f, ite_tt, decide_eq_true_eq, Bool.not_eq_true', wisT, ex_bl, ex_int, ite_tf, ite_ff, wix0, wix1, wix2, Nat.reduceAdd, Nat.reduceLT, sl0, sl1, sl2, sl3, sl4, sl5, sl6, sl10, if_true, true_and, and_true, List.map_cons, List.map_nil, wip, wt_turn, it_non_int, it_non_bool, it_non_str, it_non_tuple, it_non_list, it_non_dict, it_bl_int, it_bl_bool, it_bl_str, it_bl_tuple, it_bl_list, it_bl_dict, it_int_int, it_int_bool, it_int_str, it_int_tuple, it_int_list, it_int_dict, it_str_int, it_str_bool, it_str_str, it_str_tuple, it_str_list, it_str_dict, it_tup_int, it_tup_bool, it_tup_str, it_tup_tuple, it_tup_list, it_tup_dict, it_lst_int, it_lst_bool, it_lst_str, it_lst_tuple, it_lst_list, it_lst_dict, it_rol_int, it_rol_bool, it_rol_str, it_rol_tuple, it_rol_list, it_rol_dict, wz_dRows]
        refine w_call (k := 59) (s_kept (k := 56) g) ?_
        rintro d s5 ⟨rfl, t5, rfl⟩
        show Wp (setl (dDue rs room) _) _
        rw [wz_dDue]
        show Wp (setl (dDue rs room) _) _
        rw [wz_dDue]
        refine w_call (k := 59) (s_same (n := 30) (by decide) 58 (dDue rs room) (dDue rs room) _ (Nat.le_trans dd (by decide)) pd pd) ?_
        rintro d s6 ⟨rfl, rfl⟩
        rw [same_rfl]
        simp only [we_con, we_varm, we_glom, we_bin, we_neg, we_cmp, we_chain, we_and, we_or, we_not, we_ife, we_tup, we_lst, we_ix, we_sl, we_rev, we_call, we_blt, we_isi, we_app, we_lc, wa_nil, wa_cons, wr_nil, wr_cons, wo_none, wo_some, wto_none, wto_some, wt_and, wt_or, wt_not, wt_cmp, wt_chain, wt_tru, wi_seq, wi_range, wi_enum, wg_nm, wg_tup, wg_nil, wg_cons, wg_sub, wp_ok, wp_bad, wp_nox, wb_add, wb_sub, wb_mul, wb_fdiv, wb_mod, wb_pow, wc_eq, wc_ne, wc_lt, wc_le, wc_gt, wc_ge, wc_eqb, wc_neb, wc_eqs, wc_nes, wx_int, wx_lent, wx_lenl, wx_lenr, wz_int, wz_str, wz_bl, wz_non, wz_tup, wz_rol, wz_ref, wz_lst, List.getElem?_cons_zero, List.getElem?_cons_succ, List.set_cons_zero, List.set_cons_succ, List.length_cons, List.length_nil, wi_tup, wi_lst, wi_rol, wx_tuplel, wx_tuplet, wx_listt, wto_some, hdq, hqc, ite_f, ite_tt, decide_eq_true_eq, Bool.not_eq_true', wisT, ex_bl, ex_int, ite_tf, ite_ff, wix0, wix1, wix2, Nat.reduceAdd, Nat.reduceLT, sl0, sl1, sl2, sl3, sl4, sl5, sl6, sl10, if_true, true_and, and_true, List.map_cons, List.map_nil, wip, wt_turn, it_non_int, it_non_bool, it_non_str, it_non_tuple, it_non_list, it_non_dict, it_bl_int, it_bl_bool, it_bl_str, it_bl_tuple, it_bl_list, it_bl_dict, it_int_int, it_int_bool, it_int_str, it_int_tuple, it_int_list, it_int_dict, it_str_int, it_str_bool, it_str_str, it_str_tuple, it_str_list, it_str_dict, it_tup_int, it_tup_bool, it_tup_str, it_tup_tuple, it_tup_list, it_tup_dict, it_lst_int, it_lst_bool, it_lst_str, it_lst_tuple, it_lst_list, it_lst_dict, it_rol_int, it_rol_bool, it_rol_str, it_rol_tuple, it_rol_list, it_rol_dict]
        show Wp (setl (dDue rs room) _) _
        rw [wz_dDue]
        refine w_call (k := 59) (s_bf (k := 54) g pd) ?_
        rintro d s7 ⟨rfl, t7, rfl⟩
        show Wp (cmpD .isn (fv rs room (dDue rs room)) .non _) _
        rw [fv_due, wc_isnn]
        exact ⟨rfl, hD4.app.app⟩
      -- the lots
      refine ws_asgs ?_
      simp only [we_con, we_varm, we_glom, we_bin, we_neg, we_cmp, we_chain, we_and, we_or, we_not, we_ife, we_tup, we_lst, we_ix, we_sl, we_rev, we_call, we_blt, we_isi, we_app, we_lc, wa_nil, wa_cons, wr_nil, wr_cons, wo_none, wo_some, wto_none, wto_some, wt_and, wt_or, wt_not, wt_cmp, wt_chain, wt_tru, wi_seq, wi_range, wi_enum, wg_nm, wg_tup, wg_nil, wg_cons, wg_sub, wp_ok, wp_bad, wp_nox, wb_add, wb_sub, wb_mul, wb_fdiv, wb_mod, wb_pow, wc_eq, wc_ne, wc_lt, wc_le, wc_gt, wc_ge, wc_eqb, wc_neb, wc_eqs, wc_nes, wx_int, wx_lent, wx_lenl, wx_lenr, wz_int, wz_str, wz_bl, wz_non, wz_tup, wz_rol, wz_ref, wz_lst, List.getElem?_cons_zero, List.getElem?_cons_succ, List.set_cons_zero, List.set_cons_succ, List.length_cons, List.length_nil, wi_tup, wi_lst, wi_rol, wx_tuplel, wx_tuplet, wx_listt, wto_some, hdq, hqc, ite_f, ite_tt, decide_eq_true_eq, Bool.not_eq_true', wisT, ex_bl, ex_int, ite_tf, ite_ff, wix0, wix1, wix2, Nat.reduceAdd, Nat.reduceLT, sl0, sl1, sl2, sl3, sl4, sl5, sl6, sl10, if_true, true_and, and_true, List.map_cons, List.map_nil, wip, wt_turn, it_non_int, it_non_bool, it_non_str, it_non_tuple, it_non_list, it_non_dict, it_bl_int, it_bl_bool, it_bl_str, it_bl_tuple, it_bl_list, it_bl_dict, it_int_int, it_int_bool, it_int_str, it_int_tuple, it_int_list, it_int_dict, it_str_int, it_str_bool, it_str_str, it_str_tuple, it_str_list, it_str_dict, it_tup_int, it_tup_bool, it_tup_str, it_tup_tuple, it_tup_list, it_tup_dict, it_lst_int, it_lst_bool, it_lst_str, it_lst_tuple, it_lst_list, it_lst_dict, it_rol_int, it_rol_bool, it_rol_str, it_rol_tuple, it_rol_list, it_rol_dict, wz_dRows]
      refine w_call (k := 59) (s_lots (k := 58) g) ?_
      rintro d s6 ⟨r, t6, rfl, rfl, hl⟩
      simp only [we_con, we_varm, we_glom, we_bin, we_neg, we_cmp, we_chain, we_and, we_or, we_not, we_ife, we_tup, we_lst, we_ix, we_sl, we_rev, we_call, we_blt, we_isi, we_app, we_lc, wa_nil, wa_cons, wr_nil, wr_cons, wo_none, wo_some, wto_none, wto_some, wt_and, wt_or, wt_not, wt_cmp, wt_chain, wt_tru, wi_seq, wi_range, wi_enum, wg_nm, wg_tup, wg_nil, wg_cons, wg_sub, wp_ok, wp_bad, wp_nox, wb_add, wb_sub, wb_mul, wb_fdiv, wb_mod, wb_pow, wc_eq, wc_ne, wc_lt, wc_le, wc_gt, wc_ge, wc_eqb, wc_neb, wc_eqs, wc_nes, wx_int, wx_lent, wx_lenl, wx_lenr, wz_int, wz_str, wz_bl, wz_non, wz_tup, wz_rol, wz_ref, wz_lst, List.getElem?_cons_zero, List.getElem?_cons_succ, List.set_cons_zero, List.set_cons_succ, List.length_cons, List.length_nil, wi_tup, wi_lst, wi_rol, wx_tuplel, wx_tuplet, wx_listt, wto_some, hdq, hqc, ite_f, ite_tt, decide_eq_true_eq, Bool.not_eq_true', wisT, ex_bl, ex_int, ite_tf, ite_ff, wix0, wix1, wix2, Nat.reduceAdd, Nat.reduceLT, sl0, sl1, sl2, sl3, sl4, sl5, sl6, sl10, if_true, true_and, and_true, List.map_cons, List.map_nil, wip, wt_turn, it_non_int, it_non_bool, it_non_str, it_non_tuple, it_non_list, it_non_dict, it_bl_int, it_bl_bool, it_bl_str, it_bl_tuple, it_bl_list, it_bl_dict, it_int_int, it_int_bool, it_int_str, it_int_tuple, it_int_list, it_int_dict, it_str_int, it_str_bool, it_str_str, it_str_tuple, it_str_list, it_str_dict, it_tup_int, it_tup_bool, it_tup_str, it_tup_tuple, it_tup_list, it_tup_dict, it_lst_int, it_lst_bool, it_lst_str, it_lst_tuple, it_lst_list, it_lst_dict, it_rol_int, it_rol_bool, it_rol_str, it_rol_tuple, it_rol_list, it_rol_dict]
      have hD6 : Dr (s5 ++ t6) i := hD5.app
      generalize s5 ++ t6 = s6 at *
      have hri : r ≠ i := by
        rintro rfl
        obtain ⟨j, ns, a, b, c, hi, _⟩ := hD6
        rw [hl] at hi
        cases hlo : lots rs room rs.length with
        | nil => rw [hlo] at hi; cases hi
        | cons x xs => rw [hlo] at hi; cases hi
      have lpos : 1 ≤ (lots rs room rs.length).length := by
        have := lots_nil (rows := rs) (room := room) (k := rs.length)
        cases hlo : lots rs room rs.length with
        | nil => rw [hlo] at this; cases this
        | cons x xs => simp
      have lbig : (lots rs room rs.length).length ≤ 128 := Nat.le_trans lots_len (Nat.le_trans (Nat.pow_le_pow_right (by decide) (by omega : rs.length ≤ 7)) (by decide))
      refine ws_asgs ?_
      simp only [we_con, we_varm, we_glom, we_bin, we_neg, we_cmp, we_chain, we_and, we_or, we_not, we_ife, we_tup, we_lst, we_ix, we_sl, we_rev, we_call, we_blt, we_isi, we_app, we_lc, wa_nil, wa_cons, wr_nil, wr_cons, wo_none, wo_some, wto_none, wto_some, wt_and, wt_or, wt_not, wt_cmp, wt_chain, wt_tru, wi_seq, wi_range, wi_enum, wg_nm, wg_tup, wg_nil, wg_cons, wg_sub, wp_ok, wp_bad, wp_nox, wb_add, wb_sub, wb_mul, wb_fdiv, wb_mod, wb_pow, wc_eq, wc_ne, wc_lt, wc_le, wc_gt, wc_ge, wc_eqb, wc_neb, wc_eqs, wc_nes, wx_int, wx_lent, wx_lenl, wx_lenr, wz_int, wz_str, wz_bl, wz_non, wz_tup, wz_rol, wz_ref, wz_lst, List.getElem?_cons_zero, List.getElem?_cons_succ, List.set_cons_zero, List.set_cons_succ, List.length_cons, List.length_nil, wi_tup, wi_lst, wi_rol, wx_tuplel, wx_tuplet, wx_listt, wto_some, hdq, hqc, ite_f, ite_tt, decide_eq_true_eq, Bool.not_eq_true', wisT, ex_bl, ex_int, ite_tf, ite_ff, wix0, wix1, wix2, Nat.reduceAdd, Nat.reduceLT, sl0, sl1, sl2, sl3, sl4, sl5, sl6, sl10, if_true, true_and, and_true, List.map_cons, List.map_nil, wip, wt_turn, it_non_int, it_non_bool, it_non_str, it_non_tuple, it_non_list, it_non_dict, it_bl_int, it_bl_bool, it_bl_str, it_bl_tuple, it_bl_list, it_bl_dict, it_int_int, it_int_bool, it_int_str, it_int_tuple, it_int_list, it_int_dict, it_str_int, it_str_bool, it_str_str, it_str_tuple, it_str_list, it_str_dict, it_tup_int, it_tup_bool, it_tup_str, it_tup_tuple, it_tup_list, it_tup_dict, it_lst_int, it_lst_bool, it_lst_str, it_lst_tuple, it_lst_list, it_lst_dict, it_rol_int, it_rol_bool, it_rol_str, it_rol_tuple, it_rol_list, it_rol_dict]
      rw [wx_len hl]
      simp only [we_con, we_varm, we_glom, we_bin, we_neg, we_cmp, we_chain, we_and, we_or, we_not, we_ife, we_tup, we_lst, we_ix, we_sl, we_rev, we_call, we_blt, we_isi, we_app, we_lc, wa_nil, wa_cons, wr_nil, wr_cons, wo_none, wo_some, wto_none, wto_some, wt_and, wt_or, wt_not, wt_cmp, wt_chain, wt_tru, wi_seq, wi_range, wi_enum, wg_nm, wg_tup, wg_nil, wg_cons, wg_sub, wp_ok, wp_bad, wp_nox, wb_add, wb_sub, wb_mul, wb_fdiv, wb_mod, wb_pow, wc_eq, wc_ne, wc_lt, wc_le, wc_gt, wc_ge, wc_eqb, wc_neb, wc_eqs, wc_nes, wx_int, wx_lent, wx_lenl, wx_lenr, wz_int, wz_str, wz_bl, wz_non, wz_tup, wz_rol, wz_ref, wz_lst, List.getElem?_cons_zero, List.getElem?_cons_succ, List.set_cons_zero, List.set_cons_succ, List.length_cons, List.length_nil, wi_tup, wi_lst, wi_rol, wx_tuplel, wx_tuplet, wx_listt, wto_some, hdq, hqc, ite_f, ite_tt, decide_eq_true_eq, Bool.not_eq_true', wisT, ex_bl, ex_int, ite_tf, ite_ff, wix0, wix1, wix2, Nat.reduceAdd, Nat.reduceLT, sl0, sl1, sl2, sl3, sl4, sl5, sl6, sl10, if_true, true_and, and_true, List.map_cons, List.map_nil, wip, wt_turn, it_non_int, it_non_bool, it_non_str, it_non_tuple, it_non_list, it_non_dict, it_bl_int, it_bl_bool, it_bl_str, it_bl_tuple, it_bl_list, it_bl_dict, it_int_int, it_int_bool, it_int_str, it_int_tuple, it_int_list, it_int_dict, it_str_int, it_str_bool, it_str_str, it_str_tuple, it_str_list, it_str_dict, it_tup_int, it_tup_bool, it_tup_str, it_tup_tuple, it_tup_list, it_tup_dict, it_lst_int, it_lst_bool, it_lst_str, it_lst_tuple, it_lst_list, it_lst_dict, it_rol_int, it_rol_bool, it_rol_str, it_rol_tuple, it_rol_list, it_rol_dict, List.length_map]
      refine w_draw hD6 (by omega) (by omega) fun z s7 hz hD7 hK7 => ?_
      have hz2 : z < (lots rs room rs.length).length := by omega
      rw [wixr (hK7 r _ hri hl) (atI_nat (x := dLot (lots rs room rs.length)[z]) (by rw [List.getElem?_map, List.getElem?_eq_getElem hz2]; rfl))]
      have hlot : (lots rs room rs.length)[z] ∈ lots rs room rs.length := List.getElem_mem hz2
      generalize (lots rs room rs.length)[z] = l at hlot
      simp only [we_con, we_varm, we_glom, we_bin, we_neg, we_cmp, we_chain, we_and, we_or, we_not, we_ife, we_tup, we_lst, we_ix, we_sl, we_rev, we_call, we_blt, we_isi, we_app, we_lc, wa_nil, wa_cons, wr_nil, wr_cons, wo_none, wo_some, wto_none, wto_some, wt_and, wt_or, wt_not, wt_cmp, wt_chain, wt_tru, wi_seq, wi_range, wi_enum, wg_nm, wg_tup, wg_nil, wg_cons, wg_sub, wp_ok, wp_bad, wp_nox, wb_add, wb_sub, wb_mul, wb_fdiv, wb_mod, wb_pow, wc_eq, wc_ne, wc_lt, wc_le, wc_gt, wc_ge, wc_eqb, wc_neb, wc_eqs, wc_nes, wx_int, wx_lent, wx_lenl, wx_lenr, wz_int, wz_str, wz_bl, wz_non, wz_tup, wz_rol, wz_ref, wz_lst, List.getElem?_cons_zero, List.getElem?_cons_succ, List.set_cons_zero, List.set_cons_succ, List.length_cons, List.length_nil, wi_tup, wi_lst, wi_rol, wx_tuplel, wx_tuplet, wx_listt, wto_some, hdq, hqc, ite_f, ite_tt, decide_eq_true_eq, Bool.not_eq_true', wisT, ex_bl, ex_int, ite_tf, ite_ff, wix0, wix1, wix2, Nat.reduceAdd, Nat.reduceLT, sl0, sl1, sl2, sl3, sl4, sl5, sl6, sl10, if_true, true_and, and_true, List.map_cons, List.map_nil, wip, wt_turn, it_non_int, it_non_bool, it_non_str, it_non_tuple, it_non_list, it_non_dict, it_bl_int, it_bl_bool, it_bl_str, it_bl_tuple, it_bl_list, it_bl_dict, it_int_int, it_int_bool, it_int_str, it_int_tuple, it_int_list, it_int_dict, it_str_int, it_str_bool, it_str_str, it_str_tuple, it_str_list, it_str_dict, it_tup_int, it_tup_bool, it_tup_str, it_tup_tuple, it_tup_list, it_tup_dict, it_lst_int, it_lst_bool, it_lst_str, it_lst_tuple, it_lst_list, it_lst_dict, it_rol_int, it_rol_bool, it_rol_str, it_rol_tuple, it_rol_list, it_rol_dict, dLot, wz_dNs]
      obtain ⟨pl, dl⟩ := dVal_pl (w := l.2.2) (l := l.1) g (by have := (lots_in hlot).1; omega)
      refine ws_skipM (fun s' => Dr s' i) ?_ fun s8 hD8 => ?_
      · simp only [we_con, we_varm, we_glom, we_bin, we_neg, we_cmp, we_chain, we_and, we_or, we_not, we_ife, we_tup, we_lst, we_ix, we_sl, we_rev, we_call, we_blt, we_isi, we_app, we_lc, wa_nil, wa_cons, wr_nil, wr_cons, wo_none, wo_some, wto_none, wto_some, wt_and, wt_or, wt_not, wt_cmp, wt_chain, wt_tru, wi_seq, wi_range, wi_enum, wg_nm, wg_tup, wg_nil, wg_cons, wg_sub, wp_ok, wp_bad, wp_nox, wb_add, wb_sub, wb_mul, wb_fdiv, wb_mod, wb_pow, wc_eq, wc_ne, wc_lt, wc_le, wc_gt, wc_ge, wc_eqb, wc_neb, wc_eqs, wc_nes, wx_int, wx_lent, wx_lenl, wx_lenr, wz_int, wz_str, wz_bl, wz_non, wz_tup, wz_rol, wz_ref, wz_lst, List.getElem?_cons_zero, List.getElem?_cons_succ, List.set_cons_zero, List.set_cons_succ, List.length_cons, List.length_nil, wi_tup, wi_lst, wi_rol, wx_tuplel, wx_tuplet, wx_listt, wto_some, hdq, hqc, ite_f, ite_tt, decide_eq_true_eq, Bool.not_eq_true', wisT, ex_bl, ex_int, ite_tf, ite_ff, wix0, wix1, wix2, Nat.reduceAdd, Nat.reduceLT, sl0, sl1, sl2, sl3, sl4, sl5, sl6, sl10, if_true, true_and, and_true, List.map_cons, List.map_nil, wip, wt_turn, it_non_int, it_non_bool, it_non_str, it_non_tuple, it_non_list, it_non_dict, it_bl_int, it_bl_bool, it_bl_str, it_bl_tuple, it_bl_list, it_bl_dict, it_int_int, it_int_bool, it_int_str, it_int_tuple, it_int_list, it_int_dict, it_str_int, it_str_bool, it_str_str, it_str_tuple, it_str_list, it_str_dict, it_tup_int, it_tup_bool, it_tup_str, it_tup_tuple, it_tup_list, it_tup_dict, it_lst_int, it_lst_bool, it_lst_str, it_lst_tuple, it_lst_list, it_lst_dict, it_rol_int, it_rol_bool, it_rol_str, it_rol_tuple, it_rol_list, it_rol_dict, wz_dRows, wz_dNs, ix_due2, wz_dTab, ix_due0]
        refine w_call (k := 59) (s_bf (k := 54) (v := dVal l.2.2 l.1 rs room) g pl) ?_
        rintro d s8 ⟨rfl, t8, rfl⟩
        obtain ⟨pf, df⟩ := fv_pl (rows := rs) (room := room) (v := dVal l.2.2 l.1 rs room)
        rw [wz_shr (pl_shr pf), fv_lot hlot]
        rw [fv_lot hlot] at pf df
        have fin : ∀ x : D, x.pl 30 = true → x.dep = 0 → (if Tk rs rs.length room = l.2.2 then D.non else .str "greatest") = x → Wp (cl 59 "_law_same" [if Tk rs rs.length room = l.2.2 then D.non else .str "greatest", x] (s7 ++ t8)) fun d s' => d = .bl true ∧ Dr s' i := fun x px dx e => by
          rw [e]
          refine (s_same (n := 30) (by decide) 58 x x _ (by omega) px px).imp ?_
          rintro d s9 ⟨rfl, rfl⟩
          exact ⟨by rw [same_rfl], hD7.app⟩
        refine ite_p (fun h => ?_) fun h => ?_
        · have h : Tk rs rs.length room = l.2.2 := by omega
          refine w_call (k := 59) (fin .non rfl rfl (if_pos h)) ?_
          rintro d s9 ⟨rfl, hD9⟩
          simp only [we_con, we_varm, we_glom, we_bin, we_neg, we_cmp, we_chain, we_and, we_or, we_not, we_ife, we_tup, we_lst, we_ix, we_sl, we_rev, we_call, we_blt, we_isi, we_app, we_lc, wa_nil, wa_cons, wr_nil, wr_cons, wo_none, wo_some, wto_none, wto_some, wt_and, wt_or, wt_not, wt_cmp, wt_chain, wt_tru, wi_seq, wi_range, wi_enum, wg_nm, wg_tup, wg_nil, wg_cons, wg_sub, wp_ok, wp_bad, wp_nox, wb_add, wb_sub, wb_mul, wb_fdiv, wb_mod, wb_pow, wc_eq, wc_ne, wc_lt, wc_le, wc_gt, wc_ge, wc_eqb, wc_neb, wc_eqs, wc_nes, wx_int, wx_lent, wx_lenl, wx_lenr, wz_int, wz_str, wz_bl, wz_non, wz_tup, wz_rol, wz_ref, wz_lst, List.getElem?_cons_zero, List.getElem?_cons_succ, List.set_cons_zero, List.set_cons_succ, List.length_cons, List.length_nil, wi_tup, wi_lst, wi_rol, wx_tuplel, wx_tuplet, wx_listt, wto_some, hdq, hqc, ite_f, ite_tt, decide_eq_true_eq, Bool.not_eq_true', wisT, ex_bl, ex_int, ite_tf, ite_ff, wix0, wix1, wix2, Nat.reduceAdd, Nat.reduceLT, sl0, sl1, sl2, sl3, sl4, sl5, sl6, sl10, if_true, true_and, and_true, List.map_cons, List.map_nil, wip, wt_turn, it_non_int, it_non_bool, it_non_str, it_non_tuple, it_non_list, it_non_dict, it_bl_int, it_bl_bool, it_bl_str, it_bl_tuple, it_bl_list, it_bl_dict, it_int_int, it_int_bool, it_int_str, it_int_tuple, it_int_list, it_int_dict, it_str_int, it_str_bool, it_str_str, it_str_tuple, it_str_list, it_str_dict, it_tup_int, it_tup_bool, it_tup_str, it_tup_tuple, it_tup_list, it_tup_dict, it_lst_int, it_lst_bool, it_lst_str, it_lst_tuple, it_lst_list, it_lst_dict, it_rol_int, it_rol_bool, it_rol_str, it_rol_tuple, it_rol_list, it_rol_dict]
          exact ⟨rfl, hD9⟩
        · have h : ¬ Tk rs rs.length room = l.2.2 := by omega
          refine w_call (k := 59) (fin (.str "greatest") rfl rfl (if_neg h)) ?_
          rintro d s9 ⟨rfl, hD9⟩
          simp only [we_con, we_varm, we_glom, we_bin, we_neg, we_cmp, we_chain, we_and, we_or, we_not, we_ife, we_tup, we_lst, we_ix, we_sl, we_rev, we_call, we_blt, we_isi, we_app, we_lc, wa_nil, wa_cons, wr_nil, wr_cons, wo_none, wo_some, wto_none, wto_some, wt_and, wt_or, wt_not, wt_cmp, wt_chain, wt_tru, wi_seq, wi_range, wi_enum, wg_nm, wg_tup, wg_nil, wg_cons, wg_sub, wp_ok, wp_bad, wp_nox, wb_add, wb_sub, wb_mul, wb_fdiv, wb_mod, wb_pow, wc_eq, wc_ne, wc_lt, wc_le, wc_gt, wc_ge, wc_eqb, wc_neb, wc_eqs, wc_nes, wx_int, wx_lent, wx_lenl, wx_lenr, wz_int, wz_str, wz_bl, wz_non, wz_tup, wz_rol, wz_ref, wz_lst, List.getElem?_cons_zero, List.getElem?_cons_succ, List.set_cons_zero, List.set_cons_succ, List.length_cons, List.length_nil, wi_tup, wi_lst, wi_rol, wx_tuplel, wx_tuplet, wx_listt, wto_some, hdq, hqc, ite_f, ite_tt, decide_eq_true_eq, Bool.not_eq_true', wisT, ex_bl, ex_int, ite_tf, ite_ff, wix0, wix1, wix2, Nat.reduceAdd, Nat.reduceLT, sl0, sl1, sl2, sl3, sl4, sl5, sl6, sl10, if_true, true_and, and_true, List.map_cons, List.map_nil, wip, wt_turn, it_non_int, it_non_bool, it_non_str, it_non_tuple, it_non_list, it_non_dict, it_bl_int, it_bl_bool, it_bl_str, it_bl_tuple, it_bl_list, it_bl_dict, it_int_int, it_int_bool, it_int_str, it_int_tuple, it_int_list, it_int_dict, it_str_int, it_str_bool, it_str_str, it_str_tuple, it_str_list, it_str_dict, it_tup_int, it_tup_bool, it_tup_str, it_tup_tuple, it_tup_list, it_tup_dict, it_lst_int, it_lst_bool, it_lst_str, it_lst_tuple, it_lst_list, it_lst_dict, it_rol_int, it_rol_bool, it_rol_str, it_rol_tuple, it_rol_list, it_rol_dict]
          exact ⟨rfl, hD9⟩
      -- bent values
      refine ws_1 (ws_fo ?_)
      simp only [we_con, we_varm, we_glom, we_bin, we_neg, we_cmp, we_chain, we_and, we_or, we_not, we_ife, we_tup, we_lst, we_ix, we_sl, we_rev, we_call, we_blt, we_isi, we_app, we_lc, wa_nil, wa_cons, wr_nil, wr_cons, wo_none, wo_some, wto_none, wto_some, wt_and, wt_or, wt_not, wt_cmp, wt_chain, wt_tru, wi_seq, wi_range, wi_enum, wg_nm, wg_tup, wg_nil, wg_cons, wg_sub, wp_ok, wp_bad, wp_nox, wb_add, wb_sub, wb_mul, wb_fdiv, wb_mod, wb_pow, wc_eq, wc_ne, wc_lt, wc_le, wc_gt, wc_ge, wc_eqb, wc_neb, wc_eqs, wc_nes, wx_int, wx_lent, wx_lenl, wx_lenr, wz_int, wz_str, wz_bl, wz_non, wz_tup, wz_rol, wz_ref, wz_lst, List.getElem?_cons_zero, List.getElem?_cons_succ, List.set_cons_zero, List.set_cons_succ, List.length_cons, List.length_nil, wi_tup, wi_lst, wi_rol, wx_tuplel, wx_tuplet, wx_listt, wto_some, hdq, hqc, ite_f, ite_tt, decide_eq_true_eq, Bool.not_eq_true', wisT, ex_bl, ex_int, ite_tf, ite_ff, wix0, wix1, wix2, Nat.reduceAdd, Nat.reduceLT, sl0, sl1, sl2, sl3, sl4, sl5, sl6, sl10, if_true, true_and, and_true, List.map_cons, List.map_nil, wip, wt_turn, it_non_int, it_non_bool, it_non_str, it_non_tuple, it_non_list, it_non_dict, it_bl_int, it_bl_bool, it_bl_str, it_bl_tuple, it_bl_list, it_bl_dict, it_int_int, it_int_bool, it_int_str, it_int_tuple, it_int_list, it_int_dict, it_str_int, it_str_bool, it_str_str, it_str_tuple, it_str_list, it_str_dict, it_tup_int, it_tup_bool, it_tup_str, it_tup_tuple, it_tup_list, it_tup_dict, it_lst_int, it_lst_bool, it_lst_str, it_lst_tuple, it_lst_list, it_lst_dict, it_rol_int, it_rol_bool, it_rol_str, it_rol_tuple, it_rol_list, it_rol_dict]
      have r8 : ∀ {s : S} {P : Its → S → Prop}, Wp (rngI [.int 8] s) P = P ⟨rangeL 0 8 1, fun _ => true⟩ s := fun {s P} => wri_1 (n := 8) (by decide)
      rw [r8, range_map]
      refine ⟨fun it ρ s' => ∃ (j : Nat) (y2 y9 y14 : Option D), it = (List.range' j (8 - j)).map (fun (k : Nat) => D.int (k : Int)) ∧ Dr s' i ∧
        ρ = [some sc, some (.ref i), y2, o3, o4, some (dRows rs), some (.int (room : Nat)), some (dDue rs room), some (.ref r), y9, o10, some (dNs l.1), some (.int (l.2.1 : Nat)), some (.int (l.2.2 : Nat)), y14, o15], ?_, ?_, ?_⟩
      · exact ⟨0, _, _, _, rfl, hD8, rfl⟩
      · rintro ρ s9 ⟨j, y2, y9, y14, e, hD9, rfl⟩
        exact ⟨rfl, goal _ s9 rfl hD9⟩
      · rintro x it ρ s9 ⟨j, y2, y9, y14, e, hD9, rfl⟩
        obtain ⟨m', hm'⟩ : ∃ m, 8 - j = m + 1 := by
          cases h : 8 - j with
          | zero => rw [h] at e; cases e
          | succ m => exact ⟨m, rfl⟩
        rw [hm', List.range'_succ, List.map_cons] at e
        cases e
        refine ⟨rfl, ?_⟩
        simp only [we_con, we_varm, we_glom, we_bin, we_neg, we_cmp, we_chain, we_and, we_or, we_not, we_ife, we_tup, we_lst, we_ix, we_sl, we_rev, we_call, we_blt, we_isi, we_app, we_lc, wa_nil, wa_cons, wr_nil, wr_cons, wo_none, wo_some, wto_none, wto_some, wt_and, wt_or, wt_not, wt_cmp, wt_chain, wt_tru, wi_seq, wi_range, wi_enum, wg_nm, wg_tup, wg_nil, wg_cons, wg_sub, wp_ok, wp_bad, wp_nox, wb_add, wb_sub, wb_mul, wb_fdiv, wb_mod, wb_pow, wc_eq, wc_ne, wc_lt, wc_le, wc_gt, wc_ge, wc_eqb, wc_neb, wc_eqs, wc_nes, wx_int, wx_lent, wx_lenl, wx_lenr, wz_int, wz_str, wz_bl, wz_non, wz_tup, wz_rol, wz_ref, wz_lst, List.getElem?_cons_zero, List.getElem?_cons_succ, List.set_cons_zero, List.set_cons_succ, List.length_cons, List.length_nil, wi_tup, wi_lst, wi_rol, wx_tuplel, wx_tuplet, wx_listt, wto_some, hdq, hqc, ite_f, ite_tt, decide_eq_true_eq, Bool.not_eq_true', wisT, ex_bl, ex_int, ite_tf, ite_ff, wix0, wix1, wix2, Nat.reduceAdd, Nat.reduceLT, sl0, sl1, sl2, sl3, sl4, sl5, sl6, sl10, if_true, true_and, and_true, List.map_cons, List.map_nil, wip, wt_turn, it_non_int, it_non_bool, it_non_str, it_non_tuple, it_non_list, it_non_dict, it_bl_int, it_bl_bool, it_bl_str, it_bl_tuple, it_bl_list, it_bl_dict, it_int_int, it_int_bool, it_int_str, it_int_tuple, it_int_list, it_int_dict, it_str_int, it_str_bool, it_str_str, it_str_tuple, it_str_list, it_str_dict, it_tup_int, it_tup_bool, it_tup_str, it_tup_tuple, it_tup_list, it_tup_dict, it_lst_int, it_lst_bool, it_lst_str, it_lst_tuple, it_lst_list, it_lst_dict, it_rol_int, it_rol_bool, it_rol_str, it_rol_tuple, it_rol_list, it_rol_dict]
        refine ws_asgs ?_
        simp only [we_con, we_varm, we_glom, we_bin, we_neg, we_cmp, we_chain, we_and, we_or, we_not, we_ife, we_tup, we_lst, we_ix, we_sl, we_rev, we_call, we_blt, we_isi, we_app, we_lc, wa_nil, wa_cons, wr_nil, wr_cons, wo_none, wo_some, wto_none, wto_some, wt_and, wt_or, wt_not, wt_cmp, wt_chain, wt_tru, wi_seq, wi_range, wi_enum, wg_nm, wg_tup, wg_nil, wg_cons, wg_sub, wp_ok, wp_bad, wp_nox, wb_add, wb_sub, wb_mul, wb_fdiv, wb_mod, wb_pow, wc_eq, wc_ne, wc_lt, wc_le, wc_gt, wc_ge, wc_eqb, wc_neb, wc_eqs, wc_nes, wx_int, wx_lent, wx_lenl, wx_lenr, wz_int, wz_str, wz_bl, wz_non, wz_tup, wz_rol, wz_ref, wz_lst, List.getElem?_cons_zero, List.getElem?_cons_succ, List.set_cons_zero, List.set_cons_succ, List.length_cons, List.length_nil, wi_tup, wi_lst, wi_rol, wx_tuplel, wx_tuplet, wx_listt, wto_some, hdq, hqc, ite_f, ite_tt, decide_eq_true_eq, Bool.not_eq_true', wisT, ex_bl, ex_int, ite_tf, ite_ff, wix0, wix1, wix2, Nat.reduceAdd, Nat.reduceLT, sl0, sl1, sl2, sl3, sl4, sl5, sl6, sl10, if_true, true_and, and_true, List.map_cons, List.map_nil, wip, wt_turn, it_non_int, it_non_bool, it_non_str, it_non_tuple, it_non_list, it_non_dict, it_bl_int, it_bl_bool, it_bl_str, it_bl_tuple, it_bl_list, it_bl_dict, it_int_int, it_int_bool, it_int_str, it_int_tuple, it_int_list, it_int_dict, it_str_int, it_str_bool, it_str_str, it_str_tuple, it_str_list, it_str_dict, it_tup_int, it_tup_bool, it_tup_str, it_tup_tuple, it_tup_list, it_tup_dict, it_lst_int, it_lst_bool, it_lst_str, it_lst_tuple, it_lst_list, it_lst_dict, it_rol_int, it_rol_bool, it_rol_str, it_rol_tuple, it_rol_list, it_rol_dict, wz_dDue]
        refine w_call (k := 59) (s_bent 55 (dDue rs room) s9 (Nat.le_trans dd (by decide)) pd hD9) ?_
        rintro v s10 ⟨pv, hD10, hK10⟩
        rw [wz_shr (pl_shr pv)]
        refine ws_skipM (fun s' => Dr s' i) ?_ fun s11 hD11 => ?_
        · simp only [we_con, we_varm, we_glom, we_bin, we_neg, we_cmp, we_chain, we_and, we_or, we_not, we_ife, we_tup, we_lst, we_ix, we_sl, we_rev, we_call, we_blt, we_isi, we_app, we_lc, wa_nil, wa_cons, wr_nil, wr_cons, wo_none, wo_some, wto_none, wto_some, wt_and, wt_or, wt_not, wt_cmp, wt_chain, wt_tru, wi_seq, wi_range, wi_enum, wg_nm, wg_tup, wg_nil, wg_cons, wg_sub, wp_ok, wp_bad, wp_nox, wb_add, wb_sub, wb_mul, wb_fdiv, wb_mod, wb_pow, wc_eq, wc_ne, wc_lt, wc_le, wc_gt, wc_ge, wc_eqb, wc_neb, wc_eqs, wc_nes, wx_int, wx_lent, wx_lenl, wx_lenr, wz_int, wz_str, wz_bl, wz_non, wz_tup, wz_rol, wz_ref, wz_lst, List.getElem?_cons_zero, List.getElem?_cons_succ, List.set_cons_zero, List.set_cons_succ, List.length_cons, List.length_nil, wi_tup, wi_lst, wi_rol, wx_tuplel, wx_tuplet, wx_listt, wto_some, hdq, hqc, ite_f, ite_tt, decide_eq_true_eq, Bool.not_eq_true', wisT, ex_bl, ex_int, ite_tf, ite_ff, wix0, wix1, wix2, Nat.reduceAdd, Nat.reduceLT, sl0, sl1, sl2, sl3, sl4, sl5, sl6, sl10, if_true, true_and, and_true, List.map_cons, List.map_nil, wip, wt_turn, it_non_int, it_non_bool, it_non_str, it_non_tuple, it_non_list, it_non_dict, it_bl_int, it_bl_bool, it_bl_str, it_bl_tuple, it_bl_list, it_bl_dict, it_int_int, it_int_bool, it_int_str, it_int_tuple, it_int_list, it_int_dict, it_str_int, it_str_bool, it_str_str, it_str_tuple, it_str_list, it_str_dict, it_tup_int, it_tup_bool, it_tup_str, it_tup_tuple, it_tup_list, it_tup_dict, it_lst_int, it_lst_bool, it_lst_str, it_lst_tuple, it_lst_list, it_lst_dict, it_rol_int, it_rol_bool, it_rol_str, it_rol_tuple, it_rol_list, it_rol_dict, wz_dRows]
          rw [wz_shr (pl_shr pv)]
          refine w_call (k := 59) (s_bf (k := 54) g pv) ?_
          rintro d s11 ⟨rfl, t11, rfl⟩
          obtain ⟨pf, df⟩ := fv_pl (rows := rs) (room := room) (v := v)
          rw [wz_shr (pl_shr pf), wz_shr (pl_shr pv)]
          refine w_call (k := 59) (s_lf (k := 54) g pv) ?_
          rintro d s12 ⟨rfl, t12, rfl⟩
          rw [wz_shr (pl_shr pf)]
          refine w_call (k := 59) (s_same (n := 30) (by decide) 58 _ _ _ (by omega) pf pf) ?_
          rintro d s13 ⟨rfl, rfl⟩
          rw [same_rfl]
          simp only [we_con, we_varm, we_glom, we_bin, we_neg, we_cmp, we_chain, we_and, we_or, we_not, we_ife, we_tup, we_lst, we_ix, we_sl, we_rev, we_call, we_blt, we_isi, we_app, we_lc, wa_nil, wa_cons, wr_nil, wr_cons, wo_none, wo_some, wto_none, wto_some, wt_and, wt_or, wt_not, wt_cmp, wt_chain, wt_tru, wi_seq, wi_range, wi_enum, wg_nm, wg_tup, wg_nil, wg_cons, wg_sub, wp_ok, wp_bad, wp_nox, wb_add, wb_sub, wb_mul, wb_fdiv, wb_mod, wb_pow, wc_eq, wc_ne, wc_lt, wc_le, wc_gt, wc_ge, wc_eqb, wc_neb, wc_eqs, wc_nes, wx_int, wx_lent, wx_lenl, wx_lenr, wz_int, wz_str, wz_bl, wz_non, wz_tup, wz_rol, wz_ref, wz_lst, List.getElem?_cons_zero, List.getElem?_cons_succ, List.set_cons_zero, List.set_cons_succ, List.length_cons, List.length_nil, wi_tup, wi_lst, wi_rol, wx_tuplel, wx_tuplet, wx_listt, wto_some, hdq, hqc, ite_f, ite_tt, decide_eq_true_eq, Bool.not_eq_true', wisT, ex_bl, ex_int, ite_tf, ite_ff, wix0, wix1, wix2, Nat.reduceAdd, Nat.reduceLT, sl0, sl1, sl2, sl3, sl4, sl5, sl6, sl10, if_true, true_and, and_true, List.map_cons, List.map_nil, wip, wt_turn, it_non_int, it_non_bool, it_non_str, it_non_tuple, it_non_list, it_non_dict, it_bl_int, it_bl_bool, it_bl_str, it_bl_tuple, it_bl_list, it_bl_dict, it_int_int, it_int_bool, it_int_str, it_int_tuple, it_int_list, it_int_dict, it_str_int, it_str_bool, it_str_str, it_str_tuple, it_str_list, it_str_dict, it_tup_int, it_tup_bool, it_tup_str, it_tup_tuple, it_tup_list, it_tup_dict, it_lst_int, it_lst_bool, it_lst_str, it_lst_tuple, it_lst_list, it_lst_dict, it_rol_int, it_rol_bool, it_rol_str, it_rol_tuple, it_rol_list, it_rol_dict]
          exact ⟨rfl, hD10.app.app⟩
        · rw [ws_nil]
          exact ⟨j + 1, _, _, _, by rw [show 8 - (j + 1) = m' by omega], hD11, rfl⟩
    · rintro x it acc s2 ⟨j, rs, e, rfl, hl, hj, hr, hD2⟩
      obtain ⟨m, hm⟩ : ∃ m, n - j = m + 1 := by
        cases h : n - j with
        | zero => rw [h] at e; cases e
        | succ m => exact ⟨m, rfl⟩
      rw [hm, List.range'_succ, List.map_cons] at e
      cases e
      refine ⟨rfl, ?_⟩
      simp only [we_con, we_varm, we_glom, we_bin, we_neg, we_cmp, we_chain, we_and, we_or, we_not, we_ife, we_tup, we_lst, we_ix, we_sl, we_rev, we_call, we_blt, we_isi, we_app, we_lc, wa_nil, wa_cons, wr_nil, wr_cons, wo_none, wo_some, wto_none, wto_some, wt_and, wt_or, wt_not, wt_cmp, wt_chain, wt_tru, wi_seq, wi_range, wi_enum, wg_nm, wg_tup, wg_nil, wg_cons, wg_sub, wp_ok, wp_bad, wp_nox, wb_add, wb_sub, wb_mul, wb_fdiv, wb_mod, wb_pow, wc_eq, wc_ne, wc_lt, wc_le, wc_gt, wc_ge, wc_eqb, wc_neb, wc_eqs, wc_nes, wx_int, wx_lent, wx_lenl, wx_lenr, wz_int, wz_str, wz_bl, wz_non, wz_tup, wz_rol, wz_ref, wz_lst, List.getElem?_cons_zero, List.getElem?_cons_succ, List.set_cons_zero, List.set_cons_succ, List.length_cons, List.length_nil, wi_tup, wi_lst, wi_rol, wx_tuplel, wx_tuplet, wx_listt, wto_some, hdq, hqc, ite_f, ite_tt, decide_eq_true_eq, Bool.not_eq_true', wisT, ex_bl, ex_int, ite_tf, ite_ff, wix0, wix1, wix2, Nat.reduceAdd, Nat.reduceLT, sl0, sl1, sl2, sl3, sl4, sl5, sl6, sl10, if_true, true_and, and_true, List.map_cons, List.map_nil, wip, wt_turn, it_non_int, it_non_bool, it_non_str, it_non_tuple, it_non_list, it_non_dict, it_bl_int, it_bl_bool, it_bl_str, it_bl_tuple, it_bl_list, it_bl_dict, it_int_int, it_int_bool, it_int_str, it_int_tuple, it_int_list, it_int_dict, it_str_int, it_str_bool, it_str_str, it_str_tuple, it_str_list, it_str_dict, it_tup_int, it_tup_bool, it_tup_str, it_tup_tuple, it_tup_list, it_tup_dict, it_lst_int, it_lst_bool, it_lst_str, it_lst_tuple, it_lst_list, it_lst_dict, it_rol_int, it_rol_bool, it_rol_str, it_rol_tuple, it_rol_list, it_rol_dict]
      refine w_draw hD2 (by decide) (by decide) fun v s3 hv hD3 hK3 => ?_
      simp only [we_con, we_varm, we_glom, we_bin, we_neg, we_cmp, we_chain, we_and, we_or, we_not, we_ife, we_tup, we_lst, we_ix, we_sl, we_rev, we_call, we_blt, we_isi, we_app, we_lc, wa_nil, wa_cons, wr_nil, wr_cons, wo_none, wo_some, wto_none, wto_some, wt_and, wt_or, wt_not, wt_cmp, wt_chain, wt_tru, wi_seq, wi_range, wi_enum, wg_nm, wg_tup, wg_nil, wg_cons, wg_sub, wp_ok, wp_bad, wp_nox, wb_add, wb_sub, wb_mul, wb_fdiv, wb_mod, wb_pow, wc_eq, wc_ne, wc_lt, wc_le, wc_gt, wc_ge, wc_eqb, wc_neb, wc_eqs, wc_nes, wx_int, wx_lent, wx_lenl, wx_lenr, wz_int, wz_str, wz_bl, wz_non, wz_tup, wz_rol, wz_ref, wz_lst, List.getElem?_cons_zero, List.getElem?_cons_succ, List.set_cons_zero, List.set_cons_succ, List.length_cons, List.length_nil, wi_tup, wi_lst, wi_rol, wx_tuplel, wx_tuplet, wx_listt, wto_some, hdq, hqc, ite_f, ite_tt, decide_eq_true_eq, Bool.not_eq_true', wisT, ex_bl, ex_int, ite_tf, ite_ff, wix0, wix1, wix2, Nat.reduceAdd, Nat.reduceLT, sl0, sl1, sl2, sl3, sl4, sl5, sl6, sl10, if_true, true_and, and_true, List.map_cons, List.map_nil, wip, wt_turn, it_non_int, it_non_bool, it_non_str, it_non_tuple, it_non_list, it_non_dict, it_bl_int, it_bl_bool, it_bl_str, it_bl_tuple, it_bl_list, it_bl_dict, it_int_int, it_int_bool, it_int_str, it_int_tuple, it_int_list, it_int_dict, it_str_int, it_str_bool, it_str_str, it_str_tuple, it_str_list, it_str_dict, it_tup_int, it_tup_bool, it_tup_str, it_tup_tuple, it_tup_list, it_tup_dict, it_lst_int, it_lst_bool, it_lst_str, it_lst_tuple, it_lst_list, it_lst_dict, it_rol_int, it_rol_bool, it_rol_str, it_rol_tuple, it_rol_list, it_rol_dict]
      refine w_draw hD3 (by decide) (by decide) fun w s4 hw hD4 hK4 => ?_
      simp only [we_con, we_varm, we_glom, we_bin, we_neg, we_cmp, we_chain, we_and, we_or, we_not, we_ife, we_tup, we_lst, we_ix, we_sl, we_rev, we_call, we_blt, we_isi, we_app, we_lc, wa_nil, wa_cons, wr_nil, wr_cons, wo_none, wo_some, wto_none, wto_some, wt_and, wt_or, wt_not, wt_cmp, wt_chain, wt_tru, wi_seq, wi_range, wi_enum, wg_nm, wg_tup, wg_nil, wg_cons, wg_sub, wp_ok, wp_bad, wp_nox, wb_add, wb_sub, wb_mul, wb_fdiv, wb_mod, wb_pow, wc_eq, wc_ne, wc_lt, wc_le, wc_gt, wc_ge, wc_eqb, wc_neb, wc_eqs, wc_nes, wx_int, wx_lent, wx_lenl, wx_lenr, wz_int, wz_str, wz_bl, wz_non, wz_tup, wz_rol, wz_ref, wz_lst, List.getElem?_cons_zero, List.getElem?_cons_succ, List.set_cons_zero, List.set_cons_succ, List.length_cons, List.length_nil, wi_tup, wi_lst, wi_rol, wx_tuplel, wx_tuplet, wx_listt, wto_some, hdq, hqc, ite_f, ite_tt, decide_eq_true_eq, Bool.not_eq_true', wisT, ex_bl, ex_int, ite_tf, ite_ff, wix0, wix1, wix2, Nat.reduceAdd, Nat.reduceLT, sl0, sl1, sl2, sl3, sl4, sl5, sl6, sl10, if_true, true_and, and_true, List.map_cons, List.map_nil, wip, wt_turn, it_non_int, it_non_bool, it_non_str, it_non_tuple, it_non_list, it_non_dict, it_bl_int, it_bl_bool, it_bl_str, it_bl_tuple, it_bl_list, it_bl_dict, it_int_int, it_int_bool, it_int_str, it_int_tuple, it_int_list, it_int_dict, it_str_int, it_str_bool, it_str_str, it_str_tuple, it_str_list, it_str_dict, it_tup_int, it_tup_bool, it_tup_str, it_tup_tuple, it_tup_list, it_tup_dict, it_lst_int, it_lst_bool, it_lst_str, it_lst_tuple, it_lst_list, it_lst_dict, it_rol_int, it_rol_bool, it_rol_str, it_rol_tuple, it_rol_list, it_rol_dict]
      refine ⟨Nat.lt_of_le_of_lt (m := 8) (by simp; omega) (by decide), j + 1, rs ++ [(1 + v, w)], by rw [show n - (j + 1) = m by omega], ?_, by simp [hl], by omega, fun r hr' => ?_, hD4⟩
      · rw [List.map_append]
        show _ = rs.map dRow ++ [dRow (1 + v, w)]
        unfold dRow
        simp
      · rcases List.mem_append.mp hr' with h | h
        · exact hr r h
        · simp at h; rw [h]; simp
end L
end DI

set_option Elab.async false
set_option linter.all false
set_option maxRecDepth 100000
set_option maxHeartbeats 8000000
/-! the plain law, M: what is refused. -/
namespace DI
open PySem L2
section
variable {q : Rq} {ρ : En} {s : S} {Q : Kt} {PD : D → S → Prop}
theorem ws_tr {body : List IS} {hs : List (Str × Option Nat × List IS)} {C : Str} {fs : List (Str × D)} {ρ' : En} {s' : S} (h : runSs q body ρ s = .exc C fs ρ' s') (k : Ws (runHs q C fs hs ρ' s') Q) : Ws (runS q (.tr body hs) ρ s) Q := by
  rw [runS, h]; exact k
theorem body_exc {f : Str} {i j : Nat} {x y : D} {C : Str} {fs : List (Str × D)} (hx : ρ[i]? = some (some x)) (hy : ρ[j]? = some (some y)) (sx : x.shr = true) (sy : y.shr = true) (h : q.c f [x, y] s = .exc C fs s) : runSs q [.expr (.call f [.var i, .var j])] ρ s = .exc C fs ρ s := by
  have e1 : ∀ {d : D}, d.shr = true → setl d s = .ok d s := fun {d} h => by cases d <;> first | rfl | cases h
  rw [runSs, runS, runE, runEs, runE, hx]
  dsimp only [R.bind]
  rw [e1 sx]
  dsimp only [R.bind]
  rw [runEs, runE, hy]
  dsimp only [R.bind]
  rw [e1 sy]
  dsimp only [R.bind]
  rw [runEs]
  dsimp only [R.bind]
  rw [h]
  rfl
theorem wh_yes {C k : Str} {fs : List (Str × D)} {i : Nat} {body : List IS} {r : List (Str × Option Nat × List IS)} (hi : q.isx C k = some true) (hl : i < ρ.length)
    (h : Ws (runSs { q with hd := some (i, C, fs) } body (ρ.set i none) s) { nx := fun ρ s => Q.nx (ρ.set i none) s }) : Ws (runHs q C fs ((k, some i, body) :: r) ρ s) Q := by
  unfold runHs
  rw [hi]
  dsimp only
  rw [if_pos hl]
  cases e : runSs { q with hd := some (i, C, fs) } body (ρ.set i none) s with
  | nx ρ s => rw [e] at h; with_unfolding_all exact h
  | rt d s => rw [e] at h; with_unfolding_all exact h.elim
  | bk ρ s => rw [e] at h; with_unfolding_all exact h.elim
  | ct ρ s => rw [e] at h; with_unfolding_all exact h.elim
  | exc C fs ρ s => rw [e] at h; with_unfolding_all exact h.elim
  | bad => rw [e] at h; with_unfolding_all exact h.elim
theorem wh_no {C k : Str} {fs : List (Str × D)} {i : Option Nat} {body : List IS} {r : List (Str × Option Nat × List IS)} (hi : q.isx C k = some false) (h : Ws (runHs q C fs r ρ s) Q) : Ws (runHs q C fs ((k, i, body) :: r) ρ s) Q := by
  unfold runHs
  rw [hi]; exact h
theorem we_eisi {i : Nat} {C k : Str} {fs : List (Str × D)} {b : Bool} (h : q.hd = some (i, C, fs)) (hi : q.isx C k = some b) : Wp (runE q (.eisi i k) ρ s) PD = PD (.bl b) s := by
  rw [runE, h]
  dsimp only
  rw [if_pos rfl, hi]
  with_unfolding_all rfl
theorem we_efld {i : Nat} {C f : Str} {fs : List (Str × D)} {d : D} (h : q.hd = some (i, C, fs)) (hi : q.fld C f = true) (hl : fs.lookup f = some d) : Wp (runE q (.efld i f) ρ s) PD = PD d s := by
  rw [runE, h]
  dsimp only
  rw [if_pos ⟨rfl, hi⟩, hl]
  with_unfolding_all rfl
end
namespace L
/-- what is refused: rows, room, the class, the word -/
def bads (e : Nat) : List (D × D × Str × Str) := [(.non, .int 1, "BadPlan", "rows"), (.ref e, .int 1, "BadPlan", "rows"), (.tup [.non], .int 1, "BadPlan", "rows"), (.tup [.tup [.int 0, .int 1]], .int 1, "BadPlan", "rows"), (.tup [.tup [.int 1, .int (-1)]], .int 1, "BadPlan", "rows"),
  (.tup [.tup [.bl true, .int 1]], .int 1, "BadPlan", "rows"), (.tup [], .int (-1), "BadPlan", "room"), (.tup [], .int 401, "BadPlan", "room"), (.tup [], .non, "BadPlan", "room"), (.tup (List.replicate 21 (.tup [.int 1, .int 1])), .int 1, "Refused", "many")]
theorem bad_exc {e : Nat} {s : S} (he : lk s e = some []) : ∀ p ∈ bads e, p.1.shr = true ∧ p.2.1.shr = true ∧ callN cfg.ds cfg.q0 59 "best_kept" [p.1, p.2.1] s = .exc p.2.2.1 [("word", .str p.2.2.2)] s := by
  intro p hp
  simp only [bads, List.mem_cons, List.not_mem_nil, or_false] at hp
  rcases hp with rfl | rfl | rfl | rfl | rfl | rfl | rfl | rfl | rfl | rfl
  · exact ⟨rfl, rfl, by kernel_rfl⟩
  · refine ⟨rfl, rfl, ?_⟩
    have hT : isT (.ref e) .tuple s = some false := by unfold isT; dsimp only; rw [he]; rfl
    have hex : (cfg.q 57).ex "BadPlan" = some [("word" : Str)] := by kernel_rfl
    have look : callN cfg.ds cfg.q0 58 "look_at_worths" [.ref e, .int 1] s = .exc "BadPlan" [("word", .str "rows")] s := by
      show cl (57+1) "look_at_worths" [.ref e, .int 1] s = _
      rw [c_look]
      show runF (cfg.q 57) 3 d_look_at_worths.body [.ref e, .int 1] s = _
      have body : runSs (cfg.q 57) d_look_at_worths.body [some (.ref e), some (.int 1), none] s = .exc "BadPlan" [("word", .str "rows")] [some (.ref e), some (.int 1), none] s := by
        unfold d_look_at_worths
        have t1 : ∀ b : IT, runT (cfg.q 57) (.or (.not (.tru (.isi (.var 0) .tuple))) b) [some (.ref e), some (.int 1), none] s = .ok true s := fun b => by
          rw [runT, runT, runT, runE, runE]
          show R.bind (R.bind (R.bind (match isT (.ref e) .tuple s with
            | some k => R.ok (D.bl k) s
            | none => R.bad) truD) _) _ = _
          rw [hT]
          rfl
        have r1 : runS (cfg.q 57) (.raise ("BadPlan" : Str) [.con (.str ("rows" : Str))]) [some (.ref e), some (.int 1), none] s = .exc "BadPlan" [("word", .str "rows")] [some (.ref e), some (.int 1), none] s := by
          rw [runS, hex]
          rfl
        rw [runSs, runS, t1]
        dsimp only [R.thn]
        rw [if_pos rfl, runSs, r1]
      unfold runF
      show (match runSs (cfg.q 57) d_look_at_worths.body [some (.ref e), some (.int 1), none] s with
        | .nx _ s => R.ok D.non s
        | .rt d s => .ok d s
        | .exc C fs _ s => .exc C fs s
        | _ => .bad) = _
      rw [body]
    show cl (58+1) "best_kept" [.ref e, .int 1] s = _
    rw [c_kept]
    unfold runF
    have body : runSs (cfg.q 58) d_best_kept.body [some (.ref e), some (.int 1), none, none, none, none] s = .exc "BadPlan" [("word", .str "rows")] [some (.ref e), some (.int 1), none, none, none, none] s := by
      unfold d_best_kept
      have r1 : runS (cfg.q 58) (.expr (.call ("look_at_worths" : Str) [.var 0, .var 1])) [some (.ref e), some (.int 1), none, none, none, none] s = .exc "BadPlan" [("word", .str "rows")] [some (.ref e), some (.int 1), none, none, none, none] s := by
        have := body_exc (q := cfg.q 58) (ρ := [some (.ref e), some (.int 1), none, none, none, none]) (i := 0) (j := 1) rfl rfl rfl rfl (show (cfg.q 58).c ("look_at_worths" : Str) [.ref e, .int 1] s = .exc "BadPlan" [("word", .str "rows")] s from look)
        rw [runSs] at this
        cases h : runS (cfg.q 58) (.expr (.call ("look_at_worths" : Str) [.var 0, .var 1])) [some (.ref e), some (.int 1), none, none, none, none] s with
        | nx ρ s => rw [h] at this; dsimp only at this; rw [runSs] at this; cases this
        | _ => rw [h] at this; exact this
      rw [runSs, r1]
    show (match runSs (cfg.q 58) d_best_kept.body [some (.ref e), some (.int 1), none, none, none, none] s with
      | .nx _ s => R.ok D.non s
      | .rt d s => .ok d s
      | .exc C fs _ s => .exc C fs s
      | _ => .bad) = _
    rw [body]
  · exact ⟨rfl, rfl, by kernel_rfl⟩
  · exact ⟨rfl, rfl, by kernel_rfl⟩
  · exact ⟨rfl, rfl, by kernel_rfl⟩
  · exact ⟨rfl, rfl, by kernel_rfl⟩
  · exact ⟨rfl, rfl, by kernel_rfl⟩
  · exact ⟨rfl, rfl, by kernel_rfl⟩
  · exact ⟨rfl, rfl, by kernel_rfl⟩
  · exact ⟨rfl, rfl, by kernel_rfl⟩
theorem r21 {d : D} {s : S} {P : D → S → Prop} : Wp (binD .mul (.tup [d]) (.int 21) s) P = P (.tup (List.replicate 21 d)) s := wb_tmul (n := 21) (by decide) (by decide)
theorem cfg_isx {k : Nat} : (cfg.q k).isx = lk2 cfg.isx := rfl
theorem law_end {sc d : D} {o : List (Option D)} {s : S} {Q : Kt} (ho : o.length = 14) (hq : ∀ s', Q.rt (.bl true) s') : Ws (runSs (cfg.q 59) (d_law.body.drop 2) (some sc :: some d :: o) s) Q := by
  match o, ho with
  | [o2, o3, o4, o5, o6, o7, o8, o9, o10, o11, o12, o13, o14, o15], _ =>
  unfold d_law
  simp only [List.drop_succ_cons, List.drop_zero]
  refine ws_asgs ?_
  simp only [we_con, we_varm, we_glom, we_bin, we_neg, we_cmp, we_chain, we_and, we_or, we_not, we_ife, we_tup, we_lst, we_ix, we_sl, we_rev, we_call, we_blt, we_isi, we_app, we_lc, wa_nil, wa_cons, wr_nil, wr_cons, wo_none, wo_some, wto_none, wto_some, wt_and, wt_or, wt_not, wt_cmp, wt_chain, wt_tru, wi_seq, wi_range, wi_enum, wg_nm, wg_tup, wg_nil, wg_cons, wg_sub, wp_ok, wp_bad, wp_nox, wb_add, wb_sub, wb_mul, wb_fdiv, wb_mod, wb_pow, wc_eq, wc_ne, wc_lt, wc_le, wc_gt, wc_ge, wc_eqb, wc_neb, wc_eqs, wc_nes, wx_int, wx_lent, wx_lenl, wx_lenr, wz_int, wz_str, wz_bl, wz_non, wz_tup, wz_rol, wz_ref, wz_lst, List.getElem?_cons_zero, List.getElem?_cons_succ, List.set_cons_zero, List.set_cons_succ, List.length_cons, List.length_nil, wi_tup, wi_lst, wi_rol, wx_tuplel, wx_tuplet, wx_listt, wto_some, hdq, hqc, ite_f, ite_tt, decide_eq_true_eq, Bool.not_eq_true', wisT, ex_bl, ex_int, ite_tf, ite_ff, wix0, wix1, wix2, Nat.reduceAdd, Nat.reduceLT, sl0, sl1, sl2, sl3, sl4, sl5, sl6, sl10, if_true, true_and, and_true, List.map_cons, List.map_nil, wip, wt_turn, it_non_int, it_non_bool, it_non_str, it_non_tuple, it_non_list, it_non_dict, it_bl_int, it_bl_bool, it_bl_str, it_bl_tuple, it_bl_list, it_bl_dict, it_int_int, it_int_bool, it_int_str, it_int_tuple, it_int_list, it_int_dict, it_str_int, it_str_bool, it_str_str, it_str_tuple, it_str_list, it_str_dict, it_tup_int, it_tup_bool, it_tup_str, it_tup_tuple, it_tup_list, it_tup_dict, it_lst_int, it_lst_bool, it_lst_str, it_lst_tuple, it_lst_list, it_lst_dict, it_rol_int, it_rol_bool, it_rol_str, it_rol_tuple, it_rol_list, it_rol_dict]
  refine ws_asgs ?_
  simp only [we_con, we_varm, we_glom, we_bin, we_neg, we_cmp, we_chain, we_and, we_or, we_not, we_ife, we_tup, we_lst, we_ix, we_sl, we_rev, we_call, we_blt, we_isi, we_app, we_lc, wa_nil, wa_cons, wr_nil, wr_cons, wo_none, wo_some, wto_none, wto_some, wt_and, wt_or, wt_not, wt_cmp, wt_chain, wt_tru, wi_seq, wi_range, wi_enum, wg_nm, wg_tup, wg_nil, wg_cons, wg_sub, wp_ok, wp_bad, wp_nox, wb_add, wb_sub, wb_mul, wb_fdiv, wb_mod, wb_pow, wc_eq, wc_ne, wc_lt, wc_le, wc_gt, wc_ge, wc_eqb, wc_neb, wc_eqs, wc_nes, wx_int, wx_lent, wx_lenl, wx_lenr, wz_int, wz_str, wz_bl, wz_non, wz_tup, wz_rol, wz_ref, wz_lst, List.getElem?_cons_zero, List.getElem?_cons_succ, List.set_cons_zero, List.set_cons_succ, List.length_cons, List.length_nil, wi_tup, wi_lst, wi_rol, wx_tuplel, wx_tuplet, wx_listt, wto_some, hdq, hqc, ite_f, ite_tt, decide_eq_true_eq, Bool.not_eq_true', wisT, ex_bl, ex_int, ite_tf, ite_ff, wix0, wix1, wix2, Nat.reduceAdd, Nat.reduceLT, sl0, sl1, sl2, sl3, sl4, sl5, sl6, sl10, if_true, true_and, and_true, List.map_cons, List.map_nil, wip, wt_turn, it_non_int, it_non_bool, it_non_str, it_non_tuple, it_non_list, it_non_dict, it_bl_int, it_bl_bool, it_bl_str, it_bl_tuple, it_bl_list, it_bl_dict, it_int_int, it_int_bool, it_int_str, it_int_tuple, it_int_list, it_int_dict, it_str_int, it_str_bool, it_str_str, it_str_tuple, it_str_list, it_str_dict, it_tup_int, it_tup_bool, it_tup_str, it_tup_tuple, it_tup_list, it_tup_dict, it_lst_int, it_lst_bool, it_lst_str, it_lst_tuple, it_lst_list, it_lst_dict, it_rol_int, it_rol_bool, it_rol_str, it_rol_tuple, it_rol_list, it_rol_dict, r21]
  have hwb : ∃ w e b : Nat, w = s.length ∧ e = (s ++ [O.lst []]).length ∧ b = (s ++ [O.lst []] ++ [O.lst []]).length := ⟨_, _, _, rfl, rfl, rfl⟩
  obtain ⟨w, e, b, hw, he, hb⟩ := hwb
  rw [← hw, ← he, ← hb]
  have hwe : w ≠ e := by rw [hw, he]; simp
  have hwb : w ≠ b := by rw [hw, hb]; simp
  have k0 : ∃ L : List D, L = (bads e).map fun p => D.tup [p.1, p.2.1] := ⟨_, rfl⟩
  obtain ⟨L, hL⟩ := k0
  have hL2 : [D.tup [.non, .int 1], .tup [.ref e, .int 1], .tup [.tup [.non], .int 1], .tup [.tup [.tup [.int 0, .int 1]], .int 1], .tup [.tup [.tup [.int 1, .int (-1)]], .int 1], .tup [.tup [.tup [.bl true, .int 1]], .int 1],
      .tup [.tup [], .int (-1)], .tup [.tup [], .int 401], .tup [.tup [], .non], .tup [.tup (List.replicate 21 (.tup [.int 1, .int 1])), .int 1]] = L := by rw [hL]; rfl
  rw [hL2]
  have lw : lk (s ++ [O.lst []] ++ [O.lst []] ++ [O.lst L]) w = some [] := by rw [hw]; exact lk_app (lk_app lk_new1)
  have le : lk (s ++ [O.lst []] ++ [O.lst []] ++ [O.lst L]) e = some [] := by rw [he]; exact lk_app lk_new1
  have lb : lk (s ++ [O.lst []] ++ [O.lst []] ++ [O.lst L]) b = some L := by rw [hb]; exact lk_new1
  generalize s ++ [O.lst []] ++ [O.lst []] ++ [O.lst L] = s1 at *
  clear hL2
  refine ws_cut (fun ρ s' => ∃ y5 y6 y10, ρ = [some sc, some d, o2, some (.ref w), some (.ref b), y5, y6, o7, o8, o9, y10, o11, o12, o13, o14, o15] ∧ lk s' w = some ((bads e).map fun p => D.str p.2.2.2)) (ws_fo ?_) ?_
  · simp only [we_con, we_varm, we_glom, we_bin, we_neg, we_cmp, we_chain, we_and, we_or, we_not, we_ife, we_tup, we_lst, we_ix, we_sl, we_rev, we_call, we_blt, we_isi, we_app, we_lc, wa_nil, wa_cons, wr_nil, wr_cons, wo_none, wo_some, wto_none, wto_some, wt_and, wt_or, wt_not, wt_cmp, wt_chain, wt_tru, wi_seq, wi_range, wi_enum, wg_nm, wg_tup, wg_nil, wg_cons, wg_sub, wp_ok, wp_bad, wp_nox, wb_add, wb_sub, wb_mul, wb_fdiv, wb_mod, wb_pow, wc_eq, wc_ne, wc_lt, wc_le, wc_gt, wc_ge, wc_eqb, wc_neb, wc_eqs, wc_nes, wx_int, wx_lent, wx_lenl, wx_lenr, wz_int, wz_str, wz_bl, wz_non, wz_tup, wz_rol, wz_ref, wz_lst, List.getElem?_cons_zero, List.getElem?_cons_succ, List.set_cons_zero, List.set_cons_succ, List.length_cons, List.length_nil, wi_tup, wi_lst, wi_rol, wx_tuplel, wx_tuplet, wx_listt, wto_some, hdq, hqc, ite_f, ite_tt, decide_eq_true_eq, Bool.not_eq_true', wisT, ex_bl, ex_int, ite_tf, ite_ff, wix0, wix1, wix2, Nat.reduceAdd, Nat.reduceLT, sl0, sl1, sl2, sl3, sl4, sl5, sl6, sl10, if_true, true_and, and_true, List.map_cons, List.map_nil, wip, wt_turn, it_non_int, it_non_bool, it_non_str, it_non_tuple, it_non_list, it_non_dict, it_bl_int, it_bl_bool, it_bl_str, it_bl_tuple, it_bl_list, it_bl_dict, it_int_int, it_int_bool, it_int_str, it_int_tuple, it_int_list, it_int_dict, it_str_int, it_str_bool, it_str_str, it_str_tuple, it_str_list, it_str_dict, it_tup_int, it_tup_bool, it_tup_str, it_tup_tuple, it_tup_list, it_tup_dict, it_lst_int, it_lst_bool, it_lst_str, it_lst_tuple, it_lst_list, it_lst_dict, it_rol_int, it_rol_bool, it_rol_str, it_rol_tuple, it_rol_list, it_rol_dict]
    rw [wi_ref lb]
    refine ⟨fun r ρ s' => ∃ (a r' : List (D × D × Str × Str)) (y5 y6 y10 : Option D), bads e = a ++ r' ∧ r = (r'.map fun p => D.tup [p.1, p.2.1]) ∧ ρ = [some sc, some d, o2, some (.ref w), some (.ref b), y5, y6, o7, o8, o9, y10, o11, o12, o13, o14, o15] ∧
      lk s' w = some (a.map fun p => D.str p.2.2.2) ∧ lk s' e = some [] ∧ lk s' b = some L, ?_, ?_, ?_⟩
    · exact ⟨[], bads e, _, _, _, rfl, hL, rfl, lw, le, lb⟩
    · rintro ρ s' ⟨a, r', y5, y6, y10, e1, e2, rfl, h1, h2, h3⟩
      have : r' = [] := by
        cases r' with
        | nil => rfl
        | cons _ _ => cases e2
      subst this
      rw [List.append_nil] at e1
      subst e1
      exact ⟨okR_ok h3, _, _, _, rfl, h1⟩
    · rintro x r ρ s' ⟨a, r', y5, y6, y10, e1, e2, rfl, h1, h2, h3⟩
      cases r' with
      | nil => cases e2
      | cons p r' =>
        rw [List.map_cons] at e2
        cases e2
        have hp : p ∈ bads e := by rw [e1]; simp
        obtain ⟨s1', s2', hexc⟩ := bad_exc h2 p hp
        refine ⟨okR_ok h3, ?_⟩
        simp only [we_con, we_varm, we_glom, we_bin, we_neg, we_cmp, we_chain, we_and, we_or, we_not, we_ife, we_tup, we_lst, we_ix, we_sl, we_rev, we_call, we_blt, we_isi, we_app, we_lc, wa_nil, wa_cons, wr_nil, wr_cons, wo_none, wo_some, wto_none, wto_some, wt_and, wt_or, wt_not, wt_cmp, wt_chain, wt_tru, wi_seq, wi_range, wi_enum, wg_nm, wg_tup, wg_nil, wg_cons, wg_sub, wp_ok, wp_bad, wp_nox, wb_add, wb_sub, wb_mul, wb_fdiv, wb_mod, wb_pow, wc_eq, wc_ne, wc_lt, wc_le, wc_gt, wc_ge, wc_eqb, wc_neb, wc_eqs, wc_nes, wx_int, wx_lent, wx_lenl, wx_lenr, wz_int, wz_str, wz_bl, wz_non, wz_tup, wz_rol, wz_ref, wz_lst, List.getElem?_cons_zero, List.getElem?_cons_succ, List.set_cons_zero, List.set_cons_succ, List.length_cons, List.length_nil, wi_tup, wi_lst, wi_rol, wx_tuplel, wx_tuplet, wx_listt, wto_some, hdq, hqc, ite_f, ite_tt, decide_eq_true_eq, Bool.not_eq_true', wisT, ex_bl, ex_int, ite_tf, ite_ff, wix0, wix1, wix2, Nat.reduceAdd, Nat.reduceLT, sl0, sl1, sl2, sl3, sl4, sl5, sl6, sl10, if_true, true_and, and_true, List.map_cons, List.map_nil, wip, wt_turn, it_non_int, it_non_bool, it_non_str, it_non_tuple, it_non_list, it_non_dict, it_bl_int, it_bl_bool, it_bl_str, it_bl_tuple, it_bl_list, it_bl_dict, it_int_int, it_int_bool, it_int_str, it_int_tuple, it_int_list, it_int_dict, it_str_int, it_str_bool, it_str_str, it_str_tuple, it_str_list, it_str_dict, it_tup_int, it_tup_bool, it_tup_str, it_tup_tuple, it_tup_list, it_tup_dict, it_lst_int, it_lst_bool, it_lst_str, it_lst_tuple, it_lst_list, it_lst_dict, it_rol_int, it_rol_bool, it_rol_str, it_rol_tuple, it_rol_list, it_rol_dict]
        rw [wz_shr s1', wz_shr s2']
        have hcls : p.2.2.1 = "BadPlan" ∨ p.2.2.1 = "Refused" := by
          simp only [bads, List.mem_cons, List.not_mem_nil, or_false] at hp
          rcases hp with rfl | rfl | rfl | rfl | rfl | rfl | rfl | rfl | rfl | rfl <;> first | exact .inl rfl | exact .inr rfl
        refine ws_1 (ws_tr (body_exc (i := 5) (j := 6) rfl rfl s1' s2' (show (cfg.q 59).c ("best_kept" : Str) [p.1, p.2.1] s' = _ from hexc)) ?_)
        have suite : ∀ C : Str, (cfg.q 59).isx C "ValueError" = some true → (cfg.q 59).fld C "word" = true → Ws (runSs { cfg.q 59 with hd := some (10, C, [(("word" : Str), .str p.2.2.2)]) } [.expr (.mth .append (.var 3) [.ife (.tru (.eisi 10 ("ValueError" : Str))) (.efld 10 ("word" : Str)) (.con (.str ("" : Str)))])]
            [some sc, some d, o2, some (.ref w), some (.ref b), some p.1, some p.2.1, o7, o8, o9, none, o11, o12, o13, o14, o15] s') { nx := fun ρ s => ∃ (a r'' : List (D × D × Str × Str)) (y5 y6 y10 : Option D), bads e = a ++ r'' ∧ (r'.map fun p => D.tup [p.1, p.2.1]) = (r''.map fun p => D.tup [p.1, p.2.1]) ∧ ρ.set 10 none = [some sc, some d, o2, some (.ref w), some (.ref b), y5, y6, o7, o8, o9, y10, o11, o12, o13, o14, o15] ∧ lk s w = some (a.map fun p => D.str p.2.2.2) ∧ lk s e = some [] ∧ lk s b = some L } := fun C hi hf => by
          obtain ⟨q1, hq1⟩ : ∃ q1 : Rq, q1 = { cfg.q 59 with hd := some (10, C, [(("word" : Str), .str p.2.2.2)]) } := ⟨_, rfl⟩
          rw [← hq1]
          have q1h : q1.hd = some (10, C, [(("word" : Str), .str p.2.2.2)]) := by rw [hq1]
          have q1i : q1.isx C "ValueError" = some true := by rw [hq1]; exact hi
          have q1f : q1.fld C "word" = true := by rw [hq1]; exact hf
          clear hq1
          refine ws_1 (ws_expr ?_)
          simp only [we_con, we_varm, we_glom, we_bin, we_neg, we_cmp, we_chain, we_and, we_or, we_not, we_ife, we_tup, we_lst, we_ix, we_sl, we_rev, we_call, we_blt, we_isi, we_app, we_lc, wa_nil, wa_cons, wr_nil, wr_cons, wo_none, wo_some, wto_none, wto_some, wt_and, wt_or, wt_not, wt_cmp, wt_chain, wt_tru, wi_seq, wi_range, wi_enum, wg_nm, wg_tup, wg_nil, wg_cons, wg_sub, wp_ok, wp_bad, wp_nox, wb_add, wb_sub, wb_mul, wb_fdiv, wb_mod, wb_pow, wc_eq, wc_ne, wc_lt, wc_le, wc_gt, wc_ge, wc_eqb, wc_neb, wc_eqs, wc_nes, wx_int, wx_lent, wx_lenl, wx_lenr, wz_int, wz_str, wz_bl, wz_non, wz_tup, wz_rol, wz_ref, wz_lst, List.getElem?_cons_zero, List.getElem?_cons_succ, List.set_cons_zero, List.set_cons_succ, List.length_cons, List.length_nil, wi_tup, wi_lst, wi_rol, wx_tuplel, wx_tuplet, wx_listt, wto_some, hdq, hqc, ite_f, ite_tt, decide_eq_true_eq, Bool.not_eq_true', wisT, ex_bl, ex_int, ite_tf, ite_ff, wix0, wix1, wix2, Nat.reduceAdd, Nat.reduceLT, sl0, sl1, sl2, sl3, sl4, sl5, sl6, sl10, if_true, true_and, and_true, List.map_cons, List.map_nil, wip, wt_turn, it_non_int, it_non_bool, it_non_str, it_non_tuple, it_non_list, it_non_dict, it_bl_int, it_bl_bool, it_bl_str, it_bl_tuple, it_bl_list, it_bl_dict, it_int_int, it_int_bool, it_int_str, it_int_tuple, it_int_list, it_int_dict, it_str_int, it_str_bool, it_str_str, it_str_tuple, it_str_list, it_str_dict, it_tup_int, it_tup_bool, it_tup_str, it_tup_tuple, it_tup_list, it_tup_dict, it_lst_int, it_lst_bool, it_lst_str, it_lst_tuple, it_lst_list, it_lst_dict, it_rol_int, it_rol_bool, it_rol_str, it_rol_tuple, it_rol_list, it_rol_dict]
          refine ⟨by rw [mut_ref h1]; rfl, ?_⟩
          rw [we_eisi q1h q1i]
          simp only [we_con, we_varm, we_glom, we_bin, we_neg, we_cmp, we_chain, we_and, we_or, we_not, we_ife, we_tup, we_lst, we_ix, we_sl, we_rev, we_call, we_blt, we_isi, we_app, we_lc, wa_nil, wa_cons, wr_nil, wr_cons, wo_none, wo_some, wto_none, wto_some, wt_and, wt_or, wt_not, wt_cmp, wt_chain, wt_tru, wi_seq, wi_range, wi_enum, wg_nm, wg_tup, wg_nil, wg_cons, wg_sub, wp_ok, wp_bad, wp_nox, wb_add, wb_sub, wb_mul, wb_fdiv, wb_mod, wb_pow, wc_eq, wc_ne, wc_lt, wc_le, wc_gt, wc_ge, wc_eqb, wc_neb, wc_eqs, wc_nes, wx_int, wx_lent, wx_lenl, wx_lenr, wz_int, wz_str, wz_bl, wz_non, wz_tup, wz_rol, wz_ref, wz_lst, List.getElem?_cons_zero, List.getElem?_cons_succ, List.set_cons_zero, List.set_cons_succ, List.length_cons, List.length_nil, wi_tup, wi_lst, wi_rol, wx_tuplel, wx_tuplet, wx_listt, wto_some, hdq, hqc, ite_f, ite_tt, decide_eq_true_eq, Bool.not_eq_true', wisT, ex_bl, ex_int, ite_tf, ite_ff, wix0, wix1, wix2, Nat.reduceAdd, Nat.reduceLT, sl0, sl1, sl2, sl3, sl4, sl5, sl6, sl10, if_true, true_and, and_true, List.map_cons, List.map_nil, wip, wt_turn, it_non_int, it_non_bool, it_non_str, it_non_tuple, it_non_list, it_non_dict, it_bl_int, it_bl_bool, it_bl_str, it_bl_tuple, it_bl_list, it_bl_dict, it_int_int, it_int_bool, it_int_str, it_int_tuple, it_int_list, it_int_dict, it_str_int, it_str_bool, it_str_str, it_str_tuple, it_str_list, it_str_dict, it_tup_int, it_tup_bool, it_tup_str, it_tup_tuple, it_tup_list, it_tup_dict, it_lst_int, it_lst_bool, it_lst_str, it_lst_tuple, it_lst_list, it_lst_dict, it_rol_int, it_rol_bool, it_rol_str, it_rol_tuple, it_rol_list, it_rol_dict]
          rw [we_efld q1h q1f (d := .str p.2.2.2) (by kernel_rfl)]
          simp only [we_con, we_varm, we_glom, we_bin, we_neg, we_cmp, we_chain, we_and, we_or, we_not, we_ife, we_tup, we_lst, we_ix, we_sl, we_rev, we_call, we_blt, we_isi, we_app, we_lc, wa_nil, wa_cons, wr_nil, wr_cons, wo_none, wo_some, wto_none, wto_some, wt_and, wt_or, wt_not, wt_cmp, wt_chain, wt_tru, wi_seq, wi_range, wi_enum, wg_nm, wg_tup, wg_nil, wg_cons, wg_sub, wp_ok, wp_bad, wp_nox, wb_add, wb_sub, wb_mul, wb_fdiv, wb_mod, wb_pow, wc_eq, wc_ne, wc_lt, wc_le, wc_gt, wc_ge, wc_eqb, wc_neb, wc_eqs, wc_nes, wx_int, wx_lent, wx_lenl, wx_lenr, wz_int, wz_str, wz_bl, wz_non, wz_tup, wz_rol, wz_ref, wz_lst, List.getElem?_cons_zero, List.getElem?_cons_succ, List.set_cons_zero, List.set_cons_succ, List.length_cons, List.length_nil, wi_tup, wi_lst, wi_rol, wx_tuplel, wx_tuplet, wx_listt, wto_some, hdq, hqc, ite_f, ite_tt, decide_eq_true_eq, Bool.not_eq_true', wisT, ex_bl, ex_int, ite_tf, ite_ff, wix0, wix1, wix2, Nat.reduceAdd, Nat.reduceLT, sl0, sl1, sl2, sl3, sl4, sl5, sl6, sl10, if_true, true_and, and_true, List.map_cons, List.map_nil, wip, wt_turn, it_non_int, it_non_bool, it_non_str, it_non_tuple, it_non_list, it_non_dict, it_bl_int, it_bl_bool, it_bl_str, it_bl_tuple, it_bl_list, it_bl_dict, it_int_int, it_int_bool, it_int_str, it_int_tuple, it_int_list, it_int_dict, it_str_int, it_str_bool, it_str_str, it_str_tuple, it_str_list, it_str_dict, it_tup_int, it_tup_bool, it_tup_str, it_tup_tuple, it_tup_list, it_tup_dict, it_lst_int, it_lst_bool, it_lst_str, it_lst_tuple, it_lst_list, it_lst_dict, it_rol_int, it_rol_bool, it_rol_str, it_rol_tuple, it_rol_list, it_rol_dict]
          rw [wm_app h1 (Nat.lt_of_le_of_lt (m := 10) (by
            have := congrArg List.length e1
            simp [bads] at this
            simp; omega) (by decide))]
          refine ⟨a ++ [p], r', _, _, none, by rw [e1]; simp, rfl, rfl, ?_, ?_, ?_⟩
          · rw [lk_set h1, List.map_append]; rfl
          · rw [lk_set_ne hwe]; exact h2
          · rw [lk_set_ne hwb]; exact h3
        rcases hcls with hc | hc
        · rw [hc]
          refine wh_yes (by kernel_rfl) (by simp) ?_
          exact suite "BadPlan" (by kernel_rfl) (by kernel_rfl)
        · rw [hc]
          refine wh_no (by kernel_rfl) (wh_yes (by kernel_rfl) (by simp) ?_)
          exact suite "Refused" (by kernel_rfl) (by kernel_rfl)
  · rintro ρ s' ⟨y5, y6, y10, rfl, h1⟩
    refine ws_rets ?_
    simp only [we_con, we_varm, we_glom, we_bin, we_neg, we_cmp, we_chain, we_and, we_or, we_not, we_ife, we_tup, we_lst, we_ix, we_sl, we_rev, we_call, we_blt, we_isi, we_app, we_lc, wa_nil, wa_cons, wr_nil, wr_cons, wo_none, wo_some, wto_none, wto_some, wt_and, wt_or, wt_not, wt_cmp, wt_chain, wt_tru, wi_seq, wi_range, wi_enum, wg_nm, wg_tup, wg_nil, wg_cons, wg_sub, wp_ok, wp_bad, wp_nox, wb_add, wb_sub, wb_mul, wb_fdiv, wb_mod, wb_pow, wc_eq, wc_ne, wc_lt, wc_le, wc_gt, wc_ge, wc_eqb, wc_neb, wc_eqs, wc_nes, wx_int, wx_lent, wx_lenl, wx_lenr, wz_int, wz_str, wz_bl, wz_non, wz_tup, wz_rol, wz_ref, wz_lst, List.getElem?_cons_zero, List.getElem?_cons_succ, List.set_cons_zero, List.set_cons_succ, List.length_cons, List.length_nil, wi_tup, wi_lst, wi_rol, wx_tuplel, wx_tuplet, wx_listt, wto_some, hdq, hqc, ite_f, ite_tt, decide_eq_true_eq, Bool.not_eq_true', wisT, ex_bl, ex_int, ite_tf, ite_ff, wix0, wix1, wix2, Nat.reduceAdd, Nat.reduceLT, sl0, sl1, sl2, sl3, sl4, sl5, sl6, sl10, if_true, true_and, and_true, List.map_cons, List.map_nil, wip, wt_turn, it_non_int, it_non_bool, it_non_str, it_non_tuple, it_non_list, it_non_dict, it_bl_int, it_bl_bool, it_bl_str, it_bl_tuple, it_bl_list, it_bl_dict, it_int_int, it_int_bool, it_int_str, it_int_tuple, it_int_list, it_int_dict, it_str_int, it_str_bool, it_str_str, it_str_tuple, it_str_list, it_str_dict, it_tup_int, it_tup_bool, it_tup_str, it_tup_tuple, it_tup_list, it_tup_dict, it_lst_int, it_lst_bool, it_lst_str, it_lst_tuple, it_lst_list, it_lst_dict, it_rol_int, it_rol_bool, it_rol_str, it_rol_tuple, it_rol_list, it_rol_dict]
    have m6 : ∀ {s : S} {P : D → S → Prop} {x : D}, Wp (binD .mul (.lst [x]) (.int 6) s) P = P (.lst (List.replicate 6 [x]).flatten) s := fun {s P x} => wb_lmul (n := 6) (by decide) (by simp)
    have m3 : ∀ {s : S} {P : D → S → Prop} {x : D}, Wp (binD .mul (.lst [x]) (.int 3) s) P = P (.lst (List.replicate 3 [x]).flatten) s := fun {s P x} => wb_lmul (n := 3) (by decide) (by simp)
    rw [m6, m3, wb_ladd mut_lst mut_lst (leL (by simp)), wb_ladd mut_lst mut_lst (leL (by simp))]
    refine .of (a := true) (s' := s') ?_ (hq s')
    unfold cmpD cmpO
    dsimp only
    have e : eqD s' (.ref w) (.lst ((List.replicate 6 [D.str "rows"]).flatten ++ (List.replicate 3 [D.str "room"]).flatten ++ [D.str "many"])) = some true := by
      unfold eqD
      rw [if_neg (by simp [D.scal])]
      have p1 : D.py s' (.ref w) = (D.pys ((bads e).map fun p => D.str p.2.2.2)).map .list := by
        unfold D.py
        dsimp only
        rw [h1]; rfl
      rw [p1]
      kernel_rfl
    rw [e]
end L
end DI

set_option Elab.async false
set_option linter.all false
set_option maxRecDepth 100000
set_option maxHeartbeats 8000000
/-! the plain law, N: the whole. -/
namespace DI.L
open PySem L2
theorem plain (ns : List Int) (hl : ns.length ≤ 63) : ∃ s', callN cfg.ds cfg.q0 60 d_law.name [.rol (ns.map .int)] [] = .ok (.bl true) s' := by
  have main : Wp (cl (59+1) "law" [.rol (ns.map .int)] []) fun d _ => d = .bl true := by
    rw [c_law]
    refine wf_run ?_
    show Ws (runSs (cfg.q 59) (d_law.body) [some (.rol (ns.map .int)), none, none, none, none, none, none, none, none, none, none, none, none, none, none, none] []) _
    have hb : d_law.body = .asg (.nm 1) (.call "_law_draws" [.var 0]) :: (match d_law.body with
      | _ :: x :: _ => x
      | _ => .pass) :: d_law.body.drop 2 := rfl
    rw [hb]
    refine ws_asgs ?_
    simp only [we_con, we_varm, we_glom, we_bin, we_neg, we_cmp, we_chain, we_and, we_or, we_not, we_ife, we_tup, we_lst, we_ix, we_sl, we_rev, we_call, we_blt, we_isi, we_app, we_lc, wa_nil, wa_cons, wr_nil, wr_cons, wo_none, wo_some, wto_none, wto_some, wt_and, wt_or, wt_not, wt_cmp, wt_chain, wt_tru, wi_seq, wi_range, wi_enum, wg_nm, wg_tup, wg_nil, wg_cons, wg_sub, wp_ok, wp_bad, wp_nox, wb_add, wb_sub, wb_mul, wb_fdiv, wb_mod, wb_pow, wc_eq, wc_ne, wc_lt, wc_le, wc_gt, wc_ge, wc_eqb, wc_neb, wc_eqs, wc_nes, wx_int, wx_lent, wx_lenl, wx_lenr, wz_int, wz_str, wz_bl, wz_non, wz_tup, wz_rol, wz_ref, wz_lst, List.getElem?_cons_zero, List.getElem?_cons_succ, List.set_cons_zero, List.set_cons_succ, List.length_cons, List.length_nil, wi_tup, wi_lst, wi_rol, wx_tuplel, wx_tuplet, wx_listt, wto_some, hdq, hqc, ite_f, ite_tt, decide_eq_true_eq, Bool.not_eq_true', wisT, ex_bl, ex_int, ite_tf, ite_ff, wix0, wix1, wix2, Nat.reduceAdd, Nat.reduceLT, sl0, sl1, sl2, sl3, sl4, sl5, sl6, sl10, if_true, true_and, and_true, List.map_cons, List.map_nil, wip, wt_turn, it_non_int, it_non_bool, it_non_str, it_non_tuple, it_non_list, it_non_dict, it_bl_int, it_bl_bool, it_bl_str, it_bl_tuple, it_bl_list, it_bl_dict, it_int_int, it_int_bool, it_int_str, it_int_tuple, it_int_list, it_int_dict, it_str_int, it_str_bool, it_str_str, it_str_tuple, it_str_list, it_str_dict, it_tup_int, it_tup_bool, it_tup_str, it_tup_tuple, it_tup_list, it_tup_dict, it_lst_int, it_lst_bool, it_lst_str, it_lst_tuple, it_lst_list, it_lst_dict, it_rol_int, it_rol_bool, it_rol_str, it_rol_tuple, it_rol_list, it_rol_dict]
    refine w_call (k := 59) (s_draws (k := 58)) ?_
    rintro d s1 ⟨rfl, rfl⟩
    simp only [we_con, we_varm, we_glom, we_bin, we_neg, we_cmp, we_chain, we_and, we_or, we_not, we_ife, we_tup, we_lst, we_ix, we_sl, we_rev, we_call, we_blt, we_isi, we_app, we_lc, wa_nil, wa_cons, wr_nil, wr_cons, wo_none, wo_some, wto_none, wto_some, wt_and, wt_or, wt_not, wt_cmp, wt_chain, wt_tru, wi_seq, wi_range, wi_enum, wg_nm, wg_tup, wg_nil, wg_cons, wg_sub, wp_ok, wp_bad, wp_nox, wb_add, wb_sub, wb_mul, wb_fdiv, wb_mod, wb_pow, wc_eq, wc_ne, wc_lt, wc_le, wc_gt, wc_ge, wc_eqb, wc_neb, wc_eqs, wc_nes, wx_int, wx_lent, wx_lenl, wx_lenr, wz_int, wz_str, wz_bl, wz_non, wz_tup, wz_rol, wz_ref, wz_lst, List.getElem?_cons_zero, List.getElem?_cons_succ, List.set_cons_zero, List.set_cons_succ, List.length_cons, List.length_nil, wi_tup, wi_lst, wi_rol, wx_tuplel, wx_tuplet, wx_listt, wto_some, hdq, hqc, ite_f, ite_tt, decide_eq_true_eq, Bool.not_eq_true', wisT, ex_bl, ex_int, ite_tf, ite_ff, wix0, wix1, wix2, Nat.reduceAdd, Nat.reduceLT, sl0, sl1, sl2, sl3, sl4, sl5, sl6, sl10, if_true, true_and, and_true, List.map_cons, List.map_nil, wip, wt_turn, it_non_int, it_non_bool, it_non_str, it_non_tuple, it_non_list, it_non_dict, it_bl_int, it_bl_bool, it_bl_str, it_bl_tuple, it_bl_list, it_bl_dict, it_int_int, it_int_bool, it_int_str, it_int_tuple, it_int_list, it_int_dict, it_str_int, it_str_bool, it_str_str, it_str_tuple, it_str_list, it_str_dict, it_tup_int, it_tup_bool, it_tup_str, it_tup_tuple, it_tup_list, it_tup_dict, it_lst_int, it_lst_bool, it_lst_str, it_lst_tuple, it_lst_list, it_lst_dict, it_rol_int, it_rol_bool, it_rol_str, it_rol_tuple, it_rol_list, it_rol_dict]
    rw [ws_cons]
    refine law_turns (o := [none, none, none, none, none, none, none, none, none, none, none, none, none, none]) ?_ rfl fun o' s' ho hD => law_end ho fun _ => rfl
    refine ⟨0, ns, 0, 0, 1, ?_, ?_, ?_, Int.le_refl _, Int.le_refl _⟩
    · rfl
    · rfl
    · simp
  obtain ⟨d, s', e, rfl⟩ := main.eq
  exact ⟨s', e⟩
theorem holds : PySem.Challenge.rw_remaderight_k69_whole_best_rows_within_a.Holds := fin plain
end DI.L
theorem PySem.Challenge.cw_remaderight_k69_whole_best_rows_within_a_holds : PySem.Challenge.rw_remaderight_k69_whole_best_rows_within_a.Holds :=
  DI.L.holds
