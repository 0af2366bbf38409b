import PyProof.Rows.All
import Wide.All
import OpenK.AllK
import Wide.FinOn
import HandS.ForMost
import HandS.ForExc
import HandS.Conv
import HandS.Star
import HandS.IsInst
import HandS.Flow
import HandS.Wide
import HandS.RaiseMore
import HandS.Deep
import HandS.TupAny
import KE.DataCmp
import HandS.Zip
import PySem.Challenge.RW_pergola_k01_order_of_trees
set_option Elab.async false
set_option linter.all false
set_option maxRecDepth 100000
set_option maxHeartbeats 4000000
set_option autoImplicit false
/-! Vs: values over HandS: frozen data, owned lists and dicts, runs. -/
namespace Vs
open PySem PySem.Spec L2

/-! ### frozen data -/
def kD : Key → PyData
  | .inl i => .int i
  | .inr x => .str x
mutual
inductive Rp (K : PySem.W.Frag) (F : Hp) : V → PyData → Prop
  | non : Rp K F .non .none
  | bl (b : Bool) : Rp K F (.bl b) (.bool b)
  | int (i : Int) : Rp K F (.int i) (.int i)
  | str (x : Str) : Rp K F (.str x) (.str x)
  | lst {a : Addr} {xs : List V} {ds : List PyData} : SqL K F a xs → RpA K F xs ds → Rp K F (.ref a) (.list ds)
  | tup {a : Addr} {xs : List V} {ds : List PyData} : SqT K F a xs → RpA K F xs ds → Rp K F (.ref a) (.tuple ds)
  | dct {a : Addr} {kvs : List (Key × V)} {es : List (Key × PyData)} {ds : List (PyData × PyData)} : Rd F a (.dK kvs) → RpK K F kvs es → ds = es.map (fun p => (kD p.1, p.2)) → Rp K F (.ref a) (.dict ds)
inductive RpA (K : PySem.W.Frag) (F : Hp) : List V → List PyData → Prop
  | nil : RpA K F [] []
  | cons {v : V} {vs : List V} {d : PyData} {ds : List PyData} : Rp K F v d → RpA K F vs ds → RpA K F (v :: vs) (d :: ds)
inductive RpK (K : PySem.W.Frag) (F : Hp) : List (Key × V) → List (Key × PyData) → Prop
  | nil : RpK K F [] []
  | cons {k : Key} {v : V} {vs : List (Key × V)} {d : PyData} {ds : List (Key × PyData)} : Rp K F v d → RpK K F vs ds → RpK K F ((k, v) :: vs) ((k, d) :: ds)
end

/-- what may be read in F may be read in H -/
def Le (F H : Hp) : Prop := ∀ a u, Rd F a u → Rd H a u
theorem Le.refl (F : Hp) : Le F F := fun _ _ h => h
theorem Le.trans {F G H : Hp} (a : Le F G) (b : Le G H) : Le F H := fun c u h => b c u (a c u h)
theorem Le.seqL {K : PySem.W.Frag} {F H : Hp} (e : Le F H) {a : Addr} {xs : List V} (h : SqL K F a xs) : SqL K H a xs := by
  rcases h with h | h
  · exact .inl (e _ _ h)
  · exact .inr h
theorem Le.seqT {K : PySem.W.Frag} {F H : Hp} (e : Le F H) {a : Addr} {xs : List V} (h : SqT K F a xs) : SqT K H a xs := by
  rcases h with h | h
  · exact .inl (e _ _ h)
  · exact .inr h
theorem Le.ofNew {F : Hp} {a : Addr} {o : HO} (h : F a = none) : Le F (upd F a o) := fun b u r => by
  rcases r with r | ⟨x, r⟩
  · exact .inl (by rw [upd_ne (ne_of_none r h)]; exact r)
  · exact .inr ⟨x, by rw [upd_ne (ne_of_none r h)]; exact r⟩
mutual
theorem Rp.mono {K : PySem.W.Frag} {F H : Hp} (e : Le F H) : ∀ {v : V} {d : PyData}, Rp K F v d → Rp K H v d
  | _, _, .non => .non
  | _, _, .bl b => .bl b
  | _, _, .int i => .int i
  | _, _, .str x => .str x
  | _, _, .lst h r => .lst (e.seqL h) (RpA.mono e r)
  | _, _, .tup h r => .tup (e.seqT h) (RpA.mono e r)
  | _, _, .dct h r q => .dct (e _ _ h) (RpK.mono e r) q
theorem RpA.mono {K : PySem.W.Frag} {F H : Hp} (e : Le F H) : ∀ {v : List V} {d : List PyData}, RpA K F v d → RpA K H v d
  | _, _, .nil => .nil
  | _, _, .cons h r => .cons (Rp.mono e h) (RpA.mono e r)
theorem RpK.mono {K : PySem.W.Frag} {F H : Hp} (e : Le F H) : ∀ {v : List (Key × V)} {d : List (Key × PyData)}, RpK K F v d → RpK K H v d
  | _, _, .nil => .nil
  | _, _, .cons h r => .cons (Rp.mono e h) (RpK.mono e r)
end
section
variable {K : PySem.W.Frag} {F H : Hp}
theorem RpA.len : ∀ {xs : List V} {ds : List PyData}, RpA K F xs ds → xs.length = ds.length
  | _, _, .nil => rfl
  | _, _, .cons _ r => congrArg (· + 1) (RpA.len r)
theorem RpA.app : ∀ {xs ys : List V} {ds es : List PyData}, RpA K F xs ds → RpA K F ys es → RpA K F (xs ++ ys) (ds ++ es)
  | _, _, _, _, .nil, s => s
  | _, _, _, _, .cons h r, s => .cons h (RpA.app r s)
theorem RpA.get : ∀ {xs : List V} {ds : List PyData} {i : Nat} {d : PyData}, RpA K F xs ds → ds[i]? = some d → ∃ v, xs[i]? = some v ∧ Rp K F v d
  | _, _, _, _, .nil, e => by simp at e
  | _, _, 0, _, .cons h _, e => by simp at e; subst e; exact ⟨_, rfl, h⟩
  | _, _, i + 1, _, .cons _ r, e => by simpa using RpA.get (i := i) r (by simpa using e)
theorem RpA.getV : ∀ {xs : List V} {ds : List PyData} {i : Nat} {v : V}, RpA K F xs ds → xs[i]? = some v → ∃ d, ds[i]? = some d ∧ Rp K F v d
  | _, _, _, _, .nil, e => by simp at e
  | _, _, 0, _, .cons h _, e => by simp at e; subst e; exact ⟨_, rfl, h⟩
  | _, _, i + 1, _, .cons _ r, e => by simpa using RpA.getV (i := i) r (by simpa using e)
theorem RpA.take : ∀ {xs : List V} {ds : List PyData} (n : Nat), RpA K F xs ds → RpA K F (xs.take n) (ds.take n)
  | _, _, 0, _ => by simpa using RpA.nil
  | _, _, _ + 1, .nil => by simpa using RpA.nil
  | _, _, n + 1, .cons h r => by simpa using RpA.cons h (RpA.take n r)
theorem RpA.drop : ∀ {xs : List V} {ds : List PyData} (n : Nat), RpA K F xs ds → RpA K F (xs.drop n) (ds.drop n)
  | _, _, 0, r => by simpa using r
  | _, _, _ + 1, .nil => by simpa using RpA.nil
  | _, _, n + 1, .cons _ r => by simpa using RpA.drop n r
theorem RpA.set {v : V} {d : PyData} (h : Rp K F v d) : ∀ {xs : List V} {ds : List PyData} (i : Nat), RpA K F xs ds → RpA K F (xs.set i v) (ds.set i d)
  | _, _, _, .nil => by simpa using RpA.nil
  | _, _, 0, .cons _ r => by simpa using RpA.cons h r
  | _, _, i + 1, .cons q r => by simpa using RpA.cons q (RpA.set h i r)
theorem RpA.rev : ∀ {xs : List V} {ds : List PyData}, RpA K F xs ds → RpA K F xs.reverse ds.reverse
  | _, _, .nil => .nil
  | _, _, .cons h r => by simpa using RpA.app (RpA.rev r) (.cons h .nil)
theorem RpK.len : ∀ {xs : List (Key × V)} {ds : List (Key × PyData)}, RpK K F xs ds → xs.length = ds.length
  | _, _, .nil => rfl
  | _, _, .cons _ r => congrArg (· + 1) (RpK.len r)
end

/-! ### what a slot holds -/
/-- what may be changed: a list, a dict -/
inductive Mu where
  | lst (ds : List PyData)
  | dct (es : List (Key × PyData))
/-- frozen data, or something owned here (mu true: by the caller) -/
inductive O where
  | fz (d : PyData)
  | mu (b : Bool) (m : Mu)
abbrev Rho := List (Option O)
def Mu.view : Mu → PyData
  | .lst ds => .list ds
  | .dct es => .dict (es.map fun p => (kD p.1, p.2))
def O.view : O → PyData
  | .fz d => d
  | .mu _ m => m.view
def MuR (K : PySem.W.Frag) (F : Hp) (o : HO) : Mu → Prop
  | .lst ds => ∃ xs, o = .lst xs ∧ RpA K F xs ds
  | .dct es => ∃ kvs, o = .dK kvs ∧ RpK K F kvs es
def SlotR (K : PySem.W.Frag) (F H : Hp) (v : V) : O → Prop
  | .fz d => Rp K F v d
  | .mu _ m => ∃ a o, v = .ref a ∧ H a = some o ∧ F a = none ∧ MuR K F o m
theorem MuR.mono {K : PySem.W.Frag} {F F' : Hp} (e : Le F F') {o : HO} {m : Mu} (h : MuR K F o m) : MuR K F' o m := by
  cases m with
  | lst ds => obtain ⟨xs, rfl, r⟩ := h; exact ⟨xs, rfl, r.mono e⟩
  | dct es => obtain ⟨kvs, rfl, r⟩ := h; exact ⟨kvs, rfl, r.mono e⟩
theorem MuR.view {K : PySem.W.Frag} {F H : Hp} {a : Addr} {o : HO} {m : Mu} (h : MuR K F o m) (ho : H a = some o) (e : Le F H) : Rp K H (.ref a) m.view := by
  cases m with
  | lst ds => obtain ⟨xs, rfl, r⟩ := h; exact .lst (.of ho) (r.mono e)
  | dct es => obtain ⟨kvs, rfl, r⟩ := h; exact .dct (.of ho) (r.mono e) rfl
theorem SlotR.view {K : PySem.W.Frag} {F H : Hp} {v : V} {o : O} (h : SlotR K F H v o) (e : Le F H) : Rp K H v o.view := by
  cases o with
  | fz d => exact Rp.mono e h
  | mu b m => obtain ⟨a, u, rfl, hu, _, r⟩ := h; exact r.view hu e

structure Hd (K : PySem.W.Frag) (σ : St) (ρ : Rho) (F H : Hp) : Prop where
  le : Le F H
  len : σ.length = ρ.length
  at_ : ∀ (i : Nat) (o : O), ρ[i]? = some (some o) → ∃ v, σ[i]? = some (some v) ∧ SlotR K F H v o
  sep : ∀ (i j : Nat) (b : Bool) (m : Mu) (b' : Bool) (m' : Mu) (a : Addr), ρ[i]? = some (some (.mu b m)) → ρ[j]? = some (some (.mu b' m')) → σ[i]? = some (some (.ref a)) → σ[j]? = some (some (.ref a)) → i = j
def Own (σ : St) (ρ : Rho) (a : Addr) : Prop := ∃ (i : Nat) (b : Bool) (m : Mu), ρ[i]? = some (some (.mu b m)) ∧ σ[i]? = some (some (.ref a))
structure Sta where
  σ : St
  ρ : Rho
  F : Hp
  H : Hp
structure Post (K : PySem.W.Frag) (S : Sta) (σ : St) (ρ : Rho) (F H : Hp) : Prop where
  hd : Hd K σ ρ F H
  le : Le S.F F
  keep : ∀ b o, S.H b = some o → ¬ Own S.σ S.ρ b → H b = some o
  nofz : ∀ b o, S.H b = some o → ¬ Own S.σ S.ρ b → S.F b = none → F b = none
  own : ∀ b, Own σ ρ b → Own S.σ S.ρ b ∨ S.H b = none
  bor : ∀ (i : Nat) (m : Mu), S.ρ[i]? = some (some (.mu true m)) → σ[i]? = S.σ[i]? ∧ ∃ m', ρ[i]? = some (some (.mu true m'))
/-- owned at the start, or made behind it -/
def New (S : Sta) (a : Addr) : Prop := Own S.σ S.ρ a ∨ S.H a = none
theorem Post.refl {K : PySem.W.Frag} {σ : St} {ρ : Rho} {F H : Hp} (h : Hd K σ ρ F H) : Post K ⟨σ, ρ, F, H⟩ σ ρ F H :=
  ⟨h, Le.refl _, fun _ _ e _ => e, fun _ _ _ _ e => e, fun _ h => .inl h, fun i m e => ⟨rfl, m, e⟩⟩
theorem Post.new {K : PySem.W.Frag} {S : Sta} {σ : St} {ρ : Rho} {F H : Hp} (p : Post K S σ ρ F H) {a : Addr} (h : New ⟨σ, ρ, F, H⟩ a) : New S a := by
  rcases h with h | h
  · exact p.own a h
  · by_cases q : Own S.σ S.ρ a
    · exact .inl q
    · cases e : S.H a with
      | none => exact .inr e
      | some o =>
        have := p.keep a o e q
        rw [show H a = none from h] at this
        cases this
theorem Post.not {K : PySem.W.Frag} {S : Sta} {σ : St} {ρ : Rho} {F H : Hp} (p : Post K S σ ρ F H) {a : Addr} {o : HO} (h : S.H a = some o) (n : ¬ Own S.σ S.ρ a) : ¬ Own σ ρ a := fun q => by
  rcases p.own a q with z | z
  · exact n z
  · rw [h] at z; cases z
theorem Post.trans {K : PySem.W.Frag} {S : Sta} {σ1 σ2 : St} {ρ1 ρ2 : Rho} {F1 F2 H1 H2 : Hp} (p : Post K S σ1 ρ1 F1 H1) (q : Post K ⟨σ1, ρ1, F1, H1⟩ σ2 ρ2 F2 H2) : Post K S σ2 ρ2 F2 H2 where
  hd := q.hd
  le := p.le.trans q.le
  keep := fun b o e n => q.keep b o (p.keep b o e n) (p.not e n)
  nofz := fun b o e n f => q.nofz b o (p.keep b o e n) (p.not e n) (p.nofz b o e n f)
  own := fun b h => p.new (q.own b h)
  bor := fun i m e => by
    obtain ⟨e1, m1, r1⟩ := p.bor i m e
    obtain ⟨e2, m2, r2⟩ := q.bor i m1 r1
    exact ⟨e2.trans e1, m2, r2⟩

/-! ### references, outcomes, runs -/
inductive Rf where
  | s (i : Nat)
  | o (o : O)
def RfR (K : PySem.W.Frag) (S : Sta) (σ : St) (ρ : Rho) (F H : Hp) (v : V) : Rf → Prop
  | .s i => σ[i]? = some (some v)
  | .o (.fz d) => Rp K F v d
  | .o (.mu b m) => b = false ∧ SlotR K F H v (.mu b m) ∧ ∀ a, v = .ref a → New S a ∧ ¬ Own σ ρ a
def DR (K : PySem.W.Frag) (_ : Sta) (_ : St) (_ : Rho) (F _ : Hp) (v : V) (d : PyData) : Prop := Rp K F v d
def BR (_ : PySem.W.Frag) (_ : Sta) (_ : St) (_ : Rho) (_ _ : Hp) (v : Bool) (d : Bool) : Prop := v = d
def AR (K : PySem.W.Frag) (_ : Sta) (_ : St) (_ : Rho) (F _ : Hp) (v : List V) (d : List PyData) : Prop := RpA K F v d
/-- what a reading may lean on -/
structure RelOk (K : PySem.W.Frag) {β α : Type} (R : Sta → St → Rho → Hp → Hp → β → α → Prop) : Prop where
  up : ∀ {S : Sta} {σ : St} {ρ ρ' : Rho} {F F' H H' : Hp} {v : β} {x : α}, Post K S σ ρ F H → R ⟨σ, ρ, F, H⟩ σ ρ' F' H' v x → R S σ ρ' F' H' v x
theorem rfOk {K : PySem.W.Frag} : RelOk K (RfR K) := ⟨fun {S σ ρ ρ' F F' H H' v x} p h => by
  cases x with
  | s i => exact h
  | o o =>
    cases o with
    | fz d => exact h
    | mu b m => exact ⟨h.1, h.2.1, fun a e => ⟨p.new (h.2.2 a e).1, (h.2.2 a e).2⟩⟩⟩
theorem dOk {K : PySem.W.Frag} : RelOk K (DR K) := ⟨fun _ h => h⟩
theorem bOk {K : PySem.W.Frag} : RelOk K (BR K) := ⟨fun _ h => h⟩
theorem aOk {K : PySem.W.Frag} : RelOk K (AR K) := ⟨fun _ h => h⟩
theorem RfR.stay {K : PySem.W.Frag} {S : Sta} {σ : St} {ρ ρ' : Rho} {F F' H H' : Hp} {v : V} {x : Rf} (h : RfR K S σ ρ F H v x) (p : Post K ⟨σ, ρ, F, H⟩ σ ρ' F' H') : RfR K S σ ρ' F' H' v x := by
  cases x with
  | s i => exact h
  | o o =>
    cases o with
    | fz d => exact Rp.mono p.le h
    | mu b m =>
      obtain ⟨e, ⟨a, u, rfl, hu, hf, r⟩, n⟩ := h
      have no := (n a rfl).2
      exact ⟨e, ⟨a, u, rfl, p.keep a u hu no, p.nofz a u hu no hf, r.mono p.le⟩, fun b eb => by
        cases eb
        exact ⟨(n a rfl).1, p.not hu no⟩⟩

inductive Out (α : Type) where
  | ok (x : α) (ρ : Rho)
  | ex (c : Addr) (ρ : Rho)
abbrev M (α : Type) := Rho → Option (Out α)
def M.ret {α : Type} (x : α) : M α := fun ρ => some (.ok x ρ)
def M.bind {α β : Type} (f : M α) (k : α → M β) : M β := fun ρ => match f ρ with
  | none => none
  | some (.ok x ρ') => k x ρ'
  | some (.ex c ρ') => some (.ex c ρ')
def Fin {α β : Type} (K : PySem.W.Frag) (W : WX) (R : Sta → St → Rho → Hp → Hp → β → α → Prop) (S : Sta) (Q : β → Hp → Prop) : Out α → Prop
  | .ok x ρ' => ∀ v F' H', Post K S S.σ ρ' F' H' → R S S.σ ρ' F' H' v x → Q v H'
  | .ex c ρ' => ∀ F' H', Post K S S.σ ρ' F' H' → W (.ref c) none S.σ H'
structure Run {α β : Type} (K : PySem.W.Frag) (W : WX) (R : Sta → St → Rho → Hp → Hp → β → α → Prop) (S : Sta) (f : M α) (ρ : Rho) (F H : Hp) (Q : β → Hp → Prop) : Prop where
  post : Post K S S.σ ρ F H
  out : ∃ o, f ρ = some o ∧ Fin K W R S Q o
/-- the reading of f -/
def tG {α β : Type} (K : PySem.W.Frag) (W : WX) (R : Sta → St → Rho → Hp → Hp → β → α → Prop) (f : M α) : St → Hp → (β → Hp → Prop) → Prop :=
  fun σ H Q => ∃ ρ F, Run K W R ⟨σ, ρ, F, H⟩ f ρ F H Q
section
variable {α β γ δ : Type} {K : PySem.W.Frag} {W : WX} {R : Sta → St → Rho → Hp → Hp → β → α → Prop} {R2 : Sta → St → Rho → Hp → Hp → δ → γ → Prop} {S : Sta} {f : M α} {k : α → M γ} {ρ : Rho} {F H : Hp} {Q Q' : β → Hp → Prop} {Q2 : δ → Hp → Prop}
theorem Run.mono (r : Run K W R S f ρ F H Q) (h : ∀ v H, Q v H → Q' v H) : Run K W R S f ρ F H Q' := by
  obtain ⟨p, o, e, q⟩ := r
  refine ⟨p, o, e, ?_⟩
  cases o with
  | ok x ρ' => exact fun v F' H' a b => h _ _ (q v F' H' a b)
  | ex c ρ' => exact q
theorem Run.bind (r : Run K W R2 S (f.bind k) ρ F H Q2) : Run K W R ⟨S.σ, ρ, F, H⟩ f ρ F H (fun v H1 => ∃ x ρ1 F1, R ⟨S.σ, ρ, F, H⟩ S.σ ρ1 F1 H1 v x ∧ Post K ⟨S.σ, ρ, F, H⟩ S.σ ρ1 F1 H1 ∧ Run K W R2 S (k x) ρ1 F1 H1 Q2) := by
  obtain ⟨p, o, e, q⟩ := r
  refine ⟨Post.refl p.hd, ?_⟩
  cases ef : f ρ with
  | none => simp only [M.bind, ef] at e; cases e
  | some o1 =>
    refine ⟨o1, rfl, ?_⟩
    cases o1 with
    | ok x ρ1 =>
      simp only [M.bind, ef] at e
      exact fun v F1 H1 a b => ⟨x, ρ1, F1, b, a, p.trans a, o, e, q⟩
    | ex c ρ1 =>
      simp only [M.bind, ef] at e
      cases e
      exact fun F1 H1 a => q F1 H1 (p.trans a)
end
end Vs

/-! Vs, expressions. -/
namespace Vs
open PySem PySem.Spec L2

theorem slen : (sizeLine : Nat) = 16777216 := sizeLine_eq
/-! ### changes of the state -/
section
variable {K : PySem.W.Frag} {S : Sta} {σ : L2.St} {ρ : Rho} {F H : Hp}
theorem Post.gone (p : Post K S σ ρ F H) {a : Addr} (h : H a = none) : F a = none := by
  cases e : F a with
  | none => rfl
  | some o =>
    rcases p.hd.le a o (.inl e) with z | ⟨_, z⟩ <;> rw [h] at z <;> cases z
theorem Hd.notOwn (p : Hd K σ ρ F H) {a : Addr} (h : H a = none) : ¬ Own σ ρ a := fun ⟨i, b, m, e, q⟩ => by
  obtain ⟨v, e2, a', o, rfl, ho, _⟩ := p.at_ i _ e
  rw [q] at e2; cases e2
  rw [h] at ho; cases ho
theorem Le.updH {a : Addr} {o : HO} (e : Le F H) (h : F a = none) : Le F (upd H a o) := fun c u r => by
  have hc : c ≠ a := by
    rintro rfl
    rcases r with r | ⟨_, r⟩ <;> rw [h] at r <;> cases r
  rcases e c u r with z | ⟨x, z⟩
  · exact .inl (by rw [upd_ne hc]; exact z)
  · exact .inr ⟨x, by rw [upd_ne hc]; exact z⟩
theorem Le.updB {a : Addr} {o : HO} (e : Le F H) (h : F a = none) : Le (upd F a o) (upd H a o) := fun c u r => by
  by_cases hc : c = a
  · subst hc
    rcases r with z | ⟨x, z⟩ <;> rw [upd_same] at z
    · exact .inl (by rw [upd_same]; exact z)
    · exact .inr ⟨x, by rw [upd_same]; exact z⟩
  · have : Rd F c u := by
      rcases r with z | ⟨x, z⟩ <;> rw [upd_ne hc] at z
      · exact .inl z
      · exact .inr ⟨x, z⟩
    rcases e c u this with z | ⟨x, z⟩
    · exact .inl (by rw [upd_ne hc]; exact z)
    · exact .inr ⟨x, by rw [upd_ne hc]; exact z⟩
theorem SlotR.new {v : V} {o : O} (h : SlotR K F H v o) {a : Addr} {u : HO} (n : H a = none) : SlotR K F (upd H a u) v o := by
  cases o with
  | fz d => exact h
  | mu b m => obtain ⟨c, w, rfl, hw, hf, r⟩ := h; exact ⟨c, w, rfl, by rw [upd_ne (ne_of_none hw n)]; exact hw, hf, r⟩
/-- a new object is laid (owned by nobody yet) -/
theorem Post.newO (p : Post K S σ ρ F H) {a : Addr} {o : HO} (n : H a = none) : Post K S σ ρ F (upd H a o) where
  hd := ⟨p.hd.le.updH (p.gone n), p.hd.len, fun i o e => by
    obtain ⟨v, e1, r⟩ := p.hd.at_ i o e
    exact ⟨v, e1, r.new n⟩, p.hd.sep⟩
  le := p.le
  keep := fun b u e q => by
    have z := p.keep b u e q
    rw [upd_ne (ne_of_none z n)]; exact z
  nofz := p.nofz
  own := p.own
  bor := p.bor
/-- a new object is laid, frozen -/
theorem Post.newF (p : Post K S σ ρ F H) {a : Addr} {o : HO} (n : H a = none) : Post K S σ ρ (upd F a o) (upd H a o) where
  hd := ⟨p.hd.le.updB (p.gone n), p.hd.len, fun i o e => by
    obtain ⟨v, e1, r⟩ := p.hd.at_ i o e
    refine ⟨v, e1, ?_⟩
    cases o with
    | fz d => exact Rp.mono (Le.ofNew (p.gone n)) r
    | mu b m =>
      obtain ⟨c, w, rfl, hw, hf, r⟩ := r
      have hc := ne_of_none hw n
      exact ⟨c, w, rfl, by rw [upd_ne hc]; exact hw, by rw [upd_ne hc]; exact hf, r.mono (Le.ofNew (p.gone n))⟩, p.hd.sep⟩
  le := p.le.trans (Le.ofNew (p.gone n))
  keep := fun b u e q => by
    have z := p.keep b u e q
    rw [upd_ne (ne_of_none z n)]; exact z
  nofz := fun b u e q f => by
    have z := p.keep b u e q
    rw [upd_ne (ne_of_none z n)]
    exact p.nofz b u e q f
  own := p.own
  bor := p.bor
theorem Mu.noFrz {o : HO} {m : Mu} (r : MuR K F o m) {ob : Obj} {u : HO} : o ≠ .frz ob u := by
  cases m with
  | lst ds => obtain ⟨xs, rfl, _⟩ := r; exact fun h => by cases h
  | dct es => obtain ⟨xs, rfl, _⟩ := r; exact fun h => by cases h
theorem Le.frz {a : Addr} {o : HO} (e : Le F H) (ho : H a = some o) (hf : ∀ ob u, o ≠ .frz ob u) : Le (upd F a o) H := fun c u r => by
  by_cases hc : c = a
  · subst hc
    rcases r with z | ⟨x, z⟩ <;> rw [upd_same] at z
    · cases z; exact .inl ho
    · cases z; exact absurd rfl (hf _ _)
  · refine e c u ?_
    rcases r with z | ⟨x, z⟩ <;> rw [upd_ne hc] at z
    · exact .inl z
    · exact .inr ⟨x, z⟩
/-- an owned temporary is frozen -/
theorem Post.frzT (p : Post K S σ ρ F H) {a : Addr} {o : HO} {m : Mu} (ho : H a = some o) (hf : F a = none) (r : MuR K F o m) (nw : New S a) (no : ¬ Own σ ρ a) :
    Post K S σ ρ (upd F a o) H ∧ Rp K (upd F a o) (.ref a) m.view := by
  refine ⟨⟨⟨p.hd.le.frz ho fun _ _ => Mu.noFrz r, p.hd.len, fun i o' e => ?_, p.hd.sep⟩, p.le.trans (Le.ofNew hf), p.keep, fun b u e q f => ?_, p.own, p.bor⟩, (r.mono (Le.ofNew hf)).view upd_same (Le.refl _)⟩
  · obtain ⟨v, e1, q⟩ := p.hd.at_ i o' e
    refine ⟨v, e1, ?_⟩
    cases o' with
    | fz d => exact Rp.mono (Le.ofNew hf) q
    | mu b m' =>
      obtain ⟨c, w, rfl, hw, hf', q⟩ := q
      have hc : c ≠ a := by rintro rfl; exact no ⟨i, b, m', e, e1⟩
      exact ⟨c, w, rfl, hw, by rw [upd_ne hc]; exact hf', q.mono (Le.ofNew hf)⟩
  · have hb : b ≠ a := by
      rintro rfl
      rcases nw with z | z
      · exact q z
      · rw [e] at z; cases z
    rw [upd_ne hb]
    exact p.nofz b u e q f
theorem get_set {ρ : Rho} {i j : Nat} {x : Option O} {y : O} (h : (ρ.set i x)[j]? = some (some y)) : (j = i ∧ x = some y) ∨ (j ≠ i ∧ ρ[j]? = some (some y)) := by
  by_cases e : j = i
  · subst e
    by_cases hl : j < ρ.length
    · rw [List.getElem?_set_self hl] at h
      exact .inl ⟨rfl, Option.some.inj h⟩
    · rw [List.getElem?_eq_none (by simpa using hl)] at h; cases h
  · rw [List.getElem?_set_ne (Ne.symm e)] at h
    exact .inr ⟨e, h⟩
theorem set_ne {ρ : Rho} {i j : Nat} {x : Option O} (h : j ≠ i) : (ρ.set i x)[j]? = ρ[j]? := List.getElem?_set_ne (Ne.symm h)
/-- an owned slot is frozen -/
theorem Post.frzS (p : Post K S σ ρ F H) {i : Nat} {m : Mu} {a : Addr} {o : HO} (hi : ρ[i]? = some (some (.mu false m))) (hσ : σ[i]? = some (some (.ref a))) (ho : H a = some o) (hf : F a = none) (r : MuR K F o m) :
    Post K S σ (ρ.set i (some (.fz m.view))) (upd F a o) H ∧ Rp K (upd F a o) (.ref a) m.view := by
  have rr : Rp K (upd F a o) (.ref a) m.view := (r.mono (Le.ofNew hf)).view upd_same (Le.refl _)
  refine ⟨⟨⟨p.hd.le.frz ho fun _ _ => Mu.noFrz r, by rw [List.length_set]; exact p.hd.len, fun j o' e => ?_, fun j k b m1 b' m2 c e1 e2 s1 s2 => ?_⟩, p.le.trans (Le.ofNew hf), p.keep, fun b u e q f => ?_, fun b q => ?_, fun j m1 e => ?_⟩, rr⟩
  · rcases get_set e with ⟨rfl, z⟩ | ⟨ne, z⟩
    · cases z; exact ⟨_, hσ, rr⟩
    · obtain ⟨v, e1, q⟩ := p.hd.at_ j o' z
      refine ⟨v, e1, ?_⟩
      cases o' with
      | fz d => exact Rp.mono (Le.ofNew hf) q
      | mu b m' =>
        obtain ⟨c, w, rfl, hw, hf', q⟩ := q
        have hc : c ≠ a := by rintro rfl; exact ne (p.hd.sep j i b m' false m c z hi e1 hσ)
        exact ⟨c, w, rfl, hw, by rw [upd_ne hc]; exact hf', q.mono (Le.ofNew hf)⟩
  · rcases get_set e1 with ⟨_, z⟩ | ⟨_, z1⟩
    · cases z
    · rcases get_set e2 with ⟨_, z⟩ | ⟨_, z2⟩
      · cases z
      · exact p.hd.sep j k b m1 b' m2 c z1 z2 s1 s2
  · have hb : b ≠ a := by
      rintro rfl
      rcases p.own b ⟨i, false, m, hi, hσ⟩ with z | z
      · exact q z
      · rw [e] at z; cases z
    rw [upd_ne hb]
    exact p.nofz b u e q f
  · obtain ⟨j, b', m', e, q⟩ := q
    rcases get_set e with ⟨_, z⟩ | ⟨_, z⟩
    · cases z
    · exact p.own b ⟨j, b', m', z, q⟩
  · obtain ⟨e1, m', e2⟩ := p.bor j m1 e
    have : j ≠ i := by rintro rfl; rw [hi] at e2; cases e2
    exact ⟨e1, m', by rw [set_ne this]; exact e2⟩
/-- what an owned slot holds is changed -/
theorem Post.wrS (p : Post K S σ ρ F H) {i : Nat} {b : Bool} {m m' : Mu} {a : Addr} {o' : HO} (hi : ρ[i]? = some (some (.mu b m))) (hσ : σ[i]? = some (some (.ref a))) (hf : F a = none) (r : MuR K F o' m') :
    Post K S σ (ρ.set i (some (.mu b m'))) F (upd H a o') := by
  have hil : i < ρ.length := (List.getElem?_eq_some_iff.mp hi).1
  refine ⟨⟨p.hd.le.updH hf, by rw [List.length_set]; exact p.hd.len, fun j o e => ?_, fun j k b1 m1 b2 m2 c e1 e2 s1 s2 => ?_⟩, p.le, fun c u e q => ?_, p.nofz, fun c q => ?_, fun j m1 e => ?_⟩
  · rcases get_set e with ⟨rfl, z⟩ | ⟨ne, z⟩
    · cases z; exact ⟨_, hσ, a, o', rfl, upd_same, hf, r⟩
    · obtain ⟨v, e1, q⟩ := p.hd.at_ j o z
      refine ⟨v, e1, ?_⟩
      cases o with
      | fz d => exact q
      | mu b1 m1 =>
        obtain ⟨c, w, rfl, hw, hf', q⟩ := q
        have hc : c ≠ a := by rintro rfl; exact ne (p.hd.sep j i b1 m1 b m c z hi e1 hσ)
        exact ⟨c, w, rfl, by rw [upd_ne hc]; exact hw, hf', q⟩
  · rcases get_set e1 with ⟨rfl, z⟩ | ⟨n1, z1⟩
    · rcases get_set e2 with ⟨rfl, z⟩ | ⟨n2, z2⟩
      · rfl
      · exact p.hd.sep j k b m b2 m2 c hi z2 s1 s2
    · rcases get_set e2 with ⟨rfl, z⟩ | ⟨n2, z2⟩
      · exact p.hd.sep j k b1 m1 b m c z1 hi s1 s2
      · exact p.hd.sep j k b1 m1 b2 m2 c z1 z2 s1 s2
  · have hc : c ≠ a := by
      rintro rfl
      rcases p.own c ⟨i, b, m, hi, hσ⟩ with z | z
      · exact q z
      · rw [e] at z; cases z
    rw [upd_ne hc]
    exact p.keep c u e q
  · obtain ⟨j, b1, m1, e, q⟩ := q
    rcases get_set e with ⟨rfl, z⟩ | ⟨_, z⟩
    · exact p.own c ⟨j, b, m, hi, q⟩
    · exact p.own c ⟨j, b1, m1, z, q⟩
  · obtain ⟨e1, m2, e2⟩ := p.bor j m1 e
    by_cases hj : j = i
    · subst hj
      rw [hi] at e2; cases e2
      exact ⟨e1, m', by rw [List.getElem?_set_self hil]⟩
    · exact ⟨e1, m2, by rw [set_ne hj]; exact e2⟩
end

/-! ### readings weakened -/
theorem peI {X : Cx} {e : Expr} {t t' : TE} (h : PE X e t) (k : ∀ σ H Q, t' σ H Q → t σ H Q) : PE X e t' := ⟨fun pins s σ H Q I q => h.run pins s σ H Q I (k σ H Q q)⟩
theorem ptI {X : Cx} {e : Expr} {t t' : TT} (h : PT X e t) (k : ∀ σ H Q, t' σ H Q → t σ H Q) : PT X e t' := ⟨fun pins s σ H Q I q => h.run pins s σ H Q I (k σ H Q q)⟩
theorem paI {X : Cx} {e : List Expr} {t t' : TA} (h : PA X e t) (k : ∀ σ H Q, t' σ H Q → t σ H Q) : PA X e t' := ⟨fun p pins s σ H Q I q => h.run p pins s σ H Q I (k σ H Q q)⟩
theorem psI {X : Cx} {e : Stmt} {t t' : TS} (h : PS X e t) (k : ∀ D σ H, t' D σ H → t D σ H) : PS X e t' := ⟨fun pins s σ H D I q => h.run pins s σ H D I (k D σ H q)⟩
theorem pssI {X : Cx} {e : List Stmt} {t t' : TS} (h : PSs X e t) (k : ∀ D σ H, t' D σ H → t D σ H) : PSs X e t' := ⟨fun pins s σ H D I q => h.run pins s σ H D I (k D σ H q)⟩

def LR (K : PySem.W.Frag) (S : Sta) (σ : L2.St) (ρ : Rho) (F H : Hp) (vs : List V) (xs : List Rf) : Prop := Paired (RfR K S σ ρ F H) vs xs
abbrev EvO (X : Cx) (W : WX) (e : Expr) (f : M Rf) : Prop := PE X e (tG X.K W (RfR X.K) f)
abbrev EvD (X : Cx) (W : WX) (e : Expr) (f : M PyData) : Prop := PE X e (tG X.K W (DR X.K) f)
abbrev EvT (X : Cx) (W : WX) (e : Expr) (f : M Bool) : Prop := PT X e (tG X.K W (BR X.K) f)
abbrev EvA (X : Cx) (W : WX) (e : List Expr) (f : M (List PyData)) : Prop := PA X e (tG X.K W (AR X.K) f)
abbrev EvL (X : Cx) (W : WX) (e : List Expr) (f : M (List Rf)) : Prop := PA X e (tG X.K W (LR X.K) f)

def rdO (ρ : Rho) : Rf → Option O
  | .s i => (ρ[i]?).join
  | .o o => some o
theorem slot_of {K : PySem.W.Frag} {S : Sta} {σ : L2.St} {ρ : Rho} {F H : Hp} {v : V} {x : Rf} {o : O} (h : Hd K σ ρ F H) (r : RfR K S σ ρ F H v x) (e : rdO ρ x = some o) : SlotR K F H v o := by
  cases x with
  | s i =>
    have e' : ρ[i]? = some (some o) := by
      have e2 : (ρ[i]?).join = some o := e
      cases q : ρ[i]? with
      | none => rw [q] at e2; cases e2
      | some y => rw [q] at e2; exact congrArg some e2
    obtain ⟨w, e1, r1⟩ := h.at_ i o e'
    have r' : σ[i]? = some (some v) := r
    rw [r'] at e1; cases e1
    exact r1
  | o o' =>
    have e' : o' = o := Option.some.inj e
    subst e'
    cases o' with
    | fz d => exact r
    | mu b m => exact r.2.1
/-- what a result is handed on to -/
abbrev Cont (K : PySem.W.Frag) (S : Sta) (ρ : Rho) (o : O) (Q : VK) : Prop := ∀ v' F' H', Post K S S.σ ρ F' H' → RfR K S S.σ ρ F' H' v' (.o o) → Q v' H'
section
variable {K : PySem.W.Frag} {S : Sta} {ρ : Rho} {F H : Hp} {Q : VK}
theorem Cont.lst {xs : List V} {ds : List PyData} (k : Cont K S ρ (.mu false (.lst ds)) Q) (p : Post K S S.σ ρ F H) (r : RpA K F xs ds) (a : Addr) (n : H a = none) : Q (.ref a) (upd H a (.lst xs)) :=
  k _ F _ (p.newO n) ⟨rfl, ⟨a, _, rfl, upd_same, p.gone n, xs, rfl, r⟩, fun b e => by cases e; exact ⟨p.new (.inr n), p.hd.notOwn n⟩⟩
theorem Cont.dct {xs : List (Key × V)} {ds : List (Key × PyData)} (k : Cont K S ρ (.mu false (.dct ds)) Q) (p : Post K S S.σ ρ F H) (r : RpK K F xs ds) (a : Addr) (n : H a = none) : Q (.ref a) (upd H a (.dK xs)) :=
  k _ F _ (p.newO n) ⟨rfl, ⟨a, _, rfl, upd_same, p.gone n, xs, rfl, r⟩, fun b e => by cases e; exact ⟨p.new (.inr n), p.hd.notOwn n⟩⟩
theorem Cont.tup {xs : List V} {ds : List PyData} (k : Cont K S ρ (.fz (.tuple ds)) Q) (p : Post K S S.σ ρ F H) (r : RpA K F xs ds) (a : Addr) (n : H a = none) : Q (.ref a) (upd H a (.tup xs)) :=
  k _ (upd F a (.tup xs)) _ (p.newF n) (.tup (.of upd_same) (RpA.mono (Le.ofNew (p.gone n)) r))
end

/-! ### freezing -/
def frz : Rf → M PyData
  | .s i => fun ρ => match ρ[i]? with
    | some (some (.fz d)) => some (.ok d ρ)
    | some (some (.mu false m)) => some (.ok m.view (ρ.set i (some (.fz m.view))))
    | _ => none
  | .o (.fz d) => M.ret d
  | .o (.mu _ m) => M.ret m.view
theorem Run.frz {K : PySem.W.Frag} {W : WX} {S : Sta} {ρ : Rho} {F H : Hp} {v : V} {x : Rf} {Q : VK} (r : Run K W (DR K) S (frz x) ρ F H Q) (h : RfR K S S.σ ρ F H v x) : Q v H := by
  obtain ⟨p, o, e, q⟩ := r
  cases x with
  | s i =>
    have hv : S.σ[i]? = some (some v) := h
    cases e1 : ρ[i]? with
    | none => simp only [Vs.frz, e1] at e; cases e
    | some y =>
      cases y with
      | none => simp only [Vs.frz, e1] at e; cases e
      | some y =>
        obtain ⟨w, e2, r2⟩ := p.hd.at_ i y e1
        rw [hv] at e2; cases e2
        cases y with
        | fz d =>
          simp only [Vs.frz, e1] at e; cases e
          exact q v F H p r2
        | mu b m =>
          cases b with
          | true => simp only [Vs.frz, e1] at e; cases e
          | false =>
            simp only [Vs.frz, e1] at e; cases e
            obtain ⟨a, u, rfl, hu, hf, r3⟩ := r2
            obtain ⟨p', r4⟩ := p.frzS e1 hv hu hf r3
            exact q _ _ H p' r4
  | o o' =>
    cases o' with
    | fz d =>
      simp only [Vs.frz, M.ret] at e; cases e
      exact q v F H p h
    | mu b m =>
      simp only [Vs.frz, M.ret] at e; cases e
      obtain ⟨_, ⟨a, u, rfl, hu, hf, r3⟩, n⟩ := h
      obtain ⟨p', r4⟩ := p.frzT hu hf r3 (n a rfl).1 (n a rfl).2
      exact q _ _ H p' r4

section
variable {X : Cx} {W : WX} {e a b : Expr} {es : List Expr} {f g : M Rf} {pos : Pos}
theorem ev_frz (h : EvO X W e f) : EvD X W e (f.bind frz) := peI h fun σ H Q ⟨ρ, F, r⟩ =>
  ⟨ρ, F, r.bind.mono fun v H1 ⟨x, ρ1, F1, rx, p, r2⟩ => r2.frz rx⟩
theorem ev_var (i : Nat) {x : Str} (hN : X.N[i]? = some x := by rfl) (hv : Vis X.env.scope x := by first | exact Or.inl rfl | exact Or.inr (Or.inl rfl) | exact Or.inr (Or.inr rfl)) (hd : (x == ("__debug__" : Str)) = false := by decide) (hcd : (x == ("__classdict__" : Str)) = false := by decide) :
    EvO X W (.Name x pos) (fun ρ => match ρ[i]? with | some (some _) => some (.ok (.s i) ρ) | _ => none) := by
  refine peI (pe_var hN hv hd hcd) fun σ H Q ⟨ρ, F, p, o, e, q⟩ => ?_
  cases e1 : ρ[i]? with
  | none => simp only [e1] at e; cases e
  | some y =>
    cases y with
    | none => simp only [e1] at e; cases e
    | some y =>
      simp only [e1] at e; cases e
      obtain ⟨v, e2, _⟩ := p.hd.at_ i y e1
      exact ⟨v, e2, q v F H p e2⟩
/-- a value that is known -/
theorem ev_con {v : V} {d : PyData} (h : PE X e (tC v)) (r : ∀ F : Hp, Rp X.K F v d) : EvO X W e (M.ret (.o (.fz d))) :=
  peI h fun σ H Q ⟨ρ, F, p, o, e, q⟩ => by
    cases e
    exact q v F H p (r F)
theorem ev_int {i : Int} {j : Nat} : EvO X W (.Constant (.int i) j pos) (M.ret (.o (.fz (.int i)))) := ev_con pe_int fun _ => .int i
theorem ev_str {i : Str} {j : Nat} : EvO X W (.Constant (.str i) j pos) (M.ret (.o (.fz (.str i)))) := ev_con pe_str fun _ => .str i
theorem ev_bl {i : Bool} {j : Nat} : EvO X W (.Constant (.bool i) j pos) (M.ret (.o (.fz (.bool i)))) := ev_con pe_bl fun _ => .bl i
theorem ev_non {j : Nat} : EvO X W (.Constant .none j pos) (M.ret (.o (.fz .none))) := ev_con pe_non fun _ => .non

/-! ### argument lists -/
theorem evA_nil : EvA X W [] (M.ret []) := paI pa_nil fun σ H Q ⟨ρ, F, p, o, e, q⟩ => by
  cases e
  exact q [] F H p .nil
theorem evA_cons {f : M PyData} {g : M (List PyData)} (ha : EvD X W e f) (hr : EvA X W es g) (hs : starEach (e :: es) X.env = (false, eval e X.env) :: starEach es X.env := by rfl) :
    EvA X W (e :: es) (f.bind fun d => g.bind fun ds => M.ret (d :: ds)) := paI (pa_cons ha hr hs) fun σ H Q ⟨ρ, F, r⟩ =>
  ⟨ρ, F, r.bind.mono fun v H1 ⟨x, ρ1, F1, rx, p, r2⟩ => ⟨ρ1, F1, r2.bind.mono fun vs H2 ⟨xs, ρ2, F2, rxs, p2, ⟨p3, o, e3, q⟩⟩ => by
    cases e3
    exact q (v :: vs) F2 H2 p3 (.cons (Rp.mono p2.le rx) rxs)⟩⟩
theorem evA_star {f : M PyData} {g : M (List PyData)} {sp : Pos} (ha : EvD X W e f) (hr : EvA X W es g) (hs : starEach (.Starred e sp :: es) X.env = (true, eval e X.env) :: starEach es X.env := by rfl) :
    EvA X W (.Starred e sp :: es) (f.bind fun d => match d with
      | .list ds => g.bind fun rs => M.ret (ds ++ rs)
      | .tuple ds => g.bind fun rs => M.ret (ds ++ rs)
      | _ => fun _ => none) := paI (StX.pa_star ha hr hs) fun σ H Q ⟨ρ, F, r⟩ =>
  ⟨ρ, F, r.bind.mono fun v H1 ⟨x, ρ1, F1, rx, p, r2⟩ => by
    cases rx with
    | lst h1 h2 =>
      exact ⟨_, _, rfl, .inr (r2.post.hd.le.seqL h1), ρ1, F1, r2.bind.mono fun vs H2 ⟨xs, ρ2, F2, rxs, p2, ⟨p3, o, e3, q⟩⟩ => by
        cases e3
        exact q _ F2 H2 p3 (RpA.app (RpA.mono p2.le h2) rxs)⟩
    | tup h1 h2 =>
      exact ⟨_, _, rfl, .inl (r2.post.hd.le.seqT h1), ρ1, F1, r2.bind.mono fun vs H2 ⟨xs, ρ2, F2, rxs, p2, ⟨p3, o, e3, q⟩⟩ => by
        cases e3
        exact q _ F2 H2 p3 (RpA.app (RpA.mono p2.le h2) rxs)⟩
    | _ =>
      obtain ⟨_, o, e, _⟩ := r2
      cases e⟩
theorem evL_nil : EvL X W [] (M.ret []) := paI pa_nil fun σ H Q ⟨ρ, F, p, o, e, q⟩ => by
  cases e
  exact q [] F H p .nil
theorem evL_cons {g : M (List Rf)} (ha : EvO X W e f) (hr : EvL X W es g) (hs : starEach (e :: es) X.env = (false, eval e X.env) :: starEach es X.env := by rfl) :
    EvL X W (e :: es) (f.bind fun d => g.bind fun ds => M.ret (d :: ds)) := paI (pa_cons ha hr hs) fun σ H Q ⟨ρ, F, r⟩ =>
  ⟨ρ, F, r.bind.mono fun v H1 ⟨x, ρ1, F1, rx, p, r2⟩ => ⟨ρ1, F1, r2.bind.mono fun vs H2 ⟨xs, ρ2, F2, rxs, p2, ⟨p3, o, e3, q⟩⟩ => by
    cases e3
    have rxs' : LR X.K ⟨σ, ρ, F, H⟩ σ ρ2 F2 H2 vs xs := Paired.mapP rxs fun v y h => rfOk.up p h
    exact q (v :: vs) F2 H2 p3 (.cons (rx.stay p2) rxs')⟩⟩

/-! ### displays -/
def chk {α : Type} (c : Bool) (x : α) : M α := fun ρ => if c then some (.ok x ρ) else none
theorem ev_tup {g : M (List PyData)} {k : Nat} (h : EvA X W es g) : EvO X W (.Tuple es k pos) (g.bind fun ds => chk (decide (ds.length ≤ 16777216)) (.o (.fz (.tuple ds)))) := peI (pe_tup h) fun σ H Q ⟨ρ, F, r⟩ =>
  ⟨ρ, F, r.bind.mono fun vs H1 ⟨ds, ρ1, F1, rx, p, ⟨p1, o, e, q⟩⟩ => by
    unfold chk at e
    split at e
    · cases e
      rename_i c
      have c' : ds.length ≤ 16777216 := by simpa using c
      exact ⟨by rw [slen, rx.len]; exact c', Cont.tup (S := ⟨σ, ρ, F, H⟩) q p1 rx⟩
    · cases e⟩
theorem ev_lst {g : M (List PyData)} (h : EvA X W es g) : EvO X W (.List es pos) (g.bind fun ds => chk (decide (ds.length ≤ 16777216)) (.o (.mu false (.lst ds)))) := peI (pe_lst h) fun σ H Q ⟨ρ, F, r⟩ =>
  ⟨ρ, F, r.bind.mono fun vs H1 ⟨ds, ρ1, F1, rx, p, ⟨p1, o, e, q⟩⟩ => by
    unfold chk at e
    split at e
    · cases e
      rename_i c
      have c' : ds.length ≤ 16777216 := by simpa using c
      exact ⟨by rw [slen, rx.len]; exact c', Cont.lst (S := ⟨σ, ρ, F, H⟩) q p1 rx⟩
    · cases e⟩
theorem ev_dnew : EvO X W (.Dict [] [] pos) (M.ret (.o (.mu false (.dct [])))) := peI pe_dnewK fun σ H Q ⟨ρ, F, p, o, e, q⟩ => by
  cases e
  exact Cont.dct (S := ⟨σ, ρ, F, H⟩) q p .nil

/-! ### operations on values -/
def dr1 (h : O → Option O) (x : Rf) : M Rf := fun ρ => match rdO ρ x with
  | some a => (match h a with | some o => some (.ok (.o o) ρ) | none => none)
  | none => none
def dr2 (h : O → O → Option O) (x y : Rf) : M Rf := fun ρ => match rdO ρ x, rdO ρ y with
  | some a, some b => (match h a b with | some o => some (.ok (.o o) ρ) | none => none)
  | _, _ => none
def rdL (ρ : Rho) : List Rf → Option (List O)
  | [] => some []
  | x :: xs => match rdO ρ x, rdL ρ xs with
    | some a, some r => some (a :: r)
    | _, _ => none
def drN (h : List O → Option O) (xs : List Rf) : M Rf := fun ρ => match rdL ρ xs with
  | some a => (match h a with | some o => some (.ok (.o o) ρ) | none => none)
  | none => none
def dr2B (h : O → O → Option O) (x y : Rf) : M Bool := fun ρ => match rdO ρ x, rdO ρ y with
  | some a, some b => (match h a b with | some (.fz (.bool c)) => some (.ok c ρ) | _ => none)
  | _, _ => none
end
section
variable {K : PySem.W.Frag} {W : WX} {S : Sta} {ρ : Rho} {F H : Hp} {Q : VK} {v w : V} {x y : Rf}
theorem Run.dr1 {h : O → Option O} (r : Run K W (RfR K) S (dr1 h x) ρ F H Q) (rx : RfR K S S.σ ρ F H v x) : ∃ a o, SlotR K F H v a ∧ h a = some o ∧ Cont K S ρ o Q := by
  obtain ⟨p, o, e, q⟩ := r
  unfold Vs.dr1 at e
  split at e
  · rename_i a ea
    split at e
    · cases e
      rename_i o eo
      exact ⟨a, o, slot_of p.hd rx ea, eo, q⟩
    · cases e
  · cases e
theorem Run.dr2 {h : O → O → Option O} (r : Run K W (RfR K) S (dr2 h x y) ρ F H Q) (rx : RfR K S S.σ ρ F H v x) (ry : RfR K S S.σ ρ F H w y) : ∃ a b o, SlotR K F H v a ∧ SlotR K F H w b ∧ h a b = some o ∧ Cont K S ρ o Q := by
  obtain ⟨p, o, e, q⟩ := r
  unfold Vs.dr2 at e
  split at e
  · rename_i a b ea eb
    split at e
    · cases e
      rename_i o eo
      exact ⟨a, b, o, slot_of p.hd rx ea, slot_of p.hd ry eb, eo, q⟩
    · cases e
  · cases e
theorem rdL_slots (hd : Hd K S.σ ρ F H) : ∀ {vs : List V} {xs : List Rf} {os : List O}, Paired (RfR K S S.σ ρ F H) vs xs → rdL ρ xs = some os → Paired (SlotR K F H) vs os
  | _, _, _, .nil, e => by cases e; exact .nil
  | _, x :: xs, _, .cons r t, e => by
    unfold rdL at e
    split at e
    · cases e
      rename_i a l ea el
      exact .cons (slot_of hd r ea) (rdL_slots hd t el)
    · cases e
theorem Run.drN {h : List O → Option O} {vs : List V} {xs : List Rf} (r : Run K W (RfR K) S (drN h xs) ρ F H Q) (rx : LR K S S.σ ρ F H vs xs) : ∃ a o, Paired (SlotR K F H) vs a ∧ h a = some o ∧ Cont K S ρ o Q := by
  obtain ⟨p, o, e, q⟩ := r
  unfold Vs.drN at e
  split at e
  · rename_i a ea
    split at e
    · cases e
      rename_i o eo
      exact ⟨a, o, rdL_slots p.hd rx ea, eo, q⟩
    · cases e
  · cases e
end
/-- what a rule on values must know of its plain function -/
def Sn1 (K : PySem.W.Frag) (r : V → Hp → VK → Prop) (h : O → Option O) : Prop := ∀ S ρ F H v a o Q, Post K S S.σ ρ F H → SlotR K F H v a → h a = some o → Cont K S ρ o Q → r v H Q
def Sn2 (K : PySem.W.Frag) (r : R2) (h : O → O → Option O) : Prop := ∀ S ρ F H v w a b o Q, Post K S S.σ ρ F H → SlotR K F H v a → SlotR K F H w b → h a b = some o → Cont K S ρ o Q → r v w H Q
def SnN (K : PySem.W.Frag) (r : List V → Hp → VK → Prop) (h : List O → Option O) : Prop := ∀ S ρ F H vs os o Q, Post K S S.σ ρ F H → Paired (SlotR K F H) vs os → h os = some o → Cont K S ρ o Q → r vs H Q
section
variable {X : Cx} {W : WX} {e a b : Expr} {es : List Expr} {f g : M Rf} {pos p apos : Pos} {T id : String} {x : Str}
theorem ev_op2 {op : Operator} {r : R2} {h : O → O → Option O} (ho : OpR X (binaryOp op) r) (s : Sn2 X.K r h) (ha : EvO X W a f) (hb : EvO X W b g) : EvO X W (.BinOp a op b pos) (f.bind fun x => g.bind fun y => dr2 h x y) :=
  peI (pe_op ho ha hb) fun σ H Q ⟨ρ, F, r⟩ => ⟨ρ, F, r.bind.mono fun v H1 ⟨x, ρ1, F1, rx, p, r1⟩ => ⟨ρ1, F1, r1.bind.mono fun w H2 ⟨y, ρ2, F2, ry, p2, r2⟩ => by
    obtain ⟨c, d, o, h1, h2, h3, h4⟩ := r2.dr2 (rx.stay p2) (rfOk.up p ry)
    exact s _ _ _ _ _ _ _ _ _ _ r2.post h1 h2 h3 h4⟩⟩
theorem ev_cmp2 {op : CmpOp} {r : R2} {h : O → O → Option O} (ho : OpR X (compareOp op) r) (s : Sn2 X.K r h) (ha : EvO X W a f) (hb : EvO X W b g) (hm : behindInMarks op b = false) : EvO X W (.Compare a [op] [b] pos) (f.bind fun x => g.bind fun y => dr2 h x y) :=
  peI (pe_cmpR ho ha hb hm) fun σ H Q ⟨ρ, F, r⟩ => ⟨ρ, F, r.bind.mono fun v H1 ⟨x, ρ1, F1, rx, p, r1⟩ => ⟨ρ1, F1, r1.bind.mono fun w H2 ⟨y, ρ2, F2, ry, p2, r2⟩ => by
    obtain ⟨c, d, o, h1, h2, h3, h4⟩ := r2.dr2 (rx.stay p2) (rfOk.up p ry)
    exact s _ _ _ _ _ _ _ _ _ _ r2.post h1 h2 h3 h4⟩⟩
theorem ev_cmpT {op : CmpOp} {r : R2} {h : O → O → Option O} (ho : OpR X (compareOp op) r) (s : Sn2 X.K r h) (ha : EvO X W a f) (hb : EvO X W b g) (hm : behindInMarks op b = false) : EvT X W (.Compare a [op] [b] pos) (f.bind fun x => g.bind fun y => dr2B h x y) :=
  ptI (pt_cmpR ho ha hb hm) fun σ H Q ⟨ρ, F, r⟩ => by
    refine ⟨ρ, F, r.bind.mono fun v H1 ⟨x, ρ1, F1, rx, p, r1⟩ => ⟨ρ1, F1, r1.bind.mono fun w H2 ⟨y, ρ2, F2, ry, p2, r2⟩ => ?_⟩⟩
    obtain ⟨p3, o, e, q⟩ := r2
    unfold dr2B at e
    split at e
    · rename_i c d ec ed
      split at e
      · cases e
        rename_i k ek
        refine s ⟨σ, ρ, F, H⟩ ρ2 F2 H2 v w c d _ _ p3 (slot_of p3.hd (rx.stay p2) ec) (slot_of p3.hd (rfOk.up p ry) ed) ek fun v' F' H' p' r' => ?_
        cases (show Rp X.K F' v' (.bool k) from r')
        exact ⟨k, rfl, q k F' H' p' rfl⟩
      · cases e
    · cases e
theorem ev_un {op : UnaryOp} {r : V → Hp → VK → Prop} {h : O → Option O} (ho : UnR X (unaryOp op) r) (s : Sn1 X.K r h) (ha : EvO X W a f) : EvO X W (.UnaryOp op a pos) (f.bind fun x => dr1 h x) :=
  peI (pe_un ho ha) fun σ H Q ⟨ρ, F, r⟩ => ⟨ρ, F, r.bind.mono fun v H1 ⟨x, ρ1, F1, rx, p, r1⟩ => by
    obtain ⟨c, o, h1, h3, h4⟩ := r1.dr1 rx
    exact s _ _ _ _ _ _ _ _ r1.post h1 h3 h4⟩
theorem ev_ix {r : R2} {h : O → O → Option O} (ho : IxR X r) (s : Sn2 X.K r h) (ha : EvO X W a f) (hb : EvO X W b g) (hs : PlainIx b) : EvO X W (.Subscript a b pos) (f.bind fun x => g.bind fun y => dr2 h x y) :=
  peI (pe_ix ho ha hb hs) fun σ H Q ⟨ρ, F, r⟩ => ⟨ρ, F, r.bind.mono fun v H1 ⟨x, ρ1, F1, rx, p, r1⟩ => ⟨ρ1, F1, r1.bind.mono fun w H2 ⟨y, ρ2, F2, ry, p2, r2⟩ => by
    obtain ⟨c, d, o, h1, h2, h3, h4⟩ := r2.dr2 (rx.stay p2) (rfOk.up p ry)
    exact s _ _ _ _ _ _ _ _ _ _ r2.post h1 h2 h3 h4⟩⟩
theorem ev_callB {r : List V → Hp → VK → Prop} {h : List O → Option O} {g : M (List Rf)} (hc : CallR X (.builtin id) r) (s : SnN X.K r h) (hg : Gl X x) (hm : X.mg x = none) (hv : bootBuiltins x = some (.builtin id)) (ha : EvL X W (e :: es) g) (hn : x ≠ "__name__" := by decide) (hdb : (x == ("__debug__" : Str)) = false := by decide)
    (he : starEach (e :: es) X.env = (false, eval e X.env) :: starEach es X.env := by rfl) (hpl : (backTo pos (starEach es X.env)).any (·.1) = false := by rfl) : EvO X W (.Call (.Name x p) (e :: es) [] pos) (g.bind fun xs => drN h xs) :=
  peI (pe_callB hc hg hm hv ha hn hdb he hpl) fun σ H Q ⟨ρ, F, r⟩ => ⟨ρ, F, r.bind.mono fun v H1 ⟨x, ρ1, F1, rx, p, r1⟩ => by
    obtain ⟨c, o, h1, h3, h4⟩ := r1.drN rx
    exact s _ _ _ _ _ _ _ _ r1.post h1 h3 h4⟩
theorem ev_callTy {r : List V → Hp → VK → Prop} {h : List O → Option O} {g : M (List Rf)} (hc : CallR X (.type T) r) (s : SnN X.K r h) (hg : Gl X x) (hm : X.mg x = none) (hv : bootBuiltins x = some (.type T)) (ha : EvL X W (e :: es) g) (hn : x ≠ "__name__" := by decide) (hdb : (x == ("__debug__" : Str)) = false := by decide)
    (he : starEach (e :: es) X.env = (false, eval e X.env) :: starEach es X.env := by rfl) (hpl : (backTo pos (starEach es X.env)).any (·.1) = false := by rfl) : EvO X W (.Call (.Name x p) (e :: es) [] pos) (g.bind fun xs => drN h xs) :=
  peI (pe_callTy hc hg hm hv ha hn hdb he hpl) fun σ H Q ⟨ρ, F, r⟩ => ⟨ρ, F, r.bind.mono fun v H1 ⟨x, ρ1, F1, rx, p, r1⟩ => by
    obtain ⟨c, o, h1, h3, h4⟩ := r1.drN rx
    exact s _ _ _ _ _ _ _ _ r1.post h1 h3 h4⟩
end
end Vs

/-! Vs, statements, defs and their calls. -/
namespace Vs
open PySem PySem.Spec L2

/-! ### statements -/
inductive Fl where
  | nx | bk | ct
  | rt (r : Rf)
def FinS (K : PySem.W.Frag) (W : WX) (S : Sta) (D : Ends) : Out Fl → Prop
  | .ok .nx ρ' => ∀ σ' F' H', Post K S σ' ρ' F' H' → D.nx σ' H'
  | .ok .bk ρ' => ∀ σ' F' H', Post K S σ' ρ' F' H' → D.bk σ' H'
  | .ok .ct ρ' => ∀ σ' F' H', Post K S σ' ρ' F' H' → D.ct σ' H'
  | .ok (.rt r) ρ' => ∀ v σ' F' H', Post K S σ' ρ' F' H' → RfR K S σ' ρ' F' H' v r → D.rt v H'
  | .ex c ρ' => ∀ σ' F' H', Post K S σ' ρ' F' H' → W (.ref c) none σ' H'
structure RunS (K : PySem.W.Frag) (W : WX) (S : Sta) (f : M Fl) (σ : L2.St) (ρ : Rho) (F H : Hp) (D : Ends) : Prop where
  post : Post K S σ ρ F H
  out : ∃ o, f ρ = some o ∧ FinS K W S D o
def tS (K : PySem.W.Frag) (W : WX) (f : M Fl) : TS := fun D σ H => ∃ ρ F, RunS K W ⟨σ, ρ, F, H⟩ f σ ρ F H D
theorem rfUp {K : PySem.W.Frag} {S : Sta} {σ σ' : L2.St} {ρ ρ' : Rho} {F F' H H' : Hp} {v : V} {x : Rf} (p : Post K S σ ρ F H) (h : RfR K ⟨σ, ρ, F, H⟩ σ' ρ' F' H' v x) : RfR K S σ' ρ' F' H' v x := by
  cases x with
  | s i => exact h
  | o o =>
    cases o with
    | fz d => exact h
    | mu b m => exact ⟨h.1, h.2.1, fun a e => ⟨p.new (h.2.2 a e).1, (h.2.2 a e).2⟩⟩
section
variable {K : PySem.W.Frag} {W : WX} {S : Sta} {f g : M Fl} {σ : L2.St} {ρ : Rho} {F H : Hp} {D D' : Ends}
theorem RunS.sub (r : RunS K W S f σ ρ F H D) : tS K W f D σ H := by
  obtain ⟨p, o, e, q⟩ := r
  refine ⟨ρ, F, Post.refl p.hd, o, e, ?_⟩
  cases o with
  | ok fl ρ' =>
    cases fl with
    | nx => exact fun a b c d => q a b c (p.trans d)
    | bk => exact fun a b c d => q a b c (p.trans d)
    | ct => exact fun a b c d => q a b c (p.trans d)
    | rt r => exact fun v a b c d h => q v a b c (p.trans d) (rfUp p h)
  | ex c ρ' => exact fun a b c d => q a b c (p.trans d)
end
abbrev EvS (X : Cx) (W : WX) (e : Stmt) (f : M Fl) : Prop := PS X e (tS X.K W f)
abbrev EvB (X : Cx) (W : WX) (e : List Stmt) (f : M Fl) : Prop := PSs X e (tS X.K W f)
def sSeq (f g : M Fl) : M Fl := fun ρ => match f ρ with
  | some (.ok .nx ρ') => g ρ'
  | o => o
section
variable {X : Cx} {W : WX} {e : Expr} {st : Stmt} {sts : List Stmt} {f g : M Fl} {pos : Pos}
theorem evB_nil : EvB X W [] (M.ret .nx) := pssI pss_nil fun D σ H ⟨ρ, F, p, o, e, q⟩ => by
  cases e
  exact q σ F H p
theorem evB_one (h : EvS X W st f) : EvB X W [st] f := pss_one h
theorem evB_cons (h1 : EvS X W st f) (h2 : EvB X W sts g) : EvB X W (st :: sts) (sSeq f g) := pssI (pss_cons h1 h2) fun D σ H ⟨ρ, F, p, o, e, q⟩ => by
  unfold sSeq at e
  cases ef : f ρ with
  | none => rw [ef] at e; cases e
  | some o1 =>
    refine ⟨ρ, F, p, o1, ef, ?_⟩
    rw [ef] at e
    cases o1 with
    | ok fl ρ' =>
      cases fl with
      | nx => exact fun σ' F' H' p' => RunS.sub (S := ⟨σ, ρ, F, H⟩) ⟨p', o, e, q⟩
      | bk => cases e; exact q
      | ct => cases e; exact q
      | rt r => cases e; exact q
    | ex c ρ' => cases e; exact q
/-- an expression, then a statement's end -/
theorem tG_S {α β : Type} {K : PySem.W.Frag} {R : Sta → L2.St → Rho → Hp → Hp → β → α → Prop} {f : M α} {k : α → M Fl} {σ : L2.St} {ρ : Rho} {F H : Hp} {D : Ends} (r : RunS K W ⟨σ, ρ, F, H⟩ (f.bind k) σ ρ F H D) :
    tG K W R f σ H (fun v H1 => ∃ x ρ1 F1, R ⟨σ, ρ, F, H⟩ σ ρ1 F1 H1 v x ∧ RunS K W ⟨σ, ρ, F, H⟩ (k x) σ ρ1 F1 H1 D) := by
  obtain ⟨p, o, e, q⟩ := r
  cases ef : f ρ with
  | none => simp only [M.bind, ef] at e; cases e
  | some o1 =>
    refine ⟨ρ, F, p, o1, ef, ?_⟩
    cases o1 with
    | ok x ρ1 =>
      simp only [M.bind, ef] at e
      exact fun v F1 H1 a b => ⟨x, ρ1, F1, b, a, o, e, q⟩
    | ex c ρ1 =>
      simp only [M.bind, ef] at e
      cases e
      exact fun F1 H1 a => q _ F1 H1 a
theorem tG_mono {α β : Type} {K : PySem.W.Frag} {R : Sta → L2.St → Rho → Hp → Hp → β → α → Prop} {f : M α} {σ : L2.St} {H : Hp} {Q Q' : β → Hp → Prop} (h : tG K W R f σ H Q) (k : ∀ v H, Q v H → Q' v H) : tG K W R f σ H Q' := by
  obtain ⟨ρ, F, r⟩ := h
  exact ⟨ρ, F, r.mono k⟩
theorem ev_ret {f : M Rf} (h : EvO X W e f) : EvS X W (.Return (some e) pos) (f.bind fun r => M.ret (.rt r)) := psI (ps_ret h) fun D σ H ⟨ρ, F, r⟩ =>
  tG_mono (tG_S r) fun v H1 ⟨x, ρ1, F1, rx, p, o, e, q⟩ => by
    cases e
    exact q v σ F1 H1 p rx
theorem ev_retN : EvS X W (.Return none pos) (M.ret (.rt (.o (.fz .none)))) := psI ps_retN fun D σ H ⟨ρ, F, p, o, e, q⟩ => by
  cases e
  exact q _ σ F H p .non
theorem ev_pass : EvS X W (.Pass pos) (M.ret .nx) := psI ps_pass fun D σ H ⟨ρ, F, p, o, e, q⟩ => by
  cases e
  exact q σ F H p
theorem ev_break : EvS X W (.Break pos) (M.ret .bk) := psI ps_break fun D σ H ⟨ρ, F, p, o, e, q⟩ => by
  cases e
  exact q σ F H p
theorem ev_cont : EvS X W (.Continue pos) (M.ret .ct) := psI ps_continue fun D σ H ⟨ρ, F, p, o, e, q⟩ => by
  cases e
  exact q σ F H p
theorem ev_doc {x : Str} {j : Nat} {pos' : Pos} : EvS X W (.Expr (.Constant (.str x) j pos) pos') (M.ret .nx) := psI ps_doc fun D σ H ⟨ρ, F, p, o, e, q⟩ => by
  cases e
  exact q σ F H p
theorem ev_expr {f : M Rf} (h : EvO X W e f) (hs : swapsWith e none pos.line X.env = pure false := by rfl) : EvS X W (.Expr e pos) (f.bind fun _ => M.ret .nx) := psI (ps_expr h hs) fun D σ H ⟨ρ, F, r⟩ =>
  tG_mono (tG_S r) fun v H1 ⟨x, ρ1, F1, rx, p, o, e, q⟩ => by
    cases e
    exact q σ F1 H1 p
theorem ev_if {c : Expr} {a b : List Stmt} {t : M Bool} (hc : EvT X W c t) (ha : EvB X W a f) (hb : EvB X W b g) : EvS X W (.If c a b pos) (t.bind fun k => if k then f else g) := psI (ps_if hc ha hb) fun D σ H ⟨ρ, F, r⟩ =>
  tG_mono (tG_S r) fun v H1 ⟨x, ρ1, F1, rx, r1⟩ => by
    have rx' : v = x := rx
    subst rx'
    cases v with
    | true => exact r1.sub
    | false => exact r1.sub
end

/-! ### storing to a name -/
/-- the slot i gets o (the rest stays); what is borrowed is not overwritten -/
def stI (i : Nat) (o : O) (ρ : Rho) : Option Rho := match ρ[i]? with
  | some (some (.mu true _)) => none
  | some _ => some (ρ.set i (some o))
  | none => none
theorem Post.store {K : PySem.W.Frag} {S : Sta} {σ : L2.St} {ρ ρ' : Rho} {F H : Hp} {i : Nat} {o : O} {v : V} (p : Post K S σ ρ F H) (e : stI i o ρ = some ρ') (r : RfR K S σ ρ F H v (.o o)) : Post K S (σ.set i (some v)) ρ' F H := by
  unfold stI at e
  cases hi : ρ[i]? with
  | none => rw [hi] at e; cases e
  | some y =>
    have hil : i < ρ.length := (List.getElem?_eq_some_iff.mp hi).1
    have hiσ : i < σ.length := by rw [p.hd.len]; exact hil
    have nb : ∀ m, y ≠ some (.mu true m) := by
      rintro m rfl
      rw [hi] at e; cases e
    have e' : ρ' = ρ.set i (some o) := by
      rw [hi] at e
      cases y with
      | none => exact (Option.some.inj e).symm
      | some y =>
        cases y with
        | fz d => exact (Option.some.inj e).symm
        | mu b m =>
          cases b with
          | false => exact (Option.some.inj e).symm
          | true => exact absurd rfl (nb m)
    subst e'
    have sl : SlotR K F H v o := slot_of p.hd r rfl
    have sσ : ∀ {j : Nat}, j ≠ i → (σ.set i (some v))[j]? = σ[j]? := fun h => List.getElem?_set_ne (Ne.symm h)
    refine ⟨⟨p.hd.le, by simp [p.hd.len], fun j o' e1 => ?_, fun j k b1 m1 b2 m2 c e1 e2 s1 s2 => ?_⟩, p.le, p.keep, p.nofz, fun b q => ?_, fun j m e1 => ?_⟩
    · rcases get_set e1 with ⟨rfl, z⟩ | ⟨ne, z⟩
      · cases z
        exact ⟨v, List.getElem?_set_self hiσ, sl⟩
      · obtain ⟨w, e2, r2⟩ := p.hd.at_ j o' z
        exact ⟨w, by rw [sσ ne]; exact e2, r2⟩
    · rcases get_set e1 with ⟨rfl, z1⟩ | ⟨n1, z1⟩
      · rcases get_set e2 with ⟨rfl, z2⟩ | ⟨n2, z2⟩
        · rfl
        · cases z1
          rw [List.getElem?_set_self hiσ] at s1
          cases s1
          rw [sσ n2] at s2
          exact absurd ⟨k, b2, m2, z2, s2⟩ (r.2.2 c rfl).2
      · rcases get_set e2 with ⟨rfl, z2⟩ | ⟨n2, z2⟩
        · cases z2
          rw [List.getElem?_set_self hiσ] at s2
          cases s2
          rw [sσ n1] at s1
          exact absurd ⟨j, b1, m1, z1, s1⟩ (r.2.2 c rfl).2
        · rw [sσ n1] at s1
          rw [sσ n2] at s2
          exact p.hd.sep j k b1 m1 b2 m2 c z1 z2 s1 s2
    · obtain ⟨j, b1, m1, e1, q⟩ := q
      rcases get_set e1 with ⟨rfl, z⟩ | ⟨ne, z⟩
      · cases z
        rw [List.getElem?_set_self hiσ] at q
        cases q
        exact (r.2.2 b rfl).1
      · rw [sσ ne] at q
        exact p.own b ⟨j, b1, m1, z, q⟩
    · obtain ⟨e2, m', e3⟩ := p.bor j m e1
      have ne : j ≠ i := by
        rintro rfl
        rw [hi] at e3
        exact nb m' (Option.some.inj e3)
      exact ⟨by rw [sσ ne]; exact e2, m', by rw [set_ne ne]; exact e3⟩
/-- the value of an assignment: a temporary is kept as it is, what a name holds is frozen -/
def own : Rf → M O
  | .o o => M.ret o
  | .s i => (frz (.s i)).bind fun d => M.ret (.fz d)
def stM (i : Nat) (o : O) : M Fl := fun ρ => match stI i o ρ with
  | some ρ' => some (.ok .nx ρ')
  | none => none
theorem own_run {K : PySem.W.Frag} {W : WX} {S : Sta} {k : O → M Fl} {x : Rf} {σ : L2.St} {ρ : Rho} {F H : Hp} {D : Ends} {v : V} (r : RunS K W S ((own x).bind k) σ ρ F H D) (hσ : S.σ = σ) (rx : RfR K S σ ρ F H v x) :
    ∃ o ρ1 F1, RfR K S σ ρ1 F1 H v (.o o) ∧ RunS K W S (k o) σ ρ1 F1 H D := by
  cases x with
  | o o => exact ⟨o, ρ, F, rx, r⟩
  | s i =>
    obtain ⟨p, o, e, q⟩ := r
    subst hσ
    cases ef : Vs.frz (.s i) ρ with
    | none => simp only [own, M.bind, ef] at e; cases e
    | some o1 =>
      cases o1 with
      | ex c ρ1 =>
        simp only [Vs.frz] at ef
        split at ef <;> cases ef
      | ok d ρ1 =>
        have z : Run K W (DR K) S (Vs.frz (.s i)) ρ F H (fun v' H' => v' = v → H' = H → ∃ F1, RfR K S S.σ ρ1 F1 H v (.o (.fz d)) ∧ Post K S S.σ ρ1 F1 H) := by
          refine ⟨p, .ok d ρ1, ef, fun v' F' H' p' r' ev eH => ?_⟩
          subst ev eH
          exact ⟨F', r', p'⟩
        obtain ⟨F1, r1, p1⟩ := z.frz rx rfl rfl
        simp only [own, M.bind, ef, M.ret] at e
        exact ⟨.fz d, ρ1, F1, r1, p1, o, e, q⟩
section
variable {X : Cx} {W : WX} {e : Expr} {f : M Rf} {pos pos' : Pos}
theorem ev_set {i : Nat} {x : Str} (hN : X.N.Nodup) (hi : X.N[i]? = some x) (hx : Loc X.env.scope x) (he : EvO X W e f) (hs : swapsWith e (some (.Name x pos')) pos.line X.env = pure false := by rfl) (hf : X.fn x = true ∨ X.env.scope.names.lookup x = some .local := by first | exact .inl rfl | exact .inr rfl | assumption) :
    EvS X W (.Assign [.Name x pos'] e pos) (f.bind fun r => (own r).bind fun o => stM i o) := psI (ps_set hN hi hx he hs hf) fun D σ H ⟨ρ, F, r⟩ =>
  tG_mono (tG_S r) fun v H1 ⟨x, ρ1, F1, rx, r1⟩ => by
    obtain ⟨o, ρ2, F2, r2, p2, o2, e2, q2⟩ := own_run r1 rfl rx
    unfold stM at e2
    cases es : stI i o ρ2 with
    | none => rw [es] at e2; cases e2
    | some ρ3 =>
      rw [es] at e2; cases e2
      exact q2 _ F2 H1 (p2.store es r2)
end

/-! ### targets -/
/-- a target: what it makes of a frozen value -/
def TgR (K : PySem.W.Frag) (g : TG) (h : PyData → M Fl) : Prop := ∀ (W : WX) (S : Sta) (σ : L2.St) (ρ : Rho) (F H : Hp) (v : V) (d : PyData) (D : Ends), RunS K W S (h d) σ ρ F H D → Rp K F v d → g v σ H D.nx
def TgsR (K : PySem.W.Frag) (g : TGs) (h : List PyData → M Fl) : Prop := ∀ (W : WX) (S : Sta) (σ : L2.St) (ρ : Rho) (F H : Hp) (v : List V) (d : List PyData) (D : Ends), RunS K W S (h d) σ ρ F H D → RpA K F v d → g v σ H D.nx
def tgName (i : Nat) : PyData → M Fl := fun d => stM i (.fz d)
def tgNil : List PyData → M Fl
  | [] => M.ret .nx
  | _ :: _ => fun _ => none
def tgThen (hs : List PyData → M Fl) (ds : List PyData) : Option (Out Fl) → Option (Out Fl)
  | some (.ok .nx ρ') => hs ds ρ'
  | _ => none
def tgCons (h : PyData → M Fl) (hs : List PyData → M Fl) : List PyData → M Fl
  | [] => fun _ => none
  | d :: ds => fun ρ => tgThen hs ds (h d ρ)
def tgTup (n : Nat) (hs : List PyData → M Fl) : PyData → M Fl
  | .tuple ds => fun ρ => if ds.length = n then hs ds ρ else none
  | _ => fun _ => none
theorem tg_name {K : PySem.W.Frag} {i : Nat} : TgR K (gName i) (tgName i) := fun W S σ ρ F H v d D ⟨p, o, e, q⟩ r => by
  unfold tgName stM at e
  cases es : stI i (.fz d) ρ with
  | none => rw [es] at e; cases e
  | some ρ3 =>
    rw [es] at e; cases e
    exact q _ F H (p.store es r)
theorem tg_nil {K : PySem.W.Frag} : TgsR K gNil tgNil := fun W S σ ρ F H v d D ⟨p, o, e, q⟩ r => by
  cases r with
  | nil =>
    cases e
    exact ⟨rfl, q _ F H p⟩
  | cons _ _ => cases e
theorem tg_cons {K : PySem.W.Frag} {g : TG} {gs : TGs} {h : PyData → M Fl} {hs : List PyData → M Fl} (a : TgR K g h) (b : TgsR K gs hs) (mono : ∀ v σ H Q Q', (∀ σ H, Q σ H → Q' σ H) → g v σ H Q → g v σ H Q') : TgsR K (gCons g gs) (tgCons h hs) := fun W S σ ρ F H v d D ⟨p, o, e, q⟩ r => by
  cases r with
  | nil => cases e
  | @cons v vs d ds r rs =>
    refine ⟨v, vs, rfl, ?_⟩
    have e : tgThen hs ds (h d ρ) = some o := e
    cases eh : h d ρ with
    | none => rw [eh] at e; cases e
    | some o1 =>
      cases o1 with
      | ex c ρ' => rw [eh] at e; cases e
      | ok fl ρ' =>
        cases fl with
        | nx =>
          rw [eh] at e
          exact a W ⟨σ, ρ, F, H⟩ σ ρ F H v d { D with nx := fun σ' H' => gs vs σ' H' D.nx } ⟨Post.refl p.hd, .ok .nx ρ', eh, fun σ' F' H' p' => b W S σ' ρ' F' H' vs ds D ⟨p.trans p', o, e, q⟩ (RpA.mono p'.le rs)⟩ r
        | bk => rw [eh] at e; cases e
        | ct => rw [eh] at e; cases e
        | rt _ => rw [eh] at e; cases e
theorem tg_tup {K : PySem.W.Frag} {gs : TGs} {hs : List PyData → M Fl} {n : Nat} (a : TgsR K gs hs) : TgR K (gTup K n gs) (tgTup n hs) := fun W S σ ρ F H v d D ⟨p, o, e, q⟩ r => by
  cases r with
  | @tup a' xs ds h1 h2 =>
    have e : (if ds.length = n then hs ds ρ else none) = some o := e
    by_cases hl : ds.length = n
    · rw [if_pos hl] at e
      exact ⟨a', xs, rfl, p.hd.le.seqT h1, by rw [h2.len]; exact hl, a W S σ ρ F H xs ds D ⟨p, o, e, q⟩ h2⟩
    · rw [if_neg hl] at e
      cases e
  | _ => cases e
theorem gName_mono {i : Nat} : ∀ v σ H Q Q', (∀ σ H, Q σ H → Q' σ H) → gName i v σ H Q → gName i v σ H Q' := fun _ _ _ _ _ k h => k _ _ h
section
variable {X : Cx} {W : WX} {e tg : Expr} {f : M Rf} {pos pos' : Pos}
theorem ev_asg {g : TG} {h : PyData → M Fl} (he : EvO X W e f) (hg : PG X tg g) (ht : TgR X.K g h) (hs : swapsWithSole [tg] e pos.line X.env = pure false := by rfl) (hw : swappedStores [tg] e X.env = pure none := by rfl)
    (h1 : (assignEach [tg] X.env).map (·.2) = [assign tg X.env] := by rfl) : EvS X W (.Assign [tg] e pos) ((f.bind frz).bind h) := psI (ps_asg (ev_frz he) hg hs hw h1) fun D σ H ⟨ρ, F, r⟩ =>
  tG_mono (tG_S r) fun v H1 ⟨x, ρ1, F1, rx, r1⟩ => ht W _ σ ρ1 F1 H1 v x D r1 rx
end
end Vs

/-! Vs, defs and their calls. -/
namespace Vs
open PySem PySem.Spec L2

/-! ### a def's promise, where nothing is being shown -/
structure FnG (P : Program) (w : World) (K : PySem.W.Frag) (mg : Str → Option Value) (base : Heap) (k : Nat) (f : Addr) (fd : FuncData) (ps : List Str) (g : M O) : Prop where
  run : ∀ (A : Around) (outer : List Env) (s : Shared) (H : Hp) (args : Args) (us : List Value) (vs : List V) (Q : VK) (E : XK) (ρ : Rho) (F : Hp), A.guards = some [] → Room k A → Env0 P w K mg base A outer s H → BindsTo s fd args (ps.zip us) → Vals vs us → vs.length = ps.length →
    Run K (fun c d _ H => E c d H) (fun S σ ρ F H v o => RfR K S σ ρ F H v (.o o)) ⟨vs.map some, ρ, F, H⟩ g ρ F H Q →
    codeAny (model P w) A (.call (.ref f) args) (CR (L2.CX P w) outer P w H s Q E) s
theorem FnG.mono {P : Program} {w : World} {K : PySem.W.Frag} {mg : Str → Option Value} {base : Heap} {j k : Nat} {f : Addr} {fd : FuncData} {ps : List Str} {g : M O} (h : FnG P w K mg base j f fd ps g) (hk : j ≤ k) : FnG P w K mg base k f fd ps g :=
  ⟨fun A outer s H args us vs Q E ρ F hg hr => h.run A outer s H args us vs Q E ρ F hg (hr.mono hk)⟩

/-- what a def is worth: from its body's run -/
def okArg : Option O → Bool
  | some (.fz _) => true
  | some (.mu true _) => true
  | _ => false
def keepF (r' : Rho) (i : Nat) (y : Option O) : Option O := match y with
  | some (.mu true m) => (match r'[i]? with | some (some (.mu true m')) => some (.mu true m') | _ => some (.mu true m))
  | y => y
def keepB (r r' : Rho) : Rho := r.mapIdx (keepF r')
def resO (ρ : Rho) : Rf → Option O
  | .o o => some o
  | .s i => match ρ[i]? with
    | some (some (.fz d)) => some (.fz d)
    | some (some (.mu false m)) => some (.mu false m)
    | _ => none
def defOut (ρ : Rho) : Option (Out Fl) → Option (Out O)
  | some (.ok (.rt r) ρ') => (match resO ρ' r with | some o => some (.ok o (keepB ρ ρ')) | none => none)
  | some (.ok .nx ρ') => some (.ok (.fz .none) (keepB ρ ρ'))
  | some (.ex c ρ') => some (.ex c (keepB ρ ρ'))
  | _ => none
def defG (n N : Nat) (fB : M Fl) : M O := fun ρ => if ρ.length = n ∧ ρ.all okArg = true then defOut ρ (fB (ρ ++ List.replicate (N - n) none)) else none

theorem keepB_len (r r' : Rho) : (keepB r r').length = r.length := by unfold keepB; rw [List.length_mapIdx]
theorem keepB_get (r r' : Rho) (i : Nat) : (keepB r r')[i]? = (r[i]?).map (keepF r' i) := by unfold keepB; rw [List.getElem?_mapIdx]
theorem keepB_fz (r r' : Rho) (i : Nat) (o : O) (hk : r.all okArg = true) (e : (keepB r r')[i]? = some (some o)) : (∃ d, o = .fz d ∧ r[i]? = some (some (.fz d))) ∨ ∃ m m', o = .mu true m' ∧ r[i]? = some (some (.mu true m)) ∧ (r'[i]? = some (some (.mu true m')) ∨ (m' = m ∧ ∀ (m2 : Mu), r'[i]? ≠ some (some (.mu true m2)))) := by
  rw [keepB_get] at e
  cases hi : r[i]? with
  | none => rw [hi] at e; cases e
  | some y =>
    rw [hi] at e
    have e2 : keepF r' i y = some o := Option.some.inj e
    have ok : okArg y = true := List.all_eq_true.mp hk _ (List.mem_of_getElem? hi)
    cases y with
    | none => cases ok
    | some y =>
      cases y with
      | fz d =>
        have e3 : some (O.fz d) = some o := e2
        cases e3
        exact .inl ⟨d, rfl, rfl⟩
      | mu b m =>
        cases b with
        | false => cases ok
        | true =>
          have e3 : (match r'[i]? with | some (some (.mu true m')) => some (O.mu true m') | _ => some (O.mu true m)) = some o := e2
          split at e3
          next m' h => cases e3; exact .inr ⟨m, m', rfl, rfl, .inl h⟩
          next h => cases e3; exact .inr ⟨m, m, rfl, rfl, .inr ⟨rfl, h⟩⟩
theorem keepB_mu {r r' : Rho} {i : Nat} {m m' : Mu} (e : r[i]? = some (some (.mu true m))) (e' : r'[i]? = some (some (.mu true m'))) : (keepB r r')[i]? = some (some (.mu true m')) := by
  rw [keepB_get, e]
  show some (match r'[i]? with | some (some (.mu true m')) => some (O.mu true m') | _ => some (O.mu true m)) = _
  rw [e']

section
variable {K : PySem.W.Frag} {vs : List V} {ρ : Rho} {F H : Hp} {n N : Nat}
theorem app_get {ρ : Rho} {m i : Nat} {o : O} (h : (ρ ++ List.replicate m none)[i]? = some (some o)) : ρ[i]? = some (some o) := by
  by_cases hi : i < ρ.length
  · rwa [List.getElem?_append_left hi] at h
  · rw [List.getElem?_append_right (by omega), List.getElem?_replicate] at h
    split at h <;> cases h
theorem get_app {ρ : Rho} {m i : Nat} {o : O} (h : ρ[i]? = some (some o)) : (ρ ++ List.replicate m none)[i]? = some (some o) := by
  rw [List.getElem?_append_left (List.getElem?_eq_some_iff.mp h).1]
  exact h
theorem getσ_app {σ : L2.St} {m i : Nat} {o : V} (h : σ[i]? = some (some o)) : (σ ++ List.replicate m none)[i]? = some (some o) := by
  rw [List.getElem?_append_left (List.getElem?_eq_some_iff.mp h).1]
  exact h
theorem σapp_get {σ : L2.St} {m i : Nat} {o : V} (h : (σ ++ List.replicate m none)[i]? = some (some o)) : σ[i]? = some (some o) := by
  by_cases hi : i < σ.length
  · rwa [List.getElem?_append_left hi] at h
  · rw [List.getElem?_append_right (by omega), List.getElem?_replicate] at h
    split at h <;> cases h
theorem Hd.enter {m : Nat} {σ : L2.St} (h : Hd K σ ρ F H) : Hd K (σ ++ List.replicate m none) (ρ ++ List.replicate m none) F H :=
  ⟨h.le, by simp [h.len], fun i o e => by
    obtain ⟨v, e1, r⟩ := h.at_ i o (app_get e)
    exact ⟨v, getσ_app e1, r⟩, fun i j b m b' m' a e1 e2 s1 s2 => h.sep i j b m b' m' a (app_get e1) (app_get e2) (σapp_get s1) (σapp_get s2)⟩
theorem own_app {m : Nat} {σ : L2.St} {a : Addr} : Own (σ ++ List.replicate m none) (ρ ++ List.replicate m none) a ↔ Own σ ρ a :=
  ⟨fun ⟨i, b, m, e, q⟩ => ⟨i, b, m, app_get e, σapp_get q⟩, fun ⟨i, b, m, e, q⟩ => ⟨i, b, m, get_app e, getσ_app q⟩⟩
/-- behind a body's run: what the caller's side sees -/
theorem Post.leave {m : Nat} {σ σ' : L2.St} {ρ' : Rho} {F' H' : Hp} (hk : ρ.all okArg = true) (h : Hd K σ ρ F H) (p : Post K ⟨σ ++ List.replicate m none, ρ ++ List.replicate m none, F, H⟩ σ' ρ' F' H') :
    Post K ⟨σ, ρ, F, H⟩ σ (keepB ρ ρ') F' H' ∧ (∀ a, Own σ (keepB ρ ρ') a → ∃ (i : Nat) (mm : Mu), ρ'[i]? = some (some (.mu true mm)) ∧ σ'[i]? = some (some (.ref a))) := by
  have key : ∀ (i : Nat) (o : O), (keepB ρ ρ')[i]? = some (some o) → (∃ d, o = .fz d ∧ ρ[i]? = some (some (.fz d))) ∨ ∃ m0 m', o = .mu true m' ∧ ρ[i]? = some (some (.mu true m0)) ∧ ρ'[i]? = some (some (.mu true m')) ∧ σ'[i]? = σ[i]? := by
    intro i o e
    rcases keepB_fz ρ ρ' i o hk e with h1 | ⟨m0, m', rfl, e1, e2⟩
    · exact .inl h1
    · obtain ⟨s1, m2, s2⟩ := p.bor i m0 (get_app e1)
      rcases e2 with e2 | ⟨_, e2⟩
      · refine .inr ⟨m0, m', rfl, e1, e2, s1.trans ?_⟩
        obtain ⟨v, e3, _⟩ := h.at_ i _ e1
        show (σ ++ List.replicate m none)[i]? = σ[i]?
        rw [e3]
        exact getσ_app e3
      · exact absurd s2 (e2 m2)
  refine ⟨⟨⟨p.hd.le, by rw [keepB_len]; exact h.len, fun i o e => ?_, fun i j b m1 b' m2 a e1 e2 s1 s2 => ?_⟩, p.le, fun b o e q => p.keep b o e fun z => q (own_app.mp z), fun b o e q f => p.nofz b o e (fun z => q (own_app.mp z)) f, fun b q => ?_, fun i mm e => ?_⟩, fun a q => ?_⟩
  · rcases key i o e with ⟨d, rfl, e1⟩ | ⟨m0, m', rfl, e1, e2, e3⟩
    · obtain ⟨v, e4, r⟩ := h.at_ i _ e1
      exact ⟨v, e4, Rp.mono p.le r⟩
    · obtain ⟨v, e4, r⟩ := p.hd.at_ i _ e2
      exact ⟨v, by rw [← e3]; exact e4, r⟩
  · rcases key i _ e1 with ⟨d, z, _⟩ | ⟨n1, n1', _, f1, _, _⟩
    · cases z
    · rcases key j _ e2 with ⟨d, z, _⟩ | ⟨n2, n2', _, f2, _, _⟩
      · cases z
      · exact h.sep i j _ _ _ _ a f1 f2 s1 s2
  · obtain ⟨i, b1, m1, e, s⟩ := q
    rcases key i _ e with ⟨d, z, _⟩ | ⟨n1, n1', _, f1, _, _⟩
    · cases z
    · exact .inl ⟨i, _, _, f1, s⟩
  · refine ⟨rfl, ?_⟩
    obtain ⟨s1, m2, s2⟩ := p.bor i mm (get_app e)
    exact ⟨m2, keepB_mu e s2⟩
  · obtain ⟨i, b1, m1, e, s⟩ := q
    rcases key i _ e with ⟨d, z, _⟩ | ⟨n1, n1', z, f1, f2, f3⟩
    · cases z
    · exact ⟨i, _, f2, by rw [f3]; exact s⟩
end

section
variable {P : Program} {w : World} {K : PySem.W.Frag} {mg : Str → Option Value} {base : Heap}
/-- the context of a def's body, here -/
abbrev cx (P : Program) (w : World) (K : PySem.W.Frag) (mg : Str → Option Value) (base : Heap) (N : List Str) (qual : Str) (st : Stmt) (f : Addr) (cdv : Value) (A : Around) (outer : List Env) (s : Shared) (H : Hp) (E : XK) : Cx :=
  cxOf (L2.CX P w) P w K mg base N qual (defScope st) f cdv A outer s H E
abbrev WXof (E : XK) : WX := fun c d _ H => E c d H
theorem cx_takes {N : List Str} {qual : Str} {st : Stmt} {f : Addr} {cdv : Value} {A : Around} {outer : List Env} {s : Shared} {H : Hp} {E : XK} : Takes (cx P w K mg base N qual st f cdv A outer s H E) (WXof E) :=
  takes_of rfl rfl rfl rfl
/-- THE RULE for a def -/
theorem FnG.of {x qual : Str} {st : Stmt} {f : Addr} {fd : FuncData} {N ps : List Str} {k : Nat} {fB : M Fl} (Fu : Fun K x qual st f fd) (S : FnScope N ps (defScope st))
    (hbody : ∀ (cdv : Value) (A : Around) (outer : List Env) (s : Shared) (H : Hp) (E : XK), A.guards = some [] → Room k (A.deeper (PyProof.Rows.envOfC qual (defScope st) s.heap.objs.size f cdv)) →
      EvB (cx P w K mg base N qual st f cdv A outer s H E) (WXof E) (defBody st) fB) : FnG P w K mg base (k + 1) f fd ps (defG ps.length N.length fB) := by
  obtain ⟨oc, od, kV, doc, pm, an, cdv, ct, osl, rfl, lk, hcd⟩ := Fu.ex
  refine ⟨fun A outer s H args us vs Q E ρ F hg hr e0 hb r hl R => ?_⟩
  obtain ⟨p, out, eo, fin⟩ := R
  unfold defG at eo
  split at eo
  next hc =>
    obtain ⟨hc1, hc2⟩ := hc
    -- the function is entered
    have inHeap : K.In s.heap := e0.mod.kin.keeps fun b o e => (e0.bs b o e).1
    have noLim : s.heap.NoLimit := e0.mod.nolimit.keeps fun b o e => (e0.bs b o e).1
    have names : ∀ y ∈ ps.zip us, (defScope st).names.lookup y.1 = some .local ∨ ((defScope st).names.lookup y.1 = some .cell ∧ ((cellsFrom (s.heap.objs.size + 1) (defScope st).names []).lookup y.1).isSome = true) := by
      rintro ⟨a, b⟩ hy
      rcases S.par a (List.of_mem_zip hy).1 with q | q
      · exact Or.inl q
      · exact Or.inr ⟨q, PySem.W.cellsFrom_some _ _ _ (Or.inl q)⟩
    refine codeAny_call_function hr.depth (inHeap _ _ lk) rfl S.co S.gen rfl (PySem.W.codeRec_of inHeap hcd) (hb _ _ _ _ (wpAny_newFunctionEnv_cells S.kind names ?_))
    rintro env rfl s1 made
    refine ⟨noLim.keeps made.toInCall.keep, codeAny_func ?_⟩
    have body := hbody cdv A outer s H E hg (hr.deeper _)
    have atStart := inv_start (CX := L2.CX P w) (E := E) S hr.hd e0 hl r made
    have hst : L2.start N vs = vs.map some ++ List.replicate (N.length - ps.length) none := by
      unfold L2.start
      rw [hl]
    have hd0 : Hd K (L2.start N vs) (ρ ++ List.replicate (N.length - ps.length) none) F H := by
      rw [hst]
      exact p.hd.enter
    -- what the body must reach
    have reach : ∀ (σ' : L2.St) (ρ' : Rho) (F' H' : Hp), Post K ⟨L2.start N vs, ρ ++ List.replicate (N.length - ps.length) none, F, H⟩ σ' ρ' F' H' → Post K ⟨vs.map some, ρ, F, H⟩ (vs.map some) (keepB ρ ρ') F' H' ∧ (∀ a, Own (vs.map some) (keepB ρ ρ') a → ∃ (i : Nat) (mm : Mu), ρ'[i]? = some (some (.mu true mm)) ∧ σ'[i]? = some (some (.ref a))) := by
      intro σ' ρ' F' H' p'
      rw [hst] at p'
      exact Post.leave hc2 p.hd p'
    have newUp : ∀ a, New ⟨L2.start N vs, ρ ++ List.replicate (N.length - ps.length) none, F, H⟩ a → New ⟨vs.map some, ρ, F, H⟩ a := by
      intro a h
      rcases h with h | h
      · rw [hst] at h
        exact .inl (own_app.mp h)
      · exact .inr h
    have want : tS K (WXof E) fB { nx := fun _ H' => Q .non H', rt := Q } (L2.start N vs) H := by
      refine ⟨ρ ++ List.replicate (N.length - ps.length) none, F, Post.refl hd0, ?_⟩
      cases eb : fB (ρ ++ List.replicate (N.length - ps.length) none) with
      | none => rw [eb] at eo; cases eo
      | some ob =>
        refine ⟨ob, rfl, ?_⟩
        rw [eb] at eo
        cases ob with
        | ex c ρ' =>
          cases eo
          intro σ' F' H' p'
          exact fin F' H' (reach σ' ρ' F' H' p').1
        | ok fl ρ' =>
          cases fl with
          | bk => cases eo
          | ct => cases eo
          | nx =>
            cases eo
            intro σ' F' H' p'
            exact fin .non F' H' (reach σ' ρ' F' H' p').1 .non
          | rt rf =>
            intro v σ' F' H' p' rr
            obtain ⟨p1, p2⟩ := reach σ' ρ' F' H' p'
            have eo' : (match resO ρ' rf with | some o => some (Out.ok o (keepB ρ ρ')) | none => none) = some out := eo
            cases rf with
            | o o =>
              have eo2 : some (Out.ok o (keepB ρ ρ')) = some out := eo'
              cases eo2
              refine fin v F' H' p1 ?_
              cases o with
              | fz d => exact rr
              | mu b m =>
                refine ⟨rr.1, rr.2.1, fun a ea => ⟨newUp a (rr.2.2 a ea).1, fun q => ?_⟩⟩
                obtain ⟨i, mm, z1, z2⟩ := p2 a q
                exact (rr.2.2 a ea).2 ⟨i, true, mm, z1, z2⟩
            | s i =>
              have hv : σ'[i]? = some (some v) := rr
              cases ei : ρ'[i]? with
              | none => simp only [resO, ei] at eo'; cases eo'
              | some y =>
                cases y with
                | none => simp only [resO, ei] at eo'; cases eo'
                | some y =>
                  obtain ⟨v2, hv2, sl⟩ := p'.hd.at_ i y ei
                  rw [hv] at hv2; cases hv2
                  cases y with
                  | fz d =>
                    simp only [resO, ei] at eo'
                    cases eo'
                    exact fin v F' H' p1 sl
                  | mu b m =>
                    cases b with
                    | true => simp only [resO, ei] at eo'; cases eo'
                    | false =>
                      simp only [resO, ei] at eo'
                      cases eo'
                      refine fin v F' H' p1 ⟨rfl, sl, fun a ea => ?_⟩
                      subst ea
                      refine ⟨newUp a (p'.own a ⟨i, false, m, ei, hv⟩), fun q => ?_⟩
                      obtain ⟨j, mm, z1, z2⟩ := p2 a q
                      have := p'.hd.sep i j _ _ _ _ a ei z1 hv z2
                      subst this
                      rw [ei] at z1; cases z1
    refine wpAny_mono (body.run [] s1 (L2.start N vs) H _ atStart want) (fun fl s' hs => ?_) fun _ _ hs => hs
    cases fl with
    | ret u => obtain ⟨v, σ', H', J, rv, q⟩ := hs; exact ⟨v, H', J.os, J.bare, J.base, J.hok, rv, q⟩
    | next => obtain ⟨σ', H', J, q⟩ := hs; exact ⟨.non, H', J.os, J.bare, J.base, J.hok, rfl, q⟩
    | brk => obtain ⟨_, _, _, q⟩ := hs; exact q.elim
    | cont => obtain ⟨_, _, _, q⟩ := hs; exact q.elim
  next => cases eo
end
end Vs

/-! Vs, calls of defs, the law's end. -/
namespace Vs
open PySem PySem.Spec L2

inductive Arg where
  | fz (d : PyData)
  | br (i : Nat)
def ArgR (K : PySem.W.Frag) (σ : L2.St) (F : Hp) (v : V) : Arg → Prop
  | .fz d => Rp K F v d
  | .br i => σ[i]? = some (some v)
def GR (K : PySem.W.Frag) (_ : Sta) (σ : L2.St) (_ : Rho) (F _ : Hp) (vs : List V) (xs : List Arg) : Prop := Paired (ArgR K σ F) vs xs
abbrev EvG (X : Cx) (W : WX) (e : List Expr) (f : M (List Arg)) : Prop := PA X e (tG X.K W (GR X.K) f)
theorem ArgR.mono {K : PySem.W.Frag} {σ : L2.St} {F F' : Hp} {v : V} {x : Arg} (e : Le F F') (h : ArgR K σ F v x) : ArgR K σ F' v x := by
  cases x with
  | fz d => exact Rp.mono e h
  | br i => exact h
section
variable {X : Cx} {W : WX} {e : Expr} {es : List Expr} {g : M (List Arg)} {pos : Pos}
theorem evG_nil : EvG X W [] (M.ret []) := paI pa_nil fun σ H Q ⟨ρ, F, p, o, e, q⟩ => by
  cases e
  exact q [] F H p .nil
theorem evG_fz {f : M Rf} (ha : EvO X W e f) (hr : EvG X W es g) (hs : starEach (e :: es) X.env = (false, eval e X.env) :: starEach es X.env := by rfl) :
    EvG X W (e :: es) ((f.bind frz).bind fun d => g.bind fun ds => M.ret (.fz d :: ds)) := paI (pa_cons (ev_frz ha) hr hs) fun σ H Q ⟨ρ, F, r⟩ =>
  ⟨ρ, F, r.bind.mono fun v H1 ⟨x, ρ1, F1, rx, p, r2⟩ => ⟨ρ1, F1, r2.bind.mono fun vs H2 ⟨xs, ρ2, F2, rxs, p2, ⟨p3, o, e3, q⟩⟩ => by
    cases e3
    exact q (v :: vs) F2 H2 p3 (.cons (show ArgR X.K σ F2 v (.fz x) from Rp.mono p2.le rx) rxs)⟩⟩
theorem evG_br {i : Nat} {x : Str} (ha : PE X (.Name x pos) (tVar i)) (hr : EvG X W es g) (hs : starEach (.Name x pos :: es) X.env = (false, eval (.Name x pos) X.env) :: starEach es X.env := by rfl) :
    EvG X W (.Name x pos :: es) (fun ρ => match ρ[i]? with | some (some _) => (g.bind fun ds => M.ret (.br i :: ds)) ρ | _ => none) := paI (pa_cons ha hr hs) fun σ H Q ⟨ρ, F, p, o, e, q⟩ => by
  cases e1 : ρ[i]? with
  | none => simp only [e1] at e; cases e
  | some y =>
    cases y with
    | none => simp only [e1] at e; cases e
    | some y =>
      simp only [e1] at e
      obtain ⟨v, e2, _⟩ := p.hd.at_ i y e1
      have r : Run X.K W (GR X.K) ⟨σ, ρ, F, H⟩ (g.bind fun ds => M.ret (.br i :: ds)) ρ F H Q := ⟨p, o, e, q⟩
      exact ⟨v, e2, ρ, F, r.bind.mono fun vs H2 ⟨xs, ρ2, F2, rxs, p2, ⟨p3, o, e3, q⟩⟩ => by
        cases e3
        exact q (v :: vs) F2 H2 p3 (.cons (show ArgR X.K σ F2 v (.br i) from e2) rxs)⟩
end

def brAt (i : Nat) : List Arg → Option Nat
  | [] => none
  | .br j :: xs => if j = i then some 0 else (brAt i xs).map (· + 1)
  | .fz _ :: xs => (brAt i xs).map (· + 1)
def brOk : List Arg → Bool
  | [] => true
  | .br j :: xs => (brAt j xs).isNone && brOk xs
  | .fz _ :: xs => brOk xs
def argE (ρ : Rho) : List Arg → Option Rho
  | [] => some []
  | .fz d :: xs => (argE ρ xs).map (some (.fz d) :: ·)
  | .br i :: xs => match ρ[i]? with
    | some (some (.mu _ m)) => (argE ρ xs).map (some (.mu true m) :: ·)
    | _ => none
def backF (xs : List Arg) (ρa : Rho) (i : Nat) (y : Option O) : Option O := match brAt i xs with
  | some p => (match y, ρa[p]? with
    | some (.mu b _), some (some (.mu _ m')) => some (.mu b m')
    | y, _ => y)
  | none => y
def back (ρ : Rho) (xs : List Arg) (ρa : Rho) : Rho := ρ.mapIdx (backF xs ρa)
def callOut (ρ : Rho) (xs : List Arg) : Option (Out O) → Option (Out Rf)
  | some (.ok o ρa) => some (.ok (.o o) (back ρ xs ρa))
  | some (.ex c ρa) => some (.ex c (back ρ xs ρa))
  | none => none
def callG (g : M O) (xs : List Arg) : M Rf := fun ρ => match argE ρ xs with
  | some ρa => if brOk xs = true then callOut ρ xs (g ρa) else none
  | none => none

theorem brAt_get : ∀ {xs : List Arg} {i p : Nat}, brAt i xs = some p → xs[p]? = some (.br i)
  | [], i, p, e => by cases e
  | .fz d :: xs, i, p, e => by
    have e : (brAt i xs).map (· + 1) = some p := e
    obtain ⟨q, e1, rfl⟩ := Option.map_eq_some_iff.mp e
    simpa using brAt_get e1
  | .br j :: xs, i, p, e => by
    have e : (if j = i then some 0 else (brAt i xs).map (· + 1)) = some p := e
    by_cases h : j = i
    · rw [if_pos h] at e; cases e; subst h; rfl
    · rw [if_neg h] at e
      obtain ⟨q, e1, rfl⟩ := Option.map_eq_some_iff.mp e
      simpa using brAt_get e1
theorem brAt_some : ∀ {xs : List Arg} {i p : Nat}, xs[p]? = some (.br i) → (brAt i xs).isSome = true
  | [], i, p, e => by simp at e
  | .fz d :: xs, i, p, e => by
    show ((brAt i xs).map (· + 1)).isSome = true
    cases p with
    | zero => simp at e
    | succ p => rw [Option.isSome_map]; exact brAt_some (p := p) (by simpa using e)
  | .br j :: xs, i, p, e => by
    show (if j = i then some 0 else (brAt i xs).map (· + 1)).isSome = true
    by_cases h : j = i
    · rw [if_pos h]; rfl
    · rw [if_neg h]
      cases p with
      | zero => simp at e; exact absurd e h
      | succ p => rw [Option.isSome_map]; exact brAt_some (p := p) (by simpa using e)
theorem brOk_at : ∀ {xs : List Arg} {i p : Nat}, brOk xs = true → xs[p]? = some (.br i) → brAt i xs = some p
  | [], i, p, _, e => by simp at e
  | .fz d :: xs, i, p, k, e => by
    show (brAt i xs).map (· + 1) = some p
    cases p with
    | zero => simp at e
    | succ p => rw [brOk_at (xs := xs) (p := p) k (by simpa using e)]; rfl
  | .br j :: xs, i, p, k, e => by
    show (if j = i then some 0 else (brAt i xs).map (· + 1)) = some p
    have k : ((brAt j xs).isNone && brOk xs) = true := k
    rw [Bool.and_eq_true] at k
    cases p with
    | zero => simp at e; rw [if_pos e]
    | succ p =>
      have e' : xs[p]? = some (.br i) := by simpa using e
      have q := brOk_at (p := p) k.2 e'
      by_cases h : j = i
      · subst h
        rw [q] at k
        exact absurd k.1 (by simp)
      · rw [if_neg h, q]; rfl
theorem argE_len {ρ : Rho} : ∀ {xs : List Arg} {ρa : Rho}, argE ρ xs = some ρa → ρa.length = xs.length
  | [], ρa, e => by cases e; rfl
  | .fz d :: xs, ρa, e => by
    obtain ⟨r, e1, rfl⟩ := Option.map_eq_some_iff.mp (show (argE ρ xs).map (some (.fz d) :: ·) = some ρa from e)
    simp [argE_len e1]
  | .br i :: xs, ρa, e => by
    unfold argE at e
    split at e
    · obtain ⟨r, e1, rfl⟩ := Option.map_eq_some_iff.mp e
      simp [argE_len e1]
    · cases e
theorem argE_get {ρ : Rho} : ∀ {xs : List Arg} {ρa : Rho} {p : Nat} {o : O}, argE ρ xs = some ρa → ρa[p]? = some (some o) → (∃ d, xs[p]? = some (.fz d) ∧ o = .fz d) ∨ ∃ (i : Nat) (b : Bool) (m : Mu), xs[p]? = some (.br i) ∧ ρ[i]? = some (some (.mu b m)) ∧ o = .mu true m
  | [], ρa, p, o, e, h => by cases e; simp at h
  | .fz d :: xs, ρa, p, o, e, h => by
    obtain ⟨r, e1, rfl⟩ := Option.map_eq_some_iff.mp (show (argE ρ xs).map (some (.fz d) :: ·) = some ρa from e)
    cases p with
    | zero => simp at h; subst h; exact .inl ⟨d, rfl, rfl⟩
    | succ p => simpa using argE_get (p := p) e1 (by simpa using h)
  | .br i :: xs, ρa, p, o, e, h => by
    unfold argE at e
    split at e
    · rename_i b m hi
      obtain ⟨r, e1, rfl⟩ := Option.map_eq_some_iff.mp e
      cases p with
      | zero => simp at h; subst h; exact .inr ⟨i, b, m, rfl, hi, rfl⟩
      | succ p => simpa using argE_get (p := p) e1 (by simpa using h)
    · cases e
theorem argE_br {ρ : Rho} : ∀ {xs : List Arg} {ρa : Rho} {p i : Nat}, argE ρ xs = some ρa → xs[p]? = some (.br i) → ∃ (b : Bool) (m : Mu), ρ[i]? = some (some (.mu b m)) ∧ ρa[p]? = some (some (.mu true m))
  | [], ρa, p, i, e, h => by simp at h
  | .fz d :: xs, ρa, p, i, e, h => by
    obtain ⟨r, e1, rfl⟩ := Option.map_eq_some_iff.mp (show (argE ρ xs).map (some (.fz d) :: ·) = some ρa from e)
    cases p with
    | zero => simp at h
    | succ p => simpa using argE_br (p := p) e1 (by simpa using h)
  | .br j :: xs, ρa, p, i, e, h => by
    unfold argE at e
    split at e
    · rename_i b m hi
      obtain ⟨r, e1, rfl⟩ := Option.map_eq_some_iff.mp e
      cases p with
      | zero => simp at h; subst h; exact ⟨b, m, hi, rfl⟩
      | succ p => simpa using argE_br (p := p) e1 (by simpa using h)
    · cases e

section
variable {K : PySem.W.Frag} {S : Sta} {σ : L2.St} {ρ ρa ρa' : Rho} {F H F' H' : Hp} {vs : List V} {xs : List Arg}
theorem paired_get {α β : Type} {G : α → β → Prop} : ∀ {xs : List α} {ys : List β} {i : Nat} {y : β}, Paired G xs ys → ys[i]? = some y → ∃ x, xs[i]? = some x ∧ G x y
  | _, _, _, _, .nil, e => by simp at e
  | _, _, 0, _, .cons h _, e => by simp at e; subst e; exact ⟨_, rfl, h⟩
  | _, _, i + 1, _, .cons _ r, e => by simpa using paired_get (i := i) r (by simpa using e)
theorem vget {i : Nat} {v : V} (h : vs[i]? = some v) : (vs.map some)[i]? = some (some v) := by rw [List.getElem?_map, h]; rfl
theorem vget' {i : Nat} {v : V} (h : (vs.map some)[i]? = some (some v)) : vs[i]? = some v := by
  rw [List.getElem?_map] at h
  cases e : vs[i]? with
  | none => rw [e] at h; cases h
  | some a => rw [e] at h; cases h; rfl
/-- the callee's side at a call -/
theorem Hd.args (h : Hd K σ ρ F H) (ea : argE ρ xs = some ρa) (hk : brOk xs = true) (r : Paired (ArgR K σ F) vs xs) : Hd K (vs.map some) ρa F H ∧ ∀ a, Own (vs.map some) ρa a → ∃ (i p : Nat) (b : Bool) (m : Mu), xs[p]? = some (.br i) ∧ ρ[i]? = some (some (.mu b m)) ∧ σ[i]? = some (some (.ref a)) := by
  refine ⟨⟨h.le, by rw [List.length_map, Paired.length r, argE_len ea], fun p o e => ?_, fun p q b m b' m' a e1 e2 s1 s2 => ?_⟩, fun a ⟨p, b, m, e, s⟩ => ?_⟩
  · rcases argE_get ea e with ⟨d, e1, rfl⟩ | ⟨i, b, m, e1, e2, rfl⟩
    · obtain ⟨v, hv, rv⟩ := paired_get r e1
      exact ⟨v, vget hv, rv⟩
    · obtain ⟨v, hv, rv⟩ := paired_get r e1
      obtain ⟨v2, e3, sl⟩ := h.at_ i _ e2
      have rv' : σ[i]? = some (some v) := rv
      rw [rv'] at e3; cases e3
      exact ⟨v, vget hv, sl⟩
  · rcases argE_get ea e1 with ⟨d, _, z⟩ | ⟨i, b1, m1, f1, f2, _⟩
    · cases z
    · rcases argE_get ea e2 with ⟨d, _, z⟩ | ⟨j, b2, m2, g1, g2, _⟩
      · cases z
      · obtain ⟨v, hv, rv⟩ := paired_get r f1
        obtain ⟨v2, hv2, rv2⟩ := paired_get r g1
        have h1 := vget' s1
        have h2 := vget' s2
        rw [hv] at h1; cases h1
        rw [hv2] at h2; cases h2
        have ij := h.sep i j b1 m1 b2 m2 a f2 g2 rv rv2
        subst ij
        exact Option.some.inj ((brOk_at hk f1).symm.trans (brOk_at hk g1))
  · rcases argE_get ea e with ⟨d, _, z⟩ | ⟨i, b1, m1, f1, f2, _⟩
    · cases z
    · obtain ⟨v, hv, rv⟩ := paired_get r f1
      have h1 := vget' s
      rw [hv] at h1; cases h1
      exact ⟨i, p, b1, m1, f1, f2, rv⟩
theorem back_get (i : Nat) : (back ρ xs ρa)[i]? = (ρ[i]?).map (backF xs ρa i) := by unfold back; rw [List.getElem?_mapIdx]
/-- behind a call: the caller's side -/
theorem Post.call (p : Post K S σ ρ F H) (ea : argE ρ xs = some ρa) (hk : brOk xs = true) (r : Paired (ArgR K σ F) vs xs) (pc : Post K ⟨vs.map some, ρa, F, H⟩ (vs.map some) ρa' F' H') :
    Post K S σ (back ρ xs ρa') F' H' ∧ ∀ v o, RfR K ⟨vs.map some, ρa, F, H⟩ (vs.map some) ρa' F' H' v (.o o) → RfR K S σ (back ρ xs ρa') F' H' v (.o o) := by
  obtain ⟨hdA, ownA⟩ := p.hd.args ea hk r
  have subA : ∀ a, Own (vs.map some) ρa a → Own σ ρ a := fun a h => by
    obtain ⟨i, q, b, m, _, e2, e3⟩ := ownA a h
    exact ⟨i, b, m, e2, e3⟩
  -- a slot that is not lent, or one that is
  have key : ∀ (i : Nat) (o : O), (back ρ xs ρa')[i]? = some (some o) →
      (brAt i xs = none ∧ ρ[i]? = some (some o)) ∨ ∃ (q : Nat) (b : Bool) (m m' : Mu) (v : V), brAt i xs = some q ∧ ρ[i]? = some (some (.mu b m)) ∧ o = .mu b m' ∧ ρa'[q]? = some (some (.mu true m')) ∧ vs[q]? = some v ∧ σ[i]? = some (some v) := by
    intro i o e
    rw [back_get] at e
    cases hi : ρ[i]? with
    | none => rw [hi] at e; cases e
    | some y =>
      rw [hi] at e
      have e2 : backF xs ρa' i y = some o := Option.some.inj e
      unfold backF at e2
      cases hb : brAt i xs with
      | none => rw [hb] at e2; exact .inl ⟨rfl, by rw [← e2]⟩
      | some q =>
        have hx := brAt_get hb
        obtain ⟨b, m, f1, f2⟩ := argE_br ea hx
        rw [hi] at f1; cases f1
        obtain ⟨_, m', f3⟩ := pc.bor q m f2
        rw [hb] at e2
        simp only [f3] at e2
        cases e2
        obtain ⟨v, hv, rv⟩ := paired_get r hx
        exact .inr ⟨q, b, m, m', v, rfl, rfl, rfl, f3, hv, rv⟩
  have muOld : ∀ (i : Nat) (b : Bool) (m : Mu), (back ρ xs ρa')[i]? = some (some (.mu b m)) → ∃ m0, ρ[i]? = some (some (.mu b m0)) := by
    intro i b m e
    rcases key i _ e with ⟨_, e1⟩ | ⟨q, b', m0, m', v, _, e1, z, _⟩
    · exact ⟨m, e1⟩
    · cases z; exact ⟨m0, e1⟩
  have post : Post K S σ (back ρ xs ρa') F' H' := by
    refine ⟨⟨pc.hd.le, by unfold back; rw [List.length_mapIdx]; exact p.hd.len, fun i o e => ?_, fun i j b m b' m' a e1 e2 s1 s2 => ?_⟩, p.le.trans pc.le, fun b o e q => ?_, fun b o e q f => ?_, fun b q => ?_, fun i m e => ?_⟩
    · rcases key i o e with ⟨hb, e1⟩ | ⟨q, b, m, m', v, hb, e1, rfl, e3, hv, hs⟩
      · obtain ⟨v, e2, sl⟩ := p.hd.at_ i o e1
        refine ⟨v, e2, ?_⟩
        cases o with
        | fz d => exact Rp.mono pc.le sl
        | mu b m =>
          obtain ⟨a, u, rfl, hu, hf, mr⟩ := sl
          have no : ¬ Own (vs.map some) ρa a := fun z => by
            obtain ⟨j, q, b2, m2, f1, f2, f3⟩ := ownA a z
            have ij := p.hd.sep i j b m b2 m2 a e1 f2 e2 f3
            subst ij
            rw [brOk_at hk f1] at hb; cases hb
          exact ⟨a, u, rfl, pc.keep a u hu no, pc.nofz a u hu no hf, mr.mono pc.le⟩
      · obtain ⟨v2, e4, sl⟩ := pc.hd.at_ q _ e3
        rw [vget hv] at e4; cases e4
        exact ⟨v, hs, sl⟩
    · obtain ⟨m0, f1⟩ := muOld i b m e1
      obtain ⟨m1, f2⟩ := muOld j b' m' e2
      exact p.hd.sep i j b m0 b' m1 a f1 f2 s1 s2
    · exact pc.keep b o (p.keep b o e q) fun z => p.not e q (subA b z)
    · exact pc.nofz b o (p.keep b o e q) (fun z => p.not e q (subA b z)) (p.nofz b o e q f)
    · obtain ⟨i, b1, m1, e, s⟩ := q
      obtain ⟨m0, f1⟩ := muOld i b1 m1 e
      exact p.own b ⟨i, b1, m0, f1, s⟩
    · obtain ⟨e1, m1, e2⟩ := p.bor i m e
      refine ⟨e1, ?_⟩
      rw [back_get, e2]
      show ∃ m', some (backF xs ρa' i (some (.mu true m1))) = some (some (O.mu true m'))
      unfold backF
      cases hb : brAt i xs with
      | none => exact ⟨m1, rfl⟩
      | some q =>
        obtain ⟨b, m2, f1, f2⟩ := argE_br ea (brAt_get hb)
        obtain ⟨_, m', f3⟩ := pc.bor q m2 f2
        simp only [f3]
        exact ⟨m', rfl⟩
  refine ⟨post, fun v o ro => ?_⟩
  cases o with
  | fz d => exact ro
  | mu b m =>
    refine ⟨ro.1, ro.2.1, fun a ea' => ?_⟩
    obtain ⟨n1, n2⟩ := ro.2.2 a ea'
    have nw : New ⟨σ, ρ, F, H⟩ a := n1.imp (subA a) fun h => h
    refine ⟨p.new nw, fun ⟨i, b1, m1, e, s⟩ => ?_⟩
    rcases key i _ e with ⟨hb, e1⟩ | ⟨q, b2, m2, m', v2, hb, e1, z, e3, hv, hs⟩
    · obtain ⟨v3, e2, sl⟩ := p.hd.at_ i _ e1
      rw [s] at e2; cases e2
      obtain ⟨a2, u, z, hu, _⟩ := sl
      cases z
      rcases n1 with h | h
      · obtain ⟨j, q, b3, m3, f1, f2, f3⟩ := ownA a h
        have ij := p.hd.sep i j b1 m1 b3 m3 a e1 f2 s f3
        subst ij
        rw [brOk_at hk f1] at hb; cases hb
      · have h : H a = none := h
        rw [h] at hu; cases hu
    · rw [s] at hs; cases hs
      exact n2 ⟨q, true, m', e3, vget hv⟩
end

section
variable {X : Cx} {W : WX} {e : Expr} {es : List Expr} {ga : M (List Arg)} {pos p : Pos} {k : Nat} {f : Addr} {fd : FuncData} {ps : List Str} {x : Str} {g : M O}
theorem run_fnG {pins : List (Addr × Obj)} {σ : L2.St} {H : Hp} {s : Shared} {Q : VK} {us : List Value} {vs : List V} {S : Sta} {ρ : Rho} {F : Hp} {xs : List Arg} (Fn : FnG X.prog X.w X.K X.mg X.base k f fd ps g) (hr : Room k X.A) (hgd : X.A.guards = some []) (hb : Binds X.K fd ps []) (tk : Takes X W)
    (hl : xs.length = ps.length) (I : Inv X pins σ H s) (r : Vals vs us) (hS : S.σ = σ) (ra : Paired (ArgR X.K σ F) vs xs) (R : Run X.K W (RfR X.K) S (callG g xs) ρ F H Q) : wpAny (model X.prog X.w) X.A (call (.ref f) us) (EP X pins σ Q) X.xe s := by
  obtain ⟨p, out, eo, fin⟩ := R
  subst hS
  unfold callG at eo
  split at eo
  next ρa ea =>
    split at eo
    next hk =>
      have hlv : vs.length = ps.length := (Paired.length ra).trans hl
      have hlu : us.length = ps.length := r.length.symm.trans hlv
      have bind := hb s us I.kIn (by rw [List.append_nil]; exact hlu)
      rw [List.append_nil] at bind
      refine wpAny_call (codeAny_mono (Fn.run X.A X.stack s H ⟨us, []⟩ us vs Q (fun c d H' => W c d S.σ H') ρa F hgd hr I.env0 bind r hlv ?_) fun rr s' hq => ?_)
      · refine ⟨Post.refl (p.hd.args ea hk ra).1, ?_⟩
        cases eg : g ρa with
        | none => rw [eg] at eo; cases eo
        | some og =>
          refine ⟨og, rfl, ?_⟩
          rw [eg] at eo
          cases og with
          | ok o ρa' =>
            cases eo
            intro v F' H' pc ro
            obtain ⟨p1, p2⟩ := p.call ea hk ra pc
            exact fin v F' H' p1 (p2 v o ro)
          | ex c ρa' =>
            cases eo
            intro F' H' pc
            exact fin F' H' (p.call ea hk ra pc).1
      · cases rr with
        | error er => exact tk er s' (XE.of_call I (fun _ _ _ h => h) hq)
        | ok fl =>
          cases fl with
          | ret u => exact I.after hq
          | next => exact hq.elim
          | brk => exact hq.elim
          | cont => exact hq.elim
    next => cases eo
  next => cases eo
def callN (g : M O) (n : Nat) (xs : List Arg) : M Rf := fun ρ => if xs.length = n then callG g xs ρ else none
theorem ev_call (Fn : FnG X.prog X.w X.K X.mg X.base k f fd ps g) (hr : Room k X.A) (hgd : X.A.guards = some []) (hg : Gl X x) (hm : X.mg x = some (.ref f)) (hk : PySem.W.keepIn X.K (.ref f) = true) (hb : Binds X.K fd ps []) (tk : Takes X W)
    (ha : EvG X W (e :: es) ga) (hdb : (x == ("__debug__" : Str)) = false := by decide) (he : starEach (e :: es) X.env = (false, eval e X.env) :: starEach es X.env := by rfl) (hpl : (backTo pos (starEach es X.env)).any (·.1) = false := by rfl) :
    EvO X W (.Call (.Name x p) (e :: es) [] pos) (ga.bind fun xs => callN g ps.length xs) := by
  refine ⟨fun pins s σ H Q I ⟨ρ, F, r⟩ => wpAny_Call_Name_kw (ld_glob I hg hm ?_ hdb)⟩
  refine PySem.W.callWith_K (h₀ := X.base) I.ok.mod.kin hk (thn (ha.run pos pins s σ H _ I ⟨ρ, F, r.bind⟩) ?_) he hpl
  rintro us s1 ⟨vs, H1, I1, rv, xs, ρ1, F1, ra, _, R⟩
  refine ⟨I1.kIn, ?_⟩
  obtain ⟨p1, o1, eo, fin⟩ := R
  unfold callN at eo
  split at eo
  next hl => exact run_fnG Fn hr hgd hb tk hl I1 rv (S := ⟨σ, ρ, F, H⟩) rfl ra ⟨p1, o1, eo, fin⟩
  next => cases eo
end
end Vs

/-! Vs, operations on values. -/
namespace Vs
open PySem PySem.Spec L2

section
variable {K : PySem.W.Frag} {F H : Hp} {v : V} {o : O}
theorem Rp.int_of {i : Int} (h : Rp K F v (.int i)) : v = .int i := by cases h; rfl
theorem Rp.str_of {i : Str} (h : Rp K F v (.str i)) : v = .str i := by cases h; rfl
theorem Rp.bl_of {i : Bool} (h : Rp K F v (.bool i)) : v = .bl i := by cases h; rfl
theorem Rp.non_of (h : Rp K F v .none) : v = .non := by cases h; rfl
theorem SlotR.int {i : Int} (h : SlotR K F H v o) (e : o.view = .int i) : v = .int i := by
  cases o with
  | fz d => have e : d = .int i := e; subst e; exact Rp.int_of h
  | mu b m => cases m <;> cases e
theorem SlotR.str {i : Str} (h : SlotR K F H v o) (e : o.view = .str i) : v = .str i := by
  cases o with
  | fz d => have e : d = .str i := e; subst e; exact Rp.str_of h
  | mu b m => cases m <;> cases e
theorem SlotR.bl {i : Bool} (h : SlotR K F H v o) (e : o.view = .bool i) : v = .bl i := by
  cases o with
  | fz d => have e : d = .bool i := e; subst e; exact Rp.bl_of h
  | mu b m => cases m <;> cases e
theorem SlotR.non (h : SlotR K F H v o) (e : o.view = .none) : v = .non := by
  cases o with
  | fz d => have e : d = .none := e; subst e; exact Rp.non_of h
  | mu b m => cases m <;> cases e
theorem SlotR.lst {ds : List PyData} (h : SlotR K F H v o) (le : Le F H) (e : o.view = .list ds) : ∃ a xs, v = .ref a ∧ SqL K H a xs ∧ RpA K F xs ds := by
  cases o with
  | fz d =>
    have e : d = .list ds := e
    subst e
    cases (show Rp K F v (.list ds) from h) with
    | lst h1 h2 => exact ⟨_, _, rfl, le.seqL h1, h2⟩
  | mu b m =>
    cases m with
    | lst es => cases e; obtain ⟨a, u, rfl, hu, _, xs, rfl, r⟩ := h; exact ⟨a, xs, rfl, .of hu, r⟩
    | dct es => cases e
theorem SlotR.tup {ds : List PyData} (h : SlotR K F H v o) (le : Le F H) (e : o.view = .tuple ds) : ∃ a xs, v = .ref a ∧ SqT K H a xs ∧ RpA K F xs ds := by
  cases o with
  | fz d =>
    have e : d = .tuple ds := e
    subst e
    cases (show Rp K F v (.tuple ds) from h) with
    | tup h1 h2 => exact ⟨_, _, rfl, le.seqT h1, h2⟩
  | mu b m => cases m <;> cases e
theorem SlotR.dct {ds : List (PyData × PyData)} (h : SlotR K F H v o) (le : Le F H) (e : o.view = .dict ds) : ∃ a kvs es, v = .ref a ∧ Rd H a (.dK kvs) ∧ RpK K F kvs es ∧ ds = es.map (fun p => (kD p.1, p.2)) := by
  cases o with
  | fz d =>
    have e : d = .dict ds := e
    subst e
    cases (show Rp K F v (.dict ds) from h) with
    | dct h1 h2 h3 => exact ⟨_, _, _, rfl, le _ _ h1, h2, h3⟩
  | mu b m =>
    cases m with
    | lst es => cases e
    | dct es => cases e; obtain ⟨a, u, rfl, hu, _, xs, rfl, r⟩ := h; exact ⟨a, xs, es, rfl, .inl hu, r, rfl⟩
end

/-! ### + -/
def rCatL (K : PySem.W.Frag) : R2 := fun x y H Q => ∃ l b xs zs, x = .ref l ∧ y = .ref b ∧ SqL K H l xs ∧ SqL K H b zs ∧ xs.length + zs.length ≤ sizeLine ∧ ∀ p, H p = none → Q (.ref p) (upd H p (.lst (xs ++ zs)))
open PyProof.Rows in
theorem op_catL {X : Cx} : OpR X (binaryOp .Add) (rCatL X.K) := by
  rintro pins s σ H _ _ v u Q I rx ry ⟨l, b, xs, zs, rfl, rfl, h1, h2, hz, q⟩
  cases rx
  cases ry
  obtain ⟨i1, r1, ⟨⟨c1, d1, t1, s1⟩, n1, g1, k1, k2, k3⟩, _⟩ := I.list h1
  obtain ⟨i2, r2, ⟨⟨c2, d2, t2, s2⟩, n2, g2, m1, m2, m3⟩, _⟩ := I.list h2
  simp only at k1 k2 k3 m1 m2 m3
  subst k1 k2 k3 m1 m2 m3
  have both : i1.toArray ++ i2.toArray = (i1 ++ i2).toArray := by simp
  have room : i1.toArray.size + i2.toArray.size ≤ sizeLine := by
    have e1 := r1.length
    have e2 := r2.length
    simp only [List.size_toArray]
    omega
  refine concat_meets ⟨_, g1, rfl⟩ ⟨_, g2, rfl⟩ noFill_list_add seq_list_add PySem.F.slot_list_add PySem.F.entry_list_add (PySem.F.args_list_add_2 _ _)
    (list_addW l b i1.toArray i2.toArray n1 n2 none none s1 s2 room) ⟨g1, g2, ?_⟩
  rw [both]
  exact ⟨.ref _, _, I.lnew (t' := s.toks) (r1.append r2) (by rw [List.length_append]; omega), rfl, q _ I.fresh⟩
def rAddAll (K : PySem.W.Frag) : R2 := fun x y H Q => ((rI0 fun i j => V.int (i + j)) x y H Q ∨ (fun x y H Q => ∃ i j, x = V.str i ∧ y = V.str j ∧ i.length + j.length ≤ sizeLine ∧ Q (.str (i ++ j)) H) x y H Q) ∨ (rCatL K x y H Q ∨ rCatA K x y H Q)
theorem op_addAll {X : Cx} : OpR X (binaryOp .Add) (rAddAll X.K) := OpR.or (OpR.or op_add op_add_str) (OpR.or op_catL op_catA)
def hAdd (a b : O) : Option O := match a.view, b.view with
  | .int i, .int j => some (.fz (.int (i + j)))
  | .str x, .str y => if x.length + y.length ≤ 16777216 then some (.fz (.str (x ++ y))) else none
  | .list x, .list y => if x.length + y.length ≤ 16777216 then some (.mu false (.lst (x ++ y))) else none
  | .tuple x, .tuple y => if x.length + y.length ≤ 16777216 then some (.fz (.tuple (x ++ y))) else none
  | _, _ => none
theorem sn_add {K : PySem.W.Frag} : Sn2 K (rAddAll K) hAdd := by
  intro S ρ F H v w a b o Q p ra rb e k
  unfold hAdd at e
  split at e
  · rename_i i j ea eb
    cases e
    exact .inl (.inl ⟨i, j, ra.int ea, rb.int eb, k _ F H p (.int _)⟩)
  · rename_i i j ea eb
    split at e
    · cases e
      rename_i hz
      exact .inl (.inr ⟨i, j, ra.str ea, rb.str eb, by rw [slen]; exact hz, k _ F H p (.str _)⟩)
    · cases e
  · rename_i i j ea eb
    split at e
    · cases e
      rename_i hz
      obtain ⟨l, xs, rfl, h1, r1⟩ := ra.lst p.hd.le ea
      obtain ⟨l2, ys, rfl, h2, r2⟩ := rb.lst p.hd.le eb
      exact .inr (.inl ⟨l, l2, xs, ys, rfl, rfl, h1, h2, by rw [slen, r1.len, r2.len]; exact hz, k.lst p (r1.app r2)⟩)
    · cases e
  · rename_i i j ea eb
    split at e
    · cases e
      rename_i hz
      obtain ⟨l, xs, rfl, h1, r1⟩ := ra.tup p.hd.le ea
      obtain ⟨l2, ys, rfl, h2, r2⟩ := rb.tup p.hd.le eb
      refine .inr (.inr ⟨l, l2, xs, ys, rfl, rfl, h1, h2, by rw [slen, r1.len, r2.len]; exact hz, fun z => ?_, fun _ z => ?_, fun _ _ => k.tup p (r1.app r2)⟩)
      · subst z
        cases r1
        have t := rb.view p.hd.le
        cases b with
        | fz d => have eb : d = .tuple j := eb; subst eb; exact k _ F H p rb
        | mu b m => cases m <;> cases eb
      · subst z
        cases r2
        cases a with
        | fz d =>
          have ea : d = .tuple i := ea
          subst ea
          exact k _ F H p (show Rp K F _ (.tuple (i ++ [])) by rw [List.append_nil]; exact ra)
        | mu b m => cases m <;> cases ea
    · cases e
  · cases e

/-! ### ints -/
def hI (c : Int → Int → Bool) (g : Int → Int → Int) (a b : O) : Option O := match a.view, b.view with
  | .int i, .int j => if c i j = true then some (.fz (.int (g i j))) else none
  | _, _ => none
theorem sn_I {K : PySem.W.Frag} {C : Int → Int → Prop} {c : Int → Int → Bool} {g : Int → Int → Int} (hc : ∀ i j, c i j = true → C i j) : Sn2 K (rI C fun i j => V.int (g i j)) (hI c g) := by
  intro S ρ F H v w a b o Q p ra rb e k
  unfold hI at e
  split at e
  · rename_i i j ea eb
    split at e
    · cases e
      rename_i h
      exact ⟨i, j, ra.int ea, rb.int eb, hc i j h, k _ F H p (.int _)⟩
    · cases e
  · cases e
theorem sn_I0 {K : PySem.W.Frag} {g : Int → Int → Int} : Sn2 K (rI0 fun i j => V.int (g i j)) (hI (fun _ _ => true) g) := by
  intro S ρ F H v w a b o Q p ra rb e k
  unfold hI at e
  split at e
  · rename_i i j ea eb
    cases e
    exact ⟨i, j, ra.int ea, rb.int eb, k _ F H p (.int _)⟩
  · cases e
def cMul (i j : Int) : Bool := decide (i.natAbs.log2 + j.natAbs.log2 < 1000000)
def cDiv (_ j : Int) : Bool := decide (0 < j ∧ j < 1073741824)
def cMod (_ j : Int) : Bool := decide (0 < j)
def cPow (i j : Int) : Bool := decide (0 ≤ j ∧ j ≤ 1000000 ∧ i.natAbs < 2 ^ 64)
theorem sn_sub {K : PySem.W.Frag} : Sn2 K (rI0 fun i j => V.int (i - j)) (hI (fun _ _ => true) fun i j => i - j) := sn_I0
theorem sn_mulI {K : PySem.W.Frag} : Sn2 K (rI CMulW fun i j => V.int (i * j)) (hI cMul fun i j => i * j) := sn_I fun i j h => by simpa [cMul, CMulW] using h
theorem sn_fdiv {K : PySem.W.Frag} : Sn2 K (rI CDiv fun i j => V.int (i / j)) (hI cDiv fun i j => i / j) := sn_I fun i j h => by simpa [cDiv, CDiv] using h
theorem sn_mod {K : PySem.W.Frag} : Sn2 K (rI (fun _ j => 0 < j) fun i j => V.int (i % j)) (hI cMod fun i j => i % j) := sn_I fun i j h => by simpa [cMod] using h
theorem sn_pow {K : PySem.W.Frag} : Sn2 K (rI CPow fun i j => V.int (i ^ j.toNat)) (hI cPow fun i j => i ^ j.toNat) := sn_I fun i j h => by simpa [cPow, CPow] using h
def hNeg (a : O) : Option O := match a.view with
  | .int i => some (.fz (.int (-i)))
  | _ => none
theorem sn_neg {K : PySem.W.Frag} : Sn1 K (rU fun i => V.int (-i)) hNeg := by
  intro S ρ F H v a o Q p ra e k
  unfold hNeg at e
  split at e
  · rename_i i ea
    cases e
    exact ⟨i, ra.int ea, k _ F H p (.int _)⟩
  · cases e

/-! ### order of ints, of texts -/
def hCmp (g : Int → Int → Bool) (t : Str → Str → Bool) (a b : O) : Option O := match a.view, b.view with
  | .int i, .int j => some (.fz (.bool (g i j)))
  | .str i, .str j => some (.fz (.bool (t i j)))
  | _, _ => none
def rCmp (g : Int → Int → Bool) (t : Str → Str → Bool) : R2 := fun x y H Q => (rI0 fun i j => V.bl (g i j)) x y H Q ∨ (∃ i j, x = V.str i ∧ y = V.str j ∧ Q (.bl (t i j)) H)
theorem sn_cmp {K : PySem.W.Frag} {g : Int → Int → Bool} {t : Str → Str → Bool} : Sn2 K (rCmp g t) (hCmp g t) := by
  intro S ρ F H v w a b o Q p ra rb e k
  unfold hCmp at e
  split at e
  · rename_i i j ea eb
    cases e
    exact .inl ⟨i, j, ra.int ea, rb.int eb, k _ F H p (.bl _)⟩
  · rename_i i j ea eb
    cases e
    exact .inr ⟨i, j, ra.str ea, rb.str eb, k _ F H p (.bl _)⟩
  · cases e
theorem op_ltA {X : Cx} : OpR X (compareOp .Lt) (rCmp (fun i j => decide (i < j)) fun i j => decide (i.cps.toList < j.cps.toList)) := OpR.or op_lt op_lt_str
theorem op_leA {X : Cx} : OpR X (compareOp .LtE) (rCmp (fun i j => decide (i ≤ j)) fun i j => !decide (j.cps.toList < i.cps.toList)) := OpR.or op_le op_le_str
theorem op_gtA {X : Cx} : OpR X (compareOp .Gt) (rCmp (fun i j => decide (j < i)) fun i j => decide (j.cps.toList < i.cps.toList)) := OpR.or op_gt op_gt_str
theorem op_geA {X : Cx} : OpR X (compareOp .GtE) (rCmp (fun i j => decide (j ≤ i)) fun i j => !decide (i.cps.toList < j.cps.toList)) := OpR.or op_ge op_ge_str

/-! ### data as the library reads it -/
mutual
def noL : PyData → Bool
  | .none | .bool _ | .int _ | .str _ => true
  | .list _ => false
  | .tuple xs => noLs xs
  | .dict kvs => noLk kvs
def noLs : List PyData → Bool
  | [] => true
  | x :: xs => noL x && noLs xs
def noLk : List (PyData × PyData) → Bool
  | [] => true
  | (_, v) :: r => noL v && noLk r
end
theorem key_reads {h : Heap} {k : Key} {u : Value} (e : keyIs k u = true) : Reads h u (kD k) [] := by
  rcases keyIs_shape e with ⟨i, t, rfl, rfl⟩ | ⟨x, t, rfl, rfl⟩
  · exact .int i t
  · exact .str x t
mutual
theorem Rp.reads {X : Cx} {pins : List (Addr × Obj)} {σ : L2.St} {H : Hp} {s : Shared} (I : Inv X pins σ H s) : ∀ {d : PyData} {v : V} {u : Value}, Rp X.K H v d → RelV v u → ∃ as, Reads s.heap u d as ∧ (noL d = true → ∀ a ∈ as, a ≠ sysModules)
  | _, _, _, .non, r => by cases r; exact ⟨_, .none, by simp⟩
  | _, _, _, .bl b, r => by cases r; exact ⟨_, .bool b, by simp⟩
  | _, _, _, .int i, r => by obtain ⟨t, rfl⟩ := r; exact ⟨_, .int i t, by simp⟩
  | _, _, _, .str i, r => by obtain ⟨t, rfl⟩ := r; exact ⟨_, .str i t, by simp⟩
  | _, _, _, .lst h1 h2, r => by
    cases r
    obtain ⟨its, rv, ⟨o, n, ho, hc, _, hd⟩, _⟩ := I.list h1
    obtain ⟨as, ha, hn⟩ := RpA.reads I h2 rv
    exact ⟨_, .list ho hc hd (by simpa using ha), fun z => by simp [noL] at z⟩
  | _, _, _, .tup h1 h2, r => by
    cases r
    obtain ⟨its, rv, ⟨o, ho, hc, n, hd⟩, _⟩ := I.tuple h1
    obtain ⟨as, ha, hn⟩ := RpA.reads I h2 rv
    exact ⟨_, .tuple ho hc hd (by simpa using ha), fun z => hn (by simpa [noL] using z)⟩
  | _, _, _, @Rp.dct _ _ a kvs es ds h1 h2 h3, r => by
    subst h3
    cases r
    obtain ⟨_, hs, vs, rel, o, en, ep, ho, hx, hd, _, pr, _⟩ := dk_rd I.hok h1
    obtain ⟨⟨as, ha, hn⟩, bs, hb, hm⟩ := RpK.reads I h2 rel pr
    have e1 : (es.map fun p => (kD p.1, p.2)).map (·.1) = es.map fun p => kD p.1 := by rw [List.map_map]; rfl
    have e2 : (es.map fun p => (kD p.1, p.2)).map (·.2) = es.map (·.2) := by rw [List.map_map]; rfl
    refine ⟨_, .dict ho hx.1 hd (by rw [e1]; exact ha) (by rw [e2]; exact hb), fun z c hc => ?_⟩
    rcases List.mem_append.mp hc with hc | hc
    · rcases List.mem_cons.mp hc with rfl | hc
      · exact fun q => by rw [q] at hs; simp at hs
      · exact (hn c hc).elim
    · exact hm (by simpa [noL] using z) c hc
theorem RpA.reads {X : Cx} {pins : List (Addr × Obj)} {σ : L2.St} {H : Hp} {s : Shared} (I : Inv X pins σ H s) : ∀ {d : List PyData} {v : List V} {u : List Value}, RpA X.K H v d → Vals v u → ∃ as, ReadsAll s.heap u d as ∧ (noLs d = true → ∀ a ∈ as, a ≠ sysModules)
  | _, _, _, .nil, r => by cases r; exact ⟨_, .nil, by simp⟩
  | _, _, _, .cons h t, r => by
    cases r with
    | cons r1 r2 =>
      obtain ⟨as, ha, hn⟩ := Rp.reads I h r1
      obtain ⟨bs, hb, hm⟩ := RpA.reads I t r2
      refine ⟨_, .cons ha hb, fun z a h => ?_⟩
      rw [noLs, Bool.and_eq_true] at z
      exact (List.mem_append.mp h).elim (hn z.1 a) (hm z.2 a)
theorem RpK.reads {X : Cx} {pins : List (Addr × Obj)} {σ : L2.St} {H : Hp} {s : Shared} (I : Inv X pins σ H s) : ∀ {d : List (Key × PyData)} {v : List (Key × V)} {u : List (Key × Value)} {en : List DictEntry}, RpK X.K H v d → KV v u → PySem.Pairs (mixKind X.prog X.w) en u →
    (∃ as, ReadsAll s.heap (en.map (·.key)) (d.map fun p => kD p.1) as ∧ ∀ a ∈ as, False) ∧ ∃ bs, ReadsAll s.heap (en.map (·.val)) (d.map (·.2)) bs ∧ (noLk (d.map fun p => (kD p.1, p.2)) = true → ∀ a ∈ bs, a ≠ sysModules)
  | _, _, _, _, .nil, r, q => by cases r; cases q; exact ⟨⟨_, .nil, by simp⟩, _, .nil, by simp⟩
  | _, _, _, _, .cons h t, r, q => by
    cases r with
    | cons r1 r2 =>
      cases q with
      | cons q1 q2 q3 =>
        obtain ⟨e1, e2⟩ := r1
        obtain ⟨as, ha, hn⟩ := Rp.reads I h e2
        rw [← q2] at ha
        obtain ⟨⟨cs, hc, hk⟩, bs, hb, hm⟩ := RpK.reads I t r2 q3
        have q1' : keyIs _ _ = true := q1
        rw [← show _ = _ from e1] at q1'
        refine ⟨⟨_, .cons (key_reads q1') hc, fun a h => ?_⟩, _, .cons ha hb, fun z a h => ?_⟩
        · rcases List.mem_append.mp h with h | h
          · cases h
          · exact hk a h
        · rw [List.map_cons, noLk, Bool.and_eq_true] at z
          exact (List.mem_append.mp h).elim (hn z.1 a) (hm z.2 a)
end

/-! ### repr -/
def hRepr : List O → Option O
  | [a] => if (PyData.showable a.view && (!PyData.hasDict a.view || noL a.view)) = true ∧ PyData.depth a.view ≤ 150 ∧ (PyData.shown a.view).length ≤ 16777216 then some (.fz (.str (PyData.shown a.view))) else none
  | _ => none
def rRepr (K : PySem.W.Frag) : List V → Hp → VK → Prop := fun xs H Q => ∃ x d, xs = [x] ∧ Rp K H x d ∧ PyData.showable d = true ∧ (PyData.hasDict d = true → noL d = true) ∧ PyData.depth d ≤ 150 ∧ (PyData.shown d).length ≤ sizeLine ∧ Q (.str (PyData.shown d)) H
theorem call_repr {X : Cx} (hg : X.A.guards = some []) (hu : X.A.units + 200 < cLine) : CallR X (.builtin "repr") (rRepr X.K) := by
  rintro pins s σ H _ us Q I r ⟨x, d, rfl, hx, h1, h2, h3, h4, q⟩
  obtain ⟨u, rfl, ru⟩ := vals1 r
  obtain ⟨as, rd, hs⟩ := Rp.reads I hx ru
  cases hx with
  | non =>
    cases ru
    simp only [PyData.shown] at q
    exact PySem.P.repr_of_none ⟨.str _, H, I.tok _, ⟨_, rfl⟩, q⟩
  | bl b =>
    cases ru
    simp only [PyData.shown] at q
    exact PySem.P.repr_of_bool ⟨.str _, H, I.tok _, ⟨_, rfl⟩, q⟩
  | int i =>
    obtain ⟨t, rfl⟩ := ru
    simp only [PyData.shown] at q
    exact PySem.P.repr_of_int (by simpa [PyData.showable] using h1) ⟨.str _, H, I.tok _, ⟨_, rfl⟩, q⟩
  | str i =>
    obtain ⟨t, rfl⟩ := ru
    simp only [PyData.shown] at q h4
    exact PySem.P.repr_of_str ⟨.str _, H, I.tok _, ⟨_, rfl⟩, q⟩ h4
  | lst _ _ =>
    cases ru
    exact repr_of_reads' rd h1 (fun z hm => hs (h2 z) _ hm rfl) hg (by omega) (fun _ _ e => e) (fun h' t tk k => ⟨.str _, H, I.kept k, ⟨_, rfl⟩, q⟩) h4
  | tup _ _ =>
    cases ru
    exact repr_of_reads' rd h1 (fun z hm => hs (h2 z) _ hm rfl) hg (by omega) (fun _ _ e => e) (fun h' t tk k => ⟨.str _, H, I.kept k, ⟨_, rfl⟩, q⟩) h4
  | dct _ _ _ =>
    cases ru
    exact repr_of_reads' rd h1 (fun z hm => hs (h2 z) _ hm rfl) hg (by omega) (fun _ _ e => e) (fun h' t tk k => ⟨.str _, H, I.kept k, ⟨_, rfl⟩, q⟩) h4
theorem one_slot {K : PySem.W.Frag} {F H : Hp} {vs : List V} {a : O} (h : Paired (SlotR K F H) vs [a]) : ∃ v, vs = [v] ∧ SlotR K F H v a := by
  cases h with
  | cons h t => cases t; exact ⟨_, rfl, h⟩
theorem two_slot {K : PySem.W.Frag} {F H : Hp} {vs : List V} {a b : O} (h : Paired (SlotR K F H) vs [a, b]) : ∃ v w, vs = [v, w] ∧ SlotR K F H v a ∧ SlotR K F H w b := by
  cases h with
  | cons h t => cases t with
    | cons h2 t => cases t; exact ⟨_, _, rfl, h, h2⟩
theorem sn_repr {K : PySem.W.Frag} : SnN K (rRepr K) hRepr := by
  intro S ρ F H vs os o Q p r e k
  unfold hRepr at e
  split at e
  · split at e
    · rename_i a h
      cases e
      obtain ⟨v, rfl, ra⟩ := one_slot r
      obtain ⟨h1, h2, h3⟩ := h
      rw [Bool.and_eq_true, Bool.or_eq_true] at h1
      refine ⟨v, _, rfl, ra.view p.hd.le, h1.1, fun z => ?_, h2, by rw [slen]; exact h3, k _ F H p (.str _)⟩
      rcases h1.2 with q | q
      · rw [z] at q; cases q
      · exact q
    · cases e
  · cases e
end Vs

/-! Vs, more operations: ==, in, subscripts, slices, built-ins. -/
namespace Vs
open PySem PySem.Spec L2

/-! ### == and in -/
def flatD : PyData → Bool
  | .none | .bool _ | .int _ | .str _ => true
  | _ => false
theorem flat_V {K : PySem.W.Frag} {F : Hp} {v : V} {d : PyData} (h : Rp K F v d) (f : flatD d = true) : flatV v = true := by
  cases h <;> first | rfl | (exact absurd f Bool.false_ne_true)
theorem eqv_flat {K : PySem.W.Frag} {F G : Hp} {v w : V} {d e : PyData} (h : Rp K F v d) (k : Rp K G w e) (f : flatD d = true) (g : flatD e = true) : eqV v w = PyData.eqv d e := by
  cases h <;> first | (exact absurd f Bool.false_ne_true) | (cases k <;> first | (exact absurd g Bool.false_ne_true) | simp [eqV, PyData.eqv])
def deepD (d : PyData) : Bool := d.canLay0 && decide (d.depth ≤ 150)
def hEq (a b : O) : Option O := if (flatD a.view && flatD b.view || deepD a.view && deepD b.view) = true then some (.fz (.bool (PyData.eqv a.view b.view))) else none
def hNe (a b : O) : Option O := if (flatD a.view && flatD b.view || deepD a.view && deepD b.view) = true then some (.fz (.bool (!PyData.eqv a.view b.view))) else none
def rEqP (K : PySem.W.Frag) : R2 := fun x y H Q => ∃ d e, Rp K H x d ∧ Rp K H y e ∧ (flatD d && flatD e || deepD d && deepD e) = true ∧ Q (.bl (PyData.eqv d e)) H
def rNeP (K : PySem.W.Frag) : R2 := fun x y H Q => ∃ d e, Rp K H x d ∧ Rp K H y e ∧ (flatD d && flatD e || deepD d && deepD e) = true ∧ Q (.bl (!PyData.eqv d e)) H
theorem deep_lay {d : PyData} (h : deepD d = true) : d.canLay0 = true ∧ d.depth ≤ 150 := by
  unfold deepD at h
  rw [Bool.and_eq_true] at h
  exact ⟨h.1, of_decide_eq_true h.2⟩
theorem flat_lay {d : PyData} (h : flatD d = true) : d.depth ≤ 150 := by
  cases d <;> first | (exact absurd h Bool.false_ne_true) | simp [PyData.depth]
theorem scal_flat {K : PySem.W.Frag} {F G : Hp} {v w : V} {d e : PyData} (h : Rp K F v d) (k : Rp K G w e) (f : flatD d = true) (g : flatD e = true) (s : scal v w = true) : decide (v = w) = PyData.eqv d e := by
  cases h <;> first | (exact absurd f Bool.false_ne_true) | (cases k <;> first | (exact absurd g Bool.false_ne_true) | (exact absurd s Bool.false_ne_true) | (simp only [PyData.eqv, dec_int, dec_bl, dec_str]; done) | (simp [PyData.eqv]; done))
theorem noscal_lay {K : PySem.W.Frag} {F G : Hp} {v w : V} {d e : PyData} (h : Rp K F v d) (k : Rp K G w e) (f : flatD d = true) (g : flatD e = true) (s : ¬ scal v w = true) : d.canLay0 = true ∧ e.canLay0 = true := by
  cases h <;> first | (exact absurd f Bool.false_ne_true) | (cases k <;> first | (exact absurd g Bool.false_ne_true) | (exact absurd rfl s) | (simp [PyData.canLay0]))
theorem op_eqP {X : Cx} (hu : X.A.units + 200 < cLine) : OpR X (compareOp .Eq) (rEqP X.K) := by
  rintro pins s σ H x y v u Q I rx ry ⟨d, e, h, k, c, q⟩
  obtain ⟨as, r1, _⟩ := Rp.reads I h rx
  obtain ⟨bs, r2, _⟩ := Rp.reads I k ry
  rw [Bool.or_eq_true, Bool.and_eq_true, Bool.and_eq_true] at c
  rcases c with ⟨f, g⟩ | ⟨f, g⟩
  · by_cases sc : scal x y = true
    · exact op_eq pins s σ H x y v u Q I rx ry ⟨sc, by rw [scal_flat h k f g sc]; exact q⟩
    · obtain ⟨l1, l3⟩ := noscal_lay h k f g sc
      have l2 := flat_lay f
      exact SeqAt.compareEq_reads r1 r2 l1 l3 (by omega) ⟨.bl _, H, I, rfl, q⟩
  · obtain ⟨l1, l2⟩ := deep_lay f
    obtain ⟨l3, l4⟩ := deep_lay g
    exact SeqAt.compareEq_reads r1 r2 l1 l3 (by omega) ⟨.bl _, H, I, rfl, q⟩
theorem op_neP {X : Cx} (hu : X.A.units + 200 < cLine) : OpR X (compareOp .NotEq) (rNeP X.K) := by
  rintro pins s σ H x y v u Q I rx ry ⟨d, e, h, k, c, q⟩
  obtain ⟨as, r1, _⟩ := Rp.reads I h rx
  obtain ⟨bs, r2, _⟩ := Rp.reads I k ry
  rw [Bool.or_eq_true, Bool.and_eq_true, Bool.and_eq_true] at c
  rcases c with ⟨f, g⟩ | ⟨f, g⟩
  · by_cases sc : scal x y = true
    · exact op_ne pins s σ H x y v u Q I rx ry ⟨sc, by rw [scal_flat h k f g sc]; exact q⟩
    · obtain ⟨l1, l3⟩ := noscal_lay h k f g sc
      have l2 := flat_lay f
      exact SeqAt.compareNe_reads r1 r2 l1 l3 (by omega) ⟨.bl _, H, I, rfl, q⟩
  · obtain ⟨l1, l2⟩ := deep_lay f
    obtain ⟨l3, l4⟩ := deep_lay g
    exact SeqAt.compareNe_reads r1 r2 l1 l3 (by omega) ⟨.bl _, H, I, rfl, q⟩
section
variable {K : PySem.W.Frag}
theorem sn_eq : Sn2 K (rEqP K) hEq := by
  intro S ρ F H v w a b o Q p ra rb e k
  unfold hEq at e
  split at e
  · rename_i h
    cases e
    exact ⟨_, _, ra.view p.hd.le, rb.view p.hd.le, h, k _ F H p (.bl _)⟩
  · cases e
theorem sn_ne : Sn2 K (rNeP K) hNe := by
  intro S ρ F H v w a b o Q p ra rb e k
  unfold hNe at e
  split at e
  · rename_i h
    cases e
    exact ⟨_, _, ra.view p.hd.le, rb.view p.hd.le, h, k _ F H p (.bl _)⟩
  · cases e
end

/-! ### in -/
def memD (d : PyData) (es : List PyData) : Bool := es.any fun e => PyData.eqv e d
def deepL (es : List PyData) : Bool := PyData.canLayAll0 es && decide (PyData.depthAll es ≤ 150)
def hasK (d : PyData) (es : List (PyData × PyData)) : Option Bool := match d with
  | .int i => some (es.any fun p => match p.1 with | .int j => i == j | _ => false)
  | .str i => some (es.any fun p => match p.1 with | .str j => i == j | _ => false)
  | _ => none
def inD (a b : PyData) : Option Bool := match b with
  | .list es => if (flatD a && es.all flatD || deepD a && deepL es) = true then some (memD a es) else none
  | .tuple es => if (flatD a && es.all flatD || deepD a && deepL es) = true then some (memD a es) else none
  | .dict es => hasK a es
  | .str z => (match a with | .str x => some (!(Builtin.Str.occurrences z x 0 z.length 1).isEmpty) | _ => none)
  | _ => none
def hIn (neg : Bool) (a b : O) : Option O := (inD a.view b.view).map fun k => .fz (.bool (if neg then !k else k))
def rInP (K : PySem.W.Frag) (neg : Bool) : R2 := fun x y H Q => ∃ d e k, Rp K H x d ∧ Rp K H y e ∧ inD d e = some k ∧ Q (.bl (if neg then !k else k)) H
theorem flat_any {K : PySem.W.Frag} {H : Hp} {x : V} {d : PyData} (h : Rp K H x d) (f : flatD d = true) : ∀ {xs : List V} {es : List PyData}, RpA K H xs es → es.all flatD = true → inV x xs = memD d es ∧ xs.all flatV = true
  | _, _, .nil, _ => ⟨rfl, rfl⟩
  | _, _, .cons r t, g => by
    rw [List.all_cons, Bool.and_eq_true] at g
    obtain ⟨h1, h2⟩ := flat_any h f t g.2
    refine ⟨?_, by rw [List.all_cons, Bool.and_eq_true]; exact ⟨flat_V r g.1, h2⟩⟩
    show (eqV _ x || inV x _) = (PyData.eqv _ d || memD d _)
    rw [h1, eqv_flat r h g.1 f]
theorem valV_kd {K : PySem.W.Frag} {H : Hp} {q : Key} : ∀ {kvs : List (Key × V)} {es : List (Key × PyData)}, RpK K H kvs es → hasK (kD q) (es.map fun p => (kD p.1, p.2)) = some (valV kvs q).isSome
  | _, _, .nil => by cases q <;> rfl
  | _, _, @RpK.cons _ _ k v vs d ds r t => by
    have ih := valV_kd (q := q) t
    cases q with
    | inl i =>
      have ih : some ((ds.map fun p => (kD p.1, p.2)).any fun p => match p.1 with | .int j => i == j | _ => false) = some (valV vs (Sum.inl i)).isSome := ih
      show some ((((k, d) :: ds).map fun p => (kD p.1, p.2)).any fun p => match p.1 with | .int j => i == j | _ => false) = some (valV ((k, v) :: vs) (Sum.inl i)).isSome
      rw [List.map_cons, List.any_cons, Option.some.inj ih]
      unfold valV
      rw [List.find?_cons]
      cases k with
      | inl j =>
        by_cases hj : j = i
        · subst hj; simp [kD]
        · have : ¬ (Sum.inl j : Key) = Sum.inl i := fun z => hj (Sum.inl.inj z)
          simp [kD, this, Ne.symm hj]
      | inr j => simp [kD]
    | inr i =>
      have ih : some ((ds.map fun p => (kD p.1, p.2)).any fun p => match p.1 with | .str j => i == j | _ => false) = some (valV vs (Sum.inr i)).isSome := ih
      show some ((((k, d) :: ds).map fun p => (kD p.1, p.2)).any fun p => match p.1 with | .str j => i == j | _ => false) = some (valV ((k, v) :: vs) (Sum.inr i)).isSome
      rw [List.map_cons, List.any_cons, Option.some.inj ih]
      unfold valV
      rw [List.find?_cons]
      cases k with
      | inr j =>
        by_cases hj : j = i
        · subst hj; simp [kD]
        · have : ¬ (Sum.inr j : Key) = Sum.inr i := fun z => hj (Sum.inr.inj z)
          simp [kD, this, Ne.symm hj]
      | inl j => simp [kD]
theorem key_of {K : PySem.W.Frag} {H : Hp} {x : V} {d : PyData} {es : List (PyData × PyData)} {k : Bool} (h : Rp K H x d) (e : hasK d es = some k) : ∃ q, x = kV q ∧ d = kD q := by
  cases h with
  | int i => exact ⟨.inl i, rfl, rfl⟩
  | str i => exact ⟨.inr i, rfl, rfl⟩
  | _ => cases e
theorem lay_of {a : PyData} {es : List PyData} (h : deepD a = true) (k : deepL es = true) : a.canLay0 = true ∧ PyData.canLayAll0 es = true ∧ min (PyData.depthAll es) a.depth ≤ 150 := by
  obtain ⟨l1, l2⟩ := deep_lay h
  unfold deepL at k
  rw [Bool.and_eq_true] at k
  exact ⟨l1, k.1, Nat.le_trans (Nat.min_le_right _ _) l2⟩
theorem op_inP {X : Cx} (hu : X.A.units + 200 < cLine) : OpR X (compareOp .In) (rInP X.K false) := by
  rintro pins s σ H x y v u Q I rx ry ⟨d, e, k, h, r, c, q⟩
  have q : Q (.bl k) H := q
  cases r with
  | @lst a xs es h1 h2 =>
    have c : (if (flatD d && es.all flatD || deepD d && deepL es) = true then some (memD d es) else none) = some k := c
    split at c
    · rename_i cc
      cases c
      rw [Bool.or_eq_true, Bool.and_eq_true, Bool.and_eq_true] at cc
      rcases cc with ⟨f, g⟩ | ⟨f, g⟩
      · obtain ⟨e1, e2⟩ := flat_any h f h2 g
        exact op_in_seq pins s σ H x _ v u Q I rx ry ⟨a, xs, rfl, .inl h1, flat_V h f, e2, by rw [← e1] at q; exact q⟩
      · obtain ⟨as, r1, _⟩ := Rp.reads I h rx
        obtain ⟨bs, r2, _⟩ := Rp.reads I (.lst h1 h2) ry
        obtain ⟨l1, l2, l3⟩ := lay_of f g
        exact SeqAt.in_list_reads r2 r1 l2 l1 (by omega) ⟨.bl _, H, I, rfl, q⟩
    · cases c
  | @tup a xs es h1 h2 =>
    have c : (if (flatD d && es.all flatD || deepD d && deepL es) = true then some (memD d es) else none) = some k := c
    split at c
    · rename_i cc
      cases c
      rw [Bool.or_eq_true, Bool.and_eq_true, Bool.and_eq_true] at cc
      rcases cc with ⟨f, g⟩ | ⟨f, g⟩
      · obtain ⟨e1, e2⟩ := flat_any h f h2 g
        exact op_in_seq pins s σ H x _ v u Q I rx ry ⟨a, xs, rfl, .inr h1, flat_V h f, e2, by rw [← e1] at q; exact q⟩
      · obtain ⟨as, r1, _⟩ := Rp.reads I h rx
        obtain ⟨bs, r2, _⟩ := Rp.reads I (.tup h1 h2) ry
        obtain ⟨l1, l2, l3⟩ := lay_of f g
        exact SeqAt.in_tuple_reads r2 r1 l2 l1 (by omega) ⟨.bl _, H, I, rfl, q⟩
    · cases c
  | @dct a kvs es ds h1 h2 h3 =>
    obtain ⟨w, rfl, rfl⟩ := key_of h c
    subst h3
    have c2 := (valV_kd (q := w) h2).symm.trans c
    cases ry
    have g : DGet H a (kV w) (valV kvs w) := .inl ⟨kvs, w, h1, rfl, rfl⟩
    exact d_in (by omega) I g rx fun s' I' => ⟨.bl _, H, I', rfl, by rw [Option.some.inj c2]; exact q⟩
  | str z =>
    cases h with
    | str i =>
      cases c
      exact op_in_str pins s σ H _ _ v u Q I rx ry ⟨i, z, rfl, rfl, q⟩
    | _ => cases c
  | _ => cases c
theorem op_notInP {X : Cx} (hu : X.A.units + 200 < cLine) : OpR X (compareOp .NotIn) (rInP X.K true) := by
  rintro pins s σ H x y v u Q I rx ry ⟨d, e, k, h, r, c, q⟩
  have q : Q (.bl (!k)) H := q
  cases r with
  | @lst a xs es h1 h2 =>
    have c : (if (flatD d && es.all flatD || deepD d && deepL es) = true then some (memD d es) else none) = some k := c
    split at c
    · rename_i cc
      cases c
      rw [Bool.or_eq_true, Bool.and_eq_true, Bool.and_eq_true] at cc
      rcases cc with ⟨f, g⟩ | ⟨f, g⟩
      · obtain ⟨e1, e2⟩ := flat_any h f h2 g
        exact op_notIn_seq pins s σ H x _ v u Q I rx ry ⟨a, xs, rfl, .inl h1, flat_V h f, e2, by rw [← e1] at q; exact q⟩
      · obtain ⟨as, r1, _⟩ := Rp.reads I h rx
        obtain ⟨bs, r2, _⟩ := Rp.reads I (.lst h1 h2) ry
        obtain ⟨l1, l2, l3⟩ := lay_of f g
        exact SeqAt.notIn_list_reads r2 r1 l2 l1 (by omega) ⟨.bl _, H, I, rfl, q⟩
    · cases c
  | @tup a xs es h1 h2 =>
    have c : (if (flatD d && es.all flatD || deepD d && deepL es) = true then some (memD d es) else none) = some k := c
    split at c
    · rename_i cc
      cases c
      rw [Bool.or_eq_true, Bool.and_eq_true, Bool.and_eq_true] at cc
      rcases cc with ⟨f, g⟩ | ⟨f, g⟩
      · obtain ⟨e1, e2⟩ := flat_any h f h2 g
        exact op_notIn_seq pins s σ H x _ v u Q I rx ry ⟨a, xs, rfl, .inr h1, flat_V h f, e2, by rw [← e1] at q; exact q⟩
      · obtain ⟨as, r1, _⟩ := Rp.reads I h rx
        obtain ⟨bs, r2, _⟩ := Rp.reads I (.tup h1 h2) ry
        obtain ⟨l1, l2, l3⟩ := lay_of f g
        exact SeqAt.notIn_tuple_reads r2 r1 l2 l1 (by omega) ⟨.bl _, H, I, rfl, q⟩
    · cases c
  | @dct a kvs es ds h1 h2 h3 =>
    obtain ⟨w, rfl, rfl⟩ := key_of h c
    subst h3
    have c2 := (valV_kd (q := w) h2).symm.trans c
    cases ry
    have g : DGet H a (kV w) (valV kvs w) := .inl ⟨kvs, w, h1, rfl, rfl⟩
    exact d_notIn (by omega) I g rx fun s' I' => ⟨.bl _, H, I', rfl, by rw [Option.some.inj c2]; exact q⟩
  | str z =>
    cases h with
    | str i =>
      cases c
      exact op_notin_str pins s σ H _ _ v u Q I rx ry ⟨i, z, rfl, rfl, q⟩
    | _ => cases c
  | _ => cases c
theorem sn_in {K : PySem.W.Frag} {neg : Bool} : Sn2 K (rInP K neg) (hIn neg) := by
  intro S ρ F H v w a b o Q p ra rb e k
  unfold hIn at e
  obtain ⟨c, e1, rfl⟩ := Option.map_eq_some_iff.mp e
  exact ⟨_, _, c, ra.view p.hd.le, rb.view p.hd.le, e1, k _ F H p (.bl _)⟩
end Vs

/-! Vs, subscripts, slices, built-ins. -/
namespace Vs
open PySem PySem.Spec L2

/-! ### subscripts -/
def getK : PyData → List (PyData × PyData) → Option PyData
  | .int i, es => (es.find? fun p => match p.1 with | .int j => i == j | _ => false).map (·.2)
  | .str i, es => (es.find? fun p => match p.1 with | .str j => i == j | _ => false).map (·.2)
  | _, _ => none
def ixD (a k : PyData) : Option PyData := match a, k with
  | .list ds, .int i => atI ds i
  | .tuple ds, .int i => atI ds i
  | .str z, .int i => if z.length ≤ 16777216 then (atI z.cps.toList i).map fun c => .str ⟨#[c]⟩ else none
  | .dict es, k => getK k es
  | _, _ => none
def hIx (a b : O) : Option O := (ixD a.view b.view).map .fz
theorem valV_get {K : PySem.W.Frag} {H : Hp} {q : Key} {d : PyData} : ∀ {kvs : List (Key × V)} {es : List (Key × PyData)}, RpK K H kvs es → getK (kD q) (es.map fun p => (kD p.1, p.2)) = some d → ∃ v, valV kvs q = some v ∧ Rp K H v d
  | _, _, .nil, e => by cases q <;> cases e
  | _, _, @RpK.cons _ _ k v vs d' ds r t, e => by
    have ih := fun e => valV_get (q := q) (d := d) t e
    unfold valV
    rw [List.find?_cons]
    cases q with
    | inl i =>
      cases k with
      | inl j =>
        by_cases hj : j = i
        · subst hj
          have e : some d' = some d := by simpa [getK, kD] using e
          cases e
          exact ⟨v, by simp, r⟩
        · have h1 : ¬ (Sum.inl j : Key) = Sum.inl i := fun z => hj (Sum.inl.inj z)
          have h2 : (i == j) = false := by simpa using Ne.symm hj
          have e : getK (kD (Sum.inl i)) (ds.map fun p => (kD p.1, p.2)) = some d := by
            simp only [getK, kD, List.map_cons, List.find?_cons, h2] at e
            exact e
          simpa [h1, valV] using ih e
      | inr j =>
        have e : getK (kD (Sum.inl i)) (ds.map fun p => (kD p.1, p.2)) = some d := by
          simp only [getK, kD, List.map_cons, List.find?_cons] at e
          exact e
        simpa [valV] using ih e
    | inr i =>
      cases k with
      | inr j =>
        by_cases hj : j = i
        · subst hj
          have e : some d' = some d := by simpa [getK, kD] using e
          cases e
          exact ⟨v, by simp, r⟩
        · have h1 : ¬ (Sum.inr j : Key) = Sum.inr i := fun z => hj (Sum.inr.inj z)
          have h2 : (i == j) = false := by simpa using Ne.symm hj
          have e : getK (kD (Sum.inr i)) (ds.map fun p => (kD p.1, p.2)) = some d := by
            simp only [getK, kD, List.map_cons, List.find?_cons, h2] at e
            exact e
          simpa [h1, valV] using ih e
      | inl j =>
        have e : getK (kD (Sum.inr i)) (ds.map fun p => (kD p.1, p.2)) = some d := by
          simp only [getK, kD, List.map_cons, List.find?_cons] at e
          exact e
        simpa [valV] using ih e
theorem get_key {K : PySem.W.Frag} {H : Hp} {x : V} {d e : PyData} {es : List (PyData × PyData)} (h : Rp K H x d) (c : getK d es = some e) : ∃ q, x = kV q ∧ d = kD q := by
  cases h with
  | int i => exact ⟨.inl i, rfl, rfl⟩
  | str i => exact ⟨.inr i, rfl, rfl⟩
  | _ => cases c
def rIxD : R2 := fun x y H Q => ∃ a v, x = .ref a ∧ (∃ kvs w, Rd H a (.dK kvs) ∧ y = kV w ∧ valV kvs w = some v) ∧ Q v H
open PyProof.Rows in
theorem ix_dct {X : Cx} (hu : X.A.units + 200 < cLine) : IxR X rIxD := by
  rintro value slice pins s σ H _ y v u Q I rx ry ⟨a, z, rfl, ⟨kvs, w, h1, rfl, h2⟩, q⟩ hs
  cases rx
  have g : DGet H a (kV w) (some z) := .inl ⟨kvs, w, h1, rfl, h2.symm⟩
  exact tail_any (dict_typeIs I g) PySem.F.slot_dict_getitem.lookup (d_getItem (by omega) I g ry fun w' s' I' r => ⟨z, H, I', r, q⟩) hs
def rIxA (K : PySem.W.Frag) : R2 := fun x y H Q => rIx K x y H Q ∨ rIxD x y H Q
theorem ix_all {X : Cx} (hu : X.A.units + 200 < cLine) : IxR X (rIxA X.K) := IxR.or ix_seq (ix_dct hu)
theorem atI_rp {K : PySem.W.Frag} {F : Hp} {xs : List V} {ds : List PyData} {i : Int} {d : PyData} (r : RpA K F xs ds) (e : atI ds i = some d) : ∃ v, atI xs i = some v ∧ Rp K F v d := by
  unfold atI at e ⊢
  rw [r.len]
  cases h : ixN ds.length i with
  | none => rw [h] at e; cases e
  | some j =>
    rw [h] at e
    exact r.get (show ds[j]? = some d from e)
theorem sn_ix {K : PySem.W.Frag} : Sn2 K (rIxA K) hIx := by
  intro S ρ F H v w a b o Q p ra rb e k
  unfold hIx at e
  obtain ⟨d, e', rfl⟩ := Option.map_eq_some_iff.mp e
  clear e
  have e := e'
  clear e'
  unfold ixD at e
  split at e
  · rename_i ds i ea eb
    obtain ⟨l, xs, rfl, h1, r1⟩ := ra.lst p.hd.le ea
    obtain ⟨z, hz, rz⟩ := atI_rp r1 e
    exact .inl (.inl ⟨l, xs, i, z, rfl, rb.int eb, h1, hz, k _ F H p rz⟩)
  · rename_i ds i ea eb
    obtain ⟨l, xs, rfl, h1, r1⟩ := ra.tup p.hd.le ea
    obtain ⟨z, hz, rz⟩ := atI_rp r1 e
    exact .inl (.inr (.inl ⟨l, xs, i, z, rfl, rb.int eb, h1, hz, k _ F H p rz⟩))
  · rename_i z i ea eb
    split at e
    · rename_i hz
      obtain ⟨c, hc, rfl⟩ := Option.map_eq_some_iff.mp e
      exact .inl (.inr (.inr ⟨z, i, c, ra.str ea, rb.int eb, by rw [slen]; exact hz, hc, k _ F H p (.str _)⟩))
    · cases e
  · rename_i es ky ea
    obtain ⟨l, kvs, fs, rfl, h1, r1, rfl⟩ := ra.dct p.hd.le ea
    obtain ⟨q, rfl, eq⟩ := get_key (rb.view p.hd.le) e
    rw [eq] at e
    obtain ⟨z, hz, rz⟩ := valV_get r1 e
    exact .inr ⟨l, z, rfl, ⟨kvs, q, h1, rfl, hz⟩, k _ F H p rz⟩
  · cases e

/-! ### slices -/
def cutL {α : Type} (xs : List α) (lo hi : Option Int) : List α := (xs.drop (HT.sIx xs.length 0 lo)).take (HT.sIx xs.length xs.length hi - HT.sIx xs.length 0 lo)
theorem cut_rp {K : PySem.W.Frag} {F : Hp} {xs : List V} {ds : List PyData} (r : RpA K F xs ds) (lo hi : Option Int) : RpA K F (cutV xs lo hi) (cutL ds lo hi) := by
  unfold cutV cutL
  rw [r.len]
  exact (r.drop _).take _
def hSl (a : O) (lo hi : Option Int) : Option O := match a.view with
  | .list ds => some (.mu false (.lst (cutL ds lo hi)))
  | .tuple ds => some (.fz (.tuple (cutL ds lo hi)))
  | .str z => if z.length ≤ 16777216 then some (.fz (.str (cutS z lo hi))) else none
  | _ => none
def PR (_ : PySem.W.Frag) (_ : Sta) (_ : L2.St) (_ : Rho) (_ _ : Hp) (v : Option Int) (d : Option Int) : Prop := v = d
abbrev EvP (X : Cx) (W : WX) (e : Option Expr) (f : M (Option Int)) : Prop := PO X e (tG X.K W (PR X.K) f)
def asInt (x : Rf) : M (Option Int) := fun ρ => match rdO ρ x with
  | some a => (match a.view with | .int i => some (.ok (some i) ρ) | _ => none)
  | none => none
section
variable {X : Cx} {W : WX} {e : Expr} {f : M Rf} {g h : M (Option Int)} {lo hi : Option Expr} {pos p2 : Pos}
theorem evP_none : EvP X W none (M.ret none) := ⟨fun pins s σ H Q I ⟨ρ, F, p, o, e, q⟩ => by
  cases e
  exact po_none.run pins s σ H Q I (q none F H p rfl)⟩
theorem evP_some (he : EvO X W e f) : EvP X W (some e) (f.bind asInt) := ⟨fun pins s σ H Q I ⟨ρ, F, r⟩ => by
  refine (po_some he).run pins s σ H Q I ⟨ρ, F, r.bind.mono fun v H1 ⟨x, ρ1, F1, rx, p, p1, o, e, q⟩ => ?_⟩
  unfold asInt at e
  split at e
  · rename_i a ea
    split at e
    · rename_i i hi
      cases e
      exact ⟨i, (slot_of p1.hd rx ea).int hi, q (some i) F1 H1 p1 rfl⟩
    · cases e
  · cases e⟩
def rSlAll (K : PySem.W.Frag) : V → Option Int → Option Int → Hp → VK → Prop := fun x lo hi H Q => rSlL K x lo hi H Q ∨ ((fun x lo hi H Q => rSlA K x lo hi H Q ∨ rSlS x lo hi H Q) x lo hi H Q)
theorem ev_slice (he : EvO X W e f) (hl : EvP X W lo g) (hu : EvP X W hi h) : EvO X W (.Subscript e (.Slice lo hi none p2) pos) (f.bind fun x => g.bind fun l => h.bind fun u => dr1 (fun a => hSl a l u) x) :=
  peI (pe_slice (r := rSlAll X.K) (SlR.or sl_list (SlR.or sl_tupA sl_str)) he hl hu) fun σ H Q ⟨ρ, F, r⟩ =>
    ⟨ρ, F, r.bind.mono fun v H1 ⟨x, ρ1, F1, rx, p1, r1⟩ => ⟨ρ1, F1, r1.bind.mono fun l H2 ⟨l', ρ2, F2, el, p2, r2⟩ => ⟨ρ2, F2, r2.bind.mono fun u H3 ⟨u', ρ3, F3, eu, p3, r3⟩ => by
      have el : l = l' := el
      have eu : u = u' := eu
      subst el eu
      obtain ⟨a, o, sa, e, k⟩ := r3.dr1 ((rx.stay p2).stay p3)
      have p := r3.post
      unfold hSl at e
      split at e
      · rename_i ds ea
        cases e
        obtain ⟨b, xs, rfl, h1, r1⟩ := sa.lst p.hd.le ea
        exact .inl ⟨b, xs, rfl, h1, k.lst p (cut_rp r1 l u)⟩
      · rename_i ds ea
        cases e
        obtain ⟨b, xs, rfl, h1, r1⟩ := sa.tup p.hd.le ea
        refine .inr (.inl ⟨b, xs, rfl, h1, fun hw => ?_, fun _ => k.tup p (cut_rp r1 l u)⟩)
        have e2 : cutL ds l u = ds := by
          unfold cutL
          rw [← r1.len, hw.1, hw.2, List.drop_zero, Nat.sub_zero, r1.len, List.take_length]
        rw [e2] at k
        cases a with
        | fz d => have ea : d = .tuple ds := ea; subst ea; exact k _ F3 H3 p sa
        | mu b m => cases m <;> cases ea
      · rename_i z ea
        split at e
        · rename_i hz
          cases e
          exact .inr (.inr ⟨z, sa.str ea, by rw [slen]; exact hz, k _ F3 H3 p (.str _)⟩)
        · cases e
      · cases e⟩⟩⟩
end

/-! ### built-ins of one and two values -/
section
variable {K : PySem.W.Frag}
def hLen : List O → Option O
  | [a] => (match a.view with
    | .str z => if z.length ≤ 16777216 then some (.fz (.int z.length)) else none
    | .list ds => some (.fz (.int ds.length))
    | .tuple ds => some (.fz (.int ds.length))
    | .dict ds => some (.fz (.int ds.length))
    | _ => none)
  | _ => none
def rLenD : List V → Hp → VK → Prop := fun xs H Q => ∃ a kvs, xs = [V.ref a] ∧ Rd H a (.dK kvs) ∧ Q (.int kvs.length) H
theorem call_lenRd {X : Cx} : CallR X (.builtin "len") rLenD := by
  rintro pins s σ H _ us Q I r ⟨a, kvs, rfl, h1, q⟩
  obtain ⟨u, rfl, ru⟩ := vals1 r
  cases ru
  obtain ⟨hz, hs, vs, rel, dd⟩ := dk_rd I.hok h1
  have hl := Paired.length rel
  have h63 := line63
  have hn : (vs.length : Int) = kvs.length := by rw [hl]
  exact call_len_dict hs dd (by omega) ⟨.int kvs.length, H, I.tok _, ⟨_, by rw [hn]⟩, q⟩
def rLenA (K : PySem.W.Frag) : List V → Hp → VK → Prop := fun xs H Q => (fun xs H Q => ∃ x n, xs = [x] ∧ LenV K x H n ∧ Q (.int n) H) xs H Q ∨ rLenD xs H Q
theorem call_lenA {X : Cx} : CallR X (.builtin "len") (rLenA X.K) := CallR.or call_len call_lenRd
theorem sn_len : SnN K (rLenA K) hLen := by
  intro S ρ F H vs os o Q p r e k
  unfold hLen at e
  split at e
  · rename_i a
    obtain ⟨v, rfl, ra⟩ := one_slot r
    split at e
    · rename_i z ea
      split at e
      · rename_i hz
        cases e
        have ev := ra.str ea
        subst ev
        exact .inl ⟨_, z.length, rfl, ⟨by rw [slen]; exact hz, rfl⟩, k _ F H p (.int _)⟩
      · cases e
    · rename_i ds ea
      cases e
      obtain ⟨b, xs, rfl, h1, r1⟩ := ra.lst p.hd.le ea
      exact .inl ⟨_, ds.length, rfl, .inl ⟨xs, h1, r1.len.symm⟩, k _ F H p (.int _)⟩
    · rename_i ds ea
      cases e
      obtain ⟨b, xs, rfl, h1, r1⟩ := ra.tup p.hd.le ea
      exact .inl ⟨_, ds.length, rfl, .inr ⟨xs, h1, r1.len.symm⟩, k _ F H p (.int _)⟩
    · rename_i ds ea
      cases e
      obtain ⟨b, kvs, es, rfl, h1, r1, rfl⟩ := ra.dct p.hd.le ea
      refine .inr ⟨b, kvs, rfl, h1, ?_⟩
      have : ((es.map fun p => (kD p.1, p.2)).length : Int) = kvs.length := by rw [List.length_map, r1.len]
      rw [← this]
      exact k _ F H p (.int _)
    · cases e
  · cases e
def hAbs : List O → Option O
  | [a] => (match a.view with
    | .int i => some (.fz (.int (if i < 0 then -i else i)))
    | _ => none)
  | _ => none
theorem sn_abs : SnN K (fun xs H Q => ∃ i, xs = [V.int i] ∧ Q (.int (if i < 0 then -i else i)) H) hAbs := by
  intro S ρ F H vs os o Q p r e k
  unfold hAbs at e
  split at e
  · obtain ⟨v, rfl, ra⟩ := one_slot r
    split at e
    · rename_i i ea
      cases e
      exact ⟨i, by rw [ra.int ea], k _ F H p (.int _)⟩
    · cases e
  · cases e
def hInt : List O → Option O
  | [a] => (match a.view with
    | .int i => some (.fz (.int i))
    | .bool b => some (.fz (.int (if b then 1 else 0)))
    | .str z => (match PySem.intText? z with
      | some n => if z.length ≤ 640 then some (.fz (.int n)) else none
      | none => none)
    | _ => none)
  | _ => none
def rIntA : List V → Hp → VK → Prop := fun xs H Q => (fun xs H Q => (∃ i, xs = [V.int i] ∧ Q (.int i) H) ∨ ∃ k, xs = [V.bl k] ∧ Q (.int (if k then 1 else 0)) H) xs H Q ∨ (∃ a n, xs = [V.str a] ∧ PySem.intText? a = some n ∧ a.length ≤ 640 ∧ Q (.int n) H)
theorem call_intA {X : Cx} : CallR X (.type "int") rIntA := CallR.or call_int1 call_int_str
theorem sn_int : SnN K rIntA hInt := by
  intro S ρ F H vs os o Q p r e k
  unfold hInt at e
  split at e
  · obtain ⟨v, rfl, ra⟩ := one_slot r
    split at e
    · rename_i i ea
      cases e
      exact .inl (.inl ⟨i, by rw [ra.int ea], k _ F H p (.int _)⟩)
    · rename_i i ea
      cases e
      exact .inl (.inr ⟨i, by rw [ra.bl ea], k _ F H p (.int _)⟩)
    · rename_i z ea
      split at e
      · rename_i n hn
        split at e
        · rename_i hz
          cases e
          exact .inr ⟨z, n, by rw [ra.str ea], hn, hz, k _ F H p (.int _)⟩
        · cases e
      · cases e
    · cases e
  · cases e
def hMax2 : List O → Option O
  | [a, b] => (match a.view, b.view with
    | .int i, .int j => some (.fz (.int (if j > i then j else i)))
    | _, _ => none)
  | _ => none
def hMin2 : List O → Option O
  | [a, b] => (match a.view, b.view with
    | .int i, .int j => some (.fz (.int (if j < i then j else i)))
    | _, _ => none)
  | _ => none
theorem sn_max2 : SnN K (fun xs H Q => ∃ i j, xs = [V.int i, V.int j] ∧ Q (.int (if j > i then j else i)) H) hMax2 := by
  intro S ρ F H vs os o Q p r e k
  unfold hMax2 at e
  split at e
  · obtain ⟨v, w, rfl, ra, rb⟩ := two_slot r
    split at e
    · rename_i i j ea eb
      cases e
      exact ⟨i, j, by rw [ra.int ea, rb.int eb], k _ F H p (.int _)⟩
    · cases e
  · cases e
theorem sn_min2 : SnN K (fun xs H Q => ∃ i j, xs = [V.int i, V.int j] ∧ Q (.int (if j < i then j else i)) H) hMin2 := by
  intro S ρ F H vs os o Q p r e k
  unfold hMin2 at e
  split at e
  · obtain ⟨v, w, rfl, ra, rb⟩ := two_slot r
    split at e
    · rename_i i j ea eb
      cases e
      exact ⟨i, j, by rw [ra.int ea, rb.int eb], k _ F H p (.int _)⟩
    · cases e
  · cases e
def intsD : List PyData → Option (List Int)
  | [] => some []
  | .int i :: r => (intsD r).map (i :: ·)
  | _ => none
def boolsD : List PyData → Option (List Bool)
  | [] => some []
  | .bool i :: r => (boolsD r).map (i :: ·)
  | _ => none
theorem ints_rp {F : Hp} : ∀ {xs : List V} {ds : List PyData} {ns : List Int}, RpA K F xs ds → intsD ds = some ns → xs = ns.map V.int
  | _, _, _, .nil, e => by cases e; rfl
  | _, _, _, .cons h t, e => by
    cases h with
    | int i =>
      obtain ⟨r, e1, rfl⟩ := Option.map_eq_some_iff.mp (show Option.map _ (intsD _) = some _ from e)
      rw [ints_rp t e1]; rfl
    | _ => cases e
theorem bools_rp {F : Hp} : ∀ {xs : List V} {ds : List PyData} {ns : List Bool}, RpA K F xs ds → boolsD ds = some ns → xs = ns.map V.bl
  | _, _, _, .nil, e => by cases e; rfl
  | _, _, _, .cons h t, e => by
    cases h with
    | bl i =>
      obtain ⟨r, e1, rfl⟩ := Option.map_eq_some_iff.mp (show Option.map _ (boolsD _) = some _ from e)
      rw [bools_rp t e1]; rfl
    | _ => cases e
def hSum : List O → Option O
  | [a] => (match a.view with
    | .list ds => (intsD ds).map fun ns => .fz (.int ns.sum)
    | _ => none)
  | _ => none
theorem sn_sum : SnN K (rSum K) hSum := by
  intro S ρ F H vs os o Q p r e k
  unfold hSum at e
  split at e
  · obtain ⟨v, rfl, ra⟩ := one_slot r
    split at e
    · rename_i ds ea
      obtain ⟨ns, e1, rfl⟩ := Option.map_eq_some_iff.mp e
      obtain ⟨b, xs, rfl, h1, r1⟩ := ra.lst p.hd.le ea
      have ex := ints_rp r1 e1
      subst ex
      exact ⟨b, ns, rfl, h1, k _ F H p (.int _)⟩
    · cases e
  · cases e
def hAll : List O → Option O
  | [a] => (match a.view with
    | .list ds => (boolsD ds).map fun ns => .fz (.bool (ns.all id))
    | _ => none)
  | _ => none
def hAny : List O → Option O
  | [a] => (match a.view with
    | .list ds => (boolsD ds).map fun ns => .fz (.bool (ns.any id))
    | _ => none)
  | _ => none
theorem sn_all : SnN K (rAll K) hAll := by
  intro S ρ F H vs os o Q p r e k
  unfold hAll at e
  split at e
  · obtain ⟨v, rfl, ra⟩ := one_slot r
    split at e
    · rename_i ds ea
      obtain ⟨ns, e1, rfl⟩ := Option.map_eq_some_iff.mp e
      obtain ⟨b, xs, rfl, h1, r1⟩ := ra.lst p.hd.le ea
      have ex := bools_rp r1 e1
      subst ex
      exact ⟨b, ns, rfl, h1, k _ F H p (.bl _)⟩
    · cases e
  · cases e
theorem sn_any : SnN K (rAny K) hAny := by
  intro S ρ F H vs os o Q p r e k
  unfold hAny at e
  split at e
  · obtain ⟨v, rfl, ra⟩ := one_slot r
    split at e
    · rename_i ds ea
      obtain ⟨ns, e1, rfl⟩ := Option.map_eq_some_iff.mp e
      obtain ⟨b, xs, rfl, h1, r1⟩ := ra.lst p.hd.le ea
      have ex := bools_rp r1 e1
      subst ex
      exact ⟨b, ns, rfl, h1, k _ F H p (.bl _)⟩
    · cases e
  · cases e
def hTuple : List O → Option O
  | [a] => (match a.view with
    | .list ds => some (.fz (.tuple ds))
    | .tuple ds => some (.fz (.tuple ds))
    | _ => none)
  | _ => none
def rTupleA (K : PySem.W.Frag) : List V → Hp → VK → Prop := fun xs H Q => ∃ p ys, xs = [.ref p] ∧ ((SqL K H p ys ∧ ∀ l, H l = none → Q (.ref l) (upd H l (.tup ys))) ∨ (SqT K H p ys ∧ Q (.ref p) H))
theorem sn_tuple : SnN K (rTupleA K) hTuple := by
  intro S ρ F H vs os o Q p r e k
  unfold hTuple at e
  split at e
  · obtain ⟨v, rfl, ra⟩ := one_slot r
    rename_i a
    split at e
    · rename_i ds ea
      cases e
      obtain ⟨b, xs, rfl, h1, r1⟩ := ra.lst p.hd.le ea
      exact ⟨b, xs, rfl, .inl ⟨h1, k.tup p r1⟩⟩
    · rename_i ds ea
      cases e
      obtain ⟨b, xs, rfl, h1, r1⟩ := ra.tup p.hd.le ea
      refine ⟨b, xs, rfl, .inr ⟨h1, ?_⟩⟩
      cases a with
      | fz d => have ea : d = .tuple ds := ea; subst ea; exact k _ F H p ra
      | mu b m => cases m <;> cases ea
    · cases e
  · cases e
def hList : List O → Option O
  | [a] => (match a.view with
    | .list ds => some (.mu false (.lst ds))
    | .tuple ds => some (.mu false (.lst ds))
    | _ => none)
  | _ => none
def rListA (K : PySem.W.Frag) : List V → Hp → VK → Prop := fun xs H Q => ∃ p ys, xs = [.ref p] ∧ (SqL K H p ys ∨ SqT K H p ys) ∧ ∀ l, H l = none → Q (.ref l) (upd H l (.lst ys))
theorem sn_list : SnN K (rListA K) hList := by
  intro S ρ F H vs os o Q p r e k
  unfold hList at e
  split at e
  · obtain ⟨v, rfl, ra⟩ := one_slot r
    split at e
    · rename_i ds ea
      cases e
      obtain ⟨b, xs, rfl, h1, r1⟩ := ra.lst p.hd.le ea
      exact ⟨b, xs, rfl, .inl h1, k.lst p r1⟩
    · rename_i ds ea
      cases e
      obtain ⟨b, xs, rfl, h1, r1⟩ := ra.tup p.hd.le ea
      exact ⟨b, xs, rfl, .inr h1, k.lst p r1⟩
    · cases e
  · cases e
end
end Vs

/-! Vs, tests, methods, stores. -/
namespace Vs
open PySem PySem.Spec L2

theorem Run.sub {α β : Type} {K : PySem.W.Frag} {W : WX} {R : Sta → L2.St → Rho → Hp → Hp → β → α → Prop} {S : Sta} {f : M α} {ρ : Rho} {F H : Hp} {Q : β → Hp → Prop} (ok : RelOk K R) (r : Run K W R S f ρ F H Q) : tG K W R f S.σ H Q := by
  obtain ⟨p, o, e, q⟩ := r
  refine ⟨ρ, F, Post.refl p.hd, o, e, ?_⟩
  cases o with
  | ok x ρ' => exact fun v F' H' a b => q v F' H' (p.trans a) (ok.up p b)
  | ex c ρ' => exact fun F' H' a => q F' H' (p.trans a)
/-! ### tests -/
def truD : PyData → Option Bool
  | .none => some false
  | .bool b => some b
  | .int i => some (i != 0)
  | .str x => if x.length ≤ 16777216 then some ((x.length : Int) != 0) else none
  | .list ds => some !ds.isEmpty
  | .tuple ds => some !ds.isEmpty
  | .dict _ => none
def tru (x : Rf) : M Bool := fun ρ => match rdO ρ x with
  | some a => (match truD a.view with | some b => some (.ok b ρ) | none => none)
  | none => none
section
variable {X : Cx} {W : WX} {e a b c : Expr} {es : List Expr} {f g : M Rf} {t u : M Bool} {pos : Pos}
theorem isE {K : PySem.W.Frag} {F : Hp} {xs : List V} {ds : List PyData} (r : RpA K F xs ds) : (!ds.isEmpty) = !xs.isEmpty := by cases r <;> rfl
theorem evT_tru (h : EvO X W e f) (he : ∀ whole, isTrue e X.env whole = (do let v ← whole; standAt e.pos; holding [v] (truthy v)) := by intro _; rfl) : EvT X W e (f.bind tru) := ptI (pt_truth h he) fun σ H Q ⟨ρ, F, r⟩ =>
  ⟨ρ, F, r.bind.mono fun v H1 ⟨x, ρ1, F1, rx, p, p1, o, e, q⟩ => by
    unfold tru at e
    split at e
    · rename_i d ed
      have sl := slot_of p1.hd rx ed
      split at e
      · rename_i k ek
        cases e
        refine ⟨k, ?_, q k F1 H1 p1 rfl⟩
        unfold truD at ek
        split at ek
        · rename_i hv; cases ek; rw [sl.non hv]; exact rfl
        · rename_i hv; cases ek; rw [sl.bl hv]; exact rfl
        · rename_i hv; cases ek; rw [sl.int hv]; exact rfl
        · rename_i hv
          split at ek
          · rename_i hz; cases ek; rw [sl.str hv]; exact ⟨by rw [slen]; exact hz, rfl⟩
          · cases ek
        · rename_i ds hv
          cases ek
          obtain ⟨l, xs, rfl, h1, r1⟩ := sl.lst p1.hd.le hv
          exact .inl ⟨xs, h1, isE r1⟩
        · rename_i ds hv
          cases ek
          obtain ⟨l, xs, rfl, h1, r1⟩ := sl.tup p1.hd.le hv
          exact .inr (.inl ⟨xs, h1, isE r1⟩)
        · cases ek
      · cases e
    · cases e⟩
theorem evT_not (h : EvT X W a t) : EvT X W (.UnaryOp .Not a pos) (t.bind fun k => M.ret !k) := ptI (pt_not h) fun σ H Q ⟨ρ, F, r⟩ =>
  ⟨ρ, F, r.bind.mono fun v H1 ⟨x, ρ1, F1, rx, p, p1, o, e, q⟩ => by
    have rx : v = x := rx
    subst rx
    cases e
    exact q (!v) F1 H1 p1 rfl⟩
abbrev EvW (X : Cx) (W : WX) (e : Expr) (f : M Bool) : Prop := PW X e (tG X.K W (BR X.K) f)
theorem pwI {t t' : TT} (h : PW X e t) (k : ∀ σ H Q, t' σ H Q → t σ H Q) : PW X e t' := ⟨fun wh pins s σ H Q I q => h.run wh pins s σ H Q I (k σ H Q q)⟩
theorem evW_and1 (h : EvT X W a t) : EvW X W (.BoolOp .And [a] pos) t := pw_and1 h
theorem evW_or1 (h : EvT X W a t) : EvW X W (.BoolOp .Or [a] pos) t := pw_or1 h
theorem evW_and (h : EvT X W a t) (k : EvW X W (.BoolOp .And (b :: es) pos) u) : EvW X W (.BoolOp .And (a :: b :: es) pos) (t.bind fun k => if k then u else M.ret false) := pwI (pw_and h k) fun σ H Q ⟨ρ, F, r⟩ =>
  ⟨ρ, F, r.bind.mono fun v H1 ⟨x, ρ1, F1, rx, p, r1⟩ => by
    have rx : v = x := rx
    subst rx
    cases v with
    | true => exact r1.sub bOk
    | false =>
      obtain ⟨p1, o, e, q⟩ := r1
      cases e
      exact q false F1 H1 p1 rfl⟩
theorem evW_or (h : EvT X W a t) (k : EvW X W (.BoolOp .Or (b :: es) pos) u) : EvW X W (.BoolOp .Or (a :: b :: es) pos) (t.bind fun k => if k then M.ret true else u) := pwI (pw_or h k) fun σ H Q ⟨ρ, F, r⟩ =>
  ⟨ρ, F, r.bind.mono fun v H1 ⟨x, ρ1, F1, rx, p, r1⟩ => by
    have rx : v = x := rx
    subst rx
    cases v with
    | false => exact r1.sub bOk
    | true =>
      obtain ⟨p1, o, e, q⟩ := r1
      cases e
      exact q true F1 H1 p1 rfl⟩
theorem evT_w (h : EvW X W e t) : EvT X W e t := h.pt
end

/-! ### and, or, not, if as values -/
def asB (x : Rf) : M Bool := fun ρ => match rdO ρ x with
  | some a => (match a.view with | .bool b => some (.ok b ρ) | _ => none)
  | none => none
theorem Run.asB {K : PySem.W.Frag} {W : WX} {S : Sta} {γ δ : Type} {R2 : Sta → L2.St → Rho → Hp → Hp → δ → γ → Prop} {k : Bool → M γ} {x : Rf} {ρ : Rho} {F H : Hp} {Q : δ → Hp → Prop} {v : V} (r : Run K W R2 S ((asB x).bind k) ρ F H Q) (rx : RfR K S S.σ ρ F H v x) :
    ∃ b, v = .bl b ∧ Run K W R2 S (k b) ρ F H Q := by
  obtain ⟨p, o, e, q⟩ := r
  unfold M.bind at e
  unfold Vs.asB at e
  cases ed : rdO ρ x with
  | none => rw [ed] at e; cases e
  | some d =>
    rw [ed] at e
    have sl := slot_of p.hd rx ed
    cases hv : d.view with
    | bool b => simp only [hv] at e; exact ⟨b, sl.bl hv, p, o, e, q⟩
    | _ => simp only [hv] at e; cases e
section
variable {X : Cx} {W : WX} {e a b c : Expr} {es : List Expr} {f g : M Rf} {t u : M Bool} {pos : Pos}
theorem ev_not (h : EvO X W a f) : EvO X W (.UnaryOp .Not a pos) (f.bind fun x => (asB x).bind fun k => M.ret (.o (.fz (.bool !k)))) := peI (pe_not h) fun σ H Q ⟨ρ, F, r⟩ =>
  ⟨ρ, F, r.bind.mono fun v H1 ⟨x, ρ1, F1, rx, p, r1⟩ => by
    obtain ⟨b, ev, p1, o, e, q⟩ := r1.asB rx
    subst ev
    cases e
    exact ⟨b, rfl, q _ F1 H1 p1 (.bl _)⟩⟩
theorem ev_one {op : BoolOp} (h : EvO X W a f) : EvO X W (.BoolOp op [a] pos) f := pe_one h
theorem ev_and (h : EvO X W a f) (k : EvO X W (.BoolOp .And (b :: es) pos) g) : EvO X W (.BoolOp .And (a :: b :: es) pos) (f.bind fun x => (asB x).bind fun k => if k then g else M.ret (.o (.fz (.bool false)))) := peI (pe_and h k) fun σ H Q ⟨ρ, F, r⟩ =>
  ⟨ρ, F, r.bind.mono fun v H1 ⟨x, ρ1, F1, rx, p, r1⟩ => by
    obtain ⟨b, ev, r2⟩ := r1.asB rx
    refine ⟨b, ev, ?_⟩
    cases b with
    | true => exact r2.sub rfOk
    | false =>
      obtain ⟨p1, o, e, q⟩ := r2
      cases e
      exact q _ F1 H1 p1 (.bl _)⟩
theorem ev_or (h : EvO X W a f) (k : EvO X W (.BoolOp .Or (b :: es) pos) g) : EvO X W (.BoolOp .Or (a :: b :: es) pos) (f.bind fun x => (asB x).bind fun k => if k then M.ret (.o (.fz (.bool true))) else g) := peI (pe_or h k) fun σ H Q ⟨ρ, F, r⟩ =>
  ⟨ρ, F, r.bind.mono fun v H1 ⟨x, ρ1, F1, rx, p, r1⟩ => by
    obtain ⟨b, ev, r2⟩ := r1.asB rx
    refine ⟨b, ev, ?_⟩
    cases b with
    | false => exact r2.sub rfOk
    | true =>
      obtain ⟨p1, o, e, q⟩ := r2
      cases e
      exact q _ F1 H1 p1 (.bl _)⟩
theorem ev_ifx (h : EvT X W c t) (ha : EvO X W a f) (hb : EvO X W b g) : EvO X W (.IfExp c a b pos) (t.bind fun k => if k then f else g) := peI (pe_ifExp h ha hb) fun σ H Q ⟨ρ, F, r⟩ =>
  ⟨ρ, F, r.bind.mono fun v H1 ⟨x, ρ1, F1, rx, p, r1⟩ => by
    have rx : v = x := rx
    subst rx
    cases v with
    | true => exact r1.sub rfOk
    | false => exact r1.sub rfOk⟩
end

/-! ### isinstance of a built-in type -/
def tyD : PyData → String
  | .none => "NoneType" | .bool _ => "bool" | .int _ => "int" | .str _ => "str" | .list _ => "list" | .tuple _ => "tuple" | .dict _ => "dict"
def isD (T : String) (d : PyData) : Bool := tyD d == T || (T == "int" && tyD d == "bool")
def hIsi (T : String) (a : O) : Option O := if (["str", "int", "bool", "tuple", "list", "dict"] : List String).contains T = true then some (.fz (.bool (isD T a.view))) else none
theorem kit_all : ∀ S ∈ (["NoneType", "bool", "int", "str", "list", "tuple", "dict"] : List String), ∀ T ∈ (["str", "int", "bool", "tuple", "list", "dict"] : List String), kitB S T = some (S == T || (T == "int" && S == "bool")) := by decide +kernel
theorem kit_of {K : PySem.W.Frag} {T : String} {d : PyData} (h : (["str", "int", "bool", "tuple", "list", "dict"] : List String).contains T = true) : PySem.W.kitOne K (.type (tyD d)) (.type T) = some (isD T d) :=
  kit_ty (kit_all _ (by cases d <;> simp [tyD]) T (by simpa using h))
theorem tyX_of {K : PySem.W.Frag} {H : Hp} {v : V} {d : PyData} (h : Rp K H v d) : TyX K H v (.type (tyD d)) := by
  cases h with
  | non => exact .base .non
  | bl b => exact .base (.bl b)
  | int i => exact .base (.int i)
  | str x => exact .base (.str x)
  | lst h1 _ =>
    rcases h1 with (h | ⟨o, h⟩) | ⟨o, its, n, h, hc, _⟩
    · exact .base (.lst h)
    · exact .base (.frz h)
    · exact .kList h hc
  | tup h1 _ =>
    rcases h1 with (h | ⟨o, h⟩) | ⟨o, its, n, h, hc, _⟩
    · exact .base (.tup h)
    · exact .fTuple h
    · exact .kTuple h hc
  | dct h1 _ _ =>
    rcases h1 with h | ⟨o, h⟩
    · exact .base (.dK h)
    · exact .fDict h
section
variable {X : Cx} {W : WX} {e a b c : Expr} {f g : M Rf} {pos p p2 : Pos} {T : Str}
theorem ev_isi {n : String} (hg : Gl X "isinstance") (hm : X.mg "isinstance" = none) (hgT : Gl X T) (hmT : X.mg T = none) (hT : bootBuiltins T = some (.type n)) (ha : EvO X W a f)
    (hv : bootBuiltins "isinstance" = some (.builtin "isinstance")) (hn : T ≠ "__name__" := by decide) (hd : (T == ("__debug__" : Str)) = false := by decide)
    (he : starEach (a :: [.Name T p2]) X.env = (false, eval a X.env) :: starEach [.Name T p2] X.env := by rfl) (he2 : starEach (.Name T p2 :: []) X.env = (false, eval (.Name T p2) X.env) :: starEach [] X.env := by rfl)
    (hpl : (backTo pos (starEach [.Name T p2] X.env)).any (·.1) = false := by rfl) : EvO X W (.Call (.Name "isinstance" p) [a, .Name T p2] [] pos) (f.bind fun x => dr1 (hIsi n) x) :=
  peI (pe_callB call_isi hg hm hv (pa_cons ha (pa_cons (pe_bltn (v := .ty n) hgT hmT hT rfl hn hd) pa_nil he2) he) (by decide) (by decide) he hpl) fun σ H Q ⟨ρ, F, r⟩ =>
    ⟨ρ, F, r.bind.mono fun v H1 ⟨x, ρ1, F1, rx, p, r1⟩ => by
      obtain ⟨d, o, sl, e, k⟩ := r1.dr1 rx
      unfold hIsi at e
      split at e
      · rename_i hT
        cases e
        exact ⟨v, .ty n, _, _, _, rfl, .ty n, tyX_of (sl.view r1.post.hd.le), kit_of hT, k _ F1 H1 r1.post (.bl _)⟩
      · cases e⟩
end

/-! ### a built-in type's methods -/
def tyM (T : String) (d : PyData) : Bool := match d with
  | .str _ => T == "str"
  | .list _ => T == "list"
  | _ => false
def SnM (K : PySem.W.Frag) (T : String) (r : V → List V → Hp → VK → Prop) (h : O → List O → Option O) : Prop := ∀ S ρ F H v a vs os o Q, Post K S S.σ ρ F H → SlotR K F H v a → Paired (SlotR K F H) vs os → h a os = some o → Cont K S ρ o Q → r v vs H Q
def drM (T : String) (h : O → List O → Option O) (x : Rf) (ys : List Rf) : M Rf := fun ρ => match rdO ρ x, rdL ρ ys with
  | some a, some os => if tyM T a.view = true then (match h a os with | some o => some (.ok (.o o) ρ) | none => none) else none
  | _, _ => none
def ckM (T : String) (x : Rf) : M Rf := fun ρ => match rdO ρ x with
  | some a => if tyM T a.view = true then some (.ok x ρ) else none
  | none => none
theorem tyV_of {K : PySem.W.Frag} {F H : Hp} {v : V} {a : O} {T : String} (le : Le F H) (s : SlotR K F H v a) (h : tyM T a.view = true) : tyV K T v H := by
  unfold tyM at h
  split at h
  · rename_i z hv; rw [s.str hv]; exact eq_of_beq h
  · rename_i ds hv
    obtain ⟨l, xs, rfl, h1, _⟩ := s.lst le hv
    exact .inl ⟨eq_of_beq h, xs, h1⟩
  · cases h
section
variable {X : Cx} {W : WX} {o e : Expr} {es : List Expr} {f : M Rf} {g : M (List Rf)} {name : Str} {apos cpos : Pos} {T id : String} {r : V → List V → Hp → VK → Prop} {h : O → List O → Option O}
theorem ev_bm (pa : PlainAttrs T) (slot : Slot T name id) (hty : typeOf (.builtin id) = pure (.type "method_descriptor")) (hm : MtR X id r) (sn : SnM X.K T r h) (ho : EvO X W o f) (ha : EvL X W (e :: es) g)
    (hbase : attributeBase o name X.env (eval o X.env) = eval o X.env := by rfl)
    (hfew : ((backTo cpos (starEach (e :: es) X.env)).all (fun x => !x.1) && (backToKw cpos (keywordEach [] X.env)).all (fun x => x.1.isSome)
      && decide ((e :: es).length + ([] : List Keyword).length + (if ([] : List Keyword).isEmpty then 0 else 1) < 30)) = true := by rfl)
    (hline : (apos.endLine == cpos.line) = true := by rfl) (hs : starEach (e :: es) X.env = (false, eval e X.env) :: starEach es X.env := by rfl) (hplain : (backTo cpos (starEach es X.env)).any (·.1) = false := by rfl) :
    EvO X W (.Call (.Attribute o name apos) (e :: es) [] cpos) (f.bind fun x => (ckM T x).bind fun x => g.bind fun ys => drM T h x ys) :=
  peI (pe_bm pa slot hty hm ho ha hbase hfew hline hs hplain) fun σ H Q ⟨ρ, F, r⟩ => ⟨ρ, F, r.bind.mono fun v H1 ⟨x, ρ1, F1, rx, p, r1⟩ => by
    obtain ⟨p1, o1, e1, q1⟩ := r1
    unfold M.bind ckM at e1
    cases ed : rdO ρ1 x with
    | none => rw [ed] at e1; cases e1
    | some d =>
      rw [ed] at e1
      by_cases ht : tyM T d.view = true
      · simp only [ht, if_true] at e1
        have r2 : Run X.K W (RfR X.K) ⟨σ, ρ, F, H⟩ (g.bind fun ys => drM T h x ys) ρ1 F1 H1 Q := ⟨p1, o1, e1, q1⟩
        refine ⟨tyV_of p1.hd.le (slot_of p1.hd rx ed) ht, ρ1, F1, r2.bind.mono fun vs H2 ⟨ys, ρ2, F2, ry, p2, p3, o2, e2, q2⟩ => ?_⟩
        unfold drM at e2
        split at e2
        · rename_i a os ea eo
          split at e2
          · split at e2
            · cases e2
              rename_i o3 eo3
              exact sn _ _ _ _ _ _ _ _ _ _ p3 (slot_of p3.hd (rx.stay p2) ea) (rdL_slots p3.hd (Paired.mapP ry fun v y h => rfOk.up p1 h) eo) eo3 q2
            · cases e2
          · cases e2
        · cases e2
      · simp only [ht] at e1
        cases e1⟩
end
/-- xs.index(x) -/
def idxD (a : PyData) : List PyData → Option Nat
  | [] => none
  | d :: ds => if PyData.eqv d a then some 0 else (idxD a ds).map (· + 1)
def hIndex (a : O) (xs : List O) : Option O := match xs with
  | [b] => (match a.view with
    | .list ds => if flatD b.view = true ∧ ds.all flatD = true then (idxD b.view ds).map fun i => .fz (.int (i : Nat)) else none
    | _ => none)
  | _ => none
theorem idx_spec {a : PyData} : ∀ {ds : List PyData} {i : Nat}, idxD a ds = some i → (∃ d, ds[i]? = some d ∧ PyData.eqv d a = true) ∧ ∀ (m : Nat) (z : PyData), m < i → ds[m]? = some z → PyData.eqv z a = false
  | [], i, e => by cases e
  | d :: ds, i, e => by
    unfold idxD at e
    split at e
    · rename_i h
      cases e
      exact ⟨⟨d, rfl, h⟩, fun m z hm => by omega⟩
    · rename_i h
      obtain ⟨j, e1, rfl⟩ := Option.map_eq_some_iff.mp e
      obtain ⟨⟨d', h1, h2⟩, h3⟩ := idx_spec e1
      refine ⟨⟨d', by simpa using h1, h2⟩, fun m z hm hz => ?_⟩
      cases m with
      | zero => simp at hz; subst hz; exact Bool.eq_false_iff.mpr h
      | succ m => exact h3 m z (by omega) (by simpa using hz)
theorem sn_index {K : PySem.W.Frag} : SnM K "list" (rIndex K) hIndex := by
  intro S ρ F H v a vs os o Q p ra rs e k
  unfold hIndex at e
  split at e
  · rename_i b
    obtain ⟨w, rfl, rb⟩ := one_slot rs
    split at e
    · rename_i ds ea
      split at e
      · rename_i hf
        obtain ⟨i, e1, rfl⟩ := Option.map_eq_some_iff.mp e
        obtain ⟨l, xs, rfl, h1, r1⟩ := ra.lst p.hd.le ea
        have rw' := rb.view p.hd.le
        obtain ⟨⟨d, g1, g2⟩, g3⟩ := idx_spec e1
        obtain ⟨z, hz, rz⟩ := r1.get g1
        have fd : ∀ (m : Nat) (z : PyData), ds[m]? = some z → flatD z = true := fun m z hz => List.all_eq_true.mp hf.2 z (List.mem_of_getElem? hz)
        refine ⟨l, xs, w, i, z, rfl, rfl, h1, flat_V rw' hf.1, (flat_any rw' hf.1 (r1.mono p.hd.le) hf.2).2, hz, ?_, fun m z' hm hz' => ?_, k _ F H p (.int _)⟩
        · rw [eqv_flat rz rw' (fd _ _ g1) hf.1]; exact g2
        · obtain ⟨d', hd', rd'⟩ := r1.getV hz'
          rw [eqv_flat rd' rw' (fd _ _ hd') hf.1]
          exact g3 m d' hm hd'
      · cases e
    · cases e
  · cases e

/-! ### what changes a list or a dict that a name holds -/
def upS (i : Nat) (h : Mu → Option Mu) : M Fl := fun ρ => match ρ[i]? with
  | some (some (.mu b m)) => (match h m with | some m' => some (.ok .nx (ρ.set i (some (.mu b m')))) | none => none)
  | _ => none
theorem upS_run {K : PySem.W.Frag} {W : WX} {S : Sta} {i : Nat} {h : Mu → Option Mu} {σ : L2.St} {ρ : Rho} {F H : Hp} {D : Ends} {v : V} (r : RunS K W S (upS i h) σ ρ F H D) (hv : σ[i]? = some (some v)) :
    ∃ a u m m', v = .ref a ∧ H a = some u ∧ MuR K F u m ∧ h m = some m' ∧ ∀ u', MuR K F u' m' → D.nx σ (upd H a u') := by
  obtain ⟨p, o, e, q⟩ := r
  unfold upS at e
  split at e
  · rename_i b m hi
    split at e
    · cases e
      rename_i m' hm
      obtain ⟨w, hw, a, u, rfl, hu, hf, mr⟩ := p.hd.at_ i _ hi
      rw [hv] at hw; cases hw
      exact ⟨a, u, m, m', rfl, hu, mr, hm, fun u' mr' => q σ F _ (p.wrS hi hv hf mr')⟩
    · cases e
  · cases e
def muApp (d : PyData) : Mu → Option Mu
  | .lst ds => if ds.length < 16777216 then some (.lst (ds ++ [d])) else none
  | _ => none
section
variable {X : Cx} {W : WX} {e : Expr} {x : Str} {f g : M Rf} {pos pos' apos cpos np : Pos} {i : Nat}
/-- x.append(e) -/
theorem ev_append (ho : PE X (.Name x np) (tVar i)) (ha : EvO X W e f) (hbase : attributeBase (.Name x np) "append" X.env (eval (.Name x np) X.env) = eval (.Name x np) X.env := by rfl)
    (hfew : ((backTo cpos (starEach (e :: []) X.env)).all (fun x => !x.1) && (backToKw cpos (keywordEach [] X.env)).all (fun x => x.1.isSome)
      && decide ((e :: ([] : List Expr)).length + ([] : List Keyword).length + (if ([] : List Keyword).isEmpty then 0 else 1) < 30)) = true := by rfl)
    (hline : (apos.endLine == cpos.line) = true := by rfl) (hs : starEach (e :: []) X.env = (false, eval e X.env) :: starEach [] X.env := by rfl) (hplain : (backTo cpos (starEach [] X.env)).any (·.1) = false := by rfl)
    (hsw : swapsWith (.Call (.Attribute (.Name x np) "append" apos) [e] [] cpos) none pos.line X.env = pure false := by rfl) :
    EvS X W (.Expr (.Call (.Attribute (.Name x np) "append" apos) [e] [] cpos) pos) (fun ρ => match ρ[i]? with | some (some (.mu _ (.lst _))) => ((f.bind frz).bind fun d => upS i (muApp d)) ρ | _ => none) :=
  psI (ps_expr (pe_bm PySem.F.plainAttrs_list PySem.F.slot_list_append PySem.F.type_list_append mt_append ho (pa_cons (ev_frz ha) pa_nil hs) hbase hfew hline hs hplain) hsw) fun D σ H ⟨ρ, F, p, o, e, q⟩ => by
    split at e
    · rename_i b ds hi
      obtain ⟨v, hv, a, u, rfl, hu, hf, xs, rfl, r⟩ := p.hd.at_ i _ hi
      refine ⟨.ref a, hv, .inl ⟨rfl, xs, .of hu⟩, tG_mono (tG_S (R := DR X.K) ⟨p, o, e, q⟩) fun w H1 ⟨d, ρ1, F1, rd, r1⟩ => ?_⟩
      obtain ⟨b, u, m, m', eb, hu, mr, hm, q1⟩ := upS_run r1 hv
      cases eb
      unfold muApp at hm
      split at hm
      · split at hm
        · cases hm
          rename_i hl
          obtain ⟨ys, rfl, ry⟩ := mr
          exact ⟨a, ys, w, rfl, rfl, hu, by rw [slen, ry.len]; exact hl, q1 _ ⟨_, rfl, ry.app (.cons rd .nil)⟩⟩
        · cases hm
      · cases hm
    · cases e
end
end Vs

/-! Vs, stores by index and key, for, while, comprehensions. -/
namespace Vs
open PySem PySem.Spec L2

/-! ### x[i] = e -/
def putE (es : List (Key × PyData)) (k : Key) (d : PyData) : List (Key × PyData) :=
  if (es.any fun kv => decide (kv.1 = k)) = true then es.map (fun kv => if kv.1 = k then (kv.1, d) else kv) else es ++ [(k, d)]
theorem RpK.any {K : PySem.W.Frag} {F : Hp} {k : Key} : ∀ {kvs : List (Key × V)} {es : List (Key × PyData)}, RpK K F kvs es → (kvs.any fun kv => decide (kv.1 = k)) = (es.any fun kv => decide (kv.1 = k))
  | _, _, .nil => rfl
  | _, _, .cons _ r => by rw [List.any_cons, List.any_cons, RpK.any r]
theorem RpK.put {K : PySem.W.Frag} {F : Hp} {k : Key} {v : V} {d : PyData} (h : Rp K F v d) {kvs : List (Key × V)} {es : List (Key × PyData)} (r : RpK K F kvs es) : RpK K F (putK kvs k v) (putE es k d) := by
  have app : ∀ {kvs : List (Key × V)} {es : List (Key × PyData)}, RpK K F kvs es → RpK K F (kvs ++ [(k, v)]) (es ++ [(k, d)]) := by
    intro kvs es r
    induction kvs generalizing es with
    | nil => cases r; exact .cons h .nil
    | cons x xs ih => cases r with | cons h1 r1 => exact .cons h1 (ih r1)
  have mp : ∀ {kvs : List (Key × V)} {es : List (Key × PyData)}, RpK K F kvs es → RpK K F (kvs.map fun kv => if kv.1 = k then (kv.1, v) else kv) (es.map fun kv => if kv.1 = k then (kv.1, d) else kv) := by
    intro kvs es r
    induction kvs generalizing es with
    | nil => cases r; exact .nil
    | cons x xs ih =>
      cases r with
      | @cons k1 v1 _ d1 ds h1 r1 =>
        rw [List.map_cons, List.map_cons]
        by_cases hk : k1 = k
        · subst hk; simpa using RpK.cons h (ih r1)
        · simpa [hk] using RpK.cons h1 (ih r1)
  unfold putK putE
  rw [r.any]
  split
  · exact mp r
  · exact app r
def muSet (k d : PyData) : Mu → Option Mu
  | .lst ds => (match k with | .int i => (ixN ds.length i).map fun j => .lst (ds.set j d) | _ => none)
  | .dct es => if es.length < 16777216 then (match k with | .int i => some (.dct (putE es (.inl i) d)) | .str x => some (.dct (putE es (.inr x) d)) | _ => none) else none
def rSetD : TSet := fun o i v H Q => ∃ a H', o = .ref a ∧ DPut H a i v H' ∧ Q H'
theorem set_dct {X : Cx} (hu : X.A.units + 200 < cLine) : PSet X rSetD := by
  rintro pins s σ H _ i v ov iv u Q I ro ri rv ⟨a, H', rfl, g, q⟩
  cases ro
  exact d_setItem (by omega) I g ri rv fun s' I' => ⟨H', I', q⟩
theorem PSet.or {X : Cx} {r r' : TSet} (h : PSet X r) (h' : PSet X r') : PSet X (fun o i v H Q => r o i v H Q ∨ r' o i v H Q) := by
  intro pins s σ H o i v ov iv u Q I ro ri rv q
  rcases q with q | q
  · exact h pins s σ H o i v ov iv u Q I ro ri rv q
  · exact h' pins s σ H o i v ov iv u Q I ro ri rv q
section
variable {X : Cx} {W : WX} {e ix : Expr} {x : Str} {f g : M Rf} {pos pos' np : Pos} {i : Nat}
theorem ev_store (hu : X.A.units + 200 < cLine) (ho : PE X (.Name x np) (tVar i)) (hi : EvO X W ix g) (he : EvO X W e f)
    (ha : ∀ v, assign (.Subscript (.Name x np) ix pos') X.env v = (do
      let ov ← holding [v] (eval (.Name x np) X.env)
      let iv ← holding [v, ov] (eval ix X.env)
      standAt pos'
      holding [v, ov, iv] (setItem ov iv v)
      release [v, ov, iv] []) := by intro _; rfl)
    (hs : swapsWithSole [.Subscript (.Name x np) ix pos'] e pos.line X.env = pure false := by rfl) (hw : swappedStores [.Subscript (.Name x np) ix pos'] e X.env = pure none := by rfl)
    (h1 : (assignEach [.Subscript (.Name x np) ix pos'] X.env).map (·.2) = [assign (.Subscript (.Name x np) ix pos') X.env] := by rfl) :
    EvS X W (.Assign [.Subscript (.Name x np) ix pos'] e pos) ((f.bind frz).bind fun d => fun ρ => match ρ[i]? with | some (some _) => ((g.bind frz).bind fun k => upS i (muSet k d)) ρ | _ => none) :=
  psI (ps_asg (ev_frz he) (pg_sub ho (ev_frz hi) (PSet.or set_list (set_dct hu)) ha) hs hw h1) fun D σ H ⟨ρ, F, r⟩ =>
    tG_mono (tG_S r) fun v H1 ⟨d, ρ1, F1, rd, p1, o1, e1, q1⟩ => by
      split at e1
      · rename_i y hy
        obtain ⟨w, hw', _⟩ := p1.hd.at_ i y hy
        have r1 : RunS X.K W ⟨σ, ρ1, F1, H1⟩ ((g.bind frz).bind fun k => upS i (muSet k d)) σ ρ1 F1 H1 D := ⟨Post.refl p1.hd, o1, e1, by
          cases o1 with
          | ok fl ρ' =>
            cases fl with
            | nx => exact fun a b c z => q1 a b c (p1.trans z)
            | bk => exact fun a b c z => q1 a b c (p1.trans z)
            | ct => exact fun a b c z => q1 a b c (p1.trans z)
            | rt r => exact fun v a b c z h => q1 v a b c (p1.trans z) (rfUp p1 h)
          | ex c ρ' => exact fun a b c z => q1 a b c (p1.trans z)⟩
        refine ⟨w, hw', tG_mono (tG_S r1) fun kv H2 ⟨k, ρ2, F2, rk, r2⟩ => ?_⟩
        obtain ⟨a, u, m, m', rfl, hu', mr, hm, q2⟩ := upS_run r2 hw'
        have le : Le F1 F2 := r2.post.le
        have rd' : Rp X.K F2 v d := Rp.mono le rd
        cases m with
        | lst ds =>
          obtain ⟨xs, rfl, rx⟩ := mr
          cases rk with
          | int n =>
            obtain ⟨j, hj, rfl⟩ := Option.map_eq_some_iff.mp (show (ixN ds.length n).map _ = some m' from hm)
            exact .inl ⟨a, xs, n, j, rfl, rfl, hu', by rw [rx.len]; exact hj, q2 _ ⟨_, rfl, rx.set rd' j⟩⟩
          | _ => cases hm
        | dct es =>
          obtain ⟨kvs, rfl, rx⟩ := mr
          unfold muSet at hm
          simp only at hm
          split at hm
          · rename_i hl
            cases rk with
            | int n =>
              cases hm
              exact .inr ⟨a, _, rfl, .inl ⟨kvs, .inl n, hu', rfl, by rw [slen, rx.len]; exact hl, rfl⟩, q2 _ ⟨_, rfl, rx.put rd'⟩⟩
            | str n =>
              cases hm
              exact .inr ⟨a, _, rfl, .inl ⟨kvs, .inr n, hu', rfl, by rw [slen, rx.len]; exact hl, rfl⟩, q2 _ ⟨_, rfl, rx.put rd'⟩⟩
            | _ => cases hm
          · cases hm
      · cases e1
end

/-! ### what is walked -/
structure ItR (K : PySem.W.Frag) (F : Hp) (J : It) (ds : List PyData) : Prop where
  stop : ∀ F' H', Le F F' → Le F' H' → J.stop ds.length H'
  go : ∀ i F' H', i < ds.length → Le F F' → Le F' H' → J.go i H'
  yld : ∀ i d S σ ρ F' H' x H'', ds[i]? = some d → Le F F' → Post K S σ ρ F' H' → J.yld i H' x H'' → ∃ F'', Post K S σ ρ F'' H'' ∧ Le F' F'' ∧ Rp K F'' x d ∧ ∀ b o, H' b = some o → H'' b = some o ∧ (F' b = none → F'' b = none)
def IR (K : PySem.W.Frag) (_ : Sta) (_ : L2.St) (_ : Rho) (F _ : Hp) (J : It) (ds : List PyData) : Prop := ItR K F J ds
def iterD : PyData → M (List PyData)
  | .list ds => M.ret ds
  | .tuple ds => M.ret ds
  | .str z => M.ret (z.cps.toList.map fun c => .str ⟨#[c]⟩)
  | _ => fun _ => none
theorem itr_list {K : PySem.W.Frag} {F : Hp} {a : Addr} {xs : List V} {ds : List PyData} (h : SqL K F a xs) (r : RpA K F xs ds) : ItR K F (Itl K a) ds where
  stop := fun F' H' l1 l2 => ⟨xs, l2.seqL (l1.seqL h), Nat.le_of_eq r.len⟩
  go := fun i F' H' hi l1 l2 => by
    have hx : i < xs.length := by rw [r.len]; exact hi
    exact ⟨xs, xs[i], l2.seqL (l1.seqL h), by simp [hx]⟩
  yld := fun i d S σ ρ F' H' x H'' hd l1 p y => by
    obtain ⟨rfl, y⟩ := y
    obtain ⟨v, hv, rv⟩ := r.get hd
    have := y xs (p.hd.le.seqL (l1.seqL h))
    rw [hv] at this; cases this
    exact ⟨F', p, Le.refl _, Rp.mono l1 rv, fun b o e => ⟨e, fun z => z⟩⟩
theorem itr_tup {K : PySem.W.Frag} {F : Hp} {a : Addr} {xs : List V} {ds : List PyData} (h : SqT K F a xs) (r : RpA K F xs ds) : ItR K F (Itt K a) ds where
  stop := fun F' H' l1 l2 => ⟨xs, l2.seqT (l1.seqT h), Nat.le_of_eq r.len⟩
  go := fun i F' H' hi l1 l2 => by
    have hx : i < xs.length := by rw [r.len]; exact hi
    exact ⟨xs, xs[i], l2.seqT (l1.seqT h), by simp [hx]⟩
  yld := fun i d S σ ρ F' H' x H'' hd l1 p y => by
    obtain ⟨rfl, y⟩ := y
    obtain ⟨v, hv, rv⟩ := r.get hd
    have := y xs (p.hd.le.seqT (l1.seqT h))
    rw [hv] at this; cases this
    exact ⟨F', p, Le.refl _, Rp.mono l1 rv, fun b o e => ⟨e, fun z => z⟩⟩
theorem itr_str {K : PySem.W.Frag} {F : Hp} {z : Str} : ItR K F (Its z) (z.cps.toList.map fun c => .str ⟨#[c]⟩) where
  stop := fun F' H' l1 l2 => by show z.cps.size ≤ _; simp
  go := fun i F' H' hi l1 l2 => by show i < z.cps.size; simpa using hi
  yld := fun i d S σ ρ F' H' x H'' hd l1 p y => by
    obtain ⟨rfl, c, hc, rfl⟩ := y
    have : d = .str ⟨#[c]⟩ := by
      rw [List.getElem?_map, Array.getElem?_toList, hc] at hd
      exact (Option.some.inj hd).symm
    subst this
    exact ⟨F', p, Le.refl _, .str _, fun b o e => ⟨e, fun z => z⟩⟩
abbrev EvI (X : Cx) (W : WX) (tg e : Expr) (f : M (List PyData)) : Prop := PI X tg e (tG X.K W (IR X.K) f)
def rangeD (lo : Int) (n : Nat) : List PyData := (List.range n).map fun (i : Nat) => .int (lo + (i : Int))
theorem itr_rng {K : PySem.W.Frag} {F : Hp} {lo : Int} {n : Nat} : ItR K F (Itr lo n) (rangeD lo n) where
  stop := fun F' H' l1 l2 => by show n ≤ _; simp [rangeD]
  go := fun i F' H' hi l1 l2 => by show i < n; simpa [rangeD] using hi
  yld := fun i d S σ ρ F' H' x H'' hd l1 p y => by
    obtain ⟨rfl, rfl⟩ := y
    have hi : i < n := by
      have := (List.getElem?_eq_some_iff.mp hd).1
      simpa [rangeD] using this
    have : d = .int (lo + (i : Int)) := by
      unfold rangeD at hd
      rw [List.getElem?_map, List.getElem?_range hi] at hd
      exact (Option.some.inj hd).symm
    subst this
    exact ⟨F', p, Le.refl _, .int _, fun b o e => ⟨e, fun z => z⟩⟩
section
variable {X : Cx} {W : WX} {tg e a b : Expr} {f g : M Rf} {p pos : Pos}
theorem evI_valD {fd : M PyData} (hd : EvD X W e fd) : EvI X W tg e (fd.bind iterD) := ⟨fun pins s σ H R I ⟨ρ, F, r⟩ => by
  obtain ⟨p0, o, e1, q⟩ := r
  cases ef : fd ρ with
  | none => simp only [M.bind, ef] at e1; cases e1
  | some o1 =>
    cases o1 with
    | ex c ρ' =>
      simp only [M.bind, ef] at e1
      cases e1
      exact (pi_list hd).run pins s σ H R I ⟨ρ, F, p0, .ex c ρ', ef, q⟩
    | ok d ρ' =>
      simp only [M.bind, ef] at e1
      cases d with
      | list ds =>
        cases e1
        exact (pi_list hd).run pins s σ H R I ⟨ρ, F, p0, _, ef, fun v F' H' p' rv => by
          cases (show Rp X.K F' v (.list ds) from rv) with
          | lst h1 h2 => exact ⟨_, rfl, ⟨_, p'.hd.le.seqL h1⟩, q _ F' H' p' (itr_list h1 h2)⟩⟩
      | tuple ds =>
        cases e1
        exact (pi_tup hd).run pins s σ H R I ⟨ρ, F, p0, _, ef, fun v F' H' p' rv => by
          cases (show Rp X.K F' v (.tuple ds) from rv) with
          | tup h1 h2 => exact ⟨_, rfl, ⟨_, p'.hd.le.seqT h1⟩, q _ F' H' p' (itr_tup h1 h2)⟩⟩
      | str z =>
        cases e1
        exact (pi_str hd).run pins s σ H R I ⟨ρ, F, p0, _, ef, fun v F' H' p' rv => by
          cases (show Rp X.K F' v (.str z) from rv) with
          | str _ => exact ⟨z, rfl, q _ F' H' p' itr_str⟩⟩
      | _ => cases e1⟩
theorem evI_val (he : EvO X W e f) : EvI X W tg e ((f.bind frz).bind iterD) := evI_valD (ev_frz he)
def rng1 (ds : List PyData) : M (List PyData) := fun ρ => match ds with
  | [.int j] => if -(2 ^ 62) ≤ j ∧ j < 2 ^ 62 then some (.ok (rangeD 0 j.toNat) ρ) else none
  | _ => none
def rng2 (ds : List PyData) : M (List PyData) := fun ρ => match ds with
  | [.int i, .int j] => if (-(2 ^ 62) ≤ i ∧ i < 2 ^ 62) ∧ -(2 ^ 62) ≤ j ∧ j < 2 ^ 62 then some (.ok (rangeD i (j - i).toNat) ρ) else none
  | _ => none
theorem evI_rng1 {h : M (List PyData)} (hg : Gl X "range") (hm : X.mg "range" = none) (ha : EvA X W [a] h) (hs : starEach [a] X.env = [(false, eval a X.env)] := by rfl) : EvI X W tg (.Call (.Name "range" p) [a] [] pos) (h.bind rng1) :=
  ⟨fun pins s σ H R I ⟨ρ, F, r⟩ => (pi_range1 hg hm ha hs).run pins s σ H R I ⟨ρ, F, r.bind.mono fun vs H1 ⟨ds, ρ1, F1, rx, p, p1, o, e, q⟩ => by
    unfold rng1 at e
    split at e
    · split at e
      · rename_i hj
        cases e
        cases rx with
        | cons h t => cases h; cases t; exact ⟨_, rfl, hj.1, hj.2, q _ F1 H1 p1 itr_rng⟩
      · cases e
    · cases e⟩⟩
theorem evI_rng2 {h : M (List PyData)} (hg : Gl X "range") (hm : X.mg "range" = none) (ha : EvA X W [a, b] h) (hs : starEach [a, b] X.env = [(false, eval a X.env), (false, eval b X.env)] := by rfl) (hs2 : starEach [b] X.env = [(false, eval b X.env)] := by rfl) : EvI X W tg (.Call (.Name "range" p) [a, b] [] pos) (h.bind rng2) :=
  ⟨fun pins s σ H R I ⟨ρ, F, r⟩ => (pi_range2 hg hm ha hs hs2).run pins s σ H R I ⟨ρ, F, r.bind.mono fun vs H1 ⟨ds, ρ1, F1, rx, p, p1, o, e, q⟩ => by
    unfold rng2 at e
    split at e
    · split at e
      · rename_i hj
        cases e
        cases rx with
        | cons h t => cases h; cases t with | cons h2 t => cases h2; cases t; exact ⟨_, _, rfl, ⟨hj.1.1, hj.1.2, hj.2.1, hj.2.2⟩, q _ F1 H1 p1 itr_rng⟩
      · cases e
    · cases e⟩⟩
end

/-! ### for -/
def forK (next : Rho → Option (Out Fl)) : Option (Out Fl) → Option (Out Fl)
  | some (.ok .nx ρ') => next ρ'
  | some (.ok .ct ρ') => next ρ'
  | some (.ok .bk ρ') => some (.ok .nx ρ')
  | o => o
def forH (fb : M Fl) (next : Rho → Option (Out Fl)) : Option (Out Fl) → Option (Out Fl)
  | some (.ok .nx ρ') => forK next (fb ρ')
  | _ => none
def forF (h : PyData → M Fl) (fb : M Fl) : List PyData → M Fl
  | [] => M.ret .nx
  | d :: ds => fun ρ => forH fb (forF h fb ds) (h d ρ)
section
variable {X : Cx} {W : WX} {tg iter : Expr} {body : List Stmt} {g : TG} {h : PyData → M Fl} {fb : M Fl} {fi : M (List PyData)} {pos : Pos}
theorem ev_for (hp : PassesOwn (model X.prog X.w) X.A X.env X.xe) (hc : X.calm = true) (hi : EvI X W tg iter fi) (hg : PG X tg g) (ht : TgR X.K g h) (hb : EvB X W body fb) (hs : ∀ x, foldedSetIterable iter X.env x = pure x := by intro _; rfl) :
    EvS X W (.For tg iter body [] pos) (fi.bind fun ds => forF h fb ds) := psI (ps_for hp hc hi hg hb hs) fun D σ H ⟨ρ, F, r⟩ =>
  tG_mono (tG_S r) fun J H1 ⟨ds, ρ1, F1, ir, r1⟩ => by
    have ir : ItR X.K F1 J ds := ir
    refine ⟨fun i m σ' H' => ∃ ρ' F', m = ds.length - i ∧ i ≤ ds.length ∧ Le F1 F' ∧ RunS X.K W ⟨σ, ρ, F, H⟩ (forF h fb (ds.drop i)) σ' ρ' F' H' D, ⟨ds.length, ρ1, F1, rfl, Nat.zero_le _, Le.refl _, r1⟩, ?_⟩
    rintro i m σ' H' ⟨ρ', F', rfl, hi, le, p, o, e, q⟩
    by_cases hlt : i < ds.length
    · refine .inr ⟨ir.go i F' H' hlt le p.hd.le, fun σ2 H2 => ∃ ρ2 F2, Le F1 F2 ∧ RunS X.K W ⟨σ, ρ, F, H⟩ (forF h fb (ds.drop (i + 1))) σ2 ρ2 F2 H2 D, ?_, ?_⟩
      · rintro σ2 H2 ⟨ρ2, F2, le2, r2⟩
        exact ⟨ds.length - (i + 1), by omega, ρ2, F2, rfl, hlt, le2, r2⟩
      · intro x H2 y
        have hd : ds[i]? = some ds[i] := List.getElem?_eq_getElem hlt
        obtain ⟨F2, p2, le2, rx, _⟩ := ir.yld i _ _ _ _ _ _ _ _ hd le p y
        have ed : ds.drop i = ds[i] :: ds.drop (i + 1) := List.drop_eq_getElem_cons hlt
        rw [ed] at e
        have e : forH fb (forF h fb (ds.drop (i + 1))) (h ds[i] ρ') = some o := e
        cases eh : h ds[i] ρ' with
        | none => rw [eh] at e; cases e
        | some oh =>
          cases oh with
          | ex c ρ3 => rw [eh] at e; cases e
          | ok fl ρ3 =>
            cases fl with
            | bk => rw [eh] at e; cases e
            | ct => rw [eh] at e; cases e
            | rt _ => rw [eh] at e; cases e
            | nx =>
              rw [eh] at e
              have e : forK (forF h fb (ds.drop (i + 1))) (fb ρ3) = some o := e
              refine ht W ⟨σ', ρ', F2, H2⟩ σ' ρ' F2 H2 x _ ⟨fun σ4 H4 => tS X.K W fb { D with nx := fun σ2 H2 => ∃ ρ2 F2, Le F1 F2 ∧ RunS X.K W ⟨σ, ρ, F, H⟩ (forF h fb (ds.drop (i + 1))) σ2 ρ2 F2 H2 D, ct := fun σ2 H2 => ∃ ρ2 F2, Le F1 F2 ∧ RunS X.K W ⟨σ, ρ, F, H⟩ (forF h fb (ds.drop (i + 1))) σ2 ρ2 F2 H2 D, bk := D.nx } σ4 H4, D.rt, D.bk, D.ct⟩ ⟨Post.refl p2.hd, _, eh, fun σ4 F4 H4 p4 => ?_⟩ rx
              have p5 := p2.trans p4
              refine ⟨ρ3, F4, Post.refl p4.hd, ?_⟩
              cases eb : fb ρ3 with
              | none => rw [eb] at e; cases e
              | some ob =>
                refine ⟨ob, rfl, ?_⟩
                rw [eb] at e
                cases ob with
                | ex c ρ6 => cases e; exact fun a b c z => q a b c (p5.trans z)
                | ok fl ρ6 =>
                  cases fl with
                  | nx => exact fun a b c z => ⟨ρ6, b, le.trans (le2.trans (p4.le.trans z.le)), p5.trans z, o, e, q⟩
                  | ct => exact fun a b c z => ⟨ρ6, b, le.trans (le2.trans (p4.le.trans z.le)), p5.trans z, o, e, q⟩
                  | bk => cases e; exact fun a b c z => q a b c (p5.trans z)
                  | rt r => cases e; exact fun v a b c z k => q v a b c (p5.trans z) (rfUp p5 k)
    · have hi2 : i = ds.length := by omega
      subst hi2
      rw [List.drop_length] at e
      cases e
      exact .inl ⟨ir.stop F' H' le p.hd.le, q σ' F' H' p⟩
end
end Vs

/-! Vs, comprehensions; the law's end. -/
namespace Vs
open PySem PySem.Spec L2

/-! ### a comprehension's own names -/
def wipeR (ρ : Rho) (vs : List Nat) : Rho := ρ.mapIdx fun i y => if vs.contains i = true then none else y
def backR (ρ0 ρ : Rho) (vs : List Nat) : Rho := ρ.mapIdx fun i y => if vs.contains i = true then (ρ0[i]?).join else y
def freeV (ρ : Rho) (vs : List Nat) : Bool := vs.all fun i => match ρ[i]? with
  | some (some (.mu _ _)) => false
  | some _ => true
  | none => false
theorem wipeR_get {ρ : Rho} {vs : List Nat} {i : Nat} {o : O} : (wipeR ρ vs)[i]? = some (some o) ↔ ρ[i]? = some (some o) ∧ i ∉ vs := by
  unfold wipeR
  rw [List.getElem?_mapIdx]
  cases h : ρ[i]? with
  | none => simp
  | some y =>
    by_cases hv : i ∈ vs
    · simp [hv]
    · simp [hv]
theorem backR_get {ρ0 ρ : Rho} {vs : List Nat} {i : Nat} {o : O} (h : (backR ρ0 ρ vs)[i]? = some (some o)) : (i ∈ vs ∧ ρ0[i]? = some (some o)) ∨ (i ∉ vs ∧ ρ[i]? = some (some o)) := by
  unfold backR at h
  rw [List.getElem?_mapIdx] at h
  cases e : ρ[i]? with
  | none => rw [e] at h; cases h
  | some y =>
    rw [e] at h
    have h2 : (if vs.contains i = true then (ρ0[i]?).join else y) = some o := Option.some.inj h
    by_cases hv : i ∈ vs
    · refine .inl ⟨hv, ?_⟩
      simp only [List.contains_iff_mem.mpr hv, if_true] at h2
      cases e0 : ρ0[i]? with
      | none => rw [e0] at h2; cases h2
      | some z => rw [e0] at h2; exact congrArg some h2
    · refine .inr ⟨hv, ?_⟩
      have : vs.contains i = false := by simpa using hv
      simp only [this] at h2
      exact congrArg some h2
theorem wipe_get {σ : L2.St} {vs : List Nat} {i : Nat} {v : V} (h : σ[i]? = some (some v)) (n : i ∉ vs) : (wipe σ vs)[i]? = some (some v) := by rw [wipe_out n]; exact h
section
variable {K : PySem.W.Frag} {S : Sta} {σ : L2.St} {ρ : Rho} {F H : Hp} {vs : List Nat}
theorem Post.wipe (p : Post K S σ ρ F H) (hv : freeV ρ vs = true) : Post K S (wipe σ vs) (wipeR ρ vs) F H := by
  refine ⟨⟨p.hd.le, by rw [wipe_length]; unfold wipeR; rw [List.length_mapIdx]; exact p.hd.len, fun i o e => ?_, fun i j b m b' m' a e1 e2 s1 s2 => ?_⟩, p.le, p.keep, p.nofz, fun b ⟨i, b1, m1, e, s⟩ => ?_, fun i m e => ?_⟩
  · obtain ⟨e1, n⟩ := wipeR_get.mp e
    obtain ⟨v, e2, r⟩ := p.hd.at_ i o e1
    exact ⟨v, wipe_get e2 n, r⟩
  · exact p.hd.sep i j b m b' m' a (wipeR_get.mp e1).1 (wipeR_get.mp e2).1 (wipe_some s1).1 (wipe_some s2).1
  · exact p.own b ⟨i, b1, m1, (wipeR_get.mp e).1, (wipe_some s).1⟩
  · obtain ⟨e1, m', e2⟩ := p.bor i m e
    have n : i ∉ vs := fun hi => by
      have := List.all_eq_true.mp hv i hi
      rw [e2] at this
      cases this
    refine ⟨by rw [wipe_out n]; exact e1, m', wipeR_get.mpr ⟨e2, n⟩⟩
theorem Post.unwipe {ρ' : Rho} {F' H' : Hp} (p0 : Post K S σ ρ F H) (hv : freeV ρ vs = true) (le : Le F F') (p : Post K S (L2.wipe σ vs) ρ' F' H') (hw : ∀ i ∈ vs, ∀ o, ρ'[i]? ≠ some (some o)) : Post K S σ (backR ρ ρ' vs) F' H' := by
  have mu : ∀ (i : Nat) (b : Bool) (m : Mu), (backR ρ ρ' vs)[i]? = some (some (.mu b m)) → i ∉ vs ∧ ρ'[i]? = some (some (.mu b m)) := by
    intro i b m e
    rcases backR_get e with ⟨hi, e1⟩ | ⟨hi, e1⟩
    · have := List.all_eq_true.mp hv i hi
      rw [e1] at this
      cases this
    · exact ⟨hi, e1⟩
  refine ⟨⟨p.hd.le, ?_, fun i o e => ?_, fun i j b m b' m' a e1 e2 s1 s2 => ?_⟩, p.le, p.keep, p.nofz, fun b ⟨i, b1, m1, e, s⟩ => ?_, fun i m e => ?_⟩
  · have h1 := p.hd.len
    rw [wipe_length] at h1
    unfold backR
    rw [List.length_mapIdx]
    exact h1
  · rcases backR_get e with ⟨hi, e1⟩ | ⟨hi, e1⟩
    · obtain ⟨v, e2, r⟩ := p0.hd.at_ i o e1
      refine ⟨v, e2, ?_⟩
      cases o with
      | fz d => exact Rp.mono le r
      | mu b m =>
        have := List.all_eq_true.mp hv i hi
        rw [e1] at this
        cases this
    · obtain ⟨v, e2, r⟩ := p.hd.at_ i o e1
      exact ⟨v, (wipe_some e2).1, r⟩
  · obtain ⟨n1, f1⟩ := mu i b m e1
    obtain ⟨n2, f2⟩ := mu j b' m' e2
    exact p.hd.sep i j b m b' m' a f1 f2 (wipe_get s1 n1) (wipe_get s2 n2)
  · obtain ⟨n1, f1⟩ := mu i b1 m1 e
    exact p.own b ⟨i, b1, m1, f1, wipe_get s n1⟩
  · obtain ⟨e1, m', e2⟩ := p.bor i m e
    obtain ⟨e3, _⟩ := p0.bor i m e
    refine ⟨e3, m', ?_⟩
    have n : i ∉ vs := fun hi => hw i hi _ e2
    unfold backR
    rw [List.getElem?_mapIdx, e2]
    have : vs.contains i = false := by simpa using n
    simp only [Option.map_some, this]
    rfl
/-- a temporary is written -/
theorem Post.wrT (p : Post K S σ ρ F H) {a : Addr} {o : HO} (hf : F a = none) (no : ¬ Own σ ρ a) (nw : New S a) : Post K S σ ρ F (upd H a o) where
  hd := ⟨p.hd.le.updH hf, p.hd.len, fun i o e => by
    obtain ⟨v, e1, r⟩ := p.hd.at_ i o e
    refine ⟨v, e1, ?_⟩
    cases o with
    | fz d => exact r
    | mu b m =>
      obtain ⟨c, w, rfl, hw, hf', q⟩ := r
      have hc : c ≠ a := by rintro rfl; exact no ⟨i, b, m, e, e1⟩
      exact ⟨c, w, rfl, by rw [upd_ne hc]; exact hw, hf', q⟩, p.hd.sep⟩
  le := p.le
  keep := fun b u e q => by
    have hb : b ≠ a := by
      rintro rfl
      rcases nw with z | z
      · exact q z
      · rw [e] at z; cases z
    rw [upd_ne hb]
    exact p.keep b u e q
  nofz := p.nofz
  own := p.own
  bor := p.bor
end
/-- a target that changes nothing but the comprehension's own names -/
def TgW (g : TG) (vs : List Nat) : Prop := ∀ v σ H Q, g v σ H Q → g v σ H fun σ2 H2 => wipe σ2 vs = wipe σ vs ∧ Q σ2 H2
def TgsW (g : TGs) (vs : List Nat) : Prop := ∀ v σ H Q, g v σ H Q → g v σ H fun σ2 H2 => wipe σ2 vs = wipe σ vs ∧ Q σ2 H2
theorem wipe_set {i : Nat} {x : Option V} : ∀ {vs : List Nat} (σ : L2.St), i ∈ vs → wipe (σ.set i x) vs = wipe σ vs
  | [], _, h => by cases h
  | v :: vs, σ, h => by
    show (wipe (σ.set i x) vs).set v none = (wipe σ vs).set v none
    by_cases hi : i ∈ vs
    · rw [wipe_set σ hi]
    · have e : i = v := by simpa [hi] using h
      subst e
      have : wipe (σ.set i x) vs = (wipe σ vs).set i x := by
        clear h
        induction vs with
        | nil => rfl
        | cons u us ih =>
          have hu : i ≠ u := fun z => hi (by simp [z])
          have hus : i ∉ us := fun z => hi (by simp [z])
          show (wipe (σ.set i x) us).set u none = ((wipe σ us).set u none).set i x
          rw [ih hus, List.set_comm _ _ hu]
      rw [this, List.set_set]
theorem tw_name {i : Nat} {vs : List Nat} (h : i ∈ vs) : TgW (gName i) vs := fun v σ H Q q => ⟨wipe_set σ h, q⟩
theorem tw_nil {vs : List Nat} : TgsW gNil vs := fun v σ H Q q => ⟨q.1, rfl, q.2⟩
theorem tw_cons {g : TG} {gs : TGs} {vs : List Nat} (a : TgW g vs) (b : TgsW gs vs) (mono : ∀ v σ H Q Q', (∀ σ H, Q σ H → Q' σ H) → g v σ H Q → g v σ H Q') : TgsW (gCons g gs) vs := by
  rintro v σ H Q ⟨x, r, rfl, q⟩
  refine ⟨x, r, rfl, mono _ _ _ _ _ (fun σ1 H1 ⟨e1, q1⟩ => ?_) (a _ _ _ _ q)⟩
  have z := b _ _ _ _ q1
  rw [e1] at z
  exact z
theorem tw_tup {K : PySem.W.Frag} {n : Nat} {gs : TGs} {vs : List Nat} (b : TgsW gs vs) : TgW (gTup K n gs) vs := by
  rintro v σ H Q ⟨a, xs, rfl, h1, h2, q⟩
  exact ⟨a, xs, rfl, h1, h2, b _ _ _ _ q⟩

/-! ### [e for x in xs if t] -/
abbrev EvQ (X : Cx) (W : WX) (e : List Expr) (f : M Bool) : Prop := PTs X e (tG X.K W (BR X.K) f)
theorem evQ_nil {X : Cx} {W : WX} : EvQ X W [] (M.ret true) := ⟨fun pins s σ H Q I ⟨ρ, F, p, o, e, q⟩ => by
  cases e
  exact pts_nil.run pins s σ H Q I (q true F H p rfl)⟩
theorem evQ_one {X : Cx} {W : WX} {c : Expr} {t : M Bool} (h : EvT X W c t) : EvQ X W [c] t := pts_one h
def lcE (vs : List Nat) (acc : List PyData) (next : List PyData → Rho → Option (Out (List PyData))) : Option (Out PyData) → Option (Out (List PyData))
  | some (.ok y ρ') => if acc.length < 16777216 ∧ freeV ρ' vs = true then next (acc ++ [y]) (wipeR ρ' vs) else none
  | _ => none
def lcT (vs : List Nat) (fe : M PyData) (acc : List PyData) (next : List PyData → Rho → Option (Out (List PyData))) : Option (Out Bool) → Option (Out (List PyData))
  | some (.ok true ρ') => lcE vs acc next (fe ρ')
  | some (.ok false ρ') => if freeV ρ' vs = true then next acc (wipeR ρ' vs) else none
  | _ => none
def lcH (vs : List Nat) (ft : M Bool) (fe : M PyData) (acc : List PyData) (next : List PyData → Rho → Option (Out (List PyData))) : Option (Out Fl) → Option (Out (List PyData))
  | some (.ok .nx ρ') => lcT vs fe acc next (ft ρ')
  | _ => none
def lcF (vs : List Nat) (h : PyData → M Fl) (ft : M Bool) (fe : M PyData) : List PyData → List PyData → Rho → Option (Out (List PyData))
  | [], acc, ρ => some (.ok acc ρ)
  | d :: ds, acc, ρ => lcH vs ft fe acc (lcF vs h ft fe ds) (h d ρ)
def lcM (vs : List Nat) (h : PyData → M Fl) (ft : M Bool) (fe : M PyData) (ds : List PyData) : M Rf := fun ρ => if freeV ρ vs = true then (match lcF vs h ft fe ds [] (wipeR ρ vs) with
  | some (.ok ys ρ') => some (.ok (.o (.mu false (.lst ys))) (backR ρ ρ' vs))
  | _ => none) else none
theorem wipe_wipe {σ : L2.St} : ∀ {vs : List Nat}, wipe (wipe σ vs) vs = wipe σ vs := fun {vs} => by
  apply List.ext_getElem?
  intro i
  by_cases h : i ∈ vs
  · have len : ∀ (τ : L2.St), τ.length = σ.length → (wipe τ vs)[i]? = if i < σ.length then some none else none := by
      intro τ hτ
      by_cases hi : i < σ.length
      · rw [if_pos hi]
        cases e : (wipe τ vs)[i]? with
        | none =>
          have := List.getElem?_eq_none_iff.mp e
          rw [wipe_length, hτ] at this
          omega
        | some y =>
          cases y with
          | none => rfl
          | some v => exact absurd h (wipe_some e).2
      · rw [if_neg hi, List.getElem?_eq_none (by rw [wipe_length, hτ]; omega)]
    rw [len _ (wipe_length _ _), len σ rfl]
  · rw [wipe_out h]
abbrev W0 : WX := fun _ _ _ _ => False
theorem wipeR_self {ρ : Rho} {vs : List Nat} : ∀ i ∈ vs, ∀ o, (wipeR ρ vs)[i]? ≠ some (some o) := fun i hi o e => (wipeR_get.mp e).2 hi
/-- a target's reading may be weakened -/
def TgM (g : TG) : Prop := ∀ v σ H Q Q', (∀ σ H, Q σ H → Q' σ H) → g v σ H Q → g v σ H Q'
theorem tm_tup {K : PySem.W.Frag} {n : Nat} {gs : TGs} (b : ∀ v σ H Q Q', (∀ σ H, Q σ H → Q' σ H) → gs v σ H Q → gs v σ H Q') : TgM (gTup K n gs) := fun v σ H Q Q' k ⟨a, xs, e, h1, h2, q⟩ => ⟨a, xs, e, h1, h2, b _ _ _ _ _ k q⟩
theorem tm_nil : ∀ v σ H Q Q', (∀ σ H, Q σ H → Q' σ H) → gNil v σ H Q → gNil v σ H Q' := fun v σ H Q Q' k ⟨a, q⟩ => ⟨a, k _ _ q⟩
theorem tm_cons {g : TG} {gs : TGs} (a : TgM g) (b : ∀ v σ H Q Q', (∀ σ H, Q σ H → Q' σ H) → gs v σ H Q → gs v σ H Q') : ∀ v σ H Q Q', (∀ σ H, Q σ H → Q' σ H) → gCons g gs v σ H Q → gCons g gs v σ H Q' := fun v σ H Q Q' k ⟨x, r, e, q⟩ => ⟨x, r, e, a _ _ _ _ _ (fun σ1 H1 q1 => b _ _ _ _ _ k q1) q⟩
theorem lc_read {K : PySem.W.Frag} {W : WX} {g : TG} {h : PyData → M Fl} {ft : M Bool} {fe : M PyData} {vs : List Nat} {S : Sta} {ρ : Rho} {F H : Hp} {Q : VK} {J : It} {ds : List PyData} (tg : TgR K g h) (tw : TgW g vs) (gmono : TgM g)
    (r : Run K W (RfR K) S (lcM vs h ft fe ds) ρ F H Q) (ir : ItR K F J ds) (D : Addr) (hD : H D = none) :
    ∃ Wv : Nat → Nat → Hp → Prop, (∃ m, Wv 0 m (upd H D (.lst []))) ∧ ∀ i m H, Wv i m H → (J.stop i H ∧ Q (.ref D) H) ∨ (J.go i H ∧ ∃ Nx : Hp → Prop, (∀ H', Nx H' → ∃ m', m' < m ∧ Wv (i + 1) m' H') ∧
      ∀ x H', J.yld i H x H' → g x (wipe S.σ vs) H' fun σ2 H2 => wipe σ2 vs = wipe S.σ vs ∧ tG K W0 (BR K) ft σ2 H2 fun b H3 => if b = true then tG K W0 (DR K) fe σ2 H3 fun y H4 => ∃ acc, H4 D = some (.lst acc) ∧ acc.length < sizeLine ∧ Nx (upd H4 D (.lst (acc ++ [y]))) else Nx H3) := by
  obtain ⟨p0, o, e, q⟩ := r
  unfold lcM at e
  split at e
  next hv =>
    cases el : lcF vs h ft fe ds [] (wipeR ρ vs) with
    | none => rw [el] at e; cases e
    | some ol =>
      cases ol with
      | ex c ρ' => rw [el] at e; cases e
      | ok ys ρe =>
        rw [el] at e
        cases e
        -- the state between two turns
        let Mid : Nat → Hp → Prop := fun i H' => ∃ (acc : List PyData) (xs : List V) (ρ' : Rho) (F' : Hp), Le F F' ∧ Post K S (wipe S.σ vs) ρ' F' H' ∧ (∀ i ∈ vs, ∀ o, ρ'[i]? ≠ some (some o)) ∧ F' D = none ∧ ¬ Own (wipe S.σ vs) ρ' D ∧ H' D = some (.lst xs) ∧ RpA K F' xs acc ∧ lcF vs h ft fe (ds.drop i) acc ρ' = some (.ok ys ρe)
        have nwD : New S D := p0.new (.inr hD)
        refine ⟨fun i m H' => m = ds.length - i ∧ i ≤ ds.length ∧ Mid i H', ⟨ds.length, rfl, Nat.zero_le _, [], [], wipeR ρ vs, F, Le.refl _, (p0.wipe hv).newO hD, wipeR_self, p0.gone hD, (p0.wipe hv).hd.notOwn hD, upd_same, .nil, el⟩, ?_⟩
        rintro i m H' ⟨rfl, hi, acc, xs, ρ', F', le, p, hw, hf, no, hH, ra, el⟩
        by_cases hlt : i < ds.length
        · refine .inr ⟨ir.go i F' H' hlt le p.hd.le, Mid (i + 1), fun H2 hm => ⟨ds.length - (i + 1), by omega, rfl, hlt, hm⟩, fun x H2 y => ?_⟩
          have hd : ds[i]? = some ds[i] := List.getElem?_eq_getElem hlt
          obtain ⟨F2, p2, le2, rx, kp⟩ := ir.yld i _ _ _ _ _ _ _ _ hd le p y
          have ed : ds.drop i = ds[i] :: ds.drop (i + 1) := List.drop_eq_getElem_cons hlt
          rw [ed] at el
          have el : lcH vs ft fe acc (lcF vs h ft fe (ds.drop (i + 1))) (h ds[i] ρ') = some (.ok ys ρe) := el
          obtain ⟨hH2, hf2⟩ := kp D _ hH
          -- the turn's end: what is known at any later state of it
          have fin : ∀ (σ5 : L2.St) (ρ5 : Rho) (F5 H5 : Hp) (acc' : List PyData) (xs' : List V), wipe σ5 vs = wipe S.σ vs → Post K ⟨wipe S.σ vs, ρ', F2, H2⟩ σ5 ρ5 F5 H5 → freeV ρ5 vs = true → ∀ H6, (H6 = H5 ∨ ∃ u, H6 = upd H5 D u) → H6 D = some (.lst xs') → RpA K F5 xs' acc' →
              lcF vs h ft fe (ds.drop (i + 1)) acc' (wipeR ρ5 vs) = some (.ok ys ρe) → Mid (i + 1) H6 := by
            intro σ5 ρ5 F5 H5 acc' xs' ew p5 fv H6 h6 hD6 ra' el'
            have pw := (p2.trans p5).wipe fv
            rw [ew] at pw
            have no2 : ¬ Own (wipe S.σ vs) ρ' D := no
            have hf5 : F5 D = none := p5.nofz D _ hH2 no2 (hf2 hf)
            have no5 : ¬ Own σ5 ρ5 D := p5.not hH2 no2
            have no6 : ¬ Own (wipe S.σ vs) (wipeR ρ5 vs) D := fun ⟨j, b, mm, e1, s1⟩ => no5 ⟨j, b, mm, (wipeR_get.mp e1).1, by rw [← ew] at s1; exact (wipe_some s1).1⟩
            refine ⟨acc', xs', wipeR ρ5 vs, F5, le.trans (le2.trans p5.le), ?_, wipeR_self, hf5, no6, hD6, ra', el'⟩
            rcases h6 with rfl | ⟨u, rfl⟩
            · exact pw
            · exact pw.wrT hf5 no6 nwD
          have wants : g x (wipe S.σ vs) H2 fun σ2 H2 => wipe σ2 vs = wipe (wipe S.σ vs) vs ∧ (wipe σ2 vs = wipe S.σ vs → tG K W0 (BR K) ft σ2 H2 fun b H3 => if b = true then tG K W0 (DR K) fe σ2 H3 fun y H4 => ∃ acc, H4 D = some (.lst acc) ∧ acc.length < sizeLine ∧ Mid (i + 1) (upd H4 D (.lst (acc ++ [y]))) else Mid (i + 1) H3) := by
            refine tw _ _ _ _ ?_
            cases eh : h ds[i] ρ' with
            | none => rw [eh] at el; cases el
            | some oh =>
              cases oh with
              | ex c ρ3 => rw [eh] at el; cases el
              | ok fl ρ3 =>
                cases fl with
                | bk => rw [eh] at el; cases el
                | ct => rw [eh] at el; cases el
                | rt _ => rw [eh] at el; cases el
                | nx =>
                  rw [eh] at el
                  have el : lcT vs fe acc (lcF vs h ft fe (ds.drop (i + 1))) (ft ρ3) = some (.ok ys ρe) := el
                  refine tg W0 ⟨wipe S.σ vs, ρ', F2, H2⟩ _ ρ' F2 H2 x _ ⟨_, fun _ _ => False, fun _ _ => False, fun _ _ => False⟩ ⟨Post.refl p2.hd, _, eh, fun σ4 F4 H4 p4 ew => ?_⟩ rx
                  cases et : ft ρ3 with
                  | none => rw [et] at el; cases el
                  | some ot =>
                    refine ⟨ρ3, F4, Post.refl p4.hd, ot, et, ?_⟩
                    rw [et] at el
                    cases ot with
                    | ex c ρ4 => cases el
                    | ok b ρ4 =>
                      intro b' F5 H5 p5 eb
                      have eb : b' = b := eb
                      subst eb
                      have p45 := p4.trans p5
                      cases b' with
                      | false =>
                        have el : (if freeV ρ4 vs = true then lcF vs h ft fe (ds.drop (i + 1)) acc (wipeR ρ4 vs) else none) = some (.ok ys ρe) := el
                        rw [if_neg Bool.false_ne_true]
                        split at el
                        next fv => exact fin σ4 ρ4 F5 H5 acc xs ew p45 fv H5 (.inl rfl) (p45.keep D _ hH2 no) (RpA.mono (le2.trans p45.le) ra) el
                        next => cases el
                      | true =>
                        have el : lcE vs acc (lcF vs h ft fe (ds.drop (i + 1))) (fe ρ4) = some (.ok ys ρe) := el
                        rw [if_pos rfl]
                        cases ee : fe ρ4 with
                        | none => rw [ee] at el; cases el
                        | some oe =>
                          refine ⟨ρ4, F5, Post.refl p5.hd, oe, ee, ?_⟩
                          rw [ee] at el
                          cases oe with
                          | ex c ρ6 => cases el
                          | ok y ρ6 =>
                            intro yv F6 H6 p6 ry
                            have el : (if acc.length < 16777216 ∧ freeV ρ6 vs = true then lcF vs h ft fe (ds.drop (i + 1)) (acc ++ [y]) (wipeR ρ6 vs) else none) = some (.ok ys ρe) := el
                            split at el
                            next hc =>
                              have p46 := p45.trans p6
                              exact ⟨xs, p46.keep D _ hH2 no, by rw [slen, ra.len]; exact hc.1, fin σ4 ρ6 F6 H6 (acc ++ [y]) (xs ++ [yv]) ew p46 hc.2 _ (.inr ⟨_, rfl⟩) upd_same ((RpA.mono (le2.trans p46.le) ra).app (.cons ry .nil)) el⟩
                            next => cases el
          refine gmono _ _ _ _ _ (fun σ2 H3 ⟨e1, q1⟩ => ?_) wants
          rw [wipe_wipe] at e1
          exact ⟨e1, q1 e1⟩
        · have hi2 : i = ds.length := by omega
          subst hi2
          rw [List.drop_length] at el
          cases el
          refine .inl ⟨ir.stop F' H' le p.hd.le, q _ F' H' (p0.unwipe hv le p hw) ⟨rfl, ⟨D, _, rfl, hH, hf, xs, rfl, ra⟩, fun a ea => ?_⟩⟩
          cases ea
          refine ⟨nwD, fun ⟨j, b, mm, e1, s1⟩ => ?_⟩
          rcases backR_get e1 with ⟨hj, e2⟩ | ⟨hj, e2⟩
          · have := List.all_eq_true.mp hv j hj
            rw [e2] at this
            cases this
          · exact no ⟨j, b, mm, e2, wipe_get s1 hj⟩
  next => cases e
section
variable {X : Cx} {W : WX} {elt tg iter : Expr} {ifs : List Expr} {scope : Scope} {own : List (Str × Nat)} {pos spos py : Pos} {g : TG} {h : PyData → M Fl} {ft : M Bool} {fe : M PyData} {fi : M (List PyData)} {y : Str} {i : Nat}
theorem ev_lc (hc : X.calm = true) (hN : X.N.Nodup) (hi : EvI X W tg iter fi) (ok : BlkOk X.N X.env.scope scope own) (ht : TgR X.K g h) (tw : TgW g (own.map (·.2))) (tm : TgM g)
    (hg : ∀ (s : Shared) (H : Hp) (C : Addr) (cl : List (Str × Addr)) (fp : List Addr), PG (X.blk s H scope (compEnvC scope cl C X.env) fp) tg g) (hq : ∀ (s : Shared) (H : Hp) (C : Addr) (cl : List (Str × Addr)) (fp : List Addr), EvQ (X.blk s H scope (compEnvC scope cl C X.env) fp) W0 ifs ft)
    (he : ∀ (s : Shared) (H : Hp) (C : Addr) (cl : List (Str × Addr)) (fp : List Addr), EvD (X.blk s H scope (compEnvC scope cl C X.env) fp) W0 elt fe) (hs : ∀ x, foldedSetIterable iter X.env x = pure x := by intro _; rfl) :
    EvO X W (.ListComp elt [⟨tg, iter, ifs, 0⟩] scope pos) (fi.bind fun ds => lcM (own.map (·.2)) h ft fe ds) :=
  peI (pe_lc hc hN hi ok hg hq he hs) fun σ H Q ⟨ρ, F, r⟩ => ⟨ρ, F, r.bind.mono fun J H1 ⟨ds, ρ1, F1, ir, p, r1⟩ D hD => lc_read (S := ⟨σ, ρ, F, H⟩) ht tw tm r1 ir D hD⟩
theorem ev_setLc (hc : X.calm = true) (hN : X.N.Nodup) (hy : X.N[i]? = some y) (hyl : X.env.scope.names.lookup y = some .local)
    (hsw : swapsWith (.ListComp elt [⟨tg, iter, ifs, 0⟩] scope pos) (some (.Name y py)) spos.line X.env = pure true) (hi : EvI X W tg iter fi) (ok : BlkOk X.N X.env.scope scope own) (ht : TgR X.K g h) (tw : TgW g (own.map (·.2))) (tm : TgM g)
    (hg : ∀ (s : Shared) (H : Hp) (C : Addr) (cl : List (Str × Addr)) (fp : List Addr), PG (X.blk s H scope (compEnvC scope cl C X.env) fp) tg g) (hq : ∀ (s : Shared) (H : Hp) (C : Addr) (cl : List (Str × Addr)) (fp : List Addr), EvQ (X.blk s H scope (compEnvC scope cl C X.env) fp) W0 ifs ft)
    (he : ∀ (s : Shared) (H : Hp) (C : Addr) (cl : List (Str × Addr)) (fp : List Addr), EvD (X.blk s H scope (compEnvC scope cl C X.env) fp) W0 elt fe) (hs : ∀ x, foldedSetIterable iter X.env x = pure x := by intro _; rfl) :
    EvS X W (.Assign [.Name y py] (.ListComp elt [⟨tg, iter, ifs, 0⟩] scope pos) spos) ((fi.bind fun ds => lcM (own.map (·.2)) h ft fe ds).bind fun r => (Vs.own r).bind fun o => stM i o) :=
  psI (ps_setLc hc hN hy hyl hsw hi ok hg hq he hs) fun D σ H ⟨ρ, F, r⟩ => by
    obtain ⟨ρ', F', R⟩ := tG_S (R := RfR X.K) r
    have R2 : Run X.K W (RfR X.K) ⟨σ, ρ', F', H⟩ (fi.bind fun ds => lcM (own.map (·.2)) h ft fe ds) ρ' F' H (fun v H1 => gName i v σ H1 D.nx) := R.mono fun v H1 ⟨x, ρ1, F1, rx, r1⟩ => by
      obtain ⟨o, ρ2, F2, r2, p2, o2, e2, q2⟩ := own_run r1 rfl rx
      unfold stM at e2
      cases es : stI i o ρ2 with
      | none => rw [es] at e2; cases e2
      | some ρ3 =>
        rw [es] at e2; cases e2
        exact q2 _ F2 H1 (p2.store es r2)
    exact ⟨ρ', F', R2.bind.mono fun J H1 ⟨ds, ρ1, F1, ir, p, r1⟩ D' hD => lc_read (S := ⟨σ, ρ', F', H⟩) ht tw tm r1 ir D' hD⟩
end
end Vs

/-! Vs, the law's end. -/
namespace Vs
open PySem PySem.Spec L2
open PyProof.Rows hiding St

theorem rpInts {K : PySem.W.Frag} {F : Hp} : ∀ ns : List Int, RpA K F (ns.map V.int) (ns.map PyData.int)
  | [] => .nil
  | n :: ns => .cons (.int n) (rpInts ns)
/-- nothing is tracked but (perhaps) the script -/
structure Scr (P : Program) (w : World) (K : PySem.W.Frag) (h : Heap) (a : Addr) (ns : List Int) (H : Hp) : Prop where
  seq : SqL K H a (ns.map V.int)
  ok : HOk P w H h
  only : ∀ b u, H b = some u → b = a ∧ K.lookup a = none ∧ ∃ o xs, u = .frz o (.lst xs)
theorem scr_of {P : Program} {w : World} {K : PySem.W.Frag} {s₁ : Shared} {a : Addr} {vs : List Value} {ns : List Int} (KX : K.In s₁.heap) (ha : s₁.heap.get? a = some { cls := .type "list", data := .seq vs.toArray }) (hi : IntsAre vs ns) (hl : ns.length ≤ sizeLine) : ∃ H, Scr P w K s₁.heap a ns H := by
  have rv : Vals (ns.map V.int) vs := vals_ints hi
  have hv : vs.length = ns.length := hi.length
  cases hk : K.lookup a with
  | some o =>
    have e := KX a o hk
    rw [ha] at e
    cases e
    exact ⟨fun _ => none, .inr ⟨_, vs.toArray, _, hk, rfl, rfl, rfl, by simp only [List.size_toArray]; omega, by simpa using rv⟩, fun b u z => (nomatch (show none = some u from z)), fun b u z => (nomatch (show none = some u from z))⟩
  | none =>
    refine ⟨upd (fun _ => none) a (.frz { cls := .type "list", data := .seq vs.toArray } (.lst (ns.map V.int))), .inl (.inr ⟨_, upd_same⟩), fun b u z => ?_, fun b u z => ?_⟩
    all_goals by_cases hb : b = a
    · subst hb
      rw [upd_same] at z; cases z
      exact ⟨ha, by rw [List.length_map]; exact hl, vs, _, rv, ha⟩
    · rw [upd_ne hb] at z; cases z
    · subst hb
      rw [upd_same] at z; cases z
      exact ⟨rfl, hk, _, _, rfl⟩
    · rw [upd_ne hb] at z; cases z
theorem lawG {P : Program} {w : World} {K : PySem.W.Frag} {mg mb : Str → Option Value} {k : Nat} {fa a : Addr} {fd : FuncData} {x : Str} {g : M O} {s₁ : Shared} {vs : List Value} {ns : List Int}
    (KX : K.In s₁.heap) (hns : s₁.heap.Ns mainGlobals mg) (hb : s₁.heap.Ns builtinsNs mb) (hbb : ∀ x : Str, x ≠ "__name__" → mb x = bootBuiltins x) (hlim : s₁.heap.NoLimit) (hg : s₁.gens = #[])
    (ha : s₁.heap.get? a = some { cls := .type "list", data := .seq vs.toArray }) (hi : IntsAre vs ns) (hl : ns.length ≤ sizeLine) (hr : Room k callerA)
    (Fn : ∀ base : Heap, K.In base → base.Ns mainGlobals mg → FnG P w K mg base k fa fd [x] g) (hbind : ∀ (s : Shared) (u : Value), BindsTo s fd ⟨[u], []⟩ [(x, u)])
    (law : ∃ ρ', g [some (.fz (.list (ns.map .int)))] = some (.ok (.fz (.bool true)) ρ')) :
    codeAny (model P w) callerA (.call (.ref fa) ⟨[.ref a], []⟩) (fun r s' => r = .ok (.ret (.bool true)) ∧ OldK s₁.heap s'.heap ∧ s'.os = s₁.os ∧ AllBare s'.gens) s₁ := by
  obtain ⟨H, seq, ok, only⟩ := scr_of (P := P) (w := w) KX ha hi hl
  -- the rest of the heap, read as the module's ground
  have keepG : ∀ {b : Addr} {o : Obj}, s₁.heap.get? b = some o → H b = none → (hidT s₁.heap H).get? b = some o := fun e n => hidT_get e n
  have noSeq : ∀ {b : Addr} {o : Obj}, s₁.heap.get? b = some o → (∀ its n, o.data ≠ .seq its n) → H b = none := by
    intro b o e hd
    cases q : H b with
    | none => rfl
    | some u =>
      obtain ⟨rfl, _, _⟩ := only b u q
      rw [ha] at e
      cases e
      exact absurd rfl (hd _ _)
  have nsG : ∀ {b : Addr} {m : Str → Option Value}, s₁.heap.Ns b m → (hidT s₁.heap H).Ns b m := by
    rintro b m ⟨o, es, ep, e, d, r⟩
    exact ⟨o, es, ep, keepG e (noSeq e fun its n z => by rw [d] at z; cases z), d, r⟩
  have inG : K.In (hidT s₁.heap H) := by
    intro b o e
    refine keepG (KX b o e) ?_
    cases q : H b with
    | none => rfl
    | some u =>
      obtain ⟨rfl, hk, _⟩ := only b u q
      rw [e] at hk; cases hk
  obtain ⟨mc, lim1, lim2⟩ := hlim
  have env : Env0 P w K mg (hidT s₁.heap H) callerA [] s₁ H :=
    ⟨rfl, ⟨inG, nsG hns, ⟨mb, nsG hb, hbb⟩, mc, nsG lim1, lim2⟩, fun b o e => of_hidT e, Nat.le_of_eq (hidT_size _ _), trivial, fun b hb => (nomatch hb), ok, .of_eq hg⟩
  obtain ⟨ρ', elaw⟩ := law
  have hd : Hd K ([V.ref a].map some) [some (.fz (.list (ns.map .int)))] H H := by
    refine ⟨Le.refl _, rfl, fun i o e => ?_, fun i j b m b' m' c e1 _ _ _ => ?_⟩
    · cases i with
      | zero =>
        simp at e
        subst e
        exact ⟨.ref a, rfl, Rp.lst seq (rpInts ns)⟩
      | succ i => simp at e
    · cases i with
      | zero => simp at e1
      | succ i => simp at e1
  refine codeAny_mono ((Fn _ inG (nsG hns)).run callerA [] s₁ H ⟨[.ref a], []⟩ [.ref a] [.ref a] (fun v _ => v = .bl true) (fun _ _ _ => False) [some (.fz (.list (ns.map .int)))] H rfl hr env (hbind s₁ (.ref a)) (.cons rfl .nil) rfl
    ⟨Post.refl hd, _, elaw, fun v F' H' p r => Rp.bl_of r⟩) ?_
  intro r s' h
  cases r with
  | error e =>
    obtain ⟨_, _, _, _, _, _, _, _, _, _, _, _, z⟩ := h
    exact z.elim
  | ok fl =>
    cases fl with
    | next => exact h.elim
    | brk => exact h.elim
    | cont => exact h.elim
    | ret u =>
      obtain ⟨v, H', os, bare, un, ok', ru, q⟩ := h
      have q : v = .bl true := q
      subst q
      obtain rfl : u = .bool true := ru
      refine ⟨rfl, OldK.of_keep fun b o e => ?_, os, bare⟩
      cases q : H b with
      | none => exact un.keep b o e q (fun z => (nomatch z)) (fun z => (nomatch z))
      | some u =>
        obtain ⟨_, _, ob, xs, rfl⟩ := only b u q
        have e1 : s₁.heap.get? b = some ob := (ok b _ q).1
        have e2 : s'.heap.get? b = some ob := (ok' b _ (un.frzs b ob _ q)).1
        rw [e] at e1
        rw [e2, e1]
/-- the goal that the head leaves, from the law's def and what it is worth -/
theorem walkG {l : PySem.W.OpenLaw} {n k : Nat} {q : Program} {loose : List Str} {XP : (Str → Option Value) → Heap → Prop} {YP : World → Heap → Prop} {d : DefRec} {K : Params → PySem.W.Frag} {x : Str} {g : M O}
    (hn : l.most = some n) (hn2 : n ≤ sizeLine) (hdf : d.params.defaults = []) (hr : Room k callerA) (hY : ∀ (w : World) (h : Heap), YP w h → (K w.params).In h)
    (F : ∀ (w : World) (mg : Str → Option Value) (fa : Addr) (h : Heap), (K w.params).In h → h.Ns mainGlobals mg → mg d.name = some (.ref fa) →
      ∃ fd : FuncData, (∀ (s : Shared) (u : Value), BindsTo s fd ⟨[u], []⟩ [(x, u)]) ∧ ∀ base : Heap, (K w.params).In base → base.Ns mainGlobals mg → FnG l.prog w (K w.params) mg base k fa fd [x] g)
    (law : ∀ ns : List Int, ns.length ≤ n → ∃ ρ', g [some (.fz (.list (ns.map .int)))] = some (.ok (.fz (.bool true)) ρ')) :
    PySem.W.WalkO q loose XP YP l.row.toRowW d [] (fun f vs => PySem.call f vs) := by
  refine Att.attach_call hn hdf fun w s₀ s₁ mg mb fa o pm cd doc a vs ns G Y ho hd hcd hmg hobj hints hlen hg => ?_
  have inK := hY w _ Y
  obtain ⟨fd, hbind, hF⟩ := F w mg fa _ inK G.T.g hmg
  exact lawG inK G.T.g G.T.b G.T.builtins G.T.nolimit hg hobj hints (Nat.le_trans hlen hn2) hr hF hbind (law ns hlen)
end Vs

/-! Vs, the words that a program of ours prints: plain functions, and their rules. -/
namespace Vs
open PySem PySem.Spec L2

/-! ### the words of plain functions -/
def eV (i : Nat) : M Rf := fun ρ => match ρ[i]? with | some (some _) => some (.ok (.s i) ρ) | _ => none
def eC (d : PyData) : M Rf := M.ret (.o (.fz d))
def eOp (h : O → O → Option O) (f g : M Rf) : M Rf := f.bind fun x => g.bind fun y => dr2 h x y
def eTs (h : O → O → Option O) (f g : M Rf) : M Bool := f.bind fun x => g.bind fun y => dr2B h x y
def eUn (h : O → Option O) (f : M Rf) : M Rf := f.bind fun x => dr1 h x
def eCN (h : List O → Option O) (g : M (List Rf)) : M Rf := g.bind fun xs => drN h xs
def aN : M (List PyData) := M.ret []
def aC (f : M Rf) (g : M (List PyData)) : M (List PyData) := (f.bind frz).bind fun d => g.bind fun ds => M.ret (d :: ds)
def splice (d : PyData) (g : M (List PyData)) : M (List PyData) := match d with
  | .list ds => g.bind fun rs => M.ret (ds ++ rs)
  | .tuple ds => g.bind fun rs => M.ret (ds ++ rs)
  | _ => fun _ => none
def aS (f : M Rf) (g : M (List PyData)) : M (List PyData) := (f.bind frz).bind fun d => splice d g
def lN : M (List Rf) := M.ret []
def lC (f : M Rf) (g : M (List Rf)) : M (List Rf) := f.bind fun d => g.bind fun ds => M.ret (d :: ds)
def gN : M (List Arg) := M.ret []
def gF (f : M Rf) (g : M (List Arg)) : M (List Arg) := (f.bind frz).bind fun d => g.bind fun ds => M.ret (.fz d :: ds)
def gB (i : Nat) (g : M (List Arg)) : M (List Arg) := fun ρ => match ρ[i]? with | some (some _) => (g.bind fun ds => M.ret (.br i :: ds)) ρ | _ => none
def eTup (g : M (List PyData)) : M Rf := g.bind fun ds => chk (decide (ds.length ≤ 16777216)) (.o (.fz (.tuple ds)))
def eLst (g : M (List PyData)) : M Rf := g.bind fun ds => chk (decide (ds.length ≤ 16777216)) (.o (.mu false (.lst ds)))
def eDct : M Rf := M.ret (.o (.mu false (.dct [])))
def eSl (f : M Rf) (g h : M (Option Int)) : M Rf := f.bind fun x => g.bind fun l => h.bind fun u => dr1 (fun a => hSl a l u) x
def pN : M (Option Int) := M.ret none
def pI (f : M Rf) : M (Option Int) := f.bind asInt
def eMt (T : String) (h : O → List O → Option O) (f : M Rf) (g : M (List Rf)) : M Rf := f.bind fun x => (ckM T x).bind fun x => g.bind fun ys => drM T h x ys
def eCall (g : M O) (n : Nat) (ga : M (List Arg)) : M Rf := ga.bind fun xs => callN g n xs
def tTr (f : M Rf) : M Bool := f.bind tru
def tNt (t : M Bool) : M Bool := t.bind fun k => M.ret !k
def tAn (t u : M Bool) : M Bool := t.bind fun k => if k then u else M.ret false
def tO (t u : M Bool) : M Bool := t.bind fun k => if k then M.ret true else u
def eNt (f : M Rf) : M Rf := f.bind fun x => (asB x).bind fun k => M.ret (.o (.fz (.bool !k)))
def eAn (f g : M Rf) : M Rf := f.bind fun x => (asB x).bind fun k => if k then g else M.ret (.o (.fz (.bool false)))
def eOr (f g : M Rf) : M Rf := f.bind fun x => (asB x).bind fun k => if k then M.ret (.o (.fz (.bool true))) else g
def eIf (t : M Bool) (f g : M Rf) : M Rf := t.bind fun k => if k then f else g
def eLc (vs : List Nat) (fi : M (List PyData)) (h : PyData → M Fl) (ft : M Bool) (fe : M Rf) : M Rf := fi.bind fun ds => lcM vs h ft (fe.bind frz) ds
def iV (f : M Rf) : M (List PyData) := (f.bind frz).bind iterD
def iR1 (h : M (List PyData)) : M (List PyData) := h.bind rng1
def iR2 (h : M (List PyData)) : M (List PyData) := h.bind rng2
def sN : M Fl := M.ret .nx
def sRet (f : M Rf) : M Fl := f.bind fun r => M.ret (.rt r)
def sRetN : M Fl := M.ret (.rt (.o (.fz .none)))
def sBk : M Fl := M.ret .bk
def sCt : M Fl := M.ret .ct
def sEx (f : M Rf) : M Fl := f.bind fun _ => M.ret .nx
def sIf (t : M Bool) (f g : M Fl) : M Fl := t.bind fun k => if k then f else g
def sSet (i : Nat) (f : M Rf) : M Fl := f.bind fun r => (Vs.own r).bind fun o => stM i o
def sAsg (f : M Rf) (h : PyData → M Fl) : M Fl := (f.bind frz).bind h
def sApp (i : Nat) (f : M Rf) : M Fl := fun ρ => match ρ[i]? with | some (some (.mu _ (.lst _))) => ((f.bind frz).bind fun d => upS i (muApp d)) ρ | _ => none
def sSt (i : Nat) (f g : M Rf) : M Fl := (f.bind frz).bind fun d => fun ρ => match ρ[i]? with | some (some _) => ((g.bind frz).bind fun k => upS i (muSet k d)) ρ | _ => none
def sFor (fi : M (List PyData)) (h : PyData → M Fl) (fb : M Fl) : M Fl := fi.bind fun ds => forF h fb ds

/-! ### defs of the module -/
/-- the def st stands at f under the name x -/
structure Def (K : PySem.W.Frag) (mg : Str → Option Value) (x : Str) (st : Stmt) (ps : List Str) (f : Addr) (fd : FuncData) : Prop where
  fu : Fun K x x st f fd
  gl : mg x = some (.ref f)
  bi : Binds K fd ps []
/-- what the module's name x does when it is called -/
structure Cal (P : Program) (w : World) (K : PySem.W.Frag) (mg : Str → Option Value) (base : Heap) (k : Nat) (x : Str) (n : Nat) (g : M O) : Prop where
  ex : ∃ f fd ps, ps.length = n ∧ FnG P w K mg base k f fd ps g ∧ mg x = some (.ref f) ∧ PySem.W.keepIn K (.ref f) = true ∧ Binds K fd ps []
section
variable {P : Program} {w : World} {K : PySem.W.Frag} {mg : Str → Option Value} {base : Heap} {x : Str} {st : Stmt} {ps N : List Str} {f : Addr} {fd : FuncData} {k j n : Nat} {g : M O}
theorem Cal.mono (c : Cal P w K mg base j x n g) (h : j ≤ k) : Cal P w K mg base k x n g := by
  obtain ⟨f, fd, ps, e, F, r⟩ := c.ex
  exact ⟨f, fd, ps, e, F.mono h, r⟩
theorem Def.cal (d : Def K mg x st ps f fd) (F : FnG P w K mg base k f fd ps g) : Cal P w K mg base k x ps.length g := ⟨f, fd, ps, rfl, F, d.gl, d.fu.kp, d.bi⟩
/-- a recursion's start: worth nothing -/
theorem FnG.zero : FnG P w K mg base k f fd ps (fun _ => none) := ⟨fun A outer s H args us vs Q E ρ F hg hr e0 hb r hl R => by
  obtain ⟨_, o, e, _⟩ := R
  cases e⟩
end
section
variable {X : Cx} {W : WX} {e : Expr} {es : List Expr} {ga : M (List Arg)} {pos p : Pos} {k j n : Nat} {x : Str} {g : M O}
theorem r_call (c : Cal X.prog X.w X.K X.mg X.base j x n g) (hk : j ≤ k) (hr : Room k X.A) (hgd : X.A.guards = some []) (hg : Gl X x) (tk : Takes X W) (ha : EvG X W (e :: es) ga) (hdb : (x == ("__debug__" : Str)) = false := by decide)
    (he : starEach (e :: es) X.env = (false, eval e X.env) :: starEach es X.env := by rfl) (hpl : (backTo pos (starEach es X.env)).any (·.1) = false := by rfl) : EvO X W (.Call (.Name x p) (e :: es) [] pos) (eCall g n ga) := by
  obtain ⟨f, fd, ps, rfl, F, hm, hkp, hb⟩ := c.ex
  exact ev_call F (hr.mono hk) hgd hg hm hkp hb tk ha hdb he hpl
theorem r_star {f : M Rf} {h : M (List PyData)} {sp : Pos} (ha : EvO X W e f) (hr : EvA X W es h) (hs : starEach (.Starred e sp :: es) X.env = (true, eval e X.env) :: starEach es X.env := by rfl) : EvA X W (.Starred e sp :: es) (aS f h) := evA_star (ev_frz ha) hr hs
theorem r_cons {f : M Rf} {h : M (List PyData)} (ha : EvO X W e f) (hr : EvA X W es h) (hs : starEach (e :: es) X.env = (false, eval e X.env) :: starEach es X.env := by rfl) : EvA X W (e :: es) (aC f h) := evA_cons (ev_frz ha) hr hs
theorem hu200 (hr : Room k X.A) : X.A.units + 200 < cLine := by have := hr.un; omega
end
section
variable {P : Program} {w : World} {K : PySem.W.Frag} {mg : Str → Option Value} {base : Heap} {N : List Str} {qual : Str} {st : Stmt} {f : Addr} {cdv : Value} {A : Around} {outer : List Env} {s : Shared} {H : Hp} {E : XK}
theorem cx_passes : PassesOwn (model P w) (cx P w K mg base N qual st f cdv A outer s H E).A (cx P w K mg base N qual st f cdv A outer s H E).env (cx P w K mg base N qual st f cdv A outer s H E).xe :=
  passes_of (X := cx P w K mg base N qual st f cdv A outer s H E) (K := fun e s'' => L2.CX P w outer H s E e s'') (E₁ := fun e' s'' => L2.CX P w outer H s E e' s'') rfl
end
end Vs

/-! Vs, walks over a list that a name holds and that may still be changed. -/
namespace Vs
open PySem PySem.Spec L2

/-! ### lending a slot to a loop -/
theorem list_set_get {ρ : Rho} {i : Nat} {x : Option O} (h : i < ρ.length) : (ρ.set i x)[i]? = some x := List.getElem?_set_self h
section
variable {K : PySem.W.Frag} {σ σ' : L2.St} {ρ ρ' : Rho} {F F' H H' : Hp} {i : Nat} {b b' : Bool} {m m' : Mu}
theorem Hd.flag (h : Hd K σ ρ F H) (e : ρ[i]? = some (some (.mu b m))) : Hd K σ (ρ.set i (some (.mu b' m))) F H := by
  have hl := (List.getElem?_eq_some_iff.mp e).1
  refine ⟨h.le, by rw [List.length_set]; exact h.len, fun j o e1 => ?_, fun j k b1 m1 b2 m2 a e1 e2 s1 s2 => ?_⟩
  · rcases get_set e1 with ⟨rfl, z⟩ | ⟨_, z⟩
    · cases z
      obtain ⟨v, h1, h2⟩ := h.at_ j _ e
      exact ⟨v, h1, h2⟩
    · exact h.at_ j o z
  · rcases get_set e1 with ⟨rfl, z1⟩ | ⟨_, z1⟩
    · rcases get_set e2 with ⟨rfl, z2⟩ | ⟨_, z2⟩
      · rfl
      · exact h.sep j k b m b2 m2 a e z2 s1 s2
    · rcases get_set e2 with ⟨rfl, z2⟩ | ⟨_, z2⟩
      · exact h.sep j k b1 m1 b m a z1 e s1 s2
      · exact h.sep j k b1 m1 b2 m2 a z1 z2 s1 s2
theorem own_flag (e : ρ[i]? = some (some (.mu b m))) {a : Addr} : Own σ (ρ.set i (some (.mu b' m'))) a ↔ Own σ ρ a := by
  have hl := (List.getElem?_eq_some_iff.mp e).1
  constructor
  · rintro ⟨j, b1, m1, e1, s⟩
    rcases get_set e1 with ⟨rfl, _⟩ | ⟨_, z⟩
    · exact ⟨j, b, m, e, s⟩
    · exact ⟨j, b1, m1, z, s⟩
  · rintro ⟨j, b1, m1, e1, s⟩
    by_cases hj : j = i
    · subst hj; exact ⟨j, b', m', list_set_get hl, s⟩
    · exact ⟨j, b1, m1, by rw [set_ne hj]; exact e1, s⟩
/-- what was lent comes back -/
theorem Post.unlend (e : ρ[i]? = some (some (.mu b m))) (p : Post K ⟨σ, ρ.set i (some (.mu true m)), F, H⟩ σ' ρ' F' H') (e' : ρ'[i]? = some (some (.mu true m'))) : Post K ⟨σ, ρ, F, H⟩ σ' (ρ'.set i (some (.mu b m'))) F' H' := by
  have hl := (List.getElem?_eq_some_iff.mp e).1
  have hl' := (List.getElem?_eq_some_iff.mp e').1
  refine ⟨p.hd.flag e', p.le, fun c u h n => p.keep c u h fun z => n ((own_flag e).mp z), fun c u h n f => p.nofz c u h (fun z => n ((own_flag e).mp z)) f, fun c q => ?_, fun j m1 h1 => ?_⟩
  · rcases p.own c ((own_flag e').mp q) with z | z
    · exact .inl ((own_flag e).mp z)
    · exact .inr z
  · by_cases hj : j = i
    · subst hj
      have h1' : ρ[j]? = some (some (.mu true m1)) := h1
      rw [e] at h1'
      cases h1'
      obtain ⟨s1, _⟩ := p.bor j m (list_set_get hl)
      exact ⟨s1, m', list_set_get hl'⟩
    · obtain ⟨s1, m2, s2⟩ := p.bor j m1 (by show (ρ.set i _)[j]? = _; rw [set_ne hj]; exact h1)
      exact ⟨s1, m2, by rw [set_ne hj]; exact s2⟩
theorem New.flag {a : Addr} (e : ρ[i]? = some (some (.mu b m))) (h : New ⟨σ, ρ.set i (some (.mu b' m')), F, H⟩ a) : New ⟨σ, ρ, F, H⟩ a := h.imp (own_flag e).mp fun z => z
end

/-! ### for x in xs -/
def unl (i : Nat) (b : Bool) (ρ : Rho) : Option Rho := match ρ[i]? with
  | some (some (.mu true m)) => some (ρ.set i (some (.mu b m)))
  | _ => none
def unlF (i : Nat) (b : Bool) : Option (Out Fl) → Option (Out Fl)
  | some (.ok (.rt (.o (.fz d))) ρ) => (unl i b ρ).map (.ok (.rt (.o (.fz d))))
  | some (.ok (.rt (.s j)) ρ) => (match ρ[j]? with | some (some (.fz d)) => (unl i b ρ).map (.ok (.rt (.o (.fz d)))) | _ => none)
  | some (.ok (.rt _) ρ) => none
  | some (.ok fl ρ) => (unl i b ρ).map (.ok fl)
  | some (.ex c ρ) => (unl i b ρ).map (.ex c)
  | none => none
def forL (i : Nat) (h : PyData → M Fl) (fb : M Fl) : Nat → Nat → Rho → Option (Out Fl)
  | 0, _, _ => none
  | n + 1, k, ρ => match ρ[i]? with
    | some (some (.mu true (.lst ds))) => (match ds[k]? with
      | some d => forH fb (forL i h fb n (k + 1)) (h d ρ)
      | none => some (.ok .nx ρ))
    | _ => none
def sForL (i : Nat) (h : PyData → M Fl) (fb : M Fl) : M Fl := fun ρ => match ρ[i]? with
  | some (some (.mu b (.lst ds))) => unlF i b (forL i h fb (ds.length + 1) 0 (ρ.set i (some (.mu true (.lst ds)))))
  | _ => sFor (iV (eV i)) h fb ρ
theorem unl_some {i : Nat} {b : Bool} {ρ ρ' : Rho} (e : unl i b ρ = some ρ') : ∃ m, ρ[i]? = some (some (.mu true m)) ∧ ρ' = ρ.set i (some (.mu b m)) := by
  unfold unl at e
  split at e
  · rename_i m hm
    cases e
    exact ⟨m, hm, rfl⟩
  · cases e
section
variable {X : Cx} {W : WX} {tg : Expr} {body : List Stmt} {g : TG} {h : PyData → M Fl} {fb : M Fl} {pos np : Pos} {x : Str} {i : Nat}
theorem ev_forL (hp : PassesOwn (model X.prog X.w) X.A X.env X.xe) (hc : X.calm = true) (hv : PE X (.Name x np) (tVar i)) (hv2 : EvO X W (.Name x np) (eV i)) (hg : PG X tg g) (ht : TgR X.K g h) (hb : EvB X W body fb) (hs : ∀ z, foldedSetIterable (.Name x np) X.env z = pure z := by intro _; rfl) :
    EvS X W (.For tg (.Name x np) body [] pos) (sForL i h fb) := ⟨fun pins s σ H D I ⟨ρ, F, p0, o0, e0, q0⟩ => by
  unfold sForL at e0
  split at e0
  · rename_i b ds hi
    have hl := (List.getElem?_eq_some_iff.mp hi).1
    obtain ⟨v, hv', a, u, rfl, hu, hf, xs, rfl, rx⟩ := p0.hd.at_ i _ hi
    -- the run inside, the slot lent
    cases eL : forL i h fb (ds.length + 1) 0 (ρ.set i (some (.mu true (.lst ds)))) with
    | none => rw [eL] at e0; cases e0
    | some oL =>
      rw [eL] at e0
      let S1 : Sta := ⟨σ, ρ.set i (some (.mu true (.lst ds))), F, H⟩
      have pS : Post X.K S1 σ (ρ.set i (some (.mu true (.lst ds)))) F H := Post.refl (p0.hd.flag hi)
      have finL : FinS X.K W S1 D oL := by
        cases oL with
        | ex c ρ' =>
          have e0 : (unl i b ρ').map (Out.ex (α := Fl) c) = some o0 := e0
          obtain ⟨ρ2, e2, rfl⟩ := Option.map_eq_some_iff.mp e0
          obtain ⟨m', e3, rfl⟩ := unl_some e2
          exact fun σ' F' H' p => q0 σ' F' H' (p.unlend hi e3)
        | ok fl ρ' =>
          cases fl with
          | nx =>
            have e0 : (unl i b ρ').map (Out.ok (α := Fl) .nx) = some o0 := e0
            obtain ⟨ρ2, e2, rfl⟩ := Option.map_eq_some_iff.mp e0
            obtain ⟨m', e3, rfl⟩ := unl_some e2
            exact fun σ' F' H' p => q0 σ' F' H' (p.unlend hi e3)
          | bk =>
            have e0 : (unl i b ρ').map (Out.ok (α := Fl) .bk) = some o0 := e0
            obtain ⟨ρ2, e2, rfl⟩ := Option.map_eq_some_iff.mp e0
            obtain ⟨m', e3, rfl⟩ := unl_some e2
            exact fun σ' F' H' p => q0 σ' F' H' (p.unlend hi e3)
          | ct =>
            have e0 : (unl i b ρ').map (Out.ok (α := Fl) .ct) = some o0 := e0
            obtain ⟨ρ2, e2, rfl⟩ := Option.map_eq_some_iff.mp e0
            obtain ⟨m', e3, rfl⟩ := unl_some e2
            exact fun σ' F' H' p => q0 σ' F' H' (p.unlend hi e3)
          | rt r =>
            cases r with
            | s j =>
              have e0 : (match ρ'[j]? with | some (some (.fz d)) => (unl i b ρ').map (Out.ok (.rt (.o (.fz d)))) | _ => none) = some o0 := e0
              split at e0
              · rename_i d hj
                obtain ⟨ρ2, e2, rfl⟩ := Option.map_eq_some_iff.mp e0
                obtain ⟨m', e3, rfl⟩ := unl_some e2
                intro v σ' F' H' p rr
                obtain ⟨v2, h2, r2⟩ := p.hd.at_ j _ hj
                have rr : σ'[j]? = some (some v) := rr
                rw [rr] at h2; cases h2
                exact q0 v σ' F' H' (p.unlend hi e3) r2
              · cases e0
            | o o =>
              cases o with
              | mu _ _ => cases e0
              | fz d =>
                have e0 : (unl i b ρ').map (Out.ok (.rt (.o (.fz d)))) = some o0 := e0
                obtain ⟨ρ2, e2, rfl⟩ := Option.map_eq_some_iff.mp e0
                obtain ⟨m', e3, rfl⟩ := unl_some e2
                exact fun v σ' F' H' p r => q0 v σ' F' H' (p.unlend hi e3) r
      refine (ps_for hp hc (pi_list hv) hg hb hs).run pins s σ H D I ⟨.ref a, hv', a, rfl, ⟨xs, .of hu⟩, ?_⟩
      refine ⟨fun k m σ' H' => ∃ ρ' F', Post X.K S1 σ' ρ' F' H' ∧ forL i h fb (m + 1) k ρ' = some oL, ⟨ds.length, _, F, pS, eL⟩, ?_⟩
      rintro k m σ' H' ⟨ρ', F', p, e⟩
      obtain ⟨s1, m', s2⟩ := p.bor i (.lst ds) (list_set_get hl)
      have s1 : σ'[i]? = σ[i]? := s1
      obtain ⟨v2, hv2, a2, u2, rfl, hu2, hf2, mr⟩ := p.hd.at_ i _ s2
      rw [s1, hv'] at hv2; cases hv2
      unfold forL at e
      cases m' with
      | dct es => rw [s2] at e; cases e
      | lst ds' =>
        obtain ⟨xs', rfl, rx'⟩ := mr
        rw [s2] at e
        simp only at e
        cases hk : ds'[k]? with
        | none =>
          rw [hk] at e
          cases e
          have hlen : ds'.length ≤ k := List.getElem?_eq_none_iff.mp hk
          exact .inl ⟨⟨xs', .of hu2, by rw [rx'.len]; exact hlen⟩, finL σ' F' H' p⟩
        | some d =>
          rw [hk] at e
          simp only at e
          obtain ⟨w, hw, rw'⟩ := rx'.get hk
          refine .inr ⟨⟨xs', w, .of hu2, hw⟩, fun σ2 H2 => ∃ m', m' < m ∧ ∃ ρ2 F2, Post X.K S1 σ2 ρ2 F2 H2 ∧ forL i h fb (m' + 1) (k + 1) ρ2 = some oL, fun σ2 H2 hh => hh, fun y H2 yl => ?_⟩
          obtain ⟨rfl, yl⟩ := yl
          have := yl xs' (.of hu2)
          rw [hw] at this; cases this
          cases eh : h d ρ' with
          | none => rw [eh] at e; cases e
          | some oh =>
            cases oh with
            | ex c ρ3 => rw [eh] at e; cases e
            | ok fl ρ3 =>
              cases fl with
              | bk => rw [eh] at e; cases e
              | ct => rw [eh] at e; cases e
              | rt _ => rw [eh] at e; cases e
              | nx =>
                rw [eh] at e
                have e : forK (forL i h fb m (k + 1)) (fb ρ3) = some oL := e
                have again : ∀ {ρ6 : Rho} {a : L2.St} {b c : Hp}, forL i h fb m (k + 1) ρ6 = some oL → Post X.K S1 a ρ6 b c → ∃ m', m' < m ∧ ∃ ρ2 F2, Post X.K S1 a ρ2 F2 c ∧ forL i h fb (m' + 1) (k + 1) ρ2 = some oL := by
                  intro ρ6 a b c e pp
                  cases m with
                  | zero => cases e
                  | succ m => exact ⟨m, Nat.lt_succ_self _, ρ6, b, pp, e⟩
                refine ht W ⟨σ', ρ', F', H2⟩ σ' ρ' F' H2 w d ⟨_, D.rt, D.bk, D.ct⟩ ⟨Post.refl p.hd, _, eh, fun σ4 F4 H4 p4 => ?_⟩ rw'
                have p5 := p.trans p4
                refine ⟨ρ3, F4, Post.refl p4.hd, ?_⟩
                cases eb : fb ρ3 with
                | none => rw [eb] at e; cases e
                | some ob =>
                  refine ⟨ob, rfl, ?_⟩
                  rw [eb] at e
                  cases ob with
                  | ex c ρ6 => cases e; exact fun a b c z => finL a b c (p5.trans z)
                  | ok fl ρ6 =>
                    cases fl with
                    | nx => exact fun a b c z => again e (p5.trans z)
                    | ct => exact fun a b c z => again e (p5.trans z)
                    | bk => cases e; exact fun a b c z => finL a b c (p5.trans z)
                    | rt r => cases e; exact fun v a b c z k => finL v a b c (p5.trans z) (rfUp p5 k)
  · exact (ev_for hp hc (evI_val hv2) hg ht hb hs).run pins s σ H D I ⟨ρ, F, p0, o0, e0, q0⟩⟩
end
end Vs

/-! Vs, comprehensions over a list that a name holds and that may still be changed. -/
namespace Vs
open PySem PySem.Spec L2

def lcLive (i : Nat) (vs : List Nat) (h : PyData → M Fl) (ft : M Bool) (fe : M PyData) : Nat → Nat → List PyData → Rho → Option (Out (List PyData))
  | 0, _, _, _ => none
  | n + 1, k, acc, ρ => match ρ[i]? with
    | some (some (.mu true (.lst ds))) => (match ds[k]? with
      | some d => lcH vs ft fe acc (lcLive i vs h ft fe n (k + 1)) (h d ρ)
      | none => some (.ok acc ρ))
    | _ => none
def lcEnd (i : Nat) (b : Bool) (vs : List Nat) (ρ : Rho) : Option (Out (List PyData)) → Option (Out Rf)
  | some (.ok ys ρ') => (unl i b (backR ρ ρ' vs)).map (.ok (.o (.mu false (.lst ys))))
  | _ => none
def lcL (i : Nat) (vs : List Nat) (h : PyData → M Fl) (ft : M Bool) (fe : M PyData) : M Rf := fun ρ => match ρ[i]? with
  | some (some (.mu b (.lst ds))) => if freeV ρ vs = true then lcEnd i b vs (ρ.set i (some (.mu true (.lst ds)))) (lcLive i vs h ft fe (ds.length + 1) 0 [] (wipeR (ρ.set i (some (.mu true (.lst ds)))) vs)) else none
  | _ => ((iV (eV i)).bind fun ds => lcM vs h ft fe ds) ρ
theorem lcL_read {X : Cx} {W : WX} {g : TG} {h : PyData → M Fl} {ft : M Bool} {fe : M PyData} {vs : List Nat} {σ : L2.St} {ρ : Rho} {F H : Hp} {Q : VK} {i : Nat} {b : Bool} {ds : List PyData} (tg : TgR X.K g h) (tw : TgW g vs) (gmono : TgM g)
    (hi : ρ[i]? = some (some (.mu b (.lst ds)))) (r : Run X.K W (RfR X.K) ⟨σ, ρ, F, H⟩ (lcL i vs h ft fe) ρ F H Q) : tLc (iList X.K (tVar i)) g (tG X.K W0 (BR X.K) ft) (tG X.K W0 (DR X.K) fe) vs σ H Q := by
  obtain ⟨p0, o, e, q⟩ := r
  have hl := (List.getElem?_eq_some_iff.mp hi).1
  obtain ⟨v, hv', a, u, rfl, hu, hfa, xs0, rfl, rx0⟩ := p0.hd.at_ i _ hi
  refine ⟨.ref a, hv', a, rfl, ⟨xs0, .of hu⟩, fun D hD => ?_⟩
  unfold lcL at e
  rw [hi] at e
  simp only at e
  split at e
  next hfree =>
    cases el : lcLive i vs h ft fe (ds.length + 1) 0 [] (wipeR (ρ.set i (some (.mu true (.lst ds)))) vs) with
    | none => rw [el] at e; cases e
    | some ol =>
      cases ol with
      | ex c ρ' => rw [el] at e; cases e
      | ok ys ρe =>
        rw [el] at e
        have e : (unl i b (backR (ρ.set i (some (.mu true (.lst ds)))) ρe vs)).map (Out.ok (Rf.o (.mu false (.lst ys)))) = some o := e
        obtain ⟨ρ2, e2, rfl⟩ := Option.map_eq_some_iff.mp e
        obtain ⟨mE, e3, rfl⟩ := unl_some e2
        let S1 : Sta := ⟨σ, ρ.set i (some (.mu true (.lst ds))), F, H⟩
        have pS : Post X.K S1 σ (ρ.set i (some (.mu true (.lst ds)))) F H := Post.refl (p0.hd.flag hi)
        have iv : i ∉ vs := fun hx => by
          have := List.all_eq_true.mp hfree i hx
          rw [hi] at this
          cases this
        have free1 : freeV (ρ.set i (some (.mu true (.lst ds)))) vs = true := by
          refine List.all_eq_true.mpr fun j hj => ?_
          have hji : j ≠ i := by rintro rfl; exact iv hj
          have := List.all_eq_true.mp hfree j hj
          rw [set_ne hji]
          exact this
        have nwD : New S1 D := .inr hD
        let Mid : Nat → Nat → Hp → Prop := fun k n H' => ∃ (acc : List PyData) (xs : List V) (ρ' : Rho) (F' : Hp), Le F F' ∧ Post X.K S1 (wipe σ vs) ρ' F' H' ∧ (∀ i ∈ vs, ∀ o, ρ'[i]? ≠ some (some o)) ∧ F' D = none ∧ ¬ Own (wipe σ vs) ρ' D ∧ H' D = some (.lst xs) ∧ RpA X.K F' xs acc ∧ lcLive i vs h ft fe n k acc ρ' = some (.ok ys ρe)
        refine ⟨fun k m H' => Mid k (m + 1) H', ⟨ds.length, [], [], _, F, Le.refl _, (pS.wipe free1).newO hD, wipeR_self, p0.gone hD, (pS.wipe free1).hd.notOwn hD, upd_same, .nil, el⟩, ?_⟩
        rintro k m H' ⟨acc, xs, ρ', F', le, p, hw, hf, no, hH, ra, el⟩
        obtain ⟨s1, m', s2⟩ := p.bor i (.lst ds) (list_set_get hl)
        have s1 : (wipe σ vs)[i]? = σ[i]? := s1
        obtain ⟨v2, hv2, a2, u2, rfl, hu2, hf2, mr⟩ := p.hd.at_ i _ s2
        rw [s1, hv'] at hv2; cases hv2
        unfold lcLive at el
        cases m' with
        | dct es => rw [s2] at el; cases el
        | lst ds' =>
          obtain ⟨xs', rfl, rx'⟩ := mr
          rw [s2] at el
          simp only at el
          cases hk : ds'[k]? with
          | none =>
            rw [hk] at el
            cases el
            have hlen : ds'.length ≤ k := List.getElem?_eq_none_iff.mp hk
            have pu := pS.unwipe free1 le p hw
            refine .inl ⟨⟨xs', .of hu2, by rw [rx'.len]; exact hlen⟩, q _ F' H' (pu.unlend hi e3) ⟨rfl, ⟨D, _, rfl, hH, hf, xs, rfl, ra⟩, fun a ea => ?_⟩⟩
            cases ea
            refine ⟨New.flag hi nwD, fun z => ?_⟩
            obtain ⟨j, b1, mm, e1, s1⟩ := (own_flag e3).mp z
            rcases backR_get e1 with ⟨hj, e2⟩ | ⟨hj, e2⟩
            · have := List.all_eq_true.mp free1 j hj
              rw [e2] at this
              cases this
            · exact no ⟨j, b1, mm, e2, wipe_get s1 hj⟩
          | some d =>
            rw [hk] at el
            simp only at el
            obtain ⟨w, hw', rw'⟩ := rx'.get hk
            refine .inr ⟨⟨xs', w, .of hu2, hw'⟩, fun H2 => ∃ m', m' < m ∧ Mid (k + 1) (m' + 1) H2, fun H2 hh => hh, fun y H2 yl => ?_⟩
            obtain ⟨rfl, yl⟩ := yl
            have := yl xs' (.of hu2)
            rw [hw'] at this; cases this
            have fin : ∀ (σ5 : L2.St) (ρ5 : Rho) (F5 H5 : Hp) (acc' : List PyData) (xs' : List V), wipe σ5 vs = wipe σ vs → Post X.K ⟨wipe σ vs, ρ', F', H2⟩ σ5 ρ5 F5 H5 → freeV ρ5 vs = true → ∀ H6, (H6 = H5 ∨ ∃ u, H6 = upd H5 D u) → H6 D = some (.lst xs') → RpA X.K F5 xs' acc' →
                lcLive i vs h ft fe m (k + 1) acc' (wipeR ρ5 vs) = some (.ok ys ρe) → ∃ m', m' < m ∧ Mid (k + 1) (m' + 1) H6 := by
              intro σ5 ρ5 F5 H5 acc' xs' ew p5 fv H6 h6 hD6 ra' el'
              have pw := (p.trans p5).wipe fv
              rw [ew] at pw
              have hf5 : F5 D = none := p5.nofz D _ hH no hf
              have no5 : ¬ Own σ5 ρ5 D := p5.not hH no
              have no6 : ¬ Own (wipe σ vs) (wipeR ρ5 vs) D := fun ⟨j, b, mm, e1, s1⟩ => no5 ⟨j, b, mm, (wipeR_get.mp e1).1, by rw [← ew] at s1; exact (wipe_some s1).1⟩
              cases m with
              | zero => cases el'
              | succ m =>
                refine ⟨m, Nat.lt_succ_self _, acc', xs', wipeR ρ5 vs, F5, le.trans p5.le, ?_, wipeR_self, hf5, no6, hD6, ra', el'⟩
                rcases h6 with rfl | ⟨u, rfl⟩
                · exact pw
                · exact pw.wrT hf5 no6 nwD
            have wants : g w (wipe σ vs) H2 fun σ2 H3 => wipe σ2 vs = wipe (wipe σ vs) vs ∧ (wipe σ2 vs = wipe σ vs → tG X.K W0 (BR X.K) ft σ2 H3 fun b H3 => if b = true then tG X.K W0 (DR X.K) fe σ2 H3 fun y H4 => ∃ acc, H4 D = some (.lst acc) ∧ acc.length < sizeLine ∧ ∃ m', m' < m ∧ Mid (k + 1) (m' + 1) (upd H4 D (.lst (acc ++ [y]))) else ∃ m', m' < m ∧ Mid (k + 1) (m' + 1) H3) := by
              refine tw _ _ _ _ ?_
              cases eh : h d ρ' with
              | none => rw [eh] at el; cases el
              | some oh =>
                cases oh with
                | ex c ρ3 => rw [eh] at el; cases el
                | ok fl ρ3 =>
                  cases fl with
                  | bk => rw [eh] at el; cases el
                  | ct => rw [eh] at el; cases el
                  | rt _ => rw [eh] at el; cases el
                  | nx =>
                    rw [eh] at el
                    have el : lcT vs fe acc (lcLive i vs h ft fe m (k + 1)) (ft ρ3) = some (.ok ys ρe) := el
                    refine tg W0 ⟨wipe σ vs, ρ', F', H2⟩ _ ρ' F' H2 w d ⟨_, fun _ _ => False, fun _ _ => False, fun _ _ => False⟩ ⟨Post.refl p.hd, _, eh, fun σ4 F4 H4 p4 ew => ?_⟩ rw'
                    cases et : ft ρ3 with
                    | none => rw [et] at el; cases el
                    | some ot =>
                      refine ⟨ρ3, F4, Post.refl p4.hd, ot, et, ?_⟩
                      rw [et] at el
                      cases ot with
                      | ex c ρ4 => cases el
                      | ok b ρ4 =>
                        intro b' F5 H5 p5 eb
                        have eb : b' = b := eb
                        subst eb
                        have p45 := p4.trans p5
                        cases b' with
                        | false =>
                          have el : (if freeV ρ4 vs = true then lcLive i vs h ft fe m (k + 1) acc (wipeR ρ4 vs) else none) = some (.ok ys ρe) := el
                          rw [if_neg Bool.false_ne_true]
                          split at el
                          next fv => exact fin σ4 ρ4 F5 H5 acc xs ew p45 fv H5 (.inl rfl) (p45.keep D _ hH no) (RpA.mono p45.le ra) el
                          next => cases el
                        | true =>
                          have el : lcE vs acc (lcLive i vs h ft fe m (k + 1)) (fe ρ4) = some (.ok ys ρe) := el
                          rw [if_pos rfl]
                          cases ee : fe ρ4 with
                          | none => rw [ee] at el; cases el
                          | some oe =>
                            refine ⟨ρ4, F5, Post.refl p5.hd, oe, ee, ?_⟩
                            rw [ee] at el
                            cases oe with
                            | ex c ρ6 => cases el
                            | ok y ρ6 =>
                              intro yv F6 H6 p6 ry
                              have el : (if acc.length < 16777216 ∧ freeV ρ6 vs = true then lcLive i vs h ft fe m (k + 1) (acc ++ [y]) (wipeR ρ6 vs) else none) = some (.ok ys ρe) := el
                              split at el
                              next hc =>
                                have p46 := p45.trans p6
                                exact ⟨xs, p46.keep D _ hH no, by rw [slen, ra.len]; exact hc.1, fin σ4 ρ6 F6 H6 (acc ++ [y]) (xs ++ [yv]) ew p46 hc.2 _ (.inr ⟨_, rfl⟩) upd_same ((RpA.mono p46.le ra).app (.cons ry .nil)) el⟩
                              next => cases el
            refine gmono _ _ _ _ _ (fun σ2 H3 ⟨e1, q1⟩ => ?_) wants
            rw [wipe_wipe] at e1
            exact ⟨e1, q1 e1⟩
  next => cases e
section
variable {X : Cx} {W : WX} {elt tg : Expr} {ifs : List Expr} {scope : Scope} {own : List (Str × Nat)} {pos spos py np : Pos} {g : TG} {h : PyData → M Fl} {ft : M Bool} {fe : M PyData} {y x : Str} {i j : Nat}
theorem ev_lcL (hc : X.calm = true) (hN : X.N.Nodup) (hv : PE X (.Name x np) (tVar i)) (hv2 : EvO X W (.Name x np) (eV i)) (ok : BlkOk X.N X.env.scope scope own) (ht : TgR X.K g h) (tw : TgW g (own.map (·.2))) (tm : TgM g)
    (hg : ∀ (s : Shared) (H : Hp) (C : Addr) (cl : List (Str × Addr)) (fp : List Addr), PG (X.blk s H scope (compEnvC scope cl C X.env) fp) tg g) (hq : ∀ (s : Shared) (H : Hp) (C : Addr) (cl : List (Str × Addr)) (fp : List Addr), EvQ (X.blk s H scope (compEnvC scope cl C X.env) fp) W0 ifs ft)
    (he : ∀ (s : Shared) (H : Hp) (C : Addr) (cl : List (Str × Addr)) (fp : List Addr), EvD (X.blk s H scope (compEnvC scope cl C X.env) fp) W0 elt fe) (hs : ∀ z, foldedSetIterable (.Name x np) X.env z = pure z := by intro _; rfl) :
    EvO X W (.ListComp elt [⟨tg, .Name x np, ifs, 0⟩] scope pos) (lcL i (own.map (·.2)) h ft fe) := ⟨fun pins s σ H Q I ⟨ρ, F, r⟩ => by
  by_cases hm : ∃ b ds, ρ[i]? = some (some (.mu b (.lst ds)))
  · obtain ⟨b, ds, hi⟩ := hm
    exact (pe_lc hc hN (pi_list hv) ok hg hq he hs).run pins s σ H Q I (lcL_read ht tw tm hi r)
  · obtain ⟨p, o, e, q⟩ := r
    have e2 : ((iV (eV i)).bind fun ds => lcM (own.map (·.2)) h ft fe ds) ρ = some o := by
      unfold lcL at e
      split at e
      · rename_i b ds hi
        exact absurd ⟨b, ds, hi⟩ hm
      · exact e
    exact (ev_lc hc hN (evI_val hv2) ok ht tw tm hg hq he hs).run pins s σ H Q I ⟨ρ, F, p, o, e2, q⟩⟩
theorem ev_setLcL (hc : X.calm = true) (hN : X.N.Nodup) (hy : X.N[j]? = some y) (hyl : X.env.scope.names.lookup y = some .local)
    (hsw : swapsWith (.ListComp elt [⟨tg, .Name x np, ifs, 0⟩] scope pos) (some (.Name y py)) spos.line X.env = pure true) (hv : PE X (.Name x np) (tVar i)) (hv2 : EvO X W (.Name x np) (eV i)) (ok : BlkOk X.N X.env.scope scope own) (ht : TgR X.K g h) (tw : TgW g (own.map (·.2))) (tm : TgM g)
    (hg : ∀ (s : Shared) (H : Hp) (C : Addr) (cl : List (Str × Addr)) (fp : List Addr), PG (X.blk s H scope (compEnvC scope cl C X.env) fp) tg g) (hq : ∀ (s : Shared) (H : Hp) (C : Addr) (cl : List (Str × Addr)) (fp : List Addr), EvQ (X.blk s H scope (compEnvC scope cl C X.env) fp) W0 ifs ft)
    (he : ∀ (s : Shared) (H : Hp) (C : Addr) (cl : List (Str × Addr)) (fp : List Addr), EvD (X.blk s H scope (compEnvC scope cl C X.env) fp) W0 elt fe) (hs : ∀ z, foldedSetIterable (.Name x np) X.env z = pure z := by intro _; rfl) :
    EvS X W (.Assign [.Name y py] (.ListComp elt [⟨tg, .Name x np, ifs, 0⟩] scope pos) spos) ((lcL i (own.map (·.2)) h ft fe).bind fun r => (Vs.own r).bind fun o => stM j o) := ⟨fun pins s σ H D I ⟨ρ, F, r⟩ => by
  by_cases hm : ∃ b ds, ρ[i]? = some (some (.mu b (.lst ds)))
  · obtain ⟨b, ds, hi⟩ := hm
    refine (ps_setLc (tt := tG X.K W0 (BR X.K) ft) (te := tG X.K W0 (DR X.K) fe) hc hN hy hyl hsw (pi_list hv) ok hg hq he hs).run pins s σ H D I ?_
    obtain ⟨p, o, e, q⟩ := r
    cases ef : lcL i (own.map (·.2)) h ft fe ρ with
    | none => simp only [M.bind, ef] at e; cases e
    | some o1 =>
      refine lcL_read (W := W) ht tw tm hi ⟨p, o1, ef, ?_⟩
      cases o1 with
      | ex c ρ1 =>
        simp only [M.bind, ef] at e; cases e
        exact fun F' H' p' => q _ F' H' p'
      | ok x1 ρ1 =>
        intro v F1 H1 p1 rx
        have e2 : ((Vs.own x1).bind fun o => stM j o) ρ1 = some o := by simpa only [M.bind, ef] using e
        obtain ⟨o, ρ2, F2, r2, p2, o2, e2, q2⟩ := own_run (S := ⟨σ, ρ, F, H⟩) (D := D) (W := W) ⟨p1, o, e2, q⟩ rfl rx
        unfold stM at e2
        cases es : stI j o ρ2 with
        | none => rw [es] at e2; cases e2
        | some ρ3 =>
          rw [es] at e2; cases e2
          exact q2 _ F2 H1 (p2.store es r2)
  · obtain ⟨p, o, e, q⟩ := r
    have eq : lcL i (own.map (·.2)) h ft fe ρ = ((iV (eV i)).bind fun ds => lcM (own.map (·.2)) h ft fe ds) ρ := by
      unfold lcL
      split
      · rename_i b ds hi
        exact absurd ⟨b, ds, hi⟩ hm
      · rfl
    have e2 : (((iV (eV i)).bind fun ds => lcM (own.map (·.2)) h ft fe ds).bind fun r => (Vs.own r).bind fun o => stM j o) ρ = some o := by
      unfold M.bind at e ⊢
      rw [eq] at e
      exact e
    exact (ev_setLc hc hN hy hyl hsw (evI_val hv2) ok ht tw tm hg hq he hs).run pins s σ H D I ⟨ρ, F, p, o, e2, q⟩⟩
end
end Vs

/-! Vs, more words. -/
namespace Vs
open PySem PySem.Spec L2
abbrev hLt : O → O → Option O := hCmp (fun i j => decide (i < j)) fun i j => decide (i.cps.toList < j.cps.toList)
abbrev hLe : O → O → Option O := hCmp (fun i j => decide (i ≤ j)) fun i j => !decide (j.cps.toList < i.cps.toList)
abbrev hGt : O → O → Option O := hCmp (fun i j => decide (j < i)) fun i j => decide (j.cps.toList < i.cps.toList)
abbrev hGe : O → O → Option O := hCmp (fun i j => decide (j ≤ i)) fun i j => !decide (i.cps.toList < j.cps.toList)
def iT : M Bool := M.ret true
def eLcL (i : Nat) (vs : List Nat) (h : PyData → M Fl) (ft : M Bool) (fe : M Rf) : M Rf := lcL i vs h ft (fe.bind frz)
end Vs

/-! Vs, working plain functions out. -/
namespace Vs
open PySem PySem.Spec L2
def thenO {α β : Type} (o : Option (Out α)) (k : α → M β) : Option (Out β) := match o with
  | none => none
  | some (.ok x ρ') => k x ρ'
  | some (.ex c ρ') => some (.ex c ρ')
theorem bind_eq {α β : Type} (f : M α) (k : α → M β) (ρ : Rho) : M.bind f k ρ = thenO (f ρ) k := rfl
theorem thenO_ok {α β : Type} (x : α) (ρ : Rho) (k : α → M β) : thenO (some (.ok x ρ)) k = k x ρ := rfl
theorem ret_eq {α : Type} (x : α) (ρ : Rho) : M.ret x ρ = some (.ok x ρ) := rfl
def seqO (o : Option (Out Fl)) (g : M Fl) : Option (Out Fl) := match o with
  | some (.ok .nx ρ') => g ρ'
  | o => o
theorem seq_eq (f g : M Fl) (ρ : Rho) : sSeq f g ρ = seqO (f ρ) g := rfl
theorem seqO_nx (ρ : Rho) (g : M Fl) : seqO (some (.ok .nx ρ)) g = g ρ := rfl
theorem seqO_rt (ρ : Rho) (r : Rf) (g : M Fl) : seqO (some (.ok (.rt r) ρ)) g = some (.ok (.rt r) ρ) := rfl
theorem seqO_bk (ρ : Rho) (g : M Fl) : seqO (some (.ok .bk ρ)) g = some (.ok .bk ρ) := rfl
theorem app_if {α β : Type} (c : Prop) [Decidable c] (f g : M α) (ρ : Rho) : (if c then f else g) ρ = if c then f ρ else g ρ := by split <;> rfl
theorem dr1_eq (h : O → Option O) (x : Rf) (ρ : Rho) {a o : O} (e : rdO ρ x = some a) (e2 : h a = some o) : dr1 h x ρ = some (.ok (.o o) ρ) := by unfold dr1; rw [e]; simp only [e2]
theorem rdO_o (ρ : Rho) (o : O) : rdO ρ (.o o) = some o := rfl
theorem rdO_s (ρ : Rho) (i : Nat) : rdO ρ (.s i) = (ρ[i]?).join := rfl
theorem atI_0 {α : Type} {x : α} {xs : List α} : atI (x :: xs) 0 = some x := atI_nat (j := 0) rfl
theorem atI_1 {α : Type} {x y : α} {xs : List α} : atI (x :: y :: xs) 1 = some y := atI_nat (j := 1) rfl
theorem atI_2 {α : Type} {x y z : α} {xs : List α} : atI (x :: y :: z :: xs) 2 = some z := atI_nat (j := 2) rfl
/-- list[i] from the front -/
theorem atI_of {α : Type} {xs : List α} {i : Int} {v : α} (h0 : 0 ≤ i) (h : xs[i.toNat]? = some v) : atI xs i = some v := by
  obtain ⟨n, rfl⟩ := Int.eq_ofNat_of_zero_le h0
  exact atI_nat h
theorem atI_lt {α : Type} {xs : List α} {i : Int} (h0 : 0 ≤ i) (h : i < xs.length) : ∃ v, atI xs i = some v ∧ v ∈ xs := by
  have hl : i.toNat < xs.length := by omega
  exact ⟨xs[i.toNat], atI_of h0 (List.getElem?_eq_getElem hl), List.getElem_mem hl⟩
theorem log2_lt {n b : Nat} (h0 : 0 < b) (h : n < 2 ^ b) : n.log2 < b := PySem.Flt.log2_lt_of h0 h
theorem cMul_of {i j : Int} {a b : Nat} (ha : i.natAbs < 2 ^ a) (hb : j.natAbs < 2 ^ b) (h0 : 0 < a) (h1 : 0 < b) (h : a + b < 1000000) : cMul i j = true := by
  have h2 := log2_lt h0 ha
  have h3 := log2_lt h1 hb
  unfold cMul
  exact decide_eq_true (by omega)

/-! ### each word, applied -/
section
variable {ρ ρ1 ρ2 : Rho} {f g t u : M Rf} {h : O → O → Option O}
theorem eV_ap {i : Nat} {o : O} (e : ρ[i]? = some (some o)) : eV i ρ = some (.ok (.s i) ρ) := by unfold eV; rw [e]
theorem eC_ap {d : PyData} : eC d ρ = some (.ok (.o (.fz d)) ρ) := rfl
def dr2O (ρ : Rho) : Option O → Option (Out Rf)
  | some o => some (.ok (.o o) ρ)
  | none => none
def dr2P (h : O → O → Option O) (ρ : Rho) : Option O → Option O → Option (Out Rf)
  | some a, some b => dr2O ρ (h a b)
  | _, _ => none
theorem dr2_ap {x y : Rf} : dr2 h x y ρ = dr2P h ρ (rdO ρ x) (rdO ρ y) := by
  unfold dr2 dr2P
  cases rdO ρ x <;> cases rdO ρ y <;> rfl
theorem dr2P_ap {a b : O} : dr2P h ρ (some a) (some b) = dr2O ρ (h a b) := rfl
theorem dr2O_ap {o : O} : dr2O ρ (some o) = some (.ok (.o o) ρ) := rfl
def eOpK (h : O → O → Option O) (g : M Rf) (x : Rf) : M Rf := fun ρ => thenO (g ρ) (dr2 h x)
theorem eOp_ap : eOp h f g ρ = thenO (f ρ) (eOpK h g) := rfl
theorem eOpK_ap {x : Rf} : eOpK h g x ρ = thenO (g ρ) (dr2 h x) := rfl
def dr2BO (ρ : Rho) : Option O → Option (Out Bool)
  | some (.fz (.bool c)) => some (.ok c ρ)
  | _ => none
def dr2BP (h : O → O → Option O) (ρ : Rho) : Option O → Option O → Option (Out Bool)
  | some a, some b => dr2BO ρ (h a b)
  | _, _ => none
theorem dr2B_ap {x y : Rf} : dr2B h x y ρ = dr2BP h ρ (rdO ρ x) (rdO ρ y) := by
  unfold dr2B dr2BP
  cases rdO ρ x <;> cases rdO ρ y <;> rfl
theorem dr2BP_ap {a b : O} : dr2BP h ρ (some a) (some b) = dr2BO ρ (h a b) := rfl
theorem dr2BO_ap {c : Bool} : dr2BO ρ (some (.fz (.bool c))) = some (.ok c ρ) := rfl
def eTsK (h : O → O → Option O) (g : M Rf) (x : Rf) : M Bool := fun ρ => thenO (g ρ) (dr2B h x)
theorem eTs_ap : eTs h f g ρ = thenO (f ρ) (eTsK h g) := rfl
theorem eTsK_ap {x : Rf} : eTsK h g x ρ = thenO (g ρ) (dr2B h x) := rfl
def dr1P (h : O → Option O) (ρ : Rho) : Option O → Option (Out Rf)
  | some a => dr2O ρ (h a)
  | none => none
theorem dr1_ap {h : O → Option O} {x : Rf} : dr1 h x ρ = dr1P h ρ (rdO ρ x) := by
  unfold dr1 dr1P
  cases rdO ρ x <;> rfl
theorem dr1P_ap {h : O → Option O} {a : O} : dr1P h ρ (some a) = dr2O ρ (h a) := rfl
theorem eUn_ap {h : O → Option O} : eUn h f ρ = thenO (f ρ) (dr1 h) := rfl
def drNP (h : List O → Option O) (ρ : Rho) : Option (List O) → Option (Out Rf)
  | some a => dr2O ρ (h a)
  | none => none
theorem drN_ap {h : List O → Option O} {xs : List Rf} : drN h xs ρ = drNP h ρ (rdL ρ xs) := by
  unfold drN drNP
  cases rdL ρ xs <;> rfl
theorem drNP_ap {h : List O → Option O} {a : List O} : drNP h ρ (some a) = dr2O ρ (h a) := rfl
theorem eCN_ap {h : List O → Option O} {l : M (List Rf)} : eCN h l ρ = thenO (l ρ) (drN h) := rfl
theorem lN_ap : lN ρ = some (.ok [] ρ) := rfl
def consR (x : Rf) (xs : List Rf) : M (List Rf) := fun ρ => some (.ok (x :: xs) ρ)
def lCK (l : M (List Rf)) (x : Rf) : M (List Rf) := fun ρ => thenO (l ρ) (consR x)
theorem lC_ap {l : M (List Rf)} : lC f l ρ = thenO (f ρ) (lCK l) := rfl
theorem lCK_ap {l : M (List Rf)} {x : Rf} : lCK l x ρ = thenO (l ρ) (consR x) := rfl
theorem consR_ap {x : Rf} {xs : List Rf} : consR x xs ρ = some (.ok (x :: xs) ρ) := rfl
theorem aN_ap : aN ρ = some (.ok [] ρ) := rfl
def consD (x : PyData) (xs : List PyData) : M (List PyData) := fun ρ => some (.ok (x :: xs) ρ)
def aCK (l : M (List PyData)) (x : PyData) : M (List PyData) := fun ρ => thenO (l ρ) (consD x)
theorem aC_ap {l : M (List PyData)} : aC f l ρ = thenO (thenO (f ρ) frz) (aCK l) := rfl
theorem aCK_ap {l : M (List PyData)} {x : PyData} : aCK l x ρ = thenO (l ρ) (consD x) := rfl
theorem consD_ap {x : PyData} {xs : List PyData} : consD x xs ρ = some (.ok (x :: xs) ρ) := rfl
theorem frz_o {d : PyData} : frz (.o (.fz d)) ρ = some (.ok d ρ) := rfl
theorem frz_m {b : Bool} {m : Mu} : frz (.o (.mu b m)) ρ = some (.ok m.view ρ) := rfl
theorem frz_sf {i : Nat} {d : PyData} (e : ρ[i]? = some (some (.fz d))) : frz (.s i) ρ = some (.ok d ρ) := by unfold frz; simp only [e]
theorem frz_sm {i : Nat} {m : Mu} (e : ρ[i]? = some (some (.mu false m))) : frz (.s i) ρ = some (.ok m.view (ρ.set i (some (.fz m.view)))) := by unfold frz; simp only [e]
theorem gN_ap : gN ρ = some (.ok [] ρ) := rfl
def consG (x : Arg) (xs : List Arg) : M (List Arg) := fun ρ => some (.ok (x :: xs) ρ)
def gFK (l : M (List Arg)) (x : PyData) : M (List Arg) := fun ρ => thenO (l ρ) (consG (.fz x))
theorem gF_ap {l : M (List Arg)} : gF f l ρ = thenO (thenO (f ρ) frz) (gFK l) := rfl
theorem gFK_ap {l : M (List Arg)} {x : PyData} : gFK l x ρ = thenO (l ρ) (consG (.fz x)) := rfl
theorem consG_ap {x : Arg} {xs : List Arg} : consG x xs ρ = some (.ok (x :: xs) ρ) := rfl
theorem gB_ap {i : Nat} {l : M (List Arg)} {o : O} (e : ρ[i]? = some (some o)) : gB i l ρ = thenO (l ρ) (consG (.br i)) := by unfold gB; rw [e]; rfl
def callA (g : M O) (xs : List Arg) (ρ : Rho) : Option Rho → Option (Out Rf)
  | some ρa => if brOk xs = true then callOut ρ xs (g ρa) else none
  | none => none
theorem eCall_ap {g : M O} {n : Nat} {l : M (List Arg)} : eCall g n l ρ = thenO (l ρ) (callN g n) := rfl
theorem callN_ap {g : M O} {n : Nat} {xs : List Arg} (e : xs.length = n) : callN g n xs ρ = callA g xs ρ (argE ρ xs) := by
  unfold callN callG callA
  exact (if_pos e).trans (by cases argE ρ xs <;> rfl)
def callBO (b : Bool) (r : Option (Out Rf)) : Option (Out Rf) := if b = true then r else none
theorem callA_ap {g : M O} {xs : List Arg} {ρa : Rho} : callA g xs ρ (some ρa) = callBO (brOk xs) (callOut ρ xs (g ρa)) := rfl
theorem callBO_t {r : Option (Out Rf)} : callBO true r = r := rfl
theorem brOk_n : brOk [] = true := rfl
theorem brOk_f {d : PyData} {xs : List Arg} : brOk (.fz d :: xs) = brOk xs := rfl
theorem brOk_b {i : Nat} {xs : List Arg} : brOk (.br i :: xs) = ((brAt i xs).isNone && brOk xs) := rfl
theorem brAt_n {i : Nat} : brAt i [] = none := rfl
theorem brAt_f {i : Nat} {d : PyData} {xs : List Arg} : brAt i (.fz d :: xs) = (brAt i xs).map (· + 1) := rfl
theorem brAt_b {i j : Nat} {xs : List Arg} : brAt i (.br j :: xs) = if j = i then some 0 else (brAt i xs).map (· + 1) := rfl
theorem callOut_ap {xs : List Arg} {o : O} {ρa : Rho} : callOut ρ xs (some (.ok o ρa)) = some (.ok (.o o) (back ρ xs ρa)) := rfl
theorem argE_b {xs : List Arg} {i : Nat} {b : Bool} {m : Mu} (e : ρ[i]? = some (some (.mu b m))) : argE ρ (.br i :: xs) = (argE ρ xs).map (some (.mu true m) :: ·) := by
  show (match ρ[i]? with | some (some (.mu _ m)) => (argE ρ xs).map (some (O.mu true m) :: ·) | _ => none) = _
  rw [e]
theorem argE_bf {xs : List Arg} {i : Nat} {m : Mu} (e : ρ[i]? = some (some (.mu false m))) : argE ρ (.br i :: xs) = (argE ρ xs).map (some (.mu true m) :: ·) := argE_b e
theorem argE_bt {xs : List Arg} {i : Nat} {m : Mu} (e : ρ[i]? = some (some (.mu true m))) : argE ρ (.br i :: xs) = (argE ρ xs).map (some (.mu true m) :: ·) := argE_b e
theorem argE_fz {xs : List Arg} {d : PyData} : argE ρ (.fz d :: xs) = (argE ρ xs).map (some (.fz d) :: ·) := rfl
theorem argE_nil : argE ρ [] = some [] := rfl
def tupK (ds : List PyData) : M Rf := chk (decide (ds.length ≤ 16777216)) (.o (.fz (.tuple ds)))
def lstK (ds : List PyData) : M Rf := chk (decide (ds.length ≤ 16777216)) (.o (.mu false (.lst ds)))
theorem eTup_ap {l : M (List PyData)} : eTup l ρ = thenO (l ρ) tupK := rfl
theorem eLst_ap {l : M (List PyData)} : eLst l ρ = thenO (l ρ) lstK := rfl
theorem tupK_ap {ds : List PyData} (e : ds.length ≤ 16777216) : tupK ds ρ = some (.ok (.o (.fz (.tuple ds))) ρ) := by unfold tupK chk; rw [if_pos (decide_eq_true e)]
theorem lstK_ap {ds : List PyData} (e : ds.length ≤ 16777216) : lstK ds ρ = some (.ok (.o (.mu false (.lst ds))) ρ) := by unfold lstK chk; rw [if_pos (decide_eq_true e)]
theorem eDct_ap : eDct ρ = some (.ok (.o (.mu false (.dct []))) ρ) := rfl
def slK2 (x : Rf) (l : Option Int) (u : Option Int) : M Rf := dr1 (fun a => hSl a l u) x
def slK1 (h : M (Option Int)) (x : Rf) (l : Option Int) : M Rf := fun ρ => thenO (h ρ) (slK2 x l)
def slK (g h : M (Option Int)) (x : Rf) : M Rf := fun ρ => thenO (g ρ) (slK1 h x)
theorem eSl_ap {g h : M (Option Int)} : eSl f g h ρ = thenO (f ρ) (slK g h) := rfl
theorem slK_ap {g h : M (Option Int)} {x : Rf} : slK g h x ρ = thenO (g ρ) (slK1 h x) := rfl
theorem slK1_ap {h : M (Option Int)} {x : Rf} {l : Option Int} : slK1 h x l ρ = thenO (h ρ) (slK2 x l) := rfl
theorem slK2_ap {x : Rf} {l u : Option Int} : slK2 x l u ρ = dr1P (fun a => hSl a l u) ρ (rdO ρ x) := dr1_ap
theorem pN_ap : pN ρ = some (.ok none ρ) := rfl
theorem pI_ap : pI f ρ = thenO (f ρ) asInt := rfl
theorem asInt_ap {x : Rf} {a : O} {i : Int} (e : rdO ρ x = some a) (e2 : a.view = .int i) : asInt x ρ = some (.ok (some i) ρ) := by unfold asInt; rw [e]; simp only [e2]
theorem tTr_ap : tTr f ρ = thenO (f ρ) tru := rfl
theorem tru_ap {x : Rf} {a : O} {b : Bool} (e : rdO ρ x = some a) (e2 : truD a.view = some b) : tru x ρ = some (.ok b ρ) := by unfold tru; rw [e]; simp only [e2]
def andK (u : M Bool) (k : Bool) : M Bool := if k then u else M.ret false
def orK (u : M Bool) (k : Bool) : M Bool := if k then M.ret true else u
theorem tAn_ap {t u : M Bool} : tAn t u ρ = thenO (t ρ) (andK u) := rfl
theorem tO_ap {t u : M Bool} : tO t u ρ = thenO (t ρ) (orK u) := rfl
theorem andK_t {u : M Bool} : andK u true ρ = u ρ := rfl
theorem andK_f {u : M Bool} : andK u false ρ = some (.ok false ρ) := rfl
theorem orK_t {u : M Bool} : orK u true ρ = some (.ok true ρ) := rfl
theorem orK_f {u : M Bool} : orK u false ρ = u ρ := rfl
theorem iT_ap : iT ρ = some (.ok true ρ) := rfl
theorem iV_ap : iV f ρ = thenO (thenO (f ρ) frz) iterD := rfl
theorem iterD_l {ds : List PyData} : iterD (.list ds) ρ = some (.ok ds ρ) := rfl
theorem iterD_t {ds : List PyData} : iterD (.tuple ds) ρ = some (.ok ds ρ) := rfl
theorem iR1_ap {l : M (List PyData)} : iR1 l ρ = thenO (l ρ) rng1 := rfl
theorem rng1_ap {j : Int} (e : -(2 ^ 62) ≤ j ∧ j < 2 ^ 62) : rng1 [.int j] ρ = some (.ok (rangeD 0 j.toNat) ρ) := by
  show (if -(2 ^ 62) ≤ j ∧ j < 2 ^ 62 then some (Out.ok (rangeD 0 j.toNat) ρ) else none) = _
  rw [if_pos e]
def rtK (r : Rf) : M Fl := fun ρ => some (.ok (.rt r) ρ)
theorem sRet_ap : sRet f ρ = thenO (f ρ) rtK := rfl
theorem rtK_ap {r : Rf} : rtK r ρ = some (.ok (.rt r) ρ) := rfl
theorem sN_ap : sN ρ = some (.ok .nx ρ) := rfl
theorem sBk_ap : sBk ρ = some (.ok .bk ρ) := rfl
def ifK (f g : M Fl) (k : Bool) : M Fl := if k then f else g
theorem sIf_ap {t : M Bool} {f g : M Fl} : sIf t f g ρ = thenO (t ρ) (ifK f g) := rfl
theorem ifK_t {f g : M Fl} : ifK f g true ρ = f ρ := rfl
theorem ifK_f {f g : M Fl} : ifK f g false ρ = g ρ := rfl
def setK (i : Nat) (r : Rf) : M Fl := fun ρ => thenO (Vs.own r ρ) (stM i)
theorem sSet_ap {i : Nat} : sSet i f ρ = thenO (f ρ) (setK i) := rfl
theorem setK_o {i : Nat} {o : O} : setK i (.o o) ρ = stM i o ρ := rfl
theorem setK_s {i j : Nat} {d : PyData} (e : frz (.s j) ρ = some (.ok d ρ1)) : setK i (.s j) ρ = stM i (.fz d) ρ1 := by
  show thenO (thenO (frz (.s j) ρ) fun d => M.ret (.fz d)) (stM i) = _
  rw [e]; rfl
theorem stM_ap {i : Nat} {o : O} {y : Option O} (e : ρ[i]? = some y) (h : ∀ m, y ≠ some (.mu true m)) : stM i o ρ = some (.ok .nx (ρ.set i (some o))) := by
  unfold stM stI
  rw [e]
  cases y with
  | none => rfl
  | some y =>
    cases y with
    | fz d => rfl
    | mu b m =>
      cases b with
      | false => rfl
      | true => exact absurd rfl (h m)
theorem stM_n {i : Nat} {o : O} (e : ρ[i]? = some none) : stM i o ρ = some (.ok .nx (ρ.set i (some o))) := stM_ap e fun _ h => nomatch h
theorem stM_f {i : Nat} {o : O} {d : PyData} (e : ρ[i]? = some (some (.fz d))) : stM i o ρ = some (.ok .nx (ρ.set i (some o))) := stM_ap e fun _ h => nomatch h
theorem stM_m {i : Nat} {o : O} {m : Mu} (e : ρ[i]? = some (some (.mu false m))) : stM i o ρ = some (.ok .nx (ρ.set i (some o))) := stM_ap e fun _ h => nomatch h
theorem stM_o {i : Nat} {o : O} {y : Option PyData} (e : ρ[i]? = some (y.map O.fz)) : stM i o ρ = some (.ok .nx (ρ.set i (some o))) := stM_ap e fun _ h => by cases y <;> cases h
theorem sAsg_ap {h : PyData → M Fl} : sAsg f h ρ = thenO (thenO (f ρ) frz) h := rfl
def appK (i : Nat) (d : PyData) : M Fl := upS i (muApp d)
theorem sApp_ap {i : Nat} {b : Bool} {ds : List PyData} (e : ρ[i]? = some (some (.mu b (.lst ds)))) : sApp i f ρ = thenO (thenO (f ρ) frz) (appK i) := by unfold sApp; rw [e]; rfl
theorem sApp_apf {i : Nat} {ds : List PyData} (e : ρ[i]? = some (some (.mu false (.lst ds)))) : sApp i f ρ = thenO (thenO (f ρ) frz) (appK i) := sApp_ap e
theorem sApp_apt {i : Nat} {ds : List PyData} (e : ρ[i]? = some (some (.mu true (.lst ds)))) : sApp i f ρ = thenO (thenO (f ρ) frz) (appK i) := sApp_ap e
theorem appK_ap {i : Nat} {d : PyData} {b : Bool} {ds : List PyData} (e : ρ[i]? = some (some (.mu b (.lst ds)))) (h : ds.length < 16777216) : appK i d ρ = some (.ok .nx (ρ.set i (some (.mu b (.lst (ds ++ [d])))))) := by
  unfold appK upS
  rw [e]
  simp only [muApp, if_pos h]
theorem appK_apf {i : Nat} {d : PyData} {ds : List PyData} (e : ρ[i]? = some (some (.mu false (.lst ds)))) (h : ds.length < 16777216) : appK i d ρ = some (.ok .nx (ρ.set i (some (.mu false (.lst (ds ++ [d])))))) := appK_ap e h
theorem appK_apt {i : Nat} {d : PyData} {ds : List PyData} (e : ρ[i]? = some (some (.mu true (.lst ds)))) (h : ds.length < 16777216) : appK i d ρ = some (.ok .nx (ρ.set i (some (.mu true (.lst (ds ++ [d])))))) := appK_ap e h
def stKK (i : Nat) (d k : PyData) : M Fl := upS i (muSet k d)
def stK (i : Nat) (g : M Rf) (d : PyData) : M Fl := fun ρ => match ρ[i]? with | some (some _) => thenO (thenO (g ρ) frz) (stKK i d) | _ => none
theorem sSt_ap {i : Nat} : sSt i f g ρ = thenO (thenO (f ρ) frz) (stK i g) := rfl
theorem stK_ap {i : Nat} {d : PyData} {o : O} (e : ρ[i]? = some (some o)) : stK i g d ρ = thenO (thenO (g ρ) frz) (stKK i d) := by unfold stK; rw [e]
theorem stKK_ap {i : Nat} {d k : PyData} {b : Bool} {m m' : Mu} (e : ρ[i]? = some (some (.mu b m))) (h : muSet k d m = some m') : stKK i d k ρ = some (.ok .nx (ρ.set i (some (.mu b m')))) := by
  unfold stKK upS
  rw [e]
  simp only [h]
theorem stKK_apf {i : Nat} {d k : PyData} {m m' : Mu} (e : ρ[i]? = some (some (.mu false m))) (h : muSet k d m = some m') : stKK i d k ρ = some (.ok .nx (ρ.set i (some (.mu false m')))) := stKK_ap e h
theorem stKK_apt {i : Nat} {d k : PyData} {m m' : Mu} (e : ρ[i]? = some (some (.mu true m))) (h : muSet k d m = some m') : stKK i d k ρ = some (.ok .nx (ρ.set i (some (.mu true m')))) := stKK_ap e h
theorem sFor_ap {fi : M (List PyData)} {h : PyData → M Fl} {fb : M Fl} : sFor fi h fb ρ = thenO (fi ρ) (forF h fb) := rfl
theorem eLc_ap {vs : List Nat} {fi : M (List PyData)} {h : PyData → M Fl} {ft : M Bool} : eLc vs fi h ft f ρ = thenO (fi ρ) (lcM vs h ft (f.bind frz)) := rfl
def mtK2 (T : String) (h : O → List O → Option O) (x : Rf) (ys : List Rf) : M Rf := drM T h x ys
def mtK1 (T : String) (h : O → List O → Option O) (g : M (List Rf)) (x : Rf) : M Rf := fun ρ => thenO (g ρ) (drM T h x)
def mtK (T : String) (h : O → List O → Option O) (g : M (List Rf)) (x : Rf) : M Rf := fun ρ => thenO (ckM T x ρ) (mtK1 T h g)
theorem eMt_ap {T : String} {h : O → List O → Option O} {g : M (List Rf)} : eMt T h f g ρ = thenO (f ρ) (mtK T h g) := rfl
theorem mtK_ap {T : String} {h : O → List O → Option O} {g : M (List Rf)} {x : Rf} : mtK T h g x ρ = thenO (ckM T x ρ) (mtK1 T h g) := rfl
theorem mtK1_ap {T : String} {h : O → List O → Option O} {g : M (List Rf)} {x : Rf} : mtK1 T h g x ρ = thenO (g ρ) (drM T h x) := rfl
theorem ckM_ap {T : String} {x : Rf} {a : O} (e : rdO ρ x = some a) (e2 : tyM T a.view = true) : ckM T x ρ = some (.ok x ρ) := by unfold ckM; rw [e]; simp only [e2, if_true]
theorem drM_ap {T : String} {h : O → List O → Option O} {x : Rf} {ys : List Rf} {a o : O} {os : List O} (e : rdO ρ x = some a) (e1 : rdL ρ ys = some os) (e2 : tyM T a.view = true) (e3 : h a os = some o) : drM T h x ys ρ = some (.ok (.o o) ρ) := by
  unfold drM; rw [e, e1]; simp only [e2, if_true, e3]
theorem hIndex_ap {b : Bool} {ds : List PyData} {w : Str} {i : Nat} (h : ds.all flatD = true) (e : idxD (.str w) ds = some i) : hIndex (.mu b (.lst ds)) [.fz (.str w)] = some (.fz (.int i)) := by
  show (if flatD (.str w) = true ∧ ds.all flatD = true then (idxD (.str w) ds).map fun i => O.fz (.int (i : Nat)) else none) = _
  rw [if_pos ⟨rfl, h⟩, e]; rfl
theorem tru_b {b : Bool} : tru (.o (.fz (.bool b))) ρ = some (.ok b ρ) := rfl
theorem asInt_o {i : Int} : asInt (.o (.fz (.int i))) ρ = some (.ok (some i) ρ) := rfl
theorem asInt_s {j : Nat} {i : Int} (e : ρ[j]? = some (some (.fz (.int i)))) : asInt (.s j) ρ = some (.ok (some i) ρ) := asInt_ap (show rdO ρ (.s j) = some (.fz (.int i)) by show (ρ[j]?).join = _; rw [e]; rfl) rfl
theorem cutL_1 {α : Type} {x : α} {xs : List α} : cutL (x :: xs) (some 1) none = xs := by
  unfold cutL
  rw [show HT.sIx (x :: xs).length 0 (some 1) = min 1 (x :: xs).length from HT.sIx_nat _ 0 1, HT.sIx_none]
  simp
theorem cutL_from {α : Type} {xs : List α} {i : Nat} (h : i ≤ xs.length) : cutL xs (some (i : Int)) none = xs.drop i := by
  unfold cutL
  rw [HT.sIx_nat, HT.sIx_none, Nat.min_eq_left h, List.take_of_length_le (by simp)]
theorem cutL_to {α : Type} {xs : List α} {i : Nat} : cutL xs none (some (i : Int)) = xs.take i := by
  unfold cutL
  rw [HT.sIx_nat, HT.sIx_none]
  simp
theorem tgName_ap {i : Nat} {d : PyData} : tgName i d ρ = stM i (.fz d) ρ := rfl
theorem tgTup_ap {n : Nat} {hs : List PyData → M Fl} {ds : List PyData} (e : ds.length = n) : tgTup n hs (.tuple ds) ρ = hs ds ρ := by
  show (if ds.length = n then hs ds ρ else none) = _
  rw [if_pos e]
theorem tgCons_ap {h : PyData → M Fl} {hs : List PyData → M Fl} {d : PyData} {ds : List PyData} : tgCons h hs (d :: ds) ρ = tgThen hs ds (h d ρ) := rfl
theorem tgThen_ap {hs : List PyData → M Fl} {ds : List PyData} : tgThen hs ds (some (.ok .nx ρ)) = hs ds ρ := rfl
theorem tgNil_ap : tgNil [] ρ = some (.ok .nx ρ) := rfl
theorem defG_ap {n N : Nat} {fB : M Fl} (e : ρ.length = n) (e2 : ρ.all okArg = true) : defG n N fB ρ = defOut ρ (fB (ρ ++ List.replicate (N - n) none)) := by unfold defG; rw [if_pos ⟨e, e2⟩]
end
end Vs

/-! Vs, loops and comprehensions worked out; small data. -/
namespace Vs
open PySem PySem.Spec L2
theorem forF_ok {h : PyData → M Fl} {fb : M Fl} (J : List PyData → Rho → Prop)
    (step : ∀ d ds ρ, J (d :: ds) ρ → ∃ ρ1, h d ρ = some (.ok .nx ρ1) ∧ ((∃ ρ2, fb ρ1 = some (.ok .nx ρ2) ∧ J ds ρ2) ∨ ∃ ρ2, fb ρ1 = some (.ok .bk ρ2) ∧ J [] ρ2)) :
    ∀ (ds : List PyData) (ρ : Rho), J ds ρ → ∃ ρ', forF h fb ds ρ = some (.ok .nx ρ') ∧ J [] ρ'
  | [], ρ, j => ⟨ρ, rfl, j⟩
  | d :: ds, ρ, j => by
    obtain ⟨ρ1, e1, h2⟩ := step d ds ρ j
    rcases h2 with ⟨ρ2, e2, j2⟩ | ⟨ρ2, e2, j2⟩
    · obtain ⟨ρ', e3, j3⟩ := forF_ok J step ds ρ2 j2
      refine ⟨ρ', ?_, j3⟩
      show forH fb (forF h fb ds) (h d ρ) = _
      rw [e1]
      show forK (forF h fb ds) (fb ρ1) = _
      rw [e2]
      exact e3
    · refine ⟨ρ2, ?_, j2⟩
      show forH fb (forF h fb ds) (h d ρ) = _
      rw [e1]
      show forK (forF h fb ds) (fb ρ1) = _
      rw [e2]
      rfl
theorem lcF_ok {vs : List Nat} {h : PyData → M Fl} {ft : M Bool} {fe : M PyData} (J : List PyData → List PyData → Rho → Prop)
    (step : ∀ d ds acc ρ, J (d :: ds) acc ρ → ∃ ρ1 k ρ2, h d ρ = some (.ok .nx ρ1) ∧ ft ρ1 = some (.ok k ρ2) ∧ (k = true → ∃ y ρ3, fe ρ2 = some (.ok y ρ3) ∧ acc.length < 16777216 ∧ freeV ρ3 vs = true ∧ J ds (acc ++ [y]) (wipeR ρ3 vs)) ∧ (k = false → freeV ρ2 vs = true ∧ J ds acc (wipeR ρ2 vs))) :
    ∀ (ds acc : List PyData) (ρ : Rho), J ds acc ρ → ∃ ys ρ', lcF vs h ft fe ds acc ρ = some (.ok ys ρ') ∧ J [] ys ρ'
  | [], acc, ρ, j => ⟨acc, ρ, rfl, j⟩
  | d :: ds, acc, ρ, j => by
    obtain ⟨ρ1, k, ρ2, e1, e2, ht, hf⟩ := step d ds acc ρ j
    cases k with
    | true =>
      obtain ⟨y, ρ3, e3, hl, hv, j3⟩ := ht rfl
      obtain ⟨ys, ρ', e4, j4⟩ := lcF_ok J step ds _ _ j3
      refine ⟨ys, ρ', ?_, j4⟩
      show lcH vs ft fe acc (lcF vs h ft fe ds) (h d ρ) = _
      rw [e1]
      show lcT vs fe acc (lcF vs h ft fe ds) (ft ρ1) = _
      rw [e2]
      show lcE vs acc (lcF vs h ft fe ds) (fe ρ2) = _
      rw [e3]
      show (if acc.length < 16777216 ∧ freeV ρ3 vs = true then lcF vs h ft fe ds (acc ++ [y]) (wipeR ρ3 vs) else none) = _
      rw [if_pos ⟨hl, hv⟩]
      exact e4
    | false =>
      obtain ⟨hv, j3⟩ := hf rfl
      obtain ⟨ys, ρ', e4, j4⟩ := lcF_ok J step ds _ _ j3
      refine ⟨ys, ρ', ?_, j4⟩
      show lcH vs ft fe acc (lcF vs h ft fe ds) (h d ρ) = _
      rw [e1]
      show lcT vs fe acc (lcF vs h ft fe ds) (ft ρ1) = _
      rw [e2]
      show (if freeV ρ2 vs = true then lcF vs h ft fe ds acc (wipeR ρ2 vs) else none) = _
      rw [if_pos hv]
      exact e4
theorem lcM_ap {vs : List Nat} {h : PyData → M Fl} {ft : M Bool} {fe : M PyData} {ds ys : List PyData} {ρ ρ' : Rho} (hv : freeV ρ vs = true) (e : lcF vs h ft fe ds [] (wipeR ρ vs) = some (.ok ys ρ')) :
    lcM vs h ft fe ds ρ = some (.ok (.o (.mu false (.lst ys))) (backR ρ ρ' vs)) := by
  unfold lcM
  rw [if_pos hv, e]
/-- a comprehension that changes nothing -/
theorem lcF_pure {vs : List Nat} {h : PyData → M Fl} {ft : M Bool} {fe : M PyData} {ρ : Rho} (p : PyData → Bool) (F : PyData → PyData) :
    ∀ (ds acc : List PyData) (_ : ∀ d ∈ ds, ∃ ρ1, h d ρ = some (.ok .nx ρ1) ∧ ft ρ1 = some (.ok (p d) ρ1) ∧ (p d = true → fe ρ1 = some (.ok (F d) ρ1)) ∧ freeV ρ1 vs = true ∧ wipeR ρ1 vs = ρ) (_ : acc.length + ds.length < 16777216),
      lcF vs h ft fe ds acc ρ = some (.ok (acc ++ (ds.filter p).map F) ρ)
  | [], acc, _, _ => by simp [lcF]
  | d :: ds, acc, st, hl => by
    obtain ⟨ρ1, e1, e2, e3, hv, hw⟩ := st d (List.mem_cons_self ..)
    have hl' : acc.length + (ds.length + 1) < 16777216 := hl
    show lcH vs ft fe acc (lcF vs h ft fe ds) (h d ρ) = _
    rw [e1]
    show lcT vs fe acc (lcF vs h ft fe ds) (ft ρ1) = _
    rw [e2]
    cases hp : p d with
    | true =>
      show lcE vs acc (lcF vs h ft fe ds) (fe ρ1) = _
      rw [e3 hp]
      show (if acc.length < 16777216 ∧ freeV ρ1 vs = true then lcF vs h ft fe ds (acc ++ [F d]) (wipeR ρ1 vs) else none) = _
      rw [if_pos ⟨by omega, hv⟩, hw, lcF_pure p F ds _ (fun x hx => st x (List.mem_cons_of_mem _ hx)) (by simp; omega)]
      simp [List.filter_cons, hp]
    | false =>
      show (if freeV ρ1 vs = true then lcF vs h ft fe ds acc (wipeR ρ1 vs) else none) = _
      rw [if_pos hv, hw, lcF_pure p F ds _ (fun x hx => st x (List.mem_cons_of_mem _ hx)) (by omega)]
      simp [List.filter_cons, hp]
/-- the live comprehension, changing nothing -/
theorem lcLive_pure {i : Nat} {vs : List Nat} {h : PyData → M Fl} {ft : M Bool} {fe : M PyData} {ρ : Rho} {ds : List PyData} (hi : ρ[i]? = some (some (.mu true (.lst ds)))) (F : PyData → PyData)
    (st : ∀ d ∈ ds, ∃ ρ1, h d ρ = some (.ok .nx ρ1) ∧ ft ρ1 = some (.ok true ρ1) ∧ fe ρ1 = some (.ok (F d) ρ1) ∧ freeV ρ1 vs = true ∧ wipeR ρ1 vs = ρ) (hl : ds.length < 16777216) :
    ∀ (n k : Nat) (_ : k + n = ds.length + 1) (_ : k ≤ ds.length), lcLive i vs h ft fe n k ((ds.take k).map F) ρ = some (.ok (ds.map F) ρ)
  | 0, k, e, hk => by omega
  | n + 1, k, e, hk => by
    unfold lcLive
    simp only [hi]
    by_cases hk2 : k < ds.length
    · rw [List.getElem?_eq_getElem hk2]
      obtain ⟨ρ1, e1, e2, e3, hv, hw⟩ := st ds[k] (List.getElem_mem hk2)
      show lcH vs ft fe _ (lcLive i vs h ft fe n (k + 1)) (h ds[k] ρ) = _
      rw [e1]
      show lcT vs fe _ (lcLive i vs h ft fe n (k + 1)) (ft ρ1) = _
      rw [e2]
      show lcE vs _ (lcLive i vs h ft fe n (k + 1)) (fe ρ1) = _
      rw [e3]
      show (if ((ds.take k).map F).length < 16777216 ∧ freeV ρ1 vs = true then lcLive i vs h ft fe n (k + 1) ((ds.take k).map F ++ [F ds[k]]) (wipeR ρ1 vs) else none) = _
      rw [if_pos ⟨by simp; omega, hv⟩, hw]
      have : (ds.take k).map F ++ [F ds[k]] = (ds.take (k + 1)).map F := by rw [List.take_succ_eq_append_getElem hk2, List.map_append]; rfl
      rw [this]
      exact lcLive_pure hi F st hl n (k + 1) (by omega) (by omega)
    · have : k = ds.length := by omega
      subst this
      simp
theorem lcL_ap {i : Nat} {vs : List Nat} {h : PyData → M Fl} {ft : M Bool} {fe : M PyData} {ρ ρL : Rho} {b : Bool} {ds : List PyData} (hi : ρ[i]? = some (some (.mu b (.lst ds)))) (F : PyData → PyData) (hL : ρ.set i (some (.mu true (.lst ds))) = ρL)
    (hv : freeV ρ vs = true) (hw : wipeR ρL vs = ρL) (hb : backR ρL ρL vs = ρL) (hu : unl i b ρL = some ρ)
    (st : ∀ d ∈ ds, ∃ ρ1, h d ρL = some (.ok .nx ρ1) ∧ ft ρ1 = some (.ok true ρ1) ∧ fe ρ1 = some (.ok (F d) ρ1) ∧ freeV ρ1 vs = true ∧ wipeR ρ1 vs = ρL) (hl : ds.length < 16777216) :
    lcL i vs h ft fe ρ = some (.ok (.o (.mu false (.lst (ds.map F)))) ρ) := by
  have hlt := (List.getElem?_eq_some_iff.mp hi).1
  unfold lcL
  simp only [hi, hv, if_true, hL, hw]
  have hiL : ρL[i]? = some (some (.mu true (.lst ds))) := by rw [← hL, List.getElem?_set_self hlt]
  have := lcLive_pure (vs := vs) (h := h) (ft := ft) (fe := fe) hiL F st hl (ds.length + 1) 0 (by omega) (Nat.zero_le _)
  rw [List.take_zero, List.map_nil] at this
  rw [this]
  simp only [lcEnd, hb, hu, Option.map_some]
/-! ### small data -/
structure Sm (d : PyData) (W D : Nat) : Prop where
  sh : d.showable = true
  lv : d.leavesShort 13 = true
  nl : noL d = true
  dp : d.depth ≤ D
  wt : d.weight ≤ W
theorem Sm.mono {d : PyData} {W D W' D' : Nat} (h : Sm d W D) (a : W ≤ W') (b : D ≤ D') : Sm d W' D' := ⟨h.sh, h.lv, h.nl, Nat.le_trans h.dp b, Nat.le_trans h.wt a⟩
theorem sm_int : ∀ {i : Int}, 0 ≤ i → i < 100 → Sm (.int i) 7 0 := by
  have key : ∀ n : _root_.Fin 100, PyData.showable (.int (n.val : Int)) = true ∧ PyData.leavesShort 13 (.int (n.val : Int)) = true ∧ PyData.weight (.int (n.val : Int)) ≤ 7 := by decide +kernel
  intro i h0 h1
  obtain ⟨n, rfl⟩ := Int.eq_ofNat_of_zero_le h0
  obtain ⟨a, b, c⟩ := key ⟨n, by omega⟩
  exact ⟨a, b, rfl, Nat.le_refl _, c⟩
theorem sm_str {x : Str} {n : Nat} (h : ∀ c ∈ x.cps.toList, c < 16 ^ 8) (hl : x.cps.size ≤ n) : Sm (.str x) n 0 :=
  ⟨rfl, by show (x.cps.toList.all fun c => decide (c < 16 ^ 8)) = true; exact List.all_eq_true.mpr fun c hc => decide_eq_true (h c hc), rfl, Nat.le_refl _, hl⟩
theorem sm_all {W D : Nat} : ∀ {ds : List PyData}, (∀ d ∈ ds, Sm d W D) → PyData.showableAll ds = true ∧ PyData.leavesShortAll 13 ds = true ∧ noLs ds = true ∧ PyData.depthAll ds ≤ D ∧ PyData.weightAll ds ≤ ds.length * (W + 1)
  | [], _ => ⟨rfl, rfl, rfl, Nat.zero_le _, Nat.zero_le _⟩
  | d :: ds, h => by
    obtain ⟨a, b, c, e, f⟩ := sm_all (ds := ds) fun x hx => h x (List.mem_cons_of_mem _ hx)
    have k := h d (List.mem_cons_self ..)
    refine ⟨?_, ?_, ?_, ?_, ?_⟩
    · show (PyData.showable d && PyData.showableAll ds) = true
      rw [k.sh, a]; rfl
    · show (PyData.leavesShort 13 d && PyData.leavesShortAll 13 ds) = true
      rw [k.lv, b]; rfl
    · show (noL d && noLs ds) = true
      rw [k.nl, c]; rfl
    · show max (PyData.depth d) (PyData.depthAll ds) ≤ D
      exact Nat.max_le.mpr ⟨k.dp, e⟩
    · show PyData.weight d + 1 + PyData.weightAll ds ≤ (ds.length + 1) * (W + 1)
      have := k.wt
      rw [Nat.add_mul]; omega
theorem sm_tup {ds : List PyData} {W D n : Nat} (h : ∀ d ∈ ds, Sm d W D) (hl : ds.length ≤ n) : Sm (.tuple ds) (n * (W + 1)) (D + 1) := by
  obtain ⟨a, b, c, e, f⟩ := sm_all h
  exact ⟨a, b, c, Nat.succ_le_succ e, Nat.le_trans f (Nat.mul_le_mul_right _ hl)⟩
theorem sm_dct {es : List (PyData × PyData)} {W D n : Nat} (h : ∀ p ∈ es, Sm p.1 W D ∧ Sm p.2 W D) (hl : es.length ≤ n) : Sm (.dict es) (n * (2 * W + 2)) (D + 1) := by
  have key : ∀ (es : List (PyData × PyData)), (∀ p ∈ es, Sm p.1 W D ∧ Sm p.2 W D) → PyData.showableKv es = true ∧ PyData.leavesShortKv 13 es = true ∧ noLk es = true ∧ PyData.depthKv es ≤ D ∧ PyData.weightKv es ≤ es.length * (2 * W + 2) := by
    intro es
    induction es with
    | nil => exact fun _ => ⟨rfl, rfl, rfl, Nat.zero_le _, Nat.zero_le _⟩
    | cons p es ih =>
      intro h
      obtain ⟨a, b, c, e, f⟩ := ih fun x hx => h x (List.mem_cons_of_mem _ hx)
      obtain ⟨k1, k2⟩ := h p (List.mem_cons_self ..)
      obtain ⟨x, y⟩ := p
      refine ⟨?_, ?_, ?_, ?_, ?_⟩
      · show (PyData.showable x && PyData.showable y && PyData.showableKv es) = true
        rw [k1.sh, k2.sh, a]; rfl
      · show (PyData.leavesShort 13 x && PyData.leavesShort 13 y && PyData.leavesShortKv 13 es) = true
        rw [k1.lv, k2.lv, b]; rfl
      · show (noL y && noLk es) = true
        rw [k2.nl, c]; rfl
      · show max (max (PyData.depth x) (PyData.depth y)) (PyData.depthKv es) ≤ D
        exact Nat.max_le.mpr ⟨Nat.max_le.mpr ⟨k1.dp, k2.dp⟩, e⟩
      · show PyData.weight x + PyData.weight y + 2 + PyData.weightKv es ≤ (es.length + 1) * (2 * W + 2)
        have h1 := k1.wt
        have h2 := k2.wt
        rw [Nat.add_mul]
        simp only at h1 h2
        omega
  obtain ⟨a, b, c, e, f⟩ := key es h
  exact ⟨a, b, c, Nat.succ_le_succ e, Nat.le_trans f (Nat.mul_le_mul_right _ hl)⟩
theorem hRepr_ap {d : O} {W D : Nat} (h : Sm d.view W D) (hD : D ≤ 150) (hW : W ≤ 1000000) : hRepr [d] = some (.fz (.str (PyData.shown d.view))) := by
  have hs := PyData.shown_le 13 (by decide) d.view h.lv
  have hw := h.wt
  have hd := h.dp
  unfold hRepr
  simp only [h.sh, h.nl, Bool.or_true, Bool.and_true, true_and]
  rw [if_pos ⟨by omega, by
    refine Nat.le_trans hs ?_
    omega⟩]
end Vs

/-! Vs, the order of tuples, zip. -/
namespace Vs
open PySem PySem.Spec L2 RZ
/-! ### < and > of data that are alike -/
def ordC (d e : PyData) : Bool := PySem.W.alike d e && (match d with | .none => false | _ => true) && decide (d.depth ≤ 150)
def hOrd (g : Bool) (a b : O) : Option O := if ordC a.view b.view = true then some (.fz (.bool (if g = true then PySem.W.dataLt b.view a.view else PySem.W.dataLt a.view b.view))) else none
def rOrd (K : PySem.W.Frag) (g : Bool) : R2 := fun x y H Q => ∃ d e, Rp K H x d ∧ Rp K H y e ∧ ordC d e = true ∧ Q (.bl (if g = true then PySem.W.dataLt e d else PySem.W.dataLt d e)) H
theorem ordC_of {d e : PyData} (h : ordC d e = true) : PySem.W.alike d e = true ∧ d ≠ .none ∧ d.depth ≤ 150 := by
  unfold ordC at h
  rw [Bool.and_eq_true, Bool.and_eq_true] at h
  exact ⟨h.1.1, fun z => by subst z; exact absurd h.1.2 Bool.false_ne_true, of_decide_eq_true h.2⟩
theorem op_ltO {X : Cx} (hu : X.A.units + 200 < cLine) : OpR X (compareOp .Lt) (rOrd X.K false) := by
  rintro pins s σ H x y v u Q I rx ry ⟨d, e, h, k, c, q⟩
  obtain ⟨as, r1, _⟩ := Rp.reads I h rx
  obtain ⟨bs, r2, _⟩ := Rp.reads I k ry
  obtain ⟨c1, c2, c3⟩ := ordC_of c
  exact PySem.W.rcLt_alike d e X.A s v u as bs r1 r2 c1 c2 (by omega) _ _ _ _ ⟨.bl _, H, I, rfl, q⟩
theorem op_gtO {X : Cx} (hu : X.A.units + 200 < cLine) : OpR X (compareOp .Gt) (rOrd X.K true) := by
  rintro pins s σ H x y v u Q I rx ry ⟨d, e, h, k, c, q⟩
  obtain ⟨as, r1, _⟩ := Rp.reads I h rx
  obtain ⟨bs, r2, _⟩ := Rp.reads I k ry
  obtain ⟨c1, c2, c3⟩ := ordC_of c
  exact PySem.W.rcGt_alike d e X.A s v u as bs r1 r2 c1 c2 (by omega) _ _ _ _ ⟨.bl _, H, I, rfl, q⟩
theorem sn_ord {K : PySem.W.Frag} {g : Bool} : Sn2 K (rOrd K g) (hOrd g) := by
  intro S ρ F H v w a b o Q p ra rb e k
  unfold hOrd at e
  split at e
  · rename_i h
    cases e
    exact ⟨_, _, ra.view p.hd.le, rb.view p.hd.le, h, k _ F H p (.bl _)⟩
  · cases e
/-! ### zip of two tuples -/
def zipD : List PyData → List PyData → List PyData
  | x :: xs, y :: ys => .tuple [x, y] :: zipD xs ys
  | _, _ => []
theorem zipD_len : ∀ (xs ys : List PyData), (zipD xs ys).length = min xs.length ys.length
  | [], _ => by simp [zipD]
  | _ :: _, [] => by simp [zipD]
  | x :: xs, y :: ys => by simp [zipD, zipD_len xs ys]
theorem zipD_get : ∀ {xs ys : List PyData} {i : Nat} {d : PyData}, (zipD xs ys)[i]? = some d → ∃ x y, xs[i]? = some x ∧ ys[i]? = some y ∧ d = .tuple [x, y]
  | [], _, i, d, h => by simp [zipD] at h
  | _ :: _, [], i, d, h => by simp [zipD] at h
  | x :: xs, y :: ys, 0, d, h => by simp [zipD] at h; exact ⟨x, y, rfl, rfl, h.symm⟩
  | x :: xs, y :: ys, i + 1, d, h => by simpa using zipD_get (xs := xs) (ys := ys) (i := i) (by simpa [zipD] using h)
theorem itr_zipT {K : PySem.W.Frag} {F : Hp} {a b : Addr} {xs ys : List V} {ds es : List PyData} (h : SqT K F a xs) (r : RpA K F xs ds) (h2 : SqT K F b ys) (r2 : RpA K F ys es) : ItR K F (ItzT K a b) (zipD ds es) where
  stop := fun F' H' l1 l2 => ⟨xs, ys, l2.seqT (l1.seqT h), l2.seqT (l1.seqT h2), by rw [zipD_len, ← r.len, ← r2.len]; omega⟩
  go := fun i F' H' hi l1 l2 => by
    rw [zipD_len, ← r.len, ← r2.len] at hi
    have hx : i < xs.length := by omega
    have hy : i < ys.length := by omega
    exact ⟨xs, ys, xs[i], ys[i], l2.seqT (l1.seqT h), l2.seqT (l1.seqT h2), by simp [hx], by simp [hy]⟩
  yld := fun i d S σ ρ F' H' x H'' hd l1 p y => by
    obtain ⟨T, u, v, rfl, nT, rfl, y1, y2⟩ := y
    obtain ⟨d1, d2, g1, g2, rfl⟩ := zipD_get hd
    obtain ⟨v1, hv1, rv1⟩ := r.get g1
    obtain ⟨v2, hv2, rv2⟩ := r2.get g2
    have e1 := y1 xs (p.hd.le.seqT (l1.seqT h))
    have e2 := y2 ys (p.hd.le.seqT (l1.seqT h2))
    rw [hv1] at e1; cases e1
    rw [hv2] at e2; cases e2
    have lf : Le F' (upd F' T (.tup [u, v])) := Le.ofNew (p.gone nT)
    exact ⟨upd F' T (.tup [u, v]), p.newF nT, lf, .tup (.inl (.inl upd_same)) (.cons (Rp.mono lf (Rp.mono l1 rv1)) (.cons (Rp.mono lf (Rp.mono l1 rv2)) .nil)), fun b o e => ⟨by rw [upd_ne (ne_of_none e nT)]; exact e, fun z => by rw [upd_ne (ne_of_none e nT)]; exact z⟩⟩
def zip2 (ds : List PyData) : M (List PyData) := match ds with
  | [.tuple xs, .tuple ys] => M.ret (zipD xs ys)
  | _ => fun _ => none
section
variable {X : Cx} {W : WX} {a b : Expr} {p pos tpos : Pos} {elts : List Expr} {kk : Nat}
theorem evI_zip {h : M (List PyData)} (hg : Gl X "zip") (hm : X.mg "zip" = none) (ha : EvA X W [a, b] h) (hs : starEach [a, b] X.env = (false, eval a X.env) :: starEach [b] X.env := by rfl) (hpl : (backTo pos (starEach [b] X.env)).any (·.1) = false := by rfl) : EvI X W (.Tuple elts kk tpos) (.Call (.Name "zip" p) [a, b] [] pos) (h.bind zip2) :=
  ⟨fun pins s σ H R I ⟨ρ, F, r⟩ => (pi_zipA hg hm ha hs hpl).run pins s σ H R I ⟨ρ, F, r.bind.mono fun vs H1 ⟨ds, ρ1, F1, rx, p, p1, o, e, q⟩ => by
    unfold zip2 at e
    split at e
    · rename_i xs ys
      cases e
      cases rx with
      | cons h t =>
        cases t with
        | cons h2 t =>
          cases t
          cases h with
          | tup s1 r1 =>
            cases h2 with
            | tup s2 r2 => exact ⟨_, _, _, _, rfl, .inr ⟨p1.hd.le.seqT s1, p1.hd.le.seqT s2, q _ F1 H1 p1 (itr_zipT s1 r1 s2 r2)⟩⟩
    · cases e⟩⟩
end
def iZ (h : M (List PyData)) : M (List PyData) := h.bind zip2
theorem iZ_ap {h : M (List PyData)} {ρ : Rho} : iZ h ρ = thenO (h ρ) zip2 := rfl
theorem zip2_ap {xs ys : List PyData} {ρ : Rho} : zip2 [.tuple xs, .tuple ys] ρ = some (.ok (zipD xs ys) ρ) := rfl
end Vs

namespace VsG
open PySem PySem.Spec PyProof.Rows L2 Vs
def topS (i : Nat) : Stmt := PySem.Challenge.pw_pergola_k01_order_of_trees.main.body.getD i (.Pass ⟨0, 0, 0, 0⟩)
abbrev s__law_copy : Stmt := topS 14
theorem sc__law_copy : FnScope ["tree", "part"] ["tree"] (defScope s__law_copy) := ⟨rfl, rfl, rfl, by decide +kernel, rfl, by decide +kernel, by decide +kernel⟩
abbrev s__law_size : Stmt := topS 12
theorem sc__law_size : FnScope ["term", "part"] ["term"] (defScope s__law_size) := ⟨rfl, rfl, rfl, by decide +kernel, rfl, by decide +kernel, by decide +kernel⟩
abbrev s__law_key : Stmt := topS 13
theorem sc__law_key : FnScope ["signs", "tree", "words", "sign", "arity", "part"] ["signs", "tree"] (defScope s__law_key) := ⟨rfl, rfl, rfl, by decide +kernel, rfl, by decide +kernel, by decide +kernel⟩
abbrev s__law_same : Stmt := topS 6
theorem sc__law_same : FnScope ["told", "due"] ["told", "due"] (defScope s__law_same) := ⟨rfl, rfl, rfl, by decide +kernel, rfl, by decide +kernel, by decide +kernel⟩
abbrev s_rank_of : Stmt := topS 3
theorem sc_rank_of : FnScope ["signs", "word", "sign", "_"] ["signs", "word"] (defScope s_rank_of) := ⟨rfl, rfl, rfl, by decide +kernel, rfl, by decide +kernel, by decide +kernel⟩
abbrev s_size_of : Stmt := topS 1
theorem sc_size_of : FnScope ["term", "part"] ["term"] (defScope s_size_of) := ⟨rfl, rfl, rfl, by decide +kernel, rfl, by decide +kernel, by decide +kernel⟩
abbrev s_compare_trees : Stmt := topS 4
theorem sc_compare_trees : FnScope ["signs", "first", "second", "one", "other", "left", "right", "found"] ["signs", "first", "second"] (defScope s_compare_trees) := ⟨rfl, rfl, rfl, by decide +kernel, rfl, by decide +kernel, by decide +kernel⟩
abbrev s__law_agrees : Stmt := topS 17
theorem sc__law_agrees : FnScope ["signs", "first", "second", "one", "other", "due", "told"] ["signs", "first", "second"] (defScope s__law_agrees) := ⟨rfl, rfl, rfl, by decide +kernel, rfl, by decide +kernel, by decide +kernel⟩
abbrev s__law_next : Stmt := topS 8
theorem sc__law_next : FnScope ["state", "many", "turn"] ["state", "many"] (defScope s__law_next) := ⟨rfl, rfl, rfl, by decide +kernel, rfl, by decide +kernel, by decide +kernel⟩
abbrev s__law_term : Stmt := topS 11
theorem sc__law_term : FnScope ["state", "signs", "names", "room", "pick", "fit", "sign", "arity", "left", "first", "one"] ["state", "signs", "names", "room"] (defScope s__law_term) := ⟨rfl, rfl, rfl, by decide +kernel, rfl, by decide +kernel, by decide +kernel⟩
abbrev s__law_changed : Stmt := topS 15
theorem sc__law_changed : FnScope ["state", "signs", "tree", "sign", "arity", "at"] ["state", "signs", "tree"] (defScope s__law_changed) := ⟨rfl, rfl, rfl, by decide +kernel, rfl, by decide +kernel, by decide +kernel⟩
abbrev s__law_row : Stmt := topS 16
theorem sc__law_row : FnScope ["signs", "sign", "arity", "many", "bottom", "constant", "tree", "k", "one", "own"] ["signs", "sign", "arity", "many", "bottom"] (defScope s__law_row) := ⟨rfl, rfl, rfl, by decide +kernel, rfl, by decide +kernel, by decide +kernel⟩
abbrev s__law_word : Stmt := topS 9
theorem sc__law_word : FnScope ["state", "taken", "word", "k"] ["state", "taken"] (defScope s__law_word) := ⟨rfl, rfl, rfl, by decide +kernel, rfl, by decide +kernel, by decide +kernel⟩
abbrev s__law_signs : Stmt := topS 10
theorem sc__law_signs : FnScope ["state", "many", "found", "k", "word", "at", "sign", "arity"] ["state", "many"] (defScope s__law_signs) := ⟨rfl, rfl, rfl, by decide +kernel, rfl, by decide +kernel, by decide +kernel⟩
abbrev s__law_stream : Stmt := topS 7
theorem sc__law_stream : FnScope ["script", "numbers", "cell", "rest", "k", "mixed"] ["script"] (defScope s__law_stream) := ⟨rfl, rfl, rfl, by decide +kernel, rfl, by decide +kernel, by decide +kernel⟩
abbrev s_law : Stmt := topS 18
theorem sc_law : FnScope ["script", "state", "signs", "first", "second", "third", "sign", "arity", "many", "one", "other"] ["script"] (defScope s_law) := ⟨rfl, rfl, rfl, by decide +kernel, rfl, by decide +kernel, by decide +kernel⟩
structure Zs (mg : Str → Option Value) : Prop where
  z_abs : mg "abs" = none
  z_int : mg "int" = none
  z_isinstance : mg "isinstance" = none
  z_len : mg "len" = none
  z_list : mg "list" = none
  z_max : mg "max" = none
  z_range : mg "range" = none
  z_repr : mg "repr" = none
  z_str : mg "str" = none
  z_sum : mg "sum" = none
  z_tuple : mg "tuple" = none
  z_zip : mg "zip" = none
theorem bt_abs : bootBuiltins "abs" = some (.builtin "abs") := by decide +kernel
theorem bt_int : bootBuiltins "int" = some (.type "int") := by decide +kernel
theorem bt_isinstance : bootBuiltins "isinstance" = some (.builtin "isinstance") := by decide +kernel
theorem bt_len : bootBuiltins "len" = some (.builtin "len") := by decide +kernel
theorem bt_list : bootBuiltins "list" = some (.type "list") := by decide +kernel
theorem bt_max : bootBuiltins "max" = some (.builtin "max") := by decide +kernel
theorem bt_range : bootBuiltins "range" = some (.type "range") := by decide +kernel
theorem bt_repr : bootBuiltins "repr" = some (.builtin "repr") := by decide +kernel
theorem bt_str : bootBuiltins "str" = some (.type "str") := by decide +kernel
theorem bt_sum : bootBuiltins "sum" = some (.builtin "sum") := by decide +kernel
theorem bt_tuple : bootBuiltins "tuple" = some (.type "tuple") := by decide +kernel
theorem bt_zip : bootBuiltins "zip" = some (.type "zip") := by decide +kernel
def f__law_copy (self : M O) : M Fl := (sRet (eCN hTuple (lC (eOp hAdd (eLst (aC (eOp hIx (eV 0) (eC (.int 0))) aN)) (eLc [1] (iV (eSl (eV 0) (pI (eC (.int 1))) pN)) (tgName 1) iT (eCall self 1 (gF (eV 1) gN)))) lN)))
def g__law_copy : Nat → M O
  | 0 => fun _ => none
  | n + 1 => defG 1 2 (f__law_copy (g__law_copy n))
theorem ok__law_copy {P : Program} {w : World} {K : PySem.W.Frag} {mg : Str → Option Value} {base : Heap} (Z : Zs mg) {f : Addr} {fd : FuncData} (d : Def K mg "_law_copy" s__law_copy ["tree"] f fd) : ∀ n__law_copy : Nat, FnG P w K mg base (0 + n__law_copy) f fd ["tree"] (g__law_copy n__law_copy)
  | 0 => FnG.zero
  | n__law_copy + 1 =>
    have cS : Cal P w K mg base (0 + n__law_copy) "_law_copy" 1 (g__law_copy n__law_copy) := d.cal (ok__law_copy Z d n__law_copy)
    FnG.of (k := 0 + n__law_copy) (fB := f__law_copy (g__law_copy n__law_copy)) d.fu sc__law_copy fun cdv A outer s H E hgd hr =>
      (evB_one
      (ev_ret (ev_callTy call_tuple_of sn_tuple (by rfl) Z.z_tuple bt_tuple (evL_cons (ev_op2 op_addAll sn_add (ev_lst (r_cons (ev_ix (ix_all (hu200 hr)) sn_ix (ev_var 0) ev_int (fun _ _ => rfl)) evA_nil)) (ev_lc (own := [("part", 1)]) (by rfl) sc__law_copy.nd (evI_val (ev_slice (ev_var 0) (evP_some ev_int) evP_none)) (blkOk_by (N := ["tree", "part"]) (sc := defScope s__law_copy) (own := [("part", 1)]) (by decide +kernel)) tg_name (tw_name (by decide)) (gName_mono) (fun _ _ _ _ _ => (pg_name (i := 1) sc__law_copy.nd rfl (by first | exact Or.inl rfl | exact Or.inr rfl))) (fun _ _ _ _ _ => evQ_nil) (fun _ _ _ _ _ => ev_frz (r_call cS (Nat.le_refl _) hr hgd (by rfl) takes0 (evG_fz (ev_var 1) evG_nil))))) evL_nil))))
def f__law_size (self : M O) : M Fl := (sRet (eOp hAdd (eC (.int 1)) (eCN hSum (lC (eLc [1] (iV (eSl (eV 0) (pI (eC (.int 1))) pN)) (tgName 1) iT (eCall self 1 (gF (eV 1) gN))) lN))))
def g__law_size : Nat → M O
  | 0 => fun _ => none
  | n + 1 => defG 1 2 (f__law_size (g__law_size n))
theorem ok__law_size {P : Program} {w : World} {K : PySem.W.Frag} {mg : Str → Option Value} {base : Heap} (Z : Zs mg) {f : Addr} {fd : FuncData} (d : Def K mg "_law_size" s__law_size ["term"] f fd) : ∀ n__law_size : Nat, FnG P w K mg base (0 + n__law_size) f fd ["term"] (g__law_size n__law_size)
  | 0 => FnG.zero
  | n__law_size + 1 =>
    have cS : Cal P w K mg base (0 + n__law_size) "_law_size" 1 (g__law_size n__law_size) := d.cal (ok__law_size Z d n__law_size)
    FnG.of (k := 0 + n__law_size) (fB := f__law_size (g__law_size n__law_size)) d.fu sc__law_size fun cdv A outer s H E hgd hr =>
      (evB_one
      (ev_ret (ev_op2 op_addAll sn_add ev_int (ev_callB (cr_sum (by rfl)) sn_sum (by rfl) Z.z_sum bt_sum (evL_cons (ev_lc (own := [("part", 1)]) (by rfl) sc__law_size.nd (evI_val (ev_slice (ev_var 0) (evP_some ev_int) evP_none)) (blkOk_by (N := ["term", "part"]) (sc := defScope s__law_size) (own := [("part", 1)]) (by decide +kernel)) tg_name (tw_name (by decide)) (gName_mono) (fun _ _ _ _ _ => (pg_name (i := 1) sc__law_size.nd rfl (by first | exact Or.inl rfl | exact Or.inr rfl))) (fun _ _ _ _ _ => evQ_nil) (fun _ _ _ _ _ => ev_frz (r_call cS (Nat.le_refl _) hr hgd (by rfl) takes0 (evG_fz (ev_var 1) evG_nil)))) evL_nil)))))
def f__law_key (n__law_size : Nat) (self : M O) : M Fl := (sSeq (sSet 2 (eLc [3, 4] (iV (eV 0)) (tgTup 2 (tgCons (tgName 3) (tgCons (tgName 4) tgNil))) iT (eV 3)))
    (sRet (eCN hTuple (lC (eOp hAdd (eLst (aC (eCall (g__law_size n__law_size) 1 (gF (eV 1) gN)) (aC (eMt "list" hIndex (eV 2) (lC (eOp hIx (eV 1) (eC (.int 0))) lN)) aN))) (eLc [5] (iV (eSl (eV 1) (pI (eC (.int 1))) pN)) (tgName 5) iT (eCall self 2 (gF (eV 0) (gF (eV 5) gN))))) lN))))
def g__law_key : Nat → M O
  | 0 => fun _ => none
  | n + 1 => defG 2 6 (f__law_key n (g__law_key n))
theorem ok__law_key {P : Program} {w : World} {K : PySem.W.Frag} {mg : Str → Option Value} {base : Heap} (Z : Zs mg) {f : Addr} {fd : FuncData} (d : Def K mg "_law_key" s__law_key ["signs", "tree"] f fd) (c__law_size : ∀ n__law_size : Nat, Cal P w K mg base (0 + n__law_size) "_law_size" 1 (g__law_size n__law_size)) : ∀ n__law_key : Nat, FnG P w K mg base (0 + n__law_key) f fd ["signs", "tree"] (g__law_key n__law_key)
  | 0 => FnG.zero
  | n__law_key + 1 =>
    have cS : Cal P w K mg base (0 + n__law_key) "_law_key" 2 (g__law_key n__law_key) := d.cal (ok__law_key Z d c__law_size n__law_key)
    FnG.of (k := 0 + n__law_key) (fB := f__law_key n__law_key (g__law_key n__law_key)) d.fu sc__law_key fun cdv A outer s H E hgd hr =>
      (evB_cons
      (ev_setLc (own := [("sign", 3), ("arity", 4)]) (by rfl) sc__law_key.nd (i := 2) rfl rfl (sw_true rfl rfl rfl (by decide +kernel)) (evI_val (ev_var 0)) (blkOk_by (N := ["signs", "tree", "words", "sign", "arity", "part"]) (sc := defScope s__law_key) (own := [("sign", 3), ("arity", 4)]) (by decide +kernel)) (tg_tup (tg_cons tg_name (tg_cons tg_name tg_nil gName_mono) gName_mono)) (tw_tup (tw_cons (tw_name (by decide)) (tw_cons (tw_name (by decide)) tw_nil gName_mono) gName_mono)) (tm_tup (tm_cons gName_mono (tm_cons gName_mono tm_nil))) (fun _ _ _ _ _ => (pg_tup rfl (pgs_cons (pg_name (i := 3) sc__law_key.nd rfl (by first | exact Or.inl rfl | exact Or.inr rfl)) (pgs_cons (pg_name (i := 4) sc__law_key.nd rfl (by first | exact Or.inl rfl | exact Or.inr rfl)) pgs_nil)))) (fun _ _ _ _ _ => evQ_nil) (fun _ _ _ _ _ => ev_frz (ev_var 3)))
      (evB_one
      (ev_ret (ev_callTy call_tuple_of sn_tuple (by rfl) Z.z_tuple bt_tuple (evL_cons (ev_op2 op_addAll sn_add (ev_lst (r_cons (r_call (c__law_size n__law_key) (Nat.add_le_add_right (Nat.zero_le _) _) hr hgd (by rfl) cx_takes (evG_fz (ev_var 1) evG_nil)) (r_cons (ev_bm PySem.F.plainAttrs_list PySem.F.slot_list_index PySem.F.type_list_index mt_index sn_index (ev_var 2) (evL_cons (ev_ix (ix_all (hu200 hr)) sn_ix (ev_var 1) ev_int (fun _ _ => rfl)) evL_nil)) evA_nil))) (ev_lc (own := [("part", 5)]) (by rfl) sc__law_key.nd (evI_val (ev_slice (ev_var 1) (evP_some ev_int) evP_none)) (blkOk_by (N := ["signs", "tree", "words", "sign", "arity", "part"]) (sc := defScope s__law_key) (own := [("part", 5)]) (by decide +kernel)) tg_name (tw_name (by decide)) (gName_mono) (fun _ _ _ _ _ => (pg_name (i := 5) sc__law_key.nd rfl (by first | exact Or.inl rfl | exact Or.inr rfl))) (fun _ _ _ _ _ => evQ_nil) (fun _ _ _ _ _ => ev_frz (r_call cS (Nat.le_refl _) hr hgd (by rfl) takes0 (evG_fz (ev_var 0) (evG_fz (ev_var 5) evG_nil)))))) evL_nil)))))
def f__law_same : M Fl := (sRet (eOp hEq (eCN hRepr (lC (eLst (aC (eV 0) aN)) lN)) (eCN hRepr (lC (eLst (aC (eV 1) aN)) lN))))
def g__law_same : M O := defG 2 2 (f__law_same)
theorem ok__law_same {P : Program} {w : World} {K : PySem.W.Frag} {mg : Str → Option Value} {base : Heap} (Z : Zs mg) {f : Addr} {fd : FuncData} (d : Def K mg "_law_same" s__law_same ["told", "due"] f fd) : FnG P w K mg base (0 + 1) f fd ["told", "due"] (g__law_same) :=
    FnG.of (k := 0) (fB := f__law_same) d.fu sc__law_same fun cdv A outer s H E hgd hr =>
      (evB_one
      (ev_ret (ev_cmp2 (op_eqP (hu200 hr)) sn_eq (ev_callB (call_repr hgd (hu200 hr)) sn_repr (by rfl) Z.z_repr bt_repr (evL_cons (ev_lst (r_cons (ev_var 0) evA_nil)) evL_nil)) (ev_callB (call_repr hgd (hu200 hr)) sn_repr (by rfl) Z.z_repr bt_repr (evL_cons (ev_lst (r_cons (ev_var 1) evA_nil)) evL_nil)) (by rfl))))
def f_rank_of : M Fl := (sRet (eMt "list" hIndex (eLc [2, 3] (iV (eV 0)) (tgTup 2 (tgCons (tgName 2) (tgCons (tgName 3) tgNil))) iT (eV 2)) (lC (eV 1) lN)))
def g_rank_of : M O := defG 2 4 (f_rank_of)
theorem ok_rank_of {P : Program} {w : World} {K : PySem.W.Frag} {mg : Str → Option Value} {base : Heap} (Z : Zs mg) {f : Addr} {fd : FuncData} (d : Def K mg "rank_of" s_rank_of ["signs", "word"] f fd) : FnG P w K mg base (0 + 1) f fd ["signs", "word"] (g_rank_of) :=
    FnG.of (k := 0) (fB := f_rank_of) d.fu sc_rank_of fun cdv A outer s H E hgd hr =>
      (evB_one
      (ev_ret (ev_bm PySem.F.plainAttrs_list PySem.F.slot_list_index PySem.F.type_list_index mt_index sn_index (ev_lc (own := [("sign", 2), ("_", 3)]) (by rfl) sc_rank_of.nd (evI_val (ev_var 0)) (blkOk_by (N := ["signs", "word", "sign", "_"]) (sc := defScope s_rank_of) (own := [("sign", 2), ("_", 3)]) (by decide +kernel)) (tg_tup (tg_cons tg_name (tg_cons tg_name tg_nil gName_mono) gName_mono)) (tw_tup (tw_cons (tw_name (by decide)) (tw_cons (tw_name (by decide)) tw_nil gName_mono) gName_mono)) (tm_tup (tm_cons gName_mono (tm_cons gName_mono tm_nil))) (fun _ _ _ _ _ => (pg_tup rfl (pgs_cons (pg_name (i := 2) sc_rank_of.nd rfl (by first | exact Or.inl rfl | exact Or.inr rfl)) (pgs_cons (pg_name (i := 3) sc_rank_of.nd rfl (by first | exact Or.inl rfl | exact Or.inr rfl)) pgs_nil)))) (fun _ _ _ _ _ => evQ_nil) (fun _ _ _ _ _ => ev_frz (ev_var 2))) (evL_cons (ev_var 1) evL_nil))))
def f_size_of (self : M O) : M Fl := (sSeq (sIf (tTr (eUn (hIsi "str") (eV 0))) (sRet (eC (.int 1))) sN)
    (sRet (eOp hAdd (eC (.int 1)) (eCN hSum (lC (eLc [1] (iV (eSl (eV 0) (pI (eC (.int 1))) pN)) (tgName 1) iT (eCall self 1 (gF (eV 1) gN))) lN)))))
def g_size_of : Nat → M O
  | 0 => fun _ => none
  | n + 1 => defG 1 2 (f_size_of (g_size_of n))
theorem ok_size_of {P : Program} {w : World} {K : PySem.W.Frag} {mg : Str → Option Value} {base : Heap} (Z : Zs mg) {f : Addr} {fd : FuncData} (d : Def K mg "size_of" s_size_of ["term"] f fd) : ∀ n_size_of : Nat, FnG P w K mg base (0 + n_size_of) f fd ["term"] (g_size_of n_size_of)
  | 0 => FnG.zero
  | n_size_of + 1 =>
    have cS : Cal P w K mg base (0 + n_size_of) "size_of" 1 (g_size_of n_size_of) := d.cal (ok_size_of Z d n_size_of)
    FnG.of (k := 0 + n_size_of) (fB := f_size_of (g_size_of n_size_of)) d.fu sc_size_of fun cdv A outer s H E hgd hr =>
      (evB_cons
      (ev_if (evT_tru (ev_isi (by rfl) Z.z_isinstance (by rfl) Z.z_str bt_str (ev_var 0) bt_isinstance)) (evB_one
      (ev_ret ev_int)) evB_nil)
      (evB_one
      (ev_ret (ev_op2 op_addAll sn_add ev_int (ev_callB (cr_sum (by rfl)) sn_sum (by rfl) Z.z_sum bt_sum (evL_cons (ev_lc (own := [("part", 1)]) (by rfl) sc_size_of.nd (evI_val (ev_slice (ev_var 0) (evP_some ev_int) evP_none)) (blkOk_by (N := ["term", "part"]) (sc := defScope s_size_of) (own := [("part", 1)]) (by decide +kernel)) tg_name (tw_name (by decide)) (gName_mono) (fun _ _ _ _ _ => (pg_name (i := 1) sc_size_of.nd rfl (by first | exact Or.inl rfl | exact Or.inr rfl))) (fun _ _ _ _ _ => evQ_nil) (fun _ _ _ _ _ => ev_frz (r_call cS (Nat.le_refl _) hr hgd (by rfl) takes0 (evG_fz (ev_var 1) evG_nil)))) evL_nil))))))
def f_compare_trees (n_size_of : Nat) (self : M O) : M Fl := (sSeq (sSet 3 (eTup (aC (eCall (g_size_of n_size_of) 1 (gF (eV 1) gN)) (aC (eCall (g_rank_of) 2 (gF (eV 0) (gF (eOp hIx (eV 1) (eC (.int 0))) gN))) aN))))
    (sSeq (sSet 4 (eTup (aC (eCall (g_size_of n_size_of) 1 (gF (eV 2) gN)) (aC (eCall (g_rank_of) 2 (gF (eV 0) (gF (eOp hIx (eV 2) (eC (.int 0))) gN))) aN))))
    (sSeq (sIf (eTs hNe (eV 3) (eV 4)) (sRet (eIf (eTs (hOrd false) (eV 3) (eV 4)) (eUn hNeg (eC (.int 1))) (eC (.int 1)))) sN)
    (sSeq (sFor (iZ (aC (eSl (eV 1) (pI (eC (.int 1))) pN) (aC (eSl (eV 2) (pI (eC (.int 1))) pN) aN))) (tgTup 2 (tgCons (tgName 5) (tgCons (tgName 6) tgNil))) (sSeq (sSet 7 (eCall self 3 (gF (eV 0) (gF (eV 5) (gF (eV 6) gN)))))
    (sIf (eTs hNe (eV 7) (eC (.int 0))) (sRet (eV 7)) sN)))
    (sRet (eC (.int 0)))))))
def g_compare_trees : Nat → M O
  | 0 => fun _ => none
  | n + 1 => defG 3 8 (f_compare_trees n (g_compare_trees n))
theorem ok_compare_trees {P : Program} {w : World} {K : PySem.W.Frag} {mg : Str → Option Value} {base : Heap} (Z : Zs mg) {f : Addr} {fd : FuncData} (d : Def K mg "compare_trees" s_compare_trees ["signs", "first", "second"] f fd) (c_rank_of : Cal P w K mg base (0 + 1) "rank_of" 2 (g_rank_of)) (c_size_of : ∀ n_size_of : Nat, Cal P w K mg base (0 + n_size_of) "size_of" 1 (g_size_of n_size_of)) : ∀ n_compare_trees : Nat, FnG P w K mg base ((0 + 1) + n_compare_trees) f fd ["signs", "first", "second"] (g_compare_trees n_compare_trees)
  | 0 => FnG.zero
  | n_compare_trees + 1 =>
    have cS : Cal P w K mg base ((0 + 1) + n_compare_trees) "compare_trees" 3 (g_compare_trees n_compare_trees) := d.cal (ok_compare_trees Z d c_rank_of c_size_of n_compare_trees)
    FnG.of (k := (0 + 1) + n_compare_trees) (fB := f_compare_trees n_compare_trees (g_compare_trees n_compare_trees)) d.fu sc_compare_trees fun cdv A outer s H E hgd hr =>
      (evB_cons
      (ev_set (i := 3) sc_compare_trees.nd rfl (by first | exact Or.inl rfl | exact Or.inr rfl) (ev_tup (r_cons (r_call (c_size_of n_compare_trees) (Nat.add_le_add_right (Nat.zero_le _) _) hr hgd (by rfl) cx_takes (evG_fz (ev_var 1) evG_nil)) (r_cons (r_call c_rank_of (Nat.le_trans (Nat.le_refl _) (Nat.le_add_right _ _)) hr hgd (by rfl) cx_takes (evG_fz (ev_var 0) (evG_fz (ev_ix (ix_all (hu200 hr)) sn_ix (ev_var 1) ev_int (fun _ _ => rfl)) evG_nil))) evA_nil))))
      (evB_cons
      (ev_set (i := 4) sc_compare_trees.nd rfl (by first | exact Or.inl rfl | exact Or.inr rfl) (ev_tup (r_cons (r_call (c_size_of n_compare_trees) (Nat.add_le_add_right (Nat.zero_le _) _) hr hgd (by rfl) cx_takes (evG_fz (ev_var 2) evG_nil)) (r_cons (r_call c_rank_of (Nat.le_trans (Nat.le_refl _) (Nat.le_add_right _ _)) hr hgd (by rfl) cx_takes (evG_fz (ev_var 0) (evG_fz (ev_ix (ix_all (hu200 hr)) sn_ix (ev_var 2) ev_int (fun _ _ => rfl)) evG_nil))) evA_nil))))
      (evB_cons
      (ev_if (ev_cmpT (op_neP (hu200 hr)) sn_ne (ev_var 3) (ev_var 4) (by rfl)) (evB_one
      (ev_ret (ev_ifx (ev_cmpT (op_ltO (hu200 hr)) sn_ord (ev_var 3) (ev_var 4) (by rfl)) (ev_un un_neg sn_neg ev_int) ev_int))) evB_nil)
      (evB_cons
      (ev_for cx_passes rfl (evI_zip (by rfl) Z.z_zip (r_cons (ev_slice (ev_var 1) (evP_some ev_int) evP_none) (r_cons (ev_slice (ev_var 2) (evP_some ev_int) evP_none) evA_nil))) (pg_tup rfl (pgs_cons (pg_name (i := 5) sc_compare_trees.nd rfl (by first | exact Or.inl rfl | exact Or.inr rfl)) (pgs_cons (pg_name (i := 6) sc_compare_trees.nd rfl (by first | exact Or.inl rfl | exact Or.inr rfl)) pgs_nil))) (tg_tup (tg_cons tg_name (tg_cons tg_name tg_nil gName_mono) gName_mono)) (evB_cons
      (ev_set (i := 7) sc_compare_trees.nd rfl (by first | exact Or.inl rfl | exact Or.inr rfl) (r_call cS (Nat.le_refl _) hr hgd (by rfl) cx_takes (evG_fz (ev_var 0) (evG_fz (ev_var 5) (evG_fz (ev_var 6) evG_nil)))))
      (evB_one
      (ev_if (ev_cmpT (op_neP (hu200 hr)) sn_ne (ev_var 7) ev_int (by rfl)) (evB_one
      (ev_ret (ev_var 7))) evB_nil))))
      (evB_one
      (ev_ret ev_int))))))
def f__law_agrees (n__law_copy : Nat) (n__law_key : Nat) (n_compare_trees : Nat) : M Fl := (sSeq (sSet 3 (eCall (g__law_key n__law_key) 2 (gF (eV 0) (gF (eV 1) gN))))
    (sSeq (sSet 4 (eCall (g__law_key n__law_key) 2 (gF (eV 0) (gF (eV 2) gN))))
    (sSeq (sSet 5 (eOp (hI (fun _ _ => true) fun i j => i - j) (eCN hInt (lC (eOp (hOrd true) (eV 3) (eV 4)) lN)) (eCN hInt (lC (eOp (hOrd false) (eV 3) (eV 4)) lN))))
    (sSeq (sSet 6 (eCall (g_compare_trees n_compare_trees) 3 (gF (eV 0) (gF (eV 1) (gF (eV 2) gN)))))
    (sRet (eCall (g__law_same) 2 (gF (eLst (aC (eV 6) (aC (eCall (g_compare_trees n_compare_trees) 3 (gF (eV 0) (gF (eV 2) (gF (eV 1) gN)))) (aC (eCall (g_compare_trees n_compare_trees) 3 (gF (eV 0) (gF (eV 1) (gF (eCall (g__law_copy n__law_copy) 1 (gF (eV 1) gN)) gN)))) aN)))) (gF (eLst (aC (eV 5) (aC (eOp (hI (fun _ _ => true) fun i j => i - j) (eC (.int 0)) (eV 5)) (aC (eC (.int 0)) aN)))) gN))))))))
def g__law_agrees (n__law_copy : Nat) (n__law_key : Nat) (n_compare_trees : Nat) : M O := defG 3 7 (f__law_agrees n__law_copy n__law_key n_compare_trees)
theorem ok__law_agrees {P : Program} {w : World} {K : PySem.W.Frag} {mg : Str → Option Value} {base : Heap} (Z : Zs mg) {f : Addr} {fd : FuncData} (n__law_copy : Nat) (n__law_key : Nat) (n_compare_trees : Nat) (d : Def K mg "_law_agrees" s__law_agrees ["signs", "first", "second"] f fd) (c__law_copy : ∀ n__law_copy : Nat, Cal P w K mg base (0 + n__law_copy) "_law_copy" 1 (g__law_copy n__law_copy)) (c__law_key : ∀ n__law_key : Nat, Cal P w K mg base (0 + n__law_key) "_law_key" 2 (g__law_key n__law_key)) (c__law_same : Cal P w K mg base (0 + 1) "_law_same" 2 (g__law_same)) (c_compare_trees : ∀ n_compare_trees : Nat, Cal P w K mg base ((0 + 1) + n_compare_trees) "compare_trees" 3 (g_compare_trees n_compare_trees)) : FnG P w K mg base ((max (max (max (0 + n__law_copy) (0 + n__law_key)) (0 + 1)) ((0 + 1) + n_compare_trees)) + 1) f fd ["signs", "first", "second"] (g__law_agrees n__law_copy n__law_key n_compare_trees) :=
    FnG.of (k := (max (max (max (0 + n__law_copy) (0 + n__law_key)) (0 + 1)) ((0 + 1) + n_compare_trees))) (fB := f__law_agrees n__law_copy n__law_key n_compare_trees) d.fu sc__law_agrees fun cdv A outer s H E hgd hr =>
      (evB_cons
      (ev_set (i := 3) sc__law_agrees.nd rfl (by first | exact Or.inl rfl | exact Or.inr rfl) (r_call (c__law_key n__law_key) (Nat.le_trans (Nat.le_trans (Nat.le_max_right _ _) (Nat.le_max_left _ _)) (Nat.le_max_left _ _)) hr hgd (by rfl) cx_takes (evG_fz (ev_var 0) (evG_fz (ev_var 1) evG_nil))))
      (evB_cons
      (ev_set (i := 4) sc__law_agrees.nd rfl (by first | exact Or.inl rfl | exact Or.inr rfl) (r_call (c__law_key n__law_key) (Nat.le_trans (Nat.le_trans (Nat.le_max_right _ _) (Nat.le_max_left _ _)) (Nat.le_max_left _ _)) hr hgd (by rfl) cx_takes (evG_fz (ev_var 0) (evG_fz (ev_var 2) evG_nil))))
      (evB_cons
      (ev_set (i := 5) sc__law_agrees.nd rfl (by first | exact Or.inl rfl | exact Or.inr rfl) (ev_op2 op_sub sn_sub (ev_callTy call_intA sn_int (by rfl) Z.z_int bt_int (evL_cons (ev_cmp2 (op_gtO (hu200 hr)) sn_ord (ev_var 3) (ev_var 4) (by rfl)) evL_nil)) (ev_callTy call_intA sn_int (by rfl) Z.z_int bt_int (evL_cons (ev_cmp2 (op_ltO (hu200 hr)) sn_ord (ev_var 3) (ev_var 4) (by rfl)) evL_nil))))
      (evB_cons
      (ev_set (i := 6) sc__law_agrees.nd rfl (by first | exact Or.inl rfl | exact Or.inr rfl) (r_call (c_compare_trees n_compare_trees) (Nat.le_max_right _ _) hr hgd (by rfl) cx_takes (evG_fz (ev_var 0) (evG_fz (ev_var 1) (evG_fz (ev_var 2) evG_nil)))))
      (evB_one
      (ev_ret (r_call c__law_same (Nat.le_trans (Nat.le_max_right _ _) (Nat.le_max_left _ _)) hr hgd (by rfl) cx_takes (evG_fz (ev_lst (r_cons (ev_var 6) (r_cons (r_call (c_compare_trees n_compare_trees) (Nat.le_max_right _ _) hr hgd (by rfl) cx_takes (evG_fz (ev_var 0) (evG_fz (ev_var 2) (evG_fz (ev_var 1) evG_nil)))) (r_cons (r_call (c_compare_trees n_compare_trees) (Nat.le_max_right _ _) hr hgd (by rfl) cx_takes (evG_fz (ev_var 0) (evG_fz (ev_var 1) (evG_fz (r_call (c__law_copy n__law_copy) (Nat.le_trans (Nat.le_trans (Nat.le_trans (Nat.le_refl _) (Nat.le_max_left _ _)) (Nat.le_max_left _ _)) (Nat.le_max_left _ _)) hr hgd (by rfl) cx_takes (evG_fz (ev_var 1) evG_nil)) evG_nil)))) evA_nil)))) (evG_fz (ev_lst (r_cons (ev_var 5) (r_cons (ev_op2 op_sub sn_sub ev_int (ev_var 5)) (r_cons ev_int evA_nil)))) evG_nil)))))))))
def f__law_next : M Fl := (sSeq (sSt 0 (eOp hAdd (eOp hIx (eV 0) (eC (.int 1))) (eC (.int 1))) (eC (.int 1)))
    (sSeq (sSet 2 (eOp (hI cDiv fun i j => i / j) (eOp hIx (eV 0) (eC (.int 1))) (eCN hLen (lC (eOp hIx (eV 0) (eC (.int 0))) lN))))
    (sRet (eOp (hI cMod fun i j => i % j) (eCN hInt (lC (eOp hAdd (eOp hAdd (eOp hIx (eOp hIx (eV 0) (eC (.int 0))) (eOp (hI cMod fun i j => i % j) (eOp hIx (eV 0) (eC (.int 1))) (eCN hLen (lC (eOp hIx (eV 0) (eC (.int 0))) lN)))) (eOp (hI cMul fun i j => i * j) (eV 2) (eC (.int 389)))) (eOp (hI cMul fun i j => i * j) (eOp (hI cMul fun i j => i * j) (eOp hIx (eV 0) (eC (.int 1))) (eV 2)) (eC (.int 17)))) lN)) (eV 1)))))
def g__law_next : M O := defG 2 3 (f__law_next)
theorem ok__law_next {P : Program} {w : World} {K : PySem.W.Frag} {mg : Str → Option Value} {base : Heap} (Z : Zs mg) {f : Addr} {fd : FuncData} (d : Def K mg "_law_next" s__law_next ["state", "many"] f fd) : FnG P w K mg base (0 + 1) f fd ["state", "many"] (g__law_next) :=
    FnG.of (k := 0) (fB := f__law_next) d.fu sc__law_next fun cdv A outer s H E hgd hr =>
      (evB_cons
      (ev_store (hu200 hr) (pv 0) ev_int (ev_op2 op_addAll sn_add (ev_ix (ix_all (hu200 hr)) sn_ix (ev_var 0) ev_int (fun _ _ => rfl)) ev_int))
      (evB_cons
      (ev_set (i := 2) sc__law_next.nd rfl (by first | exact Or.inl rfl | exact Or.inr rfl) (ev_op2 op_fdiv sn_fdiv (ev_ix (ix_all (hu200 hr)) sn_ix (ev_var 0) ev_int (fun _ _ => rfl)) (ev_callB call_lenA sn_len (by rfl) Z.z_len bt_len (evL_cons (ev_ix (ix_all (hu200 hr)) sn_ix (ev_var 0) ev_int (fun _ _ => rfl)) evL_nil))))
      (evB_one
      (ev_ret (ev_op2 op_mod sn_mod (ev_callTy call_intA sn_int (by rfl) Z.z_int bt_int (evL_cons (ev_op2 op_addAll sn_add (ev_op2 op_addAll sn_add (ev_ix (ix_all (hu200 hr)) sn_ix (ev_ix (ix_all (hu200 hr)) sn_ix (ev_var 0) ev_int (fun _ _ => rfl)) (ev_op2 op_mod sn_mod (ev_ix (ix_all (hu200 hr)) sn_ix (ev_var 0) ev_int (fun _ _ => rfl)) (ev_callB call_lenA sn_len (by rfl) Z.z_len bt_len (evL_cons (ev_ix (ix_all (hu200 hr)) sn_ix (ev_var 0) ev_int (fun _ _ => rfl)) evL_nil))) (fun _ _ => rfl)) (ev_op2 op_mulW sn_mulI (ev_var 2) ev_int)) (ev_op2 op_mulW sn_mulI (ev_op2 op_mulW sn_mulI (ev_ix (ix_all (hu200 hr)) sn_ix (ev_var 0) ev_int (fun _ _ => rfl)) (ev_var 2)) ev_int)) evL_nil)) (ev_var 1))))))
def f__law_term (self : M O) : M Fl := (sSeq (sSet 4 (eCall (g__law_next) 2 (gB 0 (gF (eC (.int 60)) gN))))
    (sSeq (sIf (tAn (eTs hGt (eCN hLen (lC (eV 2) lN)) (eC (.int 0))) (tAn (tO (eTs hLe (eV 3) (eC (.int 1))) (eTs hEq (eOp (hI cMod fun i j => i % j) (eV 4) (eC (.int 4))) (eC (.int 0)))) (eTs hGt (eOp (hI cMod fun i j => i % j) (eOp (hI cDiv fun i j => i / j) (eV 4) (eC (.int 4))) (eC (.int 5))) (eC (.int 0))))) (sRet (eOp hIx (eV 2) (eOp (hI cMod fun i j => i % j) (eOp (hI cDiv fun i j => i / j) (eV 4) (eC (.int 20))) (eCN hLen (lC (eV 2) lN))))) sN)
    (sSeq (sSet 5 (eLc [10] (iV (eV 1)) (tgName 10) (tAn (eTs hLt (eOp hIx (eV 10) (eC (.int 1))) (eV 3)) (tO (eTs hGt (eOp hIx (eV 10) (eC (.int 1))) (eC (.int 0))) (tO (eTs hLe (eV 3) (eC (.int 1))) (eTs hLt (eOp (hI cMod fun i j => i % j) (eV 4) (eC (.int 4))) (eC (.int 2)))))) (eV 10)))
    (sSeq (sIf (eTs hEq (eCN hLen (lC (eV 5) lN)) (eC (.int 0))) (sSet 5 (eLc [10] (iV (eV 1)) (tgName 10) (eTs hEq (eOp hIx (eV 10) (eC (.int 1))) (eC (.int 0))) (eV 10))) sN)
    (sSeq (sAsg (eOp hIx (eV 5) (eCall (g__law_next) 2 (gB 0 (gF (eCN hLen (lC (eV 5) lN)) gN)))) (tgTup 2 (tgCons (tgName 6) (tgCons (tgName 7) tgNil))))
    (sSeq (sIf (eTs hEq (eV 7) (eC (.int 0))) (sRet (eTup (aC (eV 6) aN))) sN)
    (sSeq (sIf (eTs hEq (eV 7) (eC (.int 1))) (sRet (eTup (aC (eV 6) (aC (eCall self 4 (gB 0 (gF (eV 1) (gF (eV 2) (gF (eOp (hI (fun _ _ => true) fun i j => i - j) (eV 3) (eC (.int 1))) gN))))) aN)))) sN)
    (sSeq (sSet 8 (eOp hAdd (eC (.int 1)) (eCall (g__law_next) 2 (gB 0 (gF (eCN hMax2 (lC (eC (.int 1)) (lC (eOp (hI (fun _ _ => true) fun i j => i - j) (eV 3) (eC (.int 2))) lN))) gN)))))
    (sSeq (sSet 9 (eCall self 4 (gB 0 (gF (eV 1) (gF (eV 2) (gF (eV 8) gN))))))
    (sRet (eTup (aC (eV 6) (aC (eV 9) (aC (eCall self 4 (gB 0 (gF (eV 1) (gF (eV 2) (gF (eCN hMax2 (lC (eC (.int 1)) (lC (eOp (hI (fun _ _ => true) fun i j => i - j) (eOp (hI (fun _ _ => true) fun i j => i - j) (eV 3) (eC (.int 1))) (eV 8)) lN))) gN))))) aN))))))))))))))
def g__law_term : Nat → M O
  | 0 => fun _ => none
  | n + 1 => defG 4 11 (f__law_term (g__law_term n))
theorem ok__law_term {P : Program} {w : World} {K : PySem.W.Frag} {mg : Str → Option Value} {base : Heap} (Z : Zs mg) {f : Addr} {fd : FuncData} (d : Def K mg "_law_term" s__law_term ["state", "signs", "names", "room"] f fd) (c__law_next : Cal P w K mg base (0 + 1) "_law_next" 2 (g__law_next)) : ∀ n__law_term : Nat, FnG P w K mg base ((0 + 1) + n__law_term) f fd ["state", "signs", "names", "room"] (g__law_term n__law_term)
  | 0 => FnG.zero
  | n__law_term + 1 =>
    have cS : Cal P w K mg base ((0 + 1) + n__law_term) "_law_term" 4 (g__law_term n__law_term) := d.cal (ok__law_term Z d c__law_next n__law_term)
    FnG.of (k := (0 + 1) + n__law_term) (fB := f__law_term (g__law_term n__law_term)) d.fu sc__law_term fun cdv A outer s H E hgd hr =>
      (evB_cons
      (ev_set (i := 4) sc__law_term.nd rfl (by first | exact Or.inl rfl | exact Or.inr rfl) (r_call c__law_next (Nat.le_trans (Nat.le_refl _) (Nat.le_add_right _ _)) hr hgd (by rfl) cx_takes (evG_br (pv 0) (evG_fz ev_int evG_nil))))
      (evB_cons
      (ev_if (evT_w (evW_and (ev_cmpT op_gtA sn_cmp (ev_callB call_lenA sn_len (by rfl) Z.z_len bt_len (evL_cons (ev_var 2) evL_nil)) ev_int (by rfl)) (evW_and (evT_w (evW_or (ev_cmpT op_leA sn_cmp (ev_var 3) ev_int (by rfl)) (evW_or1 (ev_cmpT (op_eqP (hu200 hr)) sn_eq (ev_op2 op_mod sn_mod (ev_var 4) ev_int) ev_int (by rfl))))) (evW_and1 (ev_cmpT op_gtA sn_cmp (ev_op2 op_mod sn_mod (ev_op2 op_fdiv sn_fdiv (ev_var 4) ev_int) ev_int) ev_int (by rfl)))))) (evB_one
      (ev_ret (ev_ix (ix_all (hu200 hr)) sn_ix (ev_var 2) (ev_op2 op_mod sn_mod (ev_op2 op_fdiv sn_fdiv (ev_var 4) ev_int) (ev_callB call_lenA sn_len (by rfl) Z.z_len bt_len (evL_cons (ev_var 2) evL_nil))) (fun _ _ => rfl)))) evB_nil)
      (evB_cons
      (ev_setLc (own := [("one", 10)]) (by rfl) sc__law_term.nd (i := 5) rfl rfl (sw_true rfl rfl rfl (by decide +kernel)) (evI_val (ev_var 1)) (blkOk_by (N := ["state", "signs", "names", "room", "pick", "fit", "sign", "arity", "left", "first", "one"]) (sc := defScope s__law_term) (own := [("one", 10)]) (by decide +kernel)) tg_name (tw_name (by decide)) (gName_mono) (fun _ _ _ _ _ => (pg_name (i := 10) sc__law_term.nd rfl (by first | exact Or.inl rfl | exact Or.inr rfl))) (fun _ _ _ _ _ => (evQ_one (evT_w (evW_and (ev_cmpT op_ltA sn_cmp (ev_ix (ix_all (hu200 hr)) sn_ix (ev_var 10) ev_int (fun _ _ => rfl)) (ev_var 3) (by rfl)) (evW_and1 (evT_w (evW_or (ev_cmpT op_gtA sn_cmp (ev_ix (ix_all (hu200 hr)) sn_ix (ev_var 10) ev_int (fun _ _ => rfl)) ev_int (by rfl)) (evW_or (ev_cmpT op_leA sn_cmp (ev_var 3) ev_int (by rfl)) (evW_or1 (ev_cmpT op_ltA sn_cmp (ev_op2 op_mod sn_mod (ev_var 4) ev_int) ev_int (by rfl))))))))))) (fun _ _ _ _ _ => ev_frz (ev_var 10)))
      (evB_cons
      (ev_if (ev_cmpT (op_eqP (hu200 hr)) sn_eq (ev_callB call_lenA sn_len (by rfl) Z.z_len bt_len (evL_cons (ev_var 5) evL_nil)) ev_int (by rfl)) (evB_one
      (ev_setLc (own := [("one", 10)]) (by rfl) sc__law_term.nd (i := 5) rfl rfl (sw_true rfl rfl rfl (by decide +kernel)) (evI_val (ev_var 1)) (blkOk_by (N := ["state", "signs", "names", "room", "pick", "fit", "sign", "arity", "left", "first", "one"]) (sc := defScope s__law_term) (own := [("one", 10)]) (by decide +kernel)) tg_name (tw_name (by decide)) (gName_mono) (fun _ _ _ _ _ => (pg_name (i := 10) sc__law_term.nd rfl (by first | exact Or.inl rfl | exact Or.inr rfl))) (fun _ _ _ _ _ => (evQ_one (ev_cmpT (op_eqP (hu200 hr)) sn_eq (ev_ix (ix_all (hu200 hr)) sn_ix (ev_var 10) ev_int (fun _ _ => rfl)) ev_int (by rfl)))) (fun _ _ _ _ _ => ev_frz (ev_var 10)))) evB_nil)
      (evB_cons
      (ev_asg (ev_ix (ix_all (hu200 hr)) sn_ix (ev_var 5) (r_call c__law_next (Nat.le_trans (Nat.le_refl _) (Nat.le_add_right _ _)) hr hgd (by rfl) cx_takes (evG_br (pv 0) (evG_fz (ev_callB call_lenA sn_len (by rfl) Z.z_len bt_len (evL_cons (ev_var 5) evL_nil)) evG_nil))) (fun _ _ => rfl)) (pg_tup rfl (pgs_cons (pg_name (i := 6) sc__law_term.nd rfl (by first | exact Or.inl rfl | exact Or.inr rfl)) (pgs_cons (pg_name (i := 7) sc__law_term.nd rfl (by first | exact Or.inl rfl | exact Or.inr rfl)) pgs_nil))) (tg_tup (tg_cons tg_name (tg_cons tg_name tg_nil gName_mono) gName_mono)))
      (evB_cons
      (ev_if (ev_cmpT (op_eqP (hu200 hr)) sn_eq (ev_var 7) ev_int (by rfl)) (evB_one
      (ev_ret (ev_tup (r_cons (ev_var 6) evA_nil)))) evB_nil)
      (evB_cons
      (ev_if (ev_cmpT (op_eqP (hu200 hr)) sn_eq (ev_var 7) ev_int (by rfl)) (evB_one
      (ev_ret (ev_tup (r_cons (ev_var 6) (r_cons (r_call cS (Nat.le_refl _) hr hgd (by rfl) cx_takes (evG_br (pv 0) (evG_fz (ev_var 1) (evG_fz (ev_var 2) (evG_fz (ev_op2 op_sub sn_sub (ev_var 3) ev_int) evG_nil))))) evA_nil))))) evB_nil)
      (evB_cons
      (ev_set (i := 8) sc__law_term.nd rfl (by first | exact Or.inl rfl | exact Or.inr rfl) (ev_op2 op_addAll sn_add ev_int (r_call c__law_next (Nat.le_trans (Nat.le_refl _) (Nat.le_add_right _ _)) hr hgd (by rfl) cx_takes (evG_br (pv 0) (evG_fz (ev_callB (call_max2 (by rfl)) sn_max2 (by rfl) Z.z_max bt_max (evL_cons ev_int (evL_cons (ev_op2 op_sub sn_sub (ev_var 3) ev_int) evL_nil))) evG_nil)))))
      (evB_cons
      (ev_set (i := 9) sc__law_term.nd rfl (by first | exact Or.inl rfl | exact Or.inr rfl) (r_call cS (Nat.le_refl _) hr hgd (by rfl) cx_takes (evG_br (pv 0) (evG_fz (ev_var 1) (evG_fz (ev_var 2) (evG_fz (ev_var 8) evG_nil))))))
      (evB_one
      (ev_ret (ev_tup (r_cons (ev_var 6) (r_cons (ev_var 9) (r_cons (r_call cS (Nat.le_refl _) hr hgd (by rfl) cx_takes (evG_br (pv 0) (evG_fz (ev_var 1) (evG_fz (ev_var 2) (evG_fz (ev_callB (call_max2 (by rfl)) sn_max2 (by rfl) Z.z_max bt_max (evL_cons ev_int (evL_cons (ev_op2 op_sub sn_sub (ev_op2 op_sub sn_sub (ev_var 3) ev_int) (ev_var 8)) evL_nil))) evG_nil))))) evA_nil)))))))))))))))
def f__law_changed (n__law_term : Nat) (self : M O) : M Fl := (sSeq (sAsg (eOp hIx (eV 1) (eCall (g__law_next) 2 (gB 0 (gF (eCN hLen (lC (eV 1) lN)) gN)))) (tgTup 2 (tgCons (tgName 3) (tgCons (tgName 4) tgNil))))
    (sSeq (sIf (tO (eTs hEq (eCN hLen (lC (eV 2) lN)) (eC (.int 1))) (eTs hEq (eCall (g__law_next) 2 (gB 0 (gF (eC (.int 5)) gN))) (eC (.int 0)))) (sSeq (sIf (eTs hEq (eV 4) (eOp (hI (fun _ _ => true) fun i j => i - j) (eCN hLen (lC (eV 2) lN)) (eC (.int 1)))) (sRet (eCN hTuple (lC (eOp hAdd (eLst (aC (eV 3) aN)) (eCN hList (lC (eSl (eV 2) (pI (eC (.int 1))) pN) lN))) lN))) sN)
    (sRet (eCall (g__law_term n__law_term) 4 (gB 0 (gF (eV 1) (gF (eLst aN) (gF (eOp hAdd (eC (.int 1)) (eCall (g__law_next) 2 (gB 0 (gF (eC (.int 4)) gN)))) gN))))))) sN)
    (sSeq (sSet 5 (eOp hAdd (eC (.int 1)) (eCall (g__law_next) 2 (gB 0 (gF (eOp (hI (fun _ _ => true) fun i j => i - j) (eCN hLen (lC (eV 2) lN)) (eC (.int 1))) gN)))))
    (sRet (eOp hAdd (eOp hAdd (eSl (eV 2) pN (pI (eV 5))) (eTup (aC (eCall self 3 (gB 0 (gF (eV 1) (gF (eOp hIx (eV 2) (eV 5)) gN)))) aN))) (eSl (eV 2) (pI (eOp hAdd (eV 5) (eC (.int 1)))) pN))))))
def g__law_changed (n__law_term : Nat) : Nat → M O
  | 0 => fun _ => none
  | n + 1 => defG 3 6 (f__law_changed n__law_term (g__law_changed n__law_term n))
theorem ok__law_changed {P : Program} {w : World} {K : PySem.W.Frag} {mg : Str → Option Value} {base : Heap} (Z : Zs mg) {f : Addr} {fd : FuncData} (n__law_term : Nat) (d : Def K mg "_law_changed" s__law_changed ["state", "signs", "tree"] f fd) (c__law_next : Cal P w K mg base (0 + 1) "_law_next" 2 (g__law_next)) (c__law_term : ∀ n__law_term : Nat, Cal P w K mg base ((0 + 1) + n__law_term) "_law_term" 4 (g__law_term n__law_term)) : ∀ n__law_changed : Nat, FnG P w K mg base ((max (0 + 1) ((0 + 1) + n__law_term)) + n__law_changed) f fd ["state", "signs", "tree"] (g__law_changed n__law_term n__law_changed)
  | 0 => FnG.zero
  | n__law_changed + 1 =>
    have cS : Cal P w K mg base ((max (0 + 1) ((0 + 1) + n__law_term)) + n__law_changed) "_law_changed" 3 (g__law_changed n__law_term n__law_changed) := d.cal (ok__law_changed Z n__law_term d c__law_next c__law_term n__law_changed)
    FnG.of (k := (max (0 + 1) ((0 + 1) + n__law_term)) + n__law_changed) (fB := f__law_changed n__law_term (g__law_changed n__law_term n__law_changed)) d.fu sc__law_changed fun cdv A outer s H E hgd hr =>
      (evB_cons
      (ev_asg (ev_ix (ix_all (hu200 hr)) sn_ix (ev_var 1) (r_call c__law_next (Nat.le_trans (Nat.le_trans (Nat.le_refl _) (Nat.le_max_left _ _)) (Nat.le_add_right _ _)) hr hgd (by rfl) cx_takes (evG_br (pv 0) (evG_fz (ev_callB call_lenA sn_len (by rfl) Z.z_len bt_len (evL_cons (ev_var 1) evL_nil)) evG_nil))) (fun _ _ => rfl)) (pg_tup rfl (pgs_cons (pg_name (i := 3) sc__law_changed.nd rfl (by first | exact Or.inl rfl | exact Or.inr rfl)) (pgs_cons (pg_name (i := 4) sc__law_changed.nd rfl (by first | exact Or.inl rfl | exact Or.inr rfl)) pgs_nil))) (tg_tup (tg_cons tg_name (tg_cons tg_name tg_nil gName_mono) gName_mono)))
      (evB_cons
      (ev_if (evT_w (evW_or (ev_cmpT (op_eqP (hu200 hr)) sn_eq (ev_callB call_lenA sn_len (by rfl) Z.z_len bt_len (evL_cons (ev_var 2) evL_nil)) ev_int (by rfl)) (evW_or1 (ev_cmpT (op_eqP (hu200 hr)) sn_eq (r_call c__law_next (Nat.le_trans (Nat.le_trans (Nat.le_refl _) (Nat.le_max_left _ _)) (Nat.le_add_right _ _)) hr hgd (by rfl) cx_takes (evG_br (pv 0) (evG_fz ev_int evG_nil))) ev_int (by rfl))))) (evB_cons
      (ev_if (ev_cmpT (op_eqP (hu200 hr)) sn_eq (ev_var 4) (ev_op2 op_sub sn_sub (ev_callB call_lenA sn_len (by rfl) Z.z_len bt_len (evL_cons (ev_var 2) evL_nil)) ev_int) (by rfl)) (evB_one
      (ev_ret (ev_callTy call_tuple_of sn_tuple (by rfl) Z.z_tuple bt_tuple (evL_cons (ev_op2 op_addAll sn_add (ev_lst (r_cons (ev_var 3) evA_nil)) (ev_callTy call_list_of sn_list (by rfl) Z.z_list bt_list (evL_cons (ev_slice (ev_var 2) (evP_some ev_int) evP_none) evL_nil))) evL_nil)))) evB_nil)
      (evB_one
      (ev_ret (r_call (c__law_term n__law_term) (Nat.le_trans (Nat.le_max_right _ _) (Nat.le_add_right _ _)) hr hgd (by rfl) cx_takes (evG_br (pv 0) (evG_fz (ev_var 1) (evG_fz (ev_lst evA_nil) (evG_fz (ev_op2 op_addAll sn_add ev_int (r_call c__law_next (Nat.le_trans (Nat.le_trans (Nat.le_refl _) (Nat.le_max_left _ _)) (Nat.le_add_right _ _)) hr hgd (by rfl) cx_takes (evG_br (pv 0) (evG_fz ev_int evG_nil)))) evG_nil)))))))) evB_nil)
      (evB_cons
      (ev_set (i := 5) sc__law_changed.nd rfl (by first | exact Or.inl rfl | exact Or.inr rfl) (ev_op2 op_addAll sn_add ev_int (r_call c__law_next (Nat.le_trans (Nat.le_trans (Nat.le_refl _) (Nat.le_max_left _ _)) (Nat.le_add_right _ _)) hr hgd (by rfl) cx_takes (evG_br (pv 0) (evG_fz (ev_op2 op_sub sn_sub (ev_callB call_lenA sn_len (by rfl) Z.z_len bt_len (evL_cons (ev_var 2) evL_nil)) ev_int) evG_nil)))))
      (evB_one
      (ev_ret (ev_op2 op_addAll sn_add (ev_op2 op_addAll sn_add (ev_slice (ev_var 2) evP_none (evP_some (ev_var 5))) (ev_tup (r_cons (r_call cS (Nat.le_refl _) hr hgd (by rfl) cx_takes (evG_br (pv 0) (evG_fz (ev_var 1) (evG_fz (ev_ix (ix_all (hu200 hr)) sn_ix (ev_var 2) (ev_var 5) (fun _ _ => rfl)) evG_nil)))) evA_nil))) (ev_slice (ev_var 2) (evP_some (ev_op2 op_addAll sn_add (ev_var 5) ev_int)) evP_none)))))))
def f__law_row : M Fl := (sSeq (sSet 5 (eOp hIx (eLc [8, 9] (iV (eV 0)) (tgTup 2 (tgCons (tgName 8) (tgCons (tgName 9) tgNil))) (eTs hEq (eV 9) (eC (.int 0))) (eV 8)) (eC (.int 0))))
    (sSeq (sSet 6 (eV 4))
    (sSeq (sFor (iR1 (aC (eV 3) aN)) (tgName 7) (sSet 6 (eOp hIx (eLst (aC (eTup (aC (eV 1) (aC (eV 6) aN))) (aC (eTup (aC (eV 1) (aC (eTup (aC (eV 5) aN)) (aC (eV 6) aN)))) aN))) (eOp (hI (fun _ _ => true) fun i j => i - j) (eV 2) (eC (.int 1))))))
    (sRet (eV 6)))))
def g__law_row : M O := defG 5 10 (f__law_row)
theorem ok__law_row {P : Program} {w : World} {K : PySem.W.Frag} {mg : Str → Option Value} {base : Heap} (Z : Zs mg) {f : Addr} {fd : FuncData} (d : Def K mg "_law_row" s__law_row ["signs", "sign", "arity", "many", "bottom"] f fd) : FnG P w K mg base (0 + 1) f fd ["signs", "sign", "arity", "many", "bottom"] (g__law_row) :=
    FnG.of (k := 0) (fB := f__law_row) d.fu sc__law_row fun cdv A outer s H E hgd hr =>
      (evB_cons
      (ev_set (i := 5) sc__law_row.nd rfl (by first | exact Or.inl rfl | exact Or.inr rfl) (ev_ix (ix_all (hu200 hr)) sn_ix (ev_lc (own := [("one", 8), ("own", 9)]) (by rfl) sc__law_row.nd (evI_val (ev_var 0)) (blkOk_by (N := ["signs", "sign", "arity", "many", "bottom", "constant", "tree", "k", "one", "own"]) (sc := defScope s__law_row) (own := [("one", 8), ("own", 9)]) (by decide +kernel)) (tg_tup (tg_cons tg_name (tg_cons tg_name tg_nil gName_mono) gName_mono)) (tw_tup (tw_cons (tw_name (by decide)) (tw_cons (tw_name (by decide)) tw_nil gName_mono) gName_mono)) (tm_tup (tm_cons gName_mono (tm_cons gName_mono tm_nil))) (fun _ _ _ _ _ => (pg_tup rfl (pgs_cons (pg_name (i := 8) sc__law_row.nd rfl (by first | exact Or.inl rfl | exact Or.inr rfl)) (pgs_cons (pg_name (i := 9) sc__law_row.nd rfl (by first | exact Or.inl rfl | exact Or.inr rfl)) pgs_nil)))) (fun _ _ _ _ _ => (evQ_one (ev_cmpT (op_eqP (hu200 hr)) sn_eq (ev_var 9) ev_int (by rfl)))) (fun _ _ _ _ _ => ev_frz (ev_var 8))) ev_int (fun _ _ => rfl)))
      (evB_cons
      (ev_set (i := 6) sc__law_row.nd rfl (by first | exact Or.inl rfl | exact Or.inr rfl) (ev_var 4))
      (evB_cons
      (ev_for cx_passes rfl (evI_rng1 (by rfl) Z.z_range (r_cons (ev_var 3) evA_nil)) (pg_name (i := 7) sc__law_row.nd rfl (by first | exact Or.inl rfl | exact Or.inr rfl)) tg_name (evB_one
      (ev_set (i := 6) sc__law_row.nd rfl (by first | exact Or.inl rfl | exact Or.inr rfl) (ev_ix (ix_all (hu200 hr)) sn_ix (ev_lst (r_cons (ev_tup (r_cons (ev_var 1) (r_cons (ev_var 6) evA_nil))) (r_cons (ev_tup (r_cons (ev_var 1) (r_cons (ev_tup (r_cons (ev_var 5) evA_nil)) (r_cons (ev_var 6) evA_nil)))) evA_nil))) (ev_op2 op_sub sn_sub (ev_var 2) ev_int) (fun _ _ => rfl)))))
      (evB_one
      (ev_ret (ev_var 6))))))
def f__law_word : M Fl := (sSeq (sSet 2 (eC (.str "")))
    (sSeq (sFor (iR1 (aC (eOp hIx (eLst (aC (eC (.int 1)) (aC (eC (.int 2)) (aC (eOp hAdd (eC (.int 1)) (eCall (g__law_next) 2 (gB 0 (gF (eC (.int 8)) gN)))) aN)))) (eCall (g__law_next) 2 (gB 0 (gF (eC (.int 3)) gN)))) aN)) (tgName 3) (sSet 2 (eOp hAdd (eV 2) (eOp hIx (eC (.str "abyz")) (eCall (g__law_next) 2 (gB 0 (gF (eC (.int 4)) gN)))))))
    (sSeq (sIf (eTs (hIn false) (eV 2) (eV 1)) (sRet (eOp hAdd (eC (.str "c")) (eOp hIx (eC (.str "abcdefghijklmnopqrstuvwxyz")) (eCN hLen (lC (eV 1) lN))))) sN)
    (sRet (eV 2)))))
def g__law_word : M O := defG 2 4 (f__law_word)
theorem ok__law_word {P : Program} {w : World} {K : PySem.W.Frag} {mg : Str → Option Value} {base : Heap} (Z : Zs mg) {f : Addr} {fd : FuncData} (d : Def K mg "_law_word" s__law_word ["state", "taken"] f fd) (c__law_next : Cal P w K mg base (0 + 1) "_law_next" 2 (g__law_next)) : FnG P w K mg base ((0 + 1) + 1) f fd ["state", "taken"] (g__law_word) :=
    FnG.of (k := (0 + 1)) (fB := f__law_word) d.fu sc__law_word fun cdv A outer s H E hgd hr =>
      (evB_cons
      (ev_set (i := 2) sc__law_word.nd rfl (by first | exact Or.inl rfl | exact Or.inr rfl) ev_str)
      (evB_cons
      (ev_for cx_passes rfl (evI_rng1 (by rfl) Z.z_range (r_cons (ev_ix (ix_all (hu200 hr)) sn_ix (ev_lst (r_cons ev_int (r_cons ev_int (r_cons (ev_op2 op_addAll sn_add ev_int (r_call c__law_next (Nat.le_refl _) hr hgd (by rfl) cx_takes (evG_br (pv 0) (evG_fz ev_int evG_nil)))) evA_nil)))) (r_call c__law_next (Nat.le_refl _) hr hgd (by rfl) cx_takes (evG_br (pv 0) (evG_fz ev_int evG_nil))) (fun _ _ => rfl)) evA_nil)) (pg_name (i := 3) sc__law_word.nd rfl (by first | exact Or.inl rfl | exact Or.inr rfl)) tg_name (evB_one
      (ev_set (i := 2) sc__law_word.nd rfl (by first | exact Or.inl rfl | exact Or.inr rfl) (ev_op2 op_addAll sn_add (ev_var 2) (ev_ix (ix_all (hu200 hr)) sn_ix ev_str (r_call c__law_next (Nat.le_refl _) hr hgd (by rfl) cx_takes (evG_br (pv 0) (evG_fz ev_int evG_nil))) (fun _ _ => rfl))))))
      (evB_cons
      (ev_if (ev_cmpT (op_inP (hu200 hr)) sn_in (ev_var 2) (ev_var 1) (by rfl)) (evB_one
      (ev_ret (ev_op2 op_addAll sn_add ev_str (ev_ix (ix_all (hu200 hr)) sn_ix ev_str (ev_callB call_lenA sn_len (by rfl) Z.z_len bt_len (evL_cons (ev_var 1) evL_nil)) (fun _ _ => rfl))))) evB_nil)
      (evB_one
      (ev_ret (ev_var 2))))))
def f__law_signs : M Fl := (sSeq (sSet 2 (eLst aN))
    (sSeq (sFor (iR1 (aC (eV 1) aN)) (tgName 3) (sSeq (sSet 4 (eCall (g__law_word) 2 (gB 0 (gF (eLcL 2 [6, 7] (tgTup 2 (tgCons (tgName 6) (tgCons (tgName 7) tgNil))) iT (eV 6)) gN))))
    (sApp 2 (eTup (aC (eV 4) (aC (eOp hIx (eLst (aC (eC (.int 0)) (aC (eCall (g__law_next) 2 (gB 0 (gF (eC (.int 3)) gN))) aN))) (eCN hInt (lC (eOp hGt (eV 3) (eC (.int 0))) lN))) aN))))))
    (sSeq (sSet 5 (eCall (g__law_next) 2 (gB 0 (gF (eV 1) gN))))
    (sRet (eCN hTuple (lC (eOp hAdd (eSl (eV 2) (pI (eV 5)) pN) (eSl (eV 2) pN (pI (eV 5)))) lN))))))
def g__law_signs : M O := defG 2 8 (f__law_signs)
theorem ok__law_signs {P : Program} {w : World} {K : PySem.W.Frag} {mg : Str → Option Value} {base : Heap} (Z : Zs mg) {f : Addr} {fd : FuncData} (d : Def K mg "_law_signs" s__law_signs ["state", "many"] f fd) (c__law_next : Cal P w K mg base (0 + 1) "_law_next" 2 (g__law_next)) (c__law_word : Cal P w K mg base ((0 + 1) + 1) "_law_word" 2 (g__law_word)) : FnG P w K mg base ((max (0 + 1) ((0 + 1) + 1)) + 1) f fd ["state", "many"] (g__law_signs) :=
    FnG.of (k := (max (0 + 1) ((0 + 1) + 1))) (fB := f__law_signs) d.fu sc__law_signs fun cdv A outer s H E hgd hr =>
      (evB_cons
      (ev_set (i := 2) sc__law_signs.nd rfl (by first | exact Or.inl rfl | exact Or.inr rfl) (ev_lst evA_nil))
      (evB_cons
      (ev_for cx_passes rfl (evI_rng1 (by rfl) Z.z_range (r_cons (ev_var 1) evA_nil)) (pg_name (i := 3) sc__law_signs.nd rfl (by first | exact Or.inl rfl | exact Or.inr rfl)) tg_name (evB_cons
      (ev_set (i := 4) sc__law_signs.nd rfl (by first | exact Or.inl rfl | exact Or.inr rfl) (r_call c__law_word (Nat.le_max_right _ _) hr hgd (by rfl) cx_takes (evG_br (pv 0) (evG_fz (ev_lcL (own := [("sign", 6), ("arity", 7)]) (by rfl) sc__law_signs.nd (pv 2) (ev_var 2) (blkOk_by (N := ["state", "many", "found", "k", "word", "at", "sign", "arity"]) (sc := defScope s__law_signs) (own := [("sign", 6), ("arity", 7)]) (by decide +kernel)) (tg_tup (tg_cons tg_name (tg_cons tg_name tg_nil gName_mono) gName_mono)) (tw_tup (tw_cons (tw_name (by decide)) (tw_cons (tw_name (by decide)) tw_nil gName_mono) gName_mono)) (tm_tup (tm_cons gName_mono (tm_cons gName_mono tm_nil))) (fun _ _ _ _ _ => (pg_tup rfl (pgs_cons (pg_name (i := 6) sc__law_signs.nd rfl (by first | exact Or.inl rfl | exact Or.inr rfl)) (pgs_cons (pg_name (i := 7) sc__law_signs.nd rfl (by first | exact Or.inl rfl | exact Or.inr rfl)) pgs_nil)))) (fun _ _ _ _ _ => evQ_nil) (fun _ _ _ _ _ => ev_frz (ev_var 6))) evG_nil))))
      (evB_one
      (ev_append (pv 2) (ev_tup (r_cons (ev_var 4) (r_cons (ev_ix (ix_all (hu200 hr)) sn_ix (ev_lst (r_cons ev_int (r_cons (r_call c__law_next (Nat.le_trans (Nat.le_refl _) (Nat.le_max_left _ _)) hr hgd (by rfl) cx_takes (evG_br (pv 0) (evG_fz ev_int evG_nil))) evA_nil))) (ev_callTy call_intA sn_int (by rfl) Z.z_int bt_int (evL_cons (ev_cmp2 op_gtA sn_cmp (ev_var 3) ev_int (by rfl)) evL_nil)) (fun _ _ => rfl)) evA_nil)))))))
      (evB_cons
      (ev_set (i := 5) sc__law_signs.nd rfl (by first | exact Or.inl rfl | exact Or.inr rfl) (r_call c__law_next (Nat.le_trans (Nat.le_refl _) (Nat.le_max_left _ _)) hr hgd (by rfl) cx_takes (evG_br (pv 0) (evG_fz (ev_var 1) evG_nil))))
      (evB_one
      (ev_ret (ev_callTy call_tuple_of sn_tuple (by rfl) Z.z_tuple bt_tuple (evL_cons (ev_op2 op_addAll sn_add (ev_slice (ev_var 2) (evP_some (ev_var 5)) evP_none) (ev_slice (ev_var 2) evP_none (evP_some (ev_var 5)))) evL_nil)))))))
def f__law_stream : M Fl := (sSeq (sSet 1 (eLst aN))
    (sSeq (sFor (iV (eSl (eV 0) pN (pI (eC (.int 63))))) (tgName 2) (sSeq (sSet 3 (eCN hAbs (lC (eCN hInt (lC (eV 2) lN)) lN)))
    (sIf (eTs hGe (eV 3) (eOp (hI cPow fun i j => i ^ j.toNat) (eC (.int 10)) (eC (.int 18)))) (sFor (iR1 (aC (eC (.int 60)) aN)) (tgName 4) (sSeq (sApp 1 (eOp (hI cMod fun i j => i % j) (eCN hInt (lC (eV 3) lN)) (eC (.int 1009))))
    (sSeq (sSet 3 (eOp (hI cDiv fun i j => i / j) (eV 3) (eC (.int 1009))))
    (sIf (eTs hEq (eV 3) (eC (.int 0))) sBk sN)))) (sSeq (sSet 5 (eOp (hI cMod fun i j => i % j) (eCN hInt (lC (eV 3) lN)) (eC (.int 2147483647))))
    (sFor (iR1 (aC (eC (.int 10)) aN)) (tgName 4) (sSeq (sSet 5 (eOp (hI cMod fun i j => i % j) (eCN hInt (lC (eOp hAdd (eOp hAdd (eOp (hI cMul fun i j => i * j) (eV 5) (eC (.int 48271))) (eOp (hI cMul fun i j => i * j) (eC (.int 7)) (eV 4))) (eC (.int 11))) lN)) (eC (.int 2147483647))))
    (sApp 1 (eOp (hI cMod fun i j => i % j) (eOp (hI cMod fun i j => i % j) (eCN hInt (lC (eOp hAdd (eOp (hI cMul fun i j => i * j) (eV 5) (eC (.int 69621))) (eV 4)) lN)) (eC (.int 2147483629))) (eC (.int 1009))))))))))
    (sSeq (sIf (eTs hEq (eCN hLen (lC (eV 1) lN)) (eC (.int 0))) (sApp 1 (eC (.int 0))) sN)
    (sRet (eV 1)))))
def g__law_stream : M O := defG 1 6 (f__law_stream)
theorem ok__law_stream {P : Program} {w : World} {K : PySem.W.Frag} {mg : Str → Option Value} {base : Heap} (Z : Zs mg) {f : Addr} {fd : FuncData} (d : Def K mg "_law_stream" s__law_stream ["script"] f fd) : FnG P w K mg base (0 + 1) f fd ["script"] (g__law_stream) :=
    FnG.of (k := 0) (fB := f__law_stream) d.fu sc__law_stream fun cdv A outer s H E hgd hr =>
      (evB_cons
      (ev_set (i := 1) sc__law_stream.nd rfl (by first | exact Or.inl rfl | exact Or.inr rfl) (ev_lst evA_nil))
      (evB_cons
      (ev_for cx_passes rfl (evI_val (ev_slice (ev_var 0) evP_none (evP_some ev_int))) (pg_name (i := 2) sc__law_stream.nd rfl (by first | exact Or.inl rfl | exact Or.inr rfl)) tg_name (evB_cons
      (ev_set (i := 3) sc__law_stream.nd rfl (by first | exact Or.inl rfl | exact Or.inr rfl) (ev_callB call_abs sn_abs (by rfl) Z.z_abs bt_abs (evL_cons (ev_callTy call_intA sn_int (by rfl) Z.z_int bt_int (evL_cons (ev_var 2) evL_nil)) evL_nil)))
      (evB_one
      (ev_if (ev_cmpT op_geA sn_cmp (ev_var 3) (ev_op2 op_pow sn_pow ev_int ev_int) (by rfl)) (evB_one
      (ev_for cx_passes rfl (evI_rng1 (by rfl) Z.z_range (r_cons ev_int evA_nil)) (pg_name (i := 4) sc__law_stream.nd rfl (by first | exact Or.inl rfl | exact Or.inr rfl)) tg_name (evB_cons
      (ev_append (pv 1) (ev_op2 op_mod sn_mod (ev_callTy call_intA sn_int (by rfl) Z.z_int bt_int (evL_cons (ev_var 3) evL_nil)) ev_int))
      (evB_cons
      (ev_set (i := 3) sc__law_stream.nd rfl (by first | exact Or.inl rfl | exact Or.inr rfl) (ev_op2 op_fdiv sn_fdiv (ev_var 3) ev_int))
      (evB_one
      (ev_if (ev_cmpT (op_eqP (hu200 hr)) sn_eq (ev_var 3) ev_int (by rfl)) (evB_one
      ev_break) evB_nil)))))) (evB_cons
      (ev_set (i := 5) sc__law_stream.nd rfl (by first | exact Or.inl rfl | exact Or.inr rfl) (ev_op2 op_mod sn_mod (ev_callTy call_intA sn_int (by rfl) Z.z_int bt_int (evL_cons (ev_var 3) evL_nil)) ev_int))
      (evB_one
      (ev_for cx_passes rfl (evI_rng1 (by rfl) Z.z_range (r_cons ev_int evA_nil)) (pg_name (i := 4) sc__law_stream.nd rfl (by first | exact Or.inl rfl | exact Or.inr rfl)) tg_name (evB_cons
      (ev_set (i := 5) sc__law_stream.nd rfl (by first | exact Or.inl rfl | exact Or.inr rfl) (ev_op2 op_mod sn_mod (ev_callTy call_intA sn_int (by rfl) Z.z_int bt_int (evL_cons (ev_op2 op_addAll sn_add (ev_op2 op_addAll sn_add (ev_op2 op_mulW sn_mulI (ev_var 5) ev_int) (ev_op2 op_mulW sn_mulI ev_int (ev_var 4))) ev_int) evL_nil)) ev_int))
      (evB_one
      (ev_append (pv 1) (ev_op2 op_mod sn_mod (ev_op2 op_mod sn_mod (ev_callTy call_intA sn_int (by rfl) Z.z_int bt_int (evL_cons (ev_op2 op_addAll sn_add (ev_op2 op_mulW sn_mulI (ev_var 5) ev_int) (ev_var 4)) evL_nil)) ev_int) ev_int)))))))))))
      (evB_cons
      (ev_if (ev_cmpT (op_eqP (hu200 hr)) sn_eq (ev_callB call_lenA sn_len (by rfl) Z.z_len bt_len (evL_cons (ev_var 1) evL_nil)) ev_int (by rfl)) (evB_one
      (ev_append (pv 1) ev_int)) evB_nil)
      (evB_one
      (ev_ret (ev_var 1))))))
def f_law (n__law_changed : Nat) (n__law_copy : Nat) (n__law_key : Nat) (n__law_size : Nat) (n__law_term : Nat) (n_compare_trees : Nat) : M Fl := (sSeq (sSet 1 (eLst (aC (eCall (g__law_stream) 1 (gF (eV 0) gN)) (aC (eC (.int 0)) aN))))
    (sSeq (sSet 2 (eCall (g__law_signs) 2 (gB 1 (gF (eOp hAdd (eC (.int 1)) (eCall (g__law_next) 2 (gB 1 (gF (eC (.int 4)) gN)))) gN))))
    (sSeq (sSet 3 (eCall (g__law_term n__law_term) 4 (gB 1 (gF (eV 2) (gF (eLst aN) (gF (eOp hAdd (eC (.int 1)) (eCall (g__law_next) 2 (gB 1 (gF (eC (.int 60)) gN)))) gN))))))
    (sSeq (sSet 4 (eCall (g__law_changed n__law_term n__law_changed) 3 (gB 1 (gF (eV 2) (gF (eV 3) gN)))))
    (sSeq (sSet 5 (eCall (g__law_term n__law_term) 4 (gB 1 (gF (eV 2) (gF (eLst aN) (gF (eOp hAdd (eC (.int 1)) (eCall (g__law_next) 2 (gB 1 (gF (eC (.int 12)) gN)))) gN))))))
    (sSeq (sIf (tO (tNt (tTr (eCall (g__law_agrees n__law_copy n__law_key n_compare_trees) 3 (gF (eV 2) (gF (eV 3) (gF (eV 4) gN)))))) (tNt (tTr (eCall (g__law_agrees n__law_copy n__law_key n_compare_trees) 3 (gF (eV 2) (gF (eV 5) (gF (eV 4) gN))))))) (sRet (eC (.bool false))) sN)
    (sSeq (sFor (iV (eV 2)) (tgTup 2 (tgCons (tgName 6) (tgCons (tgName 7) tgNil))) (sIf (eTs hGt (eV 7) (eC (.int 0))) (sSeq (sSet 8 (eOp hIx (eLst (aC (eCall (g__law_next) 2 (gB 1 (gF (eC (.int 9)) gN))) (aC (eOp hAdd (eC (.int 60)) (eCall (g__law_next) 2 (gB 1 (gF (eC (.int 36)) gN)))) aN))) (eCall (g__law_next) 2 (gB 1 (gF (eC (.int 2)) gN)))))
    (sSeq (sSet 9 (eCall (g__law_row) 5 (gF (eV 2) (gF (eV 6) (gF (eV 7) (gF (eV 8) (gF (eOp hAdd (eSl (eV 5) pN (pI (eC (.int 1)))) (eSl (eV 5) (pI (eC (.int 1))) pN)) gN)))))))
    (sSeq (sSet 10 (eCall (g__law_row) 5 (gF (eV 2) (gF (eV 6) (gF (eV 7) (gF (eV 8) (gF (eCall (g__law_changed n__law_term n__law_changed) 3 (gB 1 (gF (eV 2) (gF (eV 5) gN)))) gN)))))))
    (sIf (tAn (eTs hLt (eOp hAdd (eV 8) (eCall (g__law_size n__law_size) 1 (gF (eV 5) gN))) (eC (.int 95))) (tNt (tTr (eCall (g__law_agrees n__law_copy n__law_key n_compare_trees) 3 (gF (eV 2) (gF (eV 9) (gF (eV 10) gN))))))) (sRet (eC (.bool false))) sN)))) sN))
    (sRet (eC (.bool true))))))))))
def g_law (n__law_changed : Nat) (n__law_copy : Nat) (n__law_key : Nat) (n__law_size : Nat) (n__law_term : Nat) (n_compare_trees : Nat) : M O := defG 1 11 (f_law n__law_changed n__law_copy n__law_key n__law_size n__law_term n_compare_trees)
theorem ok_law {P : Program} {w : World} {K : PySem.W.Frag} {mg : Str → Option Value} {base : Heap} (Z : Zs mg) {f : Addr} {fd : FuncData} (n__law_changed : Nat) (n__law_copy : Nat) (n__law_key : Nat) (n__law_size : Nat) (n__law_term : Nat) (n_compare_trees : Nat) (d : Def K mg "law" s_law ["script"] f fd) (c__law_agrees : Cal P w K mg base ((max (max (max (0 + n__law_copy) (0 + n__law_key)) (0 + 1)) ((0 + 1) + n_compare_trees)) + 1) "_law_agrees" 3 (g__law_agrees n__law_copy n__law_key n_compare_trees)) (c__law_changed : ∀ n__law_changed : Nat, Cal P w K mg base ((max (0 + 1) ((0 + 1) + n__law_term)) + n__law_changed) "_law_changed" 3 (g__law_changed n__law_term n__law_changed)) (c__law_next : Cal P w K mg base (0 + 1) "_law_next" 2 (g__law_next)) (c__law_row : Cal P w K mg base (0 + 1) "_law_row" 5 (g__law_row)) (c__law_signs : Cal P w K mg base ((max (0 + 1) ((0 + 1) + 1)) + 1) "_law_signs" 2 (g__law_signs)) (c__law_size : ∀ n__law_size : Nat, Cal P w K mg base (0 + n__law_size) "_law_size" 1 (g__law_size n__law_size)) (c__law_stream : Cal P w K mg base (0 + 1) "_law_stream" 1 (g__law_stream)) (c__law_term : ∀ n__law_term : Nat, Cal P w K mg base ((0 + 1) + n__law_term) "_law_term" 4 (g__law_term n__law_term)) : FnG P w K mg base ((max (max (max (max (max (max (max ((max (max (max (0 + n__law_copy) (0 + n__law_key)) (0 + 1)) ((0 + 1) + n_compare_trees)) + 1) ((max (0 + 1) ((0 + 1) + n__law_term)) + n__law_changed)) (0 + 1)) (0 + 1)) ((max (0 + 1) ((0 + 1) + 1)) + 1)) (0 + n__law_size)) (0 + 1)) ((0 + 1) + n__law_term)) + 1) f fd ["script"] (g_law n__law_changed n__law_copy n__law_key n__law_size n__law_term n_compare_trees) :=
    FnG.of (k := (max (max (max (max (max (max (max ((max (max (max (0 + n__law_copy) (0 + n__law_key)) (0 + 1)) ((0 + 1) + n_compare_trees)) + 1) ((max (0 + 1) ((0 + 1) + n__law_term)) + n__law_changed)) (0 + 1)) (0 + 1)) ((max (0 + 1) ((0 + 1) + 1)) + 1)) (0 + n__law_size)) (0 + 1)) ((0 + 1) + n__law_term))) (fB := f_law n__law_changed n__law_copy n__law_key n__law_size n__law_term n_compare_trees) d.fu sc_law fun cdv A outer s H E hgd hr =>
      (evB_cons
      (ev_set (i := 1) sc_law.nd rfl (by first | exact Or.inl rfl | exact Or.inr rfl) (ev_lst (r_cons (r_call c__law_stream (Nat.le_trans (Nat.le_max_right _ _) (Nat.le_max_left _ _)) hr hgd (by rfl) cx_takes (evG_fz (ev_var 0) evG_nil)) (r_cons ev_int evA_nil))))
      (evB_cons
      (ev_set (i := 2) sc_law.nd rfl (by first | exact Or.inl rfl | exact Or.inr rfl) (r_call c__law_signs (Nat.le_trans (Nat.le_trans (Nat.le_trans (Nat.le_max_right _ _) (Nat.le_max_left _ _)) (Nat.le_max_left _ _)) (Nat.le_max_left _ _)) hr hgd (by rfl) cx_takes (evG_br (pv 1) (evG_fz (ev_op2 op_addAll sn_add ev_int (r_call c__law_next (Nat.le_trans (Nat.le_trans (Nat.le_trans (Nat.le_trans (Nat.le_trans (Nat.le_max_right _ _) (Nat.le_max_left _ _)) (Nat.le_max_left _ _)) (Nat.le_max_left _ _)) (Nat.le_max_left _ _)) (Nat.le_max_left _ _)) hr hgd (by rfl) cx_takes (evG_br (pv 1) (evG_fz ev_int evG_nil)))) evG_nil))))
      (evB_cons
      (ev_set (i := 3) sc_law.nd rfl (by first | exact Or.inl rfl | exact Or.inr rfl) (r_call (c__law_term n__law_term) (Nat.le_max_right _ _) hr hgd (by rfl) cx_takes (evG_br (pv 1) (evG_fz (ev_var 2) (evG_fz (ev_lst evA_nil) (evG_fz (ev_op2 op_addAll sn_add ev_int (r_call c__law_next (Nat.le_trans (Nat.le_trans (Nat.le_trans (Nat.le_trans (Nat.le_trans (Nat.le_max_right _ _) (Nat.le_max_left _ _)) (Nat.le_max_left _ _)) (Nat.le_max_left _ _)) (Nat.le_max_left _ _)) (Nat.le_max_left _ _)) hr hgd (by rfl) cx_takes (evG_br (pv 1) (evG_fz ev_int evG_nil)))) evG_nil))))))
      (evB_cons
      (ev_set (i := 4) sc_law.nd rfl (by first | exact Or.inl rfl | exact Or.inr rfl) (r_call (c__law_changed n__law_changed) (Nat.le_trans (Nat.le_trans (Nat.le_trans (Nat.le_trans (Nat.le_trans (Nat.le_trans (Nat.le_max_right _ _) (Nat.le_max_left _ _)) (Nat.le_max_left _ _)) (Nat.le_max_left _ _)) (Nat.le_max_left _ _)) (Nat.le_max_left _ _)) (Nat.le_max_left _ _)) hr hgd (by rfl) cx_takes (evG_br (pv 1) (evG_fz (ev_var 2) (evG_fz (ev_var 3) evG_nil)))))
      (evB_cons
      (ev_set (i := 5) sc_law.nd rfl (by first | exact Or.inl rfl | exact Or.inr rfl) (r_call (c__law_term n__law_term) (Nat.le_max_right _ _) hr hgd (by rfl) cx_takes (evG_br (pv 1) (evG_fz (ev_var 2) (evG_fz (ev_lst evA_nil) (evG_fz (ev_op2 op_addAll sn_add ev_int (r_call c__law_next (Nat.le_trans (Nat.le_trans (Nat.le_trans (Nat.le_trans (Nat.le_trans (Nat.le_max_right _ _) (Nat.le_max_left _ _)) (Nat.le_max_left _ _)) (Nat.le_max_left _ _)) (Nat.le_max_left _ _)) (Nat.le_max_left _ _)) hr hgd (by rfl) cx_takes (evG_br (pv 1) (evG_fz ev_int evG_nil)))) evG_nil))))))
      (evB_cons
      (ev_if (evT_w (evW_or (evT_not (evT_tru (r_call c__law_agrees (Nat.le_trans (Nat.le_trans (Nat.le_trans (Nat.le_trans (Nat.le_trans (Nat.le_trans (Nat.le_trans (Nat.le_refl _) (Nat.le_max_left _ _)) (Nat.le_max_left _ _)) (Nat.le_max_left _ _)) (Nat.le_max_left _ _)) (Nat.le_max_left _ _)) (Nat.le_max_left _ _)) (Nat.le_max_left _ _)) hr hgd (by rfl) cx_takes (evG_fz (ev_var 2) (evG_fz (ev_var 3) (evG_fz (ev_var 4) evG_nil)))))) (evW_or1 (evT_not (evT_tru (r_call c__law_agrees (Nat.le_trans (Nat.le_trans (Nat.le_trans (Nat.le_trans (Nat.le_trans (Nat.le_trans (Nat.le_trans (Nat.le_refl _) (Nat.le_max_left _ _)) (Nat.le_max_left _ _)) (Nat.le_max_left _ _)) (Nat.le_max_left _ _)) (Nat.le_max_left _ _)) (Nat.le_max_left _ _)) (Nat.le_max_left _ _)) hr hgd (by rfl) cx_takes (evG_fz (ev_var 2) (evG_fz (ev_var 5) (evG_fz (ev_var 4) evG_nil))))))))) (evB_one
      (ev_ret ev_bl)) evB_nil)
      (evB_cons
      (ev_for cx_passes rfl (evI_val (ev_var 2)) (pg_tup rfl (pgs_cons (pg_name (i := 6) sc_law.nd rfl (by first | exact Or.inl rfl | exact Or.inr rfl)) (pgs_cons (pg_name (i := 7) sc_law.nd rfl (by first | exact Or.inl rfl | exact Or.inr rfl)) pgs_nil))) (tg_tup (tg_cons tg_name (tg_cons tg_name tg_nil gName_mono) gName_mono)) (evB_one
      (ev_if (ev_cmpT op_gtA sn_cmp (ev_var 7) ev_int (by rfl)) (evB_cons
      (ev_set (i := 8) sc_law.nd rfl (by first | exact Or.inl rfl | exact Or.inr rfl) (ev_ix (ix_all (hu200 hr)) sn_ix (ev_lst (r_cons (r_call c__law_next (Nat.le_trans (Nat.le_trans (Nat.le_trans (Nat.le_trans (Nat.le_trans (Nat.le_max_right _ _) (Nat.le_max_left _ _)) (Nat.le_max_left _ _)) (Nat.le_max_left _ _)) (Nat.le_max_left _ _)) (Nat.le_max_left _ _)) hr hgd (by rfl) cx_takes (evG_br (pv 1) (evG_fz ev_int evG_nil))) (r_cons (ev_op2 op_addAll sn_add ev_int (r_call c__law_next (Nat.le_trans (Nat.le_trans (Nat.le_trans (Nat.le_trans (Nat.le_trans (Nat.le_max_right _ _) (Nat.le_max_left _ _)) (Nat.le_max_left _ _)) (Nat.le_max_left _ _)) (Nat.le_max_left _ _)) (Nat.le_max_left _ _)) hr hgd (by rfl) cx_takes (evG_br (pv 1) (evG_fz ev_int evG_nil)))) evA_nil))) (r_call c__law_next (Nat.le_trans (Nat.le_trans (Nat.le_trans (Nat.le_trans (Nat.le_trans (Nat.le_max_right _ _) (Nat.le_max_left _ _)) (Nat.le_max_left _ _)) (Nat.le_max_left _ _)) (Nat.le_max_left _ _)) (Nat.le_max_left _ _)) hr hgd (by rfl) cx_takes (evG_br (pv 1) (evG_fz ev_int evG_nil))) (fun _ _ => rfl)))
      (evB_cons
      (ev_set (i := 9) sc_law.nd rfl (by first | exact Or.inl rfl | exact Or.inr rfl) (r_call c__law_row (Nat.le_trans (Nat.le_trans (Nat.le_trans (Nat.le_trans (Nat.le_max_right _ _) (Nat.le_max_left _ _)) (Nat.le_max_left _ _)) (Nat.le_max_left _ _)) (Nat.le_max_left _ _)) hr hgd (by rfl) cx_takes (evG_fz (ev_var 2) (evG_fz (ev_var 6) (evG_fz (ev_var 7) (evG_fz (ev_var 8) (evG_fz (ev_op2 op_addAll sn_add (ev_slice (ev_var 5) evP_none (evP_some ev_int)) (ev_slice (ev_var 5) (evP_some ev_int) evP_none)) evG_nil)))))))
      (evB_cons
      (ev_set (i := 10) sc_law.nd rfl (by first | exact Or.inl rfl | exact Or.inr rfl) (r_call c__law_row (Nat.le_trans (Nat.le_trans (Nat.le_trans (Nat.le_trans (Nat.le_max_right _ _) (Nat.le_max_left _ _)) (Nat.le_max_left _ _)) (Nat.le_max_left _ _)) (Nat.le_max_left _ _)) hr hgd (by rfl) cx_takes (evG_fz (ev_var 2) (evG_fz (ev_var 6) (evG_fz (ev_var 7) (evG_fz (ev_var 8) (evG_fz (r_call (c__law_changed n__law_changed) (Nat.le_trans (Nat.le_trans (Nat.le_trans (Nat.le_trans (Nat.le_trans (Nat.le_trans (Nat.le_max_right _ _) (Nat.le_max_left _ _)) (Nat.le_max_left _ _)) (Nat.le_max_left _ _)) (Nat.le_max_left _ _)) (Nat.le_max_left _ _)) (Nat.le_max_left _ _)) hr hgd (by rfl) cx_takes (evG_br (pv 1) (evG_fz (ev_var 2) (evG_fz (ev_var 5) evG_nil)))) evG_nil)))))))
      (evB_one
      (ev_if (evT_w (evW_and (ev_cmpT op_ltA sn_cmp (ev_op2 op_addAll sn_add (ev_var 8) (r_call (c__law_size n__law_size) (Nat.le_trans (Nat.le_trans (Nat.le_max_right _ _) (Nat.le_max_left _ _)) (Nat.le_max_left _ _)) hr hgd (by rfl) cx_takes (evG_fz (ev_var 5) evG_nil))) ev_int (by rfl)) (evW_and1 (evT_not (evT_tru (r_call c__law_agrees (Nat.le_trans (Nat.le_trans (Nat.le_trans (Nat.le_trans (Nat.le_trans (Nat.le_trans (Nat.le_trans (Nat.le_refl _) (Nat.le_max_left _ _)) (Nat.le_max_left _ _)) (Nat.le_max_left _ _)) (Nat.le_max_left _ _)) (Nat.le_max_left _ _)) (Nat.le_max_left _ _)) (Nat.le_max_left _ _)) hr hgd (by rfl) cx_takes (evG_fz (ev_var 2) (evG_fz (ev_var 9) (evG_fz (ev_var 10) evG_nil))))))))) (evB_one
      (ev_ret ev_bl)) evB_nil))))) evB_nil)))
      (evB_one
      (ev_ret ev_bl)))))))))
end VsG

namespace VsG
open PySem PySem.Spec L2 Vs
/-- the state of the draws -/
abbrev stD (ns : List Int) (c : Int) : Mu := .lst [.list (ns.map .int), .int c]
structure Good (ns : List Int) : Prop where
  ne : ns ≠ []
  at_ : ∀ n ∈ ns, 0 ≤ n ∧ n < 1009
  len : ns.length ≤ 100000
theorem next_ok {ns : List Int} {c m : Int} (G : Good ns) (h0 : 0 ≤ c) (h1 : c + 1 < 2 ^ 200) (hm : 0 < m) :
    ∃ r, 0 ≤ r ∧ r < m ∧ g__law_next [some (.mu true (stD ns c)), some (.fz (.int m))] = some (.ok (.fz (.int r)) [some (.mu true (stD ns (c + 1))), some (.fz (.int m))]) := by
  have hl : 0 < ns.length := List.length_pos_iff.mpr G.ne
  obtain ⟨d, e1, hd⟩ := atI_lt (xs := ns.map PyData.int) (i := (c + 1) % (ns.length : Int)) (Int.emod_nonneg _ (by omega)) (by rw [List.length_map]; exact Int.emod_lt_of_pos _ (by omega))
  obtain ⟨n, hn, rfl⟩ := List.mem_map.mp hd
  have ht : 0 ≤ (c + 1) / (ns.length : Int) ∧ (c + 1) / (ns.length : Int) ≤ c + 1 := ⟨Int.ediv_nonneg (by omega) (by omega), Int.ediv_le_self _ (by omega)⟩
  have b1 : ((c + 1) / (ns.length : Int)).natAbs < 2 ^ 200 := by omega
  have b2 : (c + 1).natAbs < 2 ^ 200 := by omega
  have k1 : cMul ((c + 1) / (ns.length : Int)) 389 = true := cMul_of b1 (b := 10) (by decide) (by decide) (by decide) (by decide)
  have k2 : cMul (c + 1) ((c + 1) / (ns.length : Int)) = true := cMul_of b2 b1 (by decide) (by decide) (by decide)
  have k3 : cMul ((c + 1) * ((c + 1) / (ns.length : Int))) 17 = true := cMul_of (a := 400) (b := 10) (by
    rw [Int.natAbs_mul, show (400 : Nat) = 200 + 200 from rfl, Nat.pow_add]
    exact Nat.mul_lt_mul'' b2 b1) (by decide) (by decide) (by decide) (by decide)
  have k4 : cDiv (c + 1) (ns.length : Int) = true := by unfold cDiv; have := G.len; exact decide_eq_true (by omega)
  have k5 : cMod (c + 1) (ns.length : Int) = true := by unfold cMod; exact decide_eq_true (by omega)
  have k6 : ∀ x, cMod x m = true := fun x => by unfold cMod; exact decide_eq_true hm
  refine ⟨(n + (c + 1) / (ns.length : Int) * 389 + (c + 1) * ((c + 1) / (ns.length : Int)) * 17) % m, Int.emod_nonneg _ (by omega), Int.emod_lt_of_pos _ hm, ?_⟩
  simp [g__law_next, f__law_next, eV_ap, eC_ap, dr2O_ap, dr2_ap, dr2P_ap, eOp_ap, eOpK_ap, dr2B_ap, dr2BP_ap, dr2BO_ap, eTs_ap, eTsK_ap, dr1_ap, dr1P_ap, eUn_ap, drN_ap, drNP_ap, eCN_ap, lN_ap, lC_ap, lCK_ap, consR_ap, aN_ap, aC_ap, aCK_ap, consD_ap, frz_o, frz_m, frz_sf, frz_sm, gN_ap, gF_ap, gFK_ap, consG_ap, gB_ap, eCall_ap, callN_ap, callA_ap, callOut_ap, argE_bt, argE_bf, argE_fz, argE_nil, eTup_ap, eLst_ap, tupK_ap, lstK_ap, eDct_ap, eSl_ap, slK_ap, slK1_ap, slK2_ap, pN_ap, pI_ap, tTr_ap, tAn_ap, tO_ap, andK_t, andK_f, orK_t, orK_f, iT_ap, iV_ap, iterD_l, iterD_t, iR1_ap, sRet_ap, rtK_ap, sN_ap, sBk_ap, sIf_ap, ifK_t, ifK_f, sSet_ap, setK_o, stM_n, stM_f, stM_m, stM_o, sAsg_ap, sApp_apt, sApp_apf, appK_apt, appK_apf, sSt_ap, stK_ap, stKK_apt, stKK_apf, sFor_ap, eLc_ap, eMt_ap, mtK_ap, mtK1_ap, tgName_ap, tgTup_ap, tgCons_ap, tgThen_ap, tgNil_ap, seq_eq, bind_eq, thenO_ok, ret_eq, seqO_nx, seqO_rt, seqO_bk, rdL, rdO_o, rdO_s, O.view, Mu.view, muSet, muApp, hIx, ixD, hAdd, hLen, hI, hInt, hAbs, hCmp, hMax2, hTuple, hSl, hEq, hNe, flatD, PyData.eqv, tru_b, asInt_o, asInt_s, cutL_1, atI_0, atI_1, atI_2, defG_ap, okArg, defOut, resO, keepB, keepF, List.mapIdx, List.mapIdx.go, ixN, k1, k2, k3, k4, k5, k6, e1]
end VsG

namespace VsG
open PySem PySem.Spec L2 Vs
abbrev sgD (ss : List (Str × Int)) : List PyData := ss.map fun p => .tuple [.str p.1, .int p.2]
inductive Tm (ss : List (Str × Int)) (nm : List Str) : Nat → PyData → Prop
  | name {x : Str} {n : Nat} : x ∈ nm → Tm ss nm n (.str x)
  | node {w : Str} {a : Int} {ds : List PyData} {n : Nat} : (w, a) ∈ ss → (ds.length : Int) = a → (∀ d ∈ ds, Tm ss nm n d) → Tm ss nm (n + 1) (.tuple (.str w :: ds))
theorem Tm.mono {ss : List (Str × Int)} {nm : List Str} : ∀ {n m : Nat} {d : PyData}, Tm ss nm n d → n ≤ m → Tm ss nm m d
  | _, _, _, .name h, _ => .name h
  | n + 1, m, _, .node h1 h2 h3, hm => by
    obtain ⟨k, rfl⟩ : ∃ k, m = k + 1 := ⟨m - 1, by omega⟩
    exact .node h1 h2 fun d hd => (h3 d hd).mono (by omega)
/-- the place of a sign -/
theorem idx_ok {w : Str} {a : Int} : ∀ {ss : List (Str × Int)}, (w, a) ∈ ss → (ss.map (·.1)).Nodup → ∃ i, idxD (.str w) (ss.map fun p => PyData.str p.1) = some i ∧ ss[i]? = some (w, a)
  | (v, b) :: ss, h, nd => by
    have nd' := List.nodup_cons.mp nd
    by_cases e : v = w
    · subst e
      rcases List.mem_cons.mp h with h | h
      · cases h
        exact ⟨0, by simp [idxD, PyData.eqv], rfl⟩
      · exact absurd (List.mem_map.mpr ⟨_, h, rfl⟩) nd'.1
    · rcases List.mem_cons.mp h with h | h
      · cases h; exact absurd rfl e
      · obtain ⟨i, e1, e2⟩ := idx_ok h nd'.2
        exact ⟨i + 1, by simp [idxD, PyData.eqv, e, e1], e2⟩
theorem rangeD_len {lo : Int} {n : Nat} : (rangeD lo n).length = n := by simp [rangeD]
theorem rangeD_mem {lo : Int} {n : Nat} {d : PyData} (h : d ∈ rangeD lo n) : ∃ i : Nat, i < n ∧ d = .int (lo + i) := by
  obtain ⟨i, hi, rfl⟩ := List.mem_map.mp h
  exact ⟨i, List.mem_range.mp hi, rfl⟩
end VsG

namespace VsG
open PySem PySem.Spec L2 Vs
abbrev abyz : List Nat := [97, 98, 121, 122]
theorem letter4 {r : Int} (h0 : 0 ≤ r) (h1 : r < 4) : ∃ x, x ∈ abyz ∧ hIx (.fz (.str "abyz")) (.fz (.int r)) = some (.fz (.str ⟨#[x]⟩)) := by
  have : r = 0 ∨ r = 1 ∨ r = 2 ∨ r = 3 := by omega
  rcases this with rfl | rfl | rfl | rfl
  · exact ⟨97, by decide, rfl⟩
  · exact ⟨98, by decide, rfl⟩
  · exact ⟨121, by decide, rfl⟩
  · exact ⟨122, by decide, rfl⟩
def cw (j : Nat) : Str := ⟨#[99, 97 + j]⟩
theorem cw_at {j : Nat} (h : j < 4) : ∃ y, hIx (.fz (.str "abcdefghijklmnopqrstuvwxyz")) (.fz (.int (j : Int))) = some (.fz (.str y)) ∧ hAdd (.fz (.str "c")) (.fz (.str y)) = some (.fz (.str (cw j))) := by
  have : j = 0 ∨ j = 1 ∨ j = 2 ∨ j = 3 := by omega
  rcases this with rfl | rfl | rfl | rfl
  · exact ⟨⟨#[97]⟩, rfl, rfl⟩
  · exact ⟨⟨#[98]⟩, rfl, rfl⟩
  · exact ⟨⟨#[99]⟩, rfl, rfl⟩
  · exact ⟨⟨#[100]⟩, rfl, rfl⟩
structure Wd (w : Str) : Prop where
  ab : ∀ x ∈ w.cps.toList, x ∈ abyz
  sz : w.cps.size ≤ 8
theorem Wd.cw {w : Str} (h : Wd w) {j : Nat} : w ≠ cw j := fun e => by
  have := h.ab 99 (by rw [e]; simp [VsG.cw])
  simp at this
theorem cw_inj {i j : Nat} (h : cw i = cw j) : i = j := by
  simp [cw] at h
  exact h
theorem in_ap {w : Str} {ws : List Str} : hIn false (.fz (.str w)) (.fz (.list (ws.map .str))) = some (.fz (.bool (decide (w ∈ ws)))) := by
  have h1 : (ws.map PyData.str).all flatD = true := by simp [flatD]
  have h2 : memD (.str w) (ws.map .str) = decide (w ∈ ws) := by
    unfold memD
    rw [List.any_map]
    induction ws with
    | nil => rfl
    | cons u ws ih =>
      have h3 : (ws.map PyData.str).all flatD = true := by simp [flatD]
      rw [List.any_cons, ih h3]
      by_cases hu : u = w
      · subst hu; simp [PyData.eqv]
      · have : w ≠ u := fun z => hu z.symm
        simp [PyData.eqv, hu, this]
  show (inD (.str w) (.list (ws.map .str))).map (fun k => O.fz (.bool (if false = true then !k else k))) = _
  show Option.map _ (if (flatD (.str w) && (ws.map PyData.str).all flatD || deepD (.str w) && deepL (ws.map PyData.str)) = true then some (memD (.str w) (ws.map PyData.str)) else none) = _
  rw [if_pos (by rw [h1]; rfl), h2]; rfl
theorem word_ok {ns : List Int} {ws : List Str} {c : Int} (G : Good ns) (hw : ws.length < 4) (hcw : ∀ u ∈ ws, u ≠ cw ws.length) (h0 : 0 ≤ c) (h1 : c + 100 < 2 ^ 200) :
    ∃ w c', w ∉ ws ∧ (Wd w ∨ w = cw ws.length) ∧ c ≤ c' ∧ c' ≤ c + 100 ∧ g__law_word [some (.mu true (stD ns c)), some (.fz (.list (ws.map .str)))] = some (.ok (.fz (.str w)) [some (.mu true (stD ns c')), some (.fz (.list (ws.map .str)))]) := by
  obtain ⟨r, r0, r1, e1⟩ := next_ok (c := c) (m := 8) G h0 (by omega) (by decide)
  obtain ⟨q, q0, q1, e2⟩ := next_ok (c := c + 1) (m := 3) G (by omega) (by omega) (by decide)
  -- the number of letters
  obtain ⟨N, N0, N1, eN⟩ : ∃ N : Int, 1 ≤ N ∧ N ≤ 8 ∧ hIx (.mu false (.lst [.int 1, .int 2, .int (1 + r)])) (.fz (.int q)) = some (.fz (.int N)) := by
    have : q = 0 ∨ q = 1 ∨ q = 2 := by omega
    rcases this with rfl | rfl | rfl
    · exact ⟨1, by decide, by decide, rfl⟩
    · exact ⟨2, by decide, by decide, rfl⟩
    · exact ⟨1 + r, by omega, by omega, rfl⟩
  obtain ⟨ρ', ef, w, c2, y, er, hab, hsz, k0, k1⟩ := forF_ok (h := tgName 3) (fb := sSet 2 (eOp hAdd (eV 2) (eOp hIx (eC (.str "abyz")) (eCall (g__law_next) 2 (gB 0 (gF (eC (.int 4)) gN))))))
    (fun ds ρ => ∃ (w : Str) (c2 : Int) (y : Option PyData), ρ = [some (.mu true (stD ns c2)), some (.fz (.list (ws.map .str))), some (.fz (.str w)), y.map O.fz] ∧ (∀ x ∈ w.cps.toList, x ∈ abyz) ∧ w.cps.size + ds.length ≤ 8 ∧ c ≤ c2 ∧ c2 + ds.length ≤ c + 12)
    (fun d ds ρ ⟨w, c2, y, er, hab, hsz, k0, k1⟩ => by
      subst er
      have hsz' : w.cps.size + (ds.length + 1) ≤ 8 := hsz
      have k1' : c2 + (ds.length + 1 : Nat) ≤ c + 12 := k1
      obtain ⟨p, p0, p1, e3⟩ := next_ok (c := c2) (m := 4) G (by omega) (by omega) (by decide)
      obtain ⟨x, hx, e4⟩ := letter4 p0 p1
      have hlen : w.length ≤ 8 := by show w.cps.size ≤ 8; omega
      have e5 : hAdd (.fz (.str w)) (.fz (.str ⟨#[x]⟩)) = some (.fz (.str (w ++ ⟨#[x]⟩))) := by
        show (if w.length + (⟨#[x]⟩ : Str).length ≤ 16777216 then some (O.fz (.str (w ++ ⟨#[x]⟩))) else none) = _
        rw [if_pos (by have : (⟨#[x]⟩ : Str).length = 1 := rfl; omega)]
      refine ⟨[some (.mu true (stD ns c2)), some (.fz (.list (ws.map .str))), some (.fz (.str w)), some (.fz d)], ?_, .inl ⟨[some (.mu true (stD ns (c2 + 1))), some (.fz (.list (ws.map .str))), some (.fz (.str (w ++ ⟨#[x]⟩))), some (.fz d)], ?_, w ++ ⟨#[x]⟩, c2 + 1, some d, rfl, ?_, ?_, by omega, by omega⟩⟩
      · rw [tgName_ap, stM_o (y := y) rfl]; rfl
      · have e4' := e4
        have e5' := e5
        simp only [hIx, hAdd, O.view] at e4' e5'
        simp [eV_ap, eC_ap, eOp_ap, eOpK_ap, thenO_ok, dr2_ap, rdO_s, rdO_o, dr2P_ap, dr2O_ap, eCall_ap, gB_ap, gF_ap, gFK_ap, gN_ap, frz_o, consG_ap, callN_ap, argE_bt, argE_fz, argE_nil, callA_ap, callBO_t, brOk_n, brOk_f, brOk_b, brAt_n, brAt_f, brAt_b, back, backF, List.mapIdx, List.mapIdx.go, e3, callOut_ap, e4, e5, sSet_ap, setK_o, stM_f]
      · intro z hz
        rw [show (w ++ ⟨#[x]⟩ : Str).cps = w.cps ++ #[x] from rfl] at hz
        simp at hz
        rcases hz with hz | hz
        · exact hab z (by simpa using hz)
        · rw [hz]; exact hx
      · rw [show (w ++ ⟨#[x]⟩ : Str).cps = w.cps ++ #[x] from rfl]; simp; omega) (rangeD 0 N.toNat) [some (.mu true (stD ns (c + 2))), some (.fz (.list (ws.map .str))), some (.fz (.str "")), none]
    ⟨"", c + 2, none, rfl, (fun x hx => by have : ("" : Str).cps.toList = [] := rfl; rw [this] at hx; cases hx), by rw [rangeD_len]; have : ("" : Str).cps.size = 0 := rfl; omega, by omega, by rw [rangeD_len]; omega⟩
  have k1' : c2 ≤ c + 12 := by have : c2 + (0 : Nat) ≤ c + 12 := k1; omega
  have hW : Wd w := ⟨hab, by have : w.cps.size + 0 ≤ 8 := hsz; omega⟩
  have hr := rng1_ap (ρ := [some (.mu true (stD ns (c + 2))), some (.fz (.list (ws.map .str))), some (.fz (.str "")), none]) (j := N) (by omega)
  have c11 : c + 1 + 1 = c + 2 := by omega
  rw [c11] at e2
  subst er
  by_cases hin : w ∈ ws
  · obtain ⟨z, z1, z2⟩ := cw_at hw
    refine ⟨cw ws.length, c2, fun h => hcw _ h rfl, .inr rfl, k0, by omega, ?_⟩
    have hl : hLen [.fz (.list (ws.map .str))] = some (.fz (.int (ws.length : Int))) := by simp [hLen, O.view]
    have hin' : hIn false (.fz (.str w)) (.fz (.list (ws.map .str))) = some (.fz (.bool true)) := by rw [in_ap, decide_eq_true hin]
    simp [g__law_word, f__law_word, defG_ap, okArg, defOut, resO, keepB, keepF, List.mapIdx, List.mapIdx.go, eV_ap, eC_ap, dr2O_ap, dr2_ap, dr2P_ap, eOp_ap, eOpK_ap, dr2B_ap, dr2BP_ap, dr2BO_ap, eTs_ap, eTsK_ap, dr1_ap, dr1P_ap, eUn_ap, drN_ap, drNP_ap, eCN_ap, lN_ap, lC_ap, lCK_ap, consR_ap, aN_ap, aC_ap, aCK_ap, consD_ap, frz_o, frz_m, frz_sf, frz_sm, gN_ap, gF_ap, gFK_ap, consG_ap, gB_ap, eCall_ap, callN_ap, callA_ap, callOut_ap, argE_bt, argE_bf, argE_fz, argE_nil, eTup_ap, eLst_ap, tupK_ap, lstK_ap, eDct_ap, eSl_ap, slK_ap, slK1_ap, slK2_ap, pN_ap, pI_ap, tTr_ap, tAn_ap, tO_ap, andK_t, andK_f, orK_t, orK_f, iT_ap, iV_ap, iterD_l, iterD_t, iR1_ap, sRet_ap, rtK_ap, sN_ap, sBk_ap, sIf_ap, ifK_t, ifK_f, sSet_ap, setK_o, stM_n, stM_f, stM_m, stM_o, sAsg_ap, sApp_apt, sApp_apf, appK_apt, appK_apf, sSt_ap, stK_ap, stKK_apt, stKK_apf, sFor_ap, eLc_ap, eMt_ap, mtK_ap, mtK1_ap, tgName_ap, tgTup_ap, tgCons_ap, tgThen_ap, tgNil_ap, seq_eq, bind_eq, thenO_ok, ret_eq, seqO_nx, seqO_rt, seqO_bk, rdL, rdO_o, rdO_s, callBO_t, brOk_n, brOk_f, brOk_b, brAt_n, brAt_f, brAt_b, back, backF, List.mapIdx, List.mapIdx.go, Mu.view, e1, e2, eN, hr, ef, hin', hl, z1, z2, show hAdd (.fz (.int 1)) (.fz (.int r)) = some (.fz (.int (1 + r))) from rfl]
  · refine ⟨w, c2, hin, .inl hW, k0, by omega, ?_⟩
    have hin' : hIn false (.fz (.str w)) (.fz (.list (ws.map .str))) = some (.fz (.bool false)) := by rw [in_ap, decide_eq_false hin]
    simp [g__law_word, f__law_word, defG_ap, okArg, defOut, resO, keepB, keepF, List.mapIdx, List.mapIdx.go, eV_ap, eC_ap, dr2O_ap, dr2_ap, dr2P_ap, eOp_ap, eOpK_ap, dr2B_ap, dr2BP_ap, dr2BO_ap, eTs_ap, eTsK_ap, dr1_ap, dr1P_ap, eUn_ap, drN_ap, drNP_ap, eCN_ap, lN_ap, lC_ap, lCK_ap, consR_ap, aN_ap, aC_ap, aCK_ap, consD_ap, frz_o, frz_m, frz_sf, frz_sm, gN_ap, gF_ap, gFK_ap, consG_ap, gB_ap, eCall_ap, callN_ap, callA_ap, callOut_ap, argE_bt, argE_bf, argE_fz, argE_nil, eTup_ap, eLst_ap, tupK_ap, lstK_ap, eDct_ap, eSl_ap, slK_ap, slK1_ap, slK2_ap, pN_ap, pI_ap, tTr_ap, tAn_ap, tO_ap, andK_t, andK_f, orK_t, orK_f, iT_ap, iV_ap, iterD_l, iterD_t, iR1_ap, sRet_ap, rtK_ap, sN_ap, sBk_ap, sIf_ap, ifK_t, ifK_f, sSet_ap, setK_o, stM_n, stM_f, stM_m, stM_o, sAsg_ap, sApp_apt, sApp_apf, appK_apt, appK_apf, sSt_ap, stK_ap, stKK_apt, stKK_apf, sFor_ap, eLc_ap, eMt_ap, mtK_ap, mtK1_ap, tgName_ap, tgTup_ap, tgCons_ap, tgThen_ap, tgNil_ap, seq_eq, bind_eq, thenO_ok, ret_eq, seqO_nx, seqO_rt, seqO_bk, rdL, rdO_o, rdO_s, callBO_t, brOk_n, brOk_f, brOk_b, brAt_n, brAt_f, brAt_b, back, backF, List.mapIdx, List.mapIdx.go, Mu.view, e1, e2, eN, hr, ef, hin', show hAdd (.fz (.int 1)) (.fz (.int r)) = some (.fz (.int (1 + r))) from rfl]
end VsG

namespace VsG
open PySem PySem.Spec L2 Vs
structure Sgn (ss : List (Str × Int)) : Prop where
  nd : (ss.map (·.1)).Nodup
  ar : ∀ p ∈ ss, 0 ≤ p.2 ∧ p.2 ≤ 2
  z : ∃ p ∈ ss, p.2 = 0
  wd : ∀ p ∈ ss, (∀ c ∈ p.1.cps.toList, c < 16 ^ 8) ∧ p.1.cps.size ≤ 8
theorem hAdd_l {x y : List PyData} {b b' : Bool} (h : x.length + y.length ≤ 16777216) : hAdd (.mu b (.lst x)) (.mu b' (.lst y)) = some (.mu false (.lst (x ++ y))) := by
  unfold hAdd
  exact if_pos h
theorem drop_cons {α : Type} {l ds : List α} {k : Nat} {d : α} (h : d :: ds = l.drop k) : l[k]? = some d ∧ ds = l.drop (k + 1) := by
  refine ⟨?_, ?_⟩
  · have := congrArg (fun x : List α => x[0]?) h
    simp at this
    exact this.symm
  · rw [show l.drop (k + 1) = (l.drop k).drop 1 by rw [List.drop_drop], ← h]; rfl
theorem signs_loop {ns : List Int} {n : Nat} {m c : Int} (hmn : m = (n : Int)) (G : Good ns) (hn : 1 ≤ n) (hn4 : n ≤ 4) (h0 : 0 ≤ c) (h1 : c + 2000 < 2 ^ 200) :
    ∃ (ss : List (Str × Int)) (c2 : Int) (y3 y4 : Option PyData), forF (tgName 3) (sSeq (sSet 4 (eCall (g__law_word) 2 (gB 0 (gF (eLcL 2 [6, 7] (tgTup 2 (tgCons (tgName 6) (tgCons (tgName 7) tgNil))) iT (eV 6)) gN))))
    (sApp 2 (eTup (aC (eV 4) (aC (eOp hIx (eLst (aC (eC (.int 0)) (aC (eCall (g__law_next) 2 (gB 0 (gF (eC (.int 3)) gN))) aN))) (eCN hInt (lC (eOp hGt (eV 3) (eC (.int 0))) lN))) aN))))) (rangeD 0 n) [some (.mu true (stD ns c)), some (.fz (.int m)), some (.mu false (.lst (sgD []))), none, none, none, none, none] = some (.ok .nx [some (.mu true (stD ns c2)), some (.fz (.int m)), some (.mu false (.lst (sgD ss))), y3.map O.fz, y4.map O.fz, none, none, none]) ∧ (ss.map (·.1)).Nodup ∧ (∀ p ∈ ss, 0 ≤ p.2 ∧ p.2 ≤ 2) ∧ (ss ≠ [] → ∃ p ∈ ss, p.2 = 0) ∧
      (∀ p ∈ ss, Wd p.1 ∨ ∃ j, j < ss.length ∧ p.1 = cw j) ∧ ss.length = n ∧ c ≤ c2 ∧ c2 ≤ c + 200 * ss.length := by
  obtain ⟨ρ', ef, ss, c2, y3, y4, er, nd, ar, z, wd, hlen, _, k0, k1⟩ := forF_ok (h := tgName 3) (fb := (sSeq (sSet 4 (eCall (g__law_word) 2 (gB 0 (gF (eLcL 2 [6, 7] (tgTup 2 (tgCons (tgName 6) (tgCons (tgName 7) tgNil))) iT (eV 6)) gN))))
    (sApp 2 (eTup (aC (eV 4) (aC (eOp hIx (eLst (aC (eC (.int 0)) (aC (eCall (g__law_next) 2 (gB 0 (gF (eC (.int 3)) gN))) aN))) (eCN hInt (lC (eOp hGt (eV 3) (eC (.int 0))) lN))) aN))))))
    (fun ds ρ => ∃ (ss : List (Str × Int)) (c2 : Int) (y3 y4 : Option PyData), ρ = [some (.mu true (stD ns c2)), some (.fz (.int m)), some (.mu false (.lst (sgD ss))), y3.map O.fz, y4.map O.fz, none, none, none] ∧ (ss.map (·.1)).Nodup ∧ (∀ p ∈ ss, 0 ≤ p.2 ∧ p.2 ≤ 2) ∧ (ss ≠ [] → ∃ p ∈ ss, p.2 = 0) ∧
      (∀ p ∈ ss, Wd p.1 ∨ ∃ j, j < ss.length ∧ p.1 = cw j) ∧ ss.length + ds.length = n ∧ ds = (rangeD 0 n).drop ss.length ∧ c ≤ c2 ∧ c2 ≤ c + 200 * ss.length)
    (fun d ds ρ ⟨ss, c2, y3, y4, er, nd, ar, z, wd, hlen, hds, k0, k1⟩ => by
      subst er
      have hlen' : ss.length + (ds.length + 1) = n := hlen
      obtain ⟨hd, hds2⟩ := drop_cons hds
      have ed : d = .int (ss.length : Int) := by
        have h2 : (rangeD 0 n)[ss.length]? = some (.int (0 + (ss.length : Int))) := by
          unfold rangeD
          rw [List.getElem?_map, List.getElem?_range (by omega)]; rfl
        rw [h2] at hd
        have := Option.some.inj hd
        rw [← this]; congr 1; omega
      subst ed
      have hcw : ∀ u ∈ ss.map (·.1), u ≠ cw ((ss.map (·.1)).length) := by
        intro u hu
        obtain ⟨p, hp, rfl⟩ := List.mem_map.mp hu
        rw [List.length_map]
        rcases wd p hp with h | ⟨j, hj, e⟩
        · exact h.cw
        · rw [e]; exact fun h => by have := cw_inj h; omega
      obtain ⟨w, c3, hw1, hw2, k2, k3, ew⟩ := word_ok (ws := ss.map (·.1)) (c := c2) G (by rw [List.length_map]; omega) hcw (by omega) (by omega)
      obtain ⟨r, r0, r1, e3⟩ := next_ok (c := c3) (m := 3) G (by omega) (by omega) (by decide)
      rw [List.length_map] at hw2
      have hlc : lcL 2 [6, 7] (tgTup 2 (tgCons (tgName 6) (tgCons (tgName 7) tgNil))) iT ((eV 6).bind frz) [some (.mu true (stD ns c2)), some (.fz (.int m)), some (.mu false (.lst (sgD ss))), some (.fz (.int (ss.length : Int))), y4.map O.fz, none, none, none]
          = some (.ok (.o (.mu false (.lst ((sgD ss).map fun d => match d with | .tuple (x :: _) => x | x => x)))) [some (.mu true (stD ns c2)), some (.fz (.int m)), some (.mu false (.lst (sgD ss))), some (.fz (.int (ss.length : Int))), y4.map O.fz, none, none, none]) :=
        lcL_ap (ρL := [some (.mu true (stD ns c2)), some (.fz (.int m)), some (.mu true (.lst (sgD ss))), some (.fz (.int (ss.length : Int))), y4.map O.fz, none, none, none]) rfl _ rfl (by simp [freeV]) (by simp [wipeR, List.mapIdx, List.mapIdx.go]) (by simp [backR, List.mapIdx, List.mapIdx.go]) rfl
          (fun d hd => by
            obtain ⟨p, hp, rfl⟩ := List.mem_map.mp hd
            refine ⟨[some (.mu true (stD ns c2)), some (.fz (.int m)), some (.mu true (.lst (sgD ss))), some (.fz (.int (ss.length : Int))), y4.map O.fz, none, some (.fz (.str p.1)), some (.fz (.int p.2))], ?_, iT_ap, ?_, ?_, ?_⟩
            · simp [eV_ap, eC_ap, dr2O_ap, dr2_ap, dr2P_ap, eOp_ap, eOpK_ap, dr2B_ap, dr2BP_ap, dr2BO_ap, eTs_ap, eTsK_ap, dr1_ap, dr1P_ap, eUn_ap, drN_ap, drNP_ap, eCN_ap, lN_ap, lC_ap, lCK_ap, consR_ap, aN_ap, aC_ap, aCK_ap, consD_ap, frz_o, frz_m, frz_sf, frz_sm, gN_ap, gF_ap, gFK_ap, consG_ap, gB_ap, eCall_ap, callN_ap, callA_ap, callOut_ap, argE_bt, argE_bf, argE_fz, argE_nil, eTup_ap, eLst_ap, tupK_ap, lstK_ap, eDct_ap, eSl_ap, slK_ap, slK1_ap, slK2_ap, pN_ap, pI_ap, tTr_ap, tAn_ap, tO_ap, andK_t, andK_f, orK_t, orK_f, iT_ap, iV_ap, iterD_l, iterD_t, iR1_ap, sRet_ap, rtK_ap, sN_ap, sBk_ap, sIf_ap, ifK_t, ifK_f, sSet_ap, setK_o, stM_n, stM_f, stM_m, stM_o, sAsg_ap, sApp_apt, sApp_apf, appK_apt, appK_apf, sSt_ap, stK_ap, stKK_apt, stKK_apf, sFor_ap, eLc_ap, eMt_ap, mtK_ap, mtK1_ap, tgName_ap, tgTup_ap, tgCons_ap, tgThen_ap, tgNil_ap, seq_eq, bind_eq, thenO_ok, ret_eq, seqO_nx, seqO_rt, seqO_bk, rdL, rdO_o, rdO_s, O.view, Mu.view, muSet, muApp, hIx, ixD, hAdd, hLen, hI, hInt, hAbs, hCmp, hMax2, hTuple, hSl, hEq, hNe, flatD, PyData.eqv, tru_b, asInt_o, asInt_s, cutL_1, atI_0, atI_1, atI_2]
            · simp [eV_ap, eC_ap, dr2O_ap, dr2_ap, dr2P_ap, eOp_ap, eOpK_ap, dr2B_ap, dr2BP_ap, dr2BO_ap, eTs_ap, eTsK_ap, dr1_ap, dr1P_ap, eUn_ap, drN_ap, drNP_ap, eCN_ap, lN_ap, lC_ap, lCK_ap, consR_ap, aN_ap, aC_ap, aCK_ap, consD_ap, frz_o, frz_m, frz_sf, frz_sm, gN_ap, gF_ap, gFK_ap, consG_ap, gB_ap, eCall_ap, callN_ap, callA_ap, callOut_ap, argE_bt, argE_bf, argE_fz, argE_nil, eTup_ap, eLst_ap, tupK_ap, lstK_ap, eDct_ap, eSl_ap, slK_ap, slK1_ap, slK2_ap, pN_ap, pI_ap, tTr_ap, tAn_ap, tO_ap, andK_t, andK_f, orK_t, orK_f, iT_ap, iV_ap, iterD_l, iterD_t, iR1_ap, sRet_ap, rtK_ap, sN_ap, sBk_ap, sIf_ap, ifK_t, ifK_f, sSet_ap, setK_o, stM_n, stM_f, stM_m, stM_o, sAsg_ap, sApp_apt, sApp_apf, appK_apt, appK_apf, sSt_ap, stK_ap, stKK_apt, stKK_apf, sFor_ap, eLc_ap, eMt_ap, mtK_ap, mtK1_ap, tgName_ap, tgTup_ap, tgCons_ap, tgThen_ap, tgNil_ap, seq_eq, bind_eq, thenO_ok, ret_eq, seqO_nx, seqO_rt, seqO_bk, rdL, rdO_o, rdO_s, O.view, Mu.view, muSet, muApp, hIx, ixD, hAdd, hLen, hI, hInt, hAbs, hCmp, hMax2, hTuple, hSl, hEq, hNe, flatD, PyData.eqv, tru_b, asInt_o, asInt_s, cutL_1, atI_0, atI_1, atI_2]
            · simp [freeV]
            · simp [wipeR, List.mapIdx, List.mapIdx.go]) (by simp; omega)
      have hnm : (sgD ss).map (fun d => match d with | .tuple (x :: _) => x | x => x) = (ss.map (·.1)).map .str := by simp
      rw [hnm] at hlc
      -- the arity
      obtain ⟨v, kb, q, v0, v2, vz, hgt, hin, ev⟩ : ∃ (v : Int) (kb : Bool) (q : Int), 0 ≤ v ∧ v ≤ 2 ∧ (ss = [] → v = 0) ∧ hGt (.fz (.int (ss.length : Int))) (.fz (.int 0)) = some (.fz (.bool kb)) ∧ hInt [.fz (.bool kb)] = some (.fz (.int q)) ∧ hIx (.mu false (.lst [.int 0, .int r])) (.fz (.int q)) = some (.fz (.int v)) := by
        cases ss with
        | nil => exact ⟨0, false, 0, by decide, by decide, fun _ => rfl, rfl, rfl, rfl⟩
        | cons p ss => exact ⟨r, true, 1, by omega, by omega, fun z => (nomatch z), by
            show some (O.fz (.bool (decide ((0 : Int) < ((p :: ss).length : Int))))) = _
            rw [decide_eq_true (by simp)], rfl, rfl⟩
      refine ⟨[some (.mu true (stD ns c2)), some (.fz (.int m)), some (.mu false (.lst (sgD ss))), some (.fz (.int (ss.length : Int))), y4.map O.fz, none, none, none], ?_, .inl ⟨[some (.mu true (stD ns (c3 + 1))), some (.fz (.int m)), some (.mu false (.lst (sgD (ss ++ [(w, v)])))), some (.fz (.int (ss.length : Int))), some (.fz (.str w)), none, none, none], ?_, ss ++ [(w, v)], c3 + 1, some (.int (ss.length : Int)), some (.str w), rfl, ?_, ?_, ?_, ?_, ?_, ?_, by omega, ?_⟩⟩
      · rw [tgName_ap, stM_o (y := y3) rfl]; rfl
      · have hl5 : (sgD ss).length < 16777216 := by simp; omega
        rcases y4 with _ | y4 <;> simp only [Option.map_none, Option.map_some] at hlc <;> simp [eV_ap, eC_ap, dr2O_ap, dr2_ap, dr2P_ap, eOp_ap, eOpK_ap, dr2B_ap, dr2BP_ap, dr2BO_ap, eTs_ap, eTsK_ap, dr1_ap, dr1P_ap, eUn_ap, drN_ap, drNP_ap, eCN_ap, lN_ap, lC_ap, lCK_ap, consR_ap, aN_ap, aC_ap, aCK_ap, consD_ap, frz_o, frz_m, frz_sf, frz_sm, gN_ap, gF_ap, gFK_ap, consG_ap, gB_ap, eCall_ap, callN_ap, callA_ap, callOut_ap, argE_bt, argE_bf, argE_fz, argE_nil, eTup_ap, eLst_ap, tupK_ap, lstK_ap, eDct_ap, eSl_ap, slK_ap, slK1_ap, slK2_ap, pN_ap, pI_ap, tTr_ap, tAn_ap, tO_ap, andK_t, andK_f, orK_t, orK_f, iT_ap, iV_ap, iterD_l, iterD_t, iR1_ap, sRet_ap, rtK_ap, sN_ap, sBk_ap, sIf_ap, ifK_t, ifK_f, sSet_ap, setK_o, stM_n, stM_f, stM_m, stM_o, sAsg_ap, sApp_apt, sApp_apf, appK_apt, appK_apf, sSt_ap, stK_ap, stKK_apt, stKK_apf, sFor_ap, eLc_ap, eMt_ap, mtK_ap, mtK1_ap, tgName_ap, tgTup_ap, tgCons_ap, tgThen_ap, tgNil_ap, seq_eq, bind_eq, thenO_ok, ret_eq, seqO_nx, seqO_rt, seqO_bk, rdL, rdO_o, rdO_s, callBO_t, brOk_n, brOk_f, brOk_b, brAt_n, brAt_f, brAt_b, back, backF, List.mapIdx, List.mapIdx.go, eLcL, hlc, Mu.view, ew, e3, ev, hgt, hin, hl5, -List.length_map, -List.map_map]
      · rw [List.map_append, List.nodup_append]
        refine ⟨nd, by simp, ?_⟩
        intro a ha b hb e
        have : b = w := by simpa using hb
        subst this; subst e
        exact hw1 ha
      · intro p hp
        rcases List.mem_append.mp hp with h | h
        · exact ar p h
        · rw [List.mem_singleton.mp h]; exact ⟨v0, v2⟩
      · intro _
        by_cases hs : ss = []
        · exact ⟨(w, v), by simp, vz hs⟩
        · obtain ⟨p, hp, e⟩ := z hs
          exact ⟨p, List.mem_append_left _ hp, e⟩
      · intro p hp
        rw [List.length_append, List.length_singleton]
        rcases List.mem_append.mp hp with h | h
        · rcases wd p h with h | ⟨j, hj, e⟩
          · exact .inl h
          · exact .inr ⟨j, by omega, e⟩
        · rw [List.mem_singleton.mp h]
          rcases hw2 with h | h
          · exact .inl h
          · exact .inr ⟨ss.length, by omega, h⟩
      · rw [List.length_append, List.length_singleton]; omega
      · rw [List.length_append, List.length_singleton]; exact hds2
      · rw [List.length_append, List.length_singleton]; push_cast; omega) (rangeD 0 n) [some (.mu true (stD ns c)), some (.fz (.int m)), some (.mu false (.lst (sgD []))), none, none, none, none, none]
    ⟨[], c, none, none, rfl, by simp, (fun _ h => nomatch h), (fun h => absurd rfl h), (fun _ h => nomatch h), by rw [rangeD_len]; simp, rfl, Int.le_refl _, by simp⟩
  subst er
  exact ⟨ss, c2, y3, y4, ef, nd, ar, z, wd, by simpa using hlen, k0, k1⟩
theorem signs_ok {ns : List Int} {n : Nat} {m c : Int} (hmn : m = (n : Int)) (G : Good ns) (hn : 1 ≤ n) (hn4 : n ≤ 4) (h0 : 0 ≤ c) (h1 : c + 2000 < 2 ^ 200) :
    ∃ ss c', Sgn ss ∧ ss.length = n ∧ c ≤ c' ∧ c' ≤ c + 1000 ∧ g__law_signs [some (.mu true (stD ns c)), some (.fz (.int m))] = some (.ok (.fz (.tuple (sgD ss))) [some (.mu true (stD ns c')), some (.fz (.int m))]) := by
  obtain ⟨ss, c2, y3, y4, ef, nd, ar, z, wd, hlen', k0, k1⟩ := signs_loop hmn G hn hn4 h0 h1
  obtain ⟨r, r0, r1, e3⟩ := next_ok (c := c2) (m := m) G (by omega) (by omega) (by omega)
  obtain ⟨a, rfl⟩ := Int.eq_ofNat_of_zero_le r0
  have hp : ∀ p, p ∈ ss.drop a ++ ss.take a ↔ p ∈ ss := fun p => by
    rw [List.mem_append, or_comm, ← List.mem_append, List.take_append_drop]
  refine ⟨ss.drop a ++ ss.take a, c2 + 1, ⟨?_, fun p h => ar p ((hp p).mp h), ?_, fun p h => ?_⟩, ?_, by omega, by omega, ?_⟩
  · rw [List.map_append]
    have : (ss.map (·.1)).drop a ++ (ss.map (·.1)).take a = (ss.drop a).map (·.1) ++ (ss.take a).map (·.1) := by rw [List.map_drop, List.map_take]
    rw [← this]
    exact List.perm_append_comm.nodup_iff.mpr (by rw [List.take_append_drop]; exact nd)
  · obtain ⟨p, h, e⟩ := z (fun h => by rw [h] at hlen'; simp at hlen'; omega)
    exact ⟨p, (hp p).mpr h, e⟩
  · rcases wd p ((hp p).mp h) with h | ⟨j, hj, e⟩
    · exact ⟨fun c hc => by have := h.ab c hc; simp at this; omega, h.sz⟩
    · rw [e]
      refine ⟨fun c hc => ?_, by show 2 ≤ 8; omega⟩
      simp [cw] at hc; omega
  · rw [List.length_append, List.length_drop, List.length_take]; omega
  · have hr := rng1_ap (ρ := [some (.mu true (stD ns c)), some (.fz (.int m)), some (.mu false (.lst [])), none, none, none, none, none]) (j := m) (by omega)
    have hmt : m.toNat = n := by omega
    rw [hmt] at hr
    have s1 : hSl (.mu false (.lst (sgD ss))) (some (a : Int)) none = some (.mu false (.lst ((sgD ss).drop a))) := by
      show some (O.mu false (.lst (cutL (sgD ss) (some (a : Int)) none))) = _
      rw [cutL_from (by simp; omega)]
    have s2 : hSl (.mu false (.lst (sgD ss))) none (some (a : Int)) = some (.mu false (.lst ((sgD ss).take a))) := by
      show some (O.mu false (.lst (cutL (sgD ss) none (some (a : Int))))) = _
      rw [cutL_to]
    have s3 : hAdd (.mu false (.lst ((sgD ss).drop a))) (.mu false (.lst ((sgD ss).take a))) = some (.mu false (.lst ((sgD ss).drop a ++ (sgD ss).take a))) := by
      exact hAdd_l (by simp; omega)
    have s4 : hTuple [.mu false (.lst ((sgD ss).drop a ++ (sgD ss).take a))] = some (.fz (.tuple (sgD (ss.drop a ++ ss.take a)))) := by
      show some (O.fz (.tuple ((sgD ss).drop a ++ (sgD ss).take a))) = _
      rw [← List.map_drop, ← List.map_take, ← List.map_append]
    simp only [List.map_nil] at ef
    simp [g__law_signs, f__law_signs, defG_ap, okArg, defOut, resO, keepB, keepF, List.mapIdx, List.mapIdx.go, eV_ap, eC_ap, dr2O_ap, dr2_ap, dr2P_ap, eOp_ap, eOpK_ap, dr2B_ap, dr2BP_ap, dr2BO_ap, eTs_ap, eTsK_ap, dr1_ap, dr1P_ap, eUn_ap, drN_ap, drNP_ap, eCN_ap, lN_ap, lC_ap, lCK_ap, consR_ap, aN_ap, aC_ap, aCK_ap, consD_ap, frz_o, frz_m, frz_sf, frz_sm, gN_ap, gF_ap, gFK_ap, consG_ap, gB_ap, eCall_ap, callN_ap, callA_ap, callOut_ap, argE_bt, argE_bf, argE_fz, argE_nil, eTup_ap, eLst_ap, tupK_ap, lstK_ap, eDct_ap, eSl_ap, slK_ap, slK1_ap, slK2_ap, pN_ap, pI_ap, tTr_ap, tAn_ap, tO_ap, andK_t, andK_f, orK_t, orK_f, iT_ap, iV_ap, iterD_l, iterD_t, iR1_ap, sRet_ap, rtK_ap, sN_ap, sBk_ap, sIf_ap, ifK_t, ifK_f, sSet_ap, setK_o, stM_n, stM_f, stM_m, stM_o, sAsg_ap, sApp_apt, sApp_apf, appK_apt, appK_apf, sSt_ap, stK_ap, stKK_apt, stKK_apf, sFor_ap, eLc_ap, eMt_ap, mtK_ap, mtK1_ap, tgName_ap, tgTup_ap, tgCons_ap, tgThen_ap, tgNil_ap, seq_eq, bind_eq, thenO_ok, ret_eq, seqO_nx, seqO_rt, seqO_bk, rdL, rdO_o, rdO_s, callBO_t, brOk_n, brOk_f, brOk_b, brAt_n, brAt_f, brAt_b, back, backF, List.mapIdx, List.mapIdx.go, Mu.view, hr, ef, e3, s1, s2, s3, s4, asInt_o, asInt_s, -List.map_drop, -List.map_take, -List.map_append]
end VsG

namespace VsG
open PySem PySem.Spec L2 Vs
def Fr (y : Option O) : Prop := ∀ m, y ≠ some (.mu true m)
theorem fr_n : Fr none := fun _ h => nomatch h
theorem fr_f {d : PyData} : Fr (some (.fz d)) := fun _ h => nomatch h
theorem stM_v {ρ : Rho} {i : Nat} {o : O} {y : Option O} (e : ρ[i]? = some y) (h : Fr y) : Vs.stM i o ρ = some (.ok .nx (ρ.set i (some o))) := stM_ap e h
def Bd (ns : List Int) : Prop := ∀ n ∈ ns, 0 ≤ n ∧ n < 1009
theorem Bd.app {ns : List Int} (h : Bd ns) (x : Int) : Bd (ns ++ [x % 1009]) := fun n hn => by
  rcases List.mem_append.mp hn with hn | hn
  · exact h n hn
  · rw [List.mem_singleton.mp hn]; exact ⟨Int.emod_nonneg _ (by decide), Int.emod_lt_of_pos _ (by decide)⟩
abbrev sA : M Fl := (sSeq (sApp 1 (eOp (hI cMod fun i j => i % j) (eCN hInt (lC (eV 3) lN)) (eC (.int 1009))))
    (sSeq (sSet 3 (eOp (hI cDiv fun i j => i / j) (eV 3) (eC (.int 1009))))
    (sIf (eTs hEq (eV 3) (eC (.int 0))) sBk sN)))
abbrev sB : M Fl := (sSeq (sSet 5 (eOp (hI cMod fun i j => i % j) (eCN hInt (lC (eOp hAdd (eOp hAdd (eOp (hI cMul fun i j => i * j) (eV 5) (eC (.int 48271))) (eOp (hI cMul fun i j => i * j) (eC (.int 7)) (eV 4))) (eC (.int 11))) lN)) (eC (.int 2147483647))))
    (sApp 1 (eOp (hI cMod fun i j => i % j) (eOp (hI cMod fun i j => i % j) (eCN hInt (lC (eOp hAdd (eOp (hI cMul fun i j => i * j) (eV 5) (eC (.int 69621))) (eV 4)) lN)) (eC (.int 2147483629))) (eC (.int 1009)))))
theorem loopA {sc : PyData} {ns : List Int} {x2 x5 : Option O} {B : Nat} (hB : B ≤ 10000) : ∀ (ds : List PyData) (ns : List Int) (rest : Int) (y4 : Option O), Bd ns → Fr y4 → ns.length + ds.length ≤ B →
    ∃ ns' rest' y4', Bd ns' ∧ Fr y4' ∧ ns'.length ≤ B ∧ forF (tgName 4) sA ds [some (.fz sc), some (.mu false (.lst (ns.map .int))), x2, some (.fz (.int rest)), y4, x5] = some (.ok .nx [some (.fz sc), some (.mu false (.lst (ns'.map .int))), x2, some (.fz (.int rest')), y4', x5]) := by
  intro ds ns rest y4 hb hy hl
  obtain ⟨ρ', ef, ns', rest', y4', er, h1, h2, h3⟩ := forF_ok (h := tgName 4) (fb := sA) (fun ds ρ => ∃ (ns' : List Int) (rest' : Int) (y4' : Option O), ρ = [some (.fz sc), some (.mu false (.lst (ns'.map .int))), x2, some (.fz (.int rest')), y4', x5] ∧ Bd ns' ∧ Fr y4' ∧ ns'.length + ds.length ≤ B)
    (fun d ds ρ ⟨ns, rest, y4, er, hb, hy, hl⟩ => by
      subst er
      have hl' : ns.length + (ds.length + 1) ≤ B := hl
      have hn : (ns.map PyData.int).length < 16777216 := by simp; omega
      refine ⟨[some (.fz sc), some (.mu false (.lst (ns.map .int))), x2, some (.fz (.int rest)), some (.fz d), x5], ?_, ?_⟩
      · rw [tgName_ap, stM_v rfl hy]; rfl
      · have c1 : cMod rest 1009 = true := by unfold cMod; exact decide_eq_true (by decide)
        have c2 : cDiv rest 1009 = true := by unfold cDiv; exact decide_eq_true (by decide)
        have key : ∀ k : Bool, (rest / 1009 == 0) = k → sA [some (.fz sc), some (.mu false (.lst (ns.map .int))), x2, some (.fz (.int rest)), some (.fz d), x5] = some (.ok (if k then .bk else .nx) [some (.fz sc), some (.mu false (.lst ((ns ++ [rest % 1009]).map .int))), x2, some (.fz (.int (rest / 1009))), some (.fz d), x5]) := by
          intro k hk
          have hn' : ns.length < 16777216 := by omega
          cases k <;> simp [eV_ap, eC_ap, dr2O_ap, dr2_ap, dr2P_ap, eOp_ap, eOpK_ap, dr2B_ap, dr2BP_ap, dr2BO_ap, eTs_ap, eTsK_ap, dr1_ap, dr1P_ap, eUn_ap, drN_ap, drNP_ap, eCN_ap, lN_ap, lC_ap, lCK_ap, consR_ap, aN_ap, aC_ap, aCK_ap, consD_ap, frz_o, frz_m, frz_sf, frz_sm, gN_ap, gF_ap, gFK_ap, consG_ap, gB_ap, eCall_ap, callN_ap, callA_ap, callOut_ap, argE_bt, argE_bf, argE_fz, argE_nil, eTup_ap, eLst_ap, tupK_ap, lstK_ap, eDct_ap, eSl_ap, slK_ap, slK1_ap, slK2_ap, pN_ap, pI_ap, tTr_ap, tAn_ap, tO_ap, andK_t, andK_f, orK_t, orK_f, iT_ap, iV_ap, iterD_l, iterD_t, iR1_ap, sRet_ap, rtK_ap, sN_ap, sBk_ap, sIf_ap, ifK_t, ifK_f, sSet_ap, setK_o, stM_n, stM_f, stM_m, stM_o, sAsg_ap, sApp_apt, sApp_apf, appK_apt, appK_apf, sSt_ap, stK_ap, stKK_apt, stKK_apf, sFor_ap, eLc_ap, eMt_ap, mtK_ap, mtK1_ap, tgName_ap, tgTup_ap, tgCons_ap, tgThen_ap, tgNil_ap, seq_eq, bind_eq, thenO_ok, ret_eq, seqO_nx, seqO_rt, seqO_bk, rdL, rdO_o, rdO_s, O.view, Mu.view, muSet, muApp, hIx, ixD, hAdd, hLen, hI, hInt, hAbs, hCmp, hMax2, hTuple, hSl, hEq, hNe, flatD, PyData.eqv, tru_b, asInt_o, asInt_s, cutL_1, atI_0, atI_1, atI_2, c1, c2, hn', hk]
        cases hk : (rest / 1009 == 0) with
        | true => exact .inr ⟨_, key true hk, ns ++ [rest % 1009], rest / 1009, some (.fz d), rfl, hb.app _, fr_f, by simp; omega⟩
        | false => exact .inl ⟨_, key false hk, ns ++ [rest % 1009], rest / 1009, some (.fz d), rfl, hb.app _, fr_f, by simp; omega⟩) ds _ ⟨ns, rest, y4, rfl, hb, hy, hl⟩
  subst er
  exact ⟨ns', rest', y4', h1, h2, by simpa using h3, ef⟩
theorem loopB {sc : PyData} {x2 x3 : Option O} {B : Nat} (hB : B ≤ 10000) (ds : List PyData) (ns : List Int) (mx : Int) (y4 : Option O) (hb : Bd ns) (hy : Fr y4) (hl : ns.length + ds.length ≤ B) (hm : 0 ≤ mx ∧ mx < 2147483647) (hd : ∀ d ∈ ds, ∃ k : Int, d = .int k ∧ 0 ≤ k ∧ k < 100) :
    ∃ ns' mx' y4', Bd ns' ∧ Fr y4' ∧ ns'.length ≤ B ∧ forF (tgName 4) sB ds [some (.fz sc), some (.mu false (.lst (ns.map .int))), x2, x3, y4, some (.fz (.int mx))] = some (.ok .nx [some (.fz sc), some (.mu false (.lst (ns'.map .int))), x2, x3, y4', some (.fz (.int mx'))]) := by
  obtain ⟨ρ', ef, ns', mx', y4', er, h1, h2, h3, _⟩ := forF_ok (h := tgName 4) (fb := sB) (fun ds ρ => ∃ (ns' : List Int) (mx' : Int) (y4' : Option O), ρ = [some (.fz sc), some (.mu false (.lst (ns'.map .int))), x2, x3, y4', some (.fz (.int mx'))] ∧ Bd ns' ∧ Fr y4' ∧ ns'.length + ds.length ≤ B ∧ (0 ≤ mx' ∧ mx' < 2147483647) ∧ ∀ d ∈ ds, ∃ k : Int, d = .int k ∧ 0 ≤ k ∧ k < 100)
    (fun d ds ρ ⟨ns, mx, y4, er, hb, hy, hl, hm, hd⟩ => by
      subst er
      have hl' : ns.length + (ds.length + 1) ≤ B := hl
      have hn : ns.length < 16777216 := by omega
      obtain ⟨k, rfl, k0, k1⟩ := hd d (List.mem_cons_self ..)
      have m2 : 0 ≤ (mx * 48271 + 7 * k + 11) % 2147483647 ∧ (mx * 48271 + 7 * k + 11) % 2147483647 < 2147483647 := ⟨Int.emod_nonneg _ (by decide), Int.emod_lt_of_pos _ (by decide)⟩
      have c1 : cMul mx 48271 = true := cMul_of (a := 40) (b := 40) (by omega) (by decide) (by decide) (by decide) (by decide)
      have c2 : cMul 7 k = true := cMul_of (a := 40) (b := 40) (by decide) (by omega) (by decide) (by decide) (by decide)
      have c3 : cMul ((mx * 48271 + 7 * k + 11) % 2147483647) 69621 = true := cMul_of (a := 40) (b := 40) (by omega) (by decide) (by decide) (by decide) (by decide)
      have c4 : ∀ x, cMod x 2147483647 = true := fun x => by unfold cMod; exact decide_eq_true (by decide)
      have c5 : ∀ x, cMod x 2147483629 = true := fun x => by unfold cMod; exact decide_eq_true (by decide)
      have c6 : ∀ x, cMod x 1009 = true := fun x => by unfold cMod; exact decide_eq_true (by decide)
      refine ⟨[some (.fz sc), some (.mu false (.lst (ns.map .int))), x2, x3, some (.fz (.int k)), some (.fz (.int mx))], ?_, .inl ⟨[some (.fz sc), some (.mu false (.lst ((ns ++ [((mx * 48271 + 7 * k + 11) % 2147483647 * 69621 + k) % 2147483629 % 1009]).map .int))), x2, x3, some (.fz (.int k)), some (.fz (.int ((mx * 48271 + 7 * k + 11) % 2147483647)))], ?_, _, _, _, rfl, hb.app _, fr_f, by simp; omega, m2, fun d h => hd d (List.mem_cons_of_mem _ h)⟩⟩
      · rw [tgName_ap, stM_v rfl hy]; rfl
      · simp [eV_ap, eC_ap, dr2O_ap, dr2_ap, dr2P_ap, eOp_ap, eOpK_ap, dr2B_ap, dr2BP_ap, dr2BO_ap, eTs_ap, eTsK_ap, dr1_ap, dr1P_ap, eUn_ap, drN_ap, drNP_ap, eCN_ap, lN_ap, lC_ap, lCK_ap, consR_ap, aN_ap, aC_ap, aCK_ap, consD_ap, frz_o, frz_m, frz_sf, frz_sm, gN_ap, gF_ap, gFK_ap, consG_ap, gB_ap, eCall_ap, callN_ap, callA_ap, callOut_ap, argE_bt, argE_bf, argE_fz, argE_nil, eTup_ap, eLst_ap, tupK_ap, lstK_ap, eDct_ap, eSl_ap, slK_ap, slK1_ap, slK2_ap, pN_ap, pI_ap, tTr_ap, tAn_ap, tO_ap, andK_t, andK_f, orK_t, orK_f, iT_ap, iV_ap, iterD_l, iterD_t, iR1_ap, sRet_ap, rtK_ap, sN_ap, sBk_ap, sIf_ap, ifK_t, ifK_f, sSet_ap, setK_o, stM_n, stM_f, stM_m, stM_o, sAsg_ap, sApp_apt, sApp_apf, appK_apt, appK_apf, sSt_ap, stK_ap, stKK_apt, stKK_apf, sFor_ap, eLc_ap, eMt_ap, mtK_ap, mtK1_ap, tgName_ap, tgTup_ap, tgCons_ap, tgThen_ap, tgNil_ap, seq_eq, bind_eq, thenO_ok, ret_eq, seqO_nx, seqO_rt, seqO_bk, rdL, rdO_o, rdO_s, O.view, Mu.view, muSet, muApp, hIx, ixD, hAdd, hLen, hI, hInt, hAbs, hCmp, hMax2, hTuple, hSl, hEq, hNe, flatD, PyData.eqv, tru_b, asInt_o, asInt_s, cutL_1, atI_0, atI_1, atI_2, c1, c2, c3, c4, c5, c6, hn]) ds _ ⟨ns, mx, y4, rfl, hb, hy, hl, hm, hd⟩
  subst er
  exact ⟨ns', mx', y4', h1, h2, by simpa using h3, ef⟩
theorem stream_ok (xs : List Int) (hx : xs.length ≤ 63) : ∃ ns, Good ns ∧ g__law_stream [some (.fz (.list (xs.map .int)))] = some (.ok (.mu false (.lst (ns.map .int))) [some (.fz (.list (xs.map .int)))]) := by
  obtain ⟨ρ', ef, ns, y2, y3, y4, y5, er, hb, f2, f3, f4, f5, hl, _⟩ := forF_ok (h := tgName 2) (fb := (sSeq (sSet 3 (eCN hAbs (lC (eCN hInt (lC (eV 2) lN)) lN)))
    (sIf (eTs hGe (eV 3) (eOp (hI cPow fun i j => i ^ j.toNat) (eC (.int 10)) (eC (.int 18)))) (sFor (iR1 (aC (eC (.int 60)) aN)) (tgName 4) sA) (sSeq (sSet 5 (eOp (hI cMod fun i j => i % j) (eCN hInt (lC (eV 3) lN)) (eC (.int 2147483647))))
    (sFor (iR1 (aC (eC (.int 10)) aN)) (tgName 4) sB)))))
    (fun ds ρ => ∃ (ns : List Int) (y2 y3 y4 y5 : Option O), ρ = [some (.fz (.list (xs.map .int))), some (.mu false (.lst (ns.map .int))), y2, y3, y4, y5] ∧ Bd ns ∧ Fr y2 ∧ Fr y3 ∧ Fr y4 ∧ Fr y5 ∧ ns.length + 60 * ds.length ≤ 60 * 63 ∧ ∀ d ∈ ds, ∃ z : Int, d = .int z)
    (fun d ds ρ ⟨ns, y2, y3, y4, y5, er, hb, f2, f3, f4, f5, hl, hd⟩ => by
      subst er
      have hl' : ns.length + 60 * (ds.length + 1) ≤ 60 * 63 := hl
      obtain ⟨z, rfl⟩ := hd d (List.mem_cons_self ..)
      have hp : hI cPow (fun i j => i ^ j.toNat) (.fz (.int 10)) (.fz (.int 18)) = some (.fz (.int 1000000000000000000)) := by rfl
      have ha : hAbs [.fz (.int z)] = some (.fz (.int (if z < 0 then -z else z))) := rfl
      have hi : hInt [.fz (.int z)] = some (.fz (.int z)) := rfl
      generalize hr : (if z < 0 then -z else z) = rest at ha
      have hi2 : hInt [.fz (.int rest)] = some (.fz (.int rest)) := rfl
      have hge : hGe (.fz (.int rest)) (.fz (.int 1000000000000000000)) = some (.fz (.bool (decide (1000000000000000000 ≤ rest)))) := rfl
      obtain ⟨n1, r1, z1, b1, g1, l1, e1⟩ := loopA (sc := .list (xs.map .int)) (ns := ns) (x2 := some (.fz (.int z))) (x5 := y5) (B := ns.length + 60) (by omega) (rangeD 0 60) ns rest y4 hb f4 (by rw [rangeD_len]; omega)
      obtain ⟨n2, r2, z2, b2, g2, l2, e2⟩ := loopB (sc := .list (xs.map .int)) (x2 := some (.fz (.int z))) (x3 := some (.fz (.int rest))) (B := ns.length + 60) (by omega) (rangeD 0 10) ns (rest % 2147483647) y4 hb f4 (by rw [rangeD_len]; omega) ⟨Int.emod_nonneg _ (by decide), Int.emod_lt_of_pos _ (by decide)⟩ (fun d h => by obtain ⟨i, hi, rfl⟩ := rangeD_mem h; exact ⟨_, rfl, by omega, by omega⟩)
      have hm : hI cMod (fun i j => i % j) (.fz (.int rest)) (.fz (.int 2147483647)) = some (.fz (.int (rest % 2147483647))) := rfl
      have q1 : ∀ ρ, rng1 [.int 60] ρ = some (.ok (rangeD 0 60) ρ) := fun ρ => rng1_ap (by decide)
      have q2 : ∀ ρ, rng1 [.int 10] ρ = some (.ok (rangeD 0 10) ρ) := fun ρ => rng1_ap (by decide)
      by_cases hg : 1000000000000000000 ≤ rest
      · rw [decide_eq_true hg] at hge
        refine ⟨[some (.fz (.list (xs.map .int))), some (.mu false (.lst (ns.map .int))), some (.fz (.int z)), y3, y4, y5], ?_, .inl ⟨[some (.fz (.list (xs.map .int))), some (.mu false (.lst (n1.map .int))), some (.fz (.int z)), some (.fz (.int r1)), z1, y5], ?_, n1, _, _, _, _, rfl, b1, fr_f, fr_f, g1, f5, by omega, fun d h => hd d (List.mem_cons_of_mem _ h)⟩⟩
        · rw [tgName_ap, stM_v rfl f2]; rfl
        · simp [eV_ap, eC_ap, dr2O_ap, dr2_ap, dr2P_ap, eOp_ap, eOpK_ap, dr2B_ap, dr2BP_ap, dr2BO_ap, eTs_ap, eTsK_ap, dr1_ap, dr1P_ap, eUn_ap, drN_ap, drNP_ap, eCN_ap, lN_ap, lC_ap, lCK_ap, consR_ap, aN_ap, aC_ap, aCK_ap, consD_ap, frz_o, frz_m, frz_sf, frz_sm, gN_ap, gF_ap, gFK_ap, consG_ap, gB_ap, eCall_ap, callN_ap, callA_ap, callOut_ap, argE_bt, argE_bf, argE_fz, argE_nil, eTup_ap, eLst_ap, tupK_ap, lstK_ap, eDct_ap, eSl_ap, slK_ap, slK1_ap, slK2_ap, pN_ap, pI_ap, tTr_ap, tAn_ap, tO_ap, andK_t, andK_f, orK_t, orK_f, iT_ap, iV_ap, iterD_l, iterD_t, iR1_ap, sRet_ap, rtK_ap, sN_ap, sBk_ap, sIf_ap, ifK_t, ifK_f, sSet_ap, setK_o, stM_n, stM_f, stM_m, stM_o, sAsg_ap, sApp_apt, sApp_apf, appK_apt, appK_apf, sSt_ap, stK_ap, stKK_apt, stKK_apf, sFor_ap, eLc_ap, eMt_ap, mtK_ap, mtK1_ap, tgName_ap, tgTup_ap, tgCons_ap, tgThen_ap, tgNil_ap, seq_eq, bind_eq, thenO_ok, ret_eq, seqO_nx, seqO_rt, seqO_bk, rdL, rdO_o, rdO_s, hi, ha, stM_v, f3, hp, hge, q1, e1]
      · rw [decide_eq_false hg] at hge
        refine ⟨[some (.fz (.list (xs.map .int))), some (.mu false (.lst (ns.map .int))), some (.fz (.int z)), y3, y4, y5], ?_, .inl ⟨[some (.fz (.list (xs.map .int))), some (.mu false (.lst (n2.map .int))), some (.fz (.int z)), some (.fz (.int rest)), z2, some (.fz (.int r2))], ?_, n2, _, _, _, _, rfl, b2, fr_f, fr_f, g2, fr_f, by omega, fun d h => hd d (List.mem_cons_of_mem _ h)⟩⟩
        · rw [tgName_ap, stM_v rfl f2]; rfl
        · simp [eV_ap, eC_ap, dr2O_ap, dr2_ap, dr2P_ap, eOp_ap, eOpK_ap, dr2B_ap, dr2BP_ap, dr2BO_ap, eTs_ap, eTsK_ap, dr1_ap, dr1P_ap, eUn_ap, drN_ap, drNP_ap, eCN_ap, lN_ap, lC_ap, lCK_ap, consR_ap, aN_ap, aC_ap, aCK_ap, consD_ap, frz_o, frz_m, frz_sf, frz_sm, gN_ap, gF_ap, gFK_ap, consG_ap, gB_ap, eCall_ap, callN_ap, callA_ap, callOut_ap, argE_bt, argE_bf, argE_fz, argE_nil, eTup_ap, eLst_ap, tupK_ap, lstK_ap, eDct_ap, eSl_ap, slK_ap, slK1_ap, slK2_ap, pN_ap, pI_ap, tTr_ap, tAn_ap, tO_ap, andK_t, andK_f, orK_t, orK_f, iT_ap, iV_ap, iterD_l, iterD_t, iR1_ap, sRet_ap, rtK_ap, sN_ap, sBk_ap, sIf_ap, ifK_t, ifK_f, sSet_ap, setK_o, stM_n, stM_f, stM_m, stM_o, sAsg_ap, sApp_apt, sApp_apf, appK_apt, appK_apf, sSt_ap, stK_ap, stKK_apt, stKK_apf, sFor_ap, eLc_ap, eMt_ap, mtK_ap, mtK1_ap, tgName_ap, tgTup_ap, tgCons_ap, tgThen_ap, tgNil_ap, seq_eq, bind_eq, thenO_ok, ret_eq, seqO_nx, seqO_rt, seqO_bk, rdL, rdO_o, rdO_s, hi, ha, stM_v, f3, f5, hp, hge, q2, hi2, hm, e2]) (xs.map .int) [some (.fz (.list (xs.map .int))), some (.mu false (.lst (([] : List Int).map .int))), none, none, none, none]
    ⟨[], none, none, none, none, rfl, (fun _ h => nomatch h), fr_n, fr_n, fr_n, fr_n, by simp; omega, fun d h => by obtain ⟨z, _, rfl⟩ := List.mem_map.mp h; exact ⟨z, rfl⟩⟩
  subst er
  have hl' : ns.length ≤ 60 * 63 := by have : ns.length + 60 * 0 ≤ 60 * 63 := hl; omega
  have s1 : hSl (.fz (.list (xs.map .int))) none (some 63) = some (.mu false (.lst (xs.map .int))) := by
    show some (O.mu false (.lst (cutL (xs.map .int) none (some ((63 : Nat) : Int))))) = _
    rw [cutL_to, List.take_of_length_le (by simpa using hx)]
  by_cases hn : ns = []
  · subst hn
    refine ⟨[0], ⟨by simp, by simp, by simp⟩, ?_⟩
    simp only [List.map_nil] at ef
    simp [g__law_stream, f__law_stream, defG_ap, okArg, defOut, resO, keepB, keepF, List.mapIdx, List.mapIdx.go, eV_ap, eC_ap, dr2O_ap, dr2_ap, dr2P_ap, eOp_ap, eOpK_ap, dr2B_ap, dr2BP_ap, dr2BO_ap, eTs_ap, eTsK_ap, dr1_ap, dr1P_ap, eUn_ap, drN_ap, drNP_ap, eCN_ap, lN_ap, lC_ap, lCK_ap, consR_ap, aN_ap, aC_ap, aCK_ap, consD_ap, frz_o, frz_m, frz_sf, frz_sm, gN_ap, gF_ap, gFK_ap, consG_ap, gB_ap, eCall_ap, callN_ap, callA_ap, callOut_ap, argE_bt, argE_bf, argE_fz, argE_nil, eTup_ap, eLst_ap, tupK_ap, lstK_ap, eDct_ap, eSl_ap, slK_ap, slK1_ap, slK2_ap, pN_ap, pI_ap, tTr_ap, tAn_ap, tO_ap, andK_t, andK_f, orK_t, orK_f, iT_ap, iV_ap, iterD_l, iterD_t, iR1_ap, sRet_ap, rtK_ap, sN_ap, sBk_ap, sIf_ap, ifK_t, ifK_f, sSet_ap, setK_o, stM_n, stM_f, stM_m, stM_o, sAsg_ap, sApp_apt, sApp_apf, appK_apt, appK_apf, sSt_ap, stK_ap, stKK_apt, stKK_apf, sFor_ap, eLc_ap, eMt_ap, mtK_ap, mtK1_ap, tgName_ap, tgTup_ap, tgCons_ap, tgThen_ap, tgNil_ap, seq_eq, bind_eq, thenO_ok, ret_eq, seqO_nx, seqO_rt, seqO_bk, rdL, rdO_o, rdO_s, Mu.view, s1, asInt_o, ef, hLen, hEq, O.view, flatD, PyData.eqv]
  · have hpos : 0 < ns.length := List.length_pos_iff.mpr hn
    refine ⟨ns, ⟨hn, hb, by omega⟩, ?_⟩
    simp only [List.map_nil] at ef
    have hz : ((ns.length : Int) == 0) = false := beq_eq_false_iff_ne.mpr (by omega)
    simp [g__law_stream, f__law_stream, defG_ap, okArg, defOut, resO, keepB, keepF, List.mapIdx, List.mapIdx.go, eV_ap, eC_ap, dr2O_ap, dr2_ap, dr2P_ap, eOp_ap, eOpK_ap, dr2B_ap, dr2BP_ap, dr2BO_ap, eTs_ap, eTsK_ap, dr1_ap, dr1P_ap, eUn_ap, drN_ap, drNP_ap, eCN_ap, lN_ap, lC_ap, lCK_ap, consR_ap, aN_ap, aC_ap, aCK_ap, consD_ap, frz_o, frz_m, frz_sf, frz_sm, gN_ap, gF_ap, gFK_ap, consG_ap, gB_ap, eCall_ap, callN_ap, callA_ap, callOut_ap, argE_bt, argE_bf, argE_fz, argE_nil, eTup_ap, eLst_ap, tupK_ap, lstK_ap, eDct_ap, eSl_ap, slK_ap, slK1_ap, slK2_ap, pN_ap, pI_ap, tTr_ap, tAn_ap, tO_ap, andK_t, andK_f, orK_t, orK_f, iT_ap, iV_ap, iterD_l, iterD_t, iR1_ap, sRet_ap, rtK_ap, sN_ap, sBk_ap, sIf_ap, ifK_t, ifK_f, sSet_ap, setK_o, stM_n, stM_f, stM_m, stM_o, sAsg_ap, sApp_apt, sApp_apf, appK_apt, appK_apf, sSt_ap, stK_ap, stKK_apt, stKK_apf, sFor_ap, eLc_ap, eMt_ap, mtK_ap, mtK1_ap, tgName_ap, tgTup_ap, tgCons_ap, tgThen_ap, tgNil_ap, seq_eq, bind_eq, thenO_ok, ret_eq, seqO_nx, seqO_rt, seqO_bk, rdL, rdO_o, rdO_s, Mu.view, s1, asInt_o, ef, hLen, hEq, O.view, flatD, PyData.eqv, hz]
end VsG

namespace VsG
open PySem PySem.Spec L2 Vs
theorem tAn_v {t u : M Bool} {ρ : Rho} {b k : Bool} (e : t ρ = some (.ok b ρ)) (e2 : u ρ = some (.ok k ρ)) : tAn t u ρ = some (.ok (b && k) ρ) := by
  rw [tAn_ap, e, thenO_ok]
  cases b
  · rfl
  · exact e2
theorem tO_v {t u : M Bool} {ρ : Rho} {b k : Bool} (e : t ρ = some (.ok b ρ)) (e2 : u ρ = some (.ok k ρ)) : tO t u ρ = some (.ok (b || k) ρ) := by
  rw [tO_ap, e, thenO_ok]
  cases b
  · exact e2
  · rfl
def cst : Nat → Nat
  | 0 => 0
  | n + 1 => 10 + 2 * cst n
def fitP (room pick a : Int) : Bool := decide (a < room) && (decide (0 < a) || (decide (room ≤ 1) || decide (pick % 4 < 2)))
abbrev tmR (ns : List Int) (c : Int) (ss : List (Str × Int)) (nm : List Str) (room : Int) (x4 x5 x6 x7 x8 x9 x10 : Option O) : Rho := [some (.mu true (stD ns c)), some (.fz (.tuple (sgD ss))), some (.fz (.list (nm.map .str))), some (.fz (.int room)), x4, x5, x6, x7, x8, x9, x10]
theorem fit_ok {ns : List Int} {c : Int} {ss : List (Str × Int)} {nm : List Str} {room : Int} {x4 x5 : Option O} {ft : M Bool} {p : Str × Int → Bool} (few : ss.length ≤ 100)
    (h : ∀ q ∈ ss, ft (tmR ns c ss nm room x4 x5 none none none none (some (.fz (.tuple [.str q.1, .int q.2])))) = some (.ok (p q) (tmR ns c ss nm room x4 x5 none none none none (some (.fz (.tuple [.str q.1, .int q.2])))))) :
    lcM [10] (tgName 10) ft ((eV 10).bind frz) (sgD ss) (tmR ns c ss nm room x4 x5 none none none none none) = some (.ok (.o (.mu false (.lst (sgD (ss.filter p))))) (tmR ns c ss nm room x4 x5 none none none none none)) := by
  have key := lcF_pure (vs := [10]) (h := tgName 10) (ft := ft) (fe := (eV 10).bind frz) (ρ := tmR ns c ss nm room x4 x5 none none none none none) (fun d => match d with | .tuple [.str w, .int a] => p (w, a) | _ => false) (fun d => d) (sgD ss) [] (fun d hd => by
    obtain ⟨q, hq, rfl⟩ := List.mem_map.mp hd
    refine ⟨tmR ns c ss nm room x4 x5 none none none none (some (.fz (.tuple [.str q.1, .int q.2]))), ?_, h q hq, fun _ => ?_, ?_, ?_⟩
    · simp [eV_ap, eC_ap, dr2O_ap, dr2_ap, dr2P_ap, eOp_ap, eOpK_ap, dr2B_ap, dr2BP_ap, dr2BO_ap, eTs_ap, eTsK_ap, dr1_ap, dr1P_ap, eUn_ap, drN_ap, drNP_ap, eCN_ap, lN_ap, lC_ap, lCK_ap, consR_ap, aN_ap, aC_ap, aCK_ap, consD_ap, frz_o, frz_m, frz_sf, frz_sm, gN_ap, gF_ap, gFK_ap, consG_ap, gB_ap, eCall_ap, callN_ap, callA_ap, callOut_ap, argE_bt, argE_bf, argE_fz, argE_nil, eTup_ap, eLst_ap, tupK_ap, lstK_ap, eDct_ap, eSl_ap, slK_ap, slK1_ap, slK2_ap, pN_ap, pI_ap, tTr_ap, tAn_ap, tO_ap, andK_t, andK_f, orK_t, orK_f, iT_ap, iV_ap, iterD_l, iterD_t, iR1_ap, sRet_ap, rtK_ap, sN_ap, sBk_ap, sIf_ap, ifK_t, ifK_f, sSet_ap, setK_o, stM_n, stM_f, stM_m, stM_o, sAsg_ap, sApp_apt, sApp_apf, appK_apt, appK_apf, sSt_ap, stK_ap, stKK_apt, stKK_apf, sFor_ap, eLc_ap, eMt_ap, mtK_ap, mtK1_ap, tgName_ap, tgTup_ap, tgCons_ap, tgThen_ap, tgNil_ap, seq_eq, bind_eq, thenO_ok, ret_eq, seqO_nx, seqO_rt, seqO_bk, rdL, rdO_o, rdO_s, O.view, Mu.view, muSet, muApp, hIx, ixD, hAdd, hLen, hI, hInt, hAbs, hCmp, hMax2, hTuple, hSl, hEq, hNe, flatD, PyData.eqv, tru_b, asInt_o, asInt_s, cutL_1, atI_0, atI_1, atI_2]
    · simp [eV_ap, eC_ap, dr2O_ap, dr2_ap, dr2P_ap, eOp_ap, eOpK_ap, dr2B_ap, dr2BP_ap, dr2BO_ap, eTs_ap, eTsK_ap, dr1_ap, dr1P_ap, eUn_ap, drN_ap, drNP_ap, eCN_ap, lN_ap, lC_ap, lCK_ap, consR_ap, aN_ap, aC_ap, aCK_ap, consD_ap, frz_o, frz_m, frz_sf, frz_sm, gN_ap, gF_ap, gFK_ap, consG_ap, gB_ap, eCall_ap, callN_ap, callA_ap, callOut_ap, argE_bt, argE_bf, argE_fz, argE_nil, eTup_ap, eLst_ap, tupK_ap, lstK_ap, eDct_ap, eSl_ap, slK_ap, slK1_ap, slK2_ap, pN_ap, pI_ap, tTr_ap, tAn_ap, tO_ap, andK_t, andK_f, orK_t, orK_f, iT_ap, iV_ap, iterD_l, iterD_t, iR1_ap, sRet_ap, rtK_ap, sN_ap, sBk_ap, sIf_ap, ifK_t, ifK_f, sSet_ap, setK_o, stM_n, stM_f, stM_m, stM_o, sAsg_ap, sApp_apt, sApp_apf, appK_apt, appK_apf, sSt_ap, stK_ap, stKK_apt, stKK_apf, sFor_ap, eLc_ap, eMt_ap, mtK_ap, mtK1_ap, tgName_ap, tgTup_ap, tgCons_ap, tgThen_ap, tgNil_ap, seq_eq, bind_eq, thenO_ok, ret_eq, seqO_nx, seqO_rt, seqO_bk, rdL, rdO_o, rdO_s, O.view, Mu.view, muSet, muApp, hIx, ixD, hAdd, hLen, hI, hInt, hAbs, hCmp, hMax2, hTuple, hSl, hEq, hNe, flatD, PyData.eqv, tru_b, asInt_o, asInt_s, cutL_1, atI_0, atI_1, atI_2]
    · simp [freeV]
    · simp [wipeR, List.mapIdx, List.mapIdx.go]) (by simp; omega)
  have e : ([] ++ (List.filter (fun d => match d with | .tuple [.str w, .int a] => p (w, a) | _ => false) (sgD ss)).map fun d => d) = sgD (ss.filter p) := by
    rw [List.nil_append, List.map_id', List.filter_map]
    congr 1
  rw [e] at key
  rw [lcM_ap (by simp [freeV]) (by simpa [wipeR, List.mapIdx, List.mapIdx.go] using key)]
  simp [backR, List.mapIdx, List.mapIdx.go]
abbrev tmE (self : M O) : M Fl := (sSeq (sAsg (eOp hIx (eV 5) (eCall (g__law_next) 2 (gB 0 (gF (eCN hLen (lC (eV 5) lN)) gN)))) (tgTup 2 (tgCons (tgName 6) (tgCons (tgName 7) tgNil))))
    (sSeq (sIf (eTs hEq (eV 7) (eC (.int 0))) (sRet (eTup (aC (eV 6) aN))) sN)
    (sSeq (sIf (eTs hEq (eV 7) (eC (.int 1))) (sRet (eTup (aC (eV 6) (aC (eCall self 4 (gB 0 (gF (eV 1) (gF (eV 2) (gF (eOp (hI (fun _ _ => true) fun i j => i - j) (eV 3) (eC (.int 1))) gN))))) aN)))) sN)
    (sSeq (sSet 8 (eOp hAdd (eC (.int 1)) (eCall (g__law_next) 2 (gB 0 (gF (eCN hMax2 (lC (eC (.int 1)) (lC (eOp (hI (fun _ _ => true) fun i j => i - j) (eV 3) (eC (.int 2))) lN))) gN)))))
    (sSeq (sSet 9 (eCall self 4 (gB 0 (gF (eV 1) (gF (eV 2) (gF (eV 8) gN))))))
    (sRet (eTup (aC (eV 6) (aC (eV 9) (aC (eCall self 4 (gB 0 (gF (eV 1) (gF (eV 2) (gF (eCN hMax2 (lC (eC (.int 1)) (lC (eOp (hI (fun _ _ => true) fun i j => i - j) (eOp (hI (fun _ _ => true) fun i j => i - j) (eV 3) (eC (.int 1))) (eV 8)) lN))) gN))))) aN)))))))))) 
theorem tmE_ok {ns : List Int} {ss fit : List (Str × Int)} {nm : List Str} {n : Nat} {room c : Int} {self : M O} {x4 : Option O} (G : Good ns) (S : Sgn ss) (few : ss.length ≤ 100) (hf : fit ≠ []) (hfew : fit.length ≤ 100) (hfit : ∀ q ∈ fit, q ∈ ss ∧ q.2 < room) (h0 : 0 ≤ c) (h1 : c + 8 + 2 * cst n < 2 ^ 200) (hr : room ≤ n + 1)
    (ih : ∀ (room c : Int), 1 ≤ room → room ≤ n → 0 ≤ c → c + cst n < 2 ^ 200 → ∃ d c', Tm ss nm n d ∧ c ≤ c' ∧ c' ≤ c + cst n ∧ self [some (.mu true (stD ns c)), some (.fz (.tuple (sgD ss))), some (.fz (.list (nm.map .str))), some (.fz (.int room))] = some (.ok (.fz d) [some (.mu true (stD ns c')), some (.fz (.tuple (sgD ss))), some (.fz (.list (nm.map .str))), some (.fz (.int room))])) :
    ∃ d c' ρ', Tm ss nm (n + 1) d ∧ c ≤ c' ∧ c' ≤ c + 8 + 2 * cst n ∧ tmE self (tmR ns c ss nm room x4 (some (.mu false (.lst (sgD fit)))) none none none none none) = some (.ok (.rt (.o (.fz d))) ρ') ∧ ρ'[0]? = some (some (.mu true (stD ns c'))) := by
  have hpos : 0 < fit.length := List.length_pos_iff.mpr hf
  obtain ⟨r, r0, r1, e1⟩ := next_ok (c := c) (m := (fit.length : Int)) G h0 (by omega) (by omega)
  generalize hm : (fit.length : Int) = m at e1 r1
  have hlen : hLen [.mu false (.lst (sgD fit))] = some (.fz (.int m)) := by
    rw [← hm]
    show some (O.fz (.int ((sgD fit).length : Int))) = _
    rw [List.length_map]
  obtain ⟨x, ex, hx⟩ := atI_lt (xs := sgD fit) (i := r) r0 (by rw [List.length_map, hm]; exact r1)
  obtain ⟨⟨w, a⟩, hq, rfl⟩ := List.mem_map.mp hx
  obtain ⟨hss, har⟩ := hfit _ hq
  obtain ⟨a0, a2⟩ := S.ar _ hss
  simp only at har a0 a2
  have hix : hIx (.mu false (.lst (sgD fit))) (.fz (.int r)) = some (.fz (.tuple [.str w, .int a])) := by
    show (atI (sgD fit) r).map O.fz = _
    rw [ex]; rfl
  have e0 : sAsg (eOp hIx (eV 5) (eCall (g__law_next) 2 (gB 0 (gF (eCN hLen (lC (eV 5) lN)) gN)))) (tgTup 2 (tgCons (tgName 6) (tgCons (tgName 7) tgNil))) (tmR ns c ss nm room x4 (some (.mu false (.lst (sgD fit)))) none none none none none)
      = some (.ok .nx (tmR ns (c + 1) ss nm room x4 (some (.mu false (.lst (sgD fit)))) (some (.fz (.str w))) (some (.fz (.int a))) none none none)) := by
    simp [eV_ap, eC_ap, dr2O_ap, dr2_ap, dr2P_ap, eOp_ap, eOpK_ap, dr2B_ap, dr2BP_ap, dr2BO_ap, eTs_ap, eTsK_ap, dr1_ap, dr1P_ap, eUn_ap, drN_ap, drNP_ap, eCN_ap, lN_ap, lC_ap, lCK_ap, consR_ap, aN_ap, aC_ap, aCK_ap, consD_ap, frz_o, frz_m, frz_sf, frz_sm, gN_ap, gF_ap, gFK_ap, consG_ap, gB_ap, eCall_ap, callN_ap, callA_ap, callOut_ap, argE_bt, argE_bf, argE_fz, argE_nil, eTup_ap, eLst_ap, tupK_ap, lstK_ap, eDct_ap, eSl_ap, slK_ap, slK1_ap, slK2_ap, pN_ap, pI_ap, tTr_ap, tAn_ap, tO_ap, andK_t, andK_f, orK_t, orK_f, iT_ap, iV_ap, iterD_l, iterD_t, iR1_ap, sRet_ap, rtK_ap, sN_ap, sBk_ap, sIf_ap, ifK_t, ifK_f, sSet_ap, setK_o, stM_n, stM_f, stM_m, stM_o, sAsg_ap, sApp_apt, sApp_apf, appK_apt, appK_apf, sSt_ap, stK_ap, stKK_apt, stKK_apf, sFor_ap, eLc_ap, eMt_ap, mtK_ap, mtK1_ap, tgName_ap, tgTup_ap, tgCons_ap, tgThen_ap, tgNil_ap, seq_eq, bind_eq, thenO_ok, ret_eq, seqO_nx, seqO_rt, seqO_bk, rdL, rdO_o, rdO_s, callBO_t, brOk_n, brOk_f, brOk_b, brAt_n, brAt_f, brAt_b, back, backF, List.mapIdx, List.mapIdx.go, hlen, e1, hix]
  have : a = 0 ∨ a = 1 ∨ a = 2 := by omega
  rcases this with rfl | rfl | rfl
  · refine ⟨.tuple [.str w], c + 1, tmR ns (c + 1) ss nm room x4 (some (.mu false (.lst (sgD fit)))) (some (.fz (.str w))) (some (.fz (.int 0))) none none none, .node hss rfl (fun _ h => nomatch h), by omega, by omega, ?_, rfl⟩
    unfold tmE
    rw [seq_eq, e0, seqO_nx]
    simp [eV_ap, eC_ap, dr2O_ap, dr2_ap, dr2P_ap, eOp_ap, eOpK_ap, dr2B_ap, dr2BP_ap, dr2BO_ap, eTs_ap, eTsK_ap, dr1_ap, dr1P_ap, eUn_ap, drN_ap, drNP_ap, eCN_ap, lN_ap, lC_ap, lCK_ap, consR_ap, aN_ap, aC_ap, aCK_ap, consD_ap, frz_o, frz_m, frz_sf, frz_sm, gN_ap, gF_ap, gFK_ap, consG_ap, gB_ap, eCall_ap, callN_ap, callA_ap, callOut_ap, argE_bt, argE_bf, argE_fz, argE_nil, eTup_ap, eLst_ap, tupK_ap, lstK_ap, eDct_ap, eSl_ap, slK_ap, slK1_ap, slK2_ap, pN_ap, pI_ap, tTr_ap, tAn_ap, tO_ap, andK_t, andK_f, orK_t, orK_f, iT_ap, iV_ap, iterD_l, iterD_t, iR1_ap, sRet_ap, rtK_ap, sN_ap, sBk_ap, sIf_ap, ifK_t, ifK_f, sSet_ap, setK_o, stM_n, stM_f, stM_m, stM_o, sAsg_ap, sApp_apt, sApp_apf, appK_apt, appK_apf, sSt_ap, stK_ap, stKK_apt, stKK_apf, sFor_ap, eLc_ap, eMt_ap, mtK_ap, mtK1_ap, tgName_ap, tgTup_ap, tgCons_ap, tgThen_ap, tgNil_ap, seq_eq, bind_eq, thenO_ok, ret_eq, seqO_nx, seqO_rt, seqO_bk, rdL, rdO_o, rdO_s, O.view, Mu.view, muSet, muApp, hIx, ixD, hAdd, hLen, hI, hInt, hAbs, hCmp, hMax2, hTuple, hSl, hEq, hNe, flatD, PyData.eqv, tru_b, asInt_o, asInt_s, cutL_1, atI_0, atI_1, atI_2]
  · obtain ⟨d, c', ht, k0, k1, es⟩ := ih (room - 1) (c + 1) (by omega) (by omega) (by omega) (by omega)
    refine ⟨.tuple [.str w, d], c', tmR ns c' ss nm room x4 (some (.mu false (.lst (sgD fit)))) (some (.fz (.str w))) (some (.fz (.int 1))) none none none, .node hss rfl (fun y h => by rw [List.mem_singleton.mp h]; exact ht), by omega, by omega, ?_, rfl⟩
    unfold tmE
    rw [seq_eq, e0, seqO_nx]
    simp [eV_ap, eC_ap, dr2O_ap, dr2_ap, dr2P_ap, eOp_ap, eOpK_ap, dr2B_ap, dr2BP_ap, dr2BO_ap, eTs_ap, eTsK_ap, dr1_ap, dr1P_ap, eUn_ap, drN_ap, drNP_ap, eCN_ap, lN_ap, lC_ap, lCK_ap, consR_ap, aN_ap, aC_ap, aCK_ap, consD_ap, frz_o, frz_m, frz_sf, frz_sm, gN_ap, gF_ap, gFK_ap, consG_ap, gB_ap, eCall_ap, callN_ap, callA_ap, callOut_ap, argE_bt, argE_bf, argE_fz, argE_nil, eTup_ap, eLst_ap, tupK_ap, lstK_ap, eDct_ap, eSl_ap, slK_ap, slK1_ap, slK2_ap, pN_ap, pI_ap, tTr_ap, tAn_ap, tO_ap, andK_t, andK_f, orK_t, orK_f, iT_ap, iV_ap, iterD_l, iterD_t, iR1_ap, sRet_ap, rtK_ap, sN_ap, sBk_ap, sIf_ap, ifK_t, ifK_f, sSet_ap, setK_o, stM_n, stM_f, stM_m, stM_o, sAsg_ap, sApp_apt, sApp_apf, appK_apt, appK_apf, sSt_ap, stK_ap, stKK_apt, stKK_apf, sFor_ap, eLc_ap, eMt_ap, mtK_ap, mtK1_ap, tgName_ap, tgTup_ap, tgCons_ap, tgThen_ap, tgNil_ap, seq_eq, bind_eq, thenO_ok, ret_eq, seqO_nx, seqO_rt, seqO_bk, rdL, rdO_o, rdO_s, O.view, Mu.view, muSet, muApp, hIx, ixD, hAdd, hLen, hI, hInt, hAbs, hCmp, hMax2, hTuple, hSl, hEq, hNe, flatD, PyData.eqv, tru_b, asInt_o, asInt_s, cutL_1, atI_0, atI_1, atI_2, callBO_t, brOk_n, brOk_f, brOk_b, brAt_n, brAt_f, brAt_b, back, backF, List.mapIdx, List.mapIdx.go, es]
  · obtain ⟨l, l0, l1, e2⟩ := next_ok (c := c + 1) (m := room - 2) G (by omega) (by omega) (by omega)
    obtain ⟨d, c', ht, k0, k1, es⟩ := ih (1 + l) (c + 2) (by omega) (by omega) (by omega) (by omega)
    have hc : c + 1 + 1 = c + 2 := by omega
    rw [hc] at e2
    have hmx : hMax2 [.fz (.int 1), .fz (.int (room - 2))] = some (.fz (.int (room - 2))) := by
      show some (O.fz (.int (if room - 2 > 1 then room - 2 else 1))) = _
      by_cases h : room - 2 > 1
      · rw [if_pos h]
      · rw [if_neg h, show room - 2 = 1 by omega]
    obtain ⟨mx, hmx2, mx1, mx2⟩ : ∃ mx : Int, hMax2 [.fz (.int 1), .fz (.int (room - 1 - (1 + l)))] = some (.fz (.int mx)) ∧ 1 ≤ mx ∧ mx ≤ n := by
      refine ⟨if room - 1 - (1 + l) > 1 then room - 1 - (1 + l) else 1, rfl, ?_, ?_⟩ <;> split <;> omega
    obtain ⟨d2, c2, ht2, k2, k3, es2⟩ := ih mx c' (by omega) (by omega) (by omega) (by omega)
    have hs2 : hI (fun _ _ => true) (fun i j => i - j) (.fz (.int room)) (.fz (.int 2)) = some (.fz (.int (room - 2))) := rfl
    have hs1 : hI (fun _ _ => true) (fun i j => i - j) (.fz (.int room)) (.fz (.int 1)) = some (.fz (.int (room - 1))) := rfl
    have hs3 : hI (fun _ _ => true) (fun i j => i - j) (.fz (.int (room - 1))) (.fz (.int (1 + l))) = some (.fz (.int (room - 1 - (1 + l)))) := rfl
    have ha : hAdd (.fz (.int 1)) (.fz (.int l)) = some (.fz (.int (1 + l))) := rfl
    have q0 : hEq (.fz (.int 2)) (.fz (.int 0)) = some (.fz (.bool false)) := rfl
    have q1 : hEq (.fz (.int 2)) (.fz (.int 1)) = some (.fz (.bool false)) := rfl
    refine ⟨.tuple [.str w, d, d2], c2, tmR ns c2 ss nm room x4 (some (.mu false (.lst (sgD fit)))) (some (.fz (.str w))) (some (.fz (.int 2))) (some (.fz (.int (1 + l)))) (some (.fz d)) none, .node hss rfl (fun y h => ?_), by omega, by omega, ?_, rfl⟩
    · rcases List.mem_cons.mp h with h | h
      · rw [h]; exact ht
      · rw [List.mem_singleton.mp h]; exact ht2
    · unfold tmE
      rw [seq_eq, e0, seqO_nx]
      simp [eV_ap, eC_ap, dr2O_ap, dr2_ap, dr2P_ap, eOp_ap, eOpK_ap, dr2B_ap, dr2BP_ap, dr2BO_ap, eTs_ap, eTsK_ap, dr1_ap, dr1P_ap, eUn_ap, drN_ap, drNP_ap, eCN_ap, lN_ap, lC_ap, lCK_ap, consR_ap, aN_ap, aC_ap, aCK_ap, consD_ap, frz_o, frz_m, frz_sf, frz_sm, gN_ap, gF_ap, gFK_ap, consG_ap, gB_ap, eCall_ap, callN_ap, callA_ap, callOut_ap, argE_bt, argE_bf, argE_fz, argE_nil, eTup_ap, eLst_ap, tupK_ap, lstK_ap, eDct_ap, eSl_ap, slK_ap, slK1_ap, slK2_ap, pN_ap, pI_ap, tTr_ap, tAn_ap, tO_ap, andK_t, andK_f, orK_t, orK_f, iT_ap, iV_ap, iterD_l, iterD_t, iR1_ap, sRet_ap, rtK_ap, sN_ap, sBk_ap, sIf_ap, ifK_t, ifK_f, sSet_ap, setK_o, stM_n, stM_f, stM_m, stM_o, sAsg_ap, sApp_apt, sApp_apf, appK_apt, appK_apf, sSt_ap, stK_ap, stKK_apt, stKK_apf, sFor_ap, eLc_ap, eMt_ap, mtK_ap, mtK1_ap, tgName_ap, tgTup_ap, tgCons_ap, tgThen_ap, tgNil_ap, seq_eq, bind_eq, thenO_ok, ret_eq, seqO_nx, seqO_rt, seqO_bk, rdL, rdO_o, rdO_s, callBO_t, brOk_n, brOk_f, brOk_b, brAt_n, brAt_f, brAt_b, back, backF, List.mapIdx, List.mapIdx.go, hmx, e2, es, hmx2, es2, hs1, hs2, hs3, ha, q0, q1]
end VsG

namespace VsG
open PySem PySem.Spec L2 Vs
abbrev tT1 : M Bool := (tAn (eTs hGt (eCN hLen (lC (eV 2) lN)) (eC (.int 0))) (tAn (tO (eTs hLe (eV 3) (eC (.int 1))) (eTs hEq (eOp (hI cMod fun i j => i % j) (eV 4) (eC (.int 4))) (eC (.int 0)))) (eTs hGt (eOp (hI cMod fun i j => i % j) (eOp (hI cDiv fun i j => i / j) (eV 4) (eC (.int 4))) (eC (.int 5))) (eC (.int 0)))))
abbrev tT2 : M Bool := (tAn (eTs hLt (eOp hIx (eV 10) (eC (.int 1))) (eV 3)) (tO (eTs hGt (eOp hIx (eV 10) (eC (.int 1))) (eC (.int 0))) (tO (eTs hLe (eV 3) (eC (.int 1))) (eTs hLt (eOp (hI cMod fun i j => i % j) (eV 4) (eC (.int 4))) (eC (.int 2))))))
abbrev tT3 : M Bool := (eTs hEq (eOp hIx (eV 10) (eC (.int 1))) (eC (.int 0)))
theorem hI_ap {k : Int → Int → Bool} {g : Int → Int → Int} {i j : Int} (h : k i j = true) : hI k g (.fz (.int i)) (.fz (.int j)) = some (.fz (.int (g i j))) := by
  show (if k i j = true then some (O.fz (.int (g i j))) else none) = _
  rw [if_pos h]
theorem term_ok {ns : List Int} {ss : List (Str × Int)} {nm : List Str} (G : Good ns) (S : Sgn ss) (few : ss.length ≤ 100) (hnm : nm.length ≤ 100) : ∀ (n : Nat) (room c : Int), 1 ≤ room → room ≤ n → 0 ≤ c → c + cst n < 2 ^ 200 →
    ∃ d c', Tm ss nm n d ∧ c ≤ c' ∧ c' ≤ c + cst n ∧ g__law_term n [some (.mu true (stD ns c)), some (.fz (.tuple (sgD ss))), some (.fz (.list (nm.map .str))), some (.fz (.int room))] = some (.ok (.fz d) [some (.mu true (stD ns c')), some (.fz (.tuple (sgD ss))), some (.fz (.list (nm.map .str))), some (.fz (.int room))])
  | 0, room, c, h1, h2, _, _ => by omega
  | n + 1, room, c, h1, h2, h0, hc => by
    have hK : cst (n + 1) = 10 + 2 * cst n := rfl
    obtain ⟨pick, p0, p1, e1⟩ := next_ok (c := c) (m := 60) G h0 (by omega) (by decide)
    have m4 : ∀ x, cMod x 4 = true := fun x => by unfold cMod; exact decide_eq_true (by decide)
    have m5 : ∀ x, cMod x 5 = true := fun x => by unfold cMod; exact decide_eq_true (by decide)
    have d4 : ∀ x, cDiv x 4 = true := fun x => by unfold cDiv; exact decide_eq_true (by decide)
    have d20 : ∀ x, cDiv x 20 = true := fun x => by unfold cDiv; exact decide_eq_true (by decide)
    have s1 : sSet 4 (eCall (g__law_next) 2 (gB 0 (gF (eC (.int 60)) gN))) (tmR ns c ss nm room none none none none none none none) = some (.ok .nx (tmR ns (c + 1) ss nm room (some (.fz (.int pick))) none none none none none none)) := by
      simp [eV_ap, eC_ap, dr2O_ap, dr2_ap, dr2P_ap, eOp_ap, eOpK_ap, dr2B_ap, dr2BP_ap, dr2BO_ap, eTs_ap, eTsK_ap, dr1_ap, dr1P_ap, eUn_ap, drN_ap, drNP_ap, eCN_ap, lN_ap, lC_ap, lCK_ap, consR_ap, aN_ap, aC_ap, aCK_ap, consD_ap, frz_o, frz_m, frz_sf, frz_sm, gN_ap, gF_ap, gFK_ap, consG_ap, gB_ap, eCall_ap, callN_ap, callA_ap, callOut_ap, argE_bt, argE_bf, argE_fz, argE_nil, eTup_ap, eLst_ap, tupK_ap, lstK_ap, eDct_ap, eSl_ap, slK_ap, slK1_ap, slK2_ap, pN_ap, pI_ap, tTr_ap, tAn_ap, tO_ap, andK_t, andK_f, orK_t, orK_f, iT_ap, iV_ap, iterD_l, iterD_t, iR1_ap, sRet_ap, rtK_ap, sN_ap, sBk_ap, sIf_ap, ifK_t, ifK_f, sSet_ap, setK_o, stM_n, stM_f, stM_m, stM_o, sAsg_ap, sApp_apt, sApp_apf, appK_apt, appK_apf, sSt_ap, stK_ap, stKK_apt, stKK_apf, sFor_ap, eLc_ap, eMt_ap, mtK_ap, mtK1_ap, tgName_ap, tgTup_ap, tgCons_ap, tgThen_ap, tgNil_ap, seq_eq, bind_eq, thenO_ok, ret_eq, seqO_nx, seqO_rt, seqO_bk, rdL, rdO_o, rdO_s, callBO_t, brOk_n, brOk_f, brOk_b, brAt_n, brAt_f, brAt_b, back, backF, List.mapIdx, List.mapIdx.go, e1]
    -- the first test
    have hl : hLen [.fz (.list (nm.map .str))] = some (.fz (.int (nm.length : Int))) := by
      show some (O.fz (.int ((nm.map PyData.str).length : Int))) = _
      rw [List.length_map]
    generalize hL : (nm.length : Int) = L at hl
    have t1 : tT1 (tmR ns (c + 1) ss nm room (some (.fz (.int pick))) none none none none none none) = some (.ok (decide (0 < L) && ((decide (room ≤ 1) || (pick % 4 == 0)) && decide (0 < pick / 4 % 5))) (tmR ns (c + 1) ss nm room (some (.fz (.int pick))) none none none none none none)) := by
      refine tAn_v ?_ (tAn_v (tO_v ?_ ?_) ?_)
      · simp only [eTs_ap, eTsK_ap, eCN_ap, lC_ap, lCK_ap, lN_ap, thenO_ok, consR_ap, drN_ap, rdL, rdO_s, eC_ap]
        rw [eV_ap (o := .fz (.list (nm.map .str))) rfl]
        simp only [thenO_ok, lCK_ap, lN_ap, consR_ap, drN_ap, rdL, rdO_s]
        show thenO (drNP hLen _ (some [O.fz (.list (nm.map .str))])) _ = _
        rw [drNP_ap, hl, dr2O_ap, thenO_ok]
        rfl
      · simp [eV_ap, eC_ap, dr2O_ap, dr2_ap, dr2P_ap, eOp_ap, eOpK_ap, dr2B_ap, dr2BP_ap, dr2BO_ap, eTs_ap, eTsK_ap, dr1_ap, dr1P_ap, eUn_ap, drN_ap, drNP_ap, eCN_ap, lN_ap, lC_ap, lCK_ap, consR_ap, aN_ap, aC_ap, aCK_ap, consD_ap, frz_o, frz_m, frz_sf, frz_sm, gN_ap, gF_ap, gFK_ap, consG_ap, gB_ap, eCall_ap, callN_ap, callA_ap, callOut_ap, argE_bt, argE_bf, argE_fz, argE_nil, eTup_ap, eLst_ap, tupK_ap, lstK_ap, eDct_ap, eSl_ap, slK_ap, slK1_ap, slK2_ap, pN_ap, pI_ap, tTr_ap, tAn_ap, tO_ap, andK_t, andK_f, orK_t, orK_f, iT_ap, iV_ap, iterD_l, iterD_t, iR1_ap, sRet_ap, rtK_ap, sN_ap, sBk_ap, sIf_ap, ifK_t, ifK_f, sSet_ap, setK_o, stM_n, stM_f, stM_m, stM_o, sAsg_ap, sApp_apt, sApp_apf, appK_apt, appK_apf, sSt_ap, stK_ap, stKK_apt, stKK_apf, sFor_ap, eLc_ap, eMt_ap, mtK_ap, mtK1_ap, tgName_ap, tgTup_ap, tgCons_ap, tgThen_ap, tgNil_ap, seq_eq, bind_eq, thenO_ok, ret_eq, seqO_nx, seqO_rt, seqO_bk, rdL, rdO_o, rdO_s]; rfl
      · simp [eV_ap, eC_ap, dr2O_ap, dr2_ap, dr2P_ap, eOp_ap, eOpK_ap, dr2B_ap, dr2BP_ap, dr2BO_ap, eTs_ap, eTsK_ap, dr1_ap, dr1P_ap, eUn_ap, drN_ap, drNP_ap, eCN_ap, lN_ap, lC_ap, lCK_ap, consR_ap, aN_ap, aC_ap, aCK_ap, consD_ap, frz_o, frz_m, frz_sf, frz_sm, gN_ap, gF_ap, gFK_ap, consG_ap, gB_ap, eCall_ap, callN_ap, callA_ap, callOut_ap, argE_bt, argE_bf, argE_fz, argE_nil, eTup_ap, eLst_ap, tupK_ap, lstK_ap, eDct_ap, eSl_ap, slK_ap, slK1_ap, slK2_ap, pN_ap, pI_ap, tTr_ap, tAn_ap, tO_ap, andK_t, andK_f, orK_t, orK_f, iT_ap, iV_ap, iterD_l, iterD_t, iR1_ap, sRet_ap, rtK_ap, sN_ap, sBk_ap, sIf_ap, ifK_t, ifK_f, sSet_ap, setK_o, stM_n, stM_f, stM_m, stM_o, sAsg_ap, sApp_apt, sApp_apf, appK_apt, appK_apf, sSt_ap, stK_ap, stKK_apt, stKK_apf, sFor_ap, eLc_ap, eMt_ap, mtK_ap, mtK1_ap, tgName_ap, tgTup_ap, tgCons_ap, tgThen_ap, tgNil_ap, seq_eq, bind_eq, thenO_ok, ret_eq, seqO_nx, seqO_rt, seqO_bk, rdL, rdO_o, rdO_s, hI, O.view, m4, hEq, flatD, PyData.eqv]
      · simp [eV_ap, eC_ap, dr2O_ap, dr2_ap, dr2P_ap, eOp_ap, eOpK_ap, dr2B_ap, dr2BP_ap, dr2BO_ap, eTs_ap, eTsK_ap, dr1_ap, dr1P_ap, eUn_ap, drN_ap, drNP_ap, eCN_ap, lN_ap, lC_ap, lCK_ap, consR_ap, aN_ap, aC_ap, aCK_ap, consD_ap, frz_o, frz_m, frz_sf, frz_sm, gN_ap, gF_ap, gFK_ap, consG_ap, gB_ap, eCall_ap, callN_ap, callA_ap, callOut_ap, argE_bt, argE_bf, argE_fz, argE_nil, eTup_ap, eLst_ap, tupK_ap, lstK_ap, eDct_ap, eSl_ap, slK_ap, slK1_ap, slK2_ap, pN_ap, pI_ap, tTr_ap, tAn_ap, tO_ap, andK_t, andK_f, orK_t, orK_f, iT_ap, iV_ap, iterD_l, iterD_t, iR1_ap, sRet_ap, rtK_ap, sN_ap, sBk_ap, sIf_ap, ifK_t, ifK_f, sSet_ap, setK_o, stM_n, stM_f, stM_m, stM_o, sAsg_ap, sApp_apt, sApp_apf, appK_apt, appK_apf, sSt_ap, stK_ap, stKK_apt, stKK_apf, sFor_ap, eLc_ap, eMt_ap, mtK_ap, mtK1_ap, tgName_ap, tgTup_ap, tgCons_ap, tgThen_ap, tgNil_ap, seq_eq, bind_eq, thenO_ok, ret_eq, seqO_nx, seqO_rt, seqO_bk, rdL, rdO_o, rdO_s, hI, O.view, m5, d4]; rfl
    -- the tests of signs
    have t2 : ∀ q ∈ ss, tT2 (tmR ns (c + 1) ss nm room (some (.fz (.int pick))) none none none none none (some (.fz (.tuple [.str q.1, .int q.2])))) = some (.ok (fitP room pick q.2) (tmR ns (c + 1) ss nm room (some (.fz (.int pick))) none none none none none (some (.fz (.tuple [.str q.1, .int q.2]))))) := by
      intro q _
      refine tAn_v ?_ (tO_v ?_ (tO_v ?_ ?_))
      · simp [eV_ap, eC_ap, dr2O_ap, dr2_ap, dr2P_ap, eOp_ap, eOpK_ap, dr2B_ap, dr2BP_ap, dr2BO_ap, eTs_ap, eTsK_ap, dr1_ap, dr1P_ap, eUn_ap, drN_ap, drNP_ap, eCN_ap, lN_ap, lC_ap, lCK_ap, consR_ap, aN_ap, aC_ap, aCK_ap, consD_ap, frz_o, frz_m, frz_sf, frz_sm, gN_ap, gF_ap, gFK_ap, consG_ap, gB_ap, eCall_ap, callN_ap, callA_ap, callOut_ap, argE_bt, argE_bf, argE_fz, argE_nil, eTup_ap, eLst_ap, tupK_ap, lstK_ap, eDct_ap, eSl_ap, slK_ap, slK1_ap, slK2_ap, pN_ap, pI_ap, tTr_ap, tAn_ap, tO_ap, andK_t, andK_f, orK_t, orK_f, iT_ap, iV_ap, iterD_l, iterD_t, iR1_ap, sRet_ap, rtK_ap, sN_ap, sBk_ap, sIf_ap, ifK_t, ifK_f, sSet_ap, setK_o, stM_n, stM_f, stM_m, stM_o, sAsg_ap, sApp_apt, sApp_apf, appK_apt, appK_apf, sSt_ap, stK_ap, stKK_apt, stKK_apf, sFor_ap, eLc_ap, eMt_ap, mtK_ap, mtK1_ap, tgName_ap, tgTup_ap, tgCons_ap, tgThen_ap, tgNil_ap, seq_eq, bind_eq, thenO_ok, ret_eq, seqO_nx, seqO_rt, seqO_bk, rdL, rdO_o, rdO_s, hIx, ixD, O.view, atI_1]; rfl
      · simp [eV_ap, eC_ap, dr2O_ap, dr2_ap, dr2P_ap, eOp_ap, eOpK_ap, dr2B_ap, dr2BP_ap, dr2BO_ap, eTs_ap, eTsK_ap, dr1_ap, dr1P_ap, eUn_ap, drN_ap, drNP_ap, eCN_ap, lN_ap, lC_ap, lCK_ap, consR_ap, aN_ap, aC_ap, aCK_ap, consD_ap, frz_o, frz_m, frz_sf, frz_sm, gN_ap, gF_ap, gFK_ap, consG_ap, gB_ap, eCall_ap, callN_ap, callA_ap, callOut_ap, argE_bt, argE_bf, argE_fz, argE_nil, eTup_ap, eLst_ap, tupK_ap, lstK_ap, eDct_ap, eSl_ap, slK_ap, slK1_ap, slK2_ap, pN_ap, pI_ap, tTr_ap, tAn_ap, tO_ap, andK_t, andK_f, orK_t, orK_f, iT_ap, iV_ap, iterD_l, iterD_t, iR1_ap, sRet_ap, rtK_ap, sN_ap, sBk_ap, sIf_ap, ifK_t, ifK_f, sSet_ap, setK_o, stM_n, stM_f, stM_m, stM_o, sAsg_ap, sApp_apt, sApp_apf, appK_apt, appK_apf, sSt_ap, stK_ap, stKK_apt, stKK_apf, sFor_ap, eLc_ap, eMt_ap, mtK_ap, mtK1_ap, tgName_ap, tgTup_ap, tgCons_ap, tgThen_ap, tgNil_ap, seq_eq, bind_eq, thenO_ok, ret_eq, seqO_nx, seqO_rt, seqO_bk, rdL, rdO_o, rdO_s, hIx, ixD, O.view, atI_1]; rfl
      · simp [eV_ap, eC_ap, dr2O_ap, dr2_ap, dr2P_ap, eOp_ap, eOpK_ap, dr2B_ap, dr2BP_ap, dr2BO_ap, eTs_ap, eTsK_ap, dr1_ap, dr1P_ap, eUn_ap, drN_ap, drNP_ap, eCN_ap, lN_ap, lC_ap, lCK_ap, consR_ap, aN_ap, aC_ap, aCK_ap, consD_ap, frz_o, frz_m, frz_sf, frz_sm, gN_ap, gF_ap, gFK_ap, consG_ap, gB_ap, eCall_ap, callN_ap, callA_ap, callOut_ap, argE_bt, argE_bf, argE_fz, argE_nil, eTup_ap, eLst_ap, tupK_ap, lstK_ap, eDct_ap, eSl_ap, slK_ap, slK1_ap, slK2_ap, pN_ap, pI_ap, tTr_ap, tAn_ap, tO_ap, andK_t, andK_f, orK_t, orK_f, iT_ap, iV_ap, iterD_l, iterD_t, iR1_ap, sRet_ap, rtK_ap, sN_ap, sBk_ap, sIf_ap, ifK_t, ifK_f, sSet_ap, setK_o, stM_n, stM_f, stM_m, stM_o, sAsg_ap, sApp_apt, sApp_apf, appK_apt, appK_apf, sSt_ap, stK_ap, stKK_apt, stKK_apf, sFor_ap, eLc_ap, eMt_ap, mtK_ap, mtK1_ap, tgName_ap, tgTup_ap, tgCons_ap, tgThen_ap, tgNil_ap, seq_eq, bind_eq, thenO_ok, ret_eq, seqO_nx, seqO_rt, seqO_bk, rdL, rdO_o, rdO_s]; rfl
      · simp [eV_ap, eC_ap, dr2O_ap, dr2_ap, dr2P_ap, eOp_ap, eOpK_ap, dr2B_ap, dr2BP_ap, dr2BO_ap, eTs_ap, eTsK_ap, dr1_ap, dr1P_ap, eUn_ap, drN_ap, drNP_ap, eCN_ap, lN_ap, lC_ap, lCK_ap, consR_ap, aN_ap, aC_ap, aCK_ap, consD_ap, frz_o, frz_m, frz_sf, frz_sm, gN_ap, gF_ap, gFK_ap, consG_ap, gB_ap, eCall_ap, callN_ap, callA_ap, callOut_ap, argE_bt, argE_bf, argE_fz, argE_nil, eTup_ap, eLst_ap, tupK_ap, lstK_ap, eDct_ap, eSl_ap, slK_ap, slK1_ap, slK2_ap, pN_ap, pI_ap, tTr_ap, tAn_ap, tO_ap, andK_t, andK_f, orK_t, orK_f, iT_ap, iV_ap, iterD_l, iterD_t, iR1_ap, sRet_ap, rtK_ap, sN_ap, sBk_ap, sIf_ap, ifK_t, ifK_f, sSet_ap, setK_o, stM_n, stM_f, stM_m, stM_o, sAsg_ap, sApp_apt, sApp_apf, appK_apt, appK_apf, sSt_ap, stK_ap, stKK_apt, stKK_apf, sFor_ap, eLc_ap, eMt_ap, mtK_ap, mtK1_ap, tgName_ap, tgTup_ap, tgCons_ap, tgThen_ap, tgNil_ap, seq_eq, bind_eq, thenO_ok, ret_eq, seqO_nx, seqO_rt, seqO_bk, rdL, rdO_o, rdO_s, hI, O.view, m4]; rfl
    have t3 : ∀ (x5 : Option O), ∀ q ∈ ss, tT3 (tmR ns (c + 1) ss nm room (some (.fz (.int pick))) x5 none none none none (some (.fz (.tuple [.str q.1, .int q.2])))) = some (.ok (q.2 == 0) (tmR ns (c + 1) ss nm room (some (.fz (.int pick))) x5 none none none none (some (.fz (.tuple [.str q.1, .int q.2]))))) := by
      intro x5 q _
      simp [eV_ap, eC_ap, dr2O_ap, dr2_ap, dr2P_ap, eOp_ap, eOpK_ap, dr2B_ap, dr2BP_ap, dr2BO_ap, eTs_ap, eTsK_ap, dr1_ap, dr1P_ap, eUn_ap, drN_ap, drNP_ap, eCN_ap, lN_ap, lC_ap, lCK_ap, consR_ap, aN_ap, aC_ap, aCK_ap, consD_ap, frz_o, frz_m, frz_sf, frz_sm, gN_ap, gF_ap, gFK_ap, consG_ap, gB_ap, eCall_ap, callN_ap, callA_ap, callOut_ap, argE_bt, argE_bf, argE_fz, argE_nil, eTup_ap, eLst_ap, tupK_ap, lstK_ap, eDct_ap, eSl_ap, slK_ap, slK1_ap, slK2_ap, pN_ap, pI_ap, tTr_ap, tAn_ap, tO_ap, andK_t, andK_f, orK_t, orK_f, iT_ap, iV_ap, iterD_l, iterD_t, iR1_ap, sRet_ap, rtK_ap, sN_ap, sBk_ap, sIf_ap, ifK_t, ifK_f, sSet_ap, setK_o, stM_n, stM_f, stM_m, stM_o, sAsg_ap, sApp_apt, sApp_apf, appK_apt, appK_apf, sSt_ap, stK_ap, stKK_apt, stKK_apf, sFor_ap, eLc_ap, eMt_ap, mtK_ap, mtK1_ap, tgName_ap, tgTup_ap, tgCons_ap, tgThen_ap, tgNil_ap, seq_eq, bind_eq, thenO_ok, ret_eq, seqO_nx, seqO_rt, seqO_bk, rdL, rdO_o, rdO_s, hIx, ixD, O.view, atI_1, hEq, flatD, PyData.eqv]
    have f1 := fit_ok (ns := ns) (c := c + 1) (nm := nm) (room := room) (x4 := some (.fz (.int pick))) (x5 := none) few t2
    have f2 := fun x5 => fit_ok (ns := ns) (c := c + 1) (nm := nm) (room := room) (x4 := some (.fz (.int pick))) (x5 := x5) (p := fun q => q.2 == 0) few (t3 x5)
    have ih := term_ok G S few hnm n
    have fin : ∀ fit : List (Str × Int), fit ≠ [] → fit.length ≤ 100 → (∀ q ∈ fit, q ∈ ss ∧ q.2 < room) → _ := fun fit a b h => tmE_ok (fit := fit) (x4 := some (.fz (.int pick))) (c := c + 1) (room := room) (n := n) (nm := nm) (self := g__law_term n) G S few a b h (by omega) (by omega) (by omega) ih
    have body : g__law_term (n + 1) [some (.mu true (stD ns c)), some (.fz (.tuple (sgD ss))), some (.fz (.list (nm.map .str))), some (.fz (.int room))] = defOut [some (.mu true (stD ns c)), some (.fz (.tuple (sgD ss))), some (.fz (.list (nm.map .str))), some (.fz (.int room))] (f__law_term (g__law_term n) (tmR ns c ss nm room none none none none none none none)) := rfl
    have fb : f__law_term (g__law_term n) (tmR ns c ss nm room none none none none none none none) = seqO (sIf tT1 (sRet (eOp hIx (eV 2) (eOp (hI cMod fun i j => i % j) (eOp (hI cDiv fun i j => i / j) (eV 4) (eC (.int 20))) (eCN hLen (lC (eV 2) lN))))) sN (tmR ns (c + 1) ss nm room (some (.fz (.int pick))) none none none none none none))
      (sSeq (sSet 5 (eLc [10] (iV (eV 1)) (tgName 10) tT2 (eV 10))) (sSeq (sIf (eTs hEq (eCN hLen (lC (eV 5) lN)) (eC (.int 0))) (sSet 5 (eLc [10] (iV (eV 1)) (tgName 10) tT3 (eV 10))) sN) (tmE (g__law_term n)))) := by
      unfold f__law_term
      rw [seq_eq, s1, seqO_nx, seq_eq]
    rw [sIf_ap, t1, thenO_ok] at fb
    cases hB : (decide (0 < L) && ((decide (room ≤ 1) || (pick % 4 == 0)) && decide (0 < pick / 4 % 5))) with
    | true =>
      rw [hB, ifK_t] at fb
      have hLp : 0 < L := by
        rw [Bool.and_eq_true] at hB
        exact of_decide_eq_true hB.1
      obtain ⟨x, ex, hx⟩ := atI_lt (xs := nm.map PyData.str) (i := pick / 20 % L) (Int.emod_nonneg _ (by omega)) (by rw [List.length_map, hL]; exact Int.emod_lt_of_pos _ hLp)
      obtain ⟨y, hy, rfl⟩ := List.mem_map.mp hx
      have hix : hIx (.fz (.list (nm.map .str))) (.fz (.int (pick / 20 % L))) = some (.fz (.str y)) := by
        show (atI (nm.map PyData.str) (pick / 20 % L)).map O.fz = _
        rw [ex]; rfl
      have q1 : hI cDiv (fun i j => i / j) (.fz (.int pick)) (.fz (.int 20)) = some (.fz (.int (pick / 20))) := hI_ap (d20 _)
      have q2 : hI cMod (fun i j => i % j) (.fz (.int (pick / 20))) (.fz (.int L)) = some (.fz (.int (pick / 20 % L))) := hI_ap (by unfold cMod; exact decide_eq_true hLp)
      have es : sRet (eOp hIx (eV 2) (eOp (hI cMod fun i j => i % j) (eOp (hI cDiv fun i j => i / j) (eV 4) (eC (.int 20))) (eCN hLen (lC (eV 2) lN)))) (tmR ns (c + 1) ss nm room (some (.fz (.int pick))) none none none none none none) = some (.ok (.rt (.o (.fz (.str y)))) (tmR ns (c + 1) ss nm room (some (.fz (.int pick))) none none none none none none)) := by
        simp [eV_ap, eC_ap, dr2O_ap, dr2_ap, dr2P_ap, eOp_ap, eOpK_ap, dr2B_ap, dr2BP_ap, dr2BO_ap, eTs_ap, eTsK_ap, dr1_ap, dr1P_ap, eUn_ap, drN_ap, drNP_ap, eCN_ap, lN_ap, lC_ap, lCK_ap, consR_ap, aN_ap, aC_ap, aCK_ap, consD_ap, frz_o, frz_m, frz_sf, frz_sm, gN_ap, gF_ap, gFK_ap, consG_ap, gB_ap, eCall_ap, callN_ap, callA_ap, callOut_ap, argE_bt, argE_bf, argE_fz, argE_nil, eTup_ap, eLst_ap, tupK_ap, lstK_ap, eDct_ap, eSl_ap, slK_ap, slK1_ap, slK2_ap, pN_ap, pI_ap, tTr_ap, tAn_ap, tO_ap, andK_t, andK_f, orK_t, orK_f, iT_ap, iV_ap, iterD_l, iterD_t, iR1_ap, sRet_ap, rtK_ap, sN_ap, sBk_ap, sIf_ap, ifK_t, ifK_f, sSet_ap, setK_o, stM_n, stM_f, stM_m, stM_o, sAsg_ap, sApp_apt, sApp_apf, appK_apt, appK_apf, sSt_ap, stK_ap, stKK_apt, stKK_apf, sFor_ap, eLc_ap, eMt_ap, mtK_ap, mtK1_ap, tgName_ap, tgTup_ap, tgCons_ap, tgThen_ap, tgNil_ap, seq_eq, bind_eq, thenO_ok, ret_eq, seqO_nx, seqO_rt, seqO_bk, rdL, rdO_o, rdO_s, hl, hix, q1, q2]
      rw [es, seqO_rt] at fb
      refine ⟨.str y, c + 1, .name hy, by omega, by omega, ?_⟩
      rw [body, fb]; rfl
    | false =>
      rw [hB, ifK_f, sN_ap, seqO_nx, seq_eq] at fb
      have es : sSet 5 (eLc [10] (iV (eV 1)) (tgName 10) tT2 (eV 10)) (tmR ns (c + 1) ss nm room (some (.fz (.int pick))) none none none none none none) = some (.ok .nx (tmR ns (c + 1) ss nm room (some (.fz (.int pick))) (some (.mu false (.lst (sgD (ss.filter fun q => fitP room pick q.2))))) none none none none none)) := by
        have hi : iV (eV 1) (tmR ns (c + 1) ss nm room (some (.fz (.int pick))) none none none none none none) = some (.ok (sgD ss) (tmR ns (c + 1) ss nm room (some (.fz (.int pick))) none none none none none none)) := by simp [eV_ap, eC_ap, dr2O_ap, dr2_ap, dr2P_ap, eOp_ap, eOpK_ap, dr2B_ap, dr2BP_ap, dr2BO_ap, eTs_ap, eTsK_ap, dr1_ap, dr1P_ap, eUn_ap, drN_ap, drNP_ap, eCN_ap, lN_ap, lC_ap, lCK_ap, consR_ap, aN_ap, aC_ap, aCK_ap, consD_ap, frz_o, frz_m, frz_sf, frz_sm, gN_ap, gF_ap, gFK_ap, consG_ap, gB_ap, eCall_ap, callN_ap, callA_ap, callOut_ap, argE_bt, argE_bf, argE_fz, argE_nil, eTup_ap, eLst_ap, tupK_ap, lstK_ap, eDct_ap, eSl_ap, slK_ap, slK1_ap, slK2_ap, pN_ap, pI_ap, tTr_ap, tAn_ap, tO_ap, andK_t, andK_f, orK_t, orK_f, iT_ap, iV_ap, iterD_l, iterD_t, iR1_ap, sRet_ap, rtK_ap, sN_ap, sBk_ap, sIf_ap, ifK_t, ifK_f, sSet_ap, setK_o, stM_n, stM_f, stM_m, stM_o, sAsg_ap, sApp_apt, sApp_apf, appK_apt, appK_apf, sSt_ap, stK_ap, stKK_apt, stKK_apf, sFor_ap, eLc_ap, eMt_ap, mtK_ap, mtK1_ap, tgName_ap, tgTup_ap, tgCons_ap, tgThen_ap, tgNil_ap, seq_eq, bind_eq, thenO_ok, ret_eq, seqO_nx, seqO_rt, seqO_bk, rdL, rdO_o, rdO_s]
        rw [sSet_ap, eLc_ap, hi, thenO_ok, f1, thenO_ok, setK_o, stM_n rfl]
        rfl
      rw [es, seqO_nx, seq_eq] at fb
      generalize hF : ss.filter (fun q => fitP room pick q.2) = fit at fb
      have hfit : ∀ q ∈ fit, q ∈ ss ∧ q.2 < room := fun q hq => by
        rw [← hF] at hq
        obtain ⟨a, b⟩ := List.mem_filter.mp hq
        refine ⟨a, ?_⟩
        simp only [fitP, Bool.and_eq_true] at b
        exact of_decide_eq_true b.1
      have hfew : fit.length ≤ 100 := by rw [← hF]; exact Nat.le_trans (List.length_filter_le _ _) few
      have hlf : ∀ k : Bool, ((fit.length : Int) == 0) = k → (eTs hEq (eCN hLen (lC (eV 5) lN)) (eC (.int 0))) (tmR ns (c + 1) ss nm room (some (.fz (.int pick))) (some (.mu false (.lst (sgD fit)))) none none none none none) = some (.ok k (tmR ns (c + 1) ss nm room (some (.fz (.int pick))) (some (.mu false (.lst (sgD fit)))) none none none none none)) := by
        intro k hk
        have hl2 : hLen [.mu false (.lst (sgD fit))] = some (.fz (.int (fit.length : Int))) := by
          show some (O.fz (.int ((sgD fit).length : Int))) = _
          rw [List.length_map]
        generalize (fit.length : Int) = LF at hl2 hk
        simp [eV_ap, eC_ap, dr2O_ap, dr2_ap, dr2P_ap, eOp_ap, eOpK_ap, dr2B_ap, dr2BP_ap, dr2BO_ap, eTs_ap, eTsK_ap, dr1_ap, dr1P_ap, eUn_ap, drN_ap, drNP_ap, eCN_ap, lN_ap, lC_ap, lCK_ap, consR_ap, aN_ap, aC_ap, aCK_ap, consD_ap, frz_o, frz_m, frz_sf, frz_sm, gN_ap, gF_ap, gFK_ap, consG_ap, gB_ap, eCall_ap, callN_ap, callA_ap, callOut_ap, argE_bt, argE_bf, argE_fz, argE_nil, eTup_ap, eLst_ap, tupK_ap, lstK_ap, eDct_ap, eSl_ap, slK_ap, slK1_ap, slK2_ap, pN_ap, pI_ap, tTr_ap, tAn_ap, tO_ap, andK_t, andK_f, orK_t, orK_f, iT_ap, iV_ap, iterD_l, iterD_t, iR1_ap, sRet_ap, rtK_ap, sN_ap, sBk_ap, sIf_ap, ifK_t, ifK_f, sSet_ap, setK_o, stM_n, stM_f, stM_m, stM_o, sAsg_ap, sApp_apt, sApp_apf, appK_apt, appK_apf, sSt_ap, stK_ap, stKK_apt, stKK_apf, sFor_ap, eLc_ap, eMt_ap, mtK_ap, mtK1_ap, tgName_ap, tgTup_ap, tgCons_ap, tgThen_ap, tgNil_ap, seq_eq, bind_eq, thenO_ok, ret_eq, seqO_nx, seqO_rt, seqO_bk, rdL, rdO_o, rdO_s, hl2, hEq, O.view, flatD, PyData.eqv, hk]
      rw [sIf_ap] at fb
      have done : ∀ fit2 : List (Str × Int), fit2 ≠ [] → fit2.length ≤ 100 → (∀ q ∈ fit2, q ∈ ss ∧ q.2 < room) → f__law_term (g__law_term n) (tmR ns c ss nm room none none none none none none none) = tmE (g__law_term n) (tmR ns (c + 1) ss nm room (some (.fz (.int pick))) (some (.mu false (.lst (sgD fit2)))) none none none none none) →
          ∃ d c', Tm ss nm (n + 1) d ∧ c ≤ c' ∧ c' ≤ c + cst (n + 1) ∧ g__law_term (n + 1) [some (.mu true (stD ns c)), some (.fz (.tuple (sgD ss))), some (.fz (.list (nm.map .str))), some (.fz (.int room))] = some (.ok (.fz d) [some (.mu true (stD ns c')), some (.fz (.tuple (sgD ss))), some (.fz (.list (nm.map .str))), some (.fz (.int room))]) := by
        intro fit2 a b h e
        obtain ⟨d, c', ρ', ht, k0, k1, e2, e3⟩ := fin fit2 a b h
        refine ⟨d, c', ht, by omega, by omega, ?_⟩
        rw [body, e, e2]
        simp [defOut, resO, keepB, keepF, List.mapIdx, List.mapIdx.go, e3]
      by_cases hn : fit = []
      · subst hn
        rw [hlf true rfl, thenO_ok, ifK_t] at fb
        have es2 : sSet 5 (eLc [10] (iV (eV 1)) (tgName 10) tT3 (eV 10)) (tmR ns (c + 1) ss nm room (some (.fz (.int pick))) (some (.mu false (.lst (sgD [])))) none none none none none) = some (.ok .nx (tmR ns (c + 1) ss nm room (some (.fz (.int pick))) (some (.mu false (.lst (sgD (ss.filter fun q => q.2 == 0))))) none none none none none)) := by
          have hi : iV (eV 1) (tmR ns (c + 1) ss nm room (some (.fz (.int pick))) (some (.mu false (.lst (sgD [])))) none none none none none) = some (.ok (sgD ss) (tmR ns (c + 1) ss nm room (some (.fz (.int pick))) (some (.mu false (.lst (sgD [])))) none none none none none)) := by simp [eV_ap, eC_ap, dr2O_ap, dr2_ap, dr2P_ap, eOp_ap, eOpK_ap, dr2B_ap, dr2BP_ap, dr2BO_ap, eTs_ap, eTsK_ap, dr1_ap, dr1P_ap, eUn_ap, drN_ap, drNP_ap, eCN_ap, lN_ap, lC_ap, lCK_ap, consR_ap, aN_ap, aC_ap, aCK_ap, consD_ap, frz_o, frz_m, frz_sf, frz_sm, gN_ap, gF_ap, gFK_ap, consG_ap, gB_ap, eCall_ap, callN_ap, callA_ap, callOut_ap, argE_bt, argE_bf, argE_fz, argE_nil, eTup_ap, eLst_ap, tupK_ap, lstK_ap, eDct_ap, eSl_ap, slK_ap, slK1_ap, slK2_ap, pN_ap, pI_ap, tTr_ap, tAn_ap, tO_ap, andK_t, andK_f, orK_t, orK_f, iT_ap, iV_ap, iterD_l, iterD_t, iR1_ap, sRet_ap, rtK_ap, sN_ap, sBk_ap, sIf_ap, ifK_t, ifK_f, sSet_ap, setK_o, stM_n, stM_f, stM_m, stM_o, sAsg_ap, sApp_apt, sApp_apf, appK_apt, appK_apf, sSt_ap, stK_ap, stKK_apt, stKK_apf, sFor_ap, eLc_ap, eMt_ap, mtK_ap, mtK1_ap, tgName_ap, tgTup_ap, tgCons_ap, tgThen_ap, tgNil_ap, seq_eq, bind_eq, thenO_ok, ret_eq, seqO_nx, seqO_rt, seqO_bk, rdL, rdO_o, rdO_s]
          rw [sSet_ap, eLc_ap, hi, thenO_ok, f2, thenO_ok, setK_o, stM_m rfl]
          rfl
        rw [es2, seqO_nx] at fb
        obtain ⟨p, hp, hz⟩ := S.z
        refine done _ ?_ (Nat.le_trans (List.length_filter_le _ _) few) (fun q hq => ?_) fb
        · exact fun h => by
            have : p ∈ ss.filter (fun q => q.2 == 0) := List.mem_filter.mpr ⟨hp, by rw [hz]; rfl⟩
            rw [h] at this; cases this
        · obtain ⟨a, b⟩ := List.mem_filter.mp hq
          have b' : q.2 = 0 := eq_of_beq b
          exact ⟨a, by omega⟩
      · have hpos : 0 < fit.length := List.length_pos_iff.mpr hn
        rw [hlf false (beq_eq_false_iff_ne.mpr (by omega)), thenO_ok, ifK_f, sN_ap, seqO_nx] at fb
        exact done fit hn hfew hfit fb
end VsG

namespace VsG
open PySem PySem.Spec L2 Vs
/-- trees: terms without names -/
abbrev Tr (ss : List (Str × Int)) (n : Nat) (d : PyData) : Prop := Tm ss [] n d
mutual
def szD : PyData → Int
  | .tuple ds => szT ds
  | _ => 0
def szT : List PyData → Int
  | [] => 0
  | _ :: ds => 1 + szs ds
def szs : List PyData → Int
  | [] => 0
  | d :: ds => szD d + szs ds
end
theorem tr_cases {ss : List (Str × Int)} {n : Nat} {d : PyData} (h : Tr ss n d) : ∃ w a ds m, n = m + 1 ∧ d = .tuple (.str w :: ds) ∧ (w, a) ∈ ss ∧ (ds.length : Int) = a ∧ ∀ x ∈ ds, Tr ss m x := by
  cases h with
  | name h => cases h
  | node h1 h2 h3 => exact ⟨_, _, _, _, rfl, rfl, h1, h2, h3⟩
theorem szs_map (ds : List PyData) : szs ds = (ds.map szD).sum := by
  induction ds with
  | nil => rfl
  | cons d ds ih => simp [szs, ih]
theorem intsD_map : ∀ (ns : List Int), intsD (ns.map .int) = some ns := by
  intro ns
  induction ns with
  | nil => rfl
  | cons n ns ih => simp [intsD, ih]
theorem hSum_ap {ns : List Int} {b : Bool} : hSum [.mu b (.lst (ns.map .int))] = some (.fz (.int ns.sum)) := by
  show (intsD (ns.map .int)).map (fun ns => O.fz (.int ns.sum)) = _
  rw [intsD_map]; rfl
theorem few2 {ss : List (Str × Int)} (S : Sgn ss) {w : Str} {a : Int} {ds : List PyData} (h : (w, a) ∈ ss) (hl : (ds.length : Int) = a) : ds.length ≤ 2 := by
  have := (S.ar _ h).2
  simp only at this
  omega
/-- a comprehension over the parts, that changes nothing -/
theorem parts_ap {i v : Nat} {fe : M Rf} {ds : List PyData} {ρ : Rho} (F : PyData → PyData) (hv : freeV ρ [v] = true) (hw : wipeR ρ [v] = ρ) (hb : backR ρ ρ [v] = ρ) (hl : ds.length ≤ 100)
    (h : ∀ d ∈ ds, ∃ ρ1, tgName v d ρ = some (.ok .nx ρ1) ∧ (fe.bind frz) ρ1 = some (.ok (F d) ρ1) ∧ freeV ρ1 [v] = true ∧ wipeR ρ1 [v] = ρ) :
    lcM [v] (tgName v) iT (fe.bind frz) ds ρ = some (.ok (.o (.mu false (.lst (ds.map F)))) ρ) := by
  have key := lcF_pure (vs := [v]) (h := tgName v) (ft := iT) (fe := fe.bind frz) (ρ := ρ) (fun _ => true) F ds [] (fun d hd => by
    obtain ⟨ρ1, e1, e2, e3, e4⟩ := h d hd
    exact ⟨ρ1, e1, iT_ap, fun _ => e2, e3, e4⟩) (by simp; omega)
  rw [List.filter_eq_self.mpr (fun _ _ => rfl), List.nil_append] at key
  rw [lcM_ap hv (by rw [hw]; exact key), hb]
theorem size_ok {ss : List (Str × Int)} (S : Sgn ss) : ∀ (n k : Nat) (d : PyData), k < n → Tr ss k d → g__law_size n [some (.fz d)] = some (.ok (.fz (.int (szD d))) [some (.fz d)])
  | 0, _, _, h, _ => absurd h (Nat.not_lt_zero _)
  | n + 1, k, d, h, ht => by
    obtain ⟨w, a, ds, m, rfl, rfl, hw, hl, hd⟩ := tr_cases ht
    have ih := fun x hx => size_ok S n m x (by omega) (hd x hx)
    have hp := parts_ap (i := 0) (v := 1) (fe := eCall (g__law_size n) 1 (gF (eV 1) gN)) (ρ := [some (.fz (.tuple (.str w :: ds))), none]) (fun x => .int (szD x)) (by simp [freeV]) (by simp [wipeR, List.mapIdx, List.mapIdx.go]) (by simp [backR, List.mapIdx, List.mapIdx.go]) (Nat.le_trans (few2 S hw hl) (by decide)) (fun x hx =>
      ⟨[some (.fz (.tuple (.str w :: ds))), some (.fz x)], by simp [eV_ap, eC_ap, dr2O_ap, dr2_ap, dr2P_ap, eOp_ap, eOpK_ap, dr2B_ap, dr2BP_ap, dr2BO_ap, eTs_ap, eTsK_ap, dr1_ap, dr1P_ap, eUn_ap, drN_ap, drNP_ap, eCN_ap, lN_ap, lC_ap, lCK_ap, consR_ap, aN_ap, aC_ap, aCK_ap, consD_ap, frz_o, frz_m, frz_sf, frz_sm, gN_ap, gF_ap, gFK_ap, consG_ap, gB_ap, eCall_ap, callN_ap, callA_ap, callOut_ap, argE_bt, argE_bf, argE_fz, argE_nil, eTup_ap, eLst_ap, tupK_ap, lstK_ap, eDct_ap, eSl_ap, slK_ap, slK1_ap, slK2_ap, pN_ap, pI_ap, tTr_ap, tAn_ap, tO_ap, andK_t, andK_f, orK_t, orK_f, iT_ap, iV_ap, iterD_l, iterD_t, iR1_ap, sRet_ap, rtK_ap, sN_ap, sBk_ap, sIf_ap, ifK_t, ifK_f, sSet_ap, setK_o, stM_n, stM_f, stM_m, stM_o, sAsg_ap, sApp_apt, sApp_apf, appK_apt, appK_apf, sSt_ap, stK_ap, stKK_apt, stKK_apf, sFor_ap, eLc_ap, eMt_ap, mtK_ap, mtK1_ap, tgName_ap, tgTup_ap, tgCons_ap, tgThen_ap, tgNil_ap, seq_eq, bind_eq, thenO_ok, ret_eq, seqO_nx, seqO_rt, seqO_bk, rdL, rdO_o, rdO_s, O.view, Mu.view, muSet, muApp, hIx, ixD, hAdd, hLen, hI, hInt, hAbs, hCmp, hMax2, hTuple, hSl, hEq, hNe, flatD, PyData.eqv, tru_b, asInt_o, asInt_s, cutL_1, atI_0, atI_1, atI_2], by simp [eV_ap, eC_ap, dr2O_ap, dr2_ap, dr2P_ap, eOp_ap, eOpK_ap, dr2B_ap, dr2BP_ap, dr2BO_ap, eTs_ap, eTsK_ap, dr1_ap, dr1P_ap, eUn_ap, drN_ap, drNP_ap, eCN_ap, lN_ap, lC_ap, lCK_ap, consR_ap, aN_ap, aC_ap, aCK_ap, consD_ap, frz_o, frz_m, frz_sf, frz_sm, gN_ap, gF_ap, gFK_ap, consG_ap, gB_ap, eCall_ap, callN_ap, callA_ap, callOut_ap, argE_bt, argE_bf, argE_fz, argE_nil, eTup_ap, eLst_ap, tupK_ap, lstK_ap, eDct_ap, eSl_ap, slK_ap, slK1_ap, slK2_ap, pN_ap, pI_ap, tTr_ap, tAn_ap, tO_ap, andK_t, andK_f, orK_t, orK_f, iT_ap, iV_ap, iterD_l, iterD_t, iR1_ap, sRet_ap, rtK_ap, sN_ap, sBk_ap, sIf_ap, ifK_t, ifK_f, sSet_ap, setK_o, stM_n, stM_f, stM_m, stM_o, sAsg_ap, sApp_apt, sApp_apf, appK_apt, appK_apf, sSt_ap, stK_ap, stKK_apt, stKK_apf, sFor_ap, eLc_ap, eMt_ap, mtK_ap, mtK1_ap, tgName_ap, tgTup_ap, tgCons_ap, tgThen_ap, tgNil_ap, seq_eq, bind_eq, thenO_ok, ret_eq, seqO_nx, seqO_rt, seqO_bk, rdL, rdO_o, rdO_s, O.view, Mu.view, muSet, muApp, hIx, ixD, hAdd, hLen, hI, hInt, hAbs, hCmp, hMax2, hTuple, hSl, hEq, hNe, flatD, PyData.eqv, tru_b, asInt_o, asInt_s, cutL_1, atI_0, atI_1, atI_2, callBO_t, brOk_n, brOk_f, brOk_b, brAt_n, brAt_f, brAt_b, back, backF, List.mapIdx, List.mapIdx.go, ih x hx], by simp [freeV], by simp [wipeR, List.mapIdx, List.mapIdx.go]⟩)
    have hm : ds.map (fun x => PyData.int (szD x)) = (ds.map szD).map .int := by rw [List.map_map]; rfl
    rw [hm] at hp
    have hs : hSl (.fz (.tuple (.str w :: ds))) (some 1) none = some (.fz (.tuple ds)) := by
      show some (O.fz (.tuple (cutL (.str w :: ds) (some 1) none))) = _
      rw [cutL_1]
    have hz : szD (.tuple (.str w :: ds)) = 1 + (ds.map szD).sum := by rw [← szs_map]; rfl
    rw [hz]
    have hsum := hSum_ap (ns := ds.map szD) (b := false)
    generalize (ds.map szD).map PyData.int = L at hp hsum
    generalize (ds.map szD).sum = T at hsum
    have had : hAdd (.fz (.int 1)) (.fz (.int T)) = some (.fz (.int (1 + T))) := rfl
    simp [g__law_size, f__law_size, defG_ap, okArg, defOut, resO, keepB, keepF, List.mapIdx, List.mapIdx.go, eV_ap, eC_ap, dr2O_ap, dr2_ap, dr2P_ap, eOp_ap, eOpK_ap, dr2B_ap, dr2BP_ap, dr2BO_ap, eTs_ap, eTsK_ap, dr1_ap, dr1P_ap, eUn_ap, drN_ap, drNP_ap, eCN_ap, lN_ap, lC_ap, lCK_ap, consR_ap, aN_ap, aC_ap, aCK_ap, consD_ap, frz_o, frz_m, frz_sf, frz_sm, gN_ap, gF_ap, gFK_ap, consG_ap, gB_ap, eCall_ap, callN_ap, callA_ap, callOut_ap, argE_bt, argE_bf, argE_fz, argE_nil, eTup_ap, eLst_ap, tupK_ap, lstK_ap, eDct_ap, eSl_ap, slK_ap, slK1_ap, slK2_ap, pN_ap, pI_ap, tTr_ap, tAn_ap, tO_ap, andK_t, andK_f, orK_t, orK_f, iT_ap, iV_ap, iterD_l, iterD_t, iR1_ap, sRet_ap, rtK_ap, sN_ap, sBk_ap, sIf_ap, ifK_t, ifK_f, sSet_ap, setK_o, stM_n, stM_f, stM_m, stM_o, sAsg_ap, sApp_apt, sApp_apf, appK_apt, appK_apf, sSt_ap, stK_ap, stKK_apt, stKK_apf, sFor_ap, eLc_ap, eMt_ap, mtK_ap, mtK1_ap, tgName_ap, tgTup_ap, tgCons_ap, tgThen_ap, tgNil_ap, seq_eq, bind_eq, thenO_ok, ret_eq, seqO_nx, seqO_rt, seqO_bk, rdL, rdO_o, rdO_s, callBO_t, brOk_n, brOk_f, brOk_b, brAt_n, brAt_f, brAt_b, back, backF, List.mapIdx, List.mapIdx.go, hp, hs, hsum, had, asInt_o]
theorem size2_ok {ss : List (Str × Int)} (S : Sgn ss) : ∀ (n k : Nat) (d : PyData), k < n → Tr ss k d → g_size_of n [some (.fz d)] = some (.ok (.fz (.int (szD d))) [some (.fz d)])
  | 0, _, _, h, _ => absurd h (Nat.not_lt_zero _)
  | n + 1, k, d, h, ht => by
    obtain ⟨w, a, ds, m, rfl, rfl, hw, hl, hd⟩ := tr_cases ht
    have ih := fun x hx => size2_ok S n m x (by omega) (hd x hx)
    have hp := parts_ap (i := 0) (v := 1) (fe := eCall (g_size_of n) 1 (gF (eV 1) gN)) (ρ := [some (.fz (.tuple (.str w :: ds))), none]) (fun x => .int (szD x)) (by simp [freeV]) (by simp [wipeR, List.mapIdx, List.mapIdx.go]) (by simp [backR, List.mapIdx, List.mapIdx.go]) (Nat.le_trans (few2 S hw hl) (by decide)) (fun x hx =>
      ⟨[some (.fz (.tuple (.str w :: ds))), some (.fz x)], by simp [eV_ap, eC_ap, dr2O_ap, dr2_ap, dr2P_ap, eOp_ap, eOpK_ap, dr2B_ap, dr2BP_ap, dr2BO_ap, eTs_ap, eTsK_ap, dr1_ap, dr1P_ap, eUn_ap, drN_ap, drNP_ap, eCN_ap, lN_ap, lC_ap, lCK_ap, consR_ap, aN_ap, aC_ap, aCK_ap, consD_ap, frz_o, frz_m, frz_sf, frz_sm, gN_ap, gF_ap, gFK_ap, consG_ap, gB_ap, eCall_ap, callN_ap, callA_ap, callOut_ap, argE_bt, argE_bf, argE_fz, argE_nil, eTup_ap, eLst_ap, tupK_ap, lstK_ap, eDct_ap, eSl_ap, slK_ap, slK1_ap, slK2_ap, pN_ap, pI_ap, tTr_ap, tAn_ap, tO_ap, andK_t, andK_f, orK_t, orK_f, iT_ap, iV_ap, iterD_l, iterD_t, iR1_ap, sRet_ap, rtK_ap, sN_ap, sBk_ap, sIf_ap, ifK_t, ifK_f, sSet_ap, setK_o, stM_n, stM_f, stM_m, stM_o, sAsg_ap, sApp_apt, sApp_apf, appK_apt, appK_apf, sSt_ap, stK_ap, stKK_apt, stKK_apf, sFor_ap, eLc_ap, eMt_ap, mtK_ap, mtK1_ap, tgName_ap, tgTup_ap, tgCons_ap, tgThen_ap, tgNil_ap, seq_eq, bind_eq, thenO_ok, ret_eq, seqO_nx, seqO_rt, seqO_bk, rdL, rdO_o, rdO_s, O.view, Mu.view, muSet, muApp, hIx, ixD, hAdd, hLen, hI, hInt, hAbs, hCmp, hMax2, hTuple, hSl, hEq, hNe, flatD, PyData.eqv, tru_b, asInt_o, asInt_s, cutL_1, atI_0, atI_1, atI_2], by simp [eV_ap, eC_ap, dr2O_ap, dr2_ap, dr2P_ap, eOp_ap, eOpK_ap, dr2B_ap, dr2BP_ap, dr2BO_ap, eTs_ap, eTsK_ap, dr1_ap, dr1P_ap, eUn_ap, drN_ap, drNP_ap, eCN_ap, lN_ap, lC_ap, lCK_ap, consR_ap, aN_ap, aC_ap, aCK_ap, consD_ap, frz_o, frz_m, frz_sf, frz_sm, gN_ap, gF_ap, gFK_ap, consG_ap, gB_ap, eCall_ap, callN_ap, callA_ap, callOut_ap, argE_bt, argE_bf, argE_fz, argE_nil, eTup_ap, eLst_ap, tupK_ap, lstK_ap, eDct_ap, eSl_ap, slK_ap, slK1_ap, slK2_ap, pN_ap, pI_ap, tTr_ap, tAn_ap, tO_ap, andK_t, andK_f, orK_t, orK_f, iT_ap, iV_ap, iterD_l, iterD_t, iR1_ap, sRet_ap, rtK_ap, sN_ap, sBk_ap, sIf_ap, ifK_t, ifK_f, sSet_ap, setK_o, stM_n, stM_f, stM_m, stM_o, sAsg_ap, sApp_apt, sApp_apf, appK_apt, appK_apf, sSt_ap, stK_ap, stKK_apt, stKK_apf, sFor_ap, eLc_ap, eMt_ap, mtK_ap, mtK1_ap, tgName_ap, tgTup_ap, tgCons_ap, tgThen_ap, tgNil_ap, seq_eq, bind_eq, thenO_ok, ret_eq, seqO_nx, seqO_rt, seqO_bk, rdL, rdO_o, rdO_s, O.view, Mu.view, muSet, muApp, hIx, ixD, hAdd, hLen, hI, hInt, hAbs, hCmp, hMax2, hTuple, hSl, hEq, hNe, flatD, PyData.eqv, tru_b, asInt_o, asInt_s, cutL_1, atI_0, atI_1, atI_2, callBO_t, brOk_n, brOk_f, brOk_b, brAt_n, brAt_f, brAt_b, back, backF, List.mapIdx, List.mapIdx.go, ih x hx], by simp [freeV], by simp [wipeR, List.mapIdx, List.mapIdx.go]⟩)
    have hm : ds.map (fun x => PyData.int (szD x)) = (ds.map szD).map .int := by rw [List.map_map]; rfl
    rw [hm] at hp
    have hs : hSl (.fz (.tuple (.str w :: ds))) (some 1) none = some (.fz (.tuple ds)) := by
      show some (O.fz (.tuple (cutL (.str w :: ds) (some 1) none))) = _
      rw [cutL_1]
    have hz : szD (.tuple (.str w :: ds)) = 1 + (ds.map szD).sum := by rw [← szs_map]; rfl
    rw [hz]
    have hsum := hSum_ap (ns := ds.map szD) (b := false)
    generalize (ds.map szD).map PyData.int = L at hp hsum
    generalize (ds.map szD).sum = T at hsum
    have had : hAdd (.fz (.int 1)) (.fz (.int T)) = some (.fz (.int (1 + T))) := rfl
    have hi : hIsi "str" (.fz (.tuple (.str w :: ds))) = some (.fz (.bool false)) := rfl
    simp [g_size_of, f_size_of, defG_ap, okArg, defOut, resO, keepB, keepF, List.mapIdx, List.mapIdx.go, eV_ap, eC_ap, dr2O_ap, dr2_ap, dr2P_ap, eOp_ap, eOpK_ap, dr2B_ap, dr2BP_ap, dr2BO_ap, eTs_ap, eTsK_ap, dr1_ap, dr1P_ap, eUn_ap, drN_ap, drNP_ap, eCN_ap, lN_ap, lC_ap, lCK_ap, consR_ap, aN_ap, aC_ap, aCK_ap, consD_ap, frz_o, frz_m, frz_sf, frz_sm, gN_ap, gF_ap, gFK_ap, consG_ap, gB_ap, eCall_ap, callN_ap, callA_ap, callOut_ap, argE_bt, argE_bf, argE_fz, argE_nil, eTup_ap, eLst_ap, tupK_ap, lstK_ap, eDct_ap, eSl_ap, slK_ap, slK1_ap, slK2_ap, pN_ap, pI_ap, tTr_ap, tAn_ap, tO_ap, andK_t, andK_f, orK_t, orK_f, iT_ap, iV_ap, iterD_l, iterD_t, iR1_ap, sRet_ap, rtK_ap, sN_ap, sBk_ap, sIf_ap, ifK_t, ifK_f, sSet_ap, setK_o, stM_n, stM_f, stM_m, stM_o, sAsg_ap, sApp_apt, sApp_apf, appK_apt, appK_apf, sSt_ap, stK_ap, stKK_apt, stKK_apf, sFor_ap, eLc_ap, eMt_ap, mtK_ap, mtK1_ap, tgName_ap, tgTup_ap, tgCons_ap, tgThen_ap, tgNil_ap, seq_eq, bind_eq, thenO_ok, ret_eq, seqO_nx, seqO_rt, seqO_bk, rdL, rdO_o, rdO_s, callBO_t, brOk_n, brOk_f, brOk_b, brAt_n, brAt_f, brAt_b, back, backF, List.mapIdx, List.mapIdx.go, hp, hs, hsum, had, asInt_o, hi, tru_b]
theorem copy_ok {ss : List (Str × Int)} (S : Sgn ss) : ∀ (n k : Nat) (d : PyData), k < n → Tr ss k d → g__law_copy n [some (.fz d)] = some (.ok (.fz d) [some (.fz d)])
  | 0, _, _, h, _ => absurd h (Nat.not_lt_zero _)
  | n + 1, k, d, h, ht => by
    obtain ⟨w, a, ds, m, rfl, rfl, hw, hl, hd⟩ := tr_cases ht
    have ih := fun x hx => copy_ok S n m x (by omega) (hd x hx)
    have hf := few2 S hw hl
    have hp := parts_ap (i := 0) (v := 1) (fe := eCall (g__law_copy n) 1 (gF (eV 1) gN)) (ρ := [some (.fz (.tuple (.str w :: ds))), none]) (fun x => x) (by simp [freeV]) (by simp [wipeR, List.mapIdx, List.mapIdx.go]) (by simp [backR, List.mapIdx, List.mapIdx.go]) (Nat.le_trans hf (by decide)) (fun x hx =>
      ⟨[some (.fz (.tuple (.str w :: ds))), some (.fz x)], by simp [eV_ap, eC_ap, dr2O_ap, dr2_ap, dr2P_ap, eOp_ap, eOpK_ap, dr2B_ap, dr2BP_ap, dr2BO_ap, eTs_ap, eTsK_ap, dr1_ap, dr1P_ap, eUn_ap, drN_ap, drNP_ap, eCN_ap, lN_ap, lC_ap, lCK_ap, consR_ap, aN_ap, aC_ap, aCK_ap, consD_ap, frz_o, frz_m, frz_sf, frz_sm, gN_ap, gF_ap, gFK_ap, consG_ap, gB_ap, eCall_ap, callN_ap, callA_ap, callOut_ap, argE_bt, argE_bf, argE_fz, argE_nil, eTup_ap, eLst_ap, tupK_ap, lstK_ap, eDct_ap, eSl_ap, slK_ap, slK1_ap, slK2_ap, pN_ap, pI_ap, tTr_ap, tAn_ap, tO_ap, andK_t, andK_f, orK_t, orK_f, iT_ap, iV_ap, iterD_l, iterD_t, iR1_ap, sRet_ap, rtK_ap, sN_ap, sBk_ap, sIf_ap, ifK_t, ifK_f, sSet_ap, setK_o, stM_n, stM_f, stM_m, stM_o, sAsg_ap, sApp_apt, sApp_apf, appK_apt, appK_apf, sSt_ap, stK_ap, stKK_apt, stKK_apf, sFor_ap, eLc_ap, eMt_ap, mtK_ap, mtK1_ap, tgName_ap, tgTup_ap, tgCons_ap, tgThen_ap, tgNil_ap, seq_eq, bind_eq, thenO_ok, ret_eq, seqO_nx, seqO_rt, seqO_bk, rdL, rdO_o, rdO_s, O.view, Mu.view, muSet, muApp, hIx, ixD, hAdd, hLen, hI, hInt, hAbs, hCmp, hMax2, hTuple, hSl, hEq, hNe, flatD, PyData.eqv, tru_b, asInt_o, asInt_s, cutL_1, atI_0, atI_1, atI_2], by simp [eV_ap, eC_ap, dr2O_ap, dr2_ap, dr2P_ap, eOp_ap, eOpK_ap, dr2B_ap, dr2BP_ap, dr2BO_ap, eTs_ap, eTsK_ap, dr1_ap, dr1P_ap, eUn_ap, drN_ap, drNP_ap, eCN_ap, lN_ap, lC_ap, lCK_ap, consR_ap, aN_ap, aC_ap, aCK_ap, consD_ap, frz_o, frz_m, frz_sf, frz_sm, gN_ap, gF_ap, gFK_ap, consG_ap, gB_ap, eCall_ap, callN_ap, callA_ap, callOut_ap, argE_bt, argE_bf, argE_fz, argE_nil, eTup_ap, eLst_ap, tupK_ap, lstK_ap, eDct_ap, eSl_ap, slK_ap, slK1_ap, slK2_ap, pN_ap, pI_ap, tTr_ap, tAn_ap, tO_ap, andK_t, andK_f, orK_t, orK_f, iT_ap, iV_ap, iterD_l, iterD_t, iR1_ap, sRet_ap, rtK_ap, sN_ap, sBk_ap, sIf_ap, ifK_t, ifK_f, sSet_ap, setK_o, stM_n, stM_f, stM_m, stM_o, sAsg_ap, sApp_apt, sApp_apf, appK_apt, appK_apf, sSt_ap, stK_ap, stKK_apt, stKK_apf, sFor_ap, eLc_ap, eMt_ap, mtK_ap, mtK1_ap, tgName_ap, tgTup_ap, tgCons_ap, tgThen_ap, tgNil_ap, seq_eq, bind_eq, thenO_ok, ret_eq, seqO_nx, seqO_rt, seqO_bk, rdL, rdO_o, rdO_s, O.view, Mu.view, muSet, muApp, hIx, ixD, hAdd, hLen, hI, hInt, hAbs, hCmp, hMax2, hTuple, hSl, hEq, hNe, flatD, PyData.eqv, tru_b, asInt_o, asInt_s, cutL_1, atI_0, atI_1, atI_2, callBO_t, brOk_n, brOk_f, brOk_b, brAt_n, brAt_f, brAt_b, back, backF, List.mapIdx, List.mapIdx.go, ih x hx], by simp [freeV], by simp [wipeR, List.mapIdx, List.mapIdx.go]⟩)
    rw [List.map_id'] at hp
    have hs : hSl (.fz (.tuple (.str w :: ds))) (some 1) none = some (.fz (.tuple ds)) := by
      show some (O.fz (.tuple (cutL (.str w :: ds) (some 1) none))) = _
      rw [cutL_1]
    have hx0 : hIx (.fz (.tuple (.str w :: ds))) (.fz (.int 0)) = some (.fz (.str w)) := by
      show (atI (PyData.str w :: ds) 0).map O.fz = _
      rw [atI_0]; rfl
    have had : hAdd (.mu false (.lst [.str w])) (.mu false (.lst ds)) = some (.mu false (.lst (.str w :: ds))) := hAdd_l (by simp; omega)
    have htp : hTuple [.mu false (.lst (.str w :: ds))] = some (.fz (.tuple (.str w :: ds))) := rfl
    simp [g__law_copy, f__law_copy, defG_ap, okArg, defOut, resO, keepB, keepF, List.mapIdx, List.mapIdx.go, eV_ap, eC_ap, dr2O_ap, dr2_ap, dr2P_ap, eOp_ap, eOpK_ap, dr2B_ap, dr2BP_ap, dr2BO_ap, eTs_ap, eTsK_ap, dr1_ap, dr1P_ap, eUn_ap, drN_ap, drNP_ap, eCN_ap, lN_ap, lC_ap, lCK_ap, consR_ap, aN_ap, aC_ap, aCK_ap, consD_ap, frz_o, frz_m, frz_sf, frz_sm, gN_ap, gF_ap, gFK_ap, consG_ap, gB_ap, eCall_ap, callN_ap, callA_ap, callOut_ap, argE_bt, argE_bf, argE_fz, argE_nil, eTup_ap, eLst_ap, tupK_ap, lstK_ap, eDct_ap, eSl_ap, slK_ap, slK1_ap, slK2_ap, pN_ap, pI_ap, tTr_ap, tAn_ap, tO_ap, andK_t, andK_f, orK_t, orK_f, iT_ap, iV_ap, iterD_l, iterD_t, iR1_ap, sRet_ap, rtK_ap, sN_ap, sBk_ap, sIf_ap, ifK_t, ifK_f, sSet_ap, setK_o, stM_n, stM_f, stM_m, stM_o, sAsg_ap, sApp_apt, sApp_apf, appK_apt, appK_apf, sSt_ap, stK_ap, stKK_apt, stKK_apf, sFor_ap, eLc_ap, eMt_ap, mtK_ap, mtK1_ap, tgName_ap, tgTup_ap, tgCons_ap, tgThen_ap, tgNil_ap, seq_eq, bind_eq, thenO_ok, ret_eq, seqO_nx, seqO_rt, seqO_bk, rdL, rdO_o, rdO_s, callBO_t, brOk_n, brOk_f, brOk_b, brAt_n, brAt_f, brAt_b, back, backF, List.mapIdx, List.mapIdx.go, hp, hs, hx0, had, htp, asInt_o]
def rkD (ss : List (Str × Int)) (w : Str) : Int := match idxD (.str w) (ss.map fun p => PyData.str p.1) with
  | some i => (i : Nat)
  | none => -1
theorem rk_of {ss : List (Str × Int)} (S : Sgn ss) {w : Str} {a : Int} (h : (w, a) ∈ ss) : ∃ i : Nat, idxD (.str w) (ss.map fun p => PyData.str p.1) = some i ∧ ss[i]? = some (w, a) ∧ rkD ss w = i := by
  obtain ⟨i, e1, e2⟩ := idx_ok h S.nd
  exact ⟨i, e1, e2, by unfold rkD; rw [e1]⟩
theorem names2_ap {ss : List (Str × Int)} {A B : List (Option O)} {i j : Nat} {f : M PyData} {ρ : Rho} (st : ∀ p ∈ ss, ∃ ρ1, tgTup 2 (tgCons (tgName i) (tgCons (tgName j) tgNil)) (.tuple [.str p.1, .int p.2]) ρ = some (.ok .nx ρ1) ∧ ((eV i).bind frz) ρ1 = some (.ok (.str p.1) ρ1) ∧ freeV ρ1 [i, j] = true ∧ wipeR ρ1 [i, j] = ρ)
    (hv : freeV ρ [i, j] = true) (hw : wipeR ρ [i, j] = ρ) (hb : backR ρ ρ [i, j] = ρ) (hl : ss.length ≤ 100) :
    lcM [i, j] (tgTup 2 (tgCons (tgName i) (tgCons (tgName j) tgNil))) iT ((eV i).bind frz) (sgD ss) ρ = some (.ok (.o (.mu false (.lst (ss.map fun p => .str p.1)))) ρ) := by
  have key := lcF_pure (vs := [i, j]) (h := tgTup 2 (tgCons (tgName i) (tgCons (tgName j) tgNil))) (ft := iT) (fe := (eV i).bind frz) (ρ := ρ) (fun _ => true) (fun d => match d with | .tuple (x :: _) => x | x => x) (sgD ss) [] (fun d hd => by
    obtain ⟨p, hp, rfl⟩ := List.mem_map.mp hd
    obtain ⟨ρ1, e1, e2, e3, e4⟩ := st p hp
    exact ⟨ρ1, e1, iT_ap, fun _ => e2, e3, e4⟩) (by simp; omega)
  rw [List.filter_eq_self.mpr (fun _ _ => rfl)] at key
  have key2 : lcF [i, j] (tgTup 2 (tgCons (tgName i) (tgCons (tgName j) tgNil))) iT ((eV i).bind frz) (sgD ss) [] ρ = some (.ok (ss.map fun p => .str p.1) ρ) := by
    rw [key]; simp
  rw [lcM_ap hv (by rw [hw]; exact key2), hb]
theorem rank_ok {ss : List (Str × Int)} (S : Sgn ss) (few : ss.length ≤ 100) {w : Str} {a : Int} (h : (w, a) ∈ ss) : g_rank_of [some (.fz (.tuple (sgD ss))), some (.fz (.str w))] = some (.ok (.fz (.int (rkD ss w))) [some (.fz (.tuple (sgD ss))), some (.fz (.str w))]) := by
  obtain ⟨i, e1, e2, e3⟩ := rk_of S h
  have hn := names2_ap (ss := ss) (A := []) (B := []) (i := 2) (j := 3) (f := fun _ => none) (ρ := [some (.fz (.tuple (sgD ss))), some (.fz (.str w)), none, none]) (fun p hp =>
    ⟨[some (.fz (.tuple (sgD ss))), some (.fz (.str w)), some (.fz (.str p.1)), some (.fz (.int p.2))], by simp [eV_ap, eC_ap, dr2O_ap, dr2_ap, dr2P_ap, eOp_ap, eOpK_ap, dr2B_ap, dr2BP_ap, dr2BO_ap, eTs_ap, eTsK_ap, dr1_ap, dr1P_ap, eUn_ap, drN_ap, drNP_ap, eCN_ap, lN_ap, lC_ap, lCK_ap, consR_ap, aN_ap, aC_ap, aCK_ap, consD_ap, frz_o, frz_m, frz_sf, frz_sm, gN_ap, gF_ap, gFK_ap, consG_ap, gB_ap, eCall_ap, callN_ap, callA_ap, callOut_ap, argE_bt, argE_bf, argE_fz, argE_nil, eTup_ap, eLst_ap, tupK_ap, lstK_ap, eDct_ap, eSl_ap, slK_ap, slK1_ap, slK2_ap, pN_ap, pI_ap, tTr_ap, tAn_ap, tO_ap, andK_t, andK_f, orK_t, orK_f, iT_ap, iV_ap, iterD_l, iterD_t, iR1_ap, sRet_ap, rtK_ap, sN_ap, sBk_ap, sIf_ap, ifK_t, ifK_f, sSet_ap, setK_o, stM_n, stM_f, stM_m, stM_o, sAsg_ap, sApp_apt, sApp_apf, appK_apt, appK_apf, sSt_ap, stK_ap, stKK_apt, stKK_apf, sFor_ap, eLc_ap, eMt_ap, mtK_ap, mtK1_ap, tgName_ap, tgTup_ap, tgCons_ap, tgThen_ap, tgNil_ap, seq_eq, bind_eq, thenO_ok, ret_eq, seqO_nx, seqO_rt, seqO_bk, rdL, rdO_o, rdO_s, O.view, Mu.view, muSet, muApp, hIx, ixD, hAdd, hLen, hI, hInt, hAbs, hCmp, hMax2, hTuple, hSl, hEq, hNe, flatD, PyData.eqv, tru_b, asInt_o, asInt_s, cutL_1, atI_0, atI_1, atI_2], by simp [eV_ap, eC_ap, dr2O_ap, dr2_ap, dr2P_ap, eOp_ap, eOpK_ap, dr2B_ap, dr2BP_ap, dr2BO_ap, eTs_ap, eTsK_ap, dr1_ap, dr1P_ap, eUn_ap, drN_ap, drNP_ap, eCN_ap, lN_ap, lC_ap, lCK_ap, consR_ap, aN_ap, aC_ap, aCK_ap, consD_ap, frz_o, frz_m, frz_sf, frz_sm, gN_ap, gF_ap, gFK_ap, consG_ap, gB_ap, eCall_ap, callN_ap, callA_ap, callOut_ap, argE_bt, argE_bf, argE_fz, argE_nil, eTup_ap, eLst_ap, tupK_ap, lstK_ap, eDct_ap, eSl_ap, slK_ap, slK1_ap, slK2_ap, pN_ap, pI_ap, tTr_ap, tAn_ap, tO_ap, andK_t, andK_f, orK_t, orK_f, iT_ap, iV_ap, iterD_l, iterD_t, iR1_ap, sRet_ap, rtK_ap, sN_ap, sBk_ap, sIf_ap, ifK_t, ifK_f, sSet_ap, setK_o, stM_n, stM_f, stM_m, stM_o, sAsg_ap, sApp_apt, sApp_apf, appK_apt, appK_apf, sSt_ap, stK_ap, stKK_apt, stKK_apf, sFor_ap, eLc_ap, eMt_ap, mtK_ap, mtK1_ap, tgName_ap, tgTup_ap, tgCons_ap, tgThen_ap, tgNil_ap, seq_eq, bind_eq, thenO_ok, ret_eq, seqO_nx, seqO_rt, seqO_bk, rdL, rdO_o, rdO_s, O.view, Mu.view, muSet, muApp, hIx, ixD, hAdd, hLen, hI, hInt, hAbs, hCmp, hMax2, hTuple, hSl, hEq, hNe, flatD, PyData.eqv, tru_b, asInt_o, asInt_s, cutL_1, atI_0, atI_1, atI_2], by simp [freeV], by simp [wipeR, List.mapIdx, List.mapIdx.go]⟩) (by simp [freeV]) (by simp [wipeR, List.mapIdx, List.mapIdx.go]) (by simp [backR, List.mapIdx, List.mapIdx.go]) few
  have hf : (ss.map fun p => PyData.str p.1).all flatD = true := by simp [flatD]
  have hm : hIndex (.mu false (.lst (ss.map fun p => .str p.1))) [.fz (.str w)] = some (.fz (.int (i : Nat))) := hIndex_ap hf e1
  rw [← e3] at hm
  have hd : drM "list" hIndex (.o (.mu false (.lst (ss.map fun p => .str p.1)))) [.s 1] [some (.fz (.tuple (sgD ss))), some (.fz (.str w)), none, none] = some (.ok (.o (.fz (.int (rkD ss w)))) [some (.fz (.tuple (sgD ss))), some (.fz (.str w)), none, none]) := drM_ap rfl rfl rfl hm
  have hc : ckM "list" (.o (.mu false (.lst (ss.map fun p => .str p.1)))) [some (.fz (.tuple (sgD ss))), some (.fz (.str w)), none, none] = some (.ok (.o (.mu false (.lst (ss.map fun p => .str p.1)))) [some (.fz (.tuple (sgD ss))), some (.fz (.str w)), none, none]) := ckM_ap rfl rfl
  simp [g_rank_of, f_rank_of, defG_ap, okArg, defOut, resO, keepB, keepF, List.mapIdx, List.mapIdx.go, eV_ap, eC_ap, dr2O_ap, dr2_ap, dr2P_ap, eOp_ap, eOpK_ap, dr2B_ap, dr2BP_ap, dr2BO_ap, eTs_ap, eTsK_ap, dr1_ap, dr1P_ap, eUn_ap, drN_ap, drNP_ap, eCN_ap, lN_ap, lC_ap, lCK_ap, consR_ap, aN_ap, aC_ap, aCK_ap, consD_ap, frz_o, frz_m, frz_sf, frz_sm, gN_ap, gF_ap, gFK_ap, consG_ap, gB_ap, eCall_ap, callN_ap, callA_ap, callOut_ap, argE_bt, argE_bf, argE_fz, argE_nil, eTup_ap, eLst_ap, tupK_ap, lstK_ap, eDct_ap, eSl_ap, slK_ap, slK1_ap, slK2_ap, pN_ap, pI_ap, tTr_ap, tAn_ap, tO_ap, andK_t, andK_f, orK_t, orK_f, iT_ap, iV_ap, iterD_l, iterD_t, iR1_ap, sRet_ap, rtK_ap, sN_ap, sBk_ap, sIf_ap, ifK_t, ifK_f, sSet_ap, setK_o, stM_n, stM_f, stM_m, stM_o, sAsg_ap, sApp_apt, sApp_apf, appK_apt, appK_apf, sSt_ap, stK_ap, stKK_apt, stKK_apf, sFor_ap, eLc_ap, eMt_ap, mtK_ap, mtK1_ap, tgName_ap, tgTup_ap, tgCons_ap, tgThen_ap, tgNil_ap, seq_eq, bind_eq, thenO_ok, ret_eq, seqO_nx, seqO_rt, seqO_bk, rdL, rdO_o, rdO_s, O.view, Mu.view, muSet, muApp, hIx, ixD, hAdd, hLen, hI, hInt, hAbs, hCmp, hMax2, hTuple, hSl, hEq, hNe, flatD, PyData.eqv, tru_b, asInt_o, asInt_s, cutL_1, atI_0, atI_1, atI_2, hn, hc, hd]
end VsG

namespace VsG
open PySem PySem.Spec L2 Vs
theorem forF_any {h : PyData → M Fl} {fb : M Fl} (J : List PyData → Rho → Prop) (P : Rf → Rho → Prop)
    (step : ∀ d ds ρ, J (d :: ds) ρ → ∃ ρ1, h d ρ = some (.ok .nx ρ1) ∧ ((∃ ρ2, fb ρ1 = some (.ok .nx ρ2) ∧ J ds ρ2) ∨ ∃ r ρ2, fb ρ1 = some (.ok (.rt r) ρ2) ∧ P r ρ2)) :
    ∀ (ds : List PyData) (ρ : Rho), J ds ρ → (∃ ρ', forF h fb ds ρ = some (.ok .nx ρ') ∧ J [] ρ') ∨ ∃ r ρ', forF h fb ds ρ = some (.ok (.rt r) ρ') ∧ P r ρ'
  | [], ρ, j => .inl ⟨ρ, rfl, j⟩
  | d :: ds, ρ, j => by
    obtain ⟨ρ1, e1, h2⟩ := step d ds ρ j
    rcases h2 with ⟨ρ2, e2, j2⟩ | ⟨r, ρ2, e2, j2⟩
    · have e : forF h fb (d :: ds) ρ = forF h fb ds ρ2 := by
        show forH fb (forF h fb ds) (h d ρ) = _
        rw [e1]
        show forK (forF h fb ds) (fb ρ1) = _
        rw [e2]; rfl
      rw [e]
      exact forF_any J P step ds ρ2 j2
    · refine .inr ⟨r, ρ2, ?_, j2⟩
      show forH fb (forF h fb ds) (h d ρ) = _
      rw [e1]
      show forK (forF h fb ds) (fb ρ1) = _
      rw [e2]; rfl
mutual
def keyD (ss : List (Str × Int)) : PyData → PyData
  | .tuple ds => .tuple (keyT ss ds)
  | _ => .none
def keyT (ss : List (Str × Int)) : List PyData → List PyData
  | .str w :: ds => .int (1 + szs ds) :: .int (rkD ss w) :: keys ss ds
  | _ => []
def keys (ss : List (Str × Int)) : List PyData → List PyData
  | [] => []
  | d :: ds => keyD ss d :: keys ss ds
end
theorem keys_map (ss : List (Str × Int)) (ds : List PyData) : keys ss ds = ds.map (keyD ss) := by
  induction ds with
  | nil => rfl
  | cons d ds ih => simp [keys, ih]
theorem keyD_eq (ss : List (Str × Int)) (w : Str) (ds : List PyData) : keyD ss (.tuple (.str w :: ds)) = .tuple (.int (1 + szs ds) :: .int (rkD ss w) :: ds.map (keyD ss)) := by
  rw [← keys_map]; rfl
theorem szD_eq (w : Str) (ds : List PyData) : szD (.tuple (.str w :: ds)) = 1 + szs ds := rfl
theorem key_ok {ss : List (Str × Int)} (S : Sgn ss) (few : ss.length ≤ 100) : ∀ (n k : Nat) (d : PyData), k + 1 < n → Tr ss k d →
    g__law_key n [some (.fz (.tuple (sgD ss))), some (.fz d)] = some (.ok (.fz (keyD ss d)) [some (.fz (.tuple (sgD ss))), some (.fz d)])
  | 0, _, _, h, _ => absurd h (Nat.not_lt_zero _)
  | n + 1, k, d, h, ht => by
    obtain ⟨w, a, ds, m, rfl, rfl, hw, hl, hd⟩ := tr_cases ht
    have ih := fun x hx => key_ok S few n m x (by omega) (hd x hx)
    have hf := few2 S hw hl
    obtain ⟨i, e1, e2, e3⟩ := rk_of S hw
    have hsz := size_ok S n (m + 1) (.tuple (.str w :: ds)) (by omega) ht
    rw [szD_eq] at hsz
    generalize hT : PyData.tuple (sgD ss) = sg at *
    generalize hN : (ss.map fun p => PyData.str p.1) = N at *
    have hn : lcM [3, 4] (tgTup 2 (tgCons (tgName 3) (tgCons (tgName 4) tgNil))) iT ((eV 3).bind frz) (sgD ss) [some (.fz sg), some (.fz (.tuple (.str w :: ds))), none, none, none, none] = some (.ok (.o (.mu false (.lst N))) [some (.fz sg), some (.fz (.tuple (.str w :: ds))), none, none, none, none]) := by
      rw [← hN]
      exact names2_ap (ss := ss) (A := []) (B := []) (i := 3) (j := 4) (f := fun _ => none) (ρ := [some (.fz sg), some (.fz (.tuple (.str w :: ds))), none, none, none, none]) (fun p hp =>
        ⟨[some (.fz sg), some (.fz (.tuple (.str w :: ds))), none, some (.fz (.str p.1)), some (.fz (.int p.2)), none], by simp [eV_ap, eC_ap, dr2O_ap, dr2_ap, dr2P_ap, eOp_ap, eOpK_ap, dr2B_ap, dr2BP_ap, dr2BO_ap, eTs_ap, eTsK_ap, dr1_ap, dr1P_ap, eUn_ap, drN_ap, drNP_ap, eCN_ap, lN_ap, lC_ap, lCK_ap, consR_ap, aN_ap, aC_ap, aCK_ap, consD_ap, frz_o, frz_m, frz_sf, frz_sm, gN_ap, gF_ap, gFK_ap, consG_ap, gB_ap, eCall_ap, callN_ap, callA_ap, callOut_ap, argE_bt, argE_bf, argE_fz, argE_nil, eTup_ap, eLst_ap, tupK_ap, lstK_ap, eDct_ap, eSl_ap, slK_ap, slK1_ap, slK2_ap, pN_ap, pI_ap, tTr_ap, tAn_ap, tO_ap, andK_t, andK_f, orK_t, orK_f, iT_ap, iV_ap, iterD_l, iterD_t, iR1_ap, sRet_ap, rtK_ap, sN_ap, sBk_ap, sIf_ap, ifK_t, ifK_f, sSet_ap, setK_o, stM_n, stM_f, stM_m, stM_o, sAsg_ap, sApp_apt, sApp_apf, appK_apt, appK_apf, sSt_ap, stK_ap, stKK_apt, stKK_apf, sFor_ap, eLc_ap, eMt_ap, mtK_ap, mtK1_ap, tgName_ap, tgTup_ap, tgCons_ap, tgThen_ap, tgNil_ap, seq_eq, bind_eq, thenO_ok, ret_eq, seqO_nx, seqO_rt, seqO_bk, rdL, rdO_o, rdO_s, O.view, Mu.view, muSet, muApp, hIx, ixD, hAdd, hLen, hI, hInt, hAbs, hCmp, hMax2, hTuple, hSl, hEq, hNe, flatD, PyData.eqv, tru_b, asInt_o, asInt_s, cutL_1, atI_0, atI_1, atI_2], by simp [eV_ap, eC_ap, dr2O_ap, dr2_ap, dr2P_ap, eOp_ap, eOpK_ap, dr2B_ap, dr2BP_ap, dr2BO_ap, eTs_ap, eTsK_ap, dr1_ap, dr1P_ap, eUn_ap, drN_ap, drNP_ap, eCN_ap, lN_ap, lC_ap, lCK_ap, consR_ap, aN_ap, aC_ap, aCK_ap, consD_ap, frz_o, frz_m, frz_sf, frz_sm, gN_ap, gF_ap, gFK_ap, consG_ap, gB_ap, eCall_ap, callN_ap, callA_ap, callOut_ap, argE_bt, argE_bf, argE_fz, argE_nil, eTup_ap, eLst_ap, tupK_ap, lstK_ap, eDct_ap, eSl_ap, slK_ap, slK1_ap, slK2_ap, pN_ap, pI_ap, tTr_ap, tAn_ap, tO_ap, andK_t, andK_f, orK_t, orK_f, iT_ap, iV_ap, iterD_l, iterD_t, iR1_ap, sRet_ap, rtK_ap, sN_ap, sBk_ap, sIf_ap, ifK_t, ifK_f, sSet_ap, setK_o, stM_n, stM_f, stM_m, stM_o, sAsg_ap, sApp_apt, sApp_apf, appK_apt, appK_apf, sSt_ap, stK_ap, stKK_apt, stKK_apf, sFor_ap, eLc_ap, eMt_ap, mtK_ap, mtK1_ap, tgName_ap, tgTup_ap, tgCons_ap, tgThen_ap, tgNil_ap, seq_eq, bind_eq, thenO_ok, ret_eq, seqO_nx, seqO_rt, seqO_bk, rdL, rdO_o, rdO_s, O.view, Mu.view, muSet, muApp, hIx, ixD, hAdd, hLen, hI, hInt, hAbs, hCmp, hMax2, hTuple, hSl, hEq, hNe, flatD, PyData.eqv, tru_b, asInt_o, asInt_s, cutL_1, atI_0, atI_1, atI_2], by simp [freeV], by simp [wipeR, List.mapIdx, List.mapIdx.go]⟩) (by simp [freeV]) (by simp [wipeR, List.mapIdx, List.mapIdx.go]) (by simp [backR, List.mapIdx, List.mapIdx.go]) few
    have hiv : iV (eV 0) [some (.fz sg), some (.fz (.tuple (.str w :: ds))), none, none, none, none] = some (.ok (sgD ss) [some (.fz sg), some (.fz (.tuple (.str w :: ds))), none, none, none, none]) := by
      rw [← hT]; simp [eV_ap, eC_ap, dr2O_ap, dr2_ap, dr2P_ap, eOp_ap, eOpK_ap, dr2B_ap, dr2BP_ap, dr2BO_ap, eTs_ap, eTsK_ap, dr1_ap, dr1P_ap, eUn_ap, drN_ap, drNP_ap, eCN_ap, lN_ap, lC_ap, lCK_ap, consR_ap, aN_ap, aC_ap, aCK_ap, consD_ap, frz_o, frz_m, frz_sf, frz_sm, gN_ap, gF_ap, gFK_ap, consG_ap, gB_ap, eCall_ap, callN_ap, callA_ap, callOut_ap, argE_bt, argE_bf, argE_fz, argE_nil, eTup_ap, eLst_ap, tupK_ap, lstK_ap, eDct_ap, eSl_ap, slK_ap, slK1_ap, slK2_ap, pN_ap, pI_ap, tTr_ap, tAn_ap, tO_ap, andK_t, andK_f, orK_t, orK_f, iT_ap, iV_ap, iterD_l, iterD_t, iR1_ap, sRet_ap, rtK_ap, sN_ap, sBk_ap, sIf_ap, ifK_t, ifK_f, sSet_ap, setK_o, stM_n, stM_f, stM_m, stM_o, sAsg_ap, sApp_apt, sApp_apf, appK_apt, appK_apf, sSt_ap, stK_ap, stKK_apt, stKK_apf, sFor_ap, eLc_ap, eMt_ap, mtK_ap, mtK1_ap, tgName_ap, tgTup_ap, tgCons_ap, tgThen_ap, tgNil_ap, seq_eq, bind_eq, thenO_ok, ret_eq, seqO_nx, seqO_rt, seqO_bk, rdL, rdO_o, rdO_s, O.view, Mu.view, muSet, muApp, hIx, ixD, hAdd, hLen, hI, hInt, hAbs, hCmp, hMax2, hTuple, hSl, hEq, hNe, flatD, PyData.eqv, tru_b, asInt_o, asInt_s, cutL_1, atI_0, atI_1, atI_2]
    have hp := parts_ap (i := 0) (v := 5) (fe := eCall (g__law_key n) 2 (gF (eV 0) (gF (eV 5) gN))) (ρ := [some (.fz sg), some (.fz (.tuple (.str w :: ds))), some (.mu false (.lst N)), none, none, none]) (keyD ss) (by simp [freeV]) (by simp [wipeR, List.mapIdx, List.mapIdx.go]) (by simp [backR, List.mapIdx, List.mapIdx.go]) (Nat.le_trans hf (by decide)) (fun x hx =>
      ⟨[some (.fz sg), some (.fz (.tuple (.str w :: ds))), some (.mu false (.lst N)), none, none, some (.fz x)], by simp [eV_ap, eC_ap, dr2O_ap, dr2_ap, dr2P_ap, eOp_ap, eOpK_ap, dr2B_ap, dr2BP_ap, dr2BO_ap, eTs_ap, eTsK_ap, dr1_ap, dr1P_ap, eUn_ap, drN_ap, drNP_ap, eCN_ap, lN_ap, lC_ap, lCK_ap, consR_ap, aN_ap, aC_ap, aCK_ap, consD_ap, frz_o, frz_m, frz_sf, frz_sm, gN_ap, gF_ap, gFK_ap, consG_ap, gB_ap, eCall_ap, callN_ap, callA_ap, callOut_ap, argE_bt, argE_bf, argE_fz, argE_nil, eTup_ap, eLst_ap, tupK_ap, lstK_ap, eDct_ap, eSl_ap, slK_ap, slK1_ap, slK2_ap, pN_ap, pI_ap, tTr_ap, tAn_ap, tO_ap, andK_t, andK_f, orK_t, orK_f, iT_ap, iV_ap, iterD_l, iterD_t, iR1_ap, sRet_ap, rtK_ap, sN_ap, sBk_ap, sIf_ap, ifK_t, ifK_f, sSet_ap, setK_o, stM_n, stM_f, stM_m, stM_o, sAsg_ap, sApp_apt, sApp_apf, appK_apt, appK_apf, sSt_ap, stK_ap, stKK_apt, stKK_apf, sFor_ap, eLc_ap, eMt_ap, mtK_ap, mtK1_ap, tgName_ap, tgTup_ap, tgCons_ap, tgThen_ap, tgNil_ap, seq_eq, bind_eq, thenO_ok, ret_eq, seqO_nx, seqO_rt, seqO_bk, rdL, rdO_o, rdO_s, O.view, Mu.view, muSet, muApp, hIx, ixD, hAdd, hLen, hI, hInt, hAbs, hCmp, hMax2, hTuple, hSl, hEq, hNe, flatD, PyData.eqv, tru_b, asInt_o, asInt_s, cutL_1, atI_0, atI_1, atI_2], by simp [eV_ap, eC_ap, dr2O_ap, dr2_ap, dr2P_ap, eOp_ap, eOpK_ap, dr2B_ap, dr2BP_ap, dr2BO_ap, eTs_ap, eTsK_ap, dr1_ap, dr1P_ap, eUn_ap, drN_ap, drNP_ap, eCN_ap, lN_ap, lC_ap, lCK_ap, consR_ap, aN_ap, aC_ap, aCK_ap, consD_ap, frz_o, frz_m, frz_sf, frz_sm, gN_ap, gF_ap, gFK_ap, consG_ap, gB_ap, eCall_ap, callN_ap, callA_ap, callOut_ap, argE_bt, argE_bf, argE_fz, argE_nil, eTup_ap, eLst_ap, tupK_ap, lstK_ap, eDct_ap, eSl_ap, slK_ap, slK1_ap, slK2_ap, pN_ap, pI_ap, tTr_ap, tAn_ap, tO_ap, andK_t, andK_f, orK_t, orK_f, iT_ap, iV_ap, iterD_l, iterD_t, iR1_ap, sRet_ap, rtK_ap, sN_ap, sBk_ap, sIf_ap, ifK_t, ifK_f, sSet_ap, setK_o, stM_n, stM_f, stM_m, stM_o, sAsg_ap, sApp_apt, sApp_apf, appK_apt, appK_apf, sSt_ap, stK_ap, stKK_apt, stKK_apf, sFor_ap, eLc_ap, eMt_ap, mtK_ap, mtK1_ap, tgName_ap, tgTup_ap, tgCons_ap, tgThen_ap, tgNil_ap, seq_eq, bind_eq, thenO_ok, ret_eq, seqO_nx, seqO_rt, seqO_bk, rdL, rdO_o, rdO_s, O.view, Mu.view, muSet, muApp, hIx, ixD, hAdd, hLen, hI, hInt, hAbs, hCmp, hMax2, hTuple, hSl, hEq, hNe, flatD, PyData.eqv, tru_b, asInt_o, asInt_s, cutL_1, atI_0, atI_1, atI_2, callBO_t, brOk_n, brOk_f, brOk_b, brAt_n, brAt_f, brAt_b, back, backF, List.mapIdx, List.mapIdx.go, ih x hx], by simp [freeV], by simp [wipeR, List.mapIdx, List.mapIdx.go]⟩)
    have hfl : N.all flatD = true := by rw [← hN]; simp [flatD]
    have hm : hIndex (.mu false (.lst N)) [.fz (.str w)] = some (.fz (.int (i : Nat))) := hIndex_ap hfl e1
    rw [← e3] at hm
    have hx0 : hIx (.fz (.tuple (.str w :: ds))) (.fz (.int 0)) = some (.fz (.str w)) := by
      show (atI (PyData.str w :: ds) 0).map O.fz = _
      rw [atI_0]; rfl
    have hs : hSl (.fz (.tuple (.str w :: ds))) (some 1) none = some (.fz (.tuple ds)) := by
      show some (O.fz (.tuple (cutL (.str w :: ds) (some 1) none))) = _
      rw [cutL_1]
    have hd0 : drM "list" hIndex (.s 2) [.o (.fz (.str w))] [some (.fz sg), some (.fz (.tuple (.str w :: ds))), some (.mu false (.lst N)), none, none, none] = some (.ok (.o (.fz (.int (rkD ss w)))) [some (.fz sg), some (.fz (.tuple (.str w :: ds))), some (.mu false (.lst N)), none, none, none]) := drM_ap rfl rfl rfl hm
    have hc : ckM "list" (.s 2) [some (.fz sg), some (.fz (.tuple (.str w :: ds))), some (.mu false (.lst N)), none, none, none] = some (.ok (.s 2) [some (.fz sg), some (.fz (.tuple (.str w :: ds))), some (.mu false (.lst N)), none, none, none]) := ckM_ap rfl rfl
    have had : hAdd (.mu false (.lst [.int (1 + szs ds), .int (rkD ss w)])) (.mu false (.lst (ds.map (keyD ss)))) = some (.mu false (.lst (.int (1 + szs ds) :: .int (rkD ss w) :: ds.map (keyD ss)))) := hAdd_l (by simp; omega)
    have htp : hTuple [.mu false (.lst (.int (1 + szs ds) :: .int (rkD ss w) :: ds.map (keyD ss)))] = some (.fz (keyD ss (.tuple (.str w :: ds)))) := by rw [keyD_eq]; rfl
    generalize keyD ss (.tuple (.str w :: ds)) = KK at *
    generalize ds.map (keyD ss) = KS at *
    have b1 : sSet 2 (eLc [3, 4] (iV (eV 0)) (tgTup 2 (tgCons (tgName 3) (tgCons (tgName 4) tgNil))) iT (eV 3)) [some (.fz sg), some (.fz (.tuple (.str w :: ds))), none, none, none, none] = some (.ok .nx [some (.fz sg), some (.fz (.tuple (.str w :: ds))), some (.mu false (.lst N)), none, none, none]) := by
      rw [sSet_ap, eLc_ap, hiv, thenO_ok, hn, thenO_ok, setK_o]
      simp [stM_n]
    have body : g__law_key (n + 1) [some (.fz sg), some (.fz (.tuple (.str w :: ds)))] = defOut [some (.fz sg), some (.fz (.tuple (.str w :: ds)))] (f__law_key n (g__law_key n) [some (.fz sg), some (.fz (.tuple (.str w :: ds))), none, none, none, none]) := rfl
    rw [body]
    unfold f__law_key
    rw [seq_eq, b1, seqO_nx]
    simp [eV_ap, eC_ap, dr2O_ap, dr2_ap, dr2P_ap, eOp_ap, eOpK_ap, dr2B_ap, dr2BP_ap, dr2BO_ap, eTs_ap, eTsK_ap, dr1_ap, dr1P_ap, eUn_ap, drN_ap, drNP_ap, eCN_ap, lN_ap, lC_ap, lCK_ap, consR_ap, aN_ap, aC_ap, aCK_ap, consD_ap, frz_o, frz_m, frz_sf, frz_sm, gN_ap, gF_ap, gFK_ap, consG_ap, gB_ap, eCall_ap, callN_ap, callA_ap, callOut_ap, argE_bt, argE_bf, argE_fz, argE_nil, eTup_ap, eLst_ap, tupK_ap, lstK_ap, eDct_ap, eSl_ap, slK_ap, slK1_ap, slK2_ap, pN_ap, pI_ap, tTr_ap, tAn_ap, tO_ap, andK_t, andK_f, orK_t, orK_f, iT_ap, iV_ap, iterD_l, iterD_t, iR1_ap, sRet_ap, rtK_ap, sN_ap, sBk_ap, sIf_ap, ifK_t, ifK_f, sSet_ap, setK_o, stM_n, stM_f, stM_m, stM_o, sAsg_ap, sApp_apt, sApp_apf, appK_apt, appK_apf, sSt_ap, stK_ap, stKK_apt, stKK_apf, sFor_ap, eLc_ap, eMt_ap, mtK_ap, mtK1_ap, tgName_ap, tgTup_ap, tgCons_ap, tgThen_ap, tgNil_ap, seq_eq, bind_eq, thenO_ok, ret_eq, seqO_nx, seqO_rt, seqO_bk, rdL, rdO_o, rdO_s, callBO_t, brOk_n, brOk_f, brOk_b, brAt_n, brAt_f, brAt_b, back, backF, List.mapIdx, List.mapIdx.go, hsz, hx0, hc, hd0, hs, asInt_o, hp, had, htp, defOut, resO, keepB, keepF]
/-! ### the order -/
open PySem.W in
def Cmp (c : Int) (x y : PyData) : Prop := (c = 0 ∧ x = y) ∨ (c = -1 ∧ dataLt x y = true ∧ dataLt y x = false ∧ PyData.eqv x y = false) ∨ (c = 1 ∧ dataLt x y = false ∧ dataLt y x = true ∧ PyData.eqv x y = false)
abbrev KL (xs ys : List PyData) : Bool := PyProof.Rows.lexLt PyProof.Rows.itemOrd (PySem.W.keyToksAll xs) (PySem.W.keyToksAll ys)
def CmpL (c : Int) (xs ys : List PyData) : Prop := (c = 0 ∧ xs = ys) ∨ (c = -1 ∧ KL xs ys = true ∧ KL ys xs = false ∧ PyData.eqvAll xs ys = false) ∨ (c = 1 ∧ KL xs ys = false ∧ KL ys xs = true ∧ PyData.eqvAll xs ys = false)
theorem CmpL.tup {c : Int} {xs ys : List PyData} (h : CmpL c xs ys) : Cmp c (.tuple xs) (.tuple ys) := by
  have e : PyData.eqv (.tuple xs) (.tuple ys) = PyData.eqvAll xs ys := by simp [PyData.eqv]
  rcases h with ⟨a, b⟩ | ⟨a, b, c, d⟩ | ⟨a, b, c, d⟩
  · exact .inl ⟨a, by rw [b]⟩
  · exact .inr (.inl ⟨a, by rw [PySem.W.dataLt_tuple]; exact b, by rw [PySem.W.dataLt_tuple]; exact c, by rw [e]; exact d⟩)
  · exact .inr (.inr ⟨a, by rw [PySem.W.dataLt_tuple]; exact b, by rw [PySem.W.dataLt_tuple]; exact c, by rw [e]; exact d⟩)
theorem CmpL.same {c : Int} {x : PyData} {xs ys : List PyData} (ha : PySem.W.alike x x = true) (h : CmpL c xs ys) : CmpL c (x :: xs) (x :: ys) := by
  have ev := PySem.W.eqv_refl_alike x ha
  have k1 : KL (x :: xs) (x :: ys) = KL xs ys := PySem.W.dataLt_all_yes ha ev
  have k2 : KL (x :: ys) (x :: xs) = KL ys xs := PySem.W.dataLt_all_yes ha ev
  have k3 : PyData.eqvAll (x :: xs) (x :: ys) = PyData.eqvAll xs ys := by rw [PySem.W.eqv_all_cons, ev]; rfl
  unfold CmpL
  rw [k1, k2, k3]
  rcases h with ⟨a, b⟩ | h | h
  · exact .inl ⟨a, by rw [b]⟩
  · exact .inr (.inl h)
  · exact .inr (.inr h)
theorem CmpL.diff {c : Int} {x y : PyData} {xs ys : List PyData} (ha : PySem.W.alike x y = true) (h0 : c ≠ 0) (h : Cmp c x y) : CmpL c (x :: xs) (y :: ys) := by
  have ha2 : PySem.W.alike y x = true := by rw [PySem.W.alike_comm]; exact ha
  rcases h with ⟨a, _⟩ | ⟨a, b, c, d⟩ | ⟨a, b, c, d⟩
  · exact absurd a h0
  · have d2 : PyData.eqv y x = false := by rw [PySem.W.eqv_comm]; exact d
    exact .inr (.inl ⟨a, (PySem.W.dataLt_all_no ha d).trans b, (PySem.W.dataLt_all_no ha2 d2).trans c, by rw [PySem.W.eqv_all_cons, d]; rfl⟩)
  · have d2 : PyData.eqv y x = false := by rw [PySem.W.eqv_comm]; exact d
    exact .inr (.inr ⟨a, (PySem.W.dataLt_all_no ha d).trans b, (PySem.W.dataLt_all_no ha2 d2).trans c, by rw [PySem.W.eqv_all_cons, d]; rfl⟩)
theorem cmp_int {i j : Int} (h : i ≠ j) : Cmp (if i < j then -1 else 1) (.int i) (.int j) := by
  have e : PyData.eqv (.int i) (.int j) = false := by
    simp only [PyData.eqv]
    exact beq_eq_false_iff_ne.mpr h
  by_cases hl : i < j
  · rw [if_pos hl]
    exact .inr (.inl ⟨rfl, by rw [PySem.W.dataLt_int]; exact decide_eq_true hl, by rw [PySem.W.dataLt_int]; exact decide_eq_false (by omega), e⟩)
  · rw [if_neg hl]
    exact .inr (.inr ⟨rfl, by rw [PySem.W.dataLt_int]; exact decide_eq_false hl, by rw [PySem.W.dataLt_int]; exact decide_eq_true (by omega), e⟩)
theorem keys_alike {ss : List (Str × Int)} : ∀ (k : Nat) (a b : PyData) (l : Nat), Tr ss k a → Tr ss l b → PySem.W.alike (keyD ss a) (keyD ss b) = true
  | 0, a, _, _, ha, _ => by obtain ⟨_, _, _, m, h, _⟩ := tr_cases ha; cases h
  | k + 1, a, b, l, ha, hb => by
    obtain ⟨w, x, ds, m, hm, rfl, _, _, hd⟩ := tr_cases ha
    obtain ⟨w', x', es, m', rfl, rfl, _, _, he⟩ := tr_cases hb
    cases hm
    have key : ∀ (ds es : List PyData), (∀ x ∈ ds, Tr ss k x) → (∀ x ∈ es, Tr ss m' x) → PySem.W.alikeAll (ds.map (keyD ss)) (es.map (keyD ss)) = true := by
      intro ds
      induction ds with
      | nil => intro es _ _; simp [PySem.W.alikeAll]
      | cons d ds ih =>
        intro es h1 h2
        cases es with
        | nil => simp [PySem.W.alikeAll]
        | cons e es =>
          have a1 := keys_alike k d e m' (h1 d (List.mem_cons_self ..)) (h2 e (List.mem_cons_self ..))
          have a2 := ih es (fun x hx => h1 x (List.mem_cons_of_mem _ hx)) (fun x hx => h2 x (List.mem_cons_of_mem _ hx))
          simp [PySem.W.alikeAll, a1, a2]
    rw [keyD_eq, keyD_eq]
    have := key ds es hd he
    simp [PySem.W.alike, PySem.W.alikeAll, this]
end VsG

namespace VsG
open PySem PySem.Spec L2 Vs
def ifRK (f g : M Rf) (k : Bool) : M Rf := if k then f else g
theorem eIf_ap {t : M Bool} {f g : M Rf} {ρ : Rho} : eIf t f g ρ = thenO (t ρ) (ifRK f g) := rfl
theorem ifRK_t {f g : M Rf} {ρ : Rho} : ifRK f g true ρ = f ρ := rfl
theorem ifRK_f {f g : M Rf} {ρ : Rho} : ifRK f g false ρ = g ρ := rfl
theorem pair_ne {s r s' r' : Int} : hNe (.fz (.tuple [.int s, .int r])) (.fz (.tuple [.int s', .int r'])) = some (.fz (.bool (!((s == s') && (r == r'))))) := by
  have d1 : ∀ (x y : Int), deepD (.tuple [.int x, .int y]) = true := fun x y => by simp [deepD, PyData.canLay0, PyData.canLayAll0, PyData.depth, PyData.depthAll]
  have e : PyData.eqv (.tuple [.int s, .int r]) (.tuple [.int s', .int r']) = ((s == s') && (r == r')) := by simp [PyData.eqv, PyData.eqvAll]
  show (if (flatD (.tuple [.int s, .int r]) && flatD (.tuple [.int s', .int r']) || deepD (.tuple [.int s, .int r]) && deepD (.tuple [.int s', .int r'])) = true then some (O.fz (.bool (!PyData.eqv (.tuple [.int s, .int r]) (.tuple [.int s', .int r'])))) else none) = _
  rw [if_pos (by rw [d1, d1]; rfl), e]
theorem pair_lt {s r s' r' : Int} : hOrd false (.fz (.tuple [.int s, .int r])) (.fz (.tuple [.int s', .int r'])) = some (.fz (.bool (PySem.W.dataLt (.tuple [.int s, .int r]) (.tuple [.int s', .int r'])))) := by
  have c : ordC (.tuple [.int s, .int r]) (.tuple [.int s', .int r']) = true := by simp [ordC, PySem.W.alike, PySem.W.alikeAll, PyData.depth, PyData.depthAll]
  show (if ordC (.tuple [.int s, .int r]) (.tuple [.int s', .int r']) = true then some (O.fz (.bool (if false = true then PySem.W.dataLt (.tuple [.int s', .int r']) (.tuple [.int s, .int r]) else PySem.W.dataLt (.tuple [.int s, .int r]) (.tuple [.int s', .int r'])))) else none) = _
  rw [if_pos c]; rfl
theorem al_int (i j : Int) : PySem.W.alike (.int i) (.int j) = true := by simp [PySem.W.alike]
abbrev cmB (self : M O) : M Fl := (sSeq (sSet 7 (eCall self 3 (gF (eV 0) (gF (eV 5) (gF (eV 6) gN)))))
    (sIf (eTs hNe (eV 7) (eC (.int 0))) (sRet (eV 7)) sN))
theorem cmLoop {ss : List (Str × Int)} {m : Nat} {self : M O} {sg a b pa pb : PyData}
    (ih : ∀ x y, Tr ss m x → Tr ss m y → ∃ c, Cmp c (keyD ss x) (keyD ss y) ∧ self [some (.fz sg), some (.fz x), some (.fz y)] = some (.ok (.fz (.int c)) [some (.fz sg), some (.fz x), some (.fz y)]))
    (ds es : List PyData) (hl : ds.length = es.length) (hd : ∀ x ∈ ds, Tr ss m x) (he : ∀ x ∈ es, Tr ss m x) :
    ∃ c ρ', CmpL c (ds.map (keyD ss)) (es.map (keyD ss)) ∧ ((c = 0 ∧ forF (tgTup 2 (tgCons (tgName 5) (tgCons (tgName 6) tgNil))) (cmB self) (zipD ds es) [some (.fz sg), some (.fz a), some (.fz b), some (.fz pa), some (.fz pb), none, none, none] = some (.ok .nx ρ')) ∨
      (forF (tgTup 2 (tgCons (tgName 5) (tgCons (tgName 6) tgNil))) (cmB self) (zipD ds es) [some (.fz sg), some (.fz a), some (.fz b), some (.fz pa), some (.fz pb), none, none, none] = some (.ok (.rt (.s 7)) ρ') ∧ ρ'[7]? = some (some (.fz (.int c))))) := by
  have := forF_any (h := tgTup 2 (tgCons (tgName 5) (tgCons (tgName 6) tgNil))) (fb := cmB self)
    (fun dz ρ => ∃ (xs ys : List PyData) (x5 x6 x7 : Option O), dz = zipD xs ys ∧ xs.length = ys.length ∧ (∀ x ∈ xs, Tr ss m x) ∧ (∀ y ∈ ys, Tr ss m y) ∧ (∀ c, CmpL c (xs.map (keyD ss)) (ys.map (keyD ss)) → CmpL c (ds.map (keyD ss)) (es.map (keyD ss))) ∧ Fr x5 ∧ Fr x6 ∧ Fr x7 ∧ ρ = [some (.fz sg), some (.fz a), some (.fz b), some (.fz pa), some (.fz pb), x5, x6, x7])
    (fun r ρ => ∃ c, r = .s 7 ∧ CmpL c (ds.map (keyD ss)) (es.map (keyD ss)) ∧ ρ[7]? = some (some (.fz (.int c))))
    (fun d dz ρ ⟨xs, ys, x5, x6, x7, ez, el, hx, hy, hk, f5, f6, f7, er⟩ => by
      subst er
      cases xs with
      | nil => simp [zipD] at ez
      | cons x xs =>
        cases ys with
        | nil => simp [zipD] at ez
        | cons y ys =>
          simp only [zipD, List.cons.injEq] at ez
          obtain ⟨rfl, rfl⟩ := ez
          obtain ⟨c, hc, e⟩ := ih x y (hx x (List.mem_cons_self ..)) (hy y (List.mem_cons_self ..))
          have hal := keys_alike m x y m (hx x (List.mem_cons_self ..)) (hy y (List.mem_cons_self ..))
          refine ⟨[some (.fz sg), some (.fz a), some (.fz b), some (.fz pa), some (.fz pb), some (.fz x), some (.fz y), x7], ?_, ?_⟩
          · simp [eV_ap, eC_ap, dr2O_ap, dr2_ap, dr2P_ap, eOp_ap, eOpK_ap, dr2B_ap, dr2BP_ap, dr2BO_ap, eTs_ap, eTsK_ap, dr1_ap, dr1P_ap, eUn_ap, drN_ap, drNP_ap, eCN_ap, lN_ap, lC_ap, lCK_ap, consR_ap, aN_ap, aC_ap, aCK_ap, consD_ap, frz_o, frz_m, frz_sf, frz_sm, gN_ap, gF_ap, gFK_ap, consG_ap, gB_ap, eCall_ap, callN_ap, callA_ap, callOut_ap, argE_bt, argE_bf, argE_fz, argE_nil, eTup_ap, eLst_ap, tupK_ap, lstK_ap, eDct_ap, eSl_ap, slK_ap, slK1_ap, slK2_ap, pN_ap, pI_ap, tTr_ap, tAn_ap, tO_ap, andK_t, andK_f, orK_t, orK_f, iT_ap, iV_ap, iterD_l, iterD_t, iR1_ap, sRet_ap, rtK_ap, sN_ap, sBk_ap, sIf_ap, ifK_t, ifK_f, sSet_ap, setK_o, stM_n, stM_f, stM_m, stM_o, sAsg_ap, sApp_apt, sApp_apf, appK_apt, appK_apf, sSt_ap, stK_ap, stKK_apt, stKK_apf, sFor_ap, eLc_ap, eMt_ap, mtK_ap, mtK1_ap, tgName_ap, tgTup_ap, tgCons_ap, tgThen_ap, tgNil_ap, seq_eq, bind_eq, thenO_ok, ret_eq, seqO_nx, seqO_rt, seqO_bk, rdL, rdO_o, rdO_s, stM_v, f5, f6]
          · have b1 : sSet 7 (eCall self 3 (gF (eV 0) (gF (eV 5) (gF (eV 6) gN)))) [some (.fz sg), some (.fz a), some (.fz b), some (.fz pa), some (.fz pb), some (.fz x), some (.fz y), x7] = some (.ok .nx [some (.fz sg), some (.fz a), some (.fz b), some (.fz pa), some (.fz pb), some (.fz x), some (.fz y), some (.fz (.int c))]) := by
              simp [eV_ap, eC_ap, dr2O_ap, dr2_ap, dr2P_ap, eOp_ap, eOpK_ap, dr2B_ap, dr2BP_ap, dr2BO_ap, eTs_ap, eTsK_ap, dr1_ap, dr1P_ap, eUn_ap, drN_ap, drNP_ap, eCN_ap, lN_ap, lC_ap, lCK_ap, consR_ap, aN_ap, aC_ap, aCK_ap, consD_ap, frz_o, frz_m, frz_sf, frz_sm, gN_ap, gF_ap, gFK_ap, consG_ap, gB_ap, eCall_ap, callN_ap, callA_ap, callOut_ap, argE_bt, argE_bf, argE_fz, argE_nil, eTup_ap, eLst_ap, tupK_ap, lstK_ap, eDct_ap, eSl_ap, slK_ap, slK1_ap, slK2_ap, pN_ap, pI_ap, tTr_ap, tAn_ap, tO_ap, andK_t, andK_f, orK_t, orK_f, iT_ap, iV_ap, iterD_l, iterD_t, iR1_ap, sRet_ap, rtK_ap, sN_ap, sBk_ap, sIf_ap, ifK_t, ifK_f, sSet_ap, setK_o, stM_n, stM_f, stM_m, stM_o, sAsg_ap, sApp_apt, sApp_apf, appK_apt, appK_apf, sSt_ap, stK_ap, stKK_apt, stKK_apf, sFor_ap, eLc_ap, eMt_ap, mtK_ap, mtK1_ap, tgName_ap, tgTup_ap, tgCons_ap, tgThen_ap, tgNil_ap, seq_eq, bind_eq, thenO_ok, ret_eq, seqO_nx, seqO_rt, seqO_bk, rdL, rdO_o, rdO_s, callBO_t, brOk_n, brOk_f, brOk_b, brAt_n, brAt_f, brAt_b, back, backF, List.mapIdx, List.mapIdx.go, e, stM_v, f7]
            have hne : hNe (.fz (.int c)) (.fz (.int 0)) = some (.fz (.bool (!(c == 0)))) := by simp [hNe, O.view, flatD, PyData.eqv]
            by_cases h0 : c = 0
            · subst h0
              left
              refine ⟨[some (.fz sg), some (.fz a), some (.fz b), some (.fz pa), some (.fz pb), some (.fz x), some (.fz y), some (.fz (.int 0))], ?_, xs, ys, _, _, _, rfl, by simpa using el, (fun z hz => hx z (List.mem_cons_of_mem _ hz)), (fun z hz => hy z (List.mem_cons_of_mem _ hz)), (fun c' h' => hk c' ?_), fr_f, fr_f, fr_f, rfl⟩
              · unfold cmB
                rw [seq_eq, b1, seqO_nx]
                simp [eV_ap, eC_ap, dr2O_ap, dr2_ap, dr2P_ap, eOp_ap, eOpK_ap, dr2B_ap, dr2BP_ap, dr2BO_ap, eTs_ap, eTsK_ap, dr1_ap, dr1P_ap, eUn_ap, drN_ap, drNP_ap, eCN_ap, lN_ap, lC_ap, lCK_ap, consR_ap, aN_ap, aC_ap, aCK_ap, consD_ap, frz_o, frz_m, frz_sf, frz_sm, gN_ap, gF_ap, gFK_ap, consG_ap, gB_ap, eCall_ap, callN_ap, callA_ap, callOut_ap, argE_bt, argE_bf, argE_fz, argE_nil, eTup_ap, eLst_ap, tupK_ap, lstK_ap, eDct_ap, eSl_ap, slK_ap, slK1_ap, slK2_ap, pN_ap, pI_ap, tTr_ap, tAn_ap, tO_ap, andK_t, andK_f, orK_t, orK_f, iT_ap, iV_ap, iterD_l, iterD_t, iR1_ap, sRet_ap, rtK_ap, sN_ap, sBk_ap, sIf_ap, ifK_t, ifK_f, sSet_ap, setK_o, stM_n, stM_f, stM_m, stM_o, sAsg_ap, sApp_apt, sApp_apf, appK_apt, appK_apf, sSt_ap, stK_ap, stKK_apt, stKK_apf, sFor_ap, eLc_ap, eMt_ap, mtK_ap, mtK1_ap, tgName_ap, tgTup_ap, tgCons_ap, tgThen_ap, tgNil_ap, seq_eq, bind_eq, thenO_ok, ret_eq, seqO_nx, seqO_rt, seqO_bk, rdL, rdO_o, rdO_s, hne]
              · rcases hc with ⟨_, h⟩ | ⟨h, _⟩ | ⟨h, _⟩
                · show CmpL c' (keyD ss x :: xs.map (keyD ss)) (keyD ss y :: ys.map (keyD ss))
                  rw [← h] at hal ⊢
                  exact h'.same hal
                · exact absurd h (by decide)
                · exact absurd h (by decide)
            · right
              have hb : (c == 0) = false := beq_eq_false_iff_ne.mpr h0
              refine ⟨.s 7, [some (.fz sg), some (.fz a), some (.fz b), some (.fz pa), some (.fz pb), some (.fz x), some (.fz y), some (.fz (.int c))], ?_, c, rfl, hk c (CmpL.diff hal h0 hc), rfl⟩
              unfold cmB
              rw [seq_eq, b1, seqO_nx]
              simp [eV_ap, eC_ap, dr2O_ap, dr2_ap, dr2P_ap, eOp_ap, eOpK_ap, dr2B_ap, dr2BP_ap, dr2BO_ap, eTs_ap, eTsK_ap, dr1_ap, dr1P_ap, eUn_ap, drN_ap, drNP_ap, eCN_ap, lN_ap, lC_ap, lCK_ap, consR_ap, aN_ap, aC_ap, aCK_ap, consD_ap, frz_o, frz_m, frz_sf, frz_sm, gN_ap, gF_ap, gFK_ap, consG_ap, gB_ap, eCall_ap, callN_ap, callA_ap, callOut_ap, argE_bt, argE_bf, argE_fz, argE_nil, eTup_ap, eLst_ap, tupK_ap, lstK_ap, eDct_ap, eSl_ap, slK_ap, slK1_ap, slK2_ap, pN_ap, pI_ap, tTr_ap, tAn_ap, tO_ap, andK_t, andK_f, orK_t, orK_f, iT_ap, iV_ap, iterD_l, iterD_t, iR1_ap, sRet_ap, rtK_ap, sN_ap, sBk_ap, sIf_ap, ifK_t, ifK_f, sSet_ap, setK_o, stM_n, stM_f, stM_m, stM_o, sAsg_ap, sApp_apt, sApp_apf, appK_apt, appK_apf, sSt_ap, stK_ap, stKK_apt, stKK_apf, sFor_ap, eLc_ap, eMt_ap, mtK_ap, mtK1_ap, tgName_ap, tgTup_ap, tgCons_ap, tgThen_ap, tgNil_ap, seq_eq, bind_eq, thenO_ok, ret_eq, seqO_nx, seqO_rt, seqO_bk, rdL, rdO_o, rdO_s, hne, hb]) (zipD ds es) [some (.fz sg), some (.fz a), some (.fz b), some (.fz pa), some (.fz pb), none, none, none]
    ⟨ds, es, none, none, none, rfl, hl, hd, he, (fun c h => h), fr_n, fr_n, fr_n, rfl⟩
  rcases this with ⟨ρ', e, xs, ys, x5, x6, x7, ez, el, _, _, hk, _⟩ | ⟨r, ρ', e, c, rfl, hc, h7⟩
  · have hx0 : xs = [] := by
      cases xs with
      | nil => rfl
      | cons x xs =>
        cases ys with
        | nil => simp at el
        | cons y ys => simp [zipD] at ez
    subst hx0
    have hy0 : ys = [] := by
      cases ys with
      | nil => rfl
      | cons => simp at el
    subst hy0
    exact ⟨0, ρ', hk 0 (.inl ⟨rfl, rfl⟩), .inl ⟨rfl, e⟩⟩
  · exact ⟨c, ρ', hc, .inr ⟨e, h7⟩⟩
end VsG

namespace VsG
open PySem PySem.Spec L2 Vs
theorem head_ok {s r s' r' : Int} (h : ¬ (s = s' ∧ r = r')) : ∃ c : Int, c ≠ 0 ∧ (PySem.W.dataLt (.tuple [.int s, .int r]) (.tuple [.int s', .int r']) = true → c = -1) ∧ (PySem.W.dataLt (.tuple [.int s, .int r]) (.tuple [.int s', .int r']) = false → c = 1) ∧ ∀ K K' : List PyData, CmpL c (.int s :: .int r :: K) (.int s' :: .int r' :: K') := by
  obtain ⟨c, h0, hK⟩ : ∃ c : Int, c ≠ 0 ∧ ∀ K K' : List PyData, CmpL c (.int s :: .int r :: K) (.int s' :: .int r' :: K') := by
    by_cases hs : s = s'
    · subst hs
      have hr : r ≠ r' := fun z => h ⟨rfl, z⟩
      refine ⟨if r < r' then -1 else 1, by split <;> decide, fun K K' => CmpL.same (al_int s s) (CmpL.diff (al_int r r') (by split <;> decide) (cmp_int hr))⟩
    · exact ⟨if s < s' then -1 else 1, by split <;> decide, fun K K' => CmpL.diff (al_int s s') (by split <;> decide) (cmp_int hs)⟩
  refine ⟨c, h0, fun e => ?_, fun e => ?_, hK⟩
  · rcases (hK [] []).tup with ⟨a, _⟩ | ⟨a, _⟩ | ⟨a, b, _⟩
    · exact absurd a h0
    · exact a
    · rw [e] at b; cases b
  · rcases (hK [] []).tup with ⟨a, _⟩ | ⟨a, b, _⟩ | ⟨a, _⟩
    · exact absurd a h0
    · rw [e] at b; cases b
    · exact a
theorem cut1_ap {w : Str} {ds : List PyData} : hSl (.fz (.tuple (.str w :: ds))) (some 1) none = some (.fz (.tuple ds)) := by
  show some (O.fz (.tuple (cutL (.str w :: ds) (some 1) none))) = _
  rw [cutL_1]
theorem ix0_ap {w : Str} {ds : List PyData} : hIx (.fz (.tuple (.str w :: ds))) (.fz (.int 0)) = some (.fz (.str w)) := by
  show (atI (PyData.str w :: ds) 0).map O.fz = _
  rw [atI_0]; rfl
theorem compare_ok {ss : List (Str × Int)} (S : Sgn ss) (few : ss.length ≤ 100) : ∀ (n k : Nat) (a b : PyData), k + 1 < n → Tr ss k a → Tr ss k b →
    ∃ c, Cmp c (keyD ss a) (keyD ss b) ∧ g_compare_trees n [some (.fz (.tuple (sgD ss))), some (.fz a), some (.fz b)] = some (.ok (.fz (.int c)) [some (.fz (.tuple (sgD ss))), some (.fz a), some (.fz b)])
  | 0, _, _, _, h, _, _ => absurd h (Nat.not_lt_zero _)
  | n + 1, k, a, b, h, ha, hb => by
    obtain ⟨w, x, ds, m, rfl, rfl, hw, hl, hd⟩ := tr_cases ha
    obtain ⟨w', x', es, m', hm', rfl, hw', hl', he⟩ := tr_cases hb
    cases hm'
    have ih := fun x y hx hy => compare_ok S few n m x y (by omega) hx hy
    have z1 := size2_ok S n (m + 1) _ (by omega) ha
    have z2 := size2_ok S n (m + 1) _ (by omega) hb
    rw [szD_eq] at z1 z2
    have q1 := rank_ok S few hw
    have q2 := rank_ok S few hw'
    obtain ⟨i, _, i2, i3⟩ := rk_of S hw
    obtain ⟨j, _, j2, j3⟩ := rk_of S hw'
    have hf := few2 S hw hl
    have hf' := few2 S hw' hl'
    rw [keyD_eq, keyD_eq]
    have lp := fun sg a b pa pb hll ih' => cmLoop (ss := ss) (m := m) (self := g_compare_trees n) (sg := sg) (a := a) (b := b) (pa := pa) (pb := pb) ih' ds es hll hd he
    have c1 := cut1_ap (w := w) (ds := ds)
    have c2 := cut1_ap (w := w') (ds := es)
    have x1 := ix0_ap (w := w) (ds := ds)
    have x2 := ix0_ap (w := w') (ds := es)
    generalize hsg : PyData.tuple (sgD ss) = sg at *
    generalize hA : PyData.tuple (.str w :: ds) = A at *
    generalize hB : PyData.tuple (.str w' :: es) = B at *
    generalize hs : 1 + szs ds = s at *
    generalize hs' : 1 + szs es = s' at *
    generalize hr : rkD ss w = r at *
    generalize hr' : rkD ss w' = r' at *
    have b1 : sSet 3 (eTup (aC (eCall (g_size_of n) 1 (gF (eV 1) gN)) (aC (eCall (g_rank_of) 2 (gF (eV 0) (gF (eOp hIx (eV 1) (eC (.int 0))) gN))) aN))) [some (.fz sg), some (.fz A), some (.fz B), none, none, none, none, none] = some (.ok .nx [some (.fz sg), some (.fz A), some (.fz B), some (.fz (.tuple [.int s, .int r])), none, none, none, none]) := by
      simp [eV_ap, eC_ap, dr2O_ap, dr2_ap, dr2P_ap, eOp_ap, eOpK_ap, dr2B_ap, dr2BP_ap, dr2BO_ap, eTs_ap, eTsK_ap, dr1_ap, dr1P_ap, eUn_ap, drN_ap, drNP_ap, eCN_ap, lN_ap, lC_ap, lCK_ap, consR_ap, aN_ap, aC_ap, aCK_ap, consD_ap, frz_o, frz_m, frz_sf, frz_sm, gN_ap, gF_ap, gFK_ap, consG_ap, gB_ap, eCall_ap, callN_ap, callA_ap, callOut_ap, argE_bt, argE_bf, argE_fz, argE_nil, eTup_ap, eLst_ap, tupK_ap, lstK_ap, eDct_ap, eSl_ap, slK_ap, slK1_ap, slK2_ap, pN_ap, pI_ap, tTr_ap, tAn_ap, tO_ap, andK_t, andK_f, orK_t, orK_f, iT_ap, iV_ap, iterD_l, iterD_t, iR1_ap, sRet_ap, rtK_ap, sN_ap, sBk_ap, sIf_ap, ifK_t, ifK_f, sSet_ap, setK_o, stM_n, stM_f, stM_m, stM_o, sAsg_ap, sApp_apt, sApp_apf, appK_apt, appK_apf, sSt_ap, stK_ap, stKK_apt, stKK_apf, sFor_ap, eLc_ap, eMt_ap, mtK_ap, mtK1_ap, tgName_ap, tgTup_ap, tgCons_ap, tgThen_ap, tgNil_ap, seq_eq, bind_eq, thenO_ok, ret_eq, seqO_nx, seqO_rt, seqO_bk, rdL, rdO_o, rdO_s, callBO_t, brOk_n, brOk_f, brOk_b, brAt_n, brAt_f, brAt_b, back, backF, List.mapIdx, List.mapIdx.go, z1, q1, x1]
    have b2 : sSet 4 (eTup (aC (eCall (g_size_of n) 1 (gF (eV 2) gN)) (aC (eCall (g_rank_of) 2 (gF (eV 0) (gF (eOp hIx (eV 2) (eC (.int 0))) gN))) aN))) [some (.fz sg), some (.fz A), some (.fz B), some (.fz (.tuple [.int s, .int r])), none, none, none, none] = some (.ok .nx [some (.fz sg), some (.fz A), some (.fz B), some (.fz (.tuple [.int s, .int r])), some (.fz (.tuple [.int s', .int r'])), none, none, none]) := by
      simp [eV_ap, eC_ap, dr2O_ap, dr2_ap, dr2P_ap, eOp_ap, eOpK_ap, dr2B_ap, dr2BP_ap, dr2BO_ap, eTs_ap, eTsK_ap, dr1_ap, dr1P_ap, eUn_ap, drN_ap, drNP_ap, eCN_ap, lN_ap, lC_ap, lCK_ap, consR_ap, aN_ap, aC_ap, aCK_ap, consD_ap, frz_o, frz_m, frz_sf, frz_sm, gN_ap, gF_ap, gFK_ap, consG_ap, gB_ap, eCall_ap, callN_ap, callA_ap, callOut_ap, argE_bt, argE_bf, argE_fz, argE_nil, eTup_ap, eLst_ap, tupK_ap, lstK_ap, eDct_ap, eSl_ap, slK_ap, slK1_ap, slK2_ap, pN_ap, pI_ap, tTr_ap, tAn_ap, tO_ap, andK_t, andK_f, orK_t, orK_f, iT_ap, iV_ap, iterD_l, iterD_t, iR1_ap, sRet_ap, rtK_ap, sN_ap, sBk_ap, sIf_ap, ifK_t, ifK_f, sSet_ap, setK_o, stM_n, stM_f, stM_m, stM_o, sAsg_ap, sApp_apt, sApp_apf, appK_apt, appK_apf, sSt_ap, stK_ap, stKK_apt, stKK_apf, sFor_ap, eLc_ap, eMt_ap, mtK_ap, mtK1_ap, tgName_ap, tgTup_ap, tgCons_ap, tgThen_ap, tgNil_ap, seq_eq, bind_eq, thenO_ok, ret_eq, seqO_nx, seqO_rt, seqO_bk, rdL, rdO_o, rdO_s, callBO_t, brOk_n, brOk_f, brOk_b, brAt_n, brAt_f, brAt_b, back, backF, List.mapIdx, List.mapIdx.go, z2, q2, x2]
    have body : g_compare_trees (n + 1) [some (.fz sg), some (.fz A), some (.fz B)] = defOut [some (.fz sg), some (.fz A), some (.fz B)] (f_compare_trees n (g_compare_trees n) [some (.fz sg), some (.fz A), some (.fz B), none, none, none, none, none]) := rfl
    rw [body]
    unfold f_compare_trees
    rw [seq_eq, b1, seqO_nx, seq_eq, b2, seqO_nx, seq_eq]
    have hne := pair_ne (s := s) (r := r) (s' := s') (r' := r')
    have hlt := pair_lt (s := s) (r := r) (s' := s') (r' := r')
    have hng : hNeg (.fz (.int 1)) = some (.fz (.int (-1))) := rfl
    by_cases hh : s = s' ∧ r = r'
    · obtain ⟨rfl, rfl⟩ := hh
      have hij : i = j := by omega
      subst hij
      rw [i2] at j2
      cases j2
      have hll : ds.length = es.length := by omega
      obtain ⟨c, ρ', hc, hcase⟩ := lp sg A B (.tuple [.int s, .int r]) (.tuple [.int s, .int r]) hll ih
      refine ⟨c, (CmpL.same (al_int s s) (CmpL.same (al_int r r) hc)).tup, ?_⟩
      have eb : ((s == s) && (r == r)) = true := by simp
      rw [eb] at hne
      have e0 : sIf (eTs hNe (eV 3) (eV 4)) (sRet (eIf (eTs (hOrd false) (eV 3) (eV 4)) (eUn hNeg (eC (.int 1))) (eC (.int 1)))) sN [some (.fz sg), some (.fz A), some (.fz B), some (.fz (.tuple [.int s, .int r])), some (.fz (.tuple [.int s, .int r])), none, none, none] = some (.ok .nx [some (.fz sg), some (.fz A), some (.fz B), some (.fz (.tuple [.int s, .int r])), some (.fz (.tuple [.int s, .int r])), none, none, none]) := by
        simp [eV_ap, eC_ap, dr2O_ap, dr2_ap, dr2P_ap, eOp_ap, eOpK_ap, dr2B_ap, dr2BP_ap, dr2BO_ap, eTs_ap, eTsK_ap, dr1_ap, dr1P_ap, eUn_ap, drN_ap, drNP_ap, eCN_ap, lN_ap, lC_ap, lCK_ap, consR_ap, aN_ap, aC_ap, aCK_ap, consD_ap, frz_o, frz_m, frz_sf, frz_sm, gN_ap, gF_ap, gFK_ap, consG_ap, gB_ap, eCall_ap, callN_ap, callA_ap, callOut_ap, argE_bt, argE_bf, argE_fz, argE_nil, eTup_ap, eLst_ap, tupK_ap, lstK_ap, eDct_ap, eSl_ap, slK_ap, slK1_ap, slK2_ap, pN_ap, pI_ap, tTr_ap, tAn_ap, tO_ap, andK_t, andK_f, orK_t, orK_f, iT_ap, iV_ap, iterD_l, iterD_t, iR1_ap, sRet_ap, rtK_ap, sN_ap, sBk_ap, sIf_ap, ifK_t, ifK_f, sSet_ap, setK_o, stM_n, stM_f, stM_m, stM_o, sAsg_ap, sApp_apt, sApp_apf, appK_apt, appK_apf, sSt_ap, stK_ap, stKK_apt, stKK_apf, sFor_ap, eLc_ap, eMt_ap, mtK_ap, mtK1_ap, tgName_ap, tgTup_ap, tgCons_ap, tgThen_ap, tgNil_ap, seq_eq, bind_eq, thenO_ok, ret_eq, seqO_nx, seqO_rt, seqO_bk, rdL, rdO_o, rdO_s, hne]
      rw [e0, seqO_nx, seq_eq]
      have hiz : iZ (aC (eSl (eV 1) (pI (eC (.int 1))) pN) (aC (eSl (eV 2) (pI (eC (.int 1))) pN) aN)) [some (.fz sg), some (.fz A), some (.fz B), some (.fz (.tuple [.int s, .int r])), some (.fz (.tuple [.int s, .int r])), none, none, none] = some (.ok (zipD ds es) [some (.fz sg), some (.fz A), some (.fz B), some (.fz (.tuple [.int s, .int r])), some (.fz (.tuple [.int s, .int r])), none, none, none]) := by
        simp [eV_ap, eC_ap, dr2O_ap, dr2_ap, dr2P_ap, eOp_ap, eOpK_ap, dr2B_ap, dr2BP_ap, dr2BO_ap, eTs_ap, eTsK_ap, dr1_ap, dr1P_ap, eUn_ap, drN_ap, drNP_ap, eCN_ap, lN_ap, lC_ap, lCK_ap, consR_ap, aN_ap, aC_ap, aCK_ap, consD_ap, frz_o, frz_m, frz_sf, frz_sm, gN_ap, gF_ap, gFK_ap, consG_ap, gB_ap, eCall_ap, callN_ap, callA_ap, callOut_ap, argE_bt, argE_bf, argE_fz, argE_nil, eTup_ap, eLst_ap, tupK_ap, lstK_ap, eDct_ap, eSl_ap, slK_ap, slK1_ap, slK2_ap, pN_ap, pI_ap, tTr_ap, tAn_ap, tO_ap, andK_t, andK_f, orK_t, orK_f, iT_ap, iV_ap, iterD_l, iterD_t, iR1_ap, sRet_ap, rtK_ap, sN_ap, sBk_ap, sIf_ap, ifK_t, ifK_f, sSet_ap, setK_o, stM_n, stM_f, stM_m, stM_o, sAsg_ap, sApp_apt, sApp_apf, appK_apt, appK_apf, sSt_ap, stK_ap, stKK_apt, stKK_apf, sFor_ap, eLc_ap, eMt_ap, mtK_ap, mtK1_ap, tgName_ap, tgTup_ap, tgCons_ap, tgThen_ap, tgNil_ap, seq_eq, bind_eq, thenO_ok, ret_eq, seqO_nx, seqO_rt, seqO_bk, rdL, rdO_o, rdO_s, c1, c2, asInt_o, iZ_ap, zip2_ap]
      rw [sFor_ap, hiz, thenO_ok]
      rcases hcase with ⟨rfl, e⟩ | ⟨e, h7⟩
      · rw [e, seqO_nx]
        simp [eV_ap, eC_ap, dr2O_ap, dr2_ap, dr2P_ap, eOp_ap, eOpK_ap, dr2B_ap, dr2BP_ap, dr2BO_ap, eTs_ap, eTsK_ap, dr1_ap, dr1P_ap, eUn_ap, drN_ap, drNP_ap, eCN_ap, lN_ap, lC_ap, lCK_ap, consR_ap, aN_ap, aC_ap, aCK_ap, consD_ap, frz_o, frz_m, frz_sf, frz_sm, gN_ap, gF_ap, gFK_ap, consG_ap, gB_ap, eCall_ap, callN_ap, callA_ap, callOut_ap, argE_bt, argE_bf, argE_fz, argE_nil, eTup_ap, eLst_ap, tupK_ap, lstK_ap, eDct_ap, eSl_ap, slK_ap, slK1_ap, slK2_ap, pN_ap, pI_ap, tTr_ap, tAn_ap, tO_ap, andK_t, andK_f, orK_t, orK_f, iT_ap, iV_ap, iterD_l, iterD_t, iR1_ap, sRet_ap, rtK_ap, sN_ap, sBk_ap, sIf_ap, ifK_t, ifK_f, sSet_ap, setK_o, stM_n, stM_f, stM_m, stM_o, sAsg_ap, sApp_apt, sApp_apf, appK_apt, appK_apf, sSt_ap, stK_ap, stKK_apt, stKK_apf, sFor_ap, eLc_ap, eMt_ap, mtK_ap, mtK1_ap, tgName_ap, tgTup_ap, tgCons_ap, tgThen_ap, tgNil_ap, seq_eq, bind_eq, thenO_ok, ret_eq, seqO_nx, seqO_rt, seqO_bk, rdL, rdO_o, rdO_s, defOut, resO, keepB, keepF, List.mapIdx, List.mapIdx.go]
      · rw [e, seqO_rt]
        simp [defOut, resO, h7, keepB, keepF, List.mapIdx, List.mapIdx.go]
    · obtain ⟨c, h0, l1, l2, hK⟩ := head_ok hh
      refine ⟨c, (hK _ _).tup, ?_⟩
      have eb : ((s == s') && (r == r')) = false := by
        rw [Bool.and_eq_false_iff]
        by_cases hs2 : s = s'
        · exact .inr (beq_eq_false_iff_ne.mpr fun z => hh ⟨hs2, z⟩)
        · exact .inl (beq_eq_false_iff_ne.mpr hs2)
      rw [eb] at hne
      have e0 : sIf (eTs hNe (eV 3) (eV 4)) (sRet (eIf (eTs (hOrd false) (eV 3) (eV 4)) (eUn hNeg (eC (.int 1))) (eC (.int 1)))) sN [some (.fz sg), some (.fz A), some (.fz B), some (.fz (.tuple [.int s, .int r])), some (.fz (.tuple [.int s', .int r'])), none, none, none] = some (.ok (.rt (.o (.fz (.int c)))) [some (.fz sg), some (.fz A), some (.fz B), some (.fz (.tuple [.int s, .int r])), some (.fz (.tuple [.int s', .int r'])), none, none, none]) := by
        cases hd : PySem.W.dataLt (.tuple [.int s, .int r]) (.tuple [.int s', .int r']) with
        | true =>
          rw [hd] at hlt
          rw [l1 hd]
          simp [eV_ap, eC_ap, dr2O_ap, dr2_ap, dr2P_ap, eOp_ap, eOpK_ap, dr2B_ap, dr2BP_ap, dr2BO_ap, eTs_ap, eTsK_ap, dr1_ap, dr1P_ap, eUn_ap, drN_ap, drNP_ap, eCN_ap, lN_ap, lC_ap, lCK_ap, consR_ap, aN_ap, aC_ap, aCK_ap, consD_ap, frz_o, frz_m, frz_sf, frz_sm, gN_ap, gF_ap, gFK_ap, consG_ap, gB_ap, eCall_ap, callN_ap, callA_ap, callOut_ap, argE_bt, argE_bf, argE_fz, argE_nil, eTup_ap, eLst_ap, tupK_ap, lstK_ap, eDct_ap, eSl_ap, slK_ap, slK1_ap, slK2_ap, pN_ap, pI_ap, tTr_ap, tAn_ap, tO_ap, andK_t, andK_f, orK_t, orK_f, iT_ap, iV_ap, iterD_l, iterD_t, iR1_ap, sRet_ap, rtK_ap, sN_ap, sBk_ap, sIf_ap, ifK_t, ifK_f, sSet_ap, setK_o, stM_n, stM_f, stM_m, stM_o, sAsg_ap, sApp_apt, sApp_apf, appK_apt, appK_apf, sSt_ap, stK_ap, stKK_apt, stKK_apf, sFor_ap, eLc_ap, eMt_ap, mtK_ap, mtK1_ap, tgName_ap, tgTup_ap, tgCons_ap, tgThen_ap, tgNil_ap, seq_eq, bind_eq, thenO_ok, ret_eq, seqO_nx, seqO_rt, seqO_bk, rdL, rdO_o, rdO_s, hne, hlt, eIf_ap, ifRK_t, hng]
        | false =>
          rw [hd] at hlt
          rw [l2 hd]
          simp [eV_ap, eC_ap, dr2O_ap, dr2_ap, dr2P_ap, eOp_ap, eOpK_ap, dr2B_ap, dr2BP_ap, dr2BO_ap, eTs_ap, eTsK_ap, dr1_ap, dr1P_ap, eUn_ap, drN_ap, drNP_ap, eCN_ap, lN_ap, lC_ap, lCK_ap, consR_ap, aN_ap, aC_ap, aCK_ap, consD_ap, frz_o, frz_m, frz_sf, frz_sm, gN_ap, gF_ap, gFK_ap, consG_ap, gB_ap, eCall_ap, callN_ap, callA_ap, callOut_ap, argE_bt, argE_bf, argE_fz, argE_nil, eTup_ap, eLst_ap, tupK_ap, lstK_ap, eDct_ap, eSl_ap, slK_ap, slK1_ap, slK2_ap, pN_ap, pI_ap, tTr_ap, tAn_ap, tO_ap, andK_t, andK_f, orK_t, orK_f, iT_ap, iV_ap, iterD_l, iterD_t, iR1_ap, sRet_ap, rtK_ap, sN_ap, sBk_ap, sIf_ap, ifK_t, ifK_f, sSet_ap, setK_o, stM_n, stM_f, stM_m, stM_o, sAsg_ap, sApp_apt, sApp_apf, appK_apt, appK_apf, sSt_ap, stK_ap, stKK_apt, stKK_apf, sFor_ap, eLc_ap, eMt_ap, mtK_ap, mtK1_ap, tgName_ap, tgTup_ap, tgCons_ap, tgThen_ap, tgNil_ap, seq_eq, bind_eq, thenO_ok, ret_eq, seqO_nx, seqO_rt, seqO_bk, rdL, rdO_o, rdO_s, hne, hlt, eIf_ap, ifRK_f]
      rw [e0, seqO_rt]
      simp [defOut, resO, keepB, keepF, List.mapIdx, List.mapIdx.go]
end VsG

namespace VsG
open PySem PySem.Spec L2 Vs
theorem hAdd_t {x y : List PyData} (h : x.length + y.length ≤ 16777216) : hAdd (.fz (.tuple x)) (.fz (.tuple y)) = some (.fz (.tuple (x ++ y))) := by
  unfold hAdd
  exact if_pos h
theorem tr_size {ss : List (Str × Int)} : ∀ (k : Nat) (d : PyData), Tr ss k d → 1 ≤ szD d ∧ Tr ss (szD d).toNat d
  | 0, _, h => by obtain ⟨_, _, _, m, h, _⟩ := tr_cases h; cases h
  | k + 1, _, h => by
    obtain ⟨w, a, ds, m, hm, rfl, hw, hl, hd⟩ := tr_cases h
    cases hm
    have ih := fun x hx => tr_size k x (hd x hx)
    have key : ∀ (ds : List PyData), (∀ x ∈ ds, 1 ≤ szD x) → 0 ≤ szs ds ∧ ∀ x ∈ ds, szD x ≤ szs ds := by
      intro ds
      induction ds with
      | nil => intro _; exact ⟨Int.le_refl _, fun x hx => nomatch hx⟩
      | cons d ds ih =>
        intro h
        obtain ⟨a, b⟩ := ih fun x hx => h x (List.mem_cons_of_mem _ hx)
        have h1 := h d (List.mem_cons_self ..)
        have e : szs (d :: ds) = szD d + szs ds := rfl
        refine ⟨by omega, fun x hx => ?_⟩
        rcases List.mem_cons.mp hx with hx | hx
        · subst hx; omega
        · have := b x hx; omega
    obtain ⟨k0, k1⟩ := key ds fun x hx => (ih x hx).1
    have e : szD (.tuple (.str w :: ds)) = 1 + szs ds := rfl
    refine ⟨by omega, ?_⟩
    have e2 : (szD (.tuple (.str w :: ds))).toNat = (szs ds).toNat + 1 := by omega
    rw [e2]
    exact .node hw hl fun x hx => (ih x hx).2.mono (by have := k1 x hx; omega)
theorem key_depth {ss : List (Str × Int)} : ∀ (k : Nat) (d : PyData), Tr ss k d → (keyD ss d).depth ≤ k
  | 0, _, h => by obtain ⟨_, _, _, m, h, _⟩ := tr_cases h; cases h
  | k + 1, _, h => by
    obtain ⟨w, a, ds, m, hm, rfl, hw, hl, hd⟩ := tr_cases h
    cases hm
    have key : ∀ (ds : List PyData), (∀ x ∈ ds, Tr ss k x) → PyData.depthAll (ds.map (keyD ss)) ≤ k := by
      intro ds
      induction ds with
      | nil => intro _; exact Nat.zero_le _
      | cons d ds ih =>
        intro h
        have a := key_depth k d (h d (List.mem_cons_self ..))
        have b := ih fun x hx => h x (List.mem_cons_of_mem _ hx)
        show max (keyD ss d).depth (PyData.depthAll (ds.map (keyD ss))) ≤ k
        omega
    rw [keyD_eq]
    have := key ds hd
    show max 0 (max 0 (PyData.depthAll (ds.map (keyD ss)))) + 1 ≤ k + 1
    omega
theorem set_eq {w : PyData} {ds : List PyData} {q : Nat} {x : PyData} (h : q < ds.length) : (w :: ds).take (q + 1) ++ [x] ++ (w :: ds).drop (q + 2) = w :: ds.set q x := by
  rw [List.set_eq_take_append_cons_drop, if_pos h]
  simp
abbrev chE (self : M O) : M Fl := (sSeq (sSet 5 (eOp hAdd (eC (.int 1)) (eCall (g__law_next) 2 (gB 0 (gF (eOp (hI (fun _ _ => true) fun i j => i - j) (eCN hLen (lC (eV 2) lN)) (eC (.int 1))) gN)))))
    (sRet (eOp hAdd (eOp hAdd (eSl (eV 2) pN (pI (eV 5))) (eTup (aC (eCall self 3 (gB 0 (gF (eV 1) (gF (eOp hIx (eV 2) (eV 5)) gN)))) aN))) (eSl (eV 2) (pI (eOp hAdd (eV 5) (eC (.int 1)))) pN))))
abbrev chA (nT : Nat) : M Fl := (sSeq (sIf (eTs hEq (eV 4) (eOp (hI (fun _ _ => true) fun i j => i - j) (eCN hLen (lC (eV 2) lN)) (eC (.int 1)))) (sRet (eCN hTuple (lC (eOp hAdd (eLst (aC (eV 3) aN)) (eCN hList (lC (eSl (eV 2) (pI (eC (.int 1))) pN) lN))) lN))) sN)
    (sRet (eCall (g__law_term nT) 4 (gB 0 (gF (eV 1) (gF (eLst aN) (gF (eOp hAdd (eC (.int 1)) (eCall (g__law_next) 2 (gB 0 (gF (eC (.int 4)) gN)))) gN)))))))
theorem chA_ok {ns : List Int} {ss : List (Str × Int)} {nT : Nat} {c : Int} {w w2 : Str} {a a2 : Int} {ds : List PyData} {m : Nat} (hT : 4 ≤ nT) (G : Good ns) (S : Sgn ss) (few : ss.length ≤ 100) (h0 : 0 ≤ c) (hc : c + cst nT + 5 < 2 ^ 200) (hw : (w, a) ∈ ss) (hl : (ds.length : Int) = a) (hd : ∀ x ∈ ds, Tr ss m x) (hw2 : (w2, a2) ∈ ss) :
    ∃ d c' ρ', Tr ss (m + 1 + nT) d ∧ c ≤ c' ∧ c' ≤ c + cst nT + 5 ∧ chA nT [some (.mu true (stD ns c)), some (.fz (.tuple (sgD ss))), some (.fz (.tuple (.str w :: ds))), some (.fz (.str w2)), some (.fz (.int a2)), none] = some (.ok (.rt (.o (.fz d))) ρ') ∧ ρ'[0]? = some (some (.mu true (stD ns c'))) := by
  have hlen : hLen [.fz (.tuple (.str w :: ds))] = some (.fz (.int (a + 1))) := by
    rw [← hl]; rfl
  have hsub : hI (fun _ _ => true) (fun i j => i - j) (.fz (.int (a + 1))) (.fz (.int 1)) = some (.fz (.int (a + 1 - 1))) := rfl
  have ha1 : a + 1 - 1 = a := by omega
  rw [ha1] at hsub
  have heq : hEq (.fz (.int a2)) (.fz (.int a)) = some (.fz (.bool (a2 == a))) := by simp [hEq, O.view, flatD, PyData.eqv]
  have c1 := cut1_ap (w := w) (ds := ds)
  have hf := few2 S hw hl
  have hli : hList [.fz (.tuple ds)] = some (.mu false (.lst ds)) := rfl
  have had : hAdd (.mu false (.lst [.str w2])) (.mu false (.lst ds)) = some (.mu false (.lst (.str w2 :: ds))) := hAdd_l (by simp; omega)
  have htp : hTuple [.mu false (.lst (.str w2 :: ds))] = some (.fz (.tuple (.str w2 :: ds))) := rfl
  by_cases he : a2 = a
  · subst he
    have eb : (a2 == a2) = true := by simp
    rw [eb] at heq
    refine ⟨.tuple (.str w2 :: ds), c, [some (.mu true (stD ns c)), some (.fz (.tuple (sgD ss))), some (.fz (.tuple (.str w :: ds))), some (.fz (.str w2)), some (.fz (.int a2)), none], (Tm.node hw2 hl hd).mono (by omega), by omega, by omega, ?_, rfl⟩
    generalize PyData.tuple (.str w :: ds) = A at *
    unfold chA
    simp [eV_ap, eC_ap, dr2O_ap, dr2_ap, dr2P_ap, eOp_ap, eOpK_ap, dr2B_ap, dr2BP_ap, dr2BO_ap, eTs_ap, eTsK_ap, dr1_ap, dr1P_ap, eUn_ap, drN_ap, drNP_ap, eCN_ap, lN_ap, lC_ap, lCK_ap, consR_ap, aN_ap, aC_ap, aCK_ap, consD_ap, frz_o, frz_m, frz_sf, frz_sm, gN_ap, gF_ap, gFK_ap, consG_ap, gB_ap, eCall_ap, callN_ap, callA_ap, callOut_ap, argE_bt, argE_bf, argE_fz, argE_nil, eTup_ap, eLst_ap, tupK_ap, lstK_ap, eDct_ap, eSl_ap, slK_ap, slK1_ap, slK2_ap, pN_ap, pI_ap, tTr_ap, tAn_ap, tO_ap, andK_t, andK_f, orK_t, orK_f, iT_ap, iV_ap, iterD_l, iterD_t, iR1_ap, sRet_ap, rtK_ap, sN_ap, sBk_ap, sIf_ap, ifK_t, ifK_f, sSet_ap, setK_o, stM_n, stM_f, stM_m, stM_o, sAsg_ap, sApp_apt, sApp_apf, appK_apt, appK_apf, sSt_ap, stK_ap, stKK_apt, stKK_apf, sFor_ap, eLc_ap, eMt_ap, mtK_ap, mtK1_ap, tgName_ap, tgTup_ap, tgCons_ap, tgThen_ap, tgNil_ap, seq_eq, bind_eq, thenO_ok, ret_eq, seqO_nx, seqO_rt, seqO_bk, rdL, rdO_o, rdO_s, hlen, hsub, heq, c1, hli, had, htp, asInt_o]
  · have eb : (a2 == a) = false := beq_eq_false_iff_ne.mpr he
    rw [eb] at heq
    obtain ⟨r, r0, r1, e1⟩ := next_ok (c := c) (m := 4) G h0 (by omega) (by decide)
    obtain ⟨y, c2, hy, k2, k3, e⟩ := term_ok (nm := []) G S few (by decide) nT (1 + r) (c + 1) (by omega) (by omega) (by omega) (by omega)
    simp only [List.map_nil] at e
    have add1 : hAdd (.fz (.int 1)) (.fz (.int r)) = some (.fz (.int (1 + r))) := rfl
    refine ⟨y, c2, [some (.mu true (stD ns c2)), some (.fz (.tuple (sgD ss))), some (.fz (.tuple (.str w :: ds))), some (.fz (.str w2)), some (.fz (.int a2)), none], hy.mono (by omega), by omega, by omega, ?_, rfl⟩
    generalize PyData.tuple (.str w :: ds) = A at *
    unfold chA
    simp [eV_ap, eC_ap, dr2O_ap, dr2_ap, dr2P_ap, eOp_ap, eOpK_ap, dr2B_ap, dr2BP_ap, dr2BO_ap, eTs_ap, eTsK_ap, dr1_ap, dr1P_ap, eUn_ap, drN_ap, drNP_ap, eCN_ap, lN_ap, lC_ap, lCK_ap, consR_ap, aN_ap, aC_ap, aCK_ap, consD_ap, frz_o, frz_m, frz_sf, frz_sm, gN_ap, gF_ap, gFK_ap, consG_ap, gB_ap, eCall_ap, callN_ap, callA_ap, callOut_ap, argE_bt, argE_bf, argE_fz, argE_nil, eTup_ap, eLst_ap, tupK_ap, lstK_ap, eDct_ap, eSl_ap, slK_ap, slK1_ap, slK2_ap, pN_ap, pI_ap, tTr_ap, tAn_ap, tO_ap, andK_t, andK_f, orK_t, orK_f, iT_ap, iV_ap, iterD_l, iterD_t, iR1_ap, sRet_ap, rtK_ap, sN_ap, sBk_ap, sIf_ap, ifK_t, ifK_f, sSet_ap, setK_o, stM_n, stM_f, stM_m, stM_o, sAsg_ap, sApp_apt, sApp_apf, appK_apt, appK_apf, sSt_ap, stK_ap, stKK_apt, stKK_apf, sFor_ap, eLc_ap, eMt_ap, mtK_ap, mtK1_ap, tgName_ap, tgTup_ap, tgCons_ap, tgThen_ap, tgNil_ap, seq_eq, bind_eq, thenO_ok, ret_eq, seqO_nx, seqO_rt, seqO_bk, rdL, rdO_o, rdO_s, callBO_t, brOk_n, brOk_f, brOk_b, brAt_n, brAt_f, brAt_b, back, backF, List.mapIdx, List.mapIdx.go, hlen, hsub, heq, e1, add1, e, Mu.view]
theorem changed_ok {ns : List Int} {ss : List (Str × Int)} {nT : Nat} (hT : 4 ≤ nT) (G : Good ns) (S : Sgn ss) (few : ss.length ≤ 100) : ∀ (n k : Nat) (d : PyData) (c : Int), k < n → Tr ss k d → 0 ≤ c → c + (n * (cst nT + 10) : Nat) < 2 ^ 200 →
    ∃ d' c', Tr ss (k + nT) d' ∧ c ≤ c' ∧ c' ≤ c + (n * (cst nT + 10) : Nat) ∧ g__law_changed nT n [some (.mu true (stD ns c)), some (.fz (.tuple (sgD ss))), some (.fz d)] = some (.ok (.fz d') [some (.mu true (stD ns c')), some (.fz (.tuple (sgD ss))), some (.fz d)])
  | 0, _, _, _, h, _, _, _ => absurd h (Nat.not_lt_zero _)
  | n + 1, k, d, c, h, ht, h0, hc => by
    obtain ⟨w, a, ds, m, rfl, rfl, hw, hl, hd⟩ := tr_cases ht
    have hmul : (n + 1) * (cst nT + 10) = n * (cst nT + 10) + (cst nT + 10) := by rw [Nat.add_mul, Nat.one_mul]
    have hf := few2 S hw hl
    -- the sign drawn
    have hne : ss ≠ [] := fun z => by rw [z] at hw; cases hw
    have hpos : 0 < ss.length := List.length_pos_iff.mpr hne
    have hl0 : hLen [.fz (.tuple (sgD ss))] = some (.fz (.int (ss.length : Int))) := by
      show some (O.fz (.int ((sgD ss).length : Int))) = _
      rw [List.length_map]
    generalize hM : (ss.length : Int) = L at hl0
    obtain ⟨r, r0, r1, e1⟩ := next_ok (c := c) (m := L) G h0 (by omega) (by omega)
    obtain ⟨x, ex, hx⟩ := atI_lt (xs := sgD ss) (i := r) r0 (by rw [List.length_map, hM]; exact r1)
    obtain ⟨⟨w2, a2⟩, hq, rfl⟩ := List.mem_map.mp hx
    simp only at ex
    have hix : hIx (.fz (.tuple (sgD ss))) (.fz (.int r)) = some (.fz (.tuple [.str w2, .int a2])) := by
      show (atI (sgD ss) r).map O.fz = _
      rw [ex]; rfl
    have hlen : hLen [.fz (.tuple (.str w :: ds))] = some (.fz (.int (a + 1))) := by
      rw [← hl]; rfl
    have b1 : sAsg (eOp hIx (eV 1) (eCall (g__law_next) 2 (gB 0 (gF (eCN hLen (lC (eV 1) lN)) gN)))) (tgTup 2 (tgCons (tgName 3) (tgCons (tgName 4) tgNil))) [some (.mu true (stD ns c)), some (.fz (.tuple (sgD ss))), some (.fz (.tuple (.str w :: ds))), none, none, none]
        = some (.ok .nx [some (.mu true (stD ns (c + 1))), some (.fz (.tuple (sgD ss))), some (.fz (.tuple (.str w :: ds))), some (.fz (.str w2)), some (.fz (.int a2)), none]) := by
      generalize PyData.tuple (.str w :: ds) = A at *
      generalize PyData.tuple (sgD ss) = sg at *
      simp [eV_ap, eC_ap, dr2O_ap, dr2_ap, dr2P_ap, eOp_ap, eOpK_ap, dr2B_ap, dr2BP_ap, dr2BO_ap, eTs_ap, eTsK_ap, dr1_ap, dr1P_ap, eUn_ap, drN_ap, drNP_ap, eCN_ap, lN_ap, lC_ap, lCK_ap, consR_ap, aN_ap, aC_ap, aCK_ap, consD_ap, frz_o, frz_m, frz_sf, frz_sm, gN_ap, gF_ap, gFK_ap, consG_ap, gB_ap, eCall_ap, callN_ap, callA_ap, callOut_ap, argE_bt, argE_bf, argE_fz, argE_nil, eTup_ap, eLst_ap, tupK_ap, lstK_ap, eDct_ap, eSl_ap, slK_ap, slK1_ap, slK2_ap, pN_ap, pI_ap, tTr_ap, tAn_ap, tO_ap, andK_t, andK_f, orK_t, orK_f, iT_ap, iV_ap, iterD_l, iterD_t, iR1_ap, sRet_ap, rtK_ap, sN_ap, sBk_ap, sIf_ap, ifK_t, ifK_f, sSet_ap, setK_o, stM_n, stM_f, stM_m, stM_o, sAsg_ap, sApp_apt, sApp_apf, appK_apt, appK_apf, sSt_ap, stK_ap, stKK_apt, stKK_apf, sFor_ap, eLc_ap, eMt_ap, mtK_ap, mtK1_ap, tgName_ap, tgTup_ap, tgCons_ap, tgThen_ap, tgNil_ap, seq_eq, bind_eq, thenO_ok, ret_eq, seqO_nx, seqO_rt, seqO_bk, rdL, rdO_o, rdO_s, callBO_t, brOk_n, brOk_f, brOk_b, brAt_n, brAt_f, brAt_b, back, backF, List.mapIdx, List.mapIdx.go, hl0, e1, hix]
    have body : g__law_changed nT (n + 1) [some (.mu true (stD ns c)), some (.fz (.tuple (sgD ss))), some (.fz (.tuple (.str w :: ds)))] = defOut [some (.mu true (stD ns c)), some (.fz (.tuple (sgD ss))), some (.fz (.tuple (.str w :: ds)))] (f__law_changed nT (g__law_changed nT n) [some (.mu true (stD ns c)), some (.fz (.tuple (sgD ss))), some (.fz (.tuple (.str w :: ds))), none, none, none]) := rfl
    -- the first way
    have one : ∀ c1 : Int, c ≤ c1 → c1 ≤ c + 2 → (tO (eTs hEq (eCN hLen (lC (eV 2) lN)) (eC (.int 1))) (eTs hEq (eCall (g__law_next) 2 (gB 0 (gF (eC (.int 5)) gN))) (eC (.int 0)))) [some (.mu true (stD ns (c + 1))), some (.fz (.tuple (sgD ss))), some (.fz (.tuple (.str w :: ds))), some (.fz (.str w2)), some (.fz (.int a2)), none] = some (.ok true [some (.mu true (stD ns c1)), some (.fz (.tuple (sgD ss))), some (.fz (.tuple (.str w :: ds))), some (.fz (.str w2)), some (.fz (.int a2)), none]) →
        ∃ d' c', Tr ss (m + 1 + nT) d' ∧ c ≤ c' ∧ c' ≤ c + ((n + 1) * (cst nT + 10) : Nat) ∧ g__law_changed nT (n + 1) [some (.mu true (stD ns c)), some (.fz (.tuple (sgD ss))), some (.fz (.tuple (.str w :: ds)))] = some (.ok (.fz d') [some (.mu true (stD ns c')), some (.fz (.tuple (sgD ss))), some (.fz (.tuple (.str w :: ds)))]) := by
      intro c1 g0 g1 et
      obtain ⟨d', c', ρ', ht', k0, k1, e, e0⟩ := chA_ok (ns := ns) (c := c1) (w2 := w2) (a2 := a2) hT G S few (by omega) (by omega) hw hl hd hq
      refine ⟨d', c', ht', by omega, by omega, ?_⟩
      rw [body]
      unfold f__law_changed
      rw [seq_eq, b1, seqO_nx, seq_eq, sIf_ap, et, thenO_ok, ifK_t]
      unfold chA at e
      rw [e, seqO_rt]
      simp [defOut, resO, keepB, keepF, List.mapIdx, List.mapIdx.go, e0]
    by_cases ha : a = 0
    · refine one (c + 1) (by omega) (by omega) ?_
      have hq1 : hEq (.fz (.int (a + 1))) (.fz (.int 1)) = some (.fz (.bool true)) := by rw [ha]; rfl
      generalize PyData.tuple (.str w :: ds) = A at *
      simp [eV_ap, eC_ap, dr2O_ap, dr2_ap, dr2P_ap, eOp_ap, eOpK_ap, dr2B_ap, dr2BP_ap, dr2BO_ap, eTs_ap, eTsK_ap, dr1_ap, dr1P_ap, eUn_ap, drN_ap, drNP_ap, eCN_ap, lN_ap, lC_ap, lCK_ap, consR_ap, aN_ap, aC_ap, aCK_ap, consD_ap, frz_o, frz_m, frz_sf, frz_sm, gN_ap, gF_ap, gFK_ap, consG_ap, gB_ap, eCall_ap, callN_ap, callA_ap, callOut_ap, argE_bt, argE_bf, argE_fz, argE_nil, eTup_ap, eLst_ap, tupK_ap, lstK_ap, eDct_ap, eSl_ap, slK_ap, slK1_ap, slK2_ap, pN_ap, pI_ap, tTr_ap, tAn_ap, tO_ap, andK_t, andK_f, orK_t, orK_f, iT_ap, iV_ap, iterD_l, iterD_t, iR1_ap, sRet_ap, rtK_ap, sN_ap, sBk_ap, sIf_ap, ifK_t, ifK_f, sSet_ap, setK_o, stM_n, stM_f, stM_m, stM_o, sAsg_ap, sApp_apt, sApp_apf, appK_apt, appK_apf, sSt_ap, stK_ap, stKK_apt, stKK_apf, sFor_ap, eLc_ap, eMt_ap, mtK_ap, mtK1_ap, tgName_ap, tgTup_ap, tgCons_ap, tgThen_ap, tgNil_ap, seq_eq, bind_eq, thenO_ok, ret_eq, seqO_nx, seqO_rt, seqO_bk, rdL, rdO_o, rdO_s, hlen, hq1]
    · have hq1 : hEq (.fz (.int (a + 1))) (.fz (.int 1)) = some (.fz (.bool false)) := by
        have : (a + 1 == 1) = false := beq_eq_false_iff_ne.mpr (by omega)
        simp [hEq, O.view, flatD, PyData.eqv, this]
      obtain ⟨p, p0, p1, e2⟩ := next_ok (c := c + 1) (m := 5) G (by omega) (by omega) (by decide)
      have hq2 : hEq (.fz (.int p)) (.fz (.int 0)) = some (.fz (.bool (p == 0))) := by simp [hEq, O.view, flatD, PyData.eqv]
      have et : ∀ k : Bool, (p == 0) = k → (tO (eTs hEq (eCN hLen (lC (eV 2) lN)) (eC (.int 1))) (eTs hEq (eCall (g__law_next) 2 (gB 0 (gF (eC (.int 5)) gN))) (eC (.int 0)))) [some (.mu true (stD ns (c + 1))), some (.fz (.tuple (sgD ss))), some (.fz (.tuple (.str w :: ds))), some (.fz (.str w2)), some (.fz (.int a2)), none] = some (.ok k [some (.mu true (stD ns (c + 1 + 1))), some (.fz (.tuple (sgD ss))), some (.fz (.tuple (.str w :: ds))), some (.fz (.str w2)), some (.fz (.int a2)), none]) := by
        intro k hk
        rw [hk] at hq2
        generalize PyData.tuple (.str w :: ds) = A at *
        simp [eV_ap, eC_ap, dr2O_ap, dr2_ap, dr2P_ap, eOp_ap, eOpK_ap, dr2B_ap, dr2BP_ap, dr2BO_ap, eTs_ap, eTsK_ap, dr1_ap, dr1P_ap, eUn_ap, drN_ap, drNP_ap, eCN_ap, lN_ap, lC_ap, lCK_ap, consR_ap, aN_ap, aC_ap, aCK_ap, consD_ap, frz_o, frz_m, frz_sf, frz_sm, gN_ap, gF_ap, gFK_ap, consG_ap, gB_ap, eCall_ap, callN_ap, callA_ap, callOut_ap, argE_bt, argE_bf, argE_fz, argE_nil, eTup_ap, eLst_ap, tupK_ap, lstK_ap, eDct_ap, eSl_ap, slK_ap, slK1_ap, slK2_ap, pN_ap, pI_ap, tTr_ap, tAn_ap, tO_ap, andK_t, andK_f, orK_t, orK_f, iT_ap, iV_ap, iterD_l, iterD_t, iR1_ap, sRet_ap, rtK_ap, sN_ap, sBk_ap, sIf_ap, ifK_t, ifK_f, sSet_ap, setK_o, stM_n, stM_f, stM_m, stM_o, sAsg_ap, sApp_apt, sApp_apf, appK_apt, appK_apf, sSt_ap, stK_ap, stKK_apt, stKK_apf, sFor_ap, eLc_ap, eMt_ap, mtK_ap, mtK1_ap, tgName_ap, tgTup_ap, tgCons_ap, tgThen_ap, tgNil_ap, seq_eq, bind_eq, thenO_ok, ret_eq, seqO_nx, seqO_rt, seqO_bk, rdL, rdO_o, rdO_s, callBO_t, brOk_n, brOk_f, brOk_b, brAt_n, brAt_f, brAt_b, back, backF, List.mapIdx, List.mapIdx.go, hlen, hq1, e2, hq2]
      cases hp : (p == 0) with
      | true => exact one (c + 1 + 1) (by omega) (by omega) (et true hp)
      | false =>
        have ap : 0 < a := by have := (S.ar _ hw).1; simp only at this; omega
        obtain ⟨q, q0, q1, e3⟩ := next_ok (c := c + 1 + 1) (m := a) G (by omega) (by omega) ap
        obtain ⟨qn, rfl⟩ := Int.eq_ofNat_of_zero_le q0
        have hqn : qn < ds.length := by omega
        obtain ⟨d', c', ht', k0, k1, e4⟩ := changed_ok hT G S few n m ds[qn] (c + 1 + 1 + 1) (by omega) (hd _ (List.getElem_mem hqn)) (by omega) (by omega)
        refine ⟨.tuple (.str w :: ds.set qn d'), c', (Tm.node (n := m + nT) (ds := ds.set qn d') hw (by rw [List.length_set]; exact hl) (fun z hz => ?_)).mono (by omega), by omega, by omega, ?_⟩
        · rcases List.mem_or_eq_of_mem_set hz with h | h
          · exact (hd z h).mono (by omega)
          · rw [h]; exact ht'
        · have hsub : hI (fun _ _ => true) (fun i j => i - j) (.fz (.int (a + 1))) (.fz (.int 1)) = some (.fz (.int a)) := by
            show some (O.fz (.int (a + 1 - 1))) = _
            rw [show a + 1 - 1 = a by omega]
          have hat : (1 : Int) + (qn : Int) = ((qn + 1 : Nat) : Int) := by omega
          have hadd : hAdd (.fz (.int 1)) (.fz (.int (qn : Int))) = some (.fz (.int ((qn + 1 : Nat) : Int))) := by rw [← hat]; rfl
          have hadd2 : hAdd (.fz (.int ((qn + 1 : Nat) : Int))) (.fz (.int 1)) = some (.fz (.int ((qn + 2 : Nat) : Int))) := by
            show some (O.fz (.int (((qn + 1 : Nat) : Int) + 1))) = _
            rw [show ((qn + 1 : Nat) : Int) + 1 = ((qn + 2 : Nat) : Int) by omega]
          have hx1 : hIx (.fz (.tuple (.str w :: ds))) (.fz (.int ((qn + 1 : Nat) : Int))) = some (.fz ds[qn]) := by
            show (atI (PyData.str w :: ds) ((qn + 1 : Nat) : Int)).map O.fz = _
            rw [atI_nat (j := qn + 1) (v := ds[qn]) (show (PyData.str w :: ds)[qn + 1]? = some ds[qn] by simp [hqn])]; rfl
          have t1 : hSl (.fz (.tuple (.str w :: ds))) none (some ((qn + 1 : Nat) : Int)) = some (.fz (.tuple ((PyData.str w :: ds).take (qn + 1)))) := by
            show some (O.fz (.tuple (cutL (PyData.str w :: ds) none (some ((qn + 1 : Nat) : Int))))) = _
            rw [cutL_to]
          have t2 : hSl (.fz (.tuple (.str w :: ds))) (some ((qn + 2 : Nat) : Int)) none = some (.fz (.tuple ((PyData.str w :: ds).drop (qn + 2)))) := by
            show some (O.fz (.tuple (cutL (PyData.str w :: ds) (some ((qn + 2 : Nat) : Int)) none))) = _
            rw [cutL_from (by simp; omega)]
          have t3 : hAdd (.fz (.tuple ((PyData.str w :: ds).take (qn + 1)))) (.fz (.tuple [d'])) = some (.fz (.tuple ((PyData.str w :: ds).take (qn + 1) ++ [d']))) := hAdd_t (by simp; omega)
          have t4 : hAdd (.fz (.tuple ((PyData.str w :: ds).take (qn + 1) ++ [d']))) (.fz (.tuple ((PyData.str w :: ds).drop (qn + 2)))) = some (.fz (.tuple (.str w :: ds.set qn d'))) := by
            exact (hAdd_t (x := (PyData.str w :: ds).take (qn + 1) ++ [d']) (y := (PyData.str w :: ds).drop (qn + 2)) (by simp; omega)).trans (by rw [set_eq hqn])
          rw [body]
          unfold f__law_changed
          rw [seq_eq, b1, seqO_nx, seq_eq, sIf_ap, et false hp, thenO_ok, ifK_f, sN_ap, seqO_nx]
          generalize hT1 : (PyData.str w :: ds).take (qn + 1) = T1 at *
          generalize hT2 : (PyData.str w :: ds).drop (qn + 2) = T2 at *
          generalize ds[qn] = dq at *
          generalize PyData.tuple (.str w :: ds.set qn d') = RR at *
          generalize PyData.tuple (.str w :: ds) = A at *
          generalize ((qn + 1 : Nat) : Int) = i1 at *
          generalize ((qn + 2 : Nat) : Int) = i2 at *
          have u1 : sSet 5 (eOp hAdd (eC (.int 1)) (eCall (g__law_next) 2 (gB 0 (gF (eOp (hI (fun _ _ => true) fun i j => i - j) (eCN hLen (lC (eV 2) lN)) (eC (.int 1))) gN)))) [some (.mu true (stD ns (c + 1 + 1))), some (.fz (.tuple (sgD ss))), some (.fz A), some (.fz (.str w2)), some (.fz (.int a2)), none] = some (.ok .nx [some (.mu true (stD ns (c + 1 + 1 + 1))), some (.fz (.tuple (sgD ss))), some (.fz A), some (.fz (.str w2)), some (.fz (.int a2)), some (.fz (.int i1))]) := by
            simp [eV_ap, eC_ap, dr2O_ap, dr2_ap, dr2P_ap, eOp_ap, eOpK_ap, dr2B_ap, dr2BP_ap, dr2BO_ap, eTs_ap, eTsK_ap, dr1_ap, dr1P_ap, eUn_ap, drN_ap, drNP_ap, eCN_ap, lN_ap, lC_ap, lCK_ap, consR_ap, aN_ap, aC_ap, aCK_ap, consD_ap, frz_o, frz_m, frz_sf, frz_sm, gN_ap, gF_ap, gFK_ap, consG_ap, gB_ap, eCall_ap, callN_ap, callA_ap, callOut_ap, argE_bt, argE_bf, argE_fz, argE_nil, eTup_ap, eLst_ap, tupK_ap, lstK_ap, eDct_ap, eSl_ap, slK_ap, slK1_ap, slK2_ap, pN_ap, pI_ap, tTr_ap, tAn_ap, tO_ap, andK_t, andK_f, orK_t, orK_f, iT_ap, iV_ap, iterD_l, iterD_t, iR1_ap, sRet_ap, rtK_ap, sN_ap, sBk_ap, sIf_ap, ifK_t, ifK_f, sSet_ap, setK_o, stM_n, stM_f, stM_m, stM_o, sAsg_ap, sApp_apt, sApp_apf, appK_apt, appK_apf, sSt_ap, stK_ap, stKK_apt, stKK_apf, sFor_ap, eLc_ap, eMt_ap, mtK_ap, mtK1_ap, tgName_ap, tgTup_ap, tgCons_ap, tgThen_ap, tgNil_ap, seq_eq, bind_eq, thenO_ok, ret_eq, seqO_nx, seqO_rt, seqO_bk, rdL, rdO_o, rdO_s, callBO_t, brOk_n, brOk_f, brOk_b, brAt_n, brAt_f, brAt_b, back, backF, List.mapIdx, List.mapIdx.go, hlen, hsub, e3, hadd]
          rw [seq_eq, u1, seqO_nx]
          simp [eV_ap, eC_ap, dr2O_ap, dr2_ap, dr2P_ap, eOp_ap, eOpK_ap, dr2B_ap, dr2BP_ap, dr2BO_ap, eTs_ap, eTsK_ap, dr1_ap, dr1P_ap, eUn_ap, drN_ap, drNP_ap, eCN_ap, lN_ap, lC_ap, lCK_ap, consR_ap, aN_ap, aC_ap, aCK_ap, consD_ap, frz_o, frz_m, frz_sf, frz_sm, gN_ap, gF_ap, gFK_ap, consG_ap, gB_ap, eCall_ap, callN_ap, callA_ap, callOut_ap, argE_bt, argE_bf, argE_fz, argE_nil, eTup_ap, eLst_ap, tupK_ap, lstK_ap, eDct_ap, eSl_ap, slK_ap, slK1_ap, slK2_ap, pN_ap, pI_ap, tTr_ap, tAn_ap, tO_ap, andK_t, andK_f, orK_t, orK_f, iT_ap, iV_ap, iterD_l, iterD_t, iR1_ap, sRet_ap, rtK_ap, sN_ap, sBk_ap, sIf_ap, ifK_t, ifK_f, sSet_ap, setK_o, stM_n, stM_f, stM_m, stM_o, sAsg_ap, sApp_apt, sApp_apf, appK_apt, appK_apf, sSt_ap, stK_ap, stKK_apt, stKK_apf, sFor_ap, eLc_ap, eMt_ap, mtK_ap, mtK1_ap, tgName_ap, tgTup_ap, tgCons_ap, tgThen_ap, tgNil_ap, seq_eq, bind_eq, thenO_ok, ret_eq, seqO_nx, seqO_rt, seqO_bk, rdL, rdO_o, rdO_s, callBO_t, brOk_n, brOk_f, brOk_b, brAt_n, brAt_f, brAt_b, back, backF, List.mapIdx, List.mapIdx.go, t1, hx1, e4, t3, hadd2, asInt_o, asInt_s, t2, t4, defOut, resO, keepB, keepF]
end VsG

namespace VsG
open PySem PySem.Spec L2 Vs
abbrev rwB : M Fl := sSet 6 (eOp hIx (eLst (aC (eTup (aC (eV 1) (aC (eV 6) aN))) (aC (eTup (aC (eV 1) (aC (eTup (aC (eV 5) aN)) (aC (eV 6) aN)))) aN))) (eOp (hI (fun _ _ => true) fun i j => i - j) (eV 2) (eC (.int 1))))
theorem rowk_ok {ss : List (Str × Int)} (S : Sgn ss) (few : ss.length ≤ 100) {w : Str} {a many : Int} {t : PyData} {k : Nat} (hw : (w, a) ∈ ss) (ha : 0 < a) (hm : 0 ≤ many) (hm2 : many ≤ 1000) (hk : 1 ≤ k) (ht : Tr ss k t) :
    ∃ d, Tr ss (k + many.toNat) d ∧ g__law_row [some (.fz (.tuple (sgD ss))), some (.fz (.str w)), some (.fz (.int a)), some (.fz (.int many)), some (.fz t)] = some (.ok (.fz d) [some (.fz (.tuple (sgD ss))), some (.fz (.str w)), some (.fz (.int a)), some (.fz (.int many)), some (.fz t)]) := by
  obtain ⟨⟨w0, a0⟩, hw0, h00⟩ := S.z
  simp only at h00
  subst h00
  -- the constants
  have key := lcF_pure (vs := [8, 9]) (h := tgTup 2 (tgCons (tgName 8) (tgCons (tgName 9) tgNil))) (ft := (eTs hEq (eV 9) (eC (.int 0)))) (fe := (eV 8).bind frz) (ρ := [some (.fz (.tuple (sgD ss))), some (.fz (.str w)), some (.fz (.int a)), some (.fz (.int many)), some (.fz t), none, none, none, none, none]) (fun d => match d with | .tuple [.str w, .int a] => a == 0 | _ => false) (fun d => match d with | .tuple (x :: _) => x | x => x) (sgD ss) [] (fun d hd => by
    obtain ⟨p, hp, rfl⟩ := List.mem_map.mp hd
    refine ⟨[some (.fz (.tuple (sgD ss))), some (.fz (.str w)), some (.fz (.int a)), some (.fz (.int many)), some (.fz t), none, none, none, some (.fz (.str p.1)), some (.fz (.int p.2))], ?_, ?_, fun _ => ?_, ?_, ?_⟩
    · simp [eV_ap, eC_ap, dr2O_ap, dr2_ap, dr2P_ap, eOp_ap, eOpK_ap, dr2B_ap, dr2BP_ap, dr2BO_ap, eTs_ap, eTsK_ap, dr1_ap, dr1P_ap, eUn_ap, drN_ap, drNP_ap, eCN_ap, lN_ap, lC_ap, lCK_ap, consR_ap, aN_ap, aC_ap, aCK_ap, consD_ap, frz_o, frz_m, frz_sf, frz_sm, gN_ap, gF_ap, gFK_ap, consG_ap, gB_ap, eCall_ap, callN_ap, callA_ap, callOut_ap, argE_bt, argE_bf, argE_fz, argE_nil, eTup_ap, eLst_ap, tupK_ap, lstK_ap, eDct_ap, eSl_ap, slK_ap, slK1_ap, slK2_ap, pN_ap, pI_ap, tTr_ap, tAn_ap, tO_ap, andK_t, andK_f, orK_t, orK_f, iT_ap, iV_ap, iterD_l, iterD_t, iR1_ap, sRet_ap, rtK_ap, sN_ap, sBk_ap, sIf_ap, ifK_t, ifK_f, sSet_ap, setK_o, stM_n, stM_f, stM_m, stM_o, sAsg_ap, sApp_apt, sApp_apf, appK_apt, appK_apf, sSt_ap, stK_ap, stKK_apt, stKK_apf, sFor_ap, eLc_ap, eMt_ap, mtK_ap, mtK1_ap, tgName_ap, tgTup_ap, tgCons_ap, tgThen_ap, tgNil_ap, seq_eq, bind_eq, thenO_ok, ret_eq, seqO_nx, seqO_rt, seqO_bk, rdL, rdO_o, rdO_s, O.view, Mu.view, muSet, muApp, hIx, ixD, hAdd, hLen, hI, hInt, hAbs, hCmp, hMax2, hTuple, hSl, hEq, hNe, flatD, PyData.eqv, tru_b, asInt_o, asInt_s, cutL_1, atI_0, atI_1, atI_2]
    · simp [eV_ap, eC_ap, dr2O_ap, dr2_ap, dr2P_ap, eOp_ap, eOpK_ap, dr2B_ap, dr2BP_ap, dr2BO_ap, eTs_ap, eTsK_ap, dr1_ap, dr1P_ap, eUn_ap, drN_ap, drNP_ap, eCN_ap, lN_ap, lC_ap, lCK_ap, consR_ap, aN_ap, aC_ap, aCK_ap, consD_ap, frz_o, frz_m, frz_sf, frz_sm, gN_ap, gF_ap, gFK_ap, consG_ap, gB_ap, eCall_ap, callN_ap, callA_ap, callOut_ap, argE_bt, argE_bf, argE_fz, argE_nil, eTup_ap, eLst_ap, tupK_ap, lstK_ap, eDct_ap, eSl_ap, slK_ap, slK1_ap, slK2_ap, pN_ap, pI_ap, tTr_ap, tAn_ap, tO_ap, andK_t, andK_f, orK_t, orK_f, iT_ap, iV_ap, iterD_l, iterD_t, iR1_ap, sRet_ap, rtK_ap, sN_ap, sBk_ap, sIf_ap, ifK_t, ifK_f, sSet_ap, setK_o, stM_n, stM_f, stM_m, stM_o, sAsg_ap, sApp_apt, sApp_apf, appK_apt, appK_apf, sSt_ap, stK_ap, stKK_apt, stKK_apf, sFor_ap, eLc_ap, eMt_ap, mtK_ap, mtK1_ap, tgName_ap, tgTup_ap, tgCons_ap, tgThen_ap, tgNil_ap, seq_eq, bind_eq, thenO_ok, ret_eq, seqO_nx, seqO_rt, seqO_bk, rdL, rdO_o, rdO_s, hEq, O.view, flatD, PyData.eqv]
    · simp [eV_ap, eC_ap, dr2O_ap, dr2_ap, dr2P_ap, eOp_ap, eOpK_ap, dr2B_ap, dr2BP_ap, dr2BO_ap, eTs_ap, eTsK_ap, dr1_ap, dr1P_ap, eUn_ap, drN_ap, drNP_ap, eCN_ap, lN_ap, lC_ap, lCK_ap, consR_ap, aN_ap, aC_ap, aCK_ap, consD_ap, frz_o, frz_m, frz_sf, frz_sm, gN_ap, gF_ap, gFK_ap, consG_ap, gB_ap, eCall_ap, callN_ap, callA_ap, callOut_ap, argE_bt, argE_bf, argE_fz, argE_nil, eTup_ap, eLst_ap, tupK_ap, lstK_ap, eDct_ap, eSl_ap, slK_ap, slK1_ap, slK2_ap, pN_ap, pI_ap, tTr_ap, tAn_ap, tO_ap, andK_t, andK_f, orK_t, orK_f, iT_ap, iV_ap, iterD_l, iterD_t, iR1_ap, sRet_ap, rtK_ap, sN_ap, sBk_ap, sIf_ap, ifK_t, ifK_f, sSet_ap, setK_o, stM_n, stM_f, stM_m, stM_o, sAsg_ap, sApp_apt, sApp_apf, appK_apt, appK_apf, sSt_ap, stK_ap, stKK_apt, stKK_apf, sFor_ap, eLc_ap, eMt_ap, mtK_ap, mtK1_ap, tgName_ap, tgTup_ap, tgCons_ap, tgThen_ap, tgNil_ap, seq_eq, bind_eq, thenO_ok, ret_eq, seqO_nx, seqO_rt, seqO_bk, rdL, rdO_o, rdO_s, O.view, Mu.view, muSet, muApp, hIx, ixD, hAdd, hLen, hI, hInt, hAbs, hCmp, hMax2, hTuple, hSl, hEq, hNe, flatD, PyData.eqv, tru_b, asInt_o, asInt_s, cutL_1, atI_0, atI_1, atI_2]
    · simp [freeV]
    · simp [wipeR, List.mapIdx, List.mapIdx.go]) (by simp; omega)
  obtain ⟨c0, cs, hcs, hc0⟩ : ∃ c0 cs, [] ++ ((sgD ss).filter (fun d => match d with | .tuple [.str w, .int a] => a == 0 | _ => false)).map (fun d => match d with | .tuple (x :: _) => x | x => x) = .str c0 :: cs ∧ (c0, 0) ∈ ss := by
    cases hF : (sgD ss).filter (fun d => match d with | .tuple [.str w, .int a] => a == 0 | _ => false) with
    | nil =>
      have : PyData.tuple [.str w0, .int 0] ∈ (sgD ss).filter (fun d => match d with | .tuple [.str w, .int a] => a == 0 | _ => false) := List.mem_filter.mpr ⟨List.mem_map.mpr ⟨(w0, 0), hw0, rfl⟩, rfl⟩
      rw [hF] at this; cases this
    | cons d r =>
      have hd : d ∈ (sgD ss).filter (fun d => match d with | .tuple [.str w, .int a] => a == 0 | _ => false) := by rw [hF]; exact List.mem_cons_self ..
      obtain ⟨h1, h2⟩ := List.mem_filter.mp hd
      obtain ⟨⟨v, b⟩, hp, rfl⟩ := List.mem_map.mp h1
      have hb : b = 0 := eq_of_beq h2
      subst hb
      exact ⟨v, _, rfl, hp⟩
  rw [hcs] at key
  have hlc := lcM_ap (vs := [8, 9]) (h := tgTup 2 (tgCons (tgName 8) (tgCons (tgName 9) tgNil))) (ft := (eTs hEq (eV 9) (eC (.int 0)))) (fe := (eV 8).bind frz) (ρ := [some (.fz (.tuple (sgD ss))), some (.fz (.str w)), some (.fz (.int a)), some (.fz (.int many)), some (.fz t), none, none, none, none, none]) (by simp [freeV]) (by simpa [wipeR, List.mapIdx, List.mapIdx.go] using key)
  have hi : iV (eV 0) [some (.fz (.tuple (sgD ss))), some (.fz (.str w)), some (.fz (.int a)), some (.fz (.int many)), some (.fz t), none, none, none, none, none] = some (.ok (sgD ss) [some (.fz (.tuple (sgD ss))), some (.fz (.str w)), some (.fz (.int a)), some (.fz (.int many)), some (.fz t), none, none, none, none, none]) := by simp [eV_ap, eC_ap, dr2O_ap, dr2_ap, dr2P_ap, eOp_ap, eOpK_ap, dr2B_ap, dr2BP_ap, dr2BO_ap, eTs_ap, eTsK_ap, dr1_ap, dr1P_ap, eUn_ap, drN_ap, drNP_ap, eCN_ap, lN_ap, lC_ap, lCK_ap, consR_ap, aN_ap, aC_ap, aCK_ap, consD_ap, frz_o, frz_m, frz_sf, frz_sm, gN_ap, gF_ap, gFK_ap, consG_ap, gB_ap, eCall_ap, callN_ap, callA_ap, callOut_ap, argE_bt, argE_bf, argE_fz, argE_nil, eTup_ap, eLst_ap, tupK_ap, lstK_ap, eDct_ap, eSl_ap, slK_ap, slK1_ap, slK2_ap, pN_ap, pI_ap, tTr_ap, tAn_ap, tO_ap, andK_t, andK_f, orK_t, orK_f, iT_ap, iV_ap, iterD_l, iterD_t, iR1_ap, sRet_ap, rtK_ap, sN_ap, sBk_ap, sIf_ap, ifK_t, ifK_f, sSet_ap, setK_o, stM_n, stM_f, stM_m, stM_o, sAsg_ap, sApp_apt, sApp_apf, appK_apt, appK_apf, sSt_ap, stK_ap, stKK_apt, stKK_apf, sFor_ap, eLc_ap, eMt_ap, mtK_ap, mtK1_ap, tgName_ap, tgTup_ap, tgCons_ap, tgThen_ap, tgNil_ap, seq_eq, bind_eq, thenO_ok, ret_eq, seqO_nx, seqO_rt, seqO_bk, rdL, rdO_o, rdO_s, O.view, Mu.view, muSet, muApp, hIx, ixD, hAdd, hLen, hI, hInt, hAbs, hCmp, hMax2, hTuple, hSl, hEq, hNe, flatD, PyData.eqv, tru_b, asInt_o, asInt_s, cutL_1, atI_0, atI_1, atI_2]
  have hb : backR [some (.fz (.tuple (sgD ss))), some (.fz (.str w)), some (.fz (.int a)), some (.fz (.int many)), some (.fz t), none, none, none, none, none] [some (.fz (.tuple (sgD ss))), some (.fz (.str w)), some (.fz (.int a)), some (.fz (.int many)), some (.fz t), none, none, none, none, none] [8, 9] = [some (.fz (.tuple (sgD ss))), some (.fz (.str w)), some (.fz (.int a)), some (.fz (.int many)), some (.fz t), none, none, none, none, none] := by simp [backR, List.mapIdx, List.mapIdx.go]
  rw [hb] at hlc
  have hx0 : hIx (.mu false (.lst (.str c0 :: cs))) (.fz (.int 0)) = some (.fz (.str c0)) := by
    show (atI (PyData.str c0 :: cs) 0).map O.fz = _
    rw [atI_0]; rfl
  have b1 : sSet 5 (eOp hIx (eLc [8, 9] (iV (eV 0)) (tgTup 2 (tgCons (tgName 8) (tgCons (tgName 9) tgNil))) (eTs hEq (eV 9) (eC (.int 0))) (eV 8)) (eC (.int 0))) [some (.fz (.tuple (sgD ss))), some (.fz (.str w)), some (.fz (.int a)), some (.fz (.int many)), some (.fz t), none, none, none, none, none] = some (.ok .nx [some (.fz (.tuple (sgD ss))), some (.fz (.str w)), some (.fz (.int a)), some (.fz (.int many)), some (.fz t), some (.fz (.str c0)), none, none, none, none]) := by
    rw [sSet_ap, eOp_ap, eLc_ap, hi, thenO_ok, hlc, thenO_ok]
    simp [eV_ap, eC_ap, dr2O_ap, dr2_ap, dr2P_ap, eOp_ap, eOpK_ap, dr2B_ap, dr2BP_ap, dr2BO_ap, eTs_ap, eTsK_ap, dr1_ap, dr1P_ap, eUn_ap, drN_ap, drNP_ap, eCN_ap, lN_ap, lC_ap, lCK_ap, consR_ap, aN_ap, aC_ap, aCK_ap, consD_ap, frz_o, frz_m, frz_sf, frz_sm, gN_ap, gF_ap, gFK_ap, consG_ap, gB_ap, eCall_ap, callN_ap, callA_ap, callOut_ap, argE_bt, argE_bf, argE_fz, argE_nil, eTup_ap, eLst_ap, tupK_ap, lstK_ap, eDct_ap, eSl_ap, slK_ap, slK1_ap, slK2_ap, pN_ap, pI_ap, tTr_ap, tAn_ap, tO_ap, andK_t, andK_f, orK_t, orK_f, iT_ap, iV_ap, iterD_l, iterD_t, iR1_ap, sRet_ap, rtK_ap, sN_ap, sBk_ap, sIf_ap, ifK_t, ifK_f, sSet_ap, setK_o, stM_n, stM_f, stM_m, stM_o, sAsg_ap, sApp_apt, sApp_apf, appK_apt, appK_apf, sSt_ap, stK_ap, stKK_apt, stKK_apf, sFor_ap, eLc_ap, eMt_ap, mtK_ap, mtK1_ap, tgName_ap, tgTup_ap, tgCons_ap, tgThen_ap, tgNil_ap, seq_eq, bind_eq, thenO_ok, ret_eq, seqO_nx, seqO_rt, seqO_bk, rdL, rdO_o, rdO_s, hx0]
  generalize hsg : PyData.tuple (sgD ss) = sg at *
  have b2 : sSet 6 (eV 4) [some (.fz sg), some (.fz (.str w)), some (.fz (.int a)), some (.fz (.int many)), some (.fz t), some (.fz (.str c0)), none, none, none, none] = some (.ok .nx [some (.fz sg), some (.fz (.str w)), some (.fz (.int a)), some (.fz (.int many)), some (.fz t), some (.fz (.str c0)), some (.fz t), none, none, none]) := by
    rw [sSet_ap, eV_ap (o := .fz t) rfl, thenO_ok, setK_s (frz_sf (d := t) rfl), stM_n rfl]; rfl
  obtain ⟨ρ', ef, d, y7, j, er, hd, f7, hj⟩ := forF_ok (h := tgName 7) (fb := rwB) (fun ds ρ => ∃ (d : PyData) (y7 : Option O) (j : Nat), ρ = [some (.fz sg), some (.fz (.str w)), some (.fz (.int a)), some (.fz (.int many)), some (.fz t), some (.fz (.str c0)), some (.fz d), y7, none, none] ∧ Tr ss (k + j) d ∧ Fr y7 ∧ j + ds.length = many.toNat)
    (fun x ds ρ ⟨d, y7, j, er, hd, f7, hj⟩ => by
      subst er
      have hj' : j + (ds.length + 1) = many.toNat := hj
      obtain ⟨_, a2⟩ := S.ar _ hw
      simp only at a2
      obtain ⟨d', hd', e⟩ : ∃ d', Tr ss (k + j + 1) d' ∧ hIx (.mu false (.lst [.tuple [.str w, d], .tuple [.str w, .tuple [.str c0], d]])) (.fz (.int (a - 1))) = some (.fz d') := by
        have : a = 1 ∨ a = 2 := by omega
        rcases this with rfl | rfl
        · exact ⟨_, .node hw rfl fun y hy => by rw [List.mem_singleton.mp hy]; exact hd, rfl⟩
        · refine ⟨_, .node hw rfl fun y hy => ?_, rfl⟩
          rcases List.mem_cons.mp hy with h | h
          · rw [h]; exact (Tm.node (n := 0) (ds := []) hc0 rfl fun _ h => absurd h List.not_mem_nil).mono (by omega)
          · rw [List.mem_singleton.mp h]; exact hd
      have hsub : hI (fun _ _ => true) (fun i j => i - j) (.fz (.int a)) (.fz (.int 1)) = some (.fz (.int (a - 1))) := rfl
      refine ⟨[some (.fz sg), some (.fz (.str w)), some (.fz (.int a)), some (.fz (.int many)), some (.fz t), some (.fz (.str c0)), some (.fz d), some (.fz x), none, none], ?_, .inl ⟨[some (.fz sg), some (.fz (.str w)), some (.fz (.int a)), some (.fz (.int many)), some (.fz t), some (.fz (.str c0)), some (.fz d'), some (.fz x), none, none], ?_, d', some (.fz x), j + 1, rfl, hd', fr_f, by omega⟩⟩
      · rw [tgName_ap, stM_v rfl f7]; rfl
      · unfold rwB
        simp [eV_ap, eC_ap, dr2O_ap, dr2_ap, dr2P_ap, eOp_ap, eOpK_ap, dr2B_ap, dr2BP_ap, dr2BO_ap, eTs_ap, eTsK_ap, dr1_ap, dr1P_ap, eUn_ap, drN_ap, drNP_ap, eCN_ap, lN_ap, lC_ap, lCK_ap, consR_ap, aN_ap, aC_ap, aCK_ap, consD_ap, frz_o, frz_m, frz_sf, frz_sm, gN_ap, gF_ap, gFK_ap, consG_ap, gB_ap, eCall_ap, callN_ap, callA_ap, callOut_ap, argE_bt, argE_bf, argE_fz, argE_nil, eTup_ap, eLst_ap, tupK_ap, lstK_ap, eDct_ap, eSl_ap, slK_ap, slK1_ap, slK2_ap, pN_ap, pI_ap, tTr_ap, tAn_ap, tO_ap, andK_t, andK_f, orK_t, orK_f, iT_ap, iV_ap, iterD_l, iterD_t, iR1_ap, sRet_ap, rtK_ap, sN_ap, sBk_ap, sIf_ap, ifK_t, ifK_f, sSet_ap, setK_o, stM_n, stM_f, stM_m, stM_o, sAsg_ap, sApp_apt, sApp_apf, appK_apt, appK_apf, sSt_ap, stK_ap, stKK_apt, stKK_apf, sFor_ap, eLc_ap, eMt_ap, mtK_ap, mtK1_ap, tgName_ap, tgTup_ap, tgCons_ap, tgThen_ap, tgNil_ap, seq_eq, bind_eq, thenO_ok, ret_eq, seqO_nx, seqO_rt, seqO_bk, rdL, rdO_o, rdO_s, e, hsub]) (rangeD 0 many.toNat) [some (.fz sg), some (.fz (.str w)), some (.fz (.int a)), some (.fz (.int many)), some (.fz t), some (.fz (.str c0)), some (.fz t), none, none, none]
    ⟨t, none, 0, rfl, ht, fr_n, by rw [rangeD_len]; omega⟩
  subst er
  have hj' : j = many.toNat := by simpa using hj
  refine ⟨d, by rw [← hj']; exact hd, ?_⟩
  have hr := rng1_ap (ρ := [some (.fz sg), some (.fz (.str w)), some (.fz (.int a)), some (.fz (.int many)), some (.fz t), some (.fz (.str c0)), some (.fz t), none, none, none]) (j := many) (by omega)
  have hi2 : iR1 (aC (eV 3) aN) [some (.fz sg), some (.fz (.str w)), some (.fz (.int a)), some (.fz (.int many)), some (.fz t), some (.fz (.str c0)), some (.fz t), none, none, none] = some (.ok (rangeD 0 many.toNat) [some (.fz sg), some (.fz (.str w)), some (.fz (.int a)), some (.fz (.int many)), some (.fz t), some (.fz (.str c0)), some (.fz t), none, none, none]) := by
    simp [eV_ap, eC_ap, dr2O_ap, dr2_ap, dr2P_ap, eOp_ap, eOpK_ap, dr2B_ap, dr2BP_ap, dr2BO_ap, eTs_ap, eTsK_ap, dr1_ap, dr1P_ap, eUn_ap, drN_ap, drNP_ap, eCN_ap, lN_ap, lC_ap, lCK_ap, consR_ap, aN_ap, aC_ap, aCK_ap, consD_ap, frz_o, frz_m, frz_sf, frz_sm, gN_ap, gF_ap, gFK_ap, consG_ap, gB_ap, eCall_ap, callN_ap, callA_ap, callOut_ap, argE_bt, argE_bf, argE_fz, argE_nil, eTup_ap, eLst_ap, tupK_ap, lstK_ap, eDct_ap, eSl_ap, slK_ap, slK1_ap, slK2_ap, pN_ap, pI_ap, tTr_ap, tAn_ap, tO_ap, andK_t, andK_f, orK_t, orK_f, iT_ap, iV_ap, iterD_l, iterD_t, iR1_ap, sRet_ap, rtK_ap, sN_ap, sBk_ap, sIf_ap, ifK_t, ifK_f, sSet_ap, setK_o, stM_n, stM_f, stM_m, stM_o, sAsg_ap, sApp_apt, sApp_apf, appK_apt, appK_apf, sSt_ap, stK_ap, stKK_apt, stKK_apf, sFor_ap, eLc_ap, eMt_ap, mtK_ap, mtK1_ap, tgName_ap, tgTup_ap, tgCons_ap, tgThen_ap, tgNil_ap, seq_eq, bind_eq, thenO_ok, ret_eq, seqO_nx, seqO_rt, seqO_bk, rdL, rdO_o, rdO_s, hr]
  have body : g__law_row [some (.fz sg), some (.fz (.str w)), some (.fz (.int a)), some (.fz (.int many)), some (.fz t)] = defOut [some (.fz sg), some (.fz (.str w)), some (.fz (.int a)), some (.fz (.int many)), some (.fz t)] (f__law_row [some (.fz sg), some (.fz (.str w)), some (.fz (.int a)), some (.fz (.int many)), some (.fz t), none, none, none, none, none]) := rfl
  rw [body]
  unfold f__law_row
  rw [seq_eq, b1, seqO_nx, seq_eq, b2, seqO_nx, seq_eq, sFor_ap, hi2, thenO_ok, ef, seqO_nx, sRet_ap, eV_ap (o := .fz d) rfl, thenO_ok, rtK_ap]
  rfl
/-! ### the law's own question -/
theorem same_ok {c : Int} (h : c = 0 ∨ c = 1 ∨ c = -1) : g__law_same [some (.fz (.list [.int c, .int (0 - c), .int 0])), some (.fz (.list [.int c, .int (0 - c), .int 0]))] = some (.ok (.fz (.bool true)) [some (.fz (.list [.int c, .int (0 - c), .int 0])), some (.fz (.list [.int c, .int (0 - c), .int 0]))]) := by
  obtain ⟨z, hz⟩ : ∃ z, hRepr [.mu false (.lst [.list [.int c, .int (0 - c), .int 0]])] = some (.fz (.str z)) := by
    have key : ∀ d : PyData, (PyData.showable d && (!PyData.hasDict d || noL d)) = true ∧ PyData.depth d ≤ 150 ∧ (PyData.shown d).length ≤ 16777216 → ∃ z, hRepr [.fz d] = some (.fz (.str z)) := fun d hd => ⟨_, if_pos hd⟩
    rcases h with rfl | rfl | rfl
    · exact key (.list [.list [.int 0, .int 0, .int 0]]) (by decide +kernel)
    · exact key (.list [.list [.int 1, .int (-1), .int 0]]) (by decide +kernel)
    · exact key (.list [.list [.int (-1), .int 1, .int 0]]) (by decide +kernel)
  have he : hEq (.fz (.str z)) (.fz (.str z)) = some (.fz (.bool true)) := by simp [hEq, O.view, flatD, PyData.eqv]
  generalize PyData.list [.int c, .int (0 - c), .int 0] = L at *
  simp [g__law_same, f__law_same, defG_ap, okArg, defOut, resO, keepB, keepF, List.mapIdx, List.mapIdx.go, eV_ap, eC_ap, dr2O_ap, dr2_ap, dr2P_ap, eOp_ap, eOpK_ap, dr2B_ap, dr2BP_ap, dr2BO_ap, eTs_ap, eTsK_ap, dr1_ap, dr1P_ap, eUn_ap, drN_ap, drNP_ap, eCN_ap, lN_ap, lC_ap, lCK_ap, consR_ap, aN_ap, aC_ap, aCK_ap, consD_ap, frz_o, frz_m, frz_sf, frz_sm, gN_ap, gF_ap, gFK_ap, consG_ap, gB_ap, eCall_ap, callN_ap, callA_ap, callOut_ap, argE_bt, argE_bf, argE_fz, argE_nil, eTup_ap, eLst_ap, tupK_ap, lstK_ap, eDct_ap, eSl_ap, slK_ap, slK1_ap, slK2_ap, pN_ap, pI_ap, tTr_ap, tAn_ap, tO_ap, andK_t, andK_f, orK_t, orK_f, iT_ap, iV_ap, iterD_l, iterD_t, iR1_ap, sRet_ap, rtK_ap, sN_ap, sBk_ap, sIf_ap, ifK_t, ifK_f, sSet_ap, setK_o, stM_n, stM_f, stM_m, stM_o, sAsg_ap, sApp_apt, sApp_apf, appK_apt, appK_apf, sSt_ap, stK_ap, stKK_apt, stKK_apf, sFor_ap, eLc_ap, eMt_ap, mtK_ap, mtK1_ap, tgName_ap, tgTup_ap, tgCons_ap, tgThen_ap, tgNil_ap, seq_eq, bind_eq, thenO_ok, ret_eq, seqO_nx, seqO_rt, seqO_bk, rdL, rdO_o, rdO_s, hz, he]
theorem agrees_ok {ss : List (Str × Int)} (S : Sgn ss) (few : ss.length ≤ 100) {n k l : Nat} {a b : PyData} (hk : k + 1 < n) (hl : l + 1 < n) (hk2 : k ≤ 150) (ha : Tr ss k a) (hb : Tr ss l b) :
    g__law_agrees n n n [some (.fz (.tuple (sgD ss))), some (.fz a), some (.fz b)] = some (.ok (.fz (.bool true)) [some (.fz (.tuple (sgD ss))), some (.fz a), some (.fz b)]) := by
  have ka := key_ok S few n k a hk ha
  have kb := key_ok S few n l b hl hb
  have hmax : max k l + 1 < n := by omega
  obtain ⟨c, hc, e1⟩ := compare_ok S few n (max k l) a b hmax (ha.mono (Nat.le_max_left _ _)) (hb.mono (Nat.le_max_right _ _))
  obtain ⟨c2, hc2, e2⟩ := compare_ok S few n (max k l) b a hmax (hb.mono (Nat.le_max_right _ _)) (ha.mono (Nat.le_max_left _ _))
  obtain ⟨c3, hc3, e3⟩ := compare_ok S few n k a a hk ha ha
  have e4 := copy_ok S n k a (by omega) ha
  have al := keys_alike k a b l ha hb
  have al0 := keys_alike k a a k ha ha
  have dk := key_depth k a ha
  have irr : ∀ x : PyData, PySem.W.dataLt x x = false := fun x => PyProof.Rows.lex_irrefl _
  obtain ⟨w, _, ds, _, _, rfl, _⟩ := tr_cases ha
  have hnn : ∃ K, keyD ss (.tuple (.str w :: ds)) = .tuple K := ⟨_, keyD_eq ss w ds⟩
  generalize hA : PyData.tuple (.str w :: ds) = A at *
  generalize keyD ss A = x at *
  generalize keyD ss b = y at *
  have h3 : c3 = 0 := by
    rcases hc3 with ⟨h, _⟩ | ⟨_, h, _⟩ | ⟨_, _, h, _⟩
    · exact h
    · rw [irr] at h; cases h
    · rw [irr] at h; cases h
  subst h3
  have hord : ordC x y = true := by
    obtain ⟨K, rfl⟩ := hnn
    unfold ordC
    rw [al, decide_eq_true (show (PyData.tuple K).depth ≤ 150 by omega)]; rfl
  have hgt : hOrd true (.fz x) (.fz y) = some (.fz (.bool (PySem.W.dataLt y x))) := if_pos hord
  have hlt : hOrd false (.fz x) (.fz y) = some (.fz (.bool (PySem.W.dataLt x y))) := if_pos hord
  obtain ⟨hc0, h2, hdue⟩ : (c = 0 ∨ c = 1 ∨ c = -1) ∧ c2 = 0 - c ∧ (if PySem.W.dataLt y x = true then (1 : Int) else 0) - (if PySem.W.dataLt x y = true then (1 : Int) else 0) = c := by
    rcases hc with ⟨rfl, rfl⟩ | ⟨rfl, p1, p2, p3⟩ | ⟨rfl, p1, p2, p3⟩
    · refine ⟨.inl rfl, ?_, by rw [irr]; rfl⟩
      rcases hc2 with ⟨h, _⟩ | ⟨_, h, _⟩ | ⟨_, _, h, _⟩
      · omega
      · rw [irr] at h; cases h
      · rw [irr] at h; cases h
    · refine ⟨.inr (.inr rfl), ?_, by rw [p1, p2]; rfl⟩
      rcases hc2 with ⟨_, h⟩ | ⟨_, h, _⟩ | ⟨h, _⟩
      · rw [h, irr] at p1; cases p1
      · rw [p2] at h; cases h
      · omega
    · refine ⟨.inr (.inl rfl), ?_, by rw [p1, p2]; rfl⟩
      rcases hc2 with ⟨_, h⟩ | ⟨h, _⟩ | ⟨_, h, _⟩
      · rw [h, irr] at p2; cases p2
      · omega
      · rw [p2] at h; cases h
  subst h2
  have hi1 : ∀ b : Bool, hInt [.fz (.bool b)] = some (.fz (.int (if b = true then 1 else 0))) := fun b => by cases b <;> rfl
  have hs := same_ok hc0
  generalize PyData.tuple (sgD ss) = sg at *
  generalize PySem.W.dataLt y x = u at *
  generalize PySem.W.dataLt x y = v at *
  have hsub : hI (fun _ _ => true) (fun i j => i - j) (.fz (.int (if u = true then 1 else 0))) (.fz (.int (if v = true then 1 else 0))) = some (.fz (.int c)) := by rw [← hdue]; rfl
  have hs0 : hI (fun _ _ => true) (fun i j => i - j) (.fz (.int 0)) (.fz (.int c)) = some (.fz (.int (0 - c))) := rfl
  have t1 : sSet 3 (eCall (g__law_key n) 2 (gF (eV 0) (gF (eV 1) gN))) [some (.fz sg), some (.fz A), some (.fz b), none, none, none, none] = some (.ok .nx [some (.fz sg), some (.fz A), some (.fz b), some (.fz x), none, none, none]) := by
    simp [eV_ap, eC_ap, dr2O_ap, dr2_ap, dr2P_ap, eOp_ap, eOpK_ap, dr2B_ap, dr2BP_ap, dr2BO_ap, eTs_ap, eTsK_ap, dr1_ap, dr1P_ap, eUn_ap, drN_ap, drNP_ap, eCN_ap, lN_ap, lC_ap, lCK_ap, consR_ap, aN_ap, aC_ap, aCK_ap, consD_ap, frz_o, frz_m, frz_sf, frz_sm, gN_ap, gF_ap, gFK_ap, consG_ap, gB_ap, eCall_ap, callN_ap, callA_ap, callOut_ap, argE_bt, argE_bf, argE_fz, argE_nil, eTup_ap, eLst_ap, tupK_ap, lstK_ap, eDct_ap, eSl_ap, slK_ap, slK1_ap, slK2_ap, pN_ap, pI_ap, tTr_ap, tAn_ap, tO_ap, andK_t, andK_f, orK_t, orK_f, iT_ap, iV_ap, iterD_l, iterD_t, iR1_ap, sRet_ap, rtK_ap, sN_ap, sBk_ap, sIf_ap, ifK_t, ifK_f, sSet_ap, setK_o, stM_n, stM_f, stM_m, stM_o, sAsg_ap, sApp_apt, sApp_apf, appK_apt, appK_apf, sSt_ap, stK_ap, stKK_apt, stKK_apf, sFor_ap, eLc_ap, eMt_ap, mtK_ap, mtK1_ap, tgName_ap, tgTup_ap, tgCons_ap, tgThen_ap, tgNil_ap, seq_eq, bind_eq, thenO_ok, ret_eq, seqO_nx, seqO_rt, seqO_bk, rdL, rdO_o, rdO_s, callBO_t, brOk_n, brOk_f, brOk_b, brAt_n, brAt_f, brAt_b, back, backF, List.mapIdx, List.mapIdx.go, ka]
  have t2 : sSet 4 (eCall (g__law_key n) 2 (gF (eV 0) (gF (eV 2) gN))) [some (.fz sg), some (.fz A), some (.fz b), some (.fz x), none, none, none] = some (.ok .nx [some (.fz sg), some (.fz A), some (.fz b), some (.fz x), some (.fz y), none, none]) := by
    simp [eV_ap, eC_ap, dr2O_ap, dr2_ap, dr2P_ap, eOp_ap, eOpK_ap, dr2B_ap, dr2BP_ap, dr2BO_ap, eTs_ap, eTsK_ap, dr1_ap, dr1P_ap, eUn_ap, drN_ap, drNP_ap, eCN_ap, lN_ap, lC_ap, lCK_ap, consR_ap, aN_ap, aC_ap, aCK_ap, consD_ap, frz_o, frz_m, frz_sf, frz_sm, gN_ap, gF_ap, gFK_ap, consG_ap, gB_ap, eCall_ap, callN_ap, callA_ap, callOut_ap, argE_bt, argE_bf, argE_fz, argE_nil, eTup_ap, eLst_ap, tupK_ap, lstK_ap, eDct_ap, eSl_ap, slK_ap, slK1_ap, slK2_ap, pN_ap, pI_ap, tTr_ap, tAn_ap, tO_ap, andK_t, andK_f, orK_t, orK_f, iT_ap, iV_ap, iterD_l, iterD_t, iR1_ap, sRet_ap, rtK_ap, sN_ap, sBk_ap, sIf_ap, ifK_t, ifK_f, sSet_ap, setK_o, stM_n, stM_f, stM_m, stM_o, sAsg_ap, sApp_apt, sApp_apf, appK_apt, appK_apf, sSt_ap, stK_ap, stKK_apt, stKK_apf, sFor_ap, eLc_ap, eMt_ap, mtK_ap, mtK1_ap, tgName_ap, tgTup_ap, tgCons_ap, tgThen_ap, tgNil_ap, seq_eq, bind_eq, thenO_ok, ret_eq, seqO_nx, seqO_rt, seqO_bk, rdL, rdO_o, rdO_s, callBO_t, brOk_n, brOk_f, brOk_b, brAt_n, brAt_f, brAt_b, back, backF, List.mapIdx, List.mapIdx.go, kb]
  have hiu := hi1 u
  have hiv := hi1 v
  generalize (if u = true then (1 : Int) else 0) = iu at *
  generalize (if v = true then (1 : Int) else 0) = iv at *
  have t3 : sSet 5 (eOp (hI (fun _ _ => true) fun i j => i - j) (eCN hInt (lC (eOp (hOrd true) (eV 3) (eV 4)) lN)) (eCN hInt (lC (eOp (hOrd false) (eV 3) (eV 4)) lN))) [some (.fz sg), some (.fz A), some (.fz b), some (.fz x), some (.fz y), none, none] = some (.ok .nx [some (.fz sg), some (.fz A), some (.fz b), some (.fz x), some (.fz y), some (.fz (.int c)), none]) := by
    simp [eV_ap, eC_ap, dr2O_ap, dr2_ap, dr2P_ap, eOp_ap, eOpK_ap, dr2B_ap, dr2BP_ap, dr2BO_ap, eTs_ap, eTsK_ap, dr1_ap, dr1P_ap, eUn_ap, drN_ap, drNP_ap, eCN_ap, lN_ap, lC_ap, lCK_ap, consR_ap, aN_ap, aC_ap, aCK_ap, consD_ap, frz_o, frz_m, frz_sf, frz_sm, gN_ap, gF_ap, gFK_ap, consG_ap, gB_ap, eCall_ap, callN_ap, callA_ap, callOut_ap, argE_bt, argE_bf, argE_fz, argE_nil, eTup_ap, eLst_ap, tupK_ap, lstK_ap, eDct_ap, eSl_ap, slK_ap, slK1_ap, slK2_ap, pN_ap, pI_ap, tTr_ap, tAn_ap, tO_ap, andK_t, andK_f, orK_t, orK_f, iT_ap, iV_ap, iterD_l, iterD_t, iR1_ap, sRet_ap, rtK_ap, sN_ap, sBk_ap, sIf_ap, ifK_t, ifK_f, sSet_ap, setK_o, stM_n, stM_f, stM_m, stM_o, sAsg_ap, sApp_apt, sApp_apf, appK_apt, appK_apf, sSt_ap, stK_ap, stKK_apt, stKK_apf, sFor_ap, eLc_ap, eMt_ap, mtK_ap, mtK1_ap, tgName_ap, tgTup_ap, tgCons_ap, tgThen_ap, tgNil_ap, seq_eq, bind_eq, thenO_ok, ret_eq, seqO_nx, seqO_rt, seqO_bk, rdL, rdO_o, rdO_s, hgt, hlt, hiu, hiv, hsub]
  have t4 : sSet 6 (eCall (g_compare_trees n) 3 (gF (eV 0) (gF (eV 1) (gF (eV 2) gN)))) [some (.fz sg), some (.fz A), some (.fz b), some (.fz x), some (.fz y), some (.fz (.int c)), none] = some (.ok .nx [some (.fz sg), some (.fz A), some (.fz b), some (.fz x), some (.fz y), some (.fz (.int c)), some (.fz (.int c))]) := by
    simp [eV_ap, eC_ap, dr2O_ap, dr2_ap, dr2P_ap, eOp_ap, eOpK_ap, dr2B_ap, dr2BP_ap, dr2BO_ap, eTs_ap, eTsK_ap, dr1_ap, dr1P_ap, eUn_ap, drN_ap, drNP_ap, eCN_ap, lN_ap, lC_ap, lCK_ap, consR_ap, aN_ap, aC_ap, aCK_ap, consD_ap, frz_o, frz_m, frz_sf, frz_sm, gN_ap, gF_ap, gFK_ap, consG_ap, gB_ap, eCall_ap, callN_ap, callA_ap, callOut_ap, argE_bt, argE_bf, argE_fz, argE_nil, eTup_ap, eLst_ap, tupK_ap, lstK_ap, eDct_ap, eSl_ap, slK_ap, slK1_ap, slK2_ap, pN_ap, pI_ap, tTr_ap, tAn_ap, tO_ap, andK_t, andK_f, orK_t, orK_f, iT_ap, iV_ap, iterD_l, iterD_t, iR1_ap, sRet_ap, rtK_ap, sN_ap, sBk_ap, sIf_ap, ifK_t, ifK_f, sSet_ap, setK_o, stM_n, stM_f, stM_m, stM_o, sAsg_ap, sApp_apt, sApp_apf, appK_apt, appK_apf, sSt_ap, stK_ap, stKK_apt, stKK_apf, sFor_ap, eLc_ap, eMt_ap, mtK_ap, mtK1_ap, tgName_ap, tgTup_ap, tgCons_ap, tgThen_ap, tgNil_ap, seq_eq, bind_eq, thenO_ok, ret_eq, seqO_nx, seqO_rt, seqO_bk, rdL, rdO_o, rdO_s, callBO_t, brOk_n, brOk_f, brOk_b, brAt_n, brAt_f, brAt_b, back, backF, List.mapIdx, List.mapIdx.go, e1]
  have body : g__law_agrees n n n [some (.fz sg), some (.fz A), some (.fz b)] = defOut [some (.fz sg), some (.fz A), some (.fz b)] (f__law_agrees n n n [some (.fz sg), some (.fz A), some (.fz b), none, none, none, none]) := rfl
  rw [body]
  unfold f__law_agrees
  rw [seq_eq, t1, seqO_nx, seq_eq, t2, seqO_nx, seq_eq, t3, seqO_nx, seq_eq, t4, seqO_nx]
  generalize hcc : (0 : Int) - c = c2 at *
  simp [eV_ap, eC_ap, dr2O_ap, dr2_ap, dr2P_ap, eOp_ap, eOpK_ap, dr2B_ap, dr2BP_ap, dr2BO_ap, eTs_ap, eTsK_ap, dr1_ap, dr1P_ap, eUn_ap, drN_ap, drNP_ap, eCN_ap, lN_ap, lC_ap, lCK_ap, consR_ap, aN_ap, aC_ap, aCK_ap, consD_ap, frz_o, frz_m, frz_sf, frz_sm, gN_ap, gF_ap, gFK_ap, consG_ap, gB_ap, eCall_ap, callN_ap, callA_ap, callOut_ap, argE_bt, argE_bf, argE_fz, argE_nil, eTup_ap, eLst_ap, tupK_ap, lstK_ap, eDct_ap, eSl_ap, slK_ap, slK1_ap, slK2_ap, pN_ap, pI_ap, tTr_ap, tAn_ap, tO_ap, andK_t, andK_f, orK_t, orK_f, iT_ap, iV_ap, iterD_l, iterD_t, iR1_ap, sRet_ap, rtK_ap, sN_ap, sBk_ap, sIf_ap, ifK_t, ifK_f, sSet_ap, setK_o, stM_n, stM_f, stM_m, stM_o, sAsg_ap, sApp_apt, sApp_apf, appK_apt, appK_apf, sSt_ap, stK_ap, stKK_apt, stKK_apf, sFor_ap, eLc_ap, eMt_ap, mtK_ap, mtK1_ap, tgName_ap, tgTup_ap, tgCons_ap, tgThen_ap, tgNil_ap, seq_eq, bind_eq, thenO_ok, ret_eq, seqO_nx, seqO_rt, seqO_bk, rdL, rdO_o, rdO_s, callBO_t, brOk_n, brOk_f, brOk_b, brAt_n, brAt_f, brAt_b, back, backF, List.mapIdx, List.mapIdx.go, e2, e3, e4, hs0, Mu.view, hs, defOut, resO, keepB, keepF]
end VsG

namespace VsG
open PySem PySem.Spec L2 Vs
def ntK (k : Bool) : M Bool := M.ret !k
theorem tNt_ap {t : M Bool} {ρ : Rho} : tNt t ρ = thenO (t ρ) ntK := rfl
theorem ntK_ap {k : Bool} {ρ : Rho} : ntK k ρ = some (.ok (!k) ρ) := rfl
theorem tr_pos {ss : List (Str × Int)} {k : Nat} {d : PyData} (h : Tr ss k d) : 1 ≤ k := by
  obtain ⟨_, _, _, m, rfl, _⟩ := tr_cases h
  omega
abbrev lv (sc : PyData) (ns : List Int) (c : Int) (x2 x3 x4 x5 x6 x7 x8 x9 x10 : Option O) : Rho := [some (.fz sc), some (.mu false (stD ns c)), x2, x3, x4, x5, x6, x7, x8, x9, x10]
theorem addk {i r : Int} : hAdd (.fz (.int i)) (.fz (.int r)) = some (.fz (.int (i + r))) := rfl
section
variable {sc : PyData} {ns : List Int} {c : Int} {x2 x3 x4 x5 x6 x7 x8 x9 x10 : Option O} {ss : List (Str × Int)}
theorem T3_ok {K : Nat} {m : Int} (hm : 1 ≤ m) (hm2 : m ≤ 60) (hK : cst 62 = K) (G : Good ns) (S : Sgn ss) (few : ss.length ≤ 100) (h0 : 0 ≤ c) (h1 : c + (K + 1) + 10 < 2 ^ 200) : ∃ t c', Tr ss 62 t ∧ c ≤ c' ∧ c' ≤ c + (K + 1) ∧
    eCall (g__law_term 62) 4 (gB 1 (gF (eV 2) (gF (eLst aN) (gF (eOp hAdd (eC (.int 1)) (eCall (g__law_next) 2 (gB 1 (gF (eC (.int m)) gN)))) gN)))) (lv sc ns c (some (.fz (.tuple (sgD ss)))) x3 x4 x5 x6 x7 x8 x9 x10)
      = some (.ok (.o (.fz t)) (lv sc ns c' (some (.fz (.tuple (sgD ss)))) x3 x4 x5 x6 x7 x8 x9 x10)) := by
  obtain ⟨r, r0, r1, e1⟩ := next_ok (c := c) (m := m) G h0 (by omega) (by omega)
  obtain ⟨y, c2, hy, k2, k3, e⟩ := term_ok (nm := []) G S few (by decide) 62 (1 + r) (c + 1) (by omega) (by omega) (by omega) (by rw [hK]; omega)
  rw [hK] at k3
  refine ⟨y, c2, hy, by omega, by omega, ?_⟩
  simp only [List.map_nil] at e
  simp [eV_ap, eC_ap, dr2O_ap, dr2_ap, dr2P_ap, eOp_ap, eOpK_ap, dr2B_ap, dr2BP_ap, dr2BO_ap, eTs_ap, eTsK_ap, dr1_ap, dr1P_ap, eUn_ap, drN_ap, drNP_ap, eCN_ap, lN_ap, lC_ap, lCK_ap, consR_ap, aN_ap, aC_ap, aCK_ap, consD_ap, frz_o, frz_m, frz_sf, frz_sm, gN_ap, gF_ap, gFK_ap, consG_ap, gB_ap, eCall_ap, callN_ap, callA_ap, callOut_ap, argE_bt, argE_bf, argE_fz, argE_nil, eTup_ap, eLst_ap, tupK_ap, lstK_ap, eDct_ap, eSl_ap, slK_ap, slK1_ap, slK2_ap, pN_ap, pI_ap, tTr_ap, tAn_ap, tO_ap, andK_t, andK_f, orK_t, orK_f, iT_ap, iV_ap, iterD_l, iterD_t, iR1_ap, sRet_ap, rtK_ap, sN_ap, sBk_ap, sIf_ap, ifK_t, ifK_f, sSet_ap, setK_o, stM_n, stM_f, stM_m, stM_o, sAsg_ap, sApp_apt, sApp_apf, appK_apt, appK_apf, sSt_ap, stK_ap, stKK_apt, stKK_apf, sFor_ap, eLc_ap, eMt_ap, mtK_ap, mtK1_ap, tgName_ap, tgTup_ap, tgCons_ap, tgThen_ap, tgNil_ap, seq_eq, bind_eq, thenO_ok, ret_eq, seqO_nx, seqO_rt, seqO_bk, rdL, rdO_o, rdO_s, callBO_t, brOk_n, brOk_f, brOk_b, brAt_n, brAt_f, brAt_b, back, backF, List.mapIdx, List.mapIdx.go, e1, addk, e, Mu.view]
theorem T4_ok {g : M O} {t d : PyData} {c' : Int} (e : g [some (.mu true (stD ns c)), some (.fz (.tuple (sgD ss))), some (.fz t)] = some (.ok (.fz d) [some (.mu true (stD ns c')), some (.fz (.tuple (sgD ss))), some (.fz t)])) :
    sSet 4 (eCall g 3 (gB 1 (gF (eV 2) (gF (eV 3) gN)))) (lv sc ns c (some (.fz (.tuple (sgD ss)))) (some (.fz t)) none x5 x6 x7 x8 x9 x10) = some (.ok .nx (lv sc ns c' (some (.fz (.tuple (sgD ss)))) (some (.fz t)) (some (.fz d)) x5 x6 x7 x8 x9 x10)) := by
  generalize PyData.tuple (sgD ss) = sg at *
  simp [eV_ap, eC_ap, dr2O_ap, dr2_ap, dr2P_ap, eOp_ap, eOpK_ap, dr2B_ap, dr2BP_ap, dr2BO_ap, eTs_ap, eTsK_ap, dr1_ap, dr1P_ap, eUn_ap, drN_ap, drNP_ap, eCN_ap, lN_ap, lC_ap, lCK_ap, consR_ap, aN_ap, aC_ap, aCK_ap, consD_ap, frz_o, frz_m, frz_sf, frz_sm, gN_ap, gF_ap, gFK_ap, consG_ap, gB_ap, eCall_ap, callN_ap, callA_ap, callOut_ap, argE_bt, argE_bf, argE_fz, argE_nil, eTup_ap, eLst_ap, tupK_ap, lstK_ap, eDct_ap, eSl_ap, slK_ap, slK1_ap, slK2_ap, pN_ap, pI_ap, tTr_ap, tAn_ap, tO_ap, andK_t, andK_f, orK_t, orK_f, iT_ap, iV_ap, iterD_l, iterD_t, iR1_ap, sRet_ap, rtK_ap, sN_ap, sBk_ap, sIf_ap, ifK_t, ifK_f, sSet_ap, setK_o, stM_n, stM_f, stM_m, stM_o, sAsg_ap, sApp_apt, sApp_apf, appK_apt, appK_apf, sSt_ap, stK_ap, stKK_apt, stKK_apf, sFor_ap, eLc_ap, eMt_ap, mtK_ap, mtK1_ap, tgName_ap, tgTup_ap, tgCons_ap, tgThen_ap, tgNil_ap, seq_eq, bind_eq, thenO_ok, ret_eq, seqO_nx, seqO_rt, seqO_bk, rdL, rdO_o, rdO_s, callBO_t, brOk_n, brOk_f, brOk_b, brAt_n, brAt_f, brAt_b, back, backF, List.mapIdx, List.mapIdx.go, e]
theorem T6_ok {sg a b t : PyData} (e1 : g__law_agrees 170 170 170 [some (.fz sg), some (.fz a), some (.fz b)] = some (.ok (.fz (.bool true)) [some (.fz sg), some (.fz a), some (.fz b)]))
    (e2 : g__law_agrees 170 170 170 [some (.fz sg), some (.fz t), some (.fz b)] = some (.ok (.fz (.bool true)) [some (.fz sg), some (.fz t), some (.fz b)])) :
    sIf (tO (tNt (tTr (eCall (g__law_agrees 170 170 170) 3 (gF (eV 2) (gF (eV 3) (gF (eV 4) gN)))))) (tNt (tTr (eCall (g__law_agrees 170 170 170) 3 (gF (eV 2) (gF (eV 5) (gF (eV 4) gN))))))) (sRet (eC (.bool false))) sN (lv sc ns c (some (.fz sg)) (some (.fz a)) (some (.fz b)) (some (.fz t)) x6 x7 x8 x9 x10)
      = some (.ok .nx (lv sc ns c (some (.fz sg)) (some (.fz a)) (some (.fz b)) (some (.fz t)) x6 x7 x8 x9 x10)) := by
  simp [eV_ap, eC_ap, dr2O_ap, dr2_ap, dr2P_ap, eOp_ap, eOpK_ap, dr2B_ap, dr2BP_ap, dr2BO_ap, eTs_ap, eTsK_ap, dr1_ap, dr1P_ap, eUn_ap, drN_ap, drNP_ap, eCN_ap, lN_ap, lC_ap, lCK_ap, consR_ap, aN_ap, aC_ap, aCK_ap, consD_ap, frz_o, frz_m, frz_sf, frz_sm, gN_ap, gF_ap, gFK_ap, consG_ap, gB_ap, eCall_ap, callN_ap, callA_ap, callOut_ap, argE_bt, argE_bf, argE_fz, argE_nil, eTup_ap, eLst_ap, tupK_ap, lstK_ap, eDct_ap, eSl_ap, slK_ap, slK1_ap, slK2_ap, pN_ap, pI_ap, tTr_ap, tAn_ap, tO_ap, andK_t, andK_f, orK_t, orK_f, iT_ap, iV_ap, iterD_l, iterD_t, iR1_ap, sRet_ap, rtK_ap, sN_ap, sBk_ap, sIf_ap, ifK_t, ifK_f, sSet_ap, setK_o, stM_n, stM_f, stM_m, stM_o, sAsg_ap, sApp_apt, sApp_apf, appK_apt, appK_apf, sSt_ap, stK_ap, stKK_apt, stKK_apf, sFor_ap, eLc_ap, eMt_ap, mtK_ap, mtK1_ap, tgName_ap, tgTup_ap, tgCons_ap, tgThen_ap, tgNil_ap, seq_eq, bind_eq, thenO_ok, ret_eq, seqO_nx, seqO_rt, seqO_bk, rdL, rdO_o, rdO_s, callBO_t, brOk_n, brOk_f, brOk_b, brAt_n, brAt_f, brAt_b, back, backF, List.mapIdx, List.mapIdx.go, e1, e2, tNt_ap, ntK_ap, tru_b]
abbrev lvB : M Fl := (sIf (eTs hGt (eV 7) (eC (.int 0))) (sSeq (sSet 8 (eOp hIx (eLst (aC (eCall (g__law_next) 2 (gB 1 (gF (eC (.int 9)) gN))) (aC (eOp hAdd (eC (.int 60)) (eCall (g__law_next) 2 (gB 1 (gF (eC (.int 36)) gN)))) aN))) (eCall (g__law_next) 2 (gB 1 (gF (eC (.int 2)) gN)))))
    (sSeq (sSet 9 (eCall (g__law_row) 5 (gF (eV 2) (gF (eV 6) (gF (eV 7) (gF (eV 8) (gF (eOp hAdd (eSl (eV 5) pN (pI (eC (.int 1)))) (eSl (eV 5) (pI (eC (.int 1))) pN)) gN)))))))
    (sSeq (sSet 10 (eCall (g__law_row) 5 (gF (eV 2) (gF (eV 6) (gF (eV 7) (gF (eV 8) (gF (eCall (g__law_changed 62 100) 3 (gB 1 (gF (eV 2) (gF (eV 5) gN)))) gN)))))))
    (sIf (tAn (eTs hLt (eOp hAdd (eV 8) (eCall (g__law_size 170) 1 (gF (eV 5) gN))) (eC (.int 95))) (tNt (tTr (eCall (g__law_agrees 170 170 170) 3 (gF (eV 2) (gF (eV 9) (gF (eV 10) gN))))))) (sRet (eC (.bool false))) sN)))) sN)
theorem lvB_ok {K : Nat} {w : Str} {a : Int} {t f1 f2 : PyData} (hK : cst 62 = K) (G : Good ns) (S : Sgn ss) (few : ss.length ≤ 100) (h0 : 0 ≤ c) (h1 : c + 3 + 100 * (K + 10) + 10 < 2 ^ 200) (hw : (w, a) ∈ ss) (ht : Tr ss 62 t) (f8 : Fr x8) (f9 : Fr x9) (f10 : Fr x10) :
    ∃ c' y8 y9 y10, Fr y8 ∧ Fr y9 ∧ Fr y10 ∧ c ≤ c' ∧ c' ≤ c + 3 + 100 * (K + 10) ∧
      lvB (lv sc ns c (some (.fz (.tuple (sgD ss)))) (some (.fz f1)) (some (.fz f2)) (some (.fz t)) (some (.fz (.str w))) (some (.fz (.int a))) x8 x9 x10) = some (.ok .nx (lv sc ns c' (some (.fz (.tuple (sgD ss)))) (some (.fz f1)) (some (.fz f2)) (some (.fz t)) (some (.fz (.str w))) (some (.fz (.int a))) y8 y9 y10)) := by
  have hgt : hGt (.fz (.int a)) (.fz (.int 0)) = some (.fz (.bool (decide (0 < a)))) := rfl
  by_cases ha : 0 < a
  · rw [decide_eq_true ha] at hgt
    obtain ⟨p, p0, p1, e1⟩ := next_ok (c := c) (m := 9) G h0 (by omega) (by decide)
    obtain ⟨b, b0, b1, e2⟩ := next_ok (c := c + 1) (m := 36) G (by omega) (by omega) (by decide)
    obtain ⟨q, q0, q1, e3⟩ := next_ok (c := c + 1 + 1) (m := 2) G (by omega) (by omega) (by decide)
    obtain ⟨many, m0, m1, eM⟩ : ∃ many : Int, 0 ≤ many ∧ many ≤ 95 ∧ hIx (.mu false (.lst [.int p, .int (60 + b)])) (.fz (.int q)) = some (.fz (.int many)) := by
      have : q = 0 ∨ q = 1 := by omega
      rcases this with rfl | rfl
      · exact ⟨p, by omega, by omega, rfl⟩
      · exact ⟨60 + b, by omega, by omega, rfl⟩
    obtain ⟨z1, htz⟩ := tr_size 62 t ht
    have esz := size_ok S 170 62 t (by decide) ht
    obtain ⟨one, hone, eone⟩ := rowk_ok S few hw ha m0 (by omega) (by omega : 1 ≤ (szD t).toNat) htz
    obtain ⟨d', c', l, hd', hl, k0, k1, ech⟩ : ∃ d' c' l, Tr ss l d' ∧ (many + szD t < 95 → l + many.toNat ≤ 160) ∧ c + 1 + 1 + 1 ≤ c' ∧ c' ≤ c + 1 + 1 + 1 + (100 * (K + 10) : Nat) ∧ g__law_changed 62 100 [some (.mu true (stD ns (c + 1 + 1 + 1))), some (.fz (.tuple (sgD ss))), some (.fz t)] = some (.ok (.fz d') [some (.mu true (stD ns c')), some (.fz (.tuple (sgD ss))), some (.fz t)]) := by
      by_cases hg : many + szD t < 95
      · obtain ⟨d', c', h1, h2, h3, h4⟩ := changed_ok (nT := 62) (c := c + 1 + 1 + 1) (by decide) G S few 100 (szD t).toNat t (by omega) htz (by omega) (by rw [hK]; omega)
        rw [hK] at h3
        exact ⟨d', c', _, h1, fun _ => by omega, h2, h3, h4⟩
      · obtain ⟨d', c', h1, h2, h3, h4⟩ := changed_ok (nT := 62) (c := c + 1 + 1 + 1) (by decide) G S few 100 62 t (by decide) ht (by omega) (by rw [hK]; omega)
        rw [hK] at h3
        exact ⟨d', c', _, h1, fun z => absurd z hg, h2, h3, h4⟩
    obtain ⟨other, hother, eother⟩ := rowk_ok S few hw ha m0 (by omega) (tr_pos hd') hd'
    obtain ⟨v, _, ds, _, _, rfl, _⟩ := tr_cases ht
    have c1 := cut1_ap (w := v) (ds := ds)
    have c2 : hSl (.fz (.tuple (.str v :: ds))) none (some 1) = some (.fz (.tuple [.str v])) := by
      show some (O.fz (.tuple (cutL (.str v :: ds) none (some ((1 : Nat) : Int))))) = _
      rw [cutL_to]; rfl
    have hds : ds.length ≤ 2 := by
      obtain ⟨w', a', ds', _, _, he, hw', hl', _⟩ := tr_cases ht
      cases he
      exact few2 S hw' hl'
    have c3 : hAdd (.fz (.tuple [.str v])) (.fz (.tuple ds)) = some (.fz (.tuple (.str v :: ds))) := hAdd_t (x := [.str v]) (by simp; omega)
    have hagr : many + szD (.tuple (.str v :: ds)) < 95 → g__law_agrees 170 170 170 [some (.fz (.tuple (sgD ss))), some (.fz one), some (.fz other)] = some (.ok (.fz (.bool true)) [some (.fz (.tuple (sgD ss))), some (.fz one), some (.fz other)]) := fun hg =>
      agrees_ok S few (by omega) (by have := hl hg; omega) (by omega) hone hother
    generalize hT : PyData.tuple (.str v :: ds) = t at *
    generalize PyData.tuple (sgD ss) = sg at *
    refine ⟨c', some (.fz (.int many)), some (.fz one), some (.fz other), fr_f, fr_f, fr_f, by omega, by omega, ?_⟩
    have s1 : sSet 8 (eOp hIx (eLst (aC (eCall (g__law_next) 2 (gB 1 (gF (eC (.int 9)) gN))) (aC (eOp hAdd (eC (.int 60)) (eCall (g__law_next) 2 (gB 1 (gF (eC (.int 36)) gN)))) aN))) (eCall (g__law_next) 2 (gB 1 (gF (eC (.int 2)) gN)))) (lv sc ns c (some (.fz sg)) (some (.fz f1)) (some (.fz f2)) (some (.fz t)) (some (.fz (.str w))) (some (.fz (.int a))) x8 x9 x10)
        = some (.ok .nx (lv sc ns (c + 1 + 1 + 1) (some (.fz sg)) (some (.fz f1)) (some (.fz f2)) (some (.fz t)) (some (.fz (.str w))) (some (.fz (.int a))) (some (.fz (.int many))) x9 x10)) := by
      simp [eV_ap, eC_ap, dr2O_ap, dr2_ap, dr2P_ap, eOp_ap, eOpK_ap, dr2B_ap, dr2BP_ap, dr2BO_ap, eTs_ap, eTsK_ap, dr1_ap, dr1P_ap, eUn_ap, drN_ap, drNP_ap, eCN_ap, lN_ap, lC_ap, lCK_ap, consR_ap, aN_ap, aC_ap, aCK_ap, consD_ap, frz_o, frz_m, frz_sf, frz_sm, gN_ap, gF_ap, gFK_ap, consG_ap, gB_ap, eCall_ap, callN_ap, callA_ap, callOut_ap, argE_bt, argE_bf, argE_fz, argE_nil, eTup_ap, eLst_ap, tupK_ap, lstK_ap, eDct_ap, eSl_ap, slK_ap, slK1_ap, slK2_ap, pN_ap, pI_ap, tTr_ap, tAn_ap, tO_ap, andK_t, andK_f, orK_t, orK_f, iT_ap, iV_ap, iterD_l, iterD_t, iR1_ap, sRet_ap, rtK_ap, sN_ap, sBk_ap, sIf_ap, ifK_t, ifK_f, sSet_ap, setK_o, stM_n, stM_f, stM_m, stM_o, sAsg_ap, sApp_apt, sApp_apf, appK_apt, appK_apf, sSt_ap, stK_ap, stKK_apt, stKK_apf, sFor_ap, eLc_ap, eMt_ap, mtK_ap, mtK1_ap, tgName_ap, tgTup_ap, tgCons_ap, tgThen_ap, tgNil_ap, seq_eq, bind_eq, thenO_ok, ret_eq, seqO_nx, seqO_rt, seqO_bk, rdL, rdO_o, rdO_s, callBO_t, brOk_n, brOk_f, brOk_b, brAt_n, brAt_f, brAt_b, back, backF, List.mapIdx, List.mapIdx.go, e1, e2, e3, addk, eM, stM_v, f8]
    have s2 : sSet 9 (eCall (g__law_row) 5 (gF (eV 2) (gF (eV 6) (gF (eV 7) (gF (eV 8) (gF (eOp hAdd (eSl (eV 5) pN (pI (eC (.int 1)))) (eSl (eV 5) (pI (eC (.int 1))) pN)) gN)))))) (lv sc ns (c + 1 + 1 + 1) (some (.fz sg)) (some (.fz f1)) (some (.fz f2)) (some (.fz t)) (some (.fz (.str w))) (some (.fz (.int a))) (some (.fz (.int many))) x9 x10)
        = some (.ok .nx (lv sc ns (c + 1 + 1 + 1) (some (.fz sg)) (some (.fz f1)) (some (.fz f2)) (some (.fz t)) (some (.fz (.str w))) (some (.fz (.int a))) (some (.fz (.int many))) (some (.fz one)) x10)) := by
      simp [eV_ap, eC_ap, dr2O_ap, dr2_ap, dr2P_ap, eOp_ap, eOpK_ap, dr2B_ap, dr2BP_ap, dr2BO_ap, eTs_ap, eTsK_ap, dr1_ap, dr1P_ap, eUn_ap, drN_ap, drNP_ap, eCN_ap, lN_ap, lC_ap, lCK_ap, consR_ap, aN_ap, aC_ap, aCK_ap, consD_ap, frz_o, frz_m, frz_sf, frz_sm, gN_ap, gF_ap, gFK_ap, consG_ap, gB_ap, eCall_ap, callN_ap, callA_ap, callOut_ap, argE_bt, argE_bf, argE_fz, argE_nil, eTup_ap, eLst_ap, tupK_ap, lstK_ap, eDct_ap, eSl_ap, slK_ap, slK1_ap, slK2_ap, pN_ap, pI_ap, tTr_ap, tAn_ap, tO_ap, andK_t, andK_f, orK_t, orK_f, iT_ap, iV_ap, iterD_l, iterD_t, iR1_ap, sRet_ap, rtK_ap, sN_ap, sBk_ap, sIf_ap, ifK_t, ifK_f, sSet_ap, setK_o, stM_n, stM_f, stM_m, stM_o, sAsg_ap, sApp_apt, sApp_apf, appK_apt, appK_apf, sSt_ap, stK_ap, stKK_apt, stKK_apf, sFor_ap, eLc_ap, eMt_ap, mtK_ap, mtK1_ap, tgName_ap, tgTup_ap, tgCons_ap, tgThen_ap, tgNil_ap, seq_eq, bind_eq, thenO_ok, ret_eq, seqO_nx, seqO_rt, seqO_bk, rdL, rdO_o, rdO_s, callBO_t, brOk_n, brOk_f, brOk_b, brAt_n, brAt_f, brAt_b, back, backF, List.mapIdx, List.mapIdx.go, c1, c2, c3, asInt_o, eone, stM_v, f9]
    have s3 : sSet 10 (eCall (g__law_row) 5 (gF (eV 2) (gF (eV 6) (gF (eV 7) (gF (eV 8) (gF (eCall (g__law_changed 62 100) 3 (gB 1 (gF (eV 2) (gF (eV 5) gN)))) gN)))))) (lv sc ns (c + 1 + 1 + 1) (some (.fz sg)) (some (.fz f1)) (some (.fz f2)) (some (.fz t)) (some (.fz (.str w))) (some (.fz (.int a))) (some (.fz (.int many))) (some (.fz one)) x10)
        = some (.ok .nx (lv sc ns c' (some (.fz sg)) (some (.fz f1)) (some (.fz f2)) (some (.fz t)) (some (.fz (.str w))) (some (.fz (.int a))) (some (.fz (.int many))) (some (.fz one)) (some (.fz other)))) := by
      simp [eV_ap, eC_ap, dr2O_ap, dr2_ap, dr2P_ap, eOp_ap, eOpK_ap, dr2B_ap, dr2BP_ap, dr2BO_ap, eTs_ap, eTsK_ap, dr1_ap, dr1P_ap, eUn_ap, drN_ap, drNP_ap, eCN_ap, lN_ap, lC_ap, lCK_ap, consR_ap, aN_ap, aC_ap, aCK_ap, consD_ap, frz_o, frz_m, frz_sf, frz_sm, gN_ap, gF_ap, gFK_ap, consG_ap, gB_ap, eCall_ap, callN_ap, callA_ap, callOut_ap, argE_bt, argE_bf, argE_fz, argE_nil, eTup_ap, eLst_ap, tupK_ap, lstK_ap, eDct_ap, eSl_ap, slK_ap, slK1_ap, slK2_ap, pN_ap, pI_ap, tTr_ap, tAn_ap, tO_ap, andK_t, andK_f, orK_t, orK_f, iT_ap, iV_ap, iterD_l, iterD_t, iR1_ap, sRet_ap, rtK_ap, sN_ap, sBk_ap, sIf_ap, ifK_t, ifK_f, sSet_ap, setK_o, stM_n, stM_f, stM_m, stM_o, sAsg_ap, sApp_apt, sApp_apf, appK_apt, appK_apf, sSt_ap, stK_ap, stKK_apt, stKK_apf, sFor_ap, eLc_ap, eMt_ap, mtK_ap, mtK1_ap, tgName_ap, tgTup_ap, tgCons_ap, tgThen_ap, tgNil_ap, seq_eq, bind_eq, thenO_ok, ret_eq, seqO_nx, seqO_rt, seqO_bk, rdL, rdO_o, rdO_s, callBO_t, brOk_n, brOk_f, brOk_b, brAt_n, brAt_f, brAt_b, back, backF, List.mapIdx, List.mapIdx.go, ech, eother, stM_v, f10]
    have s4 : sIf (tAn (eTs hLt (eOp hAdd (eV 8) (eCall (g__law_size 170) 1 (gF (eV 5) gN))) (eC (.int 95))) (tNt (tTr (eCall (g__law_agrees 170 170 170) 3 (gF (eV 2) (gF (eV 9) (gF (eV 10) gN))))))) (sRet (eC (.bool false))) sN (lv sc ns c' (some (.fz sg)) (some (.fz f1)) (some (.fz f2)) (some (.fz t)) (some (.fz (.str w))) (some (.fz (.int a))) (some (.fz (.int many))) (some (.fz one)) (some (.fz other)))
        = some (.ok .nx (lv sc ns c' (some (.fz sg)) (some (.fz f1)) (some (.fz f2)) (some (.fz t)) (some (.fz (.str w))) (some (.fz (.int a))) (some (.fz (.int many))) (some (.fz one)) (some (.fz other)))) := by
      generalize szD t = z at *
      have hadd : hAdd (.fz (.int many)) (.fz (.int z)) = some (.fz (.int (many + z))) := rfl
      have hlt : hLt (.fz (.int (many + z))) (.fz (.int 95)) = some (.fz (.bool (decide (many + z < 95)))) := rfl
      by_cases hg : many + z < 95
      · rw [decide_eq_true hg] at hlt
        have e := hagr hg
        simp [eV_ap, eC_ap, dr2O_ap, dr2_ap, dr2P_ap, eOp_ap, eOpK_ap, dr2B_ap, dr2BP_ap, dr2BO_ap, eTs_ap, eTsK_ap, dr1_ap, dr1P_ap, eUn_ap, drN_ap, drNP_ap, eCN_ap, lN_ap, lC_ap, lCK_ap, consR_ap, aN_ap, aC_ap, aCK_ap, consD_ap, frz_o, frz_m, frz_sf, frz_sm, gN_ap, gF_ap, gFK_ap, consG_ap, gB_ap, eCall_ap, callN_ap, callA_ap, callOut_ap, argE_bt, argE_bf, argE_fz, argE_nil, eTup_ap, eLst_ap, tupK_ap, lstK_ap, eDct_ap, eSl_ap, slK_ap, slK1_ap, slK2_ap, pN_ap, pI_ap, tTr_ap, tAn_ap, tO_ap, andK_t, andK_f, orK_t, orK_f, iT_ap, iV_ap, iterD_l, iterD_t, iR1_ap, sRet_ap, rtK_ap, sN_ap, sBk_ap, sIf_ap, ifK_t, ifK_f, sSet_ap, setK_o, stM_n, stM_f, stM_m, stM_o, sAsg_ap, sApp_apt, sApp_apf, appK_apt, appK_apf, sSt_ap, stK_ap, stKK_apt, stKK_apf, sFor_ap, eLc_ap, eMt_ap, mtK_ap, mtK1_ap, tgName_ap, tgTup_ap, tgCons_ap, tgThen_ap, tgNil_ap, seq_eq, bind_eq, thenO_ok, ret_eq, seqO_nx, seqO_rt, seqO_bk, rdL, rdO_o, rdO_s, callBO_t, brOk_n, brOk_f, brOk_b, brAt_n, brAt_f, brAt_b, back, backF, List.mapIdx, List.mapIdx.go, esz, hadd, hlt, e, tNt_ap, ntK_ap, tru_b]
      · rw [decide_eq_false hg] at hlt
        simp [eV_ap, eC_ap, dr2O_ap, dr2_ap, dr2P_ap, eOp_ap, eOpK_ap, dr2B_ap, dr2BP_ap, dr2BO_ap, eTs_ap, eTsK_ap, dr1_ap, dr1P_ap, eUn_ap, drN_ap, drNP_ap, eCN_ap, lN_ap, lC_ap, lCK_ap, consR_ap, aN_ap, aC_ap, aCK_ap, consD_ap, frz_o, frz_m, frz_sf, frz_sm, gN_ap, gF_ap, gFK_ap, consG_ap, gB_ap, eCall_ap, callN_ap, callA_ap, callOut_ap, argE_bt, argE_bf, argE_fz, argE_nil, eTup_ap, eLst_ap, tupK_ap, lstK_ap, eDct_ap, eSl_ap, slK_ap, slK1_ap, slK2_ap, pN_ap, pI_ap, tTr_ap, tAn_ap, tO_ap, andK_t, andK_f, orK_t, orK_f, iT_ap, iV_ap, iterD_l, iterD_t, iR1_ap, sRet_ap, rtK_ap, sN_ap, sBk_ap, sIf_ap, ifK_t, ifK_f, sSet_ap, setK_o, stM_n, stM_f, stM_m, stM_o, sAsg_ap, sApp_apt, sApp_apf, appK_apt, appK_apf, sSt_ap, stK_ap, stKK_apt, stKK_apf, sFor_ap, eLc_ap, eMt_ap, mtK_ap, mtK1_ap, tgName_ap, tgTup_ap, tgCons_ap, tgThen_ap, tgNil_ap, seq_eq, bind_eq, thenO_ok, ret_eq, seqO_nx, seqO_rt, seqO_bk, rdL, rdO_o, rdO_s, callBO_t, brOk_n, brOk_f, brOk_b, brAt_n, brAt_f, brAt_b, back, backF, List.mapIdx, List.mapIdx.go, esz, hadd, hlt]
    have st : eTs hGt (eV 7) (eC (.int 0)) (lv sc ns c (some (.fz sg)) (some (.fz f1)) (some (.fz f2)) (some (.fz t)) (some (.fz (.str w))) (some (.fz (.int a))) x8 x9 x10) = some (.ok true (lv sc ns c (some (.fz sg)) (some (.fz f1)) (some (.fz f2)) (some (.fz t)) (some (.fz (.str w))) (some (.fz (.int a))) x8 x9 x10)) := by
      simp [eV_ap, eC_ap, dr2O_ap, dr2_ap, dr2P_ap, eOp_ap, eOpK_ap, dr2B_ap, dr2BP_ap, dr2BO_ap, eTs_ap, eTsK_ap, dr1_ap, dr1P_ap, eUn_ap, drN_ap, drNP_ap, eCN_ap, lN_ap, lC_ap, lCK_ap, consR_ap, aN_ap, aC_ap, aCK_ap, consD_ap, frz_o, frz_m, frz_sf, frz_sm, gN_ap, gF_ap, gFK_ap, consG_ap, gB_ap, eCall_ap, callN_ap, callA_ap, callOut_ap, argE_bt, argE_bf, argE_fz, argE_nil, eTup_ap, eLst_ap, tupK_ap, lstK_ap, eDct_ap, eSl_ap, slK_ap, slK1_ap, slK2_ap, pN_ap, pI_ap, tTr_ap, tAn_ap, tO_ap, andK_t, andK_f, orK_t, orK_f, iT_ap, iV_ap, iterD_l, iterD_t, iR1_ap, sRet_ap, rtK_ap, sN_ap, sBk_ap, sIf_ap, ifK_t, ifK_f, sSet_ap, setK_o, stM_n, stM_f, stM_m, stM_o, sAsg_ap, sApp_apt, sApp_apf, appK_apt, appK_apf, sSt_ap, stK_ap, stKK_apt, stKK_apf, sFor_ap, eLc_ap, eMt_ap, mtK_ap, mtK1_ap, tgName_ap, tgTup_ap, tgCons_ap, tgThen_ap, tgNil_ap, seq_eq, bind_eq, thenO_ok, ret_eq, seqO_nx, seqO_rt, seqO_bk, rdL, rdO_o, rdO_s, hgt]
    unfold lvB
    rw [sIf_ap, st, thenO_ok, ifK_t, seq_eq, s1, seqO_nx, seq_eq, s2, seqO_nx, seq_eq, s3, seqO_nx, s4]
  · rw [decide_eq_false ha] at hgt
    refine ⟨c, x8, x9, x10, f8, f9, f10, by omega, by omega, ?_⟩
    have st : eTs hGt (eV 7) (eC (.int 0)) (lv sc ns c (some (.fz (.tuple (sgD ss)))) (some (.fz f1)) (some (.fz f2)) (some (.fz t)) (some (.fz (.str w))) (some (.fz (.int a))) x8 x9 x10) = some (.ok false (lv sc ns c (some (.fz (.tuple (sgD ss)))) (some (.fz f1)) (some (.fz f2)) (some (.fz t)) (some (.fz (.str w))) (some (.fz (.int a))) x8 x9 x10)) := by
      simp [eV_ap, eC_ap, dr2O_ap, dr2_ap, dr2P_ap, eOp_ap, eOpK_ap, dr2B_ap, dr2BP_ap, dr2BO_ap, eTs_ap, eTsK_ap, dr1_ap, dr1P_ap, eUn_ap, drN_ap, drNP_ap, eCN_ap, lN_ap, lC_ap, lCK_ap, consR_ap, aN_ap, aC_ap, aCK_ap, consD_ap, frz_o, frz_m, frz_sf, frz_sm, gN_ap, gF_ap, gFK_ap, consG_ap, gB_ap, eCall_ap, callN_ap, callA_ap, callOut_ap, argE_bt, argE_bf, argE_fz, argE_nil, eTup_ap, eLst_ap, tupK_ap, lstK_ap, eDct_ap, eSl_ap, slK_ap, slK1_ap, slK2_ap, pN_ap, pI_ap, tTr_ap, tAn_ap, tO_ap, andK_t, andK_f, orK_t, orK_f, iT_ap, iV_ap, iterD_l, iterD_t, iR1_ap, sRet_ap, rtK_ap, sN_ap, sBk_ap, sIf_ap, ifK_t, ifK_f, sSet_ap, setK_o, stM_n, stM_f, stM_m, stM_o, sAsg_ap, sApp_apt, sApp_apf, appK_apt, appK_apf, sSt_ap, stK_ap, stKK_apt, stKK_apf, sFor_ap, eLc_ap, eMt_ap, mtK_ap, mtK1_ap, tgName_ap, tgTup_ap, tgCons_ap, tgThen_ap, tgNil_ap, seq_eq, bind_eq, thenO_ok, ret_eq, seqO_nx, seqO_rt, seqO_bk, rdL, rdO_o, rdO_s, hgt]
    unfold lvB
    rw [sIf_ap, st, thenO_ok, ifK_f, sN_ap]
end
end VsG

namespace VsG
open PySem PySem.Spec L2 Vs
theorem T2_ok {sc y : PyData} {ns : List Int} {g : M O} {c r c' : Int} (e : g__law_next [some (.mu true (stD ns c)), some (.fz (.int 4))] = some (.ok (.fz (.int r)) [some (.mu true (stD ns (c + 1))), some (.fz (.int 4))]))
    (e2 : g [some (.mu true (stD ns (c + 1))), some (.fz (.int (1 + r)))] = some (.ok (.fz y) [some (.mu true (stD ns c')), some (.fz (.int (1 + r)))])) :
    sSet 2 (eCall g 2 (gB 1 (gF (eOp hAdd (eC (.int 1)) (eCall (g__law_next) 2 (gB 1 (gF (eC (.int 4)) gN)))) gN))) (lv sc ns c none none none none none none none none none) = some (.ok .nx (lv sc ns c' (some (.fz y)) none none none none none none none none)) := by
  simp [eV_ap, eC_ap, dr2O_ap, dr2_ap, dr2P_ap, eOp_ap, eOpK_ap, dr2B_ap, dr2BP_ap, dr2BO_ap, eTs_ap, eTsK_ap, dr1_ap, dr1P_ap, eUn_ap, drN_ap, drNP_ap, eCN_ap, lN_ap, lC_ap, lCK_ap, consR_ap, aN_ap, aC_ap, aCK_ap, consD_ap, frz_o, frz_m, frz_sf, frz_sm, gN_ap, gF_ap, gFK_ap, consG_ap, gB_ap, eCall_ap, callN_ap, callA_ap, callOut_ap, argE_bt, argE_bf, argE_fz, argE_nil, eTup_ap, eLst_ap, tupK_ap, lstK_ap, eDct_ap, eSl_ap, slK_ap, slK1_ap, slK2_ap, pN_ap, pI_ap, tTr_ap, tAn_ap, tO_ap, andK_t, andK_f, orK_t, orK_f, iT_ap, iV_ap, iterD_l, iterD_t, iR1_ap, sRet_ap, rtK_ap, sN_ap, sBk_ap, sIf_ap, ifK_t, ifK_f, sSet_ap, setK_o, stM_n, stM_f, stM_m, stM_o, sAsg_ap, sApp_apt, sApp_apf, appK_apt, appK_apf, sSt_ap, stK_ap, stKK_apt, stKK_apf, sFor_ap, eLc_ap, eMt_ap, mtK_ap, mtK1_ap, tgName_ap, tgTup_ap, tgCons_ap, tgThen_ap, tgNil_ap, seq_eq, bind_eq, thenO_ok, ret_eq, seqO_nx, seqO_rt, seqO_bk, rdL, rdO_o, rdO_s, callBO_t, brOk_n, brOk_f, brOk_b, brAt_n, brAt_f, brAt_b, back, backF, List.mapIdx, List.mapIdx.go, e, addk, e2]
theorem law_ok (xs : List Int) (hx : xs.length ≤ 63) : ∃ ρ', g_law 100 170 170 170 62 170 [some (.fz (.list (xs.map .int)))] = some (.ok (.fz (.bool true)) ρ') := by
  have hK : cst 62 ≤ 2 ^ 70 := by decide +kernel
  generalize hK2 : cst 62 = K at hK
  obtain ⟨ns, G, e1⟩ := stream_ok xs hx
  generalize hsc : PyData.list (xs.map .int) = sc at e1
  have t1 : sSet 1 (eLst (aC (eCall (g__law_stream) 1 (gF (eV 0) gN)) (aC (eC (.int 0)) aN))) [some (.fz sc), none, none, none, none, none, none, none, none, none, none] = some (.ok .nx (lv sc ns 0 none none none none none none none none none)) := by
    simp [eV_ap, eC_ap, dr2O_ap, dr2_ap, dr2P_ap, eOp_ap, eOpK_ap, dr2B_ap, dr2BP_ap, dr2BO_ap, eTs_ap, eTsK_ap, dr1_ap, dr1P_ap, eUn_ap, drN_ap, drNP_ap, eCN_ap, lN_ap, lC_ap, lCK_ap, consR_ap, aN_ap, aC_ap, aCK_ap, consD_ap, frz_o, frz_m, frz_sf, frz_sm, gN_ap, gF_ap, gFK_ap, consG_ap, gB_ap, eCall_ap, callN_ap, callA_ap, callOut_ap, argE_bt, argE_bf, argE_fz, argE_nil, eTup_ap, eLst_ap, tupK_ap, lstK_ap, eDct_ap, eSl_ap, slK_ap, slK1_ap, slK2_ap, pN_ap, pI_ap, tTr_ap, tAn_ap, tO_ap, andK_t, andK_f, orK_t, orK_f, iT_ap, iV_ap, iterD_l, iterD_t, iR1_ap, sRet_ap, rtK_ap, sN_ap, sBk_ap, sIf_ap, ifK_t, ifK_f, sSet_ap, setK_o, stM_n, stM_f, stM_m, stM_o, sAsg_ap, sApp_apt, sApp_apf, appK_apt, appK_apf, sSt_ap, stK_ap, stKK_apt, stKK_apf, sFor_ap, eLc_ap, eMt_ap, mtK_ap, mtK1_ap, tgName_ap, tgTup_ap, tgCons_ap, tgThen_ap, tgNil_ap, seq_eq, bind_eq, thenO_ok, ret_eq, seqO_nx, seqO_rt, seqO_bk, rdL, rdO_o, rdO_s, callBO_t, brOk_n, brOk_f, brOk_b, brAt_n, brAt_f, brAt_b, back, backF, List.mapIdx, List.mapIdx.go, e1, Mu.view]
  obtain ⟨r, r0, r1, e2⟩ := next_ok (c := 0) (m := 4) G (by decide) (by decide) (by decide)
  obtain ⟨ss, c2, S, hsl, k0, k1, e3⟩ := signs_ok (n := (1 + r).toNat) (m := 1 + r) (c := 0 + 1) (by omega) G (by omega) (by omega) (by decide) (by decide)
  have few : ss.length ≤ 4 := by omega
  have few2 : ss.length ≤ 100 := by omega
  have t2 := T2_ok (sc := sc) e2 e3
  obtain ⟨first, c3, hfirst, k2, k3, e4⟩ := T3_ok (sc := sc) (c := c2) (x3 := none) (x4 := none) (x5 := none) (x6 := none) (x7 := none) (x8 := none) (x9 := none) (x10 := none) (m := 60) (by decide) (by decide) hK2 G S few2 (by omega) (by omega)
  obtain ⟨second, c4, hsecond, k4, k5, e5⟩ := changed_ok (nT := 62) (c := c3) (by decide) G S few2 100 62 first (by decide) hfirst (by omega) (by rw [hK2]; omega)
  rw [hK2] at k5
  have t4 := T4_ok (sc := sc) (x5 := none) (x6 := none) (x7 := none) (x8 := none) (x9 := none) (x10 := none) e5
  obtain ⟨third, c5, hthird, k6, k7, e6⟩ := T3_ok (sc := sc) (c := c4) (x3 := some (.fz first)) (x4 := some (.fz second)) (x5 := none) (x6 := none) (x7 := none) (x8 := none) (x9 := none) (x10 := none) (m := 12) (by decide) (by decide) hK2 G S few2 (by omega) (by omega)
  have a1 := agrees_ok (n := 170) S few2 (by decide) (by decide) (by decide) hfirst hsecond
  have a2 := agrees_ok (n := 170) S few2 (by decide) (by decide) (by decide) hthird hsecond
  have t6 := T6_ok (sc := sc) (ns := ns) (c := c5) (x6 := none) (x7 := none) (x8 := none) (x9 := none) (x10 := none) a1 a2
  obtain ⟨ρ', ef, c6, y6, y7, y8, y9, y10, er, _⟩ := forF_ok (h := tgTup 2 (tgCons (tgName 6) (tgCons (tgName 7) tgNil))) (fb := lvB)
    (fun ds ρ => ∃ (c6 : Int) (y6 y7 y8 y9 y10 : Option O), ρ = lv sc ns c6 (some (.fz (.tuple (sgD ss)))) (some (.fz first)) (some (.fz second)) (some (.fz third)) y6 y7 y8 y9 y10 ∧ Fr y6 ∧ Fr y7 ∧ Fr y8 ∧ Fr y9 ∧ Fr y10 ∧ c5 ≤ c6 ∧ ds.length ≤ 4 ∧ c6 + ds.length * (3 + 100 * (K + 10)) ≤ c5 + 4 * (3 + 100 * (K + 10)) ∧ ∀ d ∈ ds, ∃ p ∈ ss, d = .tuple [.str p.1, .int p.2])
    (fun d ds ρ ⟨c6, y6, y7, y8, y9, y10, er, g6, g7, g8, g9, g10, h5, hl, hb, hd⟩ => by
      subst er
      obtain ⟨⟨w, a⟩, hp, rfl⟩ := hd d (List.mem_cons_self ..)
      have hl' : ds.length + 1 ≤ 4 := hl
      rw [List.length_cons, Int.natCast_succ, Int.add_mul, Int.one_mul] at hb
      have hpos : 0 ≤ (ds.length : Int) * (3 + 100 * ((K : Int) + 10)) := Int.mul_nonneg (by omega) (by omega)
      obtain ⟨c', z8, z9, z10, i8, i9, i10, q0, q1, e⟩ := lvB_ok (sc := sc) (c := c6) (x8 := y8) (x9 := y9) (x10 := y10) (f1 := first) (f2 := second) (t := third) hK2 G S few2 (by omega) (by omega) hp hthird g8 g9 g10
      refine ⟨lv sc ns c6 (some (.fz (.tuple (sgD ss)))) (some (.fz first)) (some (.fz second)) (some (.fz third)) (some (.fz (.str w))) (some (.fz (.int a))) y8 y9 y10, ?_, .inl ⟨_, e, c', _, _, _, _, _, rfl, fr_f, fr_f, i8, i9, i10, by omega, by omega, by omega, fun d h => hd d (List.mem_cons_of_mem _ h)⟩⟩
      simp [eV_ap, eC_ap, dr2O_ap, dr2_ap, dr2P_ap, eOp_ap, eOpK_ap, dr2B_ap, dr2BP_ap, dr2BO_ap, eTs_ap, eTsK_ap, dr1_ap, dr1P_ap, eUn_ap, drN_ap, drNP_ap, eCN_ap, lN_ap, lC_ap, lCK_ap, consR_ap, aN_ap, aC_ap, aCK_ap, consD_ap, frz_o, frz_m, frz_sf, frz_sm, gN_ap, gF_ap, gFK_ap, consG_ap, gB_ap, eCall_ap, callN_ap, callA_ap, callOut_ap, argE_bt, argE_bf, argE_fz, argE_nil, eTup_ap, eLst_ap, tupK_ap, lstK_ap, eDct_ap, eSl_ap, slK_ap, slK1_ap, slK2_ap, pN_ap, pI_ap, tTr_ap, tAn_ap, tO_ap, andK_t, andK_f, orK_t, orK_f, iT_ap, iV_ap, iterD_l, iterD_t, iR1_ap, sRet_ap, rtK_ap, sN_ap, sBk_ap, sIf_ap, ifK_t, ifK_f, sSet_ap, setK_o, stM_n, stM_f, stM_m, stM_o, sAsg_ap, sApp_apt, sApp_apf, appK_apt, appK_apf, sSt_ap, stK_ap, stKK_apt, stKK_apf, sFor_ap, eLc_ap, eMt_ap, mtK_ap, mtK1_ap, tgName_ap, tgTup_ap, tgCons_ap, tgThen_ap, tgNil_ap, seq_eq, bind_eq, thenO_ok, ret_eq, seqO_nx, seqO_rt, seqO_bk, rdL, rdO_o, rdO_s, stM_v, g6, g7]) (sgD ss) (lv sc ns c5 (some (.fz (.tuple (sgD ss)))) (some (.fz first)) (some (.fz second)) (some (.fz third)) none none none none none)
    ⟨c5, none, none, none, none, none, rfl, fr_n, fr_n, fr_n, fr_n, fr_n, Int.le_refl _, by rw [List.length_map]; exact few, by
      rw [List.length_map]
      have : (ss.length : Int) * (3 + 100 * ((K : Int) + 10)) ≤ 4 * (3 + 100 * ((K : Int) + 10)) := Int.mul_le_mul_of_nonneg_right (by omega) (by omega)
      omega, fun d h => by obtain ⟨p, hp, rfl⟩ := List.mem_map.mp h; exact ⟨p, hp, rfl⟩⟩
  subst er
  have hi : iV (eV 2) (lv sc ns c5 (some (.fz (.tuple (sgD ss)))) (some (.fz first)) (some (.fz second)) (some (.fz third)) none none none none none) = some (.ok (sgD ss) (lv sc ns c5 (some (.fz (.tuple (sgD ss)))) (some (.fz first)) (some (.fz second)) (some (.fz third)) none none none none none)) := by simp [eV_ap, eC_ap, dr2O_ap, dr2_ap, dr2P_ap, eOp_ap, eOpK_ap, dr2B_ap, dr2BP_ap, dr2BO_ap, eTs_ap, eTsK_ap, dr1_ap, dr1P_ap, eUn_ap, drN_ap, drNP_ap, eCN_ap, lN_ap, lC_ap, lCK_ap, consR_ap, aN_ap, aC_ap, aCK_ap, consD_ap, frz_o, frz_m, frz_sf, frz_sm, gN_ap, gF_ap, gFK_ap, consG_ap, gB_ap, eCall_ap, callN_ap, callA_ap, callOut_ap, argE_bt, argE_bf, argE_fz, argE_nil, eTup_ap, eLst_ap, tupK_ap, lstK_ap, eDct_ap, eSl_ap, slK_ap, slK1_ap, slK2_ap, pN_ap, pI_ap, tTr_ap, tAn_ap, tO_ap, andK_t, andK_f, orK_t, orK_f, iT_ap, iV_ap, iterD_l, iterD_t, iR1_ap, sRet_ap, rtK_ap, sN_ap, sBk_ap, sIf_ap, ifK_t, ifK_f, sSet_ap, setK_o, stM_n, stM_f, stM_m, stM_o, sAsg_ap, sApp_apt, sApp_apf, appK_apt, appK_apf, sSt_ap, stK_ap, stKK_apt, stKK_apf, sFor_ap, eLc_ap, eMt_ap, mtK_ap, mtK1_ap, tgName_ap, tgTup_ap, tgCons_ap, tgThen_ap, tgNil_ap, seq_eq, bind_eq, thenO_ok, ret_eq, seqO_nx, seqO_rt, seqO_bk, rdL, rdO_o, rdO_s]
  generalize hsg : PyData.tuple (sgD ss) = sg at *
  have t3 : sSet 3 (eCall (g__law_term 62) 4 (gB 1 (gF (eV 2) (gF (eLst aN) (gF (eOp hAdd (eC (.int 1)) (eCall (g__law_next) 2 (gB 1 (gF (eC (.int 60)) gN)))) gN))))) (lv sc ns c2 (some (.fz sg)) none none none none none none none none) = some (.ok .nx (lv sc ns c3 (some (.fz sg)) (some (.fz first)) none none none none none none none)) := by
    rw [sSet_ap, e4, thenO_ok, setK_o, stM_n rfl]; rfl
  have t5 : sSet 5 (eCall (g__law_term 62) 4 (gB 1 (gF (eV 2) (gF (eLst aN) (gF (eOp hAdd (eC (.int 1)) (eCall (g__law_next) 2 (gB 1 (gF (eC (.int 12)) gN)))) gN))))) (lv sc ns c4 (some (.fz sg)) (some (.fz first)) (some (.fz second)) none none none none none none) = some (.ok .nx (lv sc ns c5 (some (.fz sg)) (some (.fz first)) (some (.fz second)) (some (.fz third)) none none none none none)) := by
    rw [sSet_ap, e6, thenO_ok, setK_o, stM_n rfl]; rfl
  have body : g_law 100 170 170 170 62 170 [some (.fz sc)] = defOut [some (.fz sc)] (f_law 100 170 170 170 62 170 [some (.fz sc), none, none, none, none, none, none, none, none, none, none]) := rfl
  refine ⟨[some (.fz sc)], ?_⟩
  rw [body]
  unfold f_law
  unfold lvB at ef
  rw [seq_eq, t1, seqO_nx, seq_eq, t2, seqO_nx, seq_eq, t3, seqO_nx, seq_eq, t4, seqO_nx, seq_eq, t5, seqO_nx, seq_eq, t6, seqO_nx, seq_eq, sFor_ap, hi, thenO_ok, ef, seqO_nx, sRet_ap, eC_ap, thenO_ok, rtK_ap]
  rfl
end VsG

namespace VsG
open PySem PySem.Spec PyProof.Rows L2 Vs
section
variable {P : Program} {w : World} {K : PySem.W.Frag} {mg : Str → Option Value}
theorem all_mk (n__law_changed : Nat) (n__law_copy : Nat) (n__law_key : Nat) (n__law_size : Nat) (n__law_term : Nat) (n_compare_trees : Nat) {h : Heap} {fa : Addr} (X : K.In h) (G : h.Ns mainGlobals mg) (hfa : mg "law" = some (.ref fa))
    {f0 : Addr} {oc0 kV0 dc0 pm0 cd0 ct0 : Value} {od0 an0 : Option Addr} {sl0 : Array (Option Value)} (a0 : PySem.W.nsIn K mainGlobals "_law_copy" = some (some (.ref f0))) (l0 : K.lookup f0 = some ⟨oc0, od0, .func (PySem.W.fnOf "_law_copy" "_law_copy" (defArgs s__law_copy) (defBody s__law_copy) (defScope s__law_copy) .none kV0 dc0 pm0 an0 cd0 ct0), sl0⟩) (c0 : PySem.W.codeIn K cd0 "_law_copy" = true) (k0 : PySem.W.keepIn K (.ref f0) = true)
    {f1 : Addr} {oc1 kV1 dc1 pm1 cd1 ct1 : Value} {od1 an1 : Option Addr} {sl1 : Array (Option Value)} (a1 : PySem.W.nsIn K mainGlobals "_law_size" = some (some (.ref f1))) (l1 : K.lookup f1 = some ⟨oc1, od1, .func (PySem.W.fnOf "_law_size" "_law_size" (defArgs s__law_size) (defBody s__law_size) (defScope s__law_size) .none kV1 dc1 pm1 an1 cd1 ct1), sl1⟩) (c1 : PySem.W.codeIn K cd1 "_law_size" = true) (k1 : PySem.W.keepIn K (.ref f1) = true)
    {f2 : Addr} {oc2 kV2 dc2 pm2 cd2 ct2 : Value} {od2 an2 : Option Addr} {sl2 : Array (Option Value)} (a2 : PySem.W.nsIn K mainGlobals "_law_key" = some (some (.ref f2))) (l2 : K.lookup f2 = some ⟨oc2, od2, .func (PySem.W.fnOf "_law_key" "_law_key" (defArgs s__law_key) (defBody s__law_key) (defScope s__law_key) .none kV2 dc2 pm2 an2 cd2 ct2), sl2⟩) (c2 : PySem.W.codeIn K cd2 "_law_key" = true) (k2 : PySem.W.keepIn K (.ref f2) = true)
    {f3 : Addr} {oc3 kV3 dc3 pm3 cd3 ct3 : Value} {od3 an3 : Option Addr} {sl3 : Array (Option Value)} (a3 : PySem.W.nsIn K mainGlobals "_law_same" = some (some (.ref f3))) (l3 : K.lookup f3 = some ⟨oc3, od3, .func (PySem.W.fnOf "_law_same" "_law_same" (defArgs s__law_same) (defBody s__law_same) (defScope s__law_same) .none kV3 dc3 pm3 an3 cd3 ct3), sl3⟩) (c3 : PySem.W.codeIn K cd3 "_law_same" = true) (k3 : PySem.W.keepIn K (.ref f3) = true)
    {f4 : Addr} {oc4 kV4 dc4 pm4 cd4 ct4 : Value} {od4 an4 : Option Addr} {sl4 : Array (Option Value)} (a4 : PySem.W.nsIn K mainGlobals "rank_of" = some (some (.ref f4))) (l4 : K.lookup f4 = some ⟨oc4, od4, .func (PySem.W.fnOf "rank_of" "rank_of" (defArgs s_rank_of) (defBody s_rank_of) (defScope s_rank_of) .none kV4 dc4 pm4 an4 cd4 ct4), sl4⟩) (c4 : PySem.W.codeIn K cd4 "rank_of" = true) (k4 : PySem.W.keepIn K (.ref f4) = true)
    {f5 : Addr} {oc5 kV5 dc5 pm5 cd5 ct5 : Value} {od5 an5 : Option Addr} {sl5 : Array (Option Value)} (a5 : PySem.W.nsIn K mainGlobals "size_of" = some (some (.ref f5))) (l5 : K.lookup f5 = some ⟨oc5, od5, .func (PySem.W.fnOf "size_of" "size_of" (defArgs s_size_of) (defBody s_size_of) (defScope s_size_of) .none kV5 dc5 pm5 an5 cd5 ct5), sl5⟩) (c5 : PySem.W.codeIn K cd5 "size_of" = true) (k5 : PySem.W.keepIn K (.ref f5) = true)
    {f6 : Addr} {oc6 kV6 dc6 pm6 cd6 ct6 : Value} {od6 an6 : Option Addr} {sl6 : Array (Option Value)} (a6 : PySem.W.nsIn K mainGlobals "compare_trees" = some (some (.ref f6))) (l6 : K.lookup f6 = some ⟨oc6, od6, .func (PySem.W.fnOf "compare_trees" "compare_trees" (defArgs s_compare_trees) (defBody s_compare_trees) (defScope s_compare_trees) .none kV6 dc6 pm6 an6 cd6 ct6), sl6⟩) (c6 : PySem.W.codeIn K cd6 "compare_trees" = true) (k6 : PySem.W.keepIn K (.ref f6) = true)
    {f7 : Addr} {oc7 kV7 dc7 pm7 cd7 ct7 : Value} {od7 an7 : Option Addr} {sl7 : Array (Option Value)} (a7 : PySem.W.nsIn K mainGlobals "_law_agrees" = some (some (.ref f7))) (l7 : K.lookup f7 = some ⟨oc7, od7, .func (PySem.W.fnOf "_law_agrees" "_law_agrees" (defArgs s__law_agrees) (defBody s__law_agrees) (defScope s__law_agrees) .none kV7 dc7 pm7 an7 cd7 ct7), sl7⟩) (c7 : PySem.W.codeIn K cd7 "_law_agrees" = true) (k7 : PySem.W.keepIn K (.ref f7) = true)
    {f8 : Addr} {oc8 kV8 dc8 pm8 cd8 ct8 : Value} {od8 an8 : Option Addr} {sl8 : Array (Option Value)} (a8 : PySem.W.nsIn K mainGlobals "_law_next" = some (some (.ref f8))) (l8 : K.lookup f8 = some ⟨oc8, od8, .func (PySem.W.fnOf "_law_next" "_law_next" (defArgs s__law_next) (defBody s__law_next) (defScope s__law_next) .none kV8 dc8 pm8 an8 cd8 ct8), sl8⟩) (c8 : PySem.W.codeIn K cd8 "_law_next" = true) (k8 : PySem.W.keepIn K (.ref f8) = true)
    {f9 : Addr} {oc9 kV9 dc9 pm9 cd9 ct9 : Value} {od9 an9 : Option Addr} {sl9 : Array (Option Value)} (a9 : PySem.W.nsIn K mainGlobals "_law_term" = some (some (.ref f9))) (l9 : K.lookup f9 = some ⟨oc9, od9, .func (PySem.W.fnOf "_law_term" "_law_term" (defArgs s__law_term) (defBody s__law_term) (defScope s__law_term) .none kV9 dc9 pm9 an9 cd9 ct9), sl9⟩) (c9 : PySem.W.codeIn K cd9 "_law_term" = true) (k9 : PySem.W.keepIn K (.ref f9) = true)
    {f10 : Addr} {oc10 kV10 dc10 pm10 cd10 ct10 : Value} {od10 an10 : Option Addr} {sl10 : Array (Option Value)} (a10 : PySem.W.nsIn K mainGlobals "_law_changed" = some (some (.ref f10))) (l10 : K.lookup f10 = some ⟨oc10, od10, .func (PySem.W.fnOf "_law_changed" "_law_changed" (defArgs s__law_changed) (defBody s__law_changed) (defScope s__law_changed) .none kV10 dc10 pm10 an10 cd10 ct10), sl10⟩) (c10 : PySem.W.codeIn K cd10 "_law_changed" = true) (k10 : PySem.W.keepIn K (.ref f10) = true)
    {f11 : Addr} {oc11 kV11 dc11 pm11 cd11 ct11 : Value} {od11 an11 : Option Addr} {sl11 : Array (Option Value)} (a11 : PySem.W.nsIn K mainGlobals "_law_row" = some (some (.ref f11))) (l11 : K.lookup f11 = some ⟨oc11, od11, .func (PySem.W.fnOf "_law_row" "_law_row" (defArgs s__law_row) (defBody s__law_row) (defScope s__law_row) .none kV11 dc11 pm11 an11 cd11 ct11), sl11⟩) (c11 : PySem.W.codeIn K cd11 "_law_row" = true) (k11 : PySem.W.keepIn K (.ref f11) = true)
    {f12 : Addr} {oc12 kV12 dc12 pm12 cd12 ct12 : Value} {od12 an12 : Option Addr} {sl12 : Array (Option Value)} (a12 : PySem.W.nsIn K mainGlobals "_law_word" = some (some (.ref f12))) (l12 : K.lookup f12 = some ⟨oc12, od12, .func (PySem.W.fnOf "_law_word" "_law_word" (defArgs s__law_word) (defBody s__law_word) (defScope s__law_word) .none kV12 dc12 pm12 an12 cd12 ct12), sl12⟩) (c12 : PySem.W.codeIn K cd12 "_law_word" = true) (k12 : PySem.W.keepIn K (.ref f12) = true)
    {f13 : Addr} {oc13 kV13 dc13 pm13 cd13 ct13 : Value} {od13 an13 : Option Addr} {sl13 : Array (Option Value)} (a13 : PySem.W.nsIn K mainGlobals "_law_signs" = some (some (.ref f13))) (l13 : K.lookup f13 = some ⟨oc13, od13, .func (PySem.W.fnOf "_law_signs" "_law_signs" (defArgs s__law_signs) (defBody s__law_signs) (defScope s__law_signs) .none kV13 dc13 pm13 an13 cd13 ct13), sl13⟩) (c13 : PySem.W.codeIn K cd13 "_law_signs" = true) (k13 : PySem.W.keepIn K (.ref f13) = true)
    {f14 : Addr} {oc14 kV14 dc14 pm14 cd14 ct14 : Value} {od14 an14 : Option Addr} {sl14 : Array (Option Value)} (a14 : PySem.W.nsIn K mainGlobals "_law_stream" = some (some (.ref f14))) (l14 : K.lookup f14 = some ⟨oc14, od14, .func (PySem.W.fnOf "_law_stream" "_law_stream" (defArgs s__law_stream) (defBody s__law_stream) (defScope s__law_stream) .none kV14 dc14 pm14 an14 cd14 ct14), sl14⟩) (c14 : PySem.W.codeIn K cd14 "_law_stream" = true) (k14 : PySem.W.keepIn K (.ref f14) = true)
    {f15 : Addr} {oc15 kV15 dc15 pm15 cd15 ct15 : Value} {od15 an15 : Option Addr} {sl15 : Array (Option Value)} (a15 : PySem.W.nsIn K mainGlobals "law" = some (some (.ref f15))) (l15 : K.lookup f15 = some ⟨oc15, od15, .func (PySem.W.fnOf "law" "law" (defArgs s_law) (defBody s_law) (defScope s_law) .none kV15 dc15 pm15 an15 cd15 ct15), sl15⟩) (c15 : PySem.W.codeIn K cd15 "law" = true) (k15 : PySem.W.keepIn K (.ref f15) = true)
    (z0 : PySem.W.nsIn K mainGlobals "abs" = some none) (z1 : PySem.W.nsIn K mainGlobals "int" = some none) (z2 : PySem.W.nsIn K mainGlobals "isinstance" = some none) (z3 : PySem.W.nsIn K mainGlobals "len" = some none) (z4 : PySem.W.nsIn K mainGlobals "list" = some none) (z5 : PySem.W.nsIn K mainGlobals "max" = some none) (z6 : PySem.W.nsIn K mainGlobals "range" = some none) (z7 : PySem.W.nsIn K mainGlobals "repr" = some none) (z8 : PySem.W.nsIn K mainGlobals "str" = some none) (z9 : PySem.W.nsIn K mainGlobals "sum" = some none) (z10 : PySem.W.nsIn K mainGlobals "tuple" = some none) (z11 : PySem.W.nsIn K mainGlobals "zip" = some none) :
    ∃ fd : FuncData, (∀ (s : Shared) (u : Value), BindsTo s fd ⟨[u], []⟩ [("script", u)]) ∧ ∀ base : Heap, K.In base → base.Ns mainGlobals mg → FnG P w K mg base ((max (max (max (max (max (max (max ((max (max (max (0 + n__law_copy) (0 + n__law_key)) (0 + 1)) ((0 + 1) + n_compare_trees)) + 1) ((max (0 + 1) ((0 + 1) + n__law_term)) + n__law_changed)) (0 + 1)) (0 + 1)) ((max (0 + 1) ((0 + 1) + 1)) + 1)) (0 + n__law_size)) (0 + 1)) ((0 + 1) + n__law_term)) + 1) fa fd ["script"] (g_law n__law_changed n__law_copy n__law_key n__law_size n__law_term n_compare_trees) := by
  have e := hfa.symm.trans (PySem.W.mg_of X G a15)
  cases e
  have Z : Zs mg := ⟨PySem.W.mg_none_of X G z0, PySem.W.mg_none_of X G z1, PySem.W.mg_none_of X G z2, PySem.W.mg_none_of X G z3, PySem.W.mg_none_of X G z4, PySem.W.mg_none_of X G z5, PySem.W.mg_none_of X G z6, PySem.W.mg_none_of X G z7, PySem.W.mg_none_of X G z8, PySem.W.mg_none_of X G z9, PySem.W.mg_none_of X G z10, PySem.W.mg_none_of X G z11⟩
  have F0 := fun_mk (st := s__law_copy) l0 c0 k0
  have d0 : Def K mg "_law_copy" s__law_copy ["tree"] _ _ := ⟨F0, PySem.W.mg_of X G a0, F0.binds (ps := ["tree"]) fun _ _ _ _ _ _ us hl => match us, hl with | [_], _ => rfl⟩
  have F1 := fun_mk (st := s__law_size) l1 c1 k1
  have d1 : Def K mg "_law_size" s__law_size ["term"] _ _ := ⟨F1, PySem.W.mg_of X G a1, F1.binds (ps := ["term"]) fun _ _ _ _ _ _ us hl => match us, hl with | [_], _ => rfl⟩
  have F2 := fun_mk (st := s__law_key) l2 c2 k2
  have d2 : Def K mg "_law_key" s__law_key ["signs", "tree"] _ _ := ⟨F2, PySem.W.mg_of X G a2, F2.binds (ps := ["signs", "tree"]) fun _ _ _ _ _ _ us hl => match us, hl with | [_, _], _ => rfl⟩
  have F3 := fun_mk (st := s__law_same) l3 c3 k3
  have d3 : Def K mg "_law_same" s__law_same ["told", "due"] _ _ := ⟨F3, PySem.W.mg_of X G a3, F3.binds (ps := ["told", "due"]) fun _ _ _ _ _ _ us hl => match us, hl with | [_, _], _ => rfl⟩
  have F4 := fun_mk (st := s_rank_of) l4 c4 k4
  have d4 : Def K mg "rank_of" s_rank_of ["signs", "word"] _ _ := ⟨F4, PySem.W.mg_of X G a4, F4.binds (ps := ["signs", "word"]) fun _ _ _ _ _ _ us hl => match us, hl with | [_, _], _ => rfl⟩
  have F5 := fun_mk (st := s_size_of) l5 c5 k5
  have d5 : Def K mg "size_of" s_size_of ["term"] _ _ := ⟨F5, PySem.W.mg_of X G a5, F5.binds (ps := ["term"]) fun _ _ _ _ _ _ us hl => match us, hl with | [_], _ => rfl⟩
  have F6 := fun_mk (st := s_compare_trees) l6 c6 k6
  have d6 : Def K mg "compare_trees" s_compare_trees ["signs", "first", "second"] _ _ := ⟨F6, PySem.W.mg_of X G a6, F6.binds (ps := ["signs", "first", "second"]) fun _ _ _ _ _ _ us hl => match us, hl with | [_, _, _], _ => rfl⟩
  have F7 := fun_mk (st := s__law_agrees) l7 c7 k7
  have d7 : Def K mg "_law_agrees" s__law_agrees ["signs", "first", "second"] _ _ := ⟨F7, PySem.W.mg_of X G a7, F7.binds (ps := ["signs", "first", "second"]) fun _ _ _ _ _ _ us hl => match us, hl with | [_, _, _], _ => rfl⟩
  have F8 := fun_mk (st := s__law_next) l8 c8 k8
  have d8 : Def K mg "_law_next" s__law_next ["state", "many"] _ _ := ⟨F8, PySem.W.mg_of X G a8, F8.binds (ps := ["state", "many"]) fun _ _ _ _ _ _ us hl => match us, hl with | [_, _], _ => rfl⟩
  have F9 := fun_mk (st := s__law_term) l9 c9 k9
  have d9 : Def K mg "_law_term" s__law_term ["state", "signs", "names", "room"] _ _ := ⟨F9, PySem.W.mg_of X G a9, F9.binds (ps := ["state", "signs", "names", "room"]) fun _ _ _ _ _ _ us hl => match us, hl with | [_, _, _, _], _ => rfl⟩
  have F10 := fun_mk (st := s__law_changed) l10 c10 k10
  have d10 : Def K mg "_law_changed" s__law_changed ["state", "signs", "tree"] _ _ := ⟨F10, PySem.W.mg_of X G a10, F10.binds (ps := ["state", "signs", "tree"]) fun _ _ _ _ _ _ us hl => match us, hl with | [_, _, _], _ => rfl⟩
  have F11 := fun_mk (st := s__law_row) l11 c11 k11
  have d11 : Def K mg "_law_row" s__law_row ["signs", "sign", "arity", "many", "bottom"] _ _ := ⟨F11, PySem.W.mg_of X G a11, F11.binds (ps := ["signs", "sign", "arity", "many", "bottom"]) fun _ _ _ _ _ _ us hl => match us, hl with | [_, _, _, _, _], _ => rfl⟩
  have F12 := fun_mk (st := s__law_word) l12 c12 k12
  have d12 : Def K mg "_law_word" s__law_word ["state", "taken"] _ _ := ⟨F12, PySem.W.mg_of X G a12, F12.binds (ps := ["state", "taken"]) fun _ _ _ _ _ _ us hl => match us, hl with | [_, _], _ => rfl⟩
  have F13 := fun_mk (st := s__law_signs) l13 c13 k13
  have d13 : Def K mg "_law_signs" s__law_signs ["state", "many"] _ _ := ⟨F13, PySem.W.mg_of X G a13, F13.binds (ps := ["state", "many"]) fun _ _ _ _ _ _ us hl => match us, hl with | [_, _], _ => rfl⟩
  have F14 := fun_mk (st := s__law_stream) l14 c14 k14
  have d14 : Def K mg "_law_stream" s__law_stream ["script"] _ _ := ⟨F14, PySem.W.mg_of X G a14, F14.binds (ps := ["script"]) fun _ _ _ _ _ _ us hl => match us, hl with | [_], _ => rfl⟩
  have F15 := fun_mk (st := s_law) l15 c15 k15
  have d15 : Def K mg "law" s_law ["script"] _ _ := ⟨F15, PySem.W.mg_of X G a15, F15.binds (ps := ["script"]) fun _ _ _ _ _ _ us hl => match us, hl with | [_], _ => rfl⟩
  refine ⟨PySem.W.fnOf "law" "law" (defArgs s_law) (defBody s_law) (defScope s_law) .none kV15 dc15 pm15 an15 cd15 ct15, fun s v => .of_eq rfl, fun base _ _ => ?_⟩
  have o0 := fun n => ok__law_copy (P := P) (w := w) (base := base) Z d0 n
  have c__law_copy := fun n => d0.cal (o0 n)
  have o1 := fun n => ok__law_size (P := P) (w := w) (base := base) Z d1 n
  have c__law_size := fun n => d1.cal (o1 n)
  have o2 := fun n => ok__law_key (P := P) (w := w) (base := base) Z d2 c__law_size n
  have c__law_key := fun n => d2.cal (o2 n)
  have o3 := ok__law_same (P := P) (w := w) (base := base) Z d3
  have c__law_same := d3.cal o3
  have o4 := ok_rank_of (P := P) (w := w) (base := base) Z d4
  have c_rank_of := d4.cal o4
  have o5 := fun n => ok_size_of (P := P) (w := w) (base := base) Z d5 n
  have c_size_of := fun n => d5.cal (o5 n)
  have o6 := fun n => ok_compare_trees (P := P) (w := w) (base := base) Z d6 c_rank_of c_size_of n
  have c_compare_trees := fun n => d6.cal (o6 n)
  have o7 := ok__law_agrees (P := P) (w := w) (base := base) Z n__law_copy n__law_key n_compare_trees d7 c__law_copy c__law_key c__law_same c_compare_trees
  have c__law_agrees := d7.cal o7
  have o8 := ok__law_next (P := P) (w := w) (base := base) Z d8
  have c__law_next := d8.cal o8
  have o9 := fun n => ok__law_term (P := P) (w := w) (base := base) Z d9 c__law_next n
  have c__law_term := fun n => d9.cal (o9 n)
  have o10 := fun n => ok__law_changed (P := P) (w := w) (base := base) Z n__law_term d10 c__law_next c__law_term n
  have c__law_changed := fun n => d10.cal (o10 n)
  have o11 := ok__law_row (P := P) (w := w) (base := base) Z d11
  have c__law_row := d11.cal o11
  have o12 := ok__law_word (P := P) (w := w) (base := base) Z d12 c__law_next
  have c__law_word := d12.cal o12
  have o13 := ok__law_signs (P := P) (w := w) (base := base) Z d13 c__law_next c__law_word
  have c__law_signs := d13.cal o13
  have o14 := ok__law_stream (P := P) (w := w) (base := base) Z d14
  have c__law_stream := d14.cal o14
  have o15 := ok_law (P := P) (w := w) (base := base) Z n__law_changed n__law_copy n__law_key n__law_size n__law_term n_compare_trees d15 c__law_agrees c__law_changed c__law_next c__law_row c__law_signs c__law_size c__law_stream c__law_term
  exact o15
end
end VsG


open PySem PySem.W PyProof.Rows Vs
set_option maxHeartbeats 0 in
theorem PySem.Challenge.cw_pergola_k01_order_of_trees_holds : PySem.Challenge.rw_pergola_k01_order_of_trees.Holds := by
  w_on; o_law; k_head; (case hw => w_witness2)
  k_fill
  refine Vs.walkG (l := PySem.Challenge.rw_pergola_k01_order_of_trees) (n := 63) (k := 173) (x := "script") (g := VsG.g_law 100 170 170 170 62 170) rfl (by decide) rfl ⟨rfl, by decide, by decide⟩ (fun w h Y => PySem.W.kIn_of Y) ?F VsG.law_ok
  case F =>
    intro w mg fa h KX G hmg
    refine' VsG.all_mk 100 170 170 170 62 170 KX G hmg ?a0 ?l0 ?c0 ?k0 ?a1 ?l1 ?c1 ?k1 ?a2 ?l2 ?c2 ?k2 ?a3 ?l3 ?c3 ?k3 ?a4 ?l4 ?c4 ?k4 ?a5 ?l5 ?c5 ?k5 ?a6 ?l6 ?c6 ?k6 ?a7 ?l7 ?c7 ?k7 ?a8 ?l8 ?c8 ?k8 ?a9 ?l9 ?c9 ?k9 ?a10 ?l10 ?c10 ?k10 ?a11 ?l11 ?c11 ?k11 ?a12 ?l12 ?c12 ?k12 ?a13 ?l13 ?c13 ?k13 ?a14 ?l14 ?c14 ?k14 ?a15 ?l15 ?c15 ?k15 ?z0 ?z1 ?z2 ?z3 ?z4 ?z5 ?z6 ?z7 ?z8 ?z9 ?z10 ?z11
    (case a0 => k_is); (case l0 => k_is); (case c0 => k_is); (case k0 => k_is)
    (case a1 => k_is); (case l1 => k_is); (case c1 => k_is); (case k1 => k_is)
    (case a2 => k_is); (case l2 => k_is); (case c2 => k_is); (case k2 => k_is)
    (case a3 => k_is); (case l3 => k_is); (case c3 => k_is); (case k3 => k_is)
    (case a4 => k_is); (case l4 => k_is); (case c4 => k_is); (case k4 => k_is)
    (case a5 => k_is); (case l5 => k_is); (case c5 => k_is); (case k5 => k_is)
    (case a6 => k_is); (case l6 => k_is); (case c6 => k_is); (case k6 => k_is)
    (case a7 => k_is); (case l7 => k_is); (case c7 => k_is); (case k7 => k_is)
    (case a8 => k_is); (case l8 => k_is); (case c8 => k_is); (case k8 => k_is)
    (case a9 => k_is); (case l9 => k_is); (case c9 => k_is); (case k9 => k_is)
    (case a10 => k_is); (case l10 => k_is); (case c10 => k_is); (case k10 => k_is)
    (case a11 => k_is); (case l11 => k_is); (case c11 => k_is); (case k11 => k_is)
    (case a12 => k_is); (case l12 => k_is); (case c12 => k_is); (case k12 => k_is)
    (case a13 => k_is); (case l13 => k_is); (case c13 => k_is); (case k13 => k_is)
    (case a14 => k_is); (case l14 => k_is); (case c14 => k_is); (case k14 => k_is)
    (case a15 => k_is); (case l15 => k_is); (case c15 => k_is); (case k15 => k_is)
    (case z0 => k_is); (case z1 => k_is); (case z2 => k_is); (case z3 => k_is)
    (case z4 => k_is); (case z5 => k_is); (case z6 => k_is); (case z7 => k_is)
    (case z8 => k_is); (case z9 => k_is); (case z10 => k_is); (case z11 => k_is)
#print axioms PySem.Challenge.cw_pergola_k01_order_of_trees_holds

