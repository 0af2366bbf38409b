import PyProof.Rows.All
import Wide.All
import OpenK.AllK
import Wide.FinOn
import HandS.ForMost
import HandS.ForExc
import HandS.Conv
import HandS.Star
import HandS.IsInst
import HandS.Flow
import HandS.Wide
import HandS.RaiseMore
import HandS.Deep
import HandS.ExcCtx
import HandS.HotCalls
import HandS.TupAny
import KE.DataCmp
import HandS.Zip
import KE.GoesEnum
import HandS.DictComp
import KE.KIsAll
import HandS.ExcIs
import HandS.ExcOwn
import HandS.TupMul
import HandS.Rev
import HandS.Style
import KE.KTupSum
import PyProof.AutoListH
import PyProof.StrOps2
import HandS.Text
import HandS.ReplaceLit
import KE.DataMinMax
import HandS.SortKw
import PySem.Challenge.RW_pergola_k62_positions_of_games
set_option Elab.async false
set_option linter.all false
set_option maxRecDepth 100000
set_option maxHeartbeats 4000000
set_option autoImplicit false
/-! Vs: values over HandS: frozen data, owned lists and dicts, runs. -/
namespace Vs
open PySem PySem.Spec L2

/-! ### frozen data -/
def kD : Key → PyData
  | .inl i => .int i
  | .inr x => .str x
mutual
inductive Rp (K : PySem.W.Frag) (F : Hp) : V → PyData → Prop
  | non : Rp K F .non .none
  | bl (b : Bool) : Rp K F (.bl b) (.bool b)
  | int (i : Int) : Rp K F (.int i) (.int i)
  | str (x : Str) : Rp K F (.str x) (.str x)
  | lst {a : Addr} {xs : List V} {ds : List PyData} : SqL K F a xs → RpA K F xs ds → Rp K F (.ref a) (.list ds)
  | tup {a : Addr} {xs : List V} {ds : List PyData} : SqT K F a xs → RpA K F xs ds → Rp K F (.ref a) (.tuple ds)
  | dct {a : Addr} {kvs : List (Key × V)} {es : List (Key × PyData)} {ds : List (PyData × PyData)} : Rd F a (.dK kvs) → RpK K F kvs es → ds = es.map (fun p => (kD p.1, p.2)) → Rp K F (.ref a) (.dict ds)
inductive RpA (K : PySem.W.Frag) (F : Hp) : List V → List PyData → Prop
  | nil : RpA K F [] []
  | cons {v : V} {vs : List V} {d : PyData} {ds : List PyData} : Rp K F v d → RpA K F vs ds → RpA K F (v :: vs) (d :: ds)
inductive RpK (K : PySem.W.Frag) (F : Hp) : List (Key × V) → List (Key × PyData) → Prop
  | nil : RpK K F [] []
  | cons {k : Key} {v : V} {vs : List (Key × V)} {d : PyData} {ds : List (Key × PyData)} : Rp K F v d → RpK K F vs ds → RpK K F ((k, v) :: vs) ((k, d) :: ds)
end

/-- what may be read in F may be read in H -/
def Le (F H : Hp) : Prop := ∀ a u, Rd F a u → Rd H a u
theorem Le.refl (F : Hp) : Le F F := fun _ _ h => h
theorem Le.trans {F G H : Hp} (a : Le F G) (b : Le G H) : Le F H := fun c u h => b c u (a c u h)
theorem Le.seqL {K : PySem.W.Frag} {F H : Hp} (e : Le F H) {a : Addr} {xs : List V} (h : SqL K F a xs) : SqL K H a xs := by
  rcases h with h | h
  · exact .inl (e _ _ h)
  · exact .inr h
theorem Le.seqT {K : PySem.W.Frag} {F H : Hp} (e : Le F H) {a : Addr} {xs : List V} (h : SqT K F a xs) : SqT K H a xs := by
  rcases h with h | h
  · exact .inl (e _ _ h)
  · exact .inr h
theorem Le.ofNew {F : Hp} {a : Addr} {o : HO} (h : F a = none) : Le F (upd F a o) := fun b u r => by
  rcases r with r | ⟨x, r⟩
  · exact .inl (by rw [upd_ne (ne_of_none r h)]; exact r)
  · exact .inr ⟨x, by rw [upd_ne (ne_of_none r h)]; exact r⟩
mutual
theorem Rp.mono {K : PySem.W.Frag} {F H : Hp} (e : Le F H) : ∀ {v : V} {d : PyData}, Rp K F v d → Rp K H v d
  | _, _, .non => .non
  | _, _, .bl b => .bl b
  | _, _, .int i => .int i
  | _, _, .str x => .str x
  | _, _, .lst h r => .lst (e.seqL h) (RpA.mono e r)
  | _, _, .tup h r => .tup (e.seqT h) (RpA.mono e r)
  | _, _, .dct h r q => .dct (e _ _ h) (RpK.mono e r) q
theorem RpA.mono {K : PySem.W.Frag} {F H : Hp} (e : Le F H) : ∀ {v : List V} {d : List PyData}, RpA K F v d → RpA K H v d
  | _, _, .nil => .nil
  | _, _, .cons h r => .cons (Rp.mono e h) (RpA.mono e r)
theorem RpK.mono {K : PySem.W.Frag} {F H : Hp} (e : Le F H) : ∀ {v : List (Key × V)} {d : List (Key × PyData)}, RpK K F v d → RpK K H v d
  | _, _, .nil => .nil
  | _, _, .cons h r => .cons (Rp.mono e h) (RpK.mono e r)
end
section
variable {K : PySem.W.Frag} {F H : Hp}
theorem RpA.len : ∀ {xs : List V} {ds : List PyData}, RpA K F xs ds → xs.length = ds.length
  | _, _, .nil => rfl
  | _, _, .cons _ r => congrArg (· + 1) (RpA.len r)
theorem RpA.app : ∀ {xs ys : List V} {ds es : List PyData}, RpA K F xs ds → RpA K F ys es → RpA K F (xs ++ ys) (ds ++ es)
  | _, _, _, _, .nil, s => s
  | _, _, _, _, .cons h r, s => .cons h (RpA.app r s)
theorem RpA.get : ∀ {xs : List V} {ds : List PyData} {i : Nat} {d : PyData}, RpA K F xs ds → ds[i]? = some d → ∃ v, xs[i]? = some v ∧ Rp K F v d
  | _, _, _, _, .nil, e => by simp at e
  | _, _, 0, _, .cons h _, e => by simp at e; subst e; exact ⟨_, rfl, h⟩
  | _, _, i + 1, _, .cons _ r, e => by simpa using RpA.get (i := i) r (by simpa using e)
theorem RpA.getV : ∀ {xs : List V} {ds : List PyData} {i : Nat} {v : V}, RpA K F xs ds → xs[i]? = some v → ∃ d, ds[i]? = some d ∧ Rp K F v d
  | _, _, _, _, .nil, e => by simp at e
  | _, _, 0, _, .cons h _, e => by simp at e; subst e; exact ⟨_, rfl, h⟩
  | _, _, i + 1, _, .cons _ r, e => by simpa using RpA.getV (i := i) r (by simpa using e)
theorem RpA.take : ∀ {xs : List V} {ds : List PyData} (n : Nat), RpA K F xs ds → RpA K F (xs.take n) (ds.take n)
  | _, _, 0, _ => by simpa using RpA.nil
  | _, _, _ + 1, .nil => by simpa using RpA.nil
  | _, _, n + 1, .cons h r => by simpa using RpA.cons h (RpA.take n r)
theorem RpA.drop : ∀ {xs : List V} {ds : List PyData} (n : Nat), RpA K F xs ds → RpA K F (xs.drop n) (ds.drop n)
  | _, _, 0, r => by simpa using r
  | _, _, _ + 1, .nil => by simpa using RpA.nil
  | _, _, n + 1, .cons _ r => by simpa using RpA.drop n r
theorem RpA.set {v : V} {d : PyData} (h : Rp K F v d) : ∀ {xs : List V} {ds : List PyData} (i : Nat), RpA K F xs ds → RpA K F (xs.set i v) (ds.set i d)
  | _, _, _, .nil => by simpa using RpA.nil
  | _, _, 0, .cons _ r => by simpa using RpA.cons h r
  | _, _, i + 1, .cons q r => by simpa using RpA.cons q (RpA.set h i r)
theorem RpA.rev : ∀ {xs : List V} {ds : List PyData}, RpA K F xs ds → RpA K F xs.reverse ds.reverse
  | _, _, .nil => .nil
  | _, _, .cons h r => by simpa using RpA.app (RpA.rev r) (.cons h .nil)
theorem RpK.len : ∀ {xs : List (Key × V)} {ds : List (Key × PyData)}, RpK K F xs ds → xs.length = ds.length
  | _, _, .nil => rfl
  | _, _, .cons _ r => congrArg (· + 1) (RpK.len r)
end

/-! ### what a slot holds -/
/-- the kind of an owned thing whose parts may be owned: a list, a dict, an instance -/
inductive Nd where
  | lst
  | dct (ks : List Key)
  | obj (C : Addr) (ns : List Str)
mutual
/-- what may be changed: a list, a dict, an instance (of frozen things); or one whose parts may be owned -/
inductive Mu where
  | lst (ds : List PyData)
  | dct (es : List (Key × PyData))
  | obj (C : Addr) (fs : List (Str × PyData))
  | tre (n : Nd) (its : List Ch)
inductive Ch where
  | fz (d : PyData)
  | mu (m : Mu)
end
/-- frozen data, or something owned here (mu true: by the caller) -/
inductive O where
  | fz (d : PyData)
  | mu (b : Bool) (m : Mu)
abbrev Rho := List (Option O)
def Mu.view : Mu → PyData
  | .lst ds => .list ds
  | .dct es => .dict (es.map fun p => (kD p.1, p.2))
  | .obj _ _ => .none
  | .tre _ _ => .none
/-- an instance is no data -/
def Mu.fr : Mu → Option PyData
  | .lst ds => some (.list ds)
  | .dct es => some (.dict (es.map fun p => (kD p.1, p.2)))
  | .obj _ _ => none
  | .tre _ _ => none
theorem Mu.fr_view {m : Mu} {d : PyData} (h : m.fr = some d) : d = m.view := by
  cases m <;> cases h <;> rfl
def O.view : O → PyData
  | .fz d => d
  | .mu _ m => m.view
def MuR (K : PySem.W.Frag) (F : Hp) (o : HO) : Mu → Prop
  | .lst ds => ∃ xs, o = .lst xs ∧ RpA K F xs ds
  | .dct es => ∃ kvs, o = .dK kvs ∧ RpK K F kvs es
  | .obj _ _ => False
  | .tre _ _ => False
/-- .. or an instance -/
def MuX (K : PySem.W.Frag) (F : Hp) (o : HO) : Mu → Prop
  | .lst ds => ∃ xs, o = .lst xs ∧ RpA K F xs ds
  | .dct es => ∃ kvs, o = .dK kvs ∧ RpK K F kvs es
  | .obj C fs => ∃ dx vs, o = .ins C dx vs ∧ vs.map (·.1) = fs.map (·.1) ∧ RpA K F (vs.map (·.2)) (fs.map (·.2))
  | .tre _ _ => False
def kids : HO → List V
  | .lst xs => xs
  | .dK kvs => kvs.map (·.2)
  | .ins _ _ fs => fs.map (·.2)
  | _ => []
def kidsH (H : Hp) (a : Addr) : List V := match H a with
  | some o => kids o
  | none => []
def NdR (o : HO) (n : Nd) (vs : List V) : Prop := match n with
  | .lst => o = .lst vs
  | .dct ks => ∃ kvs, o = .dK kvs ∧ kvs.map (·.1) = ks ∧ kvs.map (·.2) = vs
  | .obj C ns => ∃ dx fs, o = .ins C dx fs ∧ fs.map (·.1) = ns ∧ fs.map (·.2) = vs
theorem NdR.kids {o : HO} {n : Nd} {vs : List V} (h : NdR o n vs) : Vs.kids o = vs := by
  cases n with
  | lst => cases h; rfl
  | dct ks => obtain ⟨kvs, rfl, _, rfl⟩ := h; rfl
  | obj C ns => obtain ⟨dx, fs, rfl, _, rfl⟩ := h; rfl
mutual
/-- the addresses of what is owned -/
def foot (H : Hp) : Mu → V → List Addr
  | .tre _ its, .ref a => a :: footA H its (kidsH H a)
  | .lst _, .ref a => [a]
  | .dct _, .ref a => [a]
  | .obj _ _, .ref a => [a]
  | _, _ => []
def footA (H : Hp) : List Ch → List V → List Addr
  | .mu m :: its, v :: vs => foot H m v ++ footA H its vs
  | .fz _ :: its, _ :: vs => footA H its vs
  | _, _ => []
end
mutual
def MuT (K : PySem.W.Frag) (F H : Hp) : Mu → Addr → HO → Prop
  | .lst ds, _, o => ∃ xs, o = .lst xs ∧ RpA K F xs ds
  | .dct es, _, o => ∃ kvs, o = .dK kvs ∧ RpK K F kvs es
  | .obj C fs, _, o => ∃ dx vs, o = .ins C dx vs ∧ vs.map (·.1) = fs.map (·.1) ∧ RpA K F (vs.map (·.2)) (fs.map (·.2))
  | .tre n its, a, o => ∃ vs, NdR o n vs ∧ a ∉ footA H its vs ∧ ChX K F H its vs
def ChX (K : PySem.W.Frag) (F H : Hp) : List Ch → List V → Prop
  | [], [] => True
  | .fz d :: its, v :: vs => Rp K F v d ∧ ChX K F H its vs
  | .mu m :: its, v :: vs => (∃ a o, v = .ref a ∧ H a = some o ∧ F a = none ∧ MuT K F H m a o) ∧ (∀ c ∈ foot H m v, c ∉ footA H its vs) ∧ ChX K F H its vs
  | _, _ => False
end
def SlotR (K : PySem.W.Frag) (F H : Hp) (v : V) : O → Prop
  | .fz d => Rp K F v d
  | .mu _ m => ∃ a o, v = .ref a ∧ H a = some o ∧ F a = none ∧ MuR K F o m
/-- what a slot holds: data, something owned -/
def SlotX (K : PySem.W.Frag) (F H : Hp) (v : V) : O → Prop
  | .fz d => Rp K F v d
  | .mu _ m => ∃ a o, v = .ref a ∧ H a = some o ∧ F a = none ∧ MuT K F H m a o
theorem MuR.x {K : PySem.W.Frag} {F : Hp} {o : HO} {m : Mu} (h : MuR K F o m) : MuX K F o m := by
  cases m with
  | lst ds => exact h
  | dct es => exact h
  | obj C fs => exact h.elim
  | tre n its => exact h.elim
theorem MuX.r {K : PySem.W.Frag} {F : Hp} {o : HO} {m : Mu} {d : PyData} (h : MuX K F o m) (e : m.fr = some d) : MuR K F o m := by
  cases m with
  | lst ds => exact h
  | dct es => exact h
  | obj C fs => cases e
  | tre n its => cases e
theorem MuX.t {K : PySem.W.Frag} {F H : Hp} {a : Addr} {o : HO} {m : Mu} (h : MuX K F o m) : MuT K F H m a o := by
  cases m with
  | lst ds => exact h
  | dct es => exact h
  | obj C fs => exact h
  | tre n its => exact h.elim
def Mu.leaf : Mu → Bool
  | .tre _ _ => false
  | _ => true
theorem MuT.x {K : PySem.W.Frag} {F H : Hp} {a : Addr} {o : HO} {m : Mu} (h : MuT K F H m a o) (l : m.leaf = true) : MuX K F o m := by
  cases m with
  | lst ds => exact h
  | dct es => exact h
  | obj C fs => exact h
  | tre n its => cases l
theorem MuX.leaf {K : PySem.W.Frag} {F : Hp} {o : HO} {m : Mu} (h : MuX K F o m) : m.leaf = true := by
  cases m with
  | tre n its => exact h.elim
  | _ => rfl
theorem MuT.fr {K : PySem.W.Frag} {F H : Hp} {a : Addr} {o : HO} {m : Mu} {d : PyData} (h : MuT K F H m a o) (e : m.fr = some d) : MuR K F o m := by
  cases m with
  | lst ds => exact h
  | dct es => exact h
  | obj C fs => cases e
  | tre n its => cases e
theorem foot_leaf {H : Hp} {m : Mu} {a : Addr} (l : m.leaf = true) : foot H m (.ref a) = [a] := by
  cases m with
  | tre n its => cases l
  | _ => rfl
theorem foot_root {H : Hp} {m : Mu} {a : Addr} : a ∈ foot H m (.ref a) := by
  cases m <;> simp [foot]
theorem foot_ref {H : Hp} {m : Mu} {v : V} {c : Addr} (h : c ∈ foot H m v) : ∃ a, v = .ref a := by
  cases v with
  | ref a => exact ⟨a, rfl⟩
  | _ => cases m <;> simp [foot] at h
theorem kidsH_of {H : Hp} {a : Addr} {o : HO} {n : Nd} {vs : List V} (h : H a = some o) (r : NdR o n vs) : kidsH H a = vs := by
  unfold kidsH
  rw [h]
  exact r.kids
theorem foot_tre {H : Hp} {a : Addr} {o : HO} {n : Nd} {its : List Ch} {vs : List V} (h : H a = some o) (r : NdR o n vs) : foot H (.tre n its) (.ref a) = a :: footA H its vs := by
  show a :: footA H its (kidsH H a) = _
  rw [kidsH_of h r]
theorem SlotR.x {K : PySem.W.Frag} {F H : Hp} {v : V} {o : O} (h : SlotR K F H v o) : SlotX K F H v o := by
  cases o with
  | fz d => exact h
  | mu b m => obtain ⟨a, u, rfl, hu, hf, r⟩ := h; exact ⟨a, u, rfl, hu, hf, r.x.t⟩
mutual
theorem MuT.at_ {K : PySem.W.Frag} {F H : Hp} : ∀ (m : Mu) (a : Addr) (o : HO), MuT K F H m a o → H a = some o → F a = none → ∀ c ∈ foot H m (.ref a), (∃ u, H c = some u) ∧ F c = none
  | .lst _, a, o, _, h, f, c, hc => by
    rw [foot_leaf rfl] at hc
    rw [List.mem_singleton.mp hc]; exact ⟨⟨o, h⟩, f⟩
  | .dct _, a, o, _, h, f, c, hc => by
    rw [foot_leaf rfl] at hc
    rw [List.mem_singleton.mp hc]; exact ⟨⟨o, h⟩, f⟩
  | .obj _ _, a, o, _, h, f, c, hc => by
    rw [foot_leaf rfl] at hc
    rw [List.mem_singleton.mp hc]; exact ⟨⟨o, h⟩, f⟩
  | .tre n its, a, o, r, h, f, c, hc => by
    obtain ⟨vs, r1, r2, r3⟩ := r
    rw [foot_tre h r1] at hc
    rcases List.mem_cons.mp hc with e | hc
    · rw [e]; exact ⟨⟨o, h⟩, f⟩
    · exact ChX.at_ its vs r3 c hc
theorem ChX.at_ {K : PySem.W.Frag} {F H : Hp} : ∀ (its : List Ch) (vs : List V), ChX K F H its vs → ∀ c ∈ footA H its vs, (∃ u, H c = some u) ∧ F c = none
  | [], vs, _, c, hc => by cases vs <;> simp [footA] at hc
  | .fz d :: its, [], r, c, hc => by simp [footA] at hc
  | .fz d :: its, v :: vs, r, c, hc => by
    simp only [ChX] at r
    exact ChX.at_ its vs r.2 c (by simpa [footA] using hc)
  | .mu m :: its, [], r, c, hc => by simp [footA] at hc
  | .mu m :: its, v :: vs, r, c, hc => by
    simp only [ChX] at r
    obtain ⟨⟨a, o, e, h, f, r1⟩, _, r3⟩ := r
    subst e
    simp only [footA, List.mem_append] at hc
    rcases hc with hc | hc
    · exact MuT.at_ m a o r1 h f c hc
    · exact ChX.at_ its vs r3 c hc
end
theorem MuX.mono {K : PySem.W.Frag} {F F' : Hp} (e : Le F F') {o : HO} {m : Mu} (h : MuX K F o m) : MuX K F' o m := by
  cases m with
  | lst ds => obtain ⟨xs, rfl, r⟩ := h; exact ⟨xs, rfl, r.mono e⟩
  | dct es => obtain ⟨kvs, rfl, r⟩ := h; exact ⟨kvs, rfl, r.mono e⟩
  | obj C fs => obtain ⟨dx, vs, rfl, h1, r⟩ := h; exact ⟨dx, vs, rfl, h1, r.mono e⟩
  | tre n its => exact h.elim
mutual
/-- what is owned stays while its addresses stay as they are -/
theorem MuT.stay {K : PySem.W.Frag} {F F' H H' : Hp} (le : Le F F') : ∀ (m : Mu) (a : Addr) (o : HO), MuT K F H m a o → H a = some o → (∀ c ∈ foot H m (.ref a), H' c = H c ∧ F' c = none) → MuT K F' H' m a o ∧ foot H' m (.ref a) = foot H m (.ref a)
  | .lst _, a, o, r, h, s => ⟨MuX.t (MuX.mono le (m := .lst _) r), rfl⟩
  | .dct _, a, o, r, h, s => ⟨MuX.t (MuX.mono le (m := .dct _) r), rfl⟩
  | .obj _ _, a, o, r, h, s => ⟨MuX.t (MuX.mono le (m := .obj _ _) r), rfl⟩
  | .tre n its, a, o, r, h, s => by
    obtain ⟨vs, r1, r2, r3⟩ := r
    rw [foot_tre h r1] at s
    have h' : H' a = some o := (s a List.mem_cons_self).1.trans h
    obtain ⟨q1, q2⟩ := ChX.stay le its vs r3 fun c hc => s c (List.mem_cons_of_mem _ hc)
    refine ⟨⟨vs, r1, by rw [q2]; exact r2, q1⟩, ?_⟩
    rw [foot_tre h r1, foot_tre h' r1, q2]
theorem ChX.stay {K : PySem.W.Frag} {F F' H H' : Hp} (le : Le F F') : ∀ (its : List Ch) (vs : List V), ChX K F H its vs → (∀ c ∈ footA H its vs, H' c = H c ∧ F' c = none) → ChX K F' H' its vs ∧ footA H' its vs = footA H its vs
  | [], [], r, _ => ⟨by simp only [ChX], by simp only [footA]⟩
  | [], _ :: _, r, _ => by simp only [ChX] at r
  | .fz d :: its, [], r, _ => by simp only [ChX] at r
  | .fz d :: its, v :: vs, r, s => by
    simp only [ChX] at r
    simp only [footA] at s
    obtain ⟨q1, q2⟩ := ChX.stay le its vs r.2 s
    exact ⟨by simp only [ChX]; exact ⟨Rp.mono le r.1, q1⟩, by simp only [footA]; exact q2⟩
  | .mu m :: its, [], r, _ => by simp only [ChX] at r
  | .mu m :: its, v :: vs, r, s => by
    simp only [ChX] at r
    obtain ⟨⟨a, o, e, h, f, r1⟩, r2, r3⟩ := r
    subst e
    simp only [footA, List.mem_append] at s
    obtain ⟨p1, p2⟩ := MuT.stay le m a o r1 h fun c hc => s c (.inl hc)
    obtain ⟨q1, q2⟩ := ChX.stay le its vs r3 fun c hc => s c (.inr hc)
    have sa := s a (.inl foot_root)
    exact ⟨by simp only [ChX]; exact ⟨⟨a, o, rfl, sa.1.trans h, sa.2, p1⟩, by rw [p2, q2]; exact r2, q1⟩, by simp only [footA]; rw [p2, q2]⟩
end
/-- a slot's addresses -/
theorem SlotX.at_ {K : PySem.W.Frag} {F H : Hp} {v : V} {b : Bool} {m : Mu} (h : SlotX K F H v (.mu b m)) {c : Addr} (hc : c ∈ foot H m v) : (∃ u, H c = some u) ∧ F c = none := by
  obtain ⟨a, o, rfl, ho, hf, r⟩ := h
  exact MuT.at_ m a o r ho hf c hc
theorem SlotX.stay {K : PySem.W.Frag} {F F' H H' : Hp} {v : V} {b b' : Bool} {m : Mu} (h : SlotX K F H v (.mu b m)) (le : Le F F') (s : ∀ c ∈ foot H m v, H' c = H c ∧ F' c = none) : SlotX K F' H' v (.mu b' m) ∧ foot H' m v = foot H m v := by
  obtain ⟨a, o, rfl, ho, hf, r⟩ := h
  obtain ⟨q1, q2⟩ := MuT.stay le m a o r ho s
  have sa := s a foot_root
  exact ⟨⟨a, o, rfl, sa.1.trans ho, sa.2, q1⟩, q2⟩
theorem MuR.mono {K : PySem.W.Frag} {F F' : Hp} (e : Le F F') {o : HO} {m : Mu} (h : MuR K F o m) : MuR K F' o m := by
  cases m with
  | lst ds => obtain ⟨xs, rfl, r⟩ := h; exact ⟨xs, rfl, r.mono e⟩
  | dct es => obtain ⟨kvs, rfl, r⟩ := h; exact ⟨kvs, rfl, r.mono e⟩
  | obj C fs => exact h.elim
  | tre n its => exact h.elim
theorem MuR.view {K : PySem.W.Frag} {F H : Hp} {a : Addr} {o : HO} {m : Mu} (h : MuR K F o m) (ho : H a = some o) (e : Le F H) : Rp K H (.ref a) m.view := by
  cases m with
  | lst ds => obtain ⟨xs, rfl, r⟩ := h; exact .lst (.of ho) (r.mono e)
  | dct es => obtain ⟨kvs, rfl, r⟩ := h; exact .dct (.of ho) (r.mono e) rfl
  | obj C fs => exact h.elim
  | tre n its => exact h.elim
theorem SlotR.view {K : PySem.W.Frag} {F H : Hp} {v : V} {o : O} (h : SlotR K F H v o) (e : Le F H) : Rp K H v o.view := by
  cases o with
  | fz d => exact Rp.mono e h
  | mu b m => obtain ⟨a, u, rfl, hu, _, r⟩ := h; exact r.view hu e

structure Hd (K : PySem.W.Frag) (σ : St) (ρ : Rho) (F H : Hp) : Prop where
  le : Le F H
  len : σ.length = ρ.length
  at_ : ∀ (i : Nat) (o : O), ρ[i]? = some (some o) → ∃ v, σ[i]? = some (some v) ∧ SlotX K F H v o
  sep : ∀ (i j : Nat) (b : Bool) (m : Mu) (b' : Bool) (m' : Mu) (v v' : V) (c : Addr), ρ[i]? = some (some (.mu b m)) → ρ[j]? = some (some (.mu b' m')) → σ[i]? = some (some v) → σ[j]? = some (some v') → c ∈ foot H m v → c ∈ foot H m' v' → i = j
def Own (σ : St) (ρ : Rho) (H : Hp) (a : Addr) : Prop := ∃ (i : Nat) (b : Bool) (m : Mu) (v : V), ρ[i]? = some (some (.mu b m)) ∧ σ[i]? = some (some v) ∧ a ∈ foot H m v
structure Sta where
  σ : St
  ρ : Rho
  F : Hp
  H : Hp
structure Post (K : PySem.W.Frag) (S : Sta) (σ : St) (ρ : Rho) (F H : Hp) : Prop where
  hd : Hd K σ ρ F H
  le : Le S.F F
  keep : ∀ b o, S.H b = some o → ¬ Own S.σ S.ρ S.H b → H b = some o
  nofz : ∀ b o, S.H b = some o → ¬ Own S.σ S.ρ S.H b → S.F b = none → F b = none
  own : ∀ b, Own σ ρ H b → Own S.σ S.ρ S.H b ∨ S.H b = none
  bor : ∀ (i : Nat) (m : Mu), S.ρ[i]? = some (some (.mu true m)) → σ[i]? = S.σ[i]? ∧ ∃ m', ρ[i]? = some (some (.mu true m'))
/-- owned at the start, or made behind it -/
def New (S : Sta) (a : Addr) : Prop := Own S.σ S.ρ S.H a ∨ S.H a = none
theorem Post.refl {K : PySem.W.Frag} {σ : St} {ρ : Rho} {F H : Hp} (h : Hd K σ ρ F H) : Post K ⟨σ, ρ, F, H⟩ σ ρ F H :=
  ⟨h, Le.refl _, fun _ _ e _ => e, fun _ _ _ _ e => e, fun _ h => .inl h, fun i m e => ⟨rfl, m, e⟩⟩
theorem Post.new {K : PySem.W.Frag} {S : Sta} {σ : St} {ρ : Rho} {F H : Hp} (p : Post K S σ ρ F H) {a : Addr} (h : New ⟨σ, ρ, F, H⟩ a) : New S a := by
  rcases h with h | h
  · exact p.own a h
  · by_cases q : Own S.σ S.ρ S.H a
    · exact .inl q
    · cases e : S.H a with
      | none => exact .inr e
      | some o =>
        have := p.keep a o e q
        rw [show H a = none from h] at this
        cases this
theorem Post.not {K : PySem.W.Frag} {S : Sta} {σ : St} {ρ : Rho} {F H : Hp} (p : Post K S σ ρ F H) {a : Addr} {o : HO} (h : S.H a = some o) (n : ¬ Own S.σ S.ρ S.H a) : ¬ Own σ ρ H a := fun q => by
  rcases p.own a q with z | z
  · exact n z
  · rw [h] at z; cases z
theorem Post.trans {K : PySem.W.Frag} {S : Sta} {σ1 σ2 : St} {ρ1 ρ2 : Rho} {F1 F2 H1 H2 : Hp} (p : Post K S σ1 ρ1 F1 H1) (q : Post K ⟨σ1, ρ1, F1, H1⟩ σ2 ρ2 F2 H2) : Post K S σ2 ρ2 F2 H2 where
  hd := q.hd
  le := p.le.trans q.le
  keep := fun b o e n => q.keep b o (p.keep b o e n) (p.not e n)
  nofz := fun b o e n f => q.nofz b o (p.keep b o e n) (p.not e n) (p.nofz b o e n f)
  own := fun b h => p.new (q.own b h)
  bor := fun i m e => by
    obtain ⟨e1, m1, r1⟩ := p.bor i m e
    obtain ⟨e2, m2, r2⟩ := q.bor i m1 r1
    exact ⟨e2.trans e1, m2, r2⟩

/-! ### references, outcomes, runs -/
inductive Rf where
  | s (i : Nat)
  | o (o : O)
def RfR (K : PySem.W.Frag) (S : Sta) (σ : St) (ρ : Rho) (F H : Hp) (v : V) : Rf → Prop
  | .s i => σ[i]? = some (some v)
  | .o (.fz d) => Rp K F v d
  | .o (.mu b m) => b = false ∧ SlotX K F H v (.mu b m) ∧ ∀ c ∈ foot H m v, New S c ∧ ¬ Own σ ρ H c
def DR (K : PySem.W.Frag) (_ : Sta) (_ : St) (_ : Rho) (F _ : Hp) (v : V) (d : PyData) : Prop := Rp K F v d
def BR (_ : PySem.W.Frag) (_ : Sta) (_ : St) (_ : Rho) (_ _ : Hp) (v : Bool) (d : Bool) : Prop := v = d
def AR (K : PySem.W.Frag) (_ : Sta) (_ : St) (_ : Rho) (F _ : Hp) (v : List V) (d : List PyData) : Prop := RpA K F v d
/-- what a reading may lean on -/
structure RelOk (K : PySem.W.Frag) {β α : Type} (R : Sta → St → Rho → Hp → Hp → β → α → Prop) : Prop where
  up : ∀ {S : Sta} {σ : St} {ρ ρ' : Rho} {F F' H H' : Hp} {v : β} {x : α}, Post K S σ ρ F H → R ⟨σ, ρ, F, H⟩ σ ρ' F' H' v x → R S σ ρ' F' H' v x
theorem rfOk {K : PySem.W.Frag} : RelOk K (RfR K) := ⟨fun {S σ ρ ρ' F F' H H' v x} p h => by
  cases x with
  | s i => exact h
  | o o =>
    cases o with
    | fz d => exact h
    | mu b m => exact ⟨h.1, h.2.1, fun a e => ⟨p.new (h.2.2 a e).1, (h.2.2 a e).2⟩⟩⟩
theorem dOk {K : PySem.W.Frag} : RelOk K (DR K) := ⟨fun _ h => h⟩
theorem bOk {K : PySem.W.Frag} : RelOk K (BR K) := ⟨fun _ h => h⟩
theorem aOk {K : PySem.W.Frag} : RelOk K (AR K) := ⟨fun _ h => h⟩
theorem RfR.stay {K : PySem.W.Frag} {S : Sta} {σ : St} {ρ ρ' : Rho} {F F' H H' : Hp} {v : V} {x : Rf} (h : RfR K S σ ρ F H v x) (p : Post K ⟨σ, ρ, F, H⟩ σ ρ' F' H') : RfR K S σ ρ' F' H' v x := by
  cases x with
  | s i => exact h
  | o o =>
    cases o with
    | fz d => exact Rp.mono p.le h
    | mu b m =>
      obtain ⟨e, sl, n⟩ := h
      have key : ∀ c ∈ foot H m v, H' c = H c ∧ F' c = none := fun c hc => by
        obtain ⟨⟨u, hu⟩, hf⟩ := sl.at_ hc
        exact ⟨(p.keep c u hu (n c hc).2).trans hu.symm, p.nofz c u hu (n c hc).2 hf⟩
      obtain ⟨s1, s2⟩ := sl.stay p.le key
      refine ⟨e, s1, fun c hc => ?_⟩
      rw [s2] at hc
      obtain ⟨⟨u, hu⟩, _⟩ := sl.at_ hc
      exact ⟨(n c hc).1, p.not hu (n c hc).2⟩

/-- an error: its class, its attributes (none: it has no dict of its own) -/
structure Er where
  c : Addr
  fs : Option (List (Str × PyData)) := none
instance : Coe Addr Er := ⟨fun c => ⟨c, none⟩⟩
/-- the error's dict -/
def ErD (K : PySem.W.Frag) (F H : Hp) (fs : Option (List (Str × PyData))) (d : Option Addr) : Prop := match fs with
  | none => d = none
  | some l => ∃ dd vs, d = some dd ∧ H dd = some (.xd vs) ∧ vs.map (·.1) = l.map (·.1) ∧ RpA K F (vs.map (·.2)) (l.map (·.2))
inductive Out (α : Type) where
  | ok (x : α) (ρ : Rho)
  | ex (c : Er) (ρ : Rho)
abbrev M (α : Type) := Rho → Option (Out α)
def M.ret {α : Type} (x : α) : M α := fun ρ => some (.ok x ρ)
def M.bind {α β : Type} (f : M α) (k : α → M β) : M β := fun ρ => match f ρ with
  | none => none
  | some (.ok x ρ') => k x ρ'
  | some (.ex c ρ') => some (.ex c ρ')
def Fin {α β : Type} (K : PySem.W.Frag) (W : WX) (R : Sta → St → Rho → Hp → Hp → β → α → Prop) (S : Sta) (Q : β → Hp → Prop) : Out α → Prop
  | .ok x ρ' => ∀ v F' H', Post K S S.σ ρ' F' H' → R S S.σ ρ' F' H' v x → Q v H'
  | .ex c ρ' => ∀ d F' H', Post K S S.σ ρ' F' H' → ErD K F' H' c.fs d → W (.ref c.c) d S.σ H'
structure Run {α β : Type} (K : PySem.W.Frag) (W : WX) (R : Sta → St → Rho → Hp → Hp → β → α → Prop) (S : Sta) (f : M α) (ρ : Rho) (F H : Hp) (Q : β → Hp → Prop) : Prop where
  post : Post K S S.σ ρ F H
  out : ∃ o, f ρ = some o ∧ Fin K W R S Q o
/-- the reading of f -/
def tG {α β : Type} (K : PySem.W.Frag) (W : WX) (R : Sta → St → Rho → Hp → Hp → β → α → Prop) (f : M α) : St → Hp → (β → Hp → Prop) → Prop :=
  fun σ H Q => ∃ ρ F, Run K W R ⟨σ, ρ, F, H⟩ f ρ F H Q
section
variable {α β γ δ : Type} {K : PySem.W.Frag} {W : WX} {R : Sta → St → Rho → Hp → Hp → β → α → Prop} {R2 : Sta → St → Rho → Hp → Hp → δ → γ → Prop} {S : Sta} {f : M α} {k : α → M γ} {ρ : Rho} {F H : Hp} {Q Q' : β → Hp → Prop} {Q2 : δ → Hp → Prop}
theorem Run.mono (r : Run K W R S f ρ F H Q) (h : ∀ v H, Q v H → Q' v H) : Run K W R S f ρ F H Q' := by
  obtain ⟨p, o, e, q⟩ := r
  refine ⟨p, o, e, ?_⟩
  cases o with
  | ok x ρ' => exact fun v F' H' a b => h _ _ (q v F' H' a b)
  | ex c ρ' => exact q
theorem Run.bind (r : Run K W R2 S (f.bind k) ρ F H Q2) : Run K W R ⟨S.σ, ρ, F, H⟩ f ρ F H (fun v H1 => ∃ x ρ1 F1, R ⟨S.σ, ρ, F, H⟩ S.σ ρ1 F1 H1 v x ∧ Post K ⟨S.σ, ρ, F, H⟩ S.σ ρ1 F1 H1 ∧ Run K W R2 S (k x) ρ1 F1 H1 Q2) := by
  obtain ⟨p, o, e, q⟩ := r
  refine ⟨Post.refl p.hd, ?_⟩
  cases ef : f ρ with
  | none => simp only [M.bind, ef] at e; cases e
  | some o1 =>
    refine ⟨o1, rfl, ?_⟩
    cases o1 with
    | ok x ρ1 =>
      simp only [M.bind, ef] at e
      exact fun v F1 H1 a b => ⟨x, ρ1, F1, b, a, p.trans a, o, e, q⟩
    | ex c ρ1 =>
      simp only [M.bind, ef] at e
      cases e
      exact fun d F1 H1 a => q d F1 H1 (p.trans a)
end
end Vs

/-! Vs, expressions. -/
namespace Vs
open PySem PySem.Spec L2

theorem slen : (sizeLine : Nat) = 16777216 := sizeLine_eq
/-! ### changes of the state -/
section
variable {K : PySem.W.Frag} {S : Sta} {σ : L2.St} {ρ : Rho} {F H : Hp}
theorem Post.gone (p : Post K S σ ρ F H) {a : Addr} (h : H a = none) : F a = none := by
  cases e : F a with
  | none => rfl
  | some o =>
    rcases p.hd.le a o (.inl e) with z | ⟨_, z⟩ <;> rw [h] at z <;> cases z
theorem Hd.notOwn (p : Hd K σ ρ F H) {a : Addr} (h : H a = none) : ¬ Own σ ρ H a := fun ⟨i, b, m, v, e, q, hc⟩ => by
  obtain ⟨v', e2, sl⟩ := p.at_ i _ e
  rw [q] at e2; cases e2
  obtain ⟨⟨u, hu⟩, _⟩ := sl.at_ hc
  rw [h] at hu; cases hu
/-- a slot's value -/
theorem Hd.slot (p : Hd K σ ρ F H) {i : Nat} {o : O} {v : V} (e : ρ[i]? = some (some o)) (s : σ[i]? = some (some v)) : SlotX K F H v o := by
  obtain ⟨v', e2, sl⟩ := p.at_ i o e
  rw [s] at e2; cases e2
  exact sl
/-- the heap is changed off what is owned, data may be more: the slots stay -/
theorem Hd.move (p : Hd K σ ρ F H) {F' H' : Hp} (le : Le F F') (le' : Le F' H') (k : ∀ c, Own σ ρ H c → H' c = H c ∧ F' c = none) : Hd K σ ρ F' H' ∧ ∀ c, Own σ ρ H' c → Own σ ρ H c := by
  have fs : ∀ (i : Nat) (b : Bool) (m : Mu) (v : V), ρ[i]? = some (some (.mu b m)) → σ[i]? = some (some v) → SlotX K F' H' v (.mu b m) ∧ foot H' m v = foot H m v := fun i b m v e s =>
    (p.slot e s).stay le fun c hc => k c ⟨i, b, m, v, e, s, hc⟩
  refine ⟨⟨le', p.len, fun i o e => ?_, fun i j b m b' m' v v' c e1 e2 s1 s2 h1 h2 => ?_⟩, fun c ⟨i, b, m, v, e, s, hc⟩ => ?_⟩
  · obtain ⟨v, e1, r⟩ := p.at_ i o e
    refine ⟨v, e1, ?_⟩
    cases o with
    | fz d => exact Rp.mono le r
    | mu b m => exact (fs i b m v e e1).1
  · rw [(fs i b m v e1 s1).2] at h1
    rw [(fs j b' m' v' e2 s2).2] at h2
    exact p.sep i j b m b' m' v v' c e1 e2 s1 s2 h1 h2
  · rw [(fs i b m v e s).2] at hc
    exact ⟨i, b, m, v, e, s, hc⟩
theorem Hd.ownAt (p : Hd K σ ρ F H) {c : Addr} (h : Own σ ρ H c) : (∃ u, H c = some u) ∧ F c = none := by
  obtain ⟨i, b, m, v, e, s, hc⟩ := h
  exact (p.slot e s).at_ hc
theorem Le.updH {a : Addr} {o : HO} (e : Le F H) (h : F a = none) : Le F (upd H a o) := fun c u r => by
  have hc : c ≠ a := by
    rintro rfl
    rcases r with r | ⟨_, r⟩ <;> rw [h] at r <;> cases r
  rcases e c u r with z | ⟨x, z⟩
  · exact .inl (by rw [upd_ne hc]; exact z)
  · exact .inr ⟨x, by rw [upd_ne hc]; exact z⟩
theorem Le.updB {a : Addr} {o : HO} (e : Le F H) (h : F a = none) : Le (upd F a o) (upd H a o) := fun c u r => by
  by_cases hc : c = a
  · subst hc
    rcases r with z | ⟨x, z⟩ <;> rw [upd_same] at z
    · exact .inl (by rw [upd_same]; exact z)
    · exact .inr ⟨x, by rw [upd_same]; exact z⟩
  · have : Rd F c u := by
      rcases r with z | ⟨x, z⟩ <;> rw [upd_ne hc] at z
      · exact .inl z
      · exact .inr ⟨x, z⟩
    rcases e c u this with z | ⟨x, z⟩
    · exact .inl (by rw [upd_ne hc]; exact z)
    · exact .inr ⟨x, by rw [upd_ne hc]; exact z⟩
/-- a new object is laid (owned by nobody yet) -/
theorem Post.newO (p : Post K S σ ρ F H) {a : Addr} {o : HO} (n : H a = none) : Post K S σ ρ F (upd H a o) := by
  obtain ⟨h1, h2⟩ := p.hd.move (Le.refl F) (p.hd.le.updH (o := o) (p.gone n)) fun c hc => by
    obtain ⟨⟨u, hu⟩, hf⟩ := p.hd.ownAt hc
    exact ⟨upd_ne (ne_of_none hu n), hf⟩
  exact ⟨h1, p.le, fun b u e q => by
    have z := p.keep b u e q
    rw [upd_ne (ne_of_none z n)]; exact z, p.nofz, fun b q => p.own b (h2 b q), p.bor⟩
/-- a new object is laid, frozen -/
theorem Post.newF (p : Post K S σ ρ F H) {a : Addr} {o : HO} (n : H a = none) : Post K S σ ρ (upd F a o) (upd H a o) := by
  obtain ⟨h1, h2⟩ := p.hd.move (Le.ofNew (p.gone n)) (p.hd.le.updB (o := o) (p.gone n)) fun c hc => by
    obtain ⟨⟨u, hu⟩, hf⟩ := p.hd.ownAt hc
    have hc := ne_of_none hu n
    exact ⟨upd_ne hc, by rw [upd_ne hc]; exact hf⟩
  exact ⟨h1, p.le.trans (Le.ofNew (p.gone n)), fun b u e q => by
    have z := p.keep b u e q
    rw [upd_ne (ne_of_none z n)]; exact z, fun b u e q f => by
    have z := p.keep b u e q
    rw [upd_ne (ne_of_none z n)]
    exact p.nofz b u e q f, fun b q => p.own b (h2 b q), p.bor⟩
theorem Mu.noFrz {o : HO} {m : Mu} (r : MuR K F o m) {ob : Obj} {u : HO} : o ≠ .frz ob u := by
  cases m with
  | lst ds => obtain ⟨xs, rfl, _⟩ := r; exact fun h => by cases h
  | dct es => obtain ⟨xs, rfl, _⟩ := r; exact fun h => by cases h
  | obj C fs => exact r.elim
  | tre n its => exact r.elim
theorem Le.frz {a : Addr} {o : HO} (e : Le F H) (ho : H a = some o) (hf : ∀ ob u, o ≠ .frz ob u) : Le (upd F a o) H := fun c u r => by
  by_cases hc : c = a
  · subst hc
    rcases r with z | ⟨x, z⟩ <;> rw [upd_same] at z
    · cases z; exact .inl ho
    · cases z; exact absurd rfl (hf _ _)
  · refine e c u ?_
    rcases r with z | ⟨x, z⟩ <;> rw [upd_ne hc] at z
    · exact .inl z
    · exact .inr ⟨x, z⟩
/-- an owned temporary is frozen -/
theorem Post.frzT (p : Post K S σ ρ F H) {a : Addr} {o : HO} {m : Mu} (ho : H a = some o) (hf : F a = none) (r : MuR K F o m) (nw : New S a) (no : ¬ Own σ ρ H a) :
    Post K S σ ρ (upd F a o) H ∧ Rp K (upd F a o) (.ref a) m.view := by
  obtain ⟨h1, h2⟩ := p.hd.move (Le.ofNew hf) (p.hd.le.frz ho fun _ _ => Mu.noFrz r) fun c hc => by
    have ne : c ≠ a := by rintro rfl; exact no hc
    exact ⟨rfl, by rw [upd_ne ne]; exact (p.hd.ownAt hc).2⟩
  refine ⟨⟨h1, p.le.trans (Le.ofNew hf), p.keep, fun b u e q f => ?_, fun b q => p.own b (h2 b q), p.bor⟩, (r.mono (Le.ofNew hf)).view upd_same (Le.refl _)⟩
  have hb : b ≠ a := by
    rintro rfl
    rcases nw with z | z
    · exact q z
    · rw [e] at z; cases z
  rw [upd_ne hb]
  exact p.nofz b u e q f
theorem get_set {ρ : Rho} {i j : Nat} {x : Option O} {y : O} (h : (ρ.set i x)[j]? = some (some y)) : (j = i ∧ x = some y) ∨ (j ≠ i ∧ ρ[j]? = some (some y)) := by
  by_cases e : j = i
  · subst e
    by_cases hl : j < ρ.length
    · rw [List.getElem?_set_self hl] at h
      exact .inl ⟨rfl, Option.some.inj h⟩
    · rw [List.getElem?_eq_none (by simpa using hl)] at h; cases h
  · rw [List.getElem?_set_ne (Ne.symm e)] at h
    exact .inr ⟨e, h⟩
theorem set_ne {ρ : Rho} {i j : Nat} {x : Option O} (h : j ≠ i) : (ρ.set i x)[j]? = ρ[j]? := List.getElem?_set_ne (Ne.symm h)
/-- a new object's address is owned by no slot -/
theorem Hd.notOwnNew (p : Hd K σ ρ F H) {a : Addr} {o : HO} (n : H a = none) : ¬ Own σ ρ (upd H a o) a := fun q => by
  obtain ⟨_, h2⟩ := p.move (Le.refl F) (p.le.updH (o := o) (show F a = none by
    cases e : F a with
    | none => rfl
    | some o =>
      rcases p.le a o (.inl e) with z | ⟨_, z⟩ <;> rw [n] at z <;> cases z)) fun c hc => by
    obtain ⟨⟨u, hu⟩, hf⟩ := p.ownAt hc
    exact ⟨upd_ne (ne_of_none hu n), hf⟩
  exact p.notOwn n (h2 a q)
/-- what no slot owns is changed -/
theorem Hd.offUpd (p : Hd K σ ρ F H) {a : Addr} {o : HO} (hf : F a = none) (no : ¬ Own σ ρ H a) : Hd K σ ρ F (upd H a o) ∧ ∀ c, Own σ ρ (upd H a o) c → Own σ ρ H c :=
  p.move (Le.refl F) (p.le.updH hf) fun c hc => ⟨upd_ne (by rintro rfl; exact no hc), (p.ownAt hc).2⟩
/-- all that stood is kept -/
theorem Hd.kept (p : Hd K σ ρ F H) {F' H' : Hp} (le : Le F F') (le' : Le F' H') (kp : ∀ b o, H b = some o → H' b = some o ∧ (F b = none → F' b = none)) : ∀ c, Own σ ρ H' c → Own σ ρ H c :=
  (p.move le le' fun c hc => by
    obtain ⟨⟨u, hu⟩, hf⟩ := p.ownAt hc
    obtain ⟨k1, k2⟩ := kp c u hu
    exact ⟨k1.trans hu.symm, k2 hf⟩).2
theorem MuR.leaf {o : HO} {m : Mu} (r : MuR K F o m) : m.leaf = true := r.x.leaf
/-- an owned slot is frozen -/
theorem Post.frzS (p : Post K S σ ρ F H) {i : Nat} {m : Mu} {a : Addr} {o : HO} (hi : ρ[i]? = some (some (.mu false m))) (hσ : σ[i]? = some (some (.ref a))) (ho : H a = some o) (hf : F a = none) (r : MuR K F o m) :
    Post K S σ (ρ.set i (some (.fz m.view))) (upd F a o) H ∧ Rp K (upd F a o) (.ref a) m.view := by
  have rr : Rp K (upd F a o) (.ref a) m.view := (r.mono (Le.ofNew hf)).view upd_same (Le.refl _)
  have other : ∀ {j : Nat} {b : Bool} {m' : Mu} {v : V} {c : Addr}, j ≠ i → ρ[j]? = some (some (.mu b m')) → σ[j]? = some (some v) → c ∈ foot H m' v → c ≠ a := by
    rintro j b m' v c ne e s hc rfl
    exact ne (p.hd.sep j i b m' false m v (.ref c) c e hi s hσ hc foot_root)
  have sub : ∀ c, Own σ (ρ.set i (some (.fz m.view))) H c → Own σ ρ H c := by
    rintro c ⟨j, b', m', v, e, q, hc⟩
    rcases get_set e with ⟨rfl, z⟩ | ⟨_, z⟩
    · cases z
    · exact ⟨j, b', m', v, z, q, hc⟩
  refine ⟨⟨⟨p.hd.le.frz ho fun _ _ => Mu.noFrz r, by rw [List.length_set]; exact p.hd.len, fun j o' e => ?_, fun j k b m1 b' m2 v v' c e1 e2 s1 s2 h1 h2 => ?_⟩, p.le.trans (Le.ofNew hf), p.keep, fun b u e q f => ?_, fun b q => p.own b (sub b q), fun j m1 e => ?_⟩, rr⟩
  · rcases get_set e with ⟨rfl, z⟩ | ⟨ne, z⟩
    · cases z; exact ⟨_, hσ, rr⟩
    · obtain ⟨v, e1, q⟩ := p.hd.at_ j o' z
      refine ⟨v, e1, ?_⟩
      cases o' with
      | fz d => exact Rp.mono (Le.ofNew hf) q
      | mu b m' =>
        exact (q.stay (b' := b) (H' := H) (Le.ofNew hf) fun c hc => ⟨rfl, by rw [upd_ne (other ne z e1 hc)]; exact (q.at_ hc).2⟩).1
  · rcases get_set e1 with ⟨_, z⟩ | ⟨_, z1⟩
    · cases z
    · rcases get_set e2 with ⟨_, z⟩ | ⟨_, z2⟩
      · cases z
      · exact p.hd.sep j k b m1 b' m2 v v' c z1 z2 s1 s2 h1 h2
  · have hb : b ≠ a := by
      rintro rfl
      rcases p.own b ⟨i, false, m, .ref b, hi, hσ, foot_root⟩ with z | z
      · exact q z
      · rw [e] at z; cases z
    rw [upd_ne hb]
    exact p.nofz b u e q f
  · obtain ⟨e1, m', e2⟩ := p.bor j m1 e
    have : j ≠ i := by rintro rfl; rw [hi] at e2; cases e2
    exact ⟨e1, m', by rw [set_ne this]; exact e2⟩
/-- what an owned slot holds is changed, on its own addresses and on new ones -/
theorem Post.wr (p : Post K S σ ρ F H) {i : Nat} {b : Bool} {m m' : Mu} {v : V} {F' H' : Hp} (hi : ρ[i]? = some (some (.mu b m))) (hσ : σ[i]? = some (some v)) (lf : Le F F') (le : Le F' H') (k : ∀ c o, H c = some o → c ∉ foot H m v → H' c = some o ∧ (F c = none → F' c = none))
    (sl : SlotX K F' H' v (.mu b m')) (sub : ∀ c ∈ foot H' m' v, c ∈ foot H m v ∨ (New S c ∧ ¬ Own σ ρ H c)) : Post K S σ (ρ.set i (some (.mu b m'))) F' H' := by
  have hil : i < ρ.length := (List.getElem?_eq_some_iff.mp hi).1
  have self : ∀ c ∈ foot H m v, Own σ ρ H c := fun c hc => ⟨i, b, m, v, hi, hσ, hc⟩
  have other : ∀ {j : Nat} {b1 : Bool} {m1 : Mu} {v1 : V}, j ≠ i → ρ[j]? = some (some (.mu b1 m1)) → σ[j]? = some (some v1) → SlotX K F' H' v1 (.mu b1 m1) ∧ foot H' m1 v1 = foot H m1 v1 := by
    intro j b1 m1 v1 ne e s
    have q := p.hd.slot e s
    refine q.stay lf fun c hc => ?_
    obtain ⟨⟨u, hu⟩, hf⟩ := q.at_ hc
    obtain ⟨k1, k2⟩ := k c u hu fun z => ne (p.hd.sep j i b1 m1 b m v1 v c e hi s hσ hc z)
    exact ⟨k1.trans hu.symm, k2 hf⟩
  have off : ∀ {j : Nat} {b1 : Bool} {m1 : Mu} {v1 : V} {c : Addr}, j ≠ i → ρ[j]? = some (some (.mu b1 m1)) → σ[j]? = some (some v1) → c ∈ foot H' m1 v1 → c ∈ foot H' m' v → False := by
    intro j b1 m1 v1 c ne e s h1 h2
    rw [(other ne e s).2] at h1
    rcases sub c h2 with z | ⟨_, z⟩
    · exact ne (p.hd.sep j i b1 m1 b m v1 v c e hi s hσ h1 z)
    · exact z ⟨j, b1, m1, v1, e, s, h1⟩
  refine ⟨⟨le, by rw [List.length_set]; exact p.hd.len, fun j o e => ?_, fun j k b1 m1 b2 m2 v1 v2 c e1 e2 s1 s2 h1 h2 => ?_⟩, p.le.trans lf, fun c u e q => ?_, fun c u e q f => ?_, fun c q => ?_, fun j m1 e => ?_⟩
  · rcases get_set e with ⟨rfl, z⟩ | ⟨ne, z⟩
    · cases z; exact ⟨_, hσ, sl⟩
    · obtain ⟨v1, e1, q⟩ := p.hd.at_ j o z
      refine ⟨v1, e1, ?_⟩
      cases o with
      | fz d => exact Rp.mono lf q
      | mu b1 m1 => exact (other ne z e1).1
  · rcases get_set e1 with ⟨rfl, z⟩ | ⟨n1, z1⟩
    · rcases get_set e2 with ⟨rfl, z⟩ | ⟨n2, z2⟩
      · rfl
      · cases z
        rw [hσ] at s1; cases s1
        exact (off n2 z2 s2 h2 h1).elim
    · rcases get_set e2 with ⟨rfl, z⟩ | ⟨n2, z2⟩
      · cases z
        rw [hσ] at s2; cases s2
        exact (off n1 z1 s1 h1 h2).elim
      · rw [(other n1 z1 s1).2] at h1
        rw [(other n2 z2 s2).2] at h2
        exact p.hd.sep j k b1 m1 b2 m2 v1 v2 c z1 z2 s1 s2 h1 h2
  · refine (k c u (p.keep c u e q) fun z => ?_).1
    rcases p.own c (self c z) with z | z
    · exact q z
    · rw [e] at z; cases z
  · refine (k c u (p.keep c u e q) fun z => ?_).2 (p.nofz c u e q f)
    rcases p.own c (self c z) with z | z
    · exact q z
    · rw [e] at z; cases z
  · obtain ⟨j, b1, m1, v1, e, s, hc⟩ := q
    rcases get_set e with ⟨rfl, z⟩ | ⟨ne, z⟩
    · cases z
      rw [hσ] at s; cases s
      rcases sub c hc with z | ⟨z, _⟩
      · exact p.own c (self c z)
      · exact z
    · rw [(other ne z s).2] at hc
      exact p.own c ⟨j, b1, m1, v1, z, s, hc⟩
  · obtain ⟨e1, m2, e2⟩ := p.bor j m1 e
    by_cases hj : j = i
    · subst hj
      rw [hi] at e2; cases e2
      exact ⟨e1, m', by rw [List.getElem?_set_self hil]⟩
    · exact ⟨e1, m2, by rw [set_ne hj]; exact e2⟩
/-- what an owned slot holds is changed -/
theorem Post.wrS (p : Post K S σ ρ F H) {i : Nat} {b : Bool} {m m' : Mu} {a : Addr} {o' : HO} (hi : ρ[i]? = some (some (.mu b m))) (hσ : σ[i]? = some (some (.ref a))) (hf : F a = none) (r : MuX K F o' m') :
    Post K S σ (ρ.set i (some (.mu b m'))) F (upd H a o') := by
  refine p.wr hi hσ (Le.refl F) (p.hd.le.updH hf) (fun c o hc n => ⟨?_, id⟩) ⟨a, o', rfl, upd_same, hf, r.t⟩ fun c hc => .inl ?_
  · have : c ≠ a := by rintro rfl; exact n foot_root
    rw [upd_ne this]; exact hc
  · rw [foot_leaf r.leaf] at hc
    rw [List.mem_singleton.mp hc]
    exact foot_root
end

/-! ### readings weakened -/
theorem peI {X : Cx} {e : Expr} {t t' : TE} (h : PE X e t) (k : ∀ σ H Q, t' σ H Q → t σ H Q) : PE X e t' := ⟨fun pins s σ H Q I q => h.run pins s σ H Q I (k σ H Q q)⟩
theorem ptI {X : Cx} {e : Expr} {t t' : TT} (h : PT X e t) (k : ∀ σ H Q, t' σ H Q → t σ H Q) : PT X e t' := ⟨fun pins s σ H Q I q => h.run pins s σ H Q I (k σ H Q q)⟩
theorem paI {X : Cx} {e : List Expr} {t t' : TA} (h : PA X e t) (k : ∀ σ H Q, t' σ H Q → t σ H Q) : PA X e t' := ⟨fun p pins s σ H Q I q => h.run p pins s σ H Q I (k σ H Q q)⟩
theorem psI {X : Cx} {e : Stmt} {t t' : TS} (h : PS X e t) (k : ∀ D σ H, t' D σ H → t D σ H) : PS X e t' := ⟨fun pins s σ H D I q => h.run pins s σ H D I (k D σ H q)⟩
theorem pssI {X : Cx} {e : List Stmt} {t t' : TS} (h : PSs X e t) (k : ∀ D σ H, t' D σ H → t D σ H) : PSs X e t' := ⟨fun pins s σ H D I q => h.run pins s σ H D I (k D σ H q)⟩

def LR (K : PySem.W.Frag) (S : Sta) (σ : L2.St) (ρ : Rho) (F H : Hp) (vs : List V) (xs : List Rf) : Prop := Paired (RfR K S σ ρ F H) vs xs
abbrev EvO (X : Cx) (W : WX) (e : Expr) (f : M Rf) : Prop := PE X e (tG X.K W (RfR X.K) f)
abbrev EvD (X : Cx) (W : WX) (e : Expr) (f : M PyData) : Prop := PE X e (tG X.K W (DR X.K) f)
abbrev EvT (X : Cx) (W : WX) (e : Expr) (f : M Bool) : Prop := PT X e (tG X.K W (BR X.K) f)
abbrev EvA (X : Cx) (W : WX) (e : List Expr) (f : M (List PyData)) : Prop := PA X e (tG X.K W (AR X.K) f)
abbrev EvL (X : Cx) (W : WX) (e : List Expr) (f : M (List Rf)) : Prop := PA X e (tG X.K W (LR X.K) f)

/-- an instance is no operand -/
def O.ok : O → Option O
  | .fz d => some (.fz d)
  | .mu b (.lst ds) => some (.mu b (.lst ds))
  | .mu b (.dct es) => some (.mu b (.dct es))
  | .mu _ (.obj _ _) => none
  | .mu _ (.tre _ _) => none
theorem O.ok_eq {o o' : O} (h : o.ok = some o') : o = o' := by
  cases o with
  | fz d => cases h; rfl
  | mu b m => cases m <;> cases h <;> rfl
theorem O.ok_slot {K : PySem.W.Frag} {F H : Hp} {v : V} {o o' : O} (e : o.ok = some o') (h : SlotX K F H v o) : SlotR K F H v o := by
  cases o with
  | fz d => exact h
  | mu b m =>
    obtain ⟨a, u, rfl, hu, hf, r⟩ := h
    cases m with
    | lst ds => exact ⟨a, u, rfl, hu, hf, r⟩
    | dct es => exact ⟨a, u, rfl, hu, hf, r⟩
    | obj C fs => cases e
    | tre n its => cases e
def rdO (ρ : Rho) : Rf → Option O
  | .s i => ((ρ[i]?).join).bind O.ok
  | .o o => o.ok
theorem slot_of {K : PySem.W.Frag} {S : Sta} {σ : L2.St} {ρ : Rho} {F H : Hp} {v : V} {x : Rf} {o : O} (h : Hd K σ ρ F H) (r : RfR K S σ ρ F H v x) (e : rdO ρ x = some o) : SlotR K F H v o := by
  cases x with
  | s i =>
    have e2 : ((ρ[i]?).join).bind O.ok = some o := e
    cases q : ρ[i]? with
    | none => rw [q] at e2; cases e2
    | some y =>
      rw [q] at e2
      cases y with
      | none => cases e2
      | some y =>
        have e3 : y.ok = some o := e2
        cases O.ok_eq e3
        obtain ⟨w, e1, r1⟩ := h.at_ i o q
        have r' : σ[i]? = some (some v) := r
        rw [r'] at e1; cases e1
        exact O.ok_slot e3 r1
  | o o' =>
    have e' : o'.ok = some o := e
    cases O.ok_eq e'
    cases o with
    | fz d => exact r
    | mu b m => exact O.ok_slot e' r.2.1
theorem slot_o {K : PySem.W.Frag} {S : Sta} {σ : L2.St} {ρ : Rho} {F H : Hp} {v : V} {o : O} (r : RfR K S σ ρ F H v (.o o)) : SlotX K F H v o := by
  cases o with
  | fz d => exact r
  | mu b m => exact r.2.1
/-- what a result is handed on to -/
abbrev Cont (K : PySem.W.Frag) (S : Sta) (ρ : Rho) (o : O) (Q : VK) : Prop := ∀ v' F' H', Post K S S.σ ρ F' H' → RfR K S S.σ ρ F' H' v' (.o o) → Q v' H'
section
variable {K : PySem.W.Frag} {S : Sta} {ρ : Rho} {F H : Hp} {Q : VK}
theorem Cont.lst {xs : List V} {ds : List PyData} (k : Cont K S ρ (.mu false (.lst ds)) Q) (p : Post K S S.σ ρ F H) (r : RpA K F xs ds) (a : Addr) (n : H a = none) : Q (.ref a) (upd H a (.lst xs)) :=
  k _ F _ (p.newO n) ⟨rfl, ⟨a, _, rfl, upd_same, p.gone n, xs, rfl, r⟩, fun c hc => by rw [List.mem_singleton.mp (show c ∈ [a] from hc)]; exact ⟨p.new (.inr n), p.hd.notOwnNew n⟩⟩
theorem Cont.dct {xs : List (Key × V)} {ds : List (Key × PyData)} (k : Cont K S ρ (.mu false (.dct ds)) Q) (p : Post K S S.σ ρ F H) (r : RpK K F xs ds) (a : Addr) (n : H a = none) : Q (.ref a) (upd H a (.dK xs)) :=
  k _ F _ (p.newO n) ⟨rfl, ⟨a, _, rfl, upd_same, p.gone n, xs, rfl, r⟩, fun c hc => by rw [List.mem_singleton.mp (show c ∈ [a] from hc)]; exact ⟨p.new (.inr n), p.hd.notOwnNew n⟩⟩
theorem Cont.tup {xs : List V} {ds : List PyData} (k : Cont K S ρ (.fz (.tuple ds)) Q) (p : Post K S S.σ ρ F H) (r : RpA K F xs ds) (a : Addr) (n : H a = none) : Q (.ref a) (upd H a (.tup xs)) :=
  k _ (upd F a (.tup xs)) _ (p.newF n) (.tup (.of upd_same) (RpA.mono (Le.ofNew (p.gone n)) r))
end

/-! ### freezing -/
def frz : Rf → M PyData
  | .s i => fun ρ => match ρ[i]? with
    | some (some (.fz d)) => some (.ok d ρ)
    | some (some (.mu false m)) => (match m.fr with | some d => some (.ok d (ρ.set i (some (.fz d)))) | none => none)
    | _ => none
  | .o (.fz d) => M.ret d
  | .o (.mu _ m) => fun ρ => (match m.fr with | some d => some (.ok d ρ) | none => none)
theorem frz_ex {x : Rf} {ρ ρ1 : Rho} {c : Er} (h : frz x ρ = some (.ex c ρ1)) : False := by
  cases x with
  | s i =>
    simp only [frz] at h
    split at h
    · cases h
    · split at h <;> cases h
    · cases h
  | o o =>
    cases o with
    | fz d => cases h
    | mu b m =>
      simp only [frz] at h
      split at h <;> cases h
theorem Run.frz {K : PySem.W.Frag} {W : WX} {S : Sta} {ρ : Rho} {F H : Hp} {v : V} {x : Rf} {Q : VK} (r : Run K W (DR K) S (frz x) ρ F H Q) (h : RfR K S S.σ ρ F H v x) : Q v H := by
  obtain ⟨p, o, e, q⟩ := r
  cases x with
  | s i =>
    have hv : S.σ[i]? = some (some v) := h
    cases e1 : ρ[i]? with
    | none => simp only [Vs.frz, e1] at e; cases e
    | some y =>
      cases y with
      | none => simp only [Vs.frz, e1] at e; cases e
      | some y =>
        obtain ⟨w, e2, r2⟩ := p.hd.at_ i y e1
        rw [hv] at e2; cases e2
        cases y with
        | fz d =>
          simp only [Vs.frz, e1] at e; cases e
          exact q v F H p r2
        | mu b m =>
          cases b with
          | true => simp only [Vs.frz, e1] at e; cases e
          | false =>
            simp only [Vs.frz, e1] at e
            obtain ⟨a, u, rfl, hu, hf, r3⟩ := r2
            cases hm : m.fr with
            | none => simp only [hm] at e; cases e
            | some d =>
              simp only [hm] at e; cases e
              cases Mu.fr_view hm
              obtain ⟨p', r4⟩ := p.frzS e1 hv hu hf (r3.fr hm)
              exact q _ _ H p' r4
  | o o' =>
    cases o' with
    | fz d =>
      simp only [Vs.frz, M.ret] at e; cases e
      exact q v F H p h
    | mu b m =>
      simp only [Vs.frz] at e
      obtain ⟨_, ⟨a, u, rfl, hu, hf, r3⟩, n⟩ := h
      cases hm : m.fr with
      | none => simp only [hm] at e; cases e
      | some d =>
        simp only [hm] at e; cases e
        cases Mu.fr_view hm
        obtain ⟨p', r4⟩ := p.frzT hu hf (r3.fr hm) (n a foot_root).1 (n a foot_root).2
        exact q _ _ H p' r4

section
variable {X : Cx} {W : WX} {e a b : Expr} {es : List Expr} {f g : M Rf} {pos : Pos}
theorem ev_frz (h : EvO X W e f) : EvD X W e (f.bind frz) := peI h fun σ H Q ⟨ρ, F, r⟩ =>
  ⟨ρ, F, r.bind.mono fun v H1 ⟨x, ρ1, F1, rx, p, r2⟩ => r2.frz rx⟩
theorem ev_var (i : Nat) {x : Str} (hN : X.N[i]? = some x := by rfl) (hv : Vis X.env.scope x := by first | exact Or.inl rfl | exact Or.inr (Or.inl rfl) | exact Or.inr (Or.inr rfl)) (hd : (x == ("__debug__" : Str)) = false := by decide) (hcd : (x == ("__classdict__" : Str)) = false := by decide) :
    EvO X W (.Name x pos) (fun ρ => match ρ[i]? with | some (some _) => some (.ok (.s i) ρ) | _ => none) := by
  refine peI (pe_var hN hv hd hcd) fun σ H Q ⟨ρ, F, p, o, e, q⟩ => ?_
  cases e1 : ρ[i]? with
  | none => simp only [e1] at e; cases e
  | some y =>
    cases y with
    | none => simp only [e1] at e; cases e
    | some y =>
      simp only [e1] at e; cases e
      obtain ⟨v, e2, _⟩ := p.hd.at_ i y e1
      exact ⟨v, e2, q v F H p e2⟩
/-- a value that is known -/
theorem ev_con {v : V} {d : PyData} (h : PE X e (tC v)) (r : ∀ F : Hp, Rp X.K F v d) : EvO X W e (M.ret (.o (.fz d))) :=
  peI h fun σ H Q ⟨ρ, F, p, o, e, q⟩ => by
    cases e
    exact q v F H p (r F)
theorem ev_int {i : Int} {j : Nat} : EvO X W (.Constant (.int i) j pos) (M.ret (.o (.fz (.int i)))) := ev_con pe_int fun _ => .int i
theorem ev_str {i : Str} {j : Nat} : EvO X W (.Constant (.str i) j pos) (M.ret (.o (.fz (.str i)))) := ev_con pe_str fun _ => .str i
theorem ev_bl {i : Bool} {j : Nat} : EvO X W (.Constant (.bool i) j pos) (M.ret (.o (.fz (.bool i)))) := ev_con pe_bl fun _ => .bl i
theorem ev_non {j : Nat} : EvO X W (.Constant .none j pos) (M.ret (.o (.fz .none))) := ev_con pe_non fun _ => .non

/-! ### argument lists -/
theorem evA_nil : EvA X W [] (M.ret []) := paI pa_nil fun σ H Q ⟨ρ, F, p, o, e, q⟩ => by
  cases e
  exact q [] F H p .nil
theorem evA_cons {f : M PyData} {g : M (List PyData)} (ha : EvD X W e f) (hr : EvA X W es g) (hs : starEach (e :: es) X.env = (false, eval e X.env) :: starEach es X.env := by rfl) :
    EvA X W (e :: es) (f.bind fun d => g.bind fun ds => M.ret (d :: ds)) := paI (pa_cons ha hr hs) fun σ H Q ⟨ρ, F, r⟩ =>
  ⟨ρ, F, r.bind.mono fun v H1 ⟨x, ρ1, F1, rx, p, r2⟩ => ⟨ρ1, F1, r2.bind.mono fun vs H2 ⟨xs, ρ2, F2, rxs, p2, ⟨p3, o, e3, q⟩⟩ => by
    cases e3
    exact q (v :: vs) F2 H2 p3 (.cons (Rp.mono p2.le rx) rxs)⟩⟩
theorem evA_star {f : M PyData} {g : M (List PyData)} {sp : Pos} (ha : EvD X W e f) (hr : EvA X W es g) (hs : starEach (.Starred e sp :: es) X.env = (true, eval e X.env) :: starEach es X.env := by rfl) :
    EvA X W (.Starred e sp :: es) (f.bind fun d => match d with
      | .list ds => g.bind fun rs => M.ret (ds ++ rs)
      | .tuple ds => g.bind fun rs => M.ret (ds ++ rs)
      | _ => fun _ => none) := paI (StX.pa_star ha hr hs) fun σ H Q ⟨ρ, F, r⟩ =>
  ⟨ρ, F, r.bind.mono fun v H1 ⟨x, ρ1, F1, rx, p, r2⟩ => by
    cases rx with
    | lst h1 h2 =>
      exact ⟨_, _, rfl, .inr (r2.post.hd.le.seqL h1), ρ1, F1, r2.bind.mono fun vs H2 ⟨xs, ρ2, F2, rxs, p2, ⟨p3, o, e3, q⟩⟩ => by
        cases e3
        exact q _ F2 H2 p3 (RpA.app (RpA.mono p2.le h2) rxs)⟩
    | tup h1 h2 =>
      exact ⟨_, _, rfl, .inl (r2.post.hd.le.seqT h1), ρ1, F1, r2.bind.mono fun vs H2 ⟨xs, ρ2, F2, rxs, p2, ⟨p3, o, e3, q⟩⟩ => by
        cases e3
        exact q _ F2 H2 p3 (RpA.app (RpA.mono p2.le h2) rxs)⟩
    | _ =>
      obtain ⟨_, o, e, _⟩ := r2
      cases e⟩
theorem evL_nil : EvL X W [] (M.ret []) := paI pa_nil fun σ H Q ⟨ρ, F, p, o, e, q⟩ => by
  cases e
  exact q [] F H p .nil
theorem evL_cons {g : M (List Rf)} (ha : EvO X W e f) (hr : EvL X W es g) (hs : starEach (e :: es) X.env = (false, eval e X.env) :: starEach es X.env := by rfl) :
    EvL X W (e :: es) (f.bind fun d => g.bind fun ds => M.ret (d :: ds)) := paI (pa_cons ha hr hs) fun σ H Q ⟨ρ, F, r⟩ =>
  ⟨ρ, F, r.bind.mono fun v H1 ⟨x, ρ1, F1, rx, p, r2⟩ => ⟨ρ1, F1, r2.bind.mono fun vs H2 ⟨xs, ρ2, F2, rxs, p2, ⟨p3, o, e3, q⟩⟩ => by
    cases e3
    have rxs' : LR X.K ⟨σ, ρ, F, H⟩ σ ρ2 F2 H2 vs xs := Paired.mapP rxs fun v y h => rfOk.up p h
    exact q (v :: vs) F2 H2 p3 (.cons (rx.stay p2) rxs')⟩⟩

/-! ### displays -/
def chk {α : Type} (c : Bool) (x : α) : M α := fun ρ => if c then some (.ok x ρ) else none
theorem ev_tup {g : M (List PyData)} {k : Nat} (h : EvA X W es g) : EvO X W (.Tuple es k pos) (g.bind fun ds => chk (decide (ds.length ≤ 16777216)) (.o (.fz (.tuple ds)))) := peI (pe_tup h) fun σ H Q ⟨ρ, F, r⟩ =>
  ⟨ρ, F, r.bind.mono fun vs H1 ⟨ds, ρ1, F1, rx, p, ⟨p1, o, e, q⟩⟩ => by
    unfold chk at e
    split at e
    · cases e
      rename_i c
      have c' : ds.length ≤ 16777216 := by simpa using c
      exact ⟨by rw [slen, rx.len]; exact c', Cont.tup (S := ⟨σ, ρ, F, H⟩) q p1 rx⟩
    · cases e⟩
theorem ev_lst {g : M (List PyData)} (h : EvA X W es g) : EvO X W (.List es pos) (g.bind fun ds => chk (decide (ds.length ≤ 16777216)) (.o (.mu false (.lst ds)))) := peI (pe_lst h) fun σ H Q ⟨ρ, F, r⟩ =>
  ⟨ρ, F, r.bind.mono fun vs H1 ⟨ds, ρ1, F1, rx, p, ⟨p1, o, e, q⟩⟩ => by
    unfold chk at e
    split at e
    · cases e
      rename_i c
      have c' : ds.length ≤ 16777216 := by simpa using c
      exact ⟨by rw [slen, rx.len]; exact c', Cont.lst (S := ⟨σ, ρ, F, H⟩) q p1 rx⟩
    · cases e⟩
theorem ev_dnew : EvO X W (.Dict [] [] pos) (M.ret (.o (.mu false (.dct [])))) := peI pe_dnewK fun σ H Q ⟨ρ, F, p, o, e, q⟩ => by
  cases e
  exact Cont.dct (S := ⟨σ, ρ, F, H⟩) q p .nil

/-! ### operations on values -/
def dr1 (h : O → Option O) (x : Rf) : M Rf := fun ρ => match rdO ρ x with
  | some a => (match h a with | some o => some (.ok (.o o) ρ) | none => none)
  | none => none
def dr2 (h : O → O → Option O) (x y : Rf) : M Rf := fun ρ => match rdO ρ x, rdO ρ y with
  | some a, some b => (match h a b with | some o => some (.ok (.o o) ρ) | none => none)
  | _, _ => none
def rdL (ρ : Rho) : List Rf → Option (List O)
  | [] => some []
  | x :: xs => match rdO ρ x, rdL ρ xs with
    | some a, some r => some (a :: r)
    | _, _ => none
def drN (h : List O → Option O) (xs : List Rf) : M Rf := fun ρ => match rdL ρ xs with
  | some a => (match h a with | some o => some (.ok (.o o) ρ) | none => none)
  | none => none
def dr2B (h : O → O → Option O) (x y : Rf) : M Bool := fun ρ => match rdO ρ x, rdO ρ y with
  | some a, some b => (match h a b with | some (.fz (.bool c)) => some (.ok c ρ) | _ => none)
  | _, _ => none
end
section
variable {K : PySem.W.Frag} {W : WX} {S : Sta} {ρ : Rho} {F H : Hp} {Q : VK} {v w : V} {x y : Rf}
theorem Run.dr1 {h : O → Option O} (r : Run K W (RfR K) S (dr1 h x) ρ F H Q) (rx : RfR K S S.σ ρ F H v x) : ∃ a o, SlotR K F H v a ∧ h a = some o ∧ Cont K S ρ o Q := by
  obtain ⟨p, o, e, q⟩ := r
  unfold Vs.dr1 at e
  split at e
  · rename_i a ea
    split at e
    · cases e
      rename_i o eo
      exact ⟨a, o, slot_of p.hd rx ea, eo, q⟩
    · cases e
  · cases e
theorem Run.dr2 {h : O → O → Option O} (r : Run K W (RfR K) S (dr2 h x y) ρ F H Q) (rx : RfR K S S.σ ρ F H v x) (ry : RfR K S S.σ ρ F H w y) : ∃ a b o, SlotR K F H v a ∧ SlotR K F H w b ∧ h a b = some o ∧ Cont K S ρ o Q := by
  obtain ⟨p, o, e, q⟩ := r
  unfold Vs.dr2 at e
  split at e
  · rename_i a b ea eb
    split at e
    · cases e
      rename_i o eo
      exact ⟨a, b, o, slot_of p.hd rx ea, slot_of p.hd ry eb, eo, q⟩
    · cases e
  · cases e
theorem rdL_slots (hd : Hd K S.σ ρ F H) : ∀ {vs : List V} {xs : List Rf} {os : List O}, Paired (RfR K S S.σ ρ F H) vs xs → rdL ρ xs = some os → Paired (SlotR K F H) vs os
  | _, _, _, .nil, e => by cases e; exact .nil
  | _, x :: xs, _, .cons r t, e => by
    unfold rdL at e
    split at e
    · cases e
      rename_i a l ea el
      exact .cons (slot_of hd r ea) (rdL_slots hd t el)
    · cases e
theorem Run.drN {h : List O → Option O} {vs : List V} {xs : List Rf} (r : Run K W (RfR K) S (drN h xs) ρ F H Q) (rx : LR K S S.σ ρ F H vs xs) : ∃ a o, Paired (SlotR K F H) vs a ∧ h a = some o ∧ Cont K S ρ o Q := by
  obtain ⟨p, o, e, q⟩ := r
  unfold Vs.drN at e
  split at e
  · rename_i a ea
    split at e
    · cases e
      rename_i o eo
      exact ⟨a, o, rdL_slots p.hd rx ea, eo, q⟩
    · cases e
  · cases e
end
/-- what a rule on values must know of its plain function -/
def Sn1 (K : PySem.W.Frag) (r : V → Hp → VK → Prop) (h : O → Option O) : Prop := ∀ S ρ F H v a o Q, Post K S S.σ ρ F H → SlotR K F H v a → h a = some o → Cont K S ρ o Q → r v H Q
def Sn2 (K : PySem.W.Frag) (r : R2) (h : O → O → Option O) : Prop := ∀ S ρ F H v w a b o Q, Post K S S.σ ρ F H → SlotR K F H v a → SlotR K F H w b → h a b = some o → Cont K S ρ o Q → r v w H Q
def SnN (K : PySem.W.Frag) (r : List V → Hp → VK → Prop) (h : List O → Option O) : Prop := ∀ S ρ F H vs os o Q, Post K S S.σ ρ F H → Paired (SlotR K F H) vs os → h os = some o → Cont K S ρ o Q → r vs H Q
section
variable {X : Cx} {W : WX} {e a b : Expr} {es : List Expr} {f g : M Rf} {pos p apos : Pos} {T id : String} {x : Str}
theorem ev_op2 {op : Operator} {r : R2} {h : O → O → Option O} (ho : OpR X (binaryOp op) r) (s : Sn2 X.K r h) (ha : EvO X W a f) (hb : EvO X W b g) : EvO X W (.BinOp a op b pos) (f.bind fun x => g.bind fun y => dr2 h x y) :=
  peI (pe_op ho ha hb) fun σ H Q ⟨ρ, F, r⟩ => ⟨ρ, F, r.bind.mono fun v H1 ⟨x, ρ1, F1, rx, p, r1⟩ => ⟨ρ1, F1, r1.bind.mono fun w H2 ⟨y, ρ2, F2, ry, p2, r2⟩ => by
    obtain ⟨c, d, o, h1, h2, h3, h4⟩ := r2.dr2 (rx.stay p2) (rfOk.up p ry)
    exact s _ _ _ _ _ _ _ _ _ _ r2.post h1 h2 h3 h4⟩⟩
theorem ev_cmp2 {op : CmpOp} {r : R2} {h : O → O → Option O} (ho : OpR X (compareOp op) r) (s : Sn2 X.K r h) (ha : EvO X W a f) (hb : EvO X W b g) (hm : behindInMarks op b = false) : EvO X W (.Compare a [op] [b] pos) (f.bind fun x => g.bind fun y => dr2 h x y) :=
  peI (pe_cmpR ho ha hb hm) fun σ H Q ⟨ρ, F, r⟩ => ⟨ρ, F, r.bind.mono fun v H1 ⟨x, ρ1, F1, rx, p, r1⟩ => ⟨ρ1, F1, r1.bind.mono fun w H2 ⟨y, ρ2, F2, ry, p2, r2⟩ => by
    obtain ⟨c, d, o, h1, h2, h3, h4⟩ := r2.dr2 (rx.stay p2) (rfOk.up p ry)
    exact s _ _ _ _ _ _ _ _ _ _ r2.post h1 h2 h3 h4⟩⟩
theorem ev_cmpT {op : CmpOp} {r : R2} {h : O → O → Option O} (ho : OpR X (compareOp op) r) (s : Sn2 X.K r h) (ha : EvO X W a f) (hb : EvO X W b g) (hm : behindInMarks op b = false) : EvT X W (.Compare a [op] [b] pos) (f.bind fun x => g.bind fun y => dr2B h x y) :=
  ptI (pt_cmpR ho ha hb hm) fun σ H Q ⟨ρ, F, r⟩ => by
    refine ⟨ρ, F, r.bind.mono fun v H1 ⟨x, ρ1, F1, rx, p, r1⟩ => ⟨ρ1, F1, r1.bind.mono fun w H2 ⟨y, ρ2, F2, ry, p2, r2⟩ => ?_⟩⟩
    obtain ⟨p3, o, e, q⟩ := r2
    unfold dr2B at e
    split at e
    · rename_i c d ec ed
      split at e
      · cases e
        rename_i k ek
        refine s ⟨σ, ρ, F, H⟩ ρ2 F2 H2 v w c d _ _ p3 (slot_of p3.hd (rx.stay p2) ec) (slot_of p3.hd (rfOk.up p ry) ed) ek fun v' F' H' p' r' => ?_
        cases (show Rp X.K F' v' (.bool k) from r')
        exact ⟨k, rfl, q k F' H' p' rfl⟩
      · cases e
    · cases e
theorem ev_un {op : UnaryOp} {r : V → Hp → VK → Prop} {h : O → Option O} (ho : UnR X (unaryOp op) r) (s : Sn1 X.K r h) (ha : EvO X W a f) : EvO X W (.UnaryOp op a pos) (f.bind fun x => dr1 h x) :=
  peI (pe_un ho ha) fun σ H Q ⟨ρ, F, r⟩ => ⟨ρ, F, r.bind.mono fun v H1 ⟨x, ρ1, F1, rx, p, r1⟩ => by
    obtain ⟨c, o, h1, h3, h4⟩ := r1.dr1 rx
    exact s _ _ _ _ _ _ _ _ r1.post h1 h3 h4⟩
theorem ev_ix {r : R2} {h : O → O → Option O} (ho : IxR X r) (s : Sn2 X.K r h) (ha : EvO X W a f) (hb : EvO X W b g) (hs : PlainIx b) : EvO X W (.Subscript a b pos) (f.bind fun x => g.bind fun y => dr2 h x y) :=
  peI (pe_ix ho ha hb hs) fun σ H Q ⟨ρ, F, r⟩ => ⟨ρ, F, r.bind.mono fun v H1 ⟨x, ρ1, F1, rx, p, r1⟩ => ⟨ρ1, F1, r1.bind.mono fun w H2 ⟨y, ρ2, F2, ry, p2, r2⟩ => by
    obtain ⟨c, d, o, h1, h2, h3, h4⟩ := r2.dr2 (rx.stay p2) (rfOk.up p ry)
    exact s _ _ _ _ _ _ _ _ _ _ r2.post h1 h2 h3 h4⟩⟩
theorem ev_callB {r : List V → Hp → VK → Prop} {h : List O → Option O} {g : M (List Rf)} (hc : CallR X (.builtin id) r) (s : SnN X.K r h) (hg : Gl X x) (hm : X.mg x = none) (hv : bootBuiltins x = some (.builtin id)) (ha : EvL X W (e :: es) g) (hn : x ≠ "__name__" := by decide) (hdb : (x == ("__debug__" : Str)) = false := by decide)
    (he : starEach (e :: es) X.env = (false, eval e X.env) :: starEach es X.env := by rfl) (hpl : (backTo pos (starEach es X.env)).any (·.1) = false := by rfl) : EvO X W (.Call (.Name x p) (e :: es) [] pos) (g.bind fun xs => drN h xs) :=
  peI (pe_callB hc hg hm hv ha hn hdb he hpl) fun σ H Q ⟨ρ, F, r⟩ => ⟨ρ, F, r.bind.mono fun v H1 ⟨x, ρ1, F1, rx, p, r1⟩ => by
    obtain ⟨c, o, h1, h3, h4⟩ := r1.drN rx
    exact s _ _ _ _ _ _ _ _ r1.post h1 h3 h4⟩
theorem ev_callTy {r : List V → Hp → VK → Prop} {h : List O → Option O} {g : M (List Rf)} (hc : CallR X (.type T) r) (s : SnN X.K r h) (hg : Gl X x) (hm : X.mg x = none) (hv : bootBuiltins x = some (.type T)) (ha : EvL X W (e :: es) g) (hn : x ≠ "__name__" := by decide) (hdb : (x == ("__debug__" : Str)) = false := by decide)
    (he : starEach (e :: es) X.env = (false, eval e X.env) :: starEach es X.env := by rfl) (hpl : (backTo pos (starEach es X.env)).any (·.1) = false := by rfl) : EvO X W (.Call (.Name x p) (e :: es) [] pos) (g.bind fun xs => drN h xs) :=
  peI (pe_callTy hc hg hm hv ha hn hdb he hpl) fun σ H Q ⟨ρ, F, r⟩ => ⟨ρ, F, r.bind.mono fun v H1 ⟨x, ρ1, F1, rx, p, r1⟩ => by
    obtain ⟨c, o, h1, h3, h4⟩ := r1.drN rx
    exact s _ _ _ _ _ _ _ _ r1.post h1 h3 h4⟩
end
end Vs

/-! Vs, statements, defs and their calls. -/
namespace Vs
open PySem PySem.Spec L2

/-! ### statements -/
inductive Fl where
  | nx | bk | ct
  | rt (r : Rf)
def FinS (K : PySem.W.Frag) (W : WX) (S : Sta) (D : Ends) : Out Fl → Prop
  | .ok .nx ρ' => ∀ σ' F' H', Post K S σ' ρ' F' H' → D.nx σ' H'
  | .ok .bk ρ' => ∀ σ' F' H', Post K S σ' ρ' F' H' → D.bk σ' H'
  | .ok .ct ρ' => ∀ σ' F' H', Post K S σ' ρ' F' H' → D.ct σ' H'
  | .ok (.rt r) ρ' => ∀ v σ' F' H', Post K S σ' ρ' F' H' → RfR K S σ' ρ' F' H' v r → D.rt v H'
  | .ex c ρ' => ∀ d σ' F' H', Post K S σ' ρ' F' H' → ErD K F' H' c.fs d → W (.ref c.c) d σ' H'
structure RunS (K : PySem.W.Frag) (W : WX) (S : Sta) (f : M Fl) (σ : L2.St) (ρ : Rho) (F H : Hp) (D : Ends) : Prop where
  post : Post K S σ ρ F H
  out : ∃ o, f ρ = some o ∧ FinS K W S D o
def tS (K : PySem.W.Frag) (W : WX) (f : M Fl) : TS := fun D σ H => ∃ ρ F, RunS K W ⟨σ, ρ, F, H⟩ f σ ρ F H D
theorem rfUp {K : PySem.W.Frag} {S : Sta} {σ σ' : L2.St} {ρ ρ' : Rho} {F F' H H' : Hp} {v : V} {x : Rf} (p : Post K S σ ρ F H) (h : RfR K ⟨σ, ρ, F, H⟩ σ' ρ' F' H' v x) : RfR K S σ' ρ' F' H' v x := by
  cases x with
  | s i => exact h
  | o o =>
    cases o with
    | fz d => exact h
    | mu b m => exact ⟨h.1, h.2.1, fun a e => ⟨p.new (h.2.2 a e).1, (h.2.2 a e).2⟩⟩
section
variable {K : PySem.W.Frag} {W : WX} {S : Sta} {f g : M Fl} {σ : L2.St} {ρ : Rho} {F H : Hp} {D D' : Ends}
theorem RunS.sub (r : RunS K W S f σ ρ F H D) : tS K W f D σ H := by
  obtain ⟨p, o, e, q⟩ := r
  refine ⟨ρ, F, Post.refl p.hd, o, e, ?_⟩
  cases o with
  | ok fl ρ' =>
    cases fl with
    | nx => exact fun a b c d => q a b c (p.trans d)
    | bk => exact fun a b c d => q a b c (p.trans d)
    | ct => exact fun a b c d => q a b c (p.trans d)
    | rt r => exact fun v a b c d h => q v a b c (p.trans d) (rfUp p h)
  | ex c ρ' => exact fun y a b c d => q y a b c (p.trans d)
end
abbrev EvS (X : Cx) (W : WX) (e : Stmt) (f : M Fl) : Prop := PS X e (tS X.K W f)
abbrev EvB (X : Cx) (W : WX) (e : List Stmt) (f : M Fl) : Prop := PSs X e (tS X.K W f)
def sSeq (f g : M Fl) : M Fl := fun ρ => match f ρ with
  | some (.ok .nx ρ') => g ρ'
  | o => o
section
variable {X : Cx} {W : WX} {e : Expr} {st : Stmt} {sts : List Stmt} {f g : M Fl} {pos : Pos}
theorem evB_nil : EvB X W [] (M.ret .nx) := pssI pss_nil fun D σ H ⟨ρ, F, p, o, e, q⟩ => by
  cases e
  exact q σ F H p
theorem evB_one (h : EvS X W st f) : EvB X W [st] f := pss_one h
theorem evB_cons (h1 : EvS X W st f) (h2 : EvB X W sts g) : EvB X W (st :: sts) (sSeq f g) := pssI (pss_cons h1 h2) fun D σ H ⟨ρ, F, p, o, e, q⟩ => by
  unfold sSeq at e
  cases ef : f ρ with
  | none => rw [ef] at e; cases e
  | some o1 =>
    refine ⟨ρ, F, p, o1, ef, ?_⟩
    rw [ef] at e
    cases o1 with
    | ok fl ρ' =>
      cases fl with
      | nx => exact fun σ' F' H' p' => RunS.sub (S := ⟨σ, ρ, F, H⟩) ⟨p', o, e, q⟩
      | bk => cases e; exact q
      | ct => cases e; exact q
      | rt r => cases e; exact q
    | ex c ρ' => cases e; exact q
/-- an expression, then a statement's end -/
theorem tG_S {α β : Type} {K : PySem.W.Frag} {R : Sta → L2.St → Rho → Hp → Hp → β → α → Prop} {f : M α} {k : α → M Fl} {σ : L2.St} {ρ : Rho} {F H : Hp} {D : Ends} (r : RunS K W ⟨σ, ρ, F, H⟩ (f.bind k) σ ρ F H D) :
    tG K W R f σ H (fun v H1 => ∃ x ρ1 F1, R ⟨σ, ρ, F, H⟩ σ ρ1 F1 H1 v x ∧ RunS K W ⟨σ, ρ, F, H⟩ (k x) σ ρ1 F1 H1 D) := by
  obtain ⟨p, o, e, q⟩ := r
  cases ef : f ρ with
  | none => simp only [M.bind, ef] at e; cases e
  | some o1 =>
    refine ⟨ρ, F, p, o1, ef, ?_⟩
    cases o1 with
    | ok x ρ1 =>
      simp only [M.bind, ef] at e
      exact fun v F1 H1 a b => ⟨x, ρ1, F1, b, a, o, e, q⟩
    | ex c ρ1 =>
      simp only [M.bind, ef] at e
      cases e
      exact fun d F1 H1 a => q d _ F1 H1 a
theorem tG_mono {α β : Type} {K : PySem.W.Frag} {R : Sta → L2.St → Rho → Hp → Hp → β → α → Prop} {f : M α} {σ : L2.St} {H : Hp} {Q Q' : β → Hp → Prop} (h : tG K W R f σ H Q) (k : ∀ v H, Q v H → Q' v H) : tG K W R f σ H Q' := by
  obtain ⟨ρ, F, r⟩ := h
  exact ⟨ρ, F, r.mono k⟩
theorem ev_ret {f : M Rf} (h : EvO X W e f) : EvS X W (.Return (some e) pos) (f.bind fun r => M.ret (.rt r)) := psI (ps_ret h) fun D σ H ⟨ρ, F, r⟩ =>
  tG_mono (tG_S r) fun v H1 ⟨x, ρ1, F1, rx, p, o, e, q⟩ => by
    cases e
    exact q v σ F1 H1 p rx
theorem ev_retN : EvS X W (.Return none pos) (M.ret (.rt (.o (.fz .none)))) := psI ps_retN fun D σ H ⟨ρ, F, p, o, e, q⟩ => by
  cases e
  exact q _ σ F H p .non
theorem ev_pass : EvS X W (.Pass pos) (M.ret .nx) := psI ps_pass fun D σ H ⟨ρ, F, p, o, e, q⟩ => by
  cases e
  exact q σ F H p
theorem ev_break : EvS X W (.Break pos) (M.ret .bk) := psI ps_break fun D σ H ⟨ρ, F, p, o, e, q⟩ => by
  cases e
  exact q σ F H p
theorem ev_cont : EvS X W (.Continue pos) (M.ret .ct) := psI ps_continue fun D σ H ⟨ρ, F, p, o, e, q⟩ => by
  cases e
  exact q σ F H p
theorem ev_doc {x : Str} {j : Nat} {pos' : Pos} : EvS X W (.Expr (.Constant (.str x) j pos) pos') (M.ret .nx) := psI ps_doc fun D σ H ⟨ρ, F, p, o, e, q⟩ => by
  cases e
  exact q σ F H p
theorem ev_expr {f : M Rf} (h : EvO X W e f) (hs : swapsWith e none pos.line X.env = pure false := by rfl) : EvS X W (.Expr e pos) (f.bind fun _ => M.ret .nx) := psI (ps_expr h hs) fun D σ H ⟨ρ, F, r⟩ =>
  tG_mono (tG_S r) fun v H1 ⟨x, ρ1, F1, rx, p, o, e, q⟩ => by
    cases e
    exact q σ F1 H1 p
theorem ev_if {c : Expr} {a b : List Stmt} {t : M Bool} (hc : EvT X W c t) (ha : EvB X W a f) (hb : EvB X W b g) : EvS X W (.If c a b pos) (t.bind fun k => if k then f else g) := psI (ps_if hc ha hb) fun D σ H ⟨ρ, F, r⟩ =>
  tG_mono (tG_S r) fun v H1 ⟨x, ρ1, F1, rx, r1⟩ => by
    have rx' : v = x := rx
    subst rx'
    cases v with
    | true => exact r1.sub
    | false => exact r1.sub
end

/-! ### storing to a name -/
/-- the slot i gets o (the rest stays); what is borrowed is not overwritten -/
def stI (i : Nat) (o : O) (ρ : Rho) : Option Rho := match ρ[i]? with
  | some (some (.mu true _)) => none
  | some _ => some (ρ.set i (some o))
  | none => none
theorem Post.store {K : PySem.W.Frag} {S : Sta} {σ : L2.St} {ρ ρ' : Rho} {F H : Hp} {i : Nat} {o : O} {v : V} (p : Post K S σ ρ F H) (e : stI i o ρ = some ρ') (r : RfR K S σ ρ F H v (.o o)) : Post K S (σ.set i (some v)) ρ' F H := by
  unfold stI at e
  cases hi : ρ[i]? with
  | none => rw [hi] at e; cases e
  | some y =>
    have hil : i < ρ.length := (List.getElem?_eq_some_iff.mp hi).1
    have hiσ : i < σ.length := by rw [p.hd.len]; exact hil
    have nb : ∀ m, y ≠ some (.mu true m) := by
      rintro m rfl
      rw [hi] at e; cases e
    have e' : ρ' = ρ.set i (some o) := by
      rw [hi] at e
      cases y with
      | none => exact (Option.some.inj e).symm
      | some y =>
        cases y with
        | fz d => exact (Option.some.inj e).symm
        | mu b m =>
          cases b with
          | false => exact (Option.some.inj e).symm
          | true => exact absurd rfl (nb m)
    subst e'
    have sl : SlotX K F H v o := slot_o r
    have sσ : ∀ {j : Nat}, j ≠ i → (σ.set i (some v))[j]? = σ[j]? := fun h => List.getElem?_set_ne (Ne.symm h)
    have tmp : ∀ {j : Nat} {b1 : Bool} {m1 : Mu} {v1 : V} {b2 : Bool} {m2 : Mu} {c : Addr}, o = .mu b2 m2 → ρ[j]? = some (some (.mu b1 m1)) → σ[j]? = some (some v1) → c ∈ foot H m1 v1 → c ∈ foot H m2 v → False := by
      rintro j b1 m1 v1 b2 m2 c rfl e s h1 h2
      exact (r.2.2 c h2).2 ⟨j, b1, m1, v1, e, s, h1⟩
    refine ⟨⟨p.hd.le, by simp [p.hd.len], fun j o' e1 => ?_, fun j k b1 m1 b2 m2 v1 v2 c e1 e2 s1 s2 h1 h2 => ?_⟩, p.le, p.keep, p.nofz, fun b q => ?_, fun j m e1 => ?_⟩
    · rcases get_set e1 with ⟨rfl, z⟩ | ⟨ne, z⟩
      · cases z
        exact ⟨v, List.getElem?_set_self hiσ, sl⟩
      · obtain ⟨w, e2, r2⟩ := p.hd.at_ j o' z
        exact ⟨w, by rw [sσ ne]; exact e2, r2⟩
    · rcases get_set e1 with ⟨rfl, z1⟩ | ⟨n1, z1⟩
      · rcases get_set e2 with ⟨rfl, z2⟩ | ⟨n2, z2⟩
        · rfl
        · rw [List.getElem?_set_self hiσ] at s1
          cases s1
          rw [sσ n2] at s2
          exact (tmp (Option.some.inj z1) z2 s2 h2 h1).elim
      · rcases get_set e2 with ⟨rfl, z2⟩ | ⟨n2, z2⟩
        · rw [List.getElem?_set_self hiσ] at s2
          cases s2
          rw [sσ n1] at s1
          exact (tmp (Option.some.inj z2) z1 s1 h1 h2).elim
        · rw [sσ n1] at s1
          rw [sσ n2] at s2
          exact p.hd.sep j k b1 m1 b2 m2 v1 v2 c z1 z2 s1 s2 h1 h2
    · obtain ⟨j, b1, m1, v1, e1, q, hc⟩ := q
      rcases get_set e1 with ⟨rfl, z⟩ | ⟨ne, z⟩
      · cases z
        rw [List.getElem?_set_self hiσ] at q
        cases q
        exact (r.2.2 b hc).1
      · rw [sσ ne] at q
        exact p.own b ⟨j, b1, m1, v1, z, q, hc⟩
    · obtain ⟨e2, m', e3⟩ := p.bor j m e1
      have ne : j ≠ i := by
        rintro rfl
        rw [hi] at e3
        exact nb m' (Option.some.inj e3)
      exact ⟨by rw [sσ ne]; exact e2, m', by rw [set_ne ne]; exact e3⟩
/-- the value of an assignment: a temporary is kept as it is, what a name holds is frozen -/
def own : Rf → M O
  | .o o => M.ret o
  | .s i => (frz (.s i)).bind fun d => M.ret (.fz d)
def stM (i : Nat) (o : O) : M Fl := fun ρ => match stI i o ρ with
  | some ρ' => some (.ok .nx ρ')
  | none => none
theorem own_run {K : PySem.W.Frag} {W : WX} {S : Sta} {k : O → M Fl} {x : Rf} {σ : L2.St} {ρ : Rho} {F H : Hp} {D : Ends} {v : V} (r : RunS K W S ((own x).bind k) σ ρ F H D) (hσ : S.σ = σ) (rx : RfR K S σ ρ F H v x) :
    ∃ o ρ1 F1, RfR K S σ ρ1 F1 H v (.o o) ∧ RunS K W S (k o) σ ρ1 F1 H D := by
  cases x with
  | o o => exact ⟨o, ρ, F, rx, r⟩
  | s i =>
    obtain ⟨p, o, e, q⟩ := r
    subst hσ
    cases ef : Vs.frz (.s i) ρ with
    | none => simp only [own, M.bind, ef] at e; cases e
    | some o1 =>
      cases o1 with
      | ex c ρ1 =>
        exact (frz_ex ef).elim
      | ok d ρ1 =>
        have z : Run K W (DR K) S (Vs.frz (.s i)) ρ F H (fun v' H' => v' = v → H' = H → ∃ F1, RfR K S S.σ ρ1 F1 H v (.o (.fz d)) ∧ Post K S S.σ ρ1 F1 H) := by
          refine ⟨p, .ok d ρ1, ef, fun v' F' H' p' r' ev eH => ?_⟩
          subst ev eH
          exact ⟨F', r', p'⟩
        obtain ⟨F1, r1, p1⟩ := z.frz rx rfl rfl
        simp only [own, M.bind, ef, M.ret] at e
        exact ⟨.fz d, ρ1, F1, r1, p1, o, e, q⟩
section
variable {X : Cx} {W : WX} {e : Expr} {f : M Rf} {pos pos' : Pos}
theorem ev_set {i : Nat} {x : Str} (hN : X.N.Nodup) (hi : X.N[i]? = some x) (hx : Loc X.env.scope x) (he : EvO X W e f) (hs : swapsWith e (some (.Name x pos')) pos.line X.env = pure false := by rfl) (hf : X.fn x = true ∨ X.env.scope.names.lookup x = some .local := by first | exact .inl rfl | exact .inr rfl | assumption) :
    EvS X W (.Assign [.Name x pos'] e pos) (f.bind fun r => (own r).bind fun o => stM i o) := psI (ps_set hN hi hx he hs hf) fun D σ H ⟨ρ, F, r⟩ =>
  tG_mono (tG_S r) fun v H1 ⟨x, ρ1, F1, rx, r1⟩ => by
    obtain ⟨o, ρ2, F2, r2, p2, o2, e2, q2⟩ := own_run r1 rfl rx
    unfold stM at e2
    cases es : stI i o ρ2 with
    | none => rw [es] at e2; cases e2
    | some ρ3 =>
      rw [es] at e2; cases e2
      exact q2 _ F2 H1 (p2.store es r2)
end

/-! ### targets -/
/-- a target: what it makes of a frozen value -/
def TgR (K : PySem.W.Frag) (g : TG) (h : PyData → M Fl) : Prop := ∀ (W : WX) (S : Sta) (σ : L2.St) (ρ : Rho) (F H : Hp) (v : V) (d : PyData) (D : Ends), RunS K W S (h d) σ ρ F H D → Rp K F v d → g v σ H D.nx
def TgsR (K : PySem.W.Frag) (g : TGs) (h : List PyData → M Fl) : Prop := ∀ (W : WX) (S : Sta) (σ : L2.St) (ρ : Rho) (F H : Hp) (v : List V) (d : List PyData) (D : Ends), RunS K W S (h d) σ ρ F H D → RpA K F v d → g v σ H D.nx
def tgName (i : Nat) : PyData → M Fl := fun d => stM i (.fz d)
def tgNil : List PyData → M Fl
  | [] => M.ret .nx
  | _ :: _ => fun _ => none
def tgThen (hs : List PyData → M Fl) (ds : List PyData) : Option (Out Fl) → Option (Out Fl)
  | some (.ok .nx ρ') => hs ds ρ'
  | _ => none
def tgCons (h : PyData → M Fl) (hs : List PyData → M Fl) : List PyData → M Fl
  | [] => fun _ => none
  | d :: ds => fun ρ => tgThen hs ds (h d ρ)
def tgTup (n : Nat) (hs : List PyData → M Fl) : PyData → M Fl
  | .tuple ds => fun ρ => if ds.length = n then hs ds ρ else none
  | _ => fun _ => none
theorem tg_name {K : PySem.W.Frag} {i : Nat} : TgR K (gName i) (tgName i) := fun W S σ ρ F H v d D ⟨p, o, e, q⟩ r => by
  unfold tgName stM at e
  cases es : stI i (.fz d) ρ with
  | none => rw [es] at e; cases e
  | some ρ3 =>
    rw [es] at e; cases e
    exact q _ F H (p.store es r)
theorem tg_nil {K : PySem.W.Frag} : TgsR K gNil tgNil := fun W S σ ρ F H v d D ⟨p, o, e, q⟩ r => by
  cases r with
  | nil =>
    cases e
    exact ⟨rfl, q _ F H p⟩
  | cons _ _ => cases e
theorem tg_cons {K : PySem.W.Frag} {g : TG} {gs : TGs} {h : PyData → M Fl} {hs : List PyData → M Fl} (a : TgR K g h) (b : TgsR K gs hs) (mono : ∀ v σ H Q Q', (∀ σ H, Q σ H → Q' σ H) → g v σ H Q → g v σ H Q') : TgsR K (gCons g gs) (tgCons h hs) := fun W S σ ρ F H v d D ⟨p, o, e, q⟩ r => by
  cases r with
  | nil => cases e
  | @cons v vs d ds r rs =>
    refine ⟨v, vs, rfl, ?_⟩
    have e : tgThen hs ds (h d ρ) = some o := e
    cases eh : h d ρ with
    | none => rw [eh] at e; cases e
    | some o1 =>
      cases o1 with
      | ex c ρ' => rw [eh] at e; cases e
      | ok fl ρ' =>
        cases fl with
        | nx =>
          rw [eh] at e
          exact a W ⟨σ, ρ, F, H⟩ σ ρ F H v d { D with nx := fun σ' H' => gs vs σ' H' D.nx } ⟨Post.refl p.hd, .ok .nx ρ', eh, fun σ' F' H' p' => b W S σ' ρ' F' H' vs ds D ⟨p.trans p', o, e, q⟩ (RpA.mono p'.le rs)⟩ r
        | bk => rw [eh] at e; cases e
        | ct => rw [eh] at e; cases e
        | rt _ => rw [eh] at e; cases e
theorem tg_tup {K : PySem.W.Frag} {gs : TGs} {hs : List PyData → M Fl} {n : Nat} (a : TgsR K gs hs) : TgR K (gTup K n gs) (tgTup n hs) := fun W S σ ρ F H v d D ⟨p, o, e, q⟩ r => by
  cases r with
  | @tup a' xs ds h1 h2 =>
    have e : (if ds.length = n then hs ds ρ else none) = some o := e
    by_cases hl : ds.length = n
    · rw [if_pos hl] at e
      exact ⟨a', xs, rfl, p.hd.le.seqT h1, by rw [h2.len]; exact hl, a W S σ ρ F H xs ds D ⟨p, o, e, q⟩ h2⟩
    · rw [if_neg hl] at e
      cases e
  | _ => cases e
theorem gName_mono {i : Nat} : ∀ v σ H Q Q', (∀ σ H, Q σ H → Q' σ H) → gName i v σ H Q → gName i v σ H Q' := fun _ _ _ _ _ k h => k _ _ h
section
variable {X : Cx} {W : WX} {e tg : Expr} {f : M Rf} {pos pos' : Pos}
theorem ev_asg {g : TG} {h : PyData → M Fl} (he : EvO X W e f) (hg : PG X tg g) (ht : TgR X.K g h) (hs : swapsWithSole [tg] e pos.line X.env = pure false := by rfl) (hw : swappedStores [tg] e X.env = pure none := by rfl)
    (h1 : (assignEach [tg] X.env).map (·.2) = [assign tg X.env] := by rfl) : EvS X W (.Assign [tg] e pos) ((f.bind frz).bind h) := psI (ps_asg (ev_frz he) hg hs hw h1) fun D σ H ⟨ρ, F, r⟩ =>
  tG_mono (tG_S r) fun v H1 ⟨x, ρ1, F1, rx, r1⟩ => ht W _ σ ρ1 F1 H1 v x D r1 rx
end
end Vs

/-! Vs, defs and their calls. -/
namespace Vs
open PySem PySem.Spec L2

/-! ### a def's promise, where nothing is being shown -/
structure FnG (P : Program) (w : World) (K : PySem.W.Frag) (mg : Str → Option Value) (base : Heap) (k : Nat) (f : Addr) (fd : FuncData) (ps : List Str) (g : M O) : Prop where
  run : ∀ (A : Around) (outer : List Env) (s : Shared) (H : Hp) (args : Args) (us : List Value) (vs : List V) (Q : VK) (E : XK) (ρ : Rho) (F : Hp), A.guards = some [] → Room k A → Env0 P w K mg base A outer s H → BindsTo s fd args (ps.zip us) → Vals vs us → vs.length = ps.length →
    Run K (fun c d _ H => E c d H) (fun S σ ρ F H v o => RfR K S σ ρ F H v (.o o)) ⟨vs.map some, ρ, F, H⟩ g ρ F H Q →
    codeAny (model P w) A (.call (.ref f) args) (CR (L2N.CX P w) outer P w H s Q E) s
theorem FnG.mono {P : Program} {w : World} {K : PySem.W.Frag} {mg : Str → Option Value} {base : Heap} {j k : Nat} {f : Addr} {fd : FuncData} {ps : List Str} {g : M O} (h : FnG P w K mg base j f fd ps g) (hk : j ≤ k) : FnG P w K mg base k f fd ps g :=
  ⟨fun A outer s H args us vs Q E ρ F hg hr => h.run A outer s H args us vs Q E ρ F hg (hr.mono hk)⟩

/-- what a def is worth: from its body's run -/
def okArg : Option O → Bool
  | some (.fz _) => true
  | some (.mu true _) => true
  | _ => false
def keepF (r' : Rho) (i : Nat) (y : Option O) : Option O := match y with
  | some (.mu true m) => (match r'[i]? with | some (some (.mu true m')) => some (.mu true m') | _ => some (.mu true m))
  | y => y
def keepB (r r' : Rho) : Rho := r.mapIdx (keepF r')
def resO (ρ : Rho) : Rf → Option O
  | .o o => some o
  | .s i => match ρ[i]? with
    | some (some (.fz d)) => some (.fz d)
    | some (some (.mu false m)) => some (.mu false m)
    | _ => none
def defOut (ρ : Rho) : Option (Out Fl) → Option (Out O)
  | some (.ok (.rt r) ρ') => (match resO ρ' r with | some o => some (.ok o (keepB ρ ρ')) | none => none)
  | some (.ok .nx ρ') => some (.ok (.fz .none) (keepB ρ ρ'))
  | some (.ex c ρ') => some (.ex c (keepB ρ ρ'))
  | _ => none
def defG (n N : Nat) (fB : M Fl) : M O := fun ρ => if ρ.length = n ∧ ρ.all okArg = true then defOut ρ (fB (ρ ++ List.replicate (N - n) none)) else none

theorem keepB_len (r r' : Rho) : (keepB r r').length = r.length := by unfold keepB; rw [List.length_mapIdx]
theorem keepB_get (r r' : Rho) (i : Nat) : (keepB r r')[i]? = (r[i]?).map (keepF r' i) := by unfold keepB; rw [List.getElem?_mapIdx]
theorem keepB_fz (r r' : Rho) (i : Nat) (o : O) (hk : r.all okArg = true) (e : (keepB r r')[i]? = some (some o)) : (∃ d, o = .fz d ∧ r[i]? = some (some (.fz d))) ∨ ∃ m m', o = .mu true m' ∧ r[i]? = some (some (.mu true m)) ∧ (r'[i]? = some (some (.mu true m')) ∨ (m' = m ∧ ∀ (m2 : Mu), r'[i]? ≠ some (some (.mu true m2)))) := by
  rw [keepB_get] at e
  cases hi : r[i]? with
  | none => rw [hi] at e; cases e
  | some y =>
    rw [hi] at e
    have e2 : keepF r' i y = some o := Option.some.inj e
    have ok : okArg y = true := List.all_eq_true.mp hk _ (List.mem_of_getElem? hi)
    cases y with
    | none => cases ok
    | some y =>
      cases y with
      | fz d =>
        have e3 : some (O.fz d) = some o := e2
        cases e3
        exact .inl ⟨d, rfl, rfl⟩
      | mu b m =>
        cases b with
        | false => cases ok
        | true =>
          have e3 : (match r'[i]? with | some (some (.mu true m')) => some (O.mu true m') | _ => some (O.mu true m)) = some o := e2
          split at e3
          next m' h => cases e3; exact .inr ⟨m, m', rfl, rfl, .inl h⟩
          next h => cases e3; exact .inr ⟨m, m, rfl, rfl, .inr ⟨rfl, h⟩⟩
theorem keepB_mu {r r' : Rho} {i : Nat} {m m' : Mu} (e : r[i]? = some (some (.mu true m))) (e' : r'[i]? = some (some (.mu true m'))) : (keepB r r')[i]? = some (some (.mu true m')) := by
  rw [keepB_get, e]
  show some (match r'[i]? with | some (some (.mu true m')) => some (O.mu true m') | _ => some (O.mu true m)) = _
  rw [e']

section
variable {K : PySem.W.Frag} {vs : List V} {ρ : Rho} {F H : Hp} {n N : Nat}
theorem app_get {ρ : Rho} {m i : Nat} {o : O} (h : (ρ ++ List.replicate m none)[i]? = some (some o)) : ρ[i]? = some (some o) := by
  by_cases hi : i < ρ.length
  · rwa [List.getElem?_append_left hi] at h
  · rw [List.getElem?_append_right (by omega), List.getElem?_replicate] at h
    split at h <;> cases h
theorem get_app {ρ : Rho} {m i : Nat} {o : O} (h : ρ[i]? = some (some o)) : (ρ ++ List.replicate m none)[i]? = some (some o) := by
  rw [List.getElem?_append_left (List.getElem?_eq_some_iff.mp h).1]
  exact h
theorem getσ_app {σ : L2.St} {m i : Nat} {o : V} (h : σ[i]? = some (some o)) : (σ ++ List.replicate m none)[i]? = some (some o) := by
  rw [List.getElem?_append_left (List.getElem?_eq_some_iff.mp h).1]
  exact h
theorem σapp_get {σ : L2.St} {m i : Nat} {o : V} (h : (σ ++ List.replicate m none)[i]? = some (some o)) : σ[i]? = some (some o) := by
  by_cases hi : i < σ.length
  · rwa [List.getElem?_append_left hi] at h
  · rw [List.getElem?_append_right (by omega), List.getElem?_replicate] at h
    split at h <;> cases h
theorem Hd.enter {m : Nat} {σ : L2.St} (h : Hd K σ ρ F H) : Hd K (σ ++ List.replicate m none) (ρ ++ List.replicate m none) F H :=
  ⟨h.le, by simp [h.len], fun i o e => by
    obtain ⟨v, e1, r⟩ := h.at_ i o (app_get e)
    exact ⟨v, getσ_app e1, r⟩, fun i j b m b' m' v v' a e1 e2 s1 s2 h1 h2 => h.sep i j b m b' m' v v' a (app_get e1) (app_get e2) (σapp_get s1) (σapp_get s2) h1 h2⟩
theorem own_app {m : Nat} {σ : L2.St} {a : Addr} : Own (σ ++ List.replicate m none) (ρ ++ List.replicate m none) H a ↔ Own σ ρ H a :=
  ⟨fun ⟨i, b, m, v, e, q, h⟩ => ⟨i, b, m, v, app_get e, σapp_get q, h⟩, fun ⟨i, b, m, v, e, q, h⟩ => ⟨i, b, m, v, get_app e, getσ_app q, h⟩⟩
/-- behind a body's run: what the caller's side sees -/
theorem Post.leave {m : Nat} {σ σ' : L2.St} {ρ' : Rho} {F' H' : Hp} (hk : ρ.all okArg = true) (h : Hd K σ ρ F H) (p : Post K ⟨σ ++ List.replicate m none, ρ ++ List.replicate m none, F, H⟩ σ' ρ' F' H') :
    Post K ⟨σ, ρ, F, H⟩ σ (keepB ρ ρ') F' H' ∧ (∀ a, Own σ (keepB ρ ρ') H' a → ∃ (i : Nat) (mm : Mu) (v : V), ρ'[i]? = some (some (.mu true mm)) ∧ σ'[i]? = some (some v) ∧ a ∈ foot H' mm v) := by
  have key : ∀ (i : Nat) (o : O), (keepB ρ ρ')[i]? = some (some o) → (∃ d, o = .fz d ∧ ρ[i]? = some (some (.fz d))) ∨ ∃ m0 m', o = .mu true m' ∧ ρ[i]? = some (some (.mu true m0)) ∧ ρ'[i]? = some (some (.mu true m')) ∧ σ'[i]? = σ[i]? := by
    intro i o e
    rcases keepB_fz ρ ρ' i o hk e with h1 | ⟨m0, m', rfl, e1, e2⟩
    · exact .inl h1
    · obtain ⟨s1, m2, s2⟩ := p.bor i m0 (get_app e1)
      rcases e2 with e2 | ⟨_, e2⟩
      · refine .inr ⟨m0, m', rfl, e1, e2, s1.trans ?_⟩
        obtain ⟨v, e3, _⟩ := h.at_ i _ e1
        show (σ ++ List.replicate m none)[i]? = σ[i]?
        rw [e3]
        exact getσ_app e3
      · exact absurd s2 (e2 m2)
  refine ⟨⟨⟨p.hd.le, by rw [keepB_len]; exact h.len, fun i o e => ?_, fun i j b m1 b' m2 v v' a e1 e2 s1 s2 h1 h2 => ?_⟩, p.le, fun b o e q => p.keep b o e fun z => q (own_app.mp z), fun b o e q f => p.nofz b o e (fun z => q (own_app.mp z)) f, fun b q => ?_, fun i mm e => ?_⟩, fun a q => ?_⟩
  · rcases key i o e with ⟨d, rfl, e1⟩ | ⟨m0, m', rfl, e1, e2, e3⟩
    · obtain ⟨v, e4, r⟩ := h.at_ i _ e1
      exact ⟨v, e4, Rp.mono p.le r⟩
    · obtain ⟨v, e4, r⟩ := p.hd.at_ i _ e2
      exact ⟨v, by rw [← e3]; exact e4, r⟩
  · rcases key i _ e1 with ⟨d, z, _⟩ | ⟨n1, n1', z1, f1, g1, q1⟩
    · cases z
    · rcases key j _ e2 with ⟨d, z, _⟩ | ⟨n2, n2', z2, f2, g2, q2⟩
      · cases z
      · cases z1; cases z2
        exact p.hd.sep i j _ _ _ _ v v' a g1 g2 (q1.trans s1) (q2.trans s2) h1 h2
  · obtain ⟨i, b1, m1, v, e, s, hc⟩ := q
    rcases key i _ e with ⟨d, z, _⟩ | ⟨n1, n1', z, f1, g1, q1⟩
    · cases z
    · cases z
      rcases p.own b ⟨i, true, _, v, g1, q1.trans s, hc⟩ with z | z
      · exact .inl (own_app.mp z)
      · exact .inr z
  · refine ⟨rfl, ?_⟩
    obtain ⟨s1, m2, s2⟩ := p.bor i mm (get_app e)
    exact ⟨m2, keepB_mu e s2⟩
  · obtain ⟨i, b1, m1, v, e, s, hc⟩ := q
    rcases key i _ e with ⟨d, z, _⟩ | ⟨n1, n1', z, f1, f2, f3⟩
    · cases z
    · cases z
      exact ⟨i, _, v, f2, by rw [f3]; exact s, hc⟩
end

section
variable {P : Program} {w : World} {K : PySem.W.Frag} {mg : Str → Option Value} {base : Heap}
/-- the context of a def's body, here -/
abbrev cx (P : Program) (w : World) (K : PySem.W.Frag) (mg : Str → Option Value) (base : Heap) (N : List Str) (qual : Str) (st : Stmt) (f : Addr) (cdv : Value) (A : Around) (outer : List Env) (s : Shared) (H : Hp) (E : XK) : Cx :=
  cxOf (L2N.CX P w) P w K mg base N qual (defScope st) f cdv A outer s H E
abbrev WXof (E : XK) : WX := fun c d _ H => E c d H
theorem cx_takes {N : List Str} {qual : Str} {st : Stmt} {f : Addr} {cdv : Value} {A : Around} {outer : List Env} {s : Shared} {H : Hp} {E : XK} : L2N.Takes (cx P w K mg base N qual st f cdv A outer s H E) (WXof E) :=
  L2N.takes_of rfl rfl rfl rfl
/-- THE RULE for a def -/
theorem FnG.of {x qual : Str} {st : Stmt} {f : Addr} {fd : FuncData} {N ps : List Str} {k : Nat} {fB : M Fl} (Fu : Fun K x qual st f fd) (S : FnScope N ps (defScope st))
    (hbody : ∀ (cdv : Value) (A : Around) (outer : List Env) (s : Shared) (H : Hp) (E : XK), A.guards = some [] → Room k (A.deeper (PyProof.Rows.envOfC qual (defScope st) s.heap.objs.size f cdv)) →
      EvB (cx P w K mg base N qual st f cdv A outer s H E) (WXof E) (defBody st) fB) : FnG P w K mg base (k + 1) f fd ps (defG ps.length N.length fB) := by
  obtain ⟨oc, od, kV, doc, pm, an, cdv, ct, osl, rfl, lk, hcd⟩ := Fu.ex
  refine ⟨fun A outer s H args us vs Q E ρ F hg hr e0 hb r hl R => ?_⟩
  obtain ⟨p, out, eo, fin⟩ := R
  unfold defG at eo
  split at eo
  next hc =>
    obtain ⟨hc1, hc2⟩ := hc
    -- the function is entered
    have inHeap : K.In s.heap := e0.mod.kin.keeps fun b o e => (e0.bs b o e).1
    have noLim : s.heap.NoLimit := e0.mod.nolimit.keeps fun b o e => (e0.bs b o e).1
    have names : ∀ y ∈ ps.zip us, (defScope st).names.lookup y.1 = some .local ∨ ((defScope st).names.lookup y.1 = some .cell ∧ ((cellsFrom (s.heap.objs.size + 1) (defScope st).names []).lookup y.1).isSome = true) := by
      rintro ⟨a, b⟩ hy
      rcases S.par a (List.of_mem_zip hy).1 with q | q
      · exact Or.inl q
      · exact Or.inr ⟨q, PySem.W.cellsFrom_some _ _ _ (Or.inl q)⟩
    refine codeAny_call_function hr.depth (inHeap _ _ lk) rfl S.co S.gen rfl (PySem.W.codeRec_of inHeap hcd) (hb _ _ _ _ (wpAny_newFunctionEnv_cells S.kind names ?_))
    rintro env rfl s1 made
    refine ⟨noLim.keeps made.toInCall.keep, codeAny_func ?_⟩
    have body := hbody cdv A outer s H E hg (hr.deeper _)
    have atStart := inv_start (CX := L2N.CX P w) (E := E) S hr.hd e0 hl r made
    have hst : L2.start N vs = vs.map some ++ List.replicate (N.length - ps.length) none := by
      unfold L2.start
      rw [hl]
    have hd0 : Hd K (L2.start N vs) (ρ ++ List.replicate (N.length - ps.length) none) F H := by
      rw [hst]
      exact p.hd.enter
    -- what the body must reach
    have reach : ∀ (σ' : L2.St) (ρ' : Rho) (F' H' : Hp), Post K ⟨L2.start N vs, ρ ++ List.replicate (N.length - ps.length) none, F, H⟩ σ' ρ' F' H' → Post K ⟨vs.map some, ρ, F, H⟩ (vs.map some) (keepB ρ ρ') F' H' ∧ (∀ a, Own (vs.map some) (keepB ρ ρ') H' a → ∃ (i : Nat) (mm : Mu) (v : V), ρ'[i]? = some (some (.mu true mm)) ∧ σ'[i]? = some (some v) ∧ a ∈ foot H' mm v) := by
      intro σ' ρ' F' H' p'
      rw [hst] at p'
      exact Post.leave hc2 p.hd p'
    have newUp : ∀ a, New ⟨L2.start N vs, ρ ++ List.replicate (N.length - ps.length) none, F, H⟩ a → New ⟨vs.map some, ρ, F, H⟩ a := by
      intro a h
      rcases h with h | h
      · rw [hst] at h
        exact .inl (own_app.mp h)
      · exact .inr h
    have want : tS K (WXof E) fB { nx := fun _ H' => Q .non H', rt := Q } (L2.start N vs) H := by
      refine ⟨ρ ++ List.replicate (N.length - ps.length) none, F, Post.refl hd0, ?_⟩
      cases eb : fB (ρ ++ List.replicate (N.length - ps.length) none) with
      | none => rw [eb] at eo; cases eo
      | some ob =>
        refine ⟨ob, rfl, ?_⟩
        rw [eb] at eo
        cases ob with
        | ex c ρ' =>
          cases eo
          intro d σ' F' H' p'
          exact fin d F' H' (reach σ' ρ' F' H' p').1
        | ok fl ρ' =>
          cases fl with
          | bk => cases eo
          | ct => cases eo
          | nx =>
            cases eo
            intro σ' F' H' p'
            exact fin .non F' H' (reach σ' ρ' F' H' p').1 .non
          | rt rf =>
            intro v σ' F' H' p' rr
            obtain ⟨p1, p2⟩ := reach σ' ρ' F' H' p'
            have eo' : (match resO ρ' rf with | some o => some (Out.ok o (keepB ρ ρ')) | none => none) = some out := eo
            cases rf with
            | o o =>
              have eo2 : some (Out.ok o (keepB ρ ρ')) = some out := eo'
              cases eo2
              refine fin v F' H' p1 ?_
              cases o with
              | fz d => exact rr
              | mu b m =>
                refine ⟨rr.1, rr.2.1, fun a ea => ⟨newUp a (rr.2.2 a ea).1, fun q => ?_⟩⟩
                obtain ⟨i, mm, v2, z1, z2, z3⟩ := p2 a q
                exact (rr.2.2 a ea).2 ⟨i, true, mm, v2, z1, z2, z3⟩
            | s i =>
              have hv : σ'[i]? = some (some v) := rr
              cases ei : ρ'[i]? with
              | none => simp only [resO, ei] at eo'; cases eo'
              | some y =>
                cases y with
                | none => simp only [resO, ei] at eo'; cases eo'
                | some y =>
                  obtain ⟨v2, hv2, sl⟩ := p'.hd.at_ i y ei
                  rw [hv] at hv2; cases hv2
                  cases y with
                  | fz d =>
                    simp only [resO, ei] at eo'
                    cases eo'
                    exact fin v F' H' p1 sl
                  | mu b m =>
                    cases b with
                    | true => simp only [resO, ei] at eo'; cases eo'
                    | false =>
                      simp only [resO, ei] at eo'
                      cases eo'
                      refine fin v F' H' p1 ⟨rfl, sl, fun a ea => ?_⟩
                      refine ⟨newUp a (p'.own a ⟨i, false, m, v, ei, hv, ea⟩), fun q => ?_⟩
                      obtain ⟨j, mm, v2, z1, z2, z3⟩ := p2 a q
                      have := p'.hd.sep i j _ _ _ _ v v2 a ei z1 hv z2 ea z3
                      subst this
                      rw [ei] at z1; cases z1
    refine wpAny_mono (body.run [] s1 (L2.start N vs) H _ atStart want) (fun fl s' hs => ?_) fun _ _ hs => hs
    cases fl with
    | ret u => obtain ⟨v, σ', H', J, rv, q⟩ := hs; exact ⟨v, H', J.os, J.bare, J.base, J.hok, rv, q⟩
    | next => obtain ⟨σ', H', J, q⟩ := hs; exact ⟨.non, H', J.os, J.bare, J.base, J.hok, rfl, q⟩
    | brk => obtain ⟨_, _, _, q⟩ := hs; exact q.elim
    | cont => obtain ⟨_, _, _, q⟩ := hs; exact q.elim
  next => cases eo
end
end Vs

/-! Vs, calls of defs, the law's end. -/
namespace Vs
open PySem PySem.Spec L2

inductive Arg where
  | fz (d : PyData)
  | br (i : Nat)
def ArgR (K : PySem.W.Frag) (σ : L2.St) (F : Hp) (v : V) : Arg → Prop
  | .fz d => Rp K F v d
  | .br i => σ[i]? = some (some v)
def GR (K : PySem.W.Frag) (_ : Sta) (σ : L2.St) (_ : Rho) (F _ : Hp) (vs : List V) (xs : List Arg) : Prop := Paired (ArgR K σ F) vs xs
abbrev EvG (X : Cx) (W : WX) (e : List Expr) (f : M (List Arg)) : Prop := PA X e (tG X.K W (GR X.K) f)
theorem ArgR.mono {K : PySem.W.Frag} {σ : L2.St} {F F' : Hp} {v : V} {x : Arg} (e : Le F F') (h : ArgR K σ F v x) : ArgR K σ F' v x := by
  cases x with
  | fz d => exact Rp.mono e h
  | br i => exact h
section
variable {X : Cx} {W : WX} {e : Expr} {es : List Expr} {g : M (List Arg)} {pos : Pos}
theorem evG_nil : EvG X W [] (M.ret []) := paI pa_nil fun σ H Q ⟨ρ, F, p, o, e, q⟩ => by
  cases e
  exact q [] F H p .nil
theorem evG_fz {f : M Rf} (ha : EvO X W e f) (hr : EvG X W es g) (hs : starEach (e :: es) X.env = (false, eval e X.env) :: starEach es X.env := by rfl) :
    EvG X W (e :: es) ((f.bind frz).bind fun d => g.bind fun ds => M.ret (.fz d :: ds)) := paI (pa_cons (ev_frz ha) hr hs) fun σ H Q ⟨ρ, F, r⟩ =>
  ⟨ρ, F, r.bind.mono fun v H1 ⟨x, ρ1, F1, rx, p, r2⟩ => ⟨ρ1, F1, r2.bind.mono fun vs H2 ⟨xs, ρ2, F2, rxs, p2, ⟨p3, o, e3, q⟩⟩ => by
    cases e3
    exact q (v :: vs) F2 H2 p3 (.cons (show ArgR X.K σ F2 v (.fz x) from Rp.mono p2.le rx) rxs)⟩⟩
theorem evG_br {i : Nat} {x : Str} (ha : PE X (.Name x pos) (tVar i)) (hr : EvG X W es g) (hs : starEach (.Name x pos :: es) X.env = (false, eval (.Name x pos) X.env) :: starEach es X.env := by rfl) :
    EvG X W (.Name x pos :: es) (fun ρ => match ρ[i]? with | some (some _) => (g.bind fun ds => M.ret (.br i :: ds)) ρ | _ => none) := paI (pa_cons ha hr hs) fun σ H Q ⟨ρ, F, p, o, e, q⟩ => by
  cases e1 : ρ[i]? with
  | none => simp only [e1] at e; cases e
  | some y =>
    cases y with
    | none => simp only [e1] at e; cases e
    | some y =>
      simp only [e1] at e
      obtain ⟨v, e2, _⟩ := p.hd.at_ i y e1
      have r : Run X.K W (GR X.K) ⟨σ, ρ, F, H⟩ (g.bind fun ds => M.ret (.br i :: ds)) ρ F H Q := ⟨p, o, e, q⟩
      exact ⟨v, e2, ρ, F, r.bind.mono fun vs H2 ⟨xs, ρ2, F2, rxs, p2, ⟨p3, o, e3, q⟩⟩ => by
        cases e3
        exact q (v :: vs) F2 H2 p3 (.cons (show ArgR X.K σ F2 v (.br i) from e2) rxs)⟩
end

def brAt (i : Nat) : List Arg → Option Nat
  | [] => none
  | .br j :: xs => if j = i then some 0 else (brAt i xs).map (· + 1)
  | .fz _ :: xs => (brAt i xs).map (· + 1)
def brOk : List Arg → Bool
  | [] => true
  | .br j :: xs => (brAt j xs).isNone && brOk xs
  | .fz _ :: xs => brOk xs
def argE (ρ : Rho) : List Arg → Option Rho
  | [] => some []
  | .fz d :: xs => (argE ρ xs).map (some (.fz d) :: ·)
  | .br i :: xs => match ρ[i]? with
    | some (some (.mu _ m)) => (argE ρ xs).map (some (.mu true m) :: ·)
    | _ => none
def backF (xs : List Arg) (ρa : Rho) (i : Nat) (y : Option O) : Option O := match brAt i xs with
  | some p => (match y, ρa[p]? with
    | some (.mu b _), some (some (.mu _ m')) => some (.mu b m')
    | y, _ => y)
  | none => y
def back (ρ : Rho) (xs : List Arg) (ρa : Rho) : Rho := ρ.mapIdx (backF xs ρa)
def callOut (ρ : Rho) (xs : List Arg) : Option (Out O) → Option (Out Rf)
  | some (.ok o ρa) => some (.ok (.o o) (back ρ xs ρa))
  | some (.ex c ρa) => some (.ex c (back ρ xs ρa))
  | none => none
def callG (g : M O) (xs : List Arg) : M Rf := fun ρ => match argE ρ xs with
  | some ρa => if brOk xs = true then callOut ρ xs (g ρa) else none
  | none => none

theorem brAt_get : ∀ {xs : List Arg} {i p : Nat}, brAt i xs = some p → xs[p]? = some (.br i)
  | [], i, p, e => by cases e
  | .fz d :: xs, i, p, e => by
    have e : (brAt i xs).map (· + 1) = some p := e
    obtain ⟨q, e1, rfl⟩ := Option.map_eq_some_iff.mp e
    simpa using brAt_get e1
  | .br j :: xs, i, p, e => by
    have e : (if j = i then some 0 else (brAt i xs).map (· + 1)) = some p := e
    by_cases h : j = i
    · rw [if_pos h] at e; cases e; subst h; rfl
    · rw [if_neg h] at e
      obtain ⟨q, e1, rfl⟩ := Option.map_eq_some_iff.mp e
      simpa using brAt_get e1
theorem brAt_some : ∀ {xs : List Arg} {i p : Nat}, xs[p]? = some (.br i) → (brAt i xs).isSome = true
  | [], i, p, e => by simp at e
  | .fz d :: xs, i, p, e => by
    show ((brAt i xs).map (· + 1)).isSome = true
    cases p with
    | zero => simp at e
    | succ p => rw [Option.isSome_map]; exact brAt_some (p := p) (by simpa using e)
  | .br j :: xs, i, p, e => by
    show (if j = i then some 0 else (brAt i xs).map (· + 1)).isSome = true
    by_cases h : j = i
    · rw [if_pos h]; rfl
    · rw [if_neg h]
      cases p with
      | zero => simp at e; exact absurd e h
      | succ p => rw [Option.isSome_map]; exact brAt_some (p := p) (by simpa using e)
theorem brOk_at : ∀ {xs : List Arg} {i p : Nat}, brOk xs = true → xs[p]? = some (.br i) → brAt i xs = some p
  | [], i, p, _, e => by simp at e
  | .fz d :: xs, i, p, k, e => by
    show (brAt i xs).map (· + 1) = some p
    cases p with
    | zero => simp at e
    | succ p => rw [brOk_at (xs := xs) (p := p) k (by simpa using e)]; rfl
  | .br j :: xs, i, p, k, e => by
    show (if j = i then some 0 else (brAt i xs).map (· + 1)) = some p
    have k : ((brAt j xs).isNone && brOk xs) = true := k
    rw [Bool.and_eq_true] at k
    cases p with
    | zero => simp at e; rw [if_pos e]
    | succ p =>
      have e' : xs[p]? = some (.br i) := by simpa using e
      have q := brOk_at (p := p) k.2 e'
      by_cases h : j = i
      · subst h
        rw [q] at k
        exact absurd k.1 (by simp)
      · rw [if_neg h, q]; rfl
theorem argE_len {ρ : Rho} : ∀ {xs : List Arg} {ρa : Rho}, argE ρ xs = some ρa → ρa.length = xs.length
  | [], ρa, e => by cases e; rfl
  | .fz d :: xs, ρa, e => by
    obtain ⟨r, e1, rfl⟩ := Option.map_eq_some_iff.mp (show (argE ρ xs).map (some (.fz d) :: ·) = some ρa from e)
    simp [argE_len e1]
  | .br i :: xs, ρa, e => by
    unfold argE at e
    split at e
    · obtain ⟨r, e1, rfl⟩ := Option.map_eq_some_iff.mp e
      simp [argE_len e1]
    · cases e
theorem argE_get {ρ : Rho} : ∀ {xs : List Arg} {ρa : Rho} {p : Nat} {o : O}, argE ρ xs = some ρa → ρa[p]? = some (some o) → (∃ d, xs[p]? = some (.fz d) ∧ o = .fz d) ∨ ∃ (i : Nat) (b : Bool) (m : Mu), xs[p]? = some (.br i) ∧ ρ[i]? = some (some (.mu b m)) ∧ o = .mu true m
  | [], ρa, p, o, e, h => by cases e; simp at h
  | .fz d :: xs, ρa, p, o, e, h => by
    obtain ⟨r, e1, rfl⟩ := Option.map_eq_some_iff.mp (show (argE ρ xs).map (some (.fz d) :: ·) = some ρa from e)
    cases p with
    | zero => simp at h; subst h; exact .inl ⟨d, rfl, rfl⟩
    | succ p => simpa using argE_get (p := p) e1 (by simpa using h)
  | .br i :: xs, ρa, p, o, e, h => by
    unfold argE at e
    split at e
    · rename_i b m hi
      obtain ⟨r, e1, rfl⟩ := Option.map_eq_some_iff.mp e
      cases p with
      | zero => simp at h; subst h; exact .inr ⟨i, b, m, rfl, hi, rfl⟩
      | succ p => simpa using argE_get (p := p) e1 (by simpa using h)
    · cases e
theorem argE_br {ρ : Rho} : ∀ {xs : List Arg} {ρa : Rho} {p i : Nat}, argE ρ xs = some ρa → xs[p]? = some (.br i) → ∃ (b : Bool) (m : Mu), ρ[i]? = some (some (.mu b m)) ∧ ρa[p]? = some (some (.mu true m))
  | [], ρa, p, i, e, h => by simp at h
  | .fz d :: xs, ρa, p, i, e, h => by
    obtain ⟨r, e1, rfl⟩ := Option.map_eq_some_iff.mp (show (argE ρ xs).map (some (.fz d) :: ·) = some ρa from e)
    cases p with
    | zero => simp at h
    | succ p => simpa using argE_br (p := p) e1 (by simpa using h)
  | .br j :: xs, ρa, p, i, e, h => by
    unfold argE at e
    split at e
    · rename_i b m hi
      obtain ⟨r, e1, rfl⟩ := Option.map_eq_some_iff.mp e
      cases p with
      | zero => simp at h; subst h; exact ⟨b, m, hi, rfl⟩
      | succ p => simpa using argE_br (p := p) e1 (by simpa using h)
    · cases e

section
variable {K : PySem.W.Frag} {S : Sta} {σ : L2.St} {ρ ρa ρa' : Rho} {F H F' H' : Hp} {vs : List V} {xs : List Arg}
theorem paired_get {α β : Type} {G : α → β → Prop} : ∀ {xs : List α} {ys : List β} {i : Nat} {y : β}, Paired G xs ys → ys[i]? = some y → ∃ x, xs[i]? = some x ∧ G x y
  | _, _, _, _, .nil, e => by simp at e
  | _, _, 0, _, .cons h _, e => by simp at e; subst e; exact ⟨_, rfl, h⟩
  | _, _, i + 1, _, .cons _ r, e => by simpa using paired_get (i := i) r (by simpa using e)
theorem vget {i : Nat} {v : V} (h : vs[i]? = some v) : (vs.map some)[i]? = some (some v) := by rw [List.getElem?_map, h]; rfl
theorem vget' {i : Nat} {v : V} (h : (vs.map some)[i]? = some (some v)) : vs[i]? = some v := by
  rw [List.getElem?_map] at h
  cases e : vs[i]? with
  | none => rw [e] at h; cases h
  | some a => rw [e] at h; cases h; rfl
/-- the callee's side at a call -/
theorem Hd.args (h : Hd K σ ρ F H) (ea : argE ρ xs = some ρa) (hk : brOk xs = true) (r : Paired (ArgR K σ F) vs xs) : Hd K (vs.map some) ρa F H ∧ ∀ a, Own (vs.map some) ρa H a → ∃ (i p : Nat) (b : Bool) (m : Mu) (v : V), xs[p]? = some (.br i) ∧ ρ[i]? = some (some (.mu b m)) ∧ σ[i]? = some (some v) ∧ a ∈ foot H m v := by
  refine ⟨⟨h.le, by rw [List.length_map, Paired.length r, argE_len ea], fun p o e => ?_, fun p q b m b' m' w w' a e1 e2 s1 s2 k1 k2 => ?_⟩, fun a ⟨p, b, m, w, e, s, hc⟩ => ?_⟩
  · rcases argE_get ea e with ⟨d, e1, rfl⟩ | ⟨i, b, m, e1, e2, rfl⟩
    · obtain ⟨v, hv, rv⟩ := paired_get r e1
      exact ⟨v, vget hv, rv⟩
    · obtain ⟨v, hv, rv⟩ := paired_get r e1
      obtain ⟨v2, e3, sl⟩ := h.at_ i _ e2
      have rv' : σ[i]? = some (some v) := rv
      rw [rv'] at e3; cases e3
      exact ⟨v, vget hv, sl⟩
  · rcases argE_get ea e1 with ⟨d, _, z⟩ | ⟨i, b1, m1, f1, f2, z1⟩
    · cases z
    · rcases argE_get ea e2 with ⟨d, _, z⟩ | ⟨j, b2, m2, g1, g2, z2⟩
      · cases z
      · cases z1; cases z2
        obtain ⟨v, hv, rv⟩ := paired_get r f1
        obtain ⟨v2, hv2, rv2⟩ := paired_get r g1
        have h1 := vget' s1
        have h2 := vget' s2
        rw [hv] at h1; cases h1
        rw [hv2] at h2; cases h2
        have ij := h.sep i j b1 _ b2 _ _ _ a f2 g2 rv rv2 k1 k2
        subst ij
        exact Option.some.inj ((brOk_at hk f1).symm.trans (brOk_at hk g1))
  · rcases argE_get ea e with ⟨d, _, z⟩ | ⟨i, b1, m1, f1, f2, z1⟩
    · cases z
    · cases z1
      obtain ⟨v, hv, rv⟩ := paired_get r f1
      have h1 := vget' s
      rw [hv] at h1; cases h1
      exact ⟨i, p, b1, _, _, f1, f2, rv, hc⟩
theorem back_get (i : Nat) : (back ρ xs ρa)[i]? = (ρ[i]?).map (backF xs ρa i) := by unfold back; rw [List.getElem?_mapIdx]
/-- behind a call: the caller's side -/
theorem Post.call (p : Post K S σ ρ F H) (ea : argE ρ xs = some ρa) (hk : brOk xs = true) (r : Paired (ArgR K σ F) vs xs) (pc : Post K ⟨vs.map some, ρa, F, H⟩ (vs.map some) ρa' F' H') :
    Post K S σ (back ρ xs ρa') F' H' ∧ ∀ v o, RfR K ⟨vs.map some, ρa, F, H⟩ (vs.map some) ρa' F' H' v (.o o) → RfR K S σ (back ρ xs ρa') F' H' v (.o o) := by
  obtain ⟨hdA, ownA⟩ := p.hd.args ea hk r
  have subA : ∀ a, Own (vs.map some) ρa H a → Own σ ρ H a := fun a h => by
    obtain ⟨i, q, b, m, v, _, e2, e3, hc⟩ := ownA a h
    exact ⟨i, b, m, v, e2, e3, hc⟩
  -- a slot that is not lent, or one that is
  have key : ∀ (i : Nat) (o : O), (back ρ xs ρa')[i]? = some (some o) →
      (brAt i xs = none ∧ ρ[i]? = some (some o)) ∨ ∃ (q : Nat) (b : Bool) (m m' : Mu) (v : V), brAt i xs = some q ∧ ρ[i]? = some (some (.mu b m)) ∧ o = .mu b m' ∧ ρa'[q]? = some (some (.mu true m')) ∧ vs[q]? = some v ∧ σ[i]? = some (some v) := by
    intro i o e
    rw [back_get] at e
    cases hi : ρ[i]? with
    | none => rw [hi] at e; cases e
    | some y =>
      rw [hi] at e
      have e2 : backF xs ρa' i y = some o := Option.some.inj e
      unfold backF at e2
      cases hb : brAt i xs with
      | none => rw [hb] at e2; exact .inl ⟨rfl, by rw [← e2]⟩
      | some q =>
        have hx := brAt_get hb
        obtain ⟨b, m, f1, f2⟩ := argE_br ea hx
        rw [hi] at f1; cases f1
        obtain ⟨_, m', f3⟩ := pc.bor q m f2
        rw [hb] at e2
        simp only [f3] at e2
        cases e2
        obtain ⟨v, hv, rv⟩ := paired_get r hx
        exact .inr ⟨q, b, m, m', v, rfl, rfl, rfl, f3, hv, rv⟩
  -- a slot that is not lent stays as it is
  have stays : ∀ {i : Nat} {b : Bool} {m : Mu} {v : V}, brAt i xs = none → ρ[i]? = some (some (.mu b m)) → σ[i]? = some (some v) → SlotX K F' H' v (.mu b m) ∧ foot H' m v = foot H m v := by
    intro i b m v hb e s
    have sl := p.hd.slot e s
    refine sl.stay pc.le fun c hc => ?_
    obtain ⟨⟨u, hu⟩, hf⟩ := sl.at_ hc
    have no : ¬ Own (vs.map some) ρa H c := fun z => by
      obtain ⟨j, q, b2, m2, v2, f1, f2, f3, f4⟩ := ownA c z
      have ij := p.hd.sep i j b m b2 m2 v v2 c e f2 s f3 hc f4
      subst ij
      rw [brOk_at hk f1] at hb; cases hb
    exact ⟨(pc.keep c u hu no).trans hu.symm, pc.nofz c u hu no hf⟩
  -- where an address stands behind the call
  have at_ : ∀ {i : Nat} {b : Bool} {m : Mu} {v : V} {c : Addr}, (back ρ xs ρa')[i]? = some (some (.mu b m)) → σ[i]? = some (some v) → c ∈ foot H' m v →
      (brAt i xs = none ∧ ρ[i]? = some (some (.mu b m)) ∧ c ∈ foot H m v) ∨ ∃ (q : Nat), brAt i xs = some q ∧ ρa'[q]? = some (some (.mu true m)) ∧ (vs.map some)[q]? = some (some v) := by
    intro i b m v c e s hc
    rcases key i _ e with ⟨hb, e1⟩ | ⟨q, b', m0, m', v', hb, e1, z, e3, hv, hs⟩
    · rw [(stays hb e1 s).2] at hc
      exact .inl ⟨hb, e1, hc⟩
    · cases z
      rw [s] at hs; cases hs
      exact .inr ⟨q, hb, e3, vget hv⟩
  have post : Post K S σ (back ρ xs ρa') F' H' := by
    refine ⟨⟨pc.hd.le, by unfold back; rw [List.length_mapIdx]; exact p.hd.len, fun i o e => ?_, fun i j b m b' m' v v' a e1 e2 s1 s2 k1 k2 => ?_⟩, p.le.trans pc.le, fun b o e q => ?_, fun b o e q f => ?_, fun b q => ?_, fun i m e => ?_⟩
    · rcases key i o e with ⟨hb, e1⟩ | ⟨q, b, m, m', v, hb, e1, rfl, e3, hv, hs⟩
      · obtain ⟨v, e2, sl⟩ := p.hd.at_ i o e1
        refine ⟨v, e2, ?_⟩
        cases o with
        | fz d => exact Rp.mono pc.le sl
        | mu b m => exact (stays hb e1 e2).1
      · obtain ⟨v2, e4, sl⟩ := pc.hd.at_ q _ e3
        rw [vget hv] at e4; cases e4
        exact ⟨v, hs, sl⟩
    · have own2 : ∀ {i : Nat} {b : Bool} {m : Mu} {v : V} {q : Nat}, brAt i xs = some q → ρa'[q]? = some (some (.mu true m)) → (vs.map some)[q]? = some (some v) → a ∈ foot H' m v → Own (vs.map some) ρa H a ∨ H a = none := fun _ e3 e4 hc => pc.own a ⟨_, true, _, _, e3, e4, hc⟩
      have cross : ∀ {i j : Nat} {b b' : Bool} {m m' : Mu} {v v' : V} {q : Nat}, brAt i xs = none → ρ[i]? = some (some (.mu b m)) → σ[i]? = some (some v) → a ∈ foot H m v → brAt j xs = some q → ρa'[q]? = some (some (.mu true m')) → (vs.map some)[q]? = some (some v') → a ∈ foot H' m' v' → False := by
        intro i j b b' m m' v v' q hb e s hc hq e3 e4 hc'
        rcases pc.own a ⟨_, true, _, _, e3, e4, hc'⟩ with z | z
        · obtain ⟨l, q2, b2, m2, v2, f1, f2, f3, f4⟩ := ownA a z
          have ij := p.hd.sep i l b m b2 m2 v v2 a e f2 s f3 hc f4
          subst ij
          rw [brOk_at hk f1] at hb; cases hb
        · obtain ⟨⟨u, hu⟩, _⟩ := (p.hd.slot e s).at_ hc
          have z : H a = none := z
          rw [hu] at z; cases z
      rcases at_ e1 s1 k1 with ⟨h1, h2, h3⟩ | ⟨q1, h1, h2, h3⟩
      · rcases at_ e2 s2 k2 with ⟨g1, g2, g3⟩ | ⟨q2, g1, g2, g3⟩
        · exact p.hd.sep i j b m b' m' v v' a h2 g2 s1 s2 h3 g3
        · exact (cross (b' := b') h1 h2 s1 h3 g1 g2 g3 k2).elim
      · rcases at_ e2 s2 k2 with ⟨g1, g2, g3⟩ | ⟨q2, g1, g2, g3⟩
        · exact (cross (b' := b) g1 g2 s2 g3 h1 h2 h3 k1).elim
        · have := pc.hd.sep q1 q2 true m true m' v v' a h2 g2 h3 g3 k1 k2
          subst this
          have x1 := brAt_get h1
          have x2 := brAt_get g1
          rw [x1] at x2
          injection x2 with x2
          injection x2
    · exact pc.keep b o (p.keep b o e q) fun z => p.not e q (subA b z)
    · exact pc.nofz b o (p.keep b o e q) (fun z => p.not e q (subA b z)) (p.nofz b o e q f)
    · obtain ⟨i, b1, m1, v, e, s, hc⟩ := q
      rcases at_ e s hc with ⟨_, h2, h3⟩ | ⟨q1, h1, h2, h3⟩
      · exact p.own b ⟨i, b1, m1, v, h2, s, h3⟩
      · rcases pc.own b ⟨q1, true, m1, v, h2, h3, hc⟩ with z | z
        · exact p.own b (subA b z)
        · exact p.new (.inr z)
    · obtain ⟨e1, m1, e2⟩ := p.bor i m e
      refine ⟨e1, ?_⟩
      rw [back_get, e2]
      show ∃ m', some (backF xs ρa' i (some (.mu true m1))) = some (some (O.mu true m'))
      unfold backF
      cases hb : brAt i xs with
      | none => exact ⟨m1, rfl⟩
      | some q =>
        obtain ⟨b, m2, f1, f2⟩ := argE_br ea (brAt_get hb)
        obtain ⟨_, m', f3⟩ := pc.bor q m2 f2
        simp only [f3]
        exact ⟨m', rfl⟩
  refine ⟨post, fun v o ro => ?_⟩
  cases o with
  | fz d => exact ro
  | mu b m =>
    refine ⟨ro.1, ro.2.1, fun a ea' => ?_⟩
    obtain ⟨n1, n2⟩ := ro.2.2 a ea'
    have nw : New ⟨σ, ρ, F, H⟩ a := n1.imp (subA a) fun h => h
    refine ⟨p.new nw, fun ⟨i, b1, m1, w, e, s, hc⟩ => ?_⟩
    rcases at_ e s hc with ⟨hb, h2, h3⟩ | ⟨q1, h1, h2, h3⟩
    · rcases n1 with h | h
      · obtain ⟨j, q, b3, m3, v3, f1, f2, f3, f4⟩ := ownA a h
        have ij := p.hd.sep i j b1 m1 b3 m3 w v3 a h2 f2 s f3 h3 f4
        subst ij
        rw [brOk_at hk f1] at hb; cases hb
      · obtain ⟨⟨u, hu⟩, _⟩ := (p.hd.slot h2 s).at_ h3
        have h : H a = none := h
        rw [h] at hu; cases hu
    · exact n2 ⟨q1, true, m1, w, h2, h3, hc⟩
end

section
variable {X : Cx} {W : WX} {e : Expr} {es : List Expr} {ga : M (List Arg)} {pos p : Pos} {k : Nat} {f : Addr} {fd : FuncData} {ps : List Str} {x : Str} {g : M O}
theorem run_fnG {pins : List (Addr × Obj)} {σ : L2.St} {H : Hp} {s : Shared} {Q : VK} {us : List Value} {vs : List V} {S : Sta} {ρ : Rho} {F : Hp} {xs : List Arg} (Fn : FnG X.prog X.w X.K X.mg X.base k f fd ps g) (hr : Room k X.A) (hgd : X.A.guards = some []) (hb : Binds X.K fd ps []) (tk : L2N.Takes X W)
    (hl : xs.length = ps.length) (I : Inv X pins σ H s) (r : Vals vs us) (hS : S.σ = σ) (ra : Paired (ArgR X.K σ F) vs xs) (R : Run X.K W (RfR X.K) S (callG g xs) ρ F H Q) : wpAny (model X.prog X.w) X.A (call (.ref f) us) (EP X pins σ Q) X.xe s := by
  obtain ⟨p, out, eo, fin⟩ := R
  subst hS
  unfold callG at eo
  split at eo
  next ρa ea =>
    split at eo
    next hk =>
      have hlv : vs.length = ps.length := (Paired.length ra).trans hl
      have hlu : us.length = ps.length := r.length.symm.trans hlv
      have bind := hb s us I.kIn (by rw [List.append_nil]; exact hlu)
      rw [List.append_nil] at bind
      refine wpAny_call (codeAny_mono (Fn.run X.A X.stack s H ⟨us, []⟩ us vs Q (fun c d H' => W c d S.σ H') ρa F hgd hr I.env0 bind r hlv ?_) fun rr s' hq => ?_)
      · refine ⟨Post.refl (p.hd.args ea hk ra).1, ?_⟩
        cases eg : g ρa with
        | none => rw [eg] at eo; cases eo
        | some og =>
          refine ⟨og, rfl, ?_⟩
          rw [eg] at eo
          cases og with
          | ok o ρa' =>
            cases eo
            intro v F' H' pc ro
            obtain ⟨p1, p2⟩ := p.call ea hk ra pc
            exact fin v F' H' p1 (p2 v o ro)
          | ex c ρa' =>
            cases eo
            intro d F' H' pc
            exact fin d F' H' (p.call ea hk ra pc).1
      · cases rr with
        | error er => exact tk er s' (L2N.XE.of_call I (fun _ _ _ h => h) hq)
        | ok fl =>
          cases fl with
          | ret u => exact I.after hq
          | next => exact hq.elim
          | brk => exact hq.elim
          | cont => exact hq.elim
    next => cases eo
  next => cases eo
def callN (g : M O) (n : Nat) (xs : List Arg) : M Rf := fun ρ => if xs.length = n then callG g xs ρ else none
theorem ev_call (Fn : FnG X.prog X.w X.K X.mg X.base k f fd ps g) (hr : Room k X.A) (hgd : X.A.guards = some []) (hg : Gl X x) (hm : X.mg x = some (.ref f)) (hk : PySem.W.keepIn X.K (.ref f) = true) (hb : Binds X.K fd ps []) (tk : L2N.Takes X W)
    (ha : EvG X W (e :: es) ga) (hdb : (x == ("__debug__" : Str)) = false := by decide) (he : starEach (e :: es) X.env = (false, eval e X.env) :: starEach es X.env := by rfl) (hpl : (backTo pos (starEach es X.env)).any (·.1) = false := by rfl) :
    EvO X W (.Call (.Name x p) (e :: es) [] pos) (ga.bind fun xs => callN g ps.length xs) := by
  refine ⟨fun pins s σ H Q I ⟨ρ, F, r⟩ => wpAny_Call_Name_kw (ld_glob I hg hm ?_ hdb)⟩
  refine PySem.W.callWith_K (h₀ := X.base) I.ok.mod.kin hk (thn (ha.run pos pins s σ H _ I ⟨ρ, F, r.bind⟩) ?_) he hpl
  rintro us s1 ⟨vs, H1, I1, rv, xs, ρ1, F1, ra, _, R⟩
  refine ⟨I1.kIn, ?_⟩
  obtain ⟨p1, o1, eo, fin⟩ := R
  unfold callN at eo
  split at eo
  next hl => exact run_fnG Fn hr hgd hb tk hl I1 rv (S := ⟨σ, ρ, F, H⟩) rfl ra ⟨p1, o1, eo, fin⟩
  next => cases eo
end
end Vs

/-! Vs, operations on values. -/
namespace Vs
open PySem PySem.Spec L2

section
variable {K : PySem.W.Frag} {F H : Hp} {v : V} {o : O}
theorem Rp.int_of {i : Int} (h : Rp K F v (.int i)) : v = .int i := by cases h; rfl
theorem Rp.str_of {i : Str} (h : Rp K F v (.str i)) : v = .str i := by cases h; rfl
theorem Rp.bl_of {i : Bool} (h : Rp K F v (.bool i)) : v = .bl i := by cases h; rfl
theorem Rp.non_of (h : Rp K F v .none) : v = .non := by cases h; rfl
theorem SlotR.int {i : Int} (h : SlotR K F H v o) (e : o.view = .int i) : v = .int i := by
  cases o with
  | fz d => have e : d = .int i := e; subst e; exact Rp.int_of h
  | mu b m => cases m <;> cases e
theorem SlotR.str {i : Str} (h : SlotR K F H v o) (e : o.view = .str i) : v = .str i := by
  cases o with
  | fz d => have e : d = .str i := e; subst e; exact Rp.str_of h
  | mu b m => cases m <;> cases e
theorem SlotR.bl {i : Bool} (h : SlotR K F H v o) (e : o.view = .bool i) : v = .bl i := by
  cases o with
  | fz d => have e : d = .bool i := e; subst e; exact Rp.bl_of h
  | mu b m => cases m <;> cases e
theorem SlotR.non (h : SlotR K F H v o) (e : o.view = .none) : v = .non := by
  cases o with
  | fz d => have e : d = .none := e; subst e; exact Rp.non_of h
  | mu b m =>
    cases m with
    | lst ds => cases e
    | dct es => cases e
    | obj C fs => obtain ⟨_, _, _, _, _, r⟩ := h; exact r.elim
    | tre n its => obtain ⟨_, _, _, _, _, r⟩ := h; exact r.elim
theorem SlotR.lst {ds : List PyData} (h : SlotR K F H v o) (le : Le F H) (e : o.view = .list ds) : ∃ a xs, v = .ref a ∧ SqL K H a xs ∧ RpA K F xs ds := by
  cases o with
  | fz d =>
    have e : d = .list ds := e
    subst e
    cases (show Rp K F v (.list ds) from h) with
    | lst h1 h2 => exact ⟨_, _, rfl, le.seqL h1, h2⟩
  | mu b m =>
    cases m with
    | lst es => cases e; obtain ⟨a, u, rfl, hu, _, xs, rfl, r⟩ := h; exact ⟨a, xs, rfl, .of hu, r⟩
    | dct es => cases e
    | obj C fs => cases e
    | tre n its => cases e
theorem SlotR.tup {ds : List PyData} (h : SlotR K F H v o) (le : Le F H) (e : o.view = .tuple ds) : ∃ a xs, v = .ref a ∧ SqT K H a xs ∧ RpA K F xs ds := by
  cases o with
  | fz d =>
    have e : d = .tuple ds := e
    subst e
    cases (show Rp K F v (.tuple ds) from h) with
    | tup h1 h2 => exact ⟨_, _, rfl, le.seqT h1, h2⟩
  | mu b m => cases m <;> cases e
theorem SlotR.dct {ds : List (PyData × PyData)} (h : SlotR K F H v o) (le : Le F H) (e : o.view = .dict ds) : ∃ a kvs es, v = .ref a ∧ Rd H a (.dK kvs) ∧ RpK K F kvs es ∧ ds = es.map (fun p => (kD p.1, p.2)) := by
  cases o with
  | fz d =>
    have e : d = .dict ds := e
    subst e
    cases (show Rp K F v (.dict ds) from h) with
    | dct h1 h2 h3 => exact ⟨_, _, _, rfl, le _ _ h1, h2, h3⟩
  | mu b m =>
    cases m with
    | lst es => cases e
    | dct es => cases e; obtain ⟨a, u, rfl, hu, _, xs, rfl, r⟩ := h; exact ⟨a, xs, es, rfl, .inl hu, r, rfl⟩
    | obj C fs => cases e
    | tre n its => cases e
end

/-! ### + -/
def rCatL (K : PySem.W.Frag) : R2 := fun x y H Q => ∃ l b xs zs, x = .ref l ∧ y = .ref b ∧ SqL K H l xs ∧ SqL K H b zs ∧ xs.length + zs.length ≤ sizeLine ∧ ∀ p, H p = none → Q (.ref p) (upd H p (.lst (xs ++ zs)))
open PyProof.Rows in
theorem op_catL {X : Cx} : OpR X (binaryOp .Add) (rCatL X.K) := by
  rintro pins s σ H _ _ v u Q I rx ry ⟨l, b, xs, zs, rfl, rfl, h1, h2, hz, q⟩
  cases rx
  cases ry
  obtain ⟨i1, r1, ⟨⟨c1, d1, t1, s1⟩, n1, g1, k1, k2, k3⟩, _⟩ := I.list h1
  obtain ⟨i2, r2, ⟨⟨c2, d2, t2, s2⟩, n2, g2, m1, m2, m3⟩, _⟩ := I.list h2
  simp only at k1 k2 k3 m1 m2 m3
  subst k1 k2 k3 m1 m2 m3
  have both : i1.toArray ++ i2.toArray = (i1 ++ i2).toArray := by simp
  have room : i1.toArray.size + i2.toArray.size ≤ sizeLine := by
    have e1 := r1.length
    have e2 := r2.length
    simp only [List.size_toArray]
    omega
  refine concat_meets ⟨_, g1, rfl⟩ ⟨_, g2, rfl⟩ noFill_list_add seq_list_add PySem.F.slot_list_add PySem.F.entry_list_add (PySem.F.args_list_add_2 _ _)
    (list_addW l b i1.toArray i2.toArray n1 n2 none none s1 s2 room) ⟨g1, g2, ?_⟩
  rw [both]
  exact ⟨.ref _, _, I.lnew (t' := s.toks) (r1.append r2) (by rw [List.length_append]; omega), rfl, q _ I.fresh⟩
def rAddAll (K : PySem.W.Frag) : R2 := fun x y H Q => ((rI0 fun i j => V.int (i + j)) x y H Q ∨ (fun x y H Q => ∃ i j, x = V.str i ∧ y = V.str j ∧ i.length + j.length ≤ sizeLine ∧ Q (.str (i ++ j)) H) x y H Q) ∨ (rCatL K x y H Q ∨ rCatA K x y H Q)
theorem op_addAll {X : Cx} : OpR X (binaryOp .Add) (rAddAll X.K) := OpR.or (OpR.or op_add op_add_str) (OpR.or op_catL op_catA)
def hAdd (a b : O) : Option O := match a.view, b.view with
  | .int i, .int j => some (.fz (.int (i + j)))
  | .str x, .str y => if x.length + y.length ≤ 16777216 then some (.fz (.str (x ++ y))) else none
  | .list x, .list y => if x.length + y.length ≤ 16777216 then some (.mu false (.lst (x ++ y))) else none
  | .tuple x, .tuple y => if x.length + y.length ≤ 16777216 then some (.fz (.tuple (x ++ y))) else none
  | _, _ => none
theorem sn_add {K : PySem.W.Frag} : Sn2 K (rAddAll K) hAdd := by
  intro S ρ F H v w a b o Q p ra rb e k
  unfold hAdd at e
  split at e
  · rename_i i j ea eb
    cases e
    exact .inl (.inl ⟨i, j, ra.int ea, rb.int eb, k _ F H p (.int _)⟩)
  · rename_i i j ea eb
    split at e
    · cases e
      rename_i hz
      exact .inl (.inr ⟨i, j, ra.str ea, rb.str eb, by rw [slen]; exact hz, k _ F H p (.str _)⟩)
    · cases e
  · rename_i i j ea eb
    split at e
    · cases e
      rename_i hz
      obtain ⟨l, xs, rfl, h1, r1⟩ := ra.lst p.hd.le ea
      obtain ⟨l2, ys, rfl, h2, r2⟩ := rb.lst p.hd.le eb
      exact .inr (.inl ⟨l, l2, xs, ys, rfl, rfl, h1, h2, by rw [slen, r1.len, r2.len]; exact hz, k.lst p (r1.app r2)⟩)
    · cases e
  · rename_i i j ea eb
    split at e
    · cases e
      rename_i hz
      obtain ⟨l, xs, rfl, h1, r1⟩ := ra.tup p.hd.le ea
      obtain ⟨l2, ys, rfl, h2, r2⟩ := rb.tup p.hd.le eb
      refine .inr (.inr ⟨l, l2, xs, ys, rfl, rfl, h1, h2, by rw [slen, r1.len, r2.len]; exact hz, fun z => ?_, fun _ z => ?_, fun _ _ => k.tup p (r1.app r2)⟩)
      · subst z
        cases r1
        have t := rb.view p.hd.le
        cases b with
        | fz d => have eb : d = .tuple j := eb; subst eb; exact k _ F H p rb
        | mu b m => cases m <;> cases eb
      · subst z
        cases r2
        cases a with
        | fz d =>
          have ea : d = .tuple i := ea
          subst ea
          exact k _ F H p (show Rp K F _ (.tuple (i ++ [])) by rw [List.append_nil]; exact ra)
        | mu b m => cases m <;> cases ea
    · cases e
  · cases e

/-! ### ints -/
def hI (c : Int → Int → Bool) (g : Int → Int → Int) (a b : O) : Option O := match a.view, b.view with
  | .int i, .int j => if c i j = true then some (.fz (.int (g i j))) else none
  | _, _ => none
theorem sn_I {K : PySem.W.Frag} {C : Int → Int → Prop} {c : Int → Int → Bool} {g : Int → Int → Int} (hc : ∀ i j, c i j = true → C i j) : Sn2 K (rI C fun i j => V.int (g i j)) (hI c g) := by
  intro S ρ F H v w a b o Q p ra rb e k
  unfold hI at e
  split at e
  · rename_i i j ea eb
    split at e
    · cases e
      rename_i h
      exact ⟨i, j, ra.int ea, rb.int eb, hc i j h, k _ F H p (.int _)⟩
    · cases e
  · cases e
theorem sn_I0 {K : PySem.W.Frag} {g : Int → Int → Int} : Sn2 K (rI0 fun i j => V.int (g i j)) (hI (fun _ _ => true) g) := by
  intro S ρ F H v w a b o Q p ra rb e k
  unfold hI at e
  split at e
  · rename_i i j ea eb
    cases e
    exact ⟨i, j, ra.int ea, rb.int eb, k _ F H p (.int _)⟩
  · cases e
def cMul (i j : Int) : Bool := decide (i.natAbs.log2 + j.natAbs.log2 < 1000000)
def cDiv (_ j : Int) : Bool := decide (0 < j ∧ j < 1073741824)
def cMod (_ j : Int) : Bool := decide (0 < j)
def cPow (i j : Int) : Bool := decide (0 ≤ j ∧ j ≤ 1000000 ∧ i.natAbs < 2 ^ 64)
theorem sn_sub {K : PySem.W.Frag} : Sn2 K (rI0 fun i j => V.int (i - j)) (hI (fun _ _ => true) fun i j => i - j) := sn_I0
theorem sn_mulI {K : PySem.W.Frag} : Sn2 K (rI CMulW fun i j => V.int (i * j)) (hI cMul fun i j => i * j) := sn_I fun i j h => by simpa [cMul, CMulW] using h
theorem sn_fdiv {K : PySem.W.Frag} : Sn2 K (rI CDiv fun i j => V.int (i / j)) (hI cDiv fun i j => i / j) := sn_I fun i j h => by simpa [cDiv, CDiv] using h
theorem sn_mod {K : PySem.W.Frag} : Sn2 K (rI (fun _ j => 0 < j) fun i j => V.int (i % j)) (hI cMod fun i j => i % j) := sn_I fun i j h => by simpa [cMod] using h
theorem sn_pow {K : PySem.W.Frag} : Sn2 K (rI CPow fun i j => V.int (i ^ j.toNat)) (hI cPow fun i j => i ^ j.toNat) := sn_I fun i j h => by simpa [cPow, CPow] using h
def hNeg (a : O) : Option O := match a.view with
  | .int i => some (.fz (.int (-i)))
  | _ => none
theorem sn_neg {K : PySem.W.Frag} : Sn1 K (rU fun i => V.int (-i)) hNeg := by
  intro S ρ F H v a o Q p ra e k
  unfold hNeg at e
  split at e
  · rename_i i ea
    cases e
    exact ⟨i, ra.int ea, k _ F H p (.int _)⟩
  · cases e

/-! ### order of ints, of texts -/
def hCmp (g : Int → Int → Bool) (t : Str → Str → Bool) (a b : O) : Option O := match a.view, b.view with
  | .int i, .int j => some (.fz (.bool (g i j)))
  | .str i, .str j => some (.fz (.bool (t i j)))
  | _, _ => none
def rCmp (g : Int → Int → Bool) (t : Str → Str → Bool) : R2 := fun x y H Q => (rI0 fun i j => V.bl (g i j)) x y H Q ∨ (∃ i j, x = V.str i ∧ y = V.str j ∧ Q (.bl (t i j)) H)
theorem sn_cmp {K : PySem.W.Frag} {g : Int → Int → Bool} {t : Str → Str → Bool} : Sn2 K (rCmp g t) (hCmp g t) := by
  intro S ρ F H v w a b o Q p ra rb e k
  unfold hCmp at e
  split at e
  · rename_i i j ea eb
    cases e
    exact .inl ⟨i, j, ra.int ea, rb.int eb, k _ F H p (.bl _)⟩
  · rename_i i j ea eb
    cases e
    exact .inr ⟨i, j, ra.str ea, rb.str eb, k _ F H p (.bl _)⟩
  · cases e
theorem op_ltA {X : Cx} : OpR X (compareOp .Lt) (rCmp (fun i j => decide (i < j)) fun i j => decide (i.cps.toList < j.cps.toList)) := OpR.or op_lt op_lt_str
theorem op_leA {X : Cx} : OpR X (compareOp .LtE) (rCmp (fun i j => decide (i ≤ j)) fun i j => !decide (j.cps.toList < i.cps.toList)) := OpR.or op_le op_le_str
theorem op_gtA {X : Cx} : OpR X (compareOp .Gt) (rCmp (fun i j => decide (j < i)) fun i j => decide (j.cps.toList < i.cps.toList)) := OpR.or op_gt op_gt_str
theorem op_geA {X : Cx} : OpR X (compareOp .GtE) (rCmp (fun i j => decide (j ≤ i)) fun i j => !decide (i.cps.toList < j.cps.toList)) := OpR.or op_ge op_ge_str

/-! ### data as the library reads it -/
mutual
def noL : PyData → Bool
  | .none | .bool _ | .int _ | .str _ => true
  | .list _ => false
  | .tuple xs => noLs xs
  | .dict kvs => noLk kvs
def noLs : List PyData → Bool
  | [] => true
  | x :: xs => noL x && noLs xs
def noLk : List (PyData × PyData) → Bool
  | [] => true
  | (_, v) :: r => noL v && noLk r
end
theorem key_reads {h : Heap} {k : Key} {u : Value} (e : keyIs k u = true) : Reads h u (kD k) [] := by
  rcases keyIs_shape e with ⟨i, t, rfl, rfl⟩ | ⟨x, t, rfl, rfl⟩
  · exact .int i t
  · exact .str x t
mutual
theorem Rp.reads {X : Cx} {pins : List (Addr × Obj)} {σ : L2.St} {H : Hp} {s : Shared} (I : Inv X pins σ H s) : ∀ {d : PyData} {v : V} {u : Value}, Rp X.K H v d → RelV v u → ∃ as, Reads s.heap u d as ∧ (noL d = true → ∀ a ∈ as, a ≠ sysModules)
  | _, _, _, .non, r => by cases r; exact ⟨_, .none, by simp⟩
  | _, _, _, .bl b, r => by cases r; exact ⟨_, .bool b, by simp⟩
  | _, _, _, .int i, r => by obtain ⟨t, rfl⟩ := r; exact ⟨_, .int i t, by simp⟩
  | _, _, _, .str i, r => by obtain ⟨t, rfl⟩ := r; exact ⟨_, .str i t, by simp⟩
  | _, _, _, .lst h1 h2, r => by
    cases r
    obtain ⟨its, rv, ⟨o, n, ho, hc, _, hd⟩, _⟩ := I.list h1
    obtain ⟨as, ha, hn⟩ := RpA.reads I h2 rv
    exact ⟨_, .list ho hc hd (by simpa using ha), fun z => by simp [noL] at z⟩
  | _, _, _, .tup h1 h2, r => by
    cases r
    obtain ⟨its, rv, ⟨o, ho, hc, n, hd⟩, _⟩ := I.tuple h1
    obtain ⟨as, ha, hn⟩ := RpA.reads I h2 rv
    exact ⟨_, .tuple ho hc hd (by simpa using ha), fun z => hn (by simpa [noL] using z)⟩
  | _, _, _, @Rp.dct _ _ a kvs es ds h1 h2 h3, r => by
    subst h3
    cases r
    obtain ⟨_, hs, vs, rel, o, en, ep, ho, hx, hd, _, pr, _⟩ := dk_rd I.hok h1
    obtain ⟨⟨as, ha, hn⟩, bs, hb, hm⟩ := RpK.reads I h2 rel pr
    have e1 : (es.map fun p => (kD p.1, p.2)).map (·.1) = es.map fun p => kD p.1 := by rw [List.map_map]; rfl
    have e2 : (es.map fun p => (kD p.1, p.2)).map (·.2) = es.map (·.2) := by rw [List.map_map]; rfl
    refine ⟨_, .dict ho hx.1 hd (by rw [e1]; exact ha) (by rw [e2]; exact hb), fun z c hc => ?_⟩
    rcases List.mem_append.mp hc with hc | hc
    · rcases List.mem_cons.mp hc with rfl | hc
      · exact fun q => by rw [q] at hs; simp at hs
      · exact (hn c hc).elim
    · exact hm (by simpa [noL] using z) c hc
theorem RpA.reads {X : Cx} {pins : List (Addr × Obj)} {σ : L2.St} {H : Hp} {s : Shared} (I : Inv X pins σ H s) : ∀ {d : List PyData} {v : List V} {u : List Value}, RpA X.K H v d → Vals v u → ∃ as, ReadsAll s.heap u d as ∧ (noLs d = true → ∀ a ∈ as, a ≠ sysModules)
  | _, _, _, .nil, r => by cases r; exact ⟨_, .nil, by simp⟩
  | _, _, _, .cons h t, r => by
    cases r with
    | cons r1 r2 =>
      obtain ⟨as, ha, hn⟩ := Rp.reads I h r1
      obtain ⟨bs, hb, hm⟩ := RpA.reads I t r2
      refine ⟨_, .cons ha hb, fun z a h => ?_⟩
      rw [noLs, Bool.and_eq_true] at z
      exact (List.mem_append.mp h).elim (hn z.1 a) (hm z.2 a)
theorem RpK.reads {X : Cx} {pins : List (Addr × Obj)} {σ : L2.St} {H : Hp} {s : Shared} (I : Inv X pins σ H s) : ∀ {d : List (Key × PyData)} {v : List (Key × V)} {u : List (Key × Value)} {en : List DictEntry}, RpK X.K H v d → KV v u → PySem.Pairs (mixKind X.prog X.w) en u →
    (∃ as, ReadsAll s.heap (en.map (·.key)) (d.map fun p => kD p.1) as ∧ ∀ a ∈ as, False) ∧ ∃ bs, ReadsAll s.heap (en.map (·.val)) (d.map (·.2)) bs ∧ (noLk (d.map fun p => (kD p.1, p.2)) = true → ∀ a ∈ bs, a ≠ sysModules)
  | _, _, _, _, .nil, r, q => by cases r; cases q; exact ⟨⟨_, .nil, by simp⟩, _, .nil, by simp⟩
  | _, _, _, _, .cons h t, r, q => by
    cases r with
    | cons r1 r2 =>
      cases q with
      | cons q1 q2 q3 =>
        obtain ⟨e1, e2⟩ := r1
        obtain ⟨as, ha, hn⟩ := Rp.reads I h e2
        rw [← q2] at ha
        obtain ⟨⟨cs, hc, hk⟩, bs, hb, hm⟩ := RpK.reads I t r2 q3
        have q1' : keyIs _ _ = true := q1
        rw [← show _ = _ from e1] at q1'
        refine ⟨⟨_, .cons (key_reads q1') hc, fun a h => ?_⟩, _, .cons ha hb, fun z a h => ?_⟩
        · rcases List.mem_append.mp h with h | h
          · cases h
          · exact hk a h
        · rw [List.map_cons, noLk, Bool.and_eq_true] at z
          exact (List.mem_append.mp h).elim (hn z.1 a) (hm z.2 a)
end

/-! ### repr -/
def hRepr : List O → Option O
  | [a] => if (PyData.showable a.view && (!PyData.hasDict a.view || noL a.view)) = true ∧ PyData.depth a.view ≤ 150 ∧ (PyData.shown a.view).length ≤ 16777216 then some (.fz (.str (PyData.shown a.view))) else none
  | _ => none
def rRepr (K : PySem.W.Frag) : List V → Hp → VK → Prop := fun xs H Q => ∃ x d, xs = [x] ∧ Rp K H x d ∧ PyData.showable d = true ∧ (PyData.hasDict d = true → noL d = true) ∧ PyData.depth d ≤ 150 ∧ (PyData.shown d).length ≤ sizeLine ∧ Q (.str (PyData.shown d)) H
theorem call_repr {X : Cx} (hg : X.A.guards = some []) (hu : X.A.units + 200 < cLine) : CallR X (.builtin "repr") (rRepr X.K) := by
  rintro pins s σ H _ us Q I r ⟨x, d, rfl, hx, h1, h2, h3, h4, q⟩
  obtain ⟨u, rfl, ru⟩ := vals1 r
  obtain ⟨as, rd, hs⟩ := Rp.reads I hx ru
  cases hx with
  | non =>
    cases ru
    simp only [PyData.shown] at q
    exact PySem.P.repr_of_none ⟨.str _, H, I.tok _, ⟨_, rfl⟩, q⟩
  | bl b =>
    cases ru
    simp only [PyData.shown] at q
    exact PySem.P.repr_of_bool ⟨.str _, H, I.tok _, ⟨_, rfl⟩, q⟩
  | int i =>
    obtain ⟨t, rfl⟩ := ru
    simp only [PyData.shown] at q
    exact PySem.P.repr_of_int (by simpa [PyData.showable] using h1) ⟨.str _, H, I.tok _, ⟨_, rfl⟩, q⟩
  | str i =>
    obtain ⟨t, rfl⟩ := ru
    simp only [PyData.shown] at q h4
    exact PySem.P.repr_of_str ⟨.str _, H, I.tok _, ⟨_, rfl⟩, q⟩ h4
  | lst _ _ =>
    cases ru
    exact repr_of_reads' rd h1 (fun z hm => hs (h2 z) _ hm rfl) hg (by omega) (fun _ _ e => e) (fun h' t tk k => ⟨.str _, H, I.kept k, ⟨_, rfl⟩, q⟩) h4
  | tup _ _ =>
    cases ru
    exact repr_of_reads' rd h1 (fun z hm => hs (h2 z) _ hm rfl) hg (by omega) (fun _ _ e => e) (fun h' t tk k => ⟨.str _, H, I.kept k, ⟨_, rfl⟩, q⟩) h4
  | dct _ _ _ =>
    cases ru
    exact repr_of_reads' rd h1 (fun z hm => hs (h2 z) _ hm rfl) hg (by omega) (fun _ _ e => e) (fun h' t tk k => ⟨.str _, H, I.kept k, ⟨_, rfl⟩, q⟩) h4
theorem one_slot {K : PySem.W.Frag} {F H : Hp} {vs : List V} {a : O} (h : Paired (SlotR K F H) vs [a]) : ∃ v, vs = [v] ∧ SlotR K F H v a := by
  cases h with
  | cons h t => cases t; exact ⟨_, rfl, h⟩
theorem two_slot {K : PySem.W.Frag} {F H : Hp} {vs : List V} {a b : O} (h : Paired (SlotR K F H) vs [a, b]) : ∃ v w, vs = [v, w] ∧ SlotR K F H v a ∧ SlotR K F H w b := by
  cases h with
  | cons h t => cases t with
    | cons h2 t => cases t; exact ⟨_, _, rfl, h, h2⟩
theorem sn_repr {K : PySem.W.Frag} : SnN K (rRepr K) hRepr := by
  intro S ρ F H vs os o Q p r e k
  unfold hRepr at e
  split at e
  · split at e
    · rename_i a h
      cases e
      obtain ⟨v, rfl, ra⟩ := one_slot r
      obtain ⟨h1, h2, h3⟩ := h
      rw [Bool.and_eq_true, Bool.or_eq_true] at h1
      refine ⟨v, _, rfl, ra.view p.hd.le, h1.1, fun z => ?_, h2, by rw [slen]; exact h3, k _ F H p (.str _)⟩
      rcases h1.2 with q | q
      · rw [z] at q; cases q
      · exact q
    · cases e
  · cases e
end Vs

/-! Vs, more operations: ==, in, subscripts, slices, built-ins. -/
namespace Vs
open PySem PySem.Spec L2

/-! ### == and in -/
def flatD : PyData → Bool
  | .none | .bool _ | .int _ | .str _ => true
  | _ => false
theorem flat_V {K : PySem.W.Frag} {F : Hp} {v : V} {d : PyData} (h : Rp K F v d) (f : flatD d = true) : flatV v = true := by
  cases h <;> first | rfl | (exact absurd f Bool.false_ne_true)
theorem eqv_flat {K : PySem.W.Frag} {F G : Hp} {v w : V} {d e : PyData} (h : Rp K F v d) (k : Rp K G w e) (f : flatD d = true) (g : flatD e = true) : eqV v w = PyData.eqv d e := by
  cases h <;> first | (exact absurd f Bool.false_ne_true) | (cases k <;> first | (exact absurd g Bool.false_ne_true) | simp [eqV, PyData.eqv])
def deepD (d : PyData) : Bool := d.canLay0 && decide (d.depth ≤ 150)
def hEq (a b : O) : Option O := if (flatD a.view && flatD b.view || deepD a.view && deepD b.view) = true then some (.fz (.bool (PyData.eqv a.view b.view))) else none
def hNe (a b : O) : Option O := if (flatD a.view && flatD b.view || deepD a.view && deepD b.view) = true then some (.fz (.bool (!PyData.eqv a.view b.view))) else none
def rEqP (K : PySem.W.Frag) : R2 := fun x y H Q => ∃ d e, Rp K H x d ∧ Rp K H y e ∧ (flatD d && flatD e || deepD d && deepD e) = true ∧ Q (.bl (PyData.eqv d e)) H
def rNeP (K : PySem.W.Frag) : R2 := fun x y H Q => ∃ d e, Rp K H x d ∧ Rp K H y e ∧ (flatD d && flatD e || deepD d && deepD e) = true ∧ Q (.bl (!PyData.eqv d e)) H
theorem deep_lay {d : PyData} (h : deepD d = true) : d.canLay0 = true ∧ d.depth ≤ 150 := by
  unfold deepD at h
  rw [Bool.and_eq_true] at h
  exact ⟨h.1, of_decide_eq_true h.2⟩
theorem flat_lay {d : PyData} (h : flatD d = true) : d.depth ≤ 150 := by
  cases d <;> first | (exact absurd h Bool.false_ne_true) | simp [PyData.depth]
theorem scal_flat {K : PySem.W.Frag} {F G : Hp} {v w : V} {d e : PyData} (h : Rp K F v d) (k : Rp K G w e) (f : flatD d = true) (g : flatD e = true) (s : scal v w = true) : decide (v = w) = PyData.eqv d e := by
  cases h <;> first | (exact absurd f Bool.false_ne_true) | (cases k <;> first | (exact absurd g Bool.false_ne_true) | (exact absurd s Bool.false_ne_true) | (simp only [PyData.eqv, dec_int, dec_bl, dec_str]; done) | (simp [PyData.eqv]; done))
theorem noscal_lay {K : PySem.W.Frag} {F G : Hp} {v w : V} {d e : PyData} (h : Rp K F v d) (k : Rp K G w e) (f : flatD d = true) (g : flatD e = true) (s : ¬ scal v w = true) : d.canLay0 = true ∧ e.canLay0 = true := by
  cases h <;> first | (exact absurd f Bool.false_ne_true) | (cases k <;> first | (exact absurd g Bool.false_ne_true) | (exact absurd rfl s) | (simp [PyData.canLay0]))
theorem op_eqP {X : Cx} (hu : X.A.units + 200 < cLine) : OpR X (compareOp .Eq) (rEqP X.K) := by
  rintro pins s σ H x y v u Q I rx ry ⟨d, e, h, k, c, q⟩
  obtain ⟨as, r1, _⟩ := Rp.reads I h rx
  obtain ⟨bs, r2, _⟩ := Rp.reads I k ry
  rw [Bool.or_eq_true, Bool.and_eq_true, Bool.and_eq_true] at c
  rcases c with ⟨f, g⟩ | ⟨f, g⟩
  · by_cases sc : scal x y = true
    · exact op_eq pins s σ H x y v u Q I rx ry ⟨sc, by rw [scal_flat h k f g sc]; exact q⟩
    · obtain ⟨l1, l3⟩ := noscal_lay h k f g sc
      have l2 := flat_lay f
      exact SeqAt.compareEq_reads r1 r2 l1 l3 (by omega) ⟨.bl _, H, I, rfl, q⟩
  · obtain ⟨l1, l2⟩ := deep_lay f
    obtain ⟨l3, l4⟩ := deep_lay g
    exact SeqAt.compareEq_reads r1 r2 l1 l3 (by omega) ⟨.bl _, H, I, rfl, q⟩
theorem op_neP {X : Cx} (hu : X.A.units + 200 < cLine) : OpR X (compareOp .NotEq) (rNeP X.K) := by
  rintro pins s σ H x y v u Q I rx ry ⟨d, e, h, k, c, q⟩
  obtain ⟨as, r1, _⟩ := Rp.reads I h rx
  obtain ⟨bs, r2, _⟩ := Rp.reads I k ry
  rw [Bool.or_eq_true, Bool.and_eq_true, Bool.and_eq_true] at c
  rcases c with ⟨f, g⟩ | ⟨f, g⟩
  · by_cases sc : scal x y = true
    · exact op_ne pins s σ H x y v u Q I rx ry ⟨sc, by rw [scal_flat h k f g sc]; exact q⟩
    · obtain ⟨l1, l3⟩ := noscal_lay h k f g sc
      have l2 := flat_lay f
      exact SeqAt.compareNe_reads r1 r2 l1 l3 (by omega) ⟨.bl _, H, I, rfl, q⟩
  · obtain ⟨l1, l2⟩ := deep_lay f
    obtain ⟨l3, l4⟩ := deep_lay g
    exact SeqAt.compareNe_reads r1 r2 l1 l3 (by omega) ⟨.bl _, H, I, rfl, q⟩
section
variable {K : PySem.W.Frag}
theorem sn_eq : Sn2 K (rEqP K) hEq := by
  intro S ρ F H v w a b o Q p ra rb e k
  unfold hEq at e
  split at e
  · rename_i h
    cases e
    exact ⟨_, _, ra.view p.hd.le, rb.view p.hd.le, h, k _ F H p (.bl _)⟩
  · cases e
theorem sn_ne : Sn2 K (rNeP K) hNe := by
  intro S ρ F H v w a b o Q p ra rb e k
  unfold hNe at e
  split at e
  · rename_i h
    cases e
    exact ⟨_, _, ra.view p.hd.le, rb.view p.hd.le, h, k _ F H p (.bl _)⟩
  · cases e
end

/-! ### in -/
def memD (d : PyData) (es : List PyData) : Bool := es.any fun e => PyData.eqv e d
def deepL (es : List PyData) : Bool := PyData.canLayAll0 es && decide (PyData.depthAll es ≤ 150)
def hasK (d : PyData) (es : List (PyData × PyData)) : Option Bool := match d with
  | .int i => some (es.any fun p => match p.1 with | .int j => i == j | _ => false)
  | .str i => some (es.any fun p => match p.1 with | .str j => i == j | _ => false)
  | _ => none
def inD (a b : PyData) : Option Bool := match b with
  | .list es => if (flatD a && es.all flatD || deepD a && deepL es) = true then some (memD a es) else none
  | .tuple es => if (flatD a && es.all flatD || deepD a && deepL es) = true then some (memD a es) else none
  | .dict es => hasK a es
  | .str z => (match a with | .str x => some (!(Builtin.Str.occurrences z x 0 z.length 1).isEmpty) | _ => none)
  | _ => none
def hIn (neg : Bool) (a b : O) : Option O := (inD a.view b.view).map fun k => .fz (.bool (if neg then !k else k))
def rInP (K : PySem.W.Frag) (neg : Bool) : R2 := fun x y H Q => ∃ d e k, Rp K H x d ∧ Rp K H y e ∧ inD d e = some k ∧ Q (.bl (if neg then !k else k)) H
theorem flat_any {K : PySem.W.Frag} {H : Hp} {x : V} {d : PyData} (h : Rp K H x d) (f : flatD d = true) : ∀ {xs : List V} {es : List PyData}, RpA K H xs es → es.all flatD = true → inV x xs = memD d es ∧ xs.all flatV = true
  | _, _, .nil, _ => ⟨rfl, rfl⟩
  | _, _, .cons r t, g => by
    rw [List.all_cons, Bool.and_eq_true] at g
    obtain ⟨h1, h2⟩ := flat_any h f t g.2
    refine ⟨?_, by rw [List.all_cons, Bool.and_eq_true]; exact ⟨flat_V r g.1, h2⟩⟩
    show (eqV _ x || inV x _) = (PyData.eqv _ d || memD d _)
    rw [h1, eqv_flat r h g.1 f]
theorem valV_kd {K : PySem.W.Frag} {H : Hp} {q : Key} : ∀ {kvs : List (Key × V)} {es : List (Key × PyData)}, RpK K H kvs es → hasK (kD q) (es.map fun p => (kD p.1, p.2)) = some (valV kvs q).isSome
  | _, _, .nil => by cases q <;> rfl
  | _, _, @RpK.cons _ _ k v vs d ds r t => by
    have ih := valV_kd (q := q) t
    cases q with
    | inl i =>
      have ih : some ((ds.map fun p => (kD p.1, p.2)).any fun p => match p.1 with | .int j => i == j | _ => false) = some (valV vs (Sum.inl i)).isSome := ih
      show some ((((k, d) :: ds).map fun p => (kD p.1, p.2)).any fun p => match p.1 with | .int j => i == j | _ => false) = some (valV ((k, v) :: vs) (Sum.inl i)).isSome
      rw [List.map_cons, List.any_cons, Option.some.inj ih]
      unfold valV
      rw [List.find?_cons]
      cases k with
      | inl j =>
        by_cases hj : j = i
        · subst hj; simp [kD]
        · have : ¬ (Sum.inl j : Key) = Sum.inl i := fun z => hj (Sum.inl.inj z)
          simp [kD, this, Ne.symm hj]
      | inr j => simp [kD]
    | inr i =>
      have ih : some ((ds.map fun p => (kD p.1, p.2)).any fun p => match p.1 with | .str j => i == j | _ => false) = some (valV vs (Sum.inr i)).isSome := ih
      show some ((((k, d) :: ds).map fun p => (kD p.1, p.2)).any fun p => match p.1 with | .str j => i == j | _ => false) = some (valV ((k, v) :: vs) (Sum.inr i)).isSome
      rw [List.map_cons, List.any_cons, Option.some.inj ih]
      unfold valV
      rw [List.find?_cons]
      cases k with
      | inr j =>
        by_cases hj : j = i
        · subst hj; simp [kD]
        · have : ¬ (Sum.inr j : Key) = Sum.inr i := fun z => hj (Sum.inr.inj z)
          simp [kD, this, Ne.symm hj]
      | inl j => simp [kD]
theorem key_of {K : PySem.W.Frag} {H : Hp} {x : V} {d : PyData} {es : List (PyData × PyData)} {k : Bool} (h : Rp K H x d) (e : hasK d es = some k) : ∃ q, x = kV q ∧ d = kD q := by
  cases h with
  | int i => exact ⟨.inl i, rfl, rfl⟩
  | str i => exact ⟨.inr i, rfl, rfl⟩
  | _ => cases e
theorem lay_of {a : PyData} {es : List PyData} (h : deepD a = true) (k : deepL es = true) : a.canLay0 = true ∧ PyData.canLayAll0 es = true ∧ min (PyData.depthAll es) a.depth ≤ 150 := by
  obtain ⟨l1, l2⟩ := deep_lay h
  unfold deepL at k
  rw [Bool.and_eq_true] at k
  exact ⟨l1, k.1, Nat.le_trans (Nat.min_le_right _ _) l2⟩
theorem op_inP {X : Cx} (hu : X.A.units + 200 < cLine) : OpR X (compareOp .In) (rInP X.K false) := by
  rintro pins s σ H x y v u Q I rx ry ⟨d, e, k, h, r, c, q⟩
  have q : Q (.bl k) H := q
  cases r with
  | @lst a xs es h1 h2 =>
    have c : (if (flatD d && es.all flatD || deepD d && deepL es) = true then some (memD d es) else none) = some k := c
    split at c
    · rename_i cc
      cases c
      rw [Bool.or_eq_true, Bool.and_eq_true, Bool.and_eq_true] at cc
      rcases cc with ⟨f, g⟩ | ⟨f, g⟩
      · obtain ⟨e1, e2⟩ := flat_any h f h2 g
        exact op_in_seq pins s σ H x _ v u Q I rx ry ⟨a, xs, rfl, .inl h1, flat_V h f, e2, by rw [← e1] at q; exact q⟩
      · obtain ⟨as, r1, _⟩ := Rp.reads I h rx
        obtain ⟨bs, r2, _⟩ := Rp.reads I (.lst h1 h2) ry
        obtain ⟨l1, l2, l3⟩ := lay_of f g
        exact SeqAt.in_list_reads r2 r1 l2 l1 (by omega) ⟨.bl _, H, I, rfl, q⟩
    · cases c
  | @tup a xs es h1 h2 =>
    have c : (if (flatD d && es.all flatD || deepD d && deepL es) = true then some (memD d es) else none) = some k := c
    split at c
    · rename_i cc
      cases c
      rw [Bool.or_eq_true, Bool.and_eq_true, Bool.and_eq_true] at cc
      rcases cc with ⟨f, g⟩ | ⟨f, g⟩
      · obtain ⟨e1, e2⟩ := flat_any h f h2 g
        exact op_in_seq pins s σ H x _ v u Q I rx ry ⟨a, xs, rfl, .inr h1, flat_V h f, e2, by rw [← e1] at q; exact q⟩
      · obtain ⟨as, r1, _⟩ := Rp.reads I h rx
        obtain ⟨bs, r2, _⟩ := Rp.reads I (.tup h1 h2) ry
        obtain ⟨l1, l2, l3⟩ := lay_of f g
        exact SeqAt.in_tuple_reads r2 r1 l2 l1 (by omega) ⟨.bl _, H, I, rfl, q⟩
    · cases c
  | @dct a kvs es ds h1 h2 h3 =>
    obtain ⟨w, rfl, rfl⟩ := key_of h c
    subst h3
    have c2 := (valV_kd (q := w) h2).symm.trans c
    cases ry
    have g : DGet H a (kV w) (valV kvs w) := .inl ⟨kvs, w, h1, rfl, rfl⟩
    exact d_in (by omega) I g rx fun s' I' => ⟨.bl _, H, I', rfl, by rw [Option.some.inj c2]; exact q⟩
  | str z =>
    cases h with
    | str i =>
      cases c
      exact op_in_str pins s σ H _ _ v u Q I rx ry ⟨i, z, rfl, rfl, q⟩
    | _ => cases c
  | _ => cases c
theorem op_notInP {X : Cx} (hu : X.A.units + 200 < cLine) : OpR X (compareOp .NotIn) (rInP X.K true) := by
  rintro pins s σ H x y v u Q I rx ry ⟨d, e, k, h, r, c, q⟩
  have q : Q (.bl (!k)) H := q
  cases r with
  | @lst a xs es h1 h2 =>
    have c : (if (flatD d && es.all flatD || deepD d && deepL es) = true then some (memD d es) else none) = some k := c
    split at c
    · rename_i cc
      cases c
      rw [Bool.or_eq_true, Bool.and_eq_true, Bool.and_eq_true] at cc
      rcases cc with ⟨f, g⟩ | ⟨f, g⟩
      · obtain ⟨e1, e2⟩ := flat_any h f h2 g
        exact op_notIn_seq pins s σ H x _ v u Q I rx ry ⟨a, xs, rfl, .inl h1, flat_V h f, e2, by rw [← e1] at q; exact q⟩
      · obtain ⟨as, r1, _⟩ := Rp.reads I h rx
        obtain ⟨bs, r2, _⟩ := Rp.reads I (.lst h1 h2) ry
        obtain ⟨l1, l2, l3⟩ := lay_of f g
        exact SeqAt.notIn_list_reads r2 r1 l2 l1 (by omega) ⟨.bl _, H, I, rfl, q⟩
    · cases c
  | @tup a xs es h1 h2 =>
    have c : (if (flatD d && es.all flatD || deepD d && deepL es) = true then some (memD d es) else none) = some k := c
    split at c
    · rename_i cc
      cases c
      rw [Bool.or_eq_true, Bool.and_eq_true, Bool.and_eq_true] at cc
      rcases cc with ⟨f, g⟩ | ⟨f, g⟩
      · obtain ⟨e1, e2⟩ := flat_any h f h2 g
        exact op_notIn_seq pins s σ H x _ v u Q I rx ry ⟨a, xs, rfl, .inr h1, flat_V h f, e2, by rw [← e1] at q; exact q⟩
      · obtain ⟨as, r1, _⟩ := Rp.reads I h rx
        obtain ⟨bs, r2, _⟩ := Rp.reads I (.tup h1 h2) ry
        obtain ⟨l1, l2, l3⟩ := lay_of f g
        exact SeqAt.notIn_tuple_reads r2 r1 l2 l1 (by omega) ⟨.bl _, H, I, rfl, q⟩
    · cases c
  | @dct a kvs es ds h1 h2 h3 =>
    obtain ⟨w, rfl, rfl⟩ := key_of h c
    subst h3
    have c2 := (valV_kd (q := w) h2).symm.trans c
    cases ry
    have g : DGet H a (kV w) (valV kvs w) := .inl ⟨kvs, w, h1, rfl, rfl⟩
    exact d_notIn (by omega) I g rx fun s' I' => ⟨.bl _, H, I', rfl, by rw [Option.some.inj c2]; exact q⟩
  | str z =>
    cases h with
    | str i =>
      cases c
      exact op_notin_str pins s σ H _ _ v u Q I rx ry ⟨i, z, rfl, rfl, q⟩
    | _ => cases c
  | _ => cases c
theorem sn_in {K : PySem.W.Frag} {neg : Bool} : Sn2 K (rInP K neg) (hIn neg) := by
  intro S ρ F H v w a b o Q p ra rb e k
  unfold hIn at e
  obtain ⟨c, e1, rfl⟩ := Option.map_eq_some_iff.mp e
  exact ⟨_, _, c, ra.view p.hd.le, rb.view p.hd.le, e1, k _ F H p (.bl _)⟩
end Vs

/-! Vs, subscripts, slices, built-ins. -/
namespace Vs
open PySem PySem.Spec L2

/-! ### subscripts -/
def getK : PyData → List (PyData × PyData) → Option PyData
  | .int i, es => (es.find? fun p => match p.1 with | .int j => i == j | _ => false).map (·.2)
  | .str i, es => (es.find? fun p => match p.1 with | .str j => i == j | _ => false).map (·.2)
  | _, _ => none
def ixD (a k : PyData) : Option PyData := match a, k with
  | .list ds, .int i => atI ds i
  | .tuple ds, .int i => atI ds i
  | .str z, .int i => if z.length ≤ 16777216 then (atI z.cps.toList i).map fun c => .str ⟨#[c]⟩ else none
  | .dict es, k => getK k es
  | _, _ => none
def hIx (a b : O) : Option O := (ixD a.view b.view).map .fz
theorem valV_get {K : PySem.W.Frag} {H : Hp} {q : Key} {d : PyData} : ∀ {kvs : List (Key × V)} {es : List (Key × PyData)}, RpK K H kvs es → getK (kD q) (es.map fun p => (kD p.1, p.2)) = some d → ∃ v, valV kvs q = some v ∧ Rp K H v d
  | _, _, .nil, e => by cases q <;> cases e
  | _, _, @RpK.cons _ _ k v vs d' ds r t, e => by
    have ih := fun e => valV_get (q := q) (d := d) t e
    unfold valV
    rw [List.find?_cons]
    cases q with
    | inl i =>
      cases k with
      | inl j =>
        by_cases hj : j = i
        · subst hj
          have e : some d' = some d := by simpa [getK, kD] using e
          cases e
          exact ⟨v, by simp, r⟩
        · have h1 : ¬ (Sum.inl j : Key) = Sum.inl i := fun z => hj (Sum.inl.inj z)
          have h2 : (i == j) = false := by simpa using Ne.symm hj
          have e : getK (kD (Sum.inl i)) (ds.map fun p => (kD p.1, p.2)) = some d := by
            simp only [getK, kD, List.map_cons, List.find?_cons, h2] at e
            exact e
          simpa [h1, valV] using ih e
      | inr j =>
        have e : getK (kD (Sum.inl i)) (ds.map fun p => (kD p.1, p.2)) = some d := by
          simp only [getK, kD, List.map_cons, List.find?_cons] at e
          exact e
        simpa [valV] using ih e
    | inr i =>
      cases k with
      | inr j =>
        by_cases hj : j = i
        · subst hj
          have e : some d' = some d := by simpa [getK, kD] using e
          cases e
          exact ⟨v, by simp, r⟩
        · have h1 : ¬ (Sum.inr j : Key) = Sum.inr i := fun z => hj (Sum.inr.inj z)
          have h2 : (i == j) = false := by simpa using Ne.symm hj
          have e : getK (kD (Sum.inr i)) (ds.map fun p => (kD p.1, p.2)) = some d := by
            simp only [getK, kD, List.map_cons, List.find?_cons, h2] at e
            exact e
          simpa [h1, valV] using ih e
      | inl j =>
        have e : getK (kD (Sum.inr i)) (ds.map fun p => (kD p.1, p.2)) = some d := by
          simp only [getK, kD, List.map_cons, List.find?_cons] at e
          exact e
        simpa [valV] using ih e
theorem get_key {K : PySem.W.Frag} {H : Hp} {x : V} {d e : PyData} {es : List (PyData × PyData)} (h : Rp K H x d) (c : getK d es = some e) : ∃ q, x = kV q ∧ d = kD q := by
  cases h with
  | int i => exact ⟨.inl i, rfl, rfl⟩
  | str i => exact ⟨.inr i, rfl, rfl⟩
  | _ => cases c
def rIxD : R2 := fun x y H Q => ∃ a v, x = .ref a ∧ (∃ kvs w, Rd H a (.dK kvs) ∧ y = kV w ∧ valV kvs w = some v) ∧ Q v H
open PyProof.Rows in
theorem ix_dct {X : Cx} (hu : X.A.units + 200 < cLine) : IxR X rIxD := by
  rintro value slice pins s σ H _ y v u Q I rx ry ⟨a, z, rfl, ⟨kvs, w, h1, rfl, h2⟩, q⟩ hs
  cases rx
  have g : DGet H a (kV w) (some z) := .inl ⟨kvs, w, h1, rfl, h2.symm⟩
  exact tail_any (dict_typeIs I g) PySem.F.slot_dict_getitem.lookup (d_getItem (by omega) I g ry fun w' s' I' r => ⟨z, H, I', r, q⟩) hs
def rIxA (K : PySem.W.Frag) : R2 := fun x y H Q => rIx K x y H Q ∨ rIxD x y H Q
theorem ix_all {X : Cx} (hu : X.A.units + 200 < cLine) : IxR X (rIxA X.K) := IxR.or ix_seq (ix_dct hu)
theorem atI_rp {K : PySem.W.Frag} {F : Hp} {xs : List V} {ds : List PyData} {i : Int} {d : PyData} (r : RpA K F xs ds) (e : atI ds i = some d) : ∃ v, atI xs i = some v ∧ Rp K F v d := by
  unfold atI at e ⊢
  rw [r.len]
  cases h : ixN ds.length i with
  | none => rw [h] at e; cases e
  | some j =>
    rw [h] at e
    exact r.get (show ds[j]? = some d from e)
theorem sn_ix {K : PySem.W.Frag} : Sn2 K (rIxA K) hIx := by
  intro S ρ F H v w a b o Q p ra rb e k
  unfold hIx at e
  obtain ⟨d, e', rfl⟩ := Option.map_eq_some_iff.mp e
  clear e
  have e := e'
  clear e'
  unfold ixD at e
  split at e
  · rename_i ds i ea eb
    obtain ⟨l, xs, rfl, h1, r1⟩ := ra.lst p.hd.le ea
    obtain ⟨z, hz, rz⟩ := atI_rp r1 e
    exact .inl (.inl ⟨l, xs, i, z, rfl, rb.int eb, h1, hz, k _ F H p rz⟩)
  · rename_i ds i ea eb
    obtain ⟨l, xs, rfl, h1, r1⟩ := ra.tup p.hd.le ea
    obtain ⟨z, hz, rz⟩ := atI_rp r1 e
    exact .inl (.inr (.inl ⟨l, xs, i, z, rfl, rb.int eb, h1, hz, k _ F H p rz⟩))
  · rename_i z i ea eb
    split at e
    · rename_i hz
      obtain ⟨c, hc, rfl⟩ := Option.map_eq_some_iff.mp e
      exact .inl (.inr (.inr ⟨z, i, c, ra.str ea, rb.int eb, by rw [slen]; exact hz, hc, k _ F H p (.str _)⟩))
    · cases e
  · rename_i es ky ea
    obtain ⟨l, kvs, fs, rfl, h1, r1, rfl⟩ := ra.dct p.hd.le ea
    obtain ⟨q, rfl, eq⟩ := get_key (rb.view p.hd.le) e
    rw [eq] at e
    obtain ⟨z, hz, rz⟩ := valV_get r1 e
    exact .inr ⟨l, z, rfl, ⟨kvs, q, h1, rfl, hz⟩, k _ F H p rz⟩
  · cases e

/-! ### slices -/
def cutL {α : Type} (xs : List α) (lo hi : Option Int) : List α := (xs.drop (HT.sIx xs.length 0 lo)).take (HT.sIx xs.length xs.length hi - HT.sIx xs.length 0 lo)
theorem cut_rp {K : PySem.W.Frag} {F : Hp} {xs : List V} {ds : List PyData} (r : RpA K F xs ds) (lo hi : Option Int) : RpA K F (cutV xs lo hi) (cutL ds lo hi) := by
  unfold cutV cutL
  rw [r.len]
  exact (r.drop _).take _
def hSl (a : O) (lo hi : Option Int) : Option O := match a.view with
  | .list ds => some (.mu false (.lst (cutL ds lo hi)))
  | .tuple ds => some (.fz (.tuple (cutL ds lo hi)))
  | .str z => if z.length ≤ 16777216 then some (.fz (.str (cutS z lo hi))) else none
  | _ => none
def PR (_ : PySem.W.Frag) (_ : Sta) (_ : L2.St) (_ : Rho) (_ _ : Hp) (v : Option Int) (d : Option Int) : Prop := v = d
abbrev EvP (X : Cx) (W : WX) (e : Option Expr) (f : M (Option Int)) : Prop := PO X e (tG X.K W (PR X.K) f)
def asInt (x : Rf) : M (Option Int) := fun ρ => match rdO ρ x with
  | some a => (match a.view with | .int i => some (.ok (some i) ρ) | _ => none)
  | none => none
section
variable {X : Cx} {W : WX} {e : Expr} {f : M Rf} {g h : M (Option Int)} {lo hi : Option Expr} {pos p2 : Pos}
theorem evP_none : EvP X W none (M.ret none) := ⟨fun pins s σ H Q I ⟨ρ, F, p, o, e, q⟩ => by
  cases e
  exact po_none.run pins s σ H Q I (q none F H p rfl)⟩
theorem evP_some (he : EvO X W e f) : EvP X W (some e) (f.bind asInt) := ⟨fun pins s σ H Q I ⟨ρ, F, r⟩ => by
  refine (po_some he).run pins s σ H Q I ⟨ρ, F, r.bind.mono fun v H1 ⟨x, ρ1, F1, rx, p, p1, o, e, q⟩ => ?_⟩
  unfold asInt at e
  split at e
  · rename_i a ea
    split at e
    · rename_i i hi
      cases e
      exact ⟨i, (slot_of p1.hd rx ea).int hi, q (some i) F1 H1 p1 rfl⟩
    · cases e
  · cases e⟩
def rSlAll (K : PySem.W.Frag) : V → Option Int → Option Int → Hp → VK → Prop := fun x lo hi H Q => rSlL K x lo hi H Q ∨ ((fun x lo hi H Q => rSlA K x lo hi H Q ∨ rSlS x lo hi H Q) x lo hi H Q)
theorem ev_slice (he : EvO X W e f) (hl : EvP X W lo g) (hu : EvP X W hi h) : EvO X W (.Subscript e (.Slice lo hi none p2) pos) (f.bind fun x => g.bind fun l => h.bind fun u => dr1 (fun a => hSl a l u) x) :=
  peI (pe_slice (r := rSlAll X.K) (SlR.or sl_list (SlR.or sl_tupA sl_str)) he hl hu) fun σ H Q ⟨ρ, F, r⟩ =>
    ⟨ρ, F, r.bind.mono fun v H1 ⟨x, ρ1, F1, rx, p1, r1⟩ => ⟨ρ1, F1, r1.bind.mono fun l H2 ⟨l', ρ2, F2, el, p2, r2⟩ => ⟨ρ2, F2, r2.bind.mono fun u H3 ⟨u', ρ3, F3, eu, p3, r3⟩ => by
      have el : l = l' := el
      have eu : u = u' := eu
      subst el eu
      obtain ⟨a, o, sa, e, k⟩ := r3.dr1 ((rx.stay p2).stay p3)
      have p := r3.post
      unfold hSl at e
      split at e
      · rename_i ds ea
        cases e
        obtain ⟨b, xs, rfl, h1, r1⟩ := sa.lst p.hd.le ea
        exact .inl ⟨b, xs, rfl, h1, k.lst p (cut_rp r1 l u)⟩
      · rename_i ds ea
        cases e
        obtain ⟨b, xs, rfl, h1, r1⟩ := sa.tup p.hd.le ea
        refine .inr (.inl ⟨b, xs, rfl, h1, fun hw => ?_, fun _ => k.tup p (cut_rp r1 l u)⟩)
        have e2 : cutL ds l u = ds := by
          unfold cutL
          rw [← r1.len, hw.1, hw.2, List.drop_zero, Nat.sub_zero, r1.len, List.take_length]
        rw [e2] at k
        cases a with
        | fz d => have ea : d = .tuple ds := ea; subst ea; exact k _ F3 H3 p sa
        | mu b m => cases m <;> cases ea
      · rename_i z ea
        split at e
        · rename_i hz
          cases e
          exact .inr (.inr ⟨z, sa.str ea, by rw [slen]; exact hz, k _ F3 H3 p (.str _)⟩)
        · cases e
      · cases e⟩⟩⟩
end

/-! ### built-ins of one and two values -/
section
variable {K : PySem.W.Frag}
def hLen : List O → Option O
  | [a] => (match a.view with
    | .str z => if z.length ≤ 16777216 then some (.fz (.int z.length)) else none
    | .list ds => some (.fz (.int ds.length))
    | .tuple ds => some (.fz (.int ds.length))
    | .dict ds => some (.fz (.int ds.length))
    | _ => none)
  | _ => none
def rLenD : List V → Hp → VK → Prop := fun xs H Q => ∃ a kvs, xs = [V.ref a] ∧ Rd H a (.dK kvs) ∧ Q (.int kvs.length) H
theorem call_lenRd {X : Cx} : CallR X (.builtin "len") rLenD := by
  rintro pins s σ H _ us Q I r ⟨a, kvs, rfl, h1, q⟩
  obtain ⟨u, rfl, ru⟩ := vals1 r
  cases ru
  obtain ⟨hz, hs, vs, rel, dd⟩ := dk_rd I.hok h1
  have hl := Paired.length rel
  have h63 := line63
  have hn : (vs.length : Int) = kvs.length := by rw [hl]
  exact call_len_dict hs dd (by omega) ⟨.int kvs.length, H, I.tok _, ⟨_, by rw [hn]⟩, q⟩
def rLenA (K : PySem.W.Frag) : List V → Hp → VK → Prop := fun xs H Q => (fun xs H Q => ∃ x n, xs = [x] ∧ LenV K x H n ∧ Q (.int n) H) xs H Q ∨ rLenD xs H Q
theorem call_lenA {X : Cx} : CallR X (.builtin "len") (rLenA X.K) := CallR.or call_len call_lenRd
theorem sn_len : SnN K (rLenA K) hLen := by
  intro S ρ F H vs os o Q p r e k
  unfold hLen at e
  split at e
  · rename_i a
    obtain ⟨v, rfl, ra⟩ := one_slot r
    split at e
    · rename_i z ea
      split at e
      · rename_i hz
        cases e
        have ev := ra.str ea
        subst ev
        exact .inl ⟨_, z.length, rfl, ⟨by rw [slen]; exact hz, rfl⟩, k _ F H p (.int _)⟩
      · cases e
    · rename_i ds ea
      cases e
      obtain ⟨b, xs, rfl, h1, r1⟩ := ra.lst p.hd.le ea
      exact .inl ⟨_, ds.length, rfl, .inl ⟨xs, h1, r1.len.symm⟩, k _ F H p (.int _)⟩
    · rename_i ds ea
      cases e
      obtain ⟨b, xs, rfl, h1, r1⟩ := ra.tup p.hd.le ea
      exact .inl ⟨_, ds.length, rfl, .inr ⟨xs, h1, r1.len.symm⟩, k _ F H p (.int _)⟩
    · rename_i ds ea
      cases e
      obtain ⟨b, kvs, es, rfl, h1, r1, rfl⟩ := ra.dct p.hd.le ea
      refine .inr ⟨b, kvs, rfl, h1, ?_⟩
      have : ((es.map fun p => (kD p.1, p.2)).length : Int) = kvs.length := by rw [List.length_map, r1.len]
      rw [← this]
      exact k _ F H p (.int _)
    · cases e
  · cases e
def hAbs : List O → Option O
  | [a] => (match a.view with
    | .int i => some (.fz (.int (if i < 0 then -i else i)))
    | _ => none)
  | _ => none
theorem sn_abs : SnN K (fun xs H Q => ∃ i, xs = [V.int i] ∧ Q (.int (if i < 0 then -i else i)) H) hAbs := by
  intro S ρ F H vs os o Q p r e k
  unfold hAbs at e
  split at e
  · obtain ⟨v, rfl, ra⟩ := one_slot r
    split at e
    · rename_i i ea
      cases e
      exact ⟨i, by rw [ra.int ea], k _ F H p (.int _)⟩
    · cases e
  · cases e
def hInt : List O → Option O
  | [a] => (match a.view with
    | .int i => some (.fz (.int i))
    | .bool b => some (.fz (.int (if b then 1 else 0)))
    | .str z => (match PySem.intText? z with
      | some n => if z.length ≤ 640 then some (.fz (.int n)) else none
      | none => none)
    | _ => none)
  | _ => none
def rIntA : List V → Hp → VK → Prop := fun xs H Q => (fun xs H Q => (∃ i, xs = [V.int i] ∧ Q (.int i) H) ∨ ∃ k, xs = [V.bl k] ∧ Q (.int (if k then 1 else 0)) H) xs H Q ∨ (∃ a n, xs = [V.str a] ∧ PySem.intText? a = some n ∧ a.length ≤ 640 ∧ Q (.int n) H)
theorem call_intA {X : Cx} : CallR X (.type "int") rIntA := CallR.or call_int1 call_int_str
theorem sn_int : SnN K rIntA hInt := by
  intro S ρ F H vs os o Q p r e k
  unfold hInt at e
  split at e
  · obtain ⟨v, rfl, ra⟩ := one_slot r
    split at e
    · rename_i i ea
      cases e
      exact .inl (.inl ⟨i, by rw [ra.int ea], k _ F H p (.int _)⟩)
    · rename_i i ea
      cases e
      exact .inl (.inr ⟨i, by rw [ra.bl ea], k _ F H p (.int _)⟩)
    · rename_i z ea
      split at e
      · rename_i n hn
        split at e
        · rename_i hz
          cases e
          exact .inr ⟨z, n, by rw [ra.str ea], hn, hz, k _ F H p (.int _)⟩
        · cases e
      · cases e
    · cases e
  · cases e
def hMax2 : List O → Option O
  | [a, b] => (match a.view, b.view with
    | .int i, .int j => some (.fz (.int (if j > i then j else i)))
    | _, _ => none)
  | _ => none
def hMin2 : List O → Option O
  | [a, b] => (match a.view, b.view with
    | .int i, .int j => some (.fz (.int (if j < i then j else i)))
    | _, _ => none)
  | _ => none
theorem sn_max2 : SnN K (fun xs H Q => ∃ i j, xs = [V.int i, V.int j] ∧ Q (.int (if j > i then j else i)) H) hMax2 := by
  intro S ρ F H vs os o Q p r e k
  unfold hMax2 at e
  split at e
  · obtain ⟨v, w, rfl, ra, rb⟩ := two_slot r
    split at e
    · rename_i i j ea eb
      cases e
      exact ⟨i, j, by rw [ra.int ea, rb.int eb], k _ F H p (.int _)⟩
    · cases e
  · cases e
theorem sn_min2 : SnN K (fun xs H Q => ∃ i j, xs = [V.int i, V.int j] ∧ Q (.int (if j < i then j else i)) H) hMin2 := by
  intro S ρ F H vs os o Q p r e k
  unfold hMin2 at e
  split at e
  · obtain ⟨v, w, rfl, ra, rb⟩ := two_slot r
    split at e
    · rename_i i j ea eb
      cases e
      exact ⟨i, j, by rw [ra.int ea, rb.int eb], k _ F H p (.int _)⟩
    · cases e
  · cases e
def intsD : List PyData → Option (List Int)
  | [] => some []
  | .int i :: r => (intsD r).map (i :: ·)
  | _ => none
def boolsD : List PyData → Option (List Bool)
  | [] => some []
  | .bool i :: r => (boolsD r).map (i :: ·)
  | _ => none
theorem ints_rp {F : Hp} : ∀ {xs : List V} {ds : List PyData} {ns : List Int}, RpA K F xs ds → intsD ds = some ns → xs = ns.map V.int
  | _, _, _, .nil, e => by cases e; rfl
  | _, _, _, .cons h t, e => by
    cases h with
    | int i =>
      obtain ⟨r, e1, rfl⟩ := Option.map_eq_some_iff.mp (show Option.map _ (intsD _) = some _ from e)
      rw [ints_rp t e1]; rfl
    | _ => cases e
theorem bools_rp {F : Hp} : ∀ {xs : List V} {ds : List PyData} {ns : List Bool}, RpA K F xs ds → boolsD ds = some ns → xs = ns.map V.bl
  | _, _, _, .nil, e => by cases e; rfl
  | _, _, _, .cons h t, e => by
    cases h with
    | bl i =>
      obtain ⟨r, e1, rfl⟩ := Option.map_eq_some_iff.mp (show Option.map _ (boolsD _) = some _ from e)
      rw [bools_rp t e1]; rfl
    | _ => cases e
def hSum : List O → Option O
  | [a] => (match a.view with
    | .list ds => (intsD ds).map fun ns => .fz (.int ns.sum)
    | _ => none)
  | _ => none
theorem sn_sum : SnN K (rSum K) hSum := by
  intro S ρ F H vs os o Q p r e k
  unfold hSum at e
  split at e
  · obtain ⟨v, rfl, ra⟩ := one_slot r
    split at e
    · rename_i ds ea
      obtain ⟨ns, e1, rfl⟩ := Option.map_eq_some_iff.mp e
      obtain ⟨b, xs, rfl, h1, r1⟩ := ra.lst p.hd.le ea
      have ex := ints_rp r1 e1
      subst ex
      exact ⟨b, ns, rfl, h1, k _ F H p (.int _)⟩
    · cases e
  · cases e
def hAll : List O → Option O
  | [a] => (match a.view with
    | .list ds => (boolsD ds).map fun ns => .fz (.bool (ns.all id))
    | _ => none)
  | _ => none
def hAny : List O → Option O
  | [a] => (match a.view with
    | .list ds => (boolsD ds).map fun ns => .fz (.bool (ns.any id))
    | _ => none)
  | _ => none
theorem sn_all : SnN K (rAll K) hAll := by
  intro S ρ F H vs os o Q p r e k
  unfold hAll at e
  split at e
  · obtain ⟨v, rfl, ra⟩ := one_slot r
    split at e
    · rename_i ds ea
      obtain ⟨ns, e1, rfl⟩ := Option.map_eq_some_iff.mp e
      obtain ⟨b, xs, rfl, h1, r1⟩ := ra.lst p.hd.le ea
      have ex := bools_rp r1 e1
      subst ex
      exact ⟨b, ns, rfl, h1, k _ F H p (.bl _)⟩
    · cases e
  · cases e
theorem sn_any : SnN K (rAny K) hAny := by
  intro S ρ F H vs os o Q p r e k
  unfold hAny at e
  split at e
  · obtain ⟨v, rfl, ra⟩ := one_slot r
    split at e
    · rename_i ds ea
      obtain ⟨ns, e1, rfl⟩ := Option.map_eq_some_iff.mp e
      obtain ⟨b, xs, rfl, h1, r1⟩ := ra.lst p.hd.le ea
      have ex := bools_rp r1 e1
      subst ex
      exact ⟨b, ns, rfl, h1, k _ F H p (.bl _)⟩
    · cases e
  · cases e
def hTuple : List O → Option O
  | [a] => (match a.view with
    | .list ds => some (.fz (.tuple ds))
    | .tuple ds => some (.fz (.tuple ds))
    | _ => none)
  | _ => none
def rTupleA (K : PySem.W.Frag) : List V → Hp → VK → Prop := fun xs H Q => ∃ p ys, xs = [.ref p] ∧ ((SqL K H p ys ∧ ∀ l, H l = none → Q (.ref l) (upd H l (.tup ys))) ∨ (SqT K H p ys ∧ Q (.ref p) H))
theorem sn_tuple : SnN K (rTupleA K) hTuple := by
  intro S ρ F H vs os o Q p r e k
  unfold hTuple at e
  split at e
  · obtain ⟨v, rfl, ra⟩ := one_slot r
    rename_i a
    split at e
    · rename_i ds ea
      cases e
      obtain ⟨b, xs, rfl, h1, r1⟩ := ra.lst p.hd.le ea
      exact ⟨b, xs, rfl, .inl ⟨h1, k.tup p r1⟩⟩
    · rename_i ds ea
      cases e
      obtain ⟨b, xs, rfl, h1, r1⟩ := ra.tup p.hd.le ea
      refine ⟨b, xs, rfl, .inr ⟨h1, ?_⟩⟩
      cases a with
      | fz d => have ea : d = .tuple ds := ea; subst ea; exact k _ F H p ra
      | mu b m => cases m <;> cases ea
    · cases e
  · cases e
def hList : List O → Option O
  | [a] => (match a.view with
    | .list ds => some (.mu false (.lst ds))
    | .tuple ds => some (.mu false (.lst ds))
    | _ => none)
  | _ => none
def rListA (K : PySem.W.Frag) : List V → Hp → VK → Prop := fun xs H Q => ∃ p ys, xs = [.ref p] ∧ (SqL K H p ys ∨ SqT K H p ys) ∧ ∀ l, H l = none → Q (.ref l) (upd H l (.lst ys))
theorem sn_list : SnN K (rListA K) hList := by
  intro S ρ F H vs os o Q p r e k
  unfold hList at e
  split at e
  · obtain ⟨v, rfl, ra⟩ := one_slot r
    split at e
    · rename_i ds ea
      cases e
      obtain ⟨b, xs, rfl, h1, r1⟩ := ra.lst p.hd.le ea
      exact ⟨b, xs, rfl, .inl h1, k.lst p r1⟩
    · rename_i ds ea
      cases e
      obtain ⟨b, xs, rfl, h1, r1⟩ := ra.tup p.hd.le ea
      exact ⟨b, xs, rfl, .inr h1, k.lst p r1⟩
    · cases e
  · cases e
end
end Vs

/-! Vs, tests, methods, stores. -/
namespace Vs
open PySem PySem.Spec L2

theorem Run.sub {α β : Type} {K : PySem.W.Frag} {W : WX} {R : Sta → L2.St → Rho → Hp → Hp → β → α → Prop} {S : Sta} {f : M α} {ρ : Rho} {F H : Hp} {Q : β → Hp → Prop} (ok : RelOk K R) (r : Run K W R S f ρ F H Q) : tG K W R f S.σ H Q := by
  obtain ⟨p, o, e, q⟩ := r
  refine ⟨ρ, F, Post.refl p.hd, o, e, ?_⟩
  cases o with
  | ok x ρ' => exact fun v F' H' a b => q v F' H' (p.trans a) (ok.up p b)
  | ex c ρ' => exact fun d F' H' a => q d F' H' (p.trans a)
/-! ### tests -/
def truD : PyData → Option Bool
  | .none => some false
  | .bool b => some b
  | .int i => some (i != 0)
  | .str x => if x.length ≤ 16777216 then some ((x.length : Int) != 0) else none
  | .list ds => some !ds.isEmpty
  | .tuple ds => some !ds.isEmpty
  | .dict _ => none
def tru (x : Rf) : M Bool := fun ρ => match rdO ρ x with
  | some a => (match truD a.view with | some b => some (.ok b ρ) | none => none)
  | none => none
section
variable {X : Cx} {W : WX} {e a b c : Expr} {es : List Expr} {f g : M Rf} {t u : M Bool} {pos : Pos}
theorem isE {K : PySem.W.Frag} {F : Hp} {xs : List V} {ds : List PyData} (r : RpA K F xs ds) : (!ds.isEmpty) = !xs.isEmpty := by cases r <;> rfl
theorem evT_tru (h : EvO X W e f) (he : ∀ whole, isTrue e X.env whole = (do let v ← whole; standAt e.pos; holding [v] (truthy v)) := by intro _; rfl) : EvT X W e (f.bind tru) := ptI (pt_truth h he) fun σ H Q ⟨ρ, F, r⟩ =>
  ⟨ρ, F, r.bind.mono fun v H1 ⟨x, ρ1, F1, rx, p, p1, o, e, q⟩ => by
    unfold tru at e
    split at e
    · rename_i d ed
      have sl := slot_of p1.hd rx ed
      split at e
      · rename_i k ek
        cases e
        refine ⟨k, ?_, q k F1 H1 p1 rfl⟩
        unfold truD at ek
        split at ek
        · rename_i hv; cases ek; rw [sl.non hv]; exact rfl
        · rename_i hv; cases ek; rw [sl.bl hv]; exact rfl
        · rename_i hv; cases ek; rw [sl.int hv]; exact rfl
        · rename_i hv
          split at ek
          · rename_i hz; cases ek; rw [sl.str hv]; exact ⟨by rw [slen]; exact hz, rfl⟩
          · cases ek
        · rename_i ds hv
          cases ek
          obtain ⟨l, xs, rfl, h1, r1⟩ := sl.lst p1.hd.le hv
          exact .inl ⟨xs, h1, isE r1⟩
        · rename_i ds hv
          cases ek
          obtain ⟨l, xs, rfl, h1, r1⟩ := sl.tup p1.hd.le hv
          exact .inr (.inl ⟨xs, h1, isE r1⟩)
        · cases ek
      · cases e
    · cases e⟩
theorem evT_not (h : EvT X W a t) : EvT X W (.UnaryOp .Not a pos) (t.bind fun k => M.ret !k) := ptI (pt_not h) fun σ H Q ⟨ρ, F, r⟩ =>
  ⟨ρ, F, r.bind.mono fun v H1 ⟨x, ρ1, F1, rx, p, p1, o, e, q⟩ => by
    have rx : v = x := rx
    subst rx
    cases e
    exact q (!v) F1 H1 p1 rfl⟩
abbrev EvW (X : Cx) (W : WX) (e : Expr) (f : M Bool) : Prop := PW X e (tG X.K W (BR X.K) f)
theorem pwI {t t' : TT} (h : PW X e t) (k : ∀ σ H Q, t' σ H Q → t σ H Q) : PW X e t' := ⟨fun wh pins s σ H Q I q => h.run wh pins s σ H Q I (k σ H Q q)⟩
theorem evW_and1 (h : EvT X W a t) : EvW X W (.BoolOp .And [a] pos) t := pw_and1 h
theorem evW_or1 (h : EvT X W a t) : EvW X W (.BoolOp .Or [a] pos) t := pw_or1 h
theorem evW_and (h : EvT X W a t) (k : EvW X W (.BoolOp .And (b :: es) pos) u) : EvW X W (.BoolOp .And (a :: b :: es) pos) (t.bind fun k => if k then u else M.ret false) := pwI (pw_and h k) fun σ H Q ⟨ρ, F, r⟩ =>
  ⟨ρ, F, r.bind.mono fun v H1 ⟨x, ρ1, F1, rx, p, r1⟩ => by
    have rx : v = x := rx
    subst rx
    cases v with
    | true => exact r1.sub bOk
    | false =>
      obtain ⟨p1, o, e, q⟩ := r1
      cases e
      exact q false F1 H1 p1 rfl⟩
theorem evW_or (h : EvT X W a t) (k : EvW X W (.BoolOp .Or (b :: es) pos) u) : EvW X W (.BoolOp .Or (a :: b :: es) pos) (t.bind fun k => if k then M.ret true else u) := pwI (pw_or h k) fun σ H Q ⟨ρ, F, r⟩ =>
  ⟨ρ, F, r.bind.mono fun v H1 ⟨x, ρ1, F1, rx, p, r1⟩ => by
    have rx : v = x := rx
    subst rx
    cases v with
    | false => exact r1.sub bOk
    | true =>
      obtain ⟨p1, o, e, q⟩ := r1
      cases e
      exact q true F1 H1 p1 rfl⟩
theorem evT_w (h : EvW X W e t) : EvT X W e t := h.pt
end

/-! ### and, or, not, if as values -/
def asB (x : Rf) : M Bool := fun ρ => match rdO ρ x with
  | some a => (match a.view with | .bool b => some (.ok b ρ) | _ => none)
  | none => none
theorem Run.asB {K : PySem.W.Frag} {W : WX} {S : Sta} {γ δ : Type} {R2 : Sta → L2.St → Rho → Hp → Hp → δ → γ → Prop} {k : Bool → M γ} {x : Rf} {ρ : Rho} {F H : Hp} {Q : δ → Hp → Prop} {v : V} (r : Run K W R2 S ((asB x).bind k) ρ F H Q) (rx : RfR K S S.σ ρ F H v x) :
    ∃ b, v = .bl b ∧ Run K W R2 S (k b) ρ F H Q := by
  obtain ⟨p, o, e, q⟩ := r
  unfold M.bind at e
  unfold Vs.asB at e
  cases ed : rdO ρ x with
  | none => rw [ed] at e; cases e
  | some d =>
    rw [ed] at e
    have sl := slot_of p.hd rx ed
    cases hv : d.view with
    | bool b => simp only [hv] at e; exact ⟨b, sl.bl hv, p, o, e, q⟩
    | _ => simp only [hv] at e; cases e
section
variable {X : Cx} {W : WX} {e a b c : Expr} {es : List Expr} {f g : M Rf} {t u : M Bool} {pos : Pos}
theorem ev_not (h : EvO X W a f) : EvO X W (.UnaryOp .Not a pos) (f.bind fun x => (asB x).bind fun k => M.ret (.o (.fz (.bool !k)))) := peI (pe_not h) fun σ H Q ⟨ρ, F, r⟩ =>
  ⟨ρ, F, r.bind.mono fun v H1 ⟨x, ρ1, F1, rx, p, r1⟩ => by
    obtain ⟨b, ev, p1, o, e, q⟩ := r1.asB rx
    subst ev
    cases e
    exact ⟨b, rfl, q _ F1 H1 p1 (.bl _)⟩⟩
theorem ev_one {op : BoolOp} (h : EvO X W a f) : EvO X W (.BoolOp op [a] pos) f := pe_one h
theorem ev_and (h : EvO X W a f) (k : EvO X W (.BoolOp .And (b :: es) pos) g) : EvO X W (.BoolOp .And (a :: b :: es) pos) (f.bind fun x => (asB x).bind fun k => if k then g else M.ret (.o (.fz (.bool false)))) := peI (pe_and h k) fun σ H Q ⟨ρ, F, r⟩ =>
  ⟨ρ, F, r.bind.mono fun v H1 ⟨x, ρ1, F1, rx, p, r1⟩ => by
    obtain ⟨b, ev, r2⟩ := r1.asB rx
    refine ⟨b, ev, ?_⟩
    cases b with
    | true => exact r2.sub rfOk
    | false =>
      obtain ⟨p1, o, e, q⟩ := r2
      cases e
      exact q _ F1 H1 p1 (.bl _)⟩
theorem ev_or (h : EvO X W a f) (k : EvO X W (.BoolOp .Or (b :: es) pos) g) : EvO X W (.BoolOp .Or (a :: b :: es) pos) (f.bind fun x => (asB x).bind fun k => if k then M.ret (.o (.fz (.bool true))) else g) := peI (pe_or h k) fun σ H Q ⟨ρ, F, r⟩ =>
  ⟨ρ, F, r.bind.mono fun v H1 ⟨x, ρ1, F1, rx, p, r1⟩ => by
    obtain ⟨b, ev, r2⟩ := r1.asB rx
    refine ⟨b, ev, ?_⟩
    cases b with
    | false => exact r2.sub rfOk
    | true =>
      obtain ⟨p1, o, e, q⟩ := r2
      cases e
      exact q _ F1 H1 p1 (.bl _)⟩
theorem ev_ifx (h : EvT X W c t) (ha : EvO X W a f) (hb : EvO X W b g) : EvO X W (.IfExp c a b pos) (t.bind fun k => if k then f else g) := peI (pe_ifExp h ha hb) fun σ H Q ⟨ρ, F, r⟩ =>
  ⟨ρ, F, r.bind.mono fun v H1 ⟨x, ρ1, F1, rx, p, r1⟩ => by
    have rx : v = x := rx
    subst rx
    cases v with
    | true => exact r1.sub rfOk
    | false => exact r1.sub rfOk⟩
end

/-! ### isinstance of a built-in type -/
def tyD : PyData → String
  | .none => "NoneType" | .bool _ => "bool" | .int _ => "int" | .str _ => "str" | .list _ => "list" | .tuple _ => "tuple" | .dict _ => "dict"
def isD (T : String) (d : PyData) : Bool := tyD d == T || (T == "int" && tyD d == "bool")
def hIsi (T : String) (a : O) : Option O := if (["str", "int", "bool", "tuple", "list", "dict"] : List String).contains T = true then some (.fz (.bool (isD T a.view))) else none
theorem kit_all : ∀ S ∈ (["NoneType", "bool", "int", "str", "list", "tuple", "dict"] : List String), ∀ T ∈ (["str", "int", "bool", "tuple", "list", "dict"] : List String), kitB S T = some (S == T || (T == "int" && S == "bool")) := by decide +kernel
theorem kit_of {K : PySem.W.Frag} {T : String} {d : PyData} (h : (["str", "int", "bool", "tuple", "list", "dict"] : List String).contains T = true) : PySem.W.kitOne K (.type (tyD d)) (.type T) = some (isD T d) :=
  kit_ty (kit_all _ (by cases d <;> simp [tyD]) T (by simpa using h))
theorem tyX_of {K : PySem.W.Frag} {H : Hp} {v : V} {d : PyData} (h : Rp K H v d) : TyX K H v (.type (tyD d)) := by
  cases h with
  | non => exact .base .non
  | bl b => exact .base (.bl b)
  | int i => exact .base (.int i)
  | str x => exact .base (.str x)
  | lst h1 _ =>
    rcases h1 with (h | ⟨o, h⟩) | ⟨o, its, n, h, hc, _⟩
    · exact .base (.lst h)
    · exact .base (.frz h)
    · exact .kList h hc
  | tup h1 _ =>
    rcases h1 with (h | ⟨o, h⟩) | ⟨o, its, n, h, hc, _⟩
    · exact .base (.tup h)
    · exact .fTuple h
    · exact .kTuple h hc
  | dct h1 _ _ =>
    rcases h1 with h | ⟨o, h⟩
    · exact .base (.dK h)
    · exact .fDict h
section
variable {X : Cx} {W : WX} {e a b c : Expr} {f g : M Rf} {pos p p2 : Pos} {T : Str}
theorem ev_isi {n : String} (hg : Gl X "isinstance") (hm : X.mg "isinstance" = none) (hgT : Gl X T) (hmT : X.mg T = none) (hT : bootBuiltins T = some (.type n)) (ha : EvO X W a f)
    (hv : bootBuiltins "isinstance" = some (.builtin "isinstance")) (hn : T ≠ "__name__" := by decide) (hd : (T == ("__debug__" : Str)) = false := by decide)
    (he : starEach (a :: [.Name T p2]) X.env = (false, eval a X.env) :: starEach [.Name T p2] X.env := by rfl) (he2 : starEach (.Name T p2 :: []) X.env = (false, eval (.Name T p2) X.env) :: starEach [] X.env := by rfl)
    (hpl : (backTo pos (starEach [.Name T p2] X.env)).any (·.1) = false := by rfl) : EvO X W (.Call (.Name "isinstance" p) [a, .Name T p2] [] pos) (f.bind fun x => dr1 (hIsi n) x) :=
  peI (pe_callB call_isi hg hm hv (pa_cons ha (pa_cons (pe_bltn (v := .ty n) hgT hmT hT rfl hn hd) pa_nil he2) he) (by decide) (by decide) he hpl) fun σ H Q ⟨ρ, F, r⟩ =>
    ⟨ρ, F, r.bind.mono fun v H1 ⟨x, ρ1, F1, rx, p, r1⟩ => by
      obtain ⟨d, o, sl, e, k⟩ := r1.dr1 rx
      unfold hIsi at e
      split at e
      · rename_i hT
        cases e
        exact ⟨v, .ty n, _, _, _, rfl, .ty n, tyX_of (sl.view r1.post.hd.le), kit_of hT, k _ F1 H1 r1.post (.bl _)⟩
      · cases e⟩
end

/-! ### a built-in type's methods -/
def tyM (T : String) (d : PyData) : Bool := match d with
  | .str _ => T == "str"
  | .list _ => T == "list"
  | _ => false
def SnM (K : PySem.W.Frag) (T : String) (r : V → List V → Hp → VK → Prop) (h : O → List O → Option O) : Prop := ∀ S ρ F H v a vs os o Q, Post K S S.σ ρ F H → SlotR K F H v a → Paired (SlotR K F H) vs os → h a os = some o → Cont K S ρ o Q → r v vs H Q
def drM (T : String) (h : O → List O → Option O) (x : Rf) (ys : List Rf) : M Rf := fun ρ => match rdO ρ x, rdL ρ ys with
  | some a, some os => if tyM T a.view = true then (match h a os with | some o => some (.ok (.o o) ρ) | none => none) else none
  | _, _ => none
def ckM (T : String) (x : Rf) : M Rf := fun ρ => match rdO ρ x with
  | some a => if tyM T a.view = true then some (.ok x ρ) else none
  | none => none
theorem tyV_of {K : PySem.W.Frag} {F H : Hp} {v : V} {a : O} {T : String} (le : Le F H) (s : SlotR K F H v a) (h : tyM T a.view = true) : tyV K T v H := by
  unfold tyM at h
  split at h
  · rename_i z hv; rw [s.str hv]; exact eq_of_beq h
  · rename_i ds hv
    obtain ⟨l, xs, rfl, h1, _⟩ := s.lst le hv
    exact .inl ⟨eq_of_beq h, xs, h1⟩
  · cases h
section
variable {X : Cx} {W : WX} {o e : Expr} {es : List Expr} {f : M Rf} {g : M (List Rf)} {name : Str} {apos cpos : Pos} {T id : String} {r : V → List V → Hp → VK → Prop} {h : O → List O → Option O}
theorem ev_bm (pa : PlainAttrs T) (slot : Slot T name id) (hty : typeOf (.builtin id) = pure (.type "method_descriptor")) (hm : MtR X id r) (sn : SnM X.K T r h) (ho : EvO X W o f) (ha : EvL X W (e :: es) g)
    (hbase : attributeBase o name X.env (eval o X.env) = eval o X.env := by rfl)
    (hfew : ((backTo cpos (starEach (e :: es) X.env)).all (fun x => !x.1) && (backToKw cpos (keywordEach [] X.env)).all (fun x => x.1.isSome)
      && decide ((e :: es).length + ([] : List Keyword).length + (if ([] : List Keyword).isEmpty then 0 else 1) < 30)) = true := by rfl)
    (hline : (apos.endLine == cpos.line) = true := by rfl) (hs : starEach (e :: es) X.env = (false, eval e X.env) :: starEach es X.env := by rfl) (hplain : (backTo cpos (starEach es X.env)).any (·.1) = false := by rfl) :
    EvO X W (.Call (.Attribute o name apos) (e :: es) [] cpos) (f.bind fun x => (ckM T x).bind fun x => g.bind fun ys => drM T h x ys) :=
  peI (pe_bm pa slot hty hm ho ha hbase hfew hline hs hplain) fun σ H Q ⟨ρ, F, r⟩ => ⟨ρ, F, r.bind.mono fun v H1 ⟨x, ρ1, F1, rx, p, r1⟩ => by
    obtain ⟨p1, o1, e1, q1⟩ := r1
    unfold M.bind ckM at e1
    cases ed : rdO ρ1 x with
    | none => rw [ed] at e1; cases e1
    | some d =>
      rw [ed] at e1
      by_cases ht : tyM T d.view = true
      · simp only [ht, if_true] at e1
        have r2 : Run X.K W (RfR X.K) ⟨σ, ρ, F, H⟩ (g.bind fun ys => drM T h x ys) ρ1 F1 H1 Q := ⟨p1, o1, e1, q1⟩
        refine ⟨tyV_of p1.hd.le (slot_of p1.hd rx ed) ht, ρ1, F1, r2.bind.mono fun vs H2 ⟨ys, ρ2, F2, ry, p2, p3, o2, e2, q2⟩ => ?_⟩
        unfold drM at e2
        split at e2
        · rename_i a os ea eo
          split at e2
          · split at e2
            · cases e2
              rename_i o3 eo3
              exact sn _ _ _ _ _ _ _ _ _ _ p3 (slot_of p3.hd (rx.stay p2) ea) (rdL_slots p3.hd (Paired.mapP ry fun v y h => rfOk.up p1 h) eo) eo3 q2
            · cases e2
          · cases e2
        · cases e2
      · simp only [ht] at e1
        cases e1⟩
end
/-- xs.index(x) -/
def idxD (a : PyData) : List PyData → Option Nat
  | [] => none
  | d :: ds => if PyData.eqv d a then some 0 else (idxD a ds).map (· + 1)
def hIndex (a : O) (xs : List O) : Option O := match xs with
  | [b] => (match a.view with
    | .list ds => if flatD b.view = true ∧ ds.all flatD = true then (idxD b.view ds).map fun i => .fz (.int (i : Nat)) else none
    | _ => none)
  | _ => none
theorem idx_spec {a : PyData} : ∀ {ds : List PyData} {i : Nat}, idxD a ds = some i → (∃ d, ds[i]? = some d ∧ PyData.eqv d a = true) ∧ ∀ (m : Nat) (z : PyData), m < i → ds[m]? = some z → PyData.eqv z a = false
  | [], i, e => by cases e
  | d :: ds, i, e => by
    unfold idxD at e
    split at e
    · rename_i h
      cases e
      exact ⟨⟨d, rfl, h⟩, fun m z hm => by omega⟩
    · rename_i h
      obtain ⟨j, e1, rfl⟩ := Option.map_eq_some_iff.mp e
      obtain ⟨⟨d', h1, h2⟩, h3⟩ := idx_spec e1
      refine ⟨⟨d', by simpa using h1, h2⟩, fun m z hm hz => ?_⟩
      cases m with
      | zero => simp at hz; subst hz; exact Bool.eq_false_iff.mpr h
      | succ m => exact h3 m z (by omega) (by simpa using hz)
theorem sn_index {K : PySem.W.Frag} : SnM K "list" (rIndex K) hIndex := by
  intro S ρ F H v a vs os o Q p ra rs e k
  unfold hIndex at e
  split at e
  · rename_i b
    obtain ⟨w, rfl, rb⟩ := one_slot rs
    split at e
    · rename_i ds ea
      split at e
      · rename_i hf
        obtain ⟨i, e1, rfl⟩ := Option.map_eq_some_iff.mp e
        obtain ⟨l, xs, rfl, h1, r1⟩ := ra.lst p.hd.le ea
        have rw' := rb.view p.hd.le
        obtain ⟨⟨d, g1, g2⟩, g3⟩ := idx_spec e1
        obtain ⟨z, hz, rz⟩ := r1.get g1
        have fd : ∀ (m : Nat) (z : PyData), ds[m]? = some z → flatD z = true := fun m z hz => List.all_eq_true.mp hf.2 z (List.mem_of_getElem? hz)
        refine ⟨l, xs, w, i, z, rfl, rfl, h1, flat_V rw' hf.1, (flat_any rw' hf.1 (r1.mono p.hd.le) hf.2).2, hz, ?_, fun m z' hm hz' => ?_, k _ F H p (.int _)⟩
        · rw [eqv_flat rz rw' (fd _ _ g1) hf.1]; exact g2
        · obtain ⟨d', hd', rd'⟩ := r1.getV hz'
          rw [eqv_flat rd' rw' (fd _ _ hd') hf.1]
          exact g3 m d' hm hd'
      · cases e
    · cases e
  · cases e

/-! ### what changes a list or a dict that a name holds -/
def upS (i : Nat) (h : Mu → Option Mu) : M Fl := fun ρ => match ρ[i]? with
  | some (some (.mu b m)) => (match h m with | some m' => some (.ok .nx (ρ.set i (some (.mu b m')))) | none => none)
  | _ => none
theorem upS_run {K : PySem.W.Frag} {W : WX} {S : Sta} {i : Nat} {h : Mu → Option Mu} {σ : L2.St} {ρ : Rho} {F H : Hp} {D : Ends} {v : V} (r : RunS K W S (upS i h) σ ρ F H D) (hv : σ[i]? = some (some v)) :
    ∃ a u m m', v = .ref a ∧ H a = some u ∧ MuT K F H m a u ∧ h m = some m' ∧ ∀ u', MuX K F u' m' → D.nx σ (upd H a u') := by
  obtain ⟨p, o, e, q⟩ := r
  unfold upS at e
  split at e
  · rename_i b m hi
    split at e
    · cases e
      rename_i m' hm
      obtain ⟨w, hw, a, u, rfl, hu, hf, mr⟩ := p.hd.at_ i _ hi
      rw [hv] at hw; cases hw
      exact ⟨a, u, m, m', rfl, hu, mr, hm, fun u' mr' => q σ F _ (p.wrS hi hv hf mr')⟩
    · cases e
  · cases e
def muApp (d : PyData) : Mu → Option Mu
  | .lst ds => if ds.length < 16777216 then some (.lst (ds ++ [d])) else none
  | _ => none
section
variable {X : Cx} {W : WX} {e : Expr} {x : Str} {f g : M Rf} {pos pos' apos cpos np : Pos} {i : Nat}
/-- x.append(e) -/
theorem ev_append (ho : PE X (.Name x np) (tVar i)) (ha : EvO X W e f) (hbase : attributeBase (.Name x np) "append" X.env (eval (.Name x np) X.env) = eval (.Name x np) X.env := by rfl)
    (hfew : ((backTo cpos (starEach (e :: []) X.env)).all (fun x => !x.1) && (backToKw cpos (keywordEach [] X.env)).all (fun x => x.1.isSome)
      && decide ((e :: ([] : List Expr)).length + ([] : List Keyword).length + (if ([] : List Keyword).isEmpty then 0 else 1) < 30)) = true := by rfl)
    (hline : (apos.endLine == cpos.line) = true := by rfl) (hs : starEach (e :: []) X.env = (false, eval e X.env) :: starEach [] X.env := by rfl) (hplain : (backTo cpos (starEach [] X.env)).any (·.1) = false := by rfl)
    (hsw : swapsWith (.Call (.Attribute (.Name x np) "append" apos) [e] [] cpos) none pos.line X.env = pure false := by rfl) :
    EvS X W (.Expr (.Call (.Attribute (.Name x np) "append" apos) [e] [] cpos) pos) (fun ρ => match ρ[i]? with | some (some (.mu _ (.lst _))) => ((f.bind frz).bind fun d => upS i (muApp d)) ρ | _ => none) :=
  psI (ps_expr (pe_bm PySem.F.plainAttrs_list PySem.F.slot_list_append PySem.F.type_list_append mt_append ho (pa_cons (ev_frz ha) pa_nil hs) hbase hfew hline hs hplain) hsw) fun D σ H ⟨ρ, F, p, o, e, q⟩ => by
    split at e
    · rename_i b ds hi
      obtain ⟨v, hv, a, u, rfl, hu, hf, xs, rfl, r⟩ := p.hd.at_ i _ hi
      refine ⟨.ref a, hv, .inl ⟨rfl, xs, .of hu⟩, tG_mono (tG_S (R := DR X.K) ⟨p, o, e, q⟩) fun w H1 ⟨d, ρ1, F1, rd, r1⟩ => ?_⟩
      obtain ⟨b, u, m, m', eb, hu, mr, hm, q1⟩ := upS_run r1 hv
      cases eb
      unfold muApp at hm
      split at hm
      · split at hm
        · cases hm
          rename_i hl
          obtain ⟨ys, rfl, ry⟩ := mr
          exact ⟨a, ys, w, rfl, rfl, hu, by rw [slen, ry.len]; exact hl, q1 _ ⟨_, rfl, ry.app (.cons rd .nil)⟩⟩
        · cases hm
      · cases hm
    · cases e
end
end Vs

/-! Vs, stores by index and key, for, while, comprehensions. -/
namespace Vs
open PySem PySem.Spec L2

/-! ### x[i] = e -/
def putE (es : List (Key × PyData)) (k : Key) (d : PyData) : List (Key × PyData) :=
  if (es.any fun kv => decide (kv.1 = k)) = true then es.map (fun kv => if kv.1 = k then (kv.1, d) else kv) else es ++ [(k, d)]
theorem RpK.any {K : PySem.W.Frag} {F : Hp} {k : Key} : ∀ {kvs : List (Key × V)} {es : List (Key × PyData)}, RpK K F kvs es → (kvs.any fun kv => decide (kv.1 = k)) = (es.any fun kv => decide (kv.1 = k))
  | _, _, .nil => rfl
  | _, _, .cons _ r => by rw [List.any_cons, List.any_cons, RpK.any r]
theorem RpK.put {K : PySem.W.Frag} {F : Hp} {k : Key} {v : V} {d : PyData} (h : Rp K F v d) {kvs : List (Key × V)} {es : List (Key × PyData)} (r : RpK K F kvs es) : RpK K F (putK kvs k v) (putE es k d) := by
  have app : ∀ {kvs : List (Key × V)} {es : List (Key × PyData)}, RpK K F kvs es → RpK K F (kvs ++ [(k, v)]) (es ++ [(k, d)]) := by
    intro kvs es r
    induction kvs generalizing es with
    | nil => cases r; exact .cons h .nil
    | cons x xs ih => cases r with | cons h1 r1 => exact .cons h1 (ih r1)
  have mp : ∀ {kvs : List (Key × V)} {es : List (Key × PyData)}, RpK K F kvs es → RpK K F (kvs.map fun kv => if kv.1 = k then (kv.1, v) else kv) (es.map fun kv => if kv.1 = k then (kv.1, d) else kv) := by
    intro kvs es r
    induction kvs generalizing es with
    | nil => cases r; exact .nil
    | cons x xs ih =>
      cases r with
      | @cons k1 v1 _ d1 ds h1 r1 =>
        rw [List.map_cons, List.map_cons]
        by_cases hk : k1 = k
        · subst hk; simpa using RpK.cons h (ih r1)
        · simpa [hk] using RpK.cons h1 (ih r1)
  unfold putK putE
  rw [r.any]
  split
  · exact mp r
  · exact app r
def muSet (k d : PyData) : Mu → Option Mu
  | .lst ds => (match k with | .int i => (ixN ds.length i).map fun j => .lst (ds.set j d) | _ => none)
  | .dct es => if es.length < 16777216 then (match k with | .int i => some (.dct (putE es (.inl i) d)) | .str x => some (.dct (putE es (.inr x) d)) | _ => none) else none
  | .obj _ _ => none
  | .tre _ _ => none
def rSetD : TSet := fun o i v H Q => ∃ a H', o = .ref a ∧ DPut H a i v H' ∧ Q H'
theorem set_dct {X : Cx} (hu : X.A.units + 200 < cLine) : PSet X rSetD := by
  rintro pins s σ H _ i v ov iv u Q I ro ri rv ⟨a, H', rfl, g, q⟩
  cases ro
  exact d_setItem (by omega) I g ri rv fun s' I' => ⟨H', I', q⟩
theorem PSet.or {X : Cx} {r r' : TSet} (h : PSet X r) (h' : PSet X r') : PSet X (fun o i v H Q => r o i v H Q ∨ r' o i v H Q) := by
  intro pins s σ H o i v ov iv u Q I ro ri rv q
  rcases q with q | q
  · exact h pins s σ H o i v ov iv u Q I ro ri rv q
  · exact h' pins s σ H o i v ov iv u Q I ro ri rv q
section
variable {X : Cx} {W : WX} {e ix : Expr} {x : Str} {f g : M Rf} {pos pos' np : Pos} {i : Nat}
theorem ev_store (hu : X.A.units + 200 < cLine) (ho : PE X (.Name x np) (tVar i)) (hi : EvO X W ix g) (he : EvO X W e f)
    (ha : ∀ v, assign (.Subscript (.Name x np) ix pos') X.env v = (do
      let ov ← holding [v] (eval (.Name x np) X.env)
      let iv ← holding [v, ov] (eval ix X.env)
      standAt pos'
      holding [v, ov, iv] (setItem ov iv v)
      release [v, ov, iv] []) := by intro _; rfl)
    (hs : swapsWithSole [.Subscript (.Name x np) ix pos'] e pos.line X.env = pure false := by rfl) (hw : swappedStores [.Subscript (.Name x np) ix pos'] e X.env = pure none := by rfl)
    (h1 : (assignEach [.Subscript (.Name x np) ix pos'] X.env).map (·.2) = [assign (.Subscript (.Name x np) ix pos') X.env] := by rfl) :
    EvS X W (.Assign [.Subscript (.Name x np) ix pos'] e pos) ((f.bind frz).bind fun d => fun ρ => match ρ[i]? with | some (some _) => ((g.bind frz).bind fun k => upS i (muSet k d)) ρ | _ => none) :=
  psI (ps_asg (ev_frz he) (pg_sub ho (ev_frz hi) (PSet.or set_list (set_dct hu)) ha) hs hw h1) fun D σ H ⟨ρ, F, r⟩ =>
    tG_mono (tG_S r) fun v H1 ⟨d, ρ1, F1, rd, p1, o1, e1, q1⟩ => by
      split at e1
      · rename_i y hy
        obtain ⟨w, hw', _⟩ := p1.hd.at_ i y hy
        have r1 : RunS X.K W ⟨σ, ρ1, F1, H1⟩ ((g.bind frz).bind fun k => upS i (muSet k d)) σ ρ1 F1 H1 D := ⟨Post.refl p1.hd, o1, e1, by
          cases o1 with
          | ok fl ρ' =>
            cases fl with
            | nx => exact fun a b c z => q1 a b c (p1.trans z)
            | bk => exact fun a b c z => q1 a b c (p1.trans z)
            | ct => exact fun a b c z => q1 a b c (p1.trans z)
            | rt r => exact fun v a b c z h => q1 v a b c (p1.trans z) (rfUp p1 h)
          | ex c ρ' => exact fun d a b c z => q1 d a b c (p1.trans z)⟩
        refine ⟨w, hw', tG_mono (tG_S r1) fun kv H2 ⟨k, ρ2, F2, rk, r2⟩ => ?_⟩
        obtain ⟨a, u, m, m', rfl, hu', mr, hm, q2⟩ := upS_run r2 hw'
        have le : Le F1 F2 := r2.post.le
        have rd' : Rp X.K F2 v d := Rp.mono le rd
        cases m with
        | lst ds =>
          obtain ⟨xs, rfl, rx⟩ := mr
          cases rk with
          | int n =>
            obtain ⟨j, hj, rfl⟩ := Option.map_eq_some_iff.mp (show (ixN ds.length n).map _ = some m' from hm)
            exact .inl ⟨a, xs, n, j, rfl, rfl, hu', by rw [rx.len]; exact hj, q2 _ ⟨_, rfl, rx.set rd' j⟩⟩
          | _ => cases hm
        | dct es =>
          obtain ⟨kvs, rfl, rx⟩ := mr
          unfold muSet at hm
          simp only at hm
          split at hm
          · rename_i hl
            cases rk with
            | int n =>
              cases hm
              exact .inr ⟨a, _, rfl, .inl ⟨kvs, .inl n, hu', rfl, by rw [slen, rx.len]; exact hl, rfl⟩, q2 _ ⟨_, rfl, rx.put rd'⟩⟩
            | str n =>
              cases hm
              exact .inr ⟨a, _, rfl, .inl ⟨kvs, .inr n, hu', rfl, by rw [slen, rx.len]; exact hl, rfl⟩, q2 _ ⟨_, rfl, rx.put rd'⟩⟩
            | _ => cases hm
          · cases hm
        | obj C fs => cases hm
        | tre n its => cases hm
      · cases e1
end

/-! ### what is walked -/
structure ItR (K : PySem.W.Frag) (F : Hp) (J : It) (ds : List PyData) : Prop where
  stop : ∀ F' H', Le F F' → Le F' H' → J.stop ds.length H'
  go : ∀ i F' H', i < ds.length → Le F F' → Le F' H' → J.go i H'
  yld : ∀ i d S σ ρ F' H' x H'', ds[i]? = some d → Le F F' → Post K S σ ρ F' H' → J.yld i H' x H'' → ∃ F'', Post K S σ ρ F'' H'' ∧ Le F' F'' ∧ Rp K F'' x d ∧ ∀ b o, H' b = some o → H'' b = some o ∧ (F' b = none → F'' b = none)
def IR (K : PySem.W.Frag) (_ : Sta) (_ : L2.St) (_ : Rho) (F _ : Hp) (J : It) (ds : List PyData) : Prop := ItR K F J ds
def iterD : PyData → M (List PyData)
  | .list ds => M.ret ds
  | .tuple ds => M.ret ds
  | .str z => M.ret (z.cps.toList.map fun c => .str ⟨#[c]⟩)
  | _ => fun _ => none
theorem itr_list {K : PySem.W.Frag} {F : Hp} {a : Addr} {xs : List V} {ds : List PyData} (h : SqL K F a xs) (r : RpA K F xs ds) : ItR K F (Itl K a) ds where
  stop := fun F' H' l1 l2 => ⟨xs, l2.seqL (l1.seqL h), Nat.le_of_eq r.len⟩
  go := fun i F' H' hi l1 l2 => by
    have hx : i < xs.length := by rw [r.len]; exact hi
    exact ⟨xs, xs[i], l2.seqL (l1.seqL h), by simp [hx]⟩
  yld := fun i d S σ ρ F' H' x H'' hd l1 p y => by
    obtain ⟨rfl, y⟩ := y
    obtain ⟨v, hv, rv⟩ := r.get hd
    have := y xs (p.hd.le.seqL (l1.seqL h))
    rw [hv] at this; cases this
    exact ⟨F', p, Le.refl _, Rp.mono l1 rv, fun b o e => ⟨e, fun z => z⟩⟩
theorem itr_tup {K : PySem.W.Frag} {F : Hp} {a : Addr} {xs : List V} {ds : List PyData} (h : SqT K F a xs) (r : RpA K F xs ds) : ItR K F (Itt K a) ds where
  stop := fun F' H' l1 l2 => ⟨xs, l2.seqT (l1.seqT h), Nat.le_of_eq r.len⟩
  go := fun i F' H' hi l1 l2 => by
    have hx : i < xs.length := by rw [r.len]; exact hi
    exact ⟨xs, xs[i], l2.seqT (l1.seqT h), by simp [hx]⟩
  yld := fun i d S σ ρ F' H' x H'' hd l1 p y => by
    obtain ⟨rfl, y⟩ := y
    obtain ⟨v, hv, rv⟩ := r.get hd
    have := y xs (p.hd.le.seqT (l1.seqT h))
    rw [hv] at this; cases this
    exact ⟨F', p, Le.refl _, Rp.mono l1 rv, fun b o e => ⟨e, fun z => z⟩⟩
theorem itr_str {K : PySem.W.Frag} {F : Hp} {z : Str} : ItR K F (Its z) (z.cps.toList.map fun c => .str ⟨#[c]⟩) where
  stop := fun F' H' l1 l2 => by show z.cps.size ≤ _; simp
  go := fun i F' H' hi l1 l2 => by show i < z.cps.size; simpa using hi
  yld := fun i d S σ ρ F' H' x H'' hd l1 p y => by
    obtain ⟨rfl, c, hc, rfl⟩ := y
    have : d = .str ⟨#[c]⟩ := by
      rw [List.getElem?_map, Array.getElem?_toList, hc] at hd
      exact (Option.some.inj hd).symm
    subst this
    exact ⟨F', p, Le.refl _, .str _, fun b o e => ⟨e, fun z => z⟩⟩
abbrev EvI (X : Cx) (W : WX) (tg e : Expr) (f : M (List PyData)) : Prop := PI X tg e (tG X.K W (IR X.K) f)
def rangeD (lo : Int) (n : Nat) : List PyData := (List.range n).map fun (i : Nat) => .int (lo + (i : Int))
theorem itr_rng {K : PySem.W.Frag} {F : Hp} {lo : Int} {n : Nat} : ItR K F (Itr lo n) (rangeD lo n) where
  stop := fun F' H' l1 l2 => by show n ≤ _; simp [rangeD]
  go := fun i F' H' hi l1 l2 => by show i < n; simpa [rangeD] using hi
  yld := fun i d S σ ρ F' H' x H'' hd l1 p y => by
    obtain ⟨rfl, rfl⟩ := y
    have hi : i < n := by
      have := (List.getElem?_eq_some_iff.mp hd).1
      simpa [rangeD] using this
    have : d = .int (lo + (i : Int)) := by
      unfold rangeD at hd
      rw [List.getElem?_map, List.getElem?_range hi] at hd
      exact (Option.some.inj hd).symm
    subst this
    exact ⟨F', p, Le.refl _, .int _, fun b o e => ⟨e, fun z => z⟩⟩
section
variable {X : Cx} {W : WX} {tg e a b : Expr} {f g : M Rf} {p pos : Pos}
theorem evI_valD {fd : M PyData} (hd : EvD X W e fd) : EvI X W tg e (fd.bind iterD) := ⟨fun pins s σ H R I ⟨ρ, F, r⟩ => by
  obtain ⟨p0, o, e1, q⟩ := r
  cases ef : fd ρ with
  | none => simp only [M.bind, ef] at e1; cases e1
  | some o1 =>
    cases o1 with
    | ex c ρ' =>
      simp only [M.bind, ef] at e1
      cases e1
      exact (pi_list hd).run pins s σ H R I ⟨ρ, F, p0, .ex c ρ', ef, q⟩
    | ok d ρ' =>
      simp only [M.bind, ef] at e1
      cases d with
      | list ds =>
        cases e1
        exact (pi_list hd).run pins s σ H R I ⟨ρ, F, p0, _, ef, fun v F' H' p' rv => by
          cases (show Rp X.K F' v (.list ds) from rv) with
          | lst h1 h2 => exact ⟨_, rfl, ⟨_, p'.hd.le.seqL h1⟩, q _ F' H' p' (itr_list h1 h2)⟩⟩
      | tuple ds =>
        cases e1
        exact (pi_tup hd).run pins s σ H R I ⟨ρ, F, p0, _, ef, fun v F' H' p' rv => by
          cases (show Rp X.K F' v (.tuple ds) from rv) with
          | tup h1 h2 => exact ⟨_, rfl, ⟨_, p'.hd.le.seqT h1⟩, q _ F' H' p' (itr_tup h1 h2)⟩⟩
      | str z =>
        cases e1
        exact (pi_str hd).run pins s σ H R I ⟨ρ, F, p0, _, ef, fun v F' H' p' rv => by
          cases (show Rp X.K F' v (.str z) from rv) with
          | str _ => exact ⟨z, rfl, q _ F' H' p' itr_str⟩⟩
      | _ => cases e1⟩
theorem evI_val (he : EvO X W e f) : EvI X W tg e ((f.bind frz).bind iterD) := evI_valD (ev_frz he)
def rng1 (ds : List PyData) : M (List PyData) := fun ρ => match ds with
  | [.int j] => if -(2 ^ 62) ≤ j ∧ j < 2 ^ 62 then some (.ok (rangeD 0 j.toNat) ρ) else none
  | _ => none
def rng2 (ds : List PyData) : M (List PyData) := fun ρ => match ds with
  | [.int i, .int j] => if (-(2 ^ 62) ≤ i ∧ i < 2 ^ 62) ∧ -(2 ^ 62) ≤ j ∧ j < 2 ^ 62 then some (.ok (rangeD i (j - i).toNat) ρ) else none
  | _ => none
theorem evI_rng1 {h : M (List PyData)} (hg : Gl X "range") (hm : X.mg "range" = none) (ha : EvA X W [a] h) (hs : starEach [a] X.env = [(false, eval a X.env)] := by rfl) : EvI X W tg (.Call (.Name "range" p) [a] [] pos) (h.bind rng1) :=
  ⟨fun pins s σ H R I ⟨ρ, F, r⟩ => (pi_range1 hg hm ha hs).run pins s σ H R I ⟨ρ, F, r.bind.mono fun vs H1 ⟨ds, ρ1, F1, rx, p, p1, o, e, q⟩ => by
    unfold rng1 at e
    split at e
    · split at e
      · rename_i hj
        cases e
        cases rx with
        | cons h t => cases h; cases t; exact ⟨_, rfl, hj.1, hj.2, q _ F1 H1 p1 itr_rng⟩
      · cases e
    · cases e⟩⟩
theorem evI_rng2 {h : M (List PyData)} (hg : Gl X "range") (hm : X.mg "range" = none) (ha : EvA X W [a, b] h) (hs : starEach [a, b] X.env = [(false, eval a X.env), (false, eval b X.env)] := by rfl) (hs2 : starEach [b] X.env = [(false, eval b X.env)] := by rfl) : EvI X W tg (.Call (.Name "range" p) [a, b] [] pos) (h.bind rng2) :=
  ⟨fun pins s σ H R I ⟨ρ, F, r⟩ => (pi_range2 hg hm ha hs hs2).run pins s σ H R I ⟨ρ, F, r.bind.mono fun vs H1 ⟨ds, ρ1, F1, rx, p, p1, o, e, q⟩ => by
    unfold rng2 at e
    split at e
    · split at e
      · rename_i hj
        cases e
        cases rx with
        | cons h t => cases h; cases t with | cons h2 t => cases h2; cases t; exact ⟨_, _, rfl, ⟨hj.1.1, hj.1.2, hj.2.1, hj.2.2⟩, q _ F1 H1 p1 itr_rng⟩
      · cases e
    · cases e⟩⟩
end

/-! ### for -/
def forK (next : Rho → Option (Out Fl)) : Option (Out Fl) → Option (Out Fl)
  | some (.ok .nx ρ') => next ρ'
  | some (.ok .ct ρ') => next ρ'
  | some (.ok .bk ρ') => some (.ok .nx ρ')
  | o => o
def forH (fb : M Fl) (next : Rho → Option (Out Fl)) : Option (Out Fl) → Option (Out Fl)
  | some (.ok .nx ρ') => forK next (fb ρ')
  | _ => none
def forF (h : PyData → M Fl) (fb : M Fl) : List PyData → M Fl
  | [] => M.ret .nx
  | d :: ds => fun ρ => forH fb (forF h fb ds) (h d ρ)
section
variable {X : Cx} {W : WX} {tg iter : Expr} {body : List Stmt} {g : TG} {h : PyData → M Fl} {fb : M Fl} {fi : M (List PyData)} {pos : Pos}
theorem ev_for (hp : PassesOwn (model X.prog X.w) X.A X.env X.xe) (hc : X.calm = true) (hi : EvI X W tg iter fi) (hg : PG X tg g) (ht : TgR X.K g h) (hb : EvB X W body fb) (hs : ∀ x, foldedSetIterable iter X.env x = pure x := by intro _; rfl) :
    EvS X W (.For tg iter body [] pos) (fi.bind fun ds => forF h fb ds) := psI (ps_for hp hc hi hg hb hs) fun D σ H ⟨ρ, F, r⟩ =>
  tG_mono (tG_S r) fun J H1 ⟨ds, ρ1, F1, ir, r1⟩ => by
    have ir : ItR X.K F1 J ds := ir
    refine ⟨fun i m σ' H' => ∃ ρ' F', m = ds.length - i ∧ i ≤ ds.length ∧ Le F1 F' ∧ RunS X.K W ⟨σ, ρ, F, H⟩ (forF h fb (ds.drop i)) σ' ρ' F' H' D, ⟨ds.length, ρ1, F1, rfl, Nat.zero_le _, Le.refl _, r1⟩, ?_⟩
    rintro i m σ' H' ⟨ρ', F', rfl, hi, le, p, o, e, q⟩
    by_cases hlt : i < ds.length
    · refine .inr ⟨ir.go i F' H' hlt le p.hd.le, fun σ2 H2 => ∃ ρ2 F2, Le F1 F2 ∧ RunS X.K W ⟨σ, ρ, F, H⟩ (forF h fb (ds.drop (i + 1))) σ2 ρ2 F2 H2 D, ?_, ?_⟩
      · rintro σ2 H2 ⟨ρ2, F2, le2, r2⟩
        exact ⟨ds.length - (i + 1), by omega, ρ2, F2, rfl, hlt, le2, r2⟩
      · intro x H2 y
        have hd : ds[i]? = some ds[i] := List.getElem?_eq_getElem hlt
        obtain ⟨F2, p2, le2, rx, _⟩ := ir.yld i _ _ _ _ _ _ _ _ hd le p y
        have ed : ds.drop i = ds[i] :: ds.drop (i + 1) := List.drop_eq_getElem_cons hlt
        rw [ed] at e
        have e : forH fb (forF h fb (ds.drop (i + 1))) (h ds[i] ρ') = some o := e
        cases eh : h ds[i] ρ' with
        | none => rw [eh] at e; cases e
        | some oh =>
          cases oh with
          | ex c ρ3 => rw [eh] at e; cases e
          | ok fl ρ3 =>
            cases fl with
            | bk => rw [eh] at e; cases e
            | ct => rw [eh] at e; cases e
            | rt _ => rw [eh] at e; cases e
            | nx =>
              rw [eh] at e
              have e : forK (forF h fb (ds.drop (i + 1))) (fb ρ3) = some o := e
              refine ht W ⟨σ', ρ', F2, H2⟩ σ' ρ' F2 H2 x _ ⟨fun σ4 H4 => tS X.K W fb { D with nx := fun σ2 H2 => ∃ ρ2 F2, Le F1 F2 ∧ RunS X.K W ⟨σ, ρ, F, H⟩ (forF h fb (ds.drop (i + 1))) σ2 ρ2 F2 H2 D, ct := fun σ2 H2 => ∃ ρ2 F2, Le F1 F2 ∧ RunS X.K W ⟨σ, ρ, F, H⟩ (forF h fb (ds.drop (i + 1))) σ2 ρ2 F2 H2 D, bk := D.nx } σ4 H4, D.rt, D.bk, D.ct⟩ ⟨Post.refl p2.hd, _, eh, fun σ4 F4 H4 p4 => ?_⟩ rx
              have p5 := p2.trans p4
              refine ⟨ρ3, F4, Post.refl p4.hd, ?_⟩
              cases eb : fb ρ3 with
              | none => rw [eb] at e; cases e
              | some ob =>
                refine ⟨ob, rfl, ?_⟩
                rw [eb] at e
                cases ob with
                | ex c ρ6 => cases e; exact fun d a b c z => q d a b c (p5.trans z)
                | ok fl ρ6 =>
                  cases fl with
                  | nx => exact fun a b c z => ⟨ρ6, b, le.trans (le2.trans (p4.le.trans z.le)), p5.trans z, o, e, q⟩
                  | ct => exact fun a b c z => ⟨ρ6, b, le.trans (le2.trans (p4.le.trans z.le)), p5.trans z, o, e, q⟩
                  | bk => cases e; exact fun a b c z => q a b c (p5.trans z)
                  | rt r => cases e; exact fun v a b c z k => q v a b c (p5.trans z) (rfUp p5 k)
    · have hi2 : i = ds.length := by omega
      subst hi2
      rw [List.drop_length] at e
      cases e
      exact .inl ⟨ir.stop F' H' le p.hd.le, q σ' F' H' p⟩
end
end Vs

/-! Vs, comprehensions; the law's end. -/
namespace Vs
open PySem PySem.Spec L2

/-! ### a comprehension's own names -/
def wipeR (ρ : Rho) (vs : List Nat) : Rho := ρ.mapIdx fun i y => if vs.contains i = true then none else y
def backR (ρ0 ρ : Rho) (vs : List Nat) : Rho := ρ.mapIdx fun i y => if vs.contains i = true then (ρ0[i]?).join else y
def freeV (ρ : Rho) (vs : List Nat) : Bool := vs.all fun i => match ρ[i]? with
  | some (some (.mu _ _)) => false
  | some _ => true
  | none => false
theorem wipeR_get {ρ : Rho} {vs : List Nat} {i : Nat} {o : O} : (wipeR ρ vs)[i]? = some (some o) ↔ ρ[i]? = some (some o) ∧ i ∉ vs := by
  unfold wipeR
  rw [List.getElem?_mapIdx]
  cases h : ρ[i]? with
  | none => simp
  | some y =>
    by_cases hv : i ∈ vs
    · simp [hv]
    · simp [hv]
theorem backR_get {ρ0 ρ : Rho} {vs : List Nat} {i : Nat} {o : O} (h : (backR ρ0 ρ vs)[i]? = some (some o)) : (i ∈ vs ∧ ρ0[i]? = some (some o)) ∨ (i ∉ vs ∧ ρ[i]? = some (some o)) := by
  unfold backR at h
  rw [List.getElem?_mapIdx] at h
  cases e : ρ[i]? with
  | none => rw [e] at h; cases h
  | some y =>
    rw [e] at h
    have h2 : (if vs.contains i = true then (ρ0[i]?).join else y) = some o := Option.some.inj h
    by_cases hv : i ∈ vs
    · refine .inl ⟨hv, ?_⟩
      simp only [List.contains_iff_mem.mpr hv, if_true] at h2
      cases e0 : ρ0[i]? with
      | none => rw [e0] at h2; cases h2
      | some z => rw [e0] at h2; exact congrArg some h2
    · refine .inr ⟨hv, ?_⟩
      have : vs.contains i = false := by simpa using hv
      simp only [this] at h2
      exact congrArg some h2
theorem wipe_get {σ : L2.St} {vs : List Nat} {i : Nat} {v : V} (h : σ[i]? = some (some v)) (n : i ∉ vs) : (wipe σ vs)[i]? = some (some v) := by rw [wipe_out n]; exact h
section
variable {K : PySem.W.Frag} {S : Sta} {σ : L2.St} {ρ : Rho} {F H : Hp} {vs : List Nat}
theorem Post.wipe (p : Post K S σ ρ F H) (hv : freeV ρ vs = true) : Post K S (wipe σ vs) (wipeR ρ vs) F H := by
  refine ⟨⟨p.hd.le, by rw [wipe_length]; unfold wipeR; rw [List.length_mapIdx]; exact p.hd.len, fun i o e => ?_, fun i j b m b' m' w w' a e1 e2 s1 s2 k1 k2 => ?_⟩, p.le, p.keep, p.nofz, fun b ⟨i, b1, m1, w, e, s, k⟩ => ?_, fun i m e => ?_⟩
  · obtain ⟨e1, n⟩ := wipeR_get.mp e
    obtain ⟨v, e2, r⟩ := p.hd.at_ i o e1
    exact ⟨v, wipe_get e2 n, r⟩
  · exact p.hd.sep i j b m b' m' w w' a (wipeR_get.mp e1).1 (wipeR_get.mp e2).1 (wipe_some s1).1 (wipe_some s2).1 k1 k2
  · exact p.own b ⟨i, b1, m1, w, (wipeR_get.mp e).1, (wipe_some s).1, k⟩
  · obtain ⟨e1, m', e2⟩ := p.bor i m e
    have n : i ∉ vs := fun hi => by
      have := List.all_eq_true.mp hv i hi
      rw [e2] at this
      cases this
    refine ⟨by rw [wipe_out n]; exact e1, m', wipeR_get.mpr ⟨e2, n⟩⟩
theorem Post.unwipe {ρ' : Rho} {F' H' : Hp} (p0 : Post K S σ ρ F H) (hv : freeV ρ vs = true) (le : Le F F') (p : Post K S (L2.wipe σ vs) ρ' F' H') (hw : ∀ i ∈ vs, ∀ o, ρ'[i]? ≠ some (some o)) : Post K S σ (backR ρ ρ' vs) F' H' := by
  have mu : ∀ (i : Nat) (b : Bool) (m : Mu), (backR ρ ρ' vs)[i]? = some (some (.mu b m)) → i ∉ vs ∧ ρ'[i]? = some (some (.mu b m)) := by
    intro i b m e
    rcases backR_get e with ⟨hi, e1⟩ | ⟨hi, e1⟩
    · have := List.all_eq_true.mp hv i hi
      rw [e1] at this
      cases this
    · exact ⟨hi, e1⟩
  refine ⟨⟨p.hd.le, ?_, fun i o e => ?_, fun i j b m b' m' w w' a e1 e2 s1 s2 k1 k2 => ?_⟩, p.le, p.keep, p.nofz, fun b ⟨i, b1, m1, w, e, s, k⟩ => ?_, fun i m e => ?_⟩
  · have h1 := p.hd.len
    rw [wipe_length] at h1
    unfold backR
    rw [List.length_mapIdx]
    exact h1
  · rcases backR_get e with ⟨hi, e1⟩ | ⟨hi, e1⟩
    · obtain ⟨v, e2, r⟩ := p0.hd.at_ i o e1
      refine ⟨v, e2, ?_⟩
      cases o with
      | fz d => exact Rp.mono le r
      | mu b m =>
        have := List.all_eq_true.mp hv i hi
        rw [e1] at this
        cases this
    · obtain ⟨v, e2, r⟩ := p.hd.at_ i o e1
      exact ⟨v, (wipe_some e2).1, r⟩
  · obtain ⟨n1, f1⟩ := mu i b m e1
    obtain ⟨n2, f2⟩ := mu j b' m' e2
    exact p.hd.sep i j b m b' m' w w' a f1 f2 (wipe_get s1 n1) (wipe_get s2 n2) k1 k2
  · obtain ⟨n1, f1⟩ := mu i b1 m1 e
    exact p.own b ⟨i, b1, m1, w, f1, wipe_get s n1, k⟩
  · obtain ⟨e1, m', e2⟩ := p.bor i m e
    obtain ⟨e3, _⟩ := p0.bor i m e
    refine ⟨e3, m', ?_⟩
    have n : i ∉ vs := fun hi => hw i hi _ e2
    unfold backR
    rw [List.getElem?_mapIdx, e2]
    have : vs.contains i = false := by simpa using n
    simp only [Option.map_some, this]
    rfl
/-- a temporary is written -/
theorem Post.wrT (p : Post K S σ ρ F H) {a : Addr} {o : HO} (hf : F a = none) (no : ¬ Own σ ρ H a) (nw : New S a) : Post K S σ ρ F (upd H a o) where
  hd := (p.hd.offUpd hf no).1
  le := p.le
  keep := fun b u e q => by
    have hb : b ≠ a := by
      rintro rfl
      rcases nw with z | z
      · exact q z
      · rw [e] at z; cases z
    rw [upd_ne hb]
    exact p.keep b u e q
  nofz := p.nofz
  own := fun b q => p.own b ((p.hd.offUpd hf no).2 b q)
  bor := p.bor
end
/-- a target that changes nothing but the comprehension's own names -/
def TgW (g : TG) (vs : List Nat) : Prop := ∀ v σ H Q, g v σ H Q → g v σ H fun σ2 H2 => wipe σ2 vs = wipe σ vs ∧ Q σ2 H2
def TgsW (g : TGs) (vs : List Nat) : Prop := ∀ v σ H Q, g v σ H Q → g v σ H fun σ2 H2 => wipe σ2 vs = wipe σ vs ∧ Q σ2 H2
theorem wipe_set {i : Nat} {x : Option V} : ∀ {vs : List Nat} (σ : L2.St), i ∈ vs → wipe (σ.set i x) vs = wipe σ vs
  | [], _, h => by cases h
  | v :: vs, σ, h => by
    show (wipe (σ.set i x) vs).set v none = (wipe σ vs).set v none
    by_cases hi : i ∈ vs
    · rw [wipe_set σ hi]
    · have e : i = v := by simpa [hi] using h
      subst e
      have : wipe (σ.set i x) vs = (wipe σ vs).set i x := by
        clear h
        induction vs with
        | nil => rfl
        | cons u us ih =>
          have hu : i ≠ u := fun z => hi (by simp [z])
          have hus : i ∉ us := fun z => hi (by simp [z])
          show (wipe (σ.set i x) us).set u none = ((wipe σ us).set u none).set i x
          rw [ih hus, List.set_comm _ _ hu]
      rw [this, List.set_set]
theorem tw_name {i : Nat} {vs : List Nat} (h : i ∈ vs) : TgW (gName i) vs := fun v σ H Q q => ⟨wipe_set σ h, q⟩
theorem tw_nil {vs : List Nat} : TgsW gNil vs := fun v σ H Q q => ⟨q.1, rfl, q.2⟩
theorem tw_cons {g : TG} {gs : TGs} {vs : List Nat} (a : TgW g vs) (b : TgsW gs vs) (mono : ∀ v σ H Q Q', (∀ σ H, Q σ H → Q' σ H) → g v σ H Q → g v σ H Q') : TgsW (gCons g gs) vs := by
  rintro v σ H Q ⟨x, r, rfl, q⟩
  refine ⟨x, r, rfl, mono _ _ _ _ _ (fun σ1 H1 ⟨e1, q1⟩ => ?_) (a _ _ _ _ q)⟩
  have z := b _ _ _ _ q1
  rw [e1] at z
  exact z
theorem tw_tup {K : PySem.W.Frag} {n : Nat} {gs : TGs} {vs : List Nat} (b : TgsW gs vs) : TgW (gTup K n gs) vs := by
  rintro v σ H Q ⟨a, xs, rfl, h1, h2, q⟩
  exact ⟨a, xs, rfl, h1, h2, b _ _ _ _ q⟩

/-! ### [e for x in xs if t] -/
abbrev EvQ (X : Cx) (W : WX) (e : List Expr) (f : M Bool) : Prop := PTs X e (tG X.K W (BR X.K) f)
theorem evQ_nil {X : Cx} {W : WX} : EvQ X W [] (M.ret true) := ⟨fun pins s σ H Q I ⟨ρ, F, p, o, e, q⟩ => by
  cases e
  exact pts_nil.run pins s σ H Q I (q true F H p rfl)⟩
theorem evQ_one {X : Cx} {W : WX} {c : Expr} {t : M Bool} (h : EvT X W c t) : EvQ X W [c] t := pts_one h
def lcE (vs : List Nat) (acc : List PyData) (next : List PyData → Rho → Option (Out (List PyData))) : Option (Out PyData) → Option (Out (List PyData))
  | some (.ok y ρ') => if acc.length < 16777216 ∧ freeV ρ' vs = true then next (acc ++ [y]) (wipeR ρ' vs) else none
  | _ => none
def lcT (vs : List Nat) (fe : M PyData) (acc : List PyData) (next : List PyData → Rho → Option (Out (List PyData))) : Option (Out Bool) → Option (Out (List PyData))
  | some (.ok true ρ') => lcE vs acc next (fe ρ')
  | some (.ok false ρ') => if freeV ρ' vs = true then next acc (wipeR ρ' vs) else none
  | _ => none
def lcH (vs : List Nat) (ft : M Bool) (fe : M PyData) (acc : List PyData) (next : List PyData → Rho → Option (Out (List PyData))) : Option (Out Fl) → Option (Out (List PyData))
  | some (.ok .nx ρ') => lcT vs fe acc next (ft ρ')
  | _ => none
def lcF (vs : List Nat) (h : PyData → M Fl) (ft : M Bool) (fe : M PyData) : List PyData → List PyData → Rho → Option (Out (List PyData))
  | [], acc, ρ => some (.ok acc ρ)
  | d :: ds, acc, ρ => lcH vs ft fe acc (lcF vs h ft fe ds) (h d ρ)
def lcM (vs : List Nat) (h : PyData → M Fl) (ft : M Bool) (fe : M PyData) (ds : List PyData) : M Rf := fun ρ => if freeV ρ vs = true then (match lcF vs h ft fe ds [] (wipeR ρ vs) with
  | some (.ok ys ρ') => some (.ok (.o (.mu false (.lst ys))) (backR ρ ρ' vs))
  | _ => none) else none
theorem wipe_wipe {σ : L2.St} : ∀ {vs : List Nat}, wipe (wipe σ vs) vs = wipe σ vs := fun {vs} => by
  apply List.ext_getElem?
  intro i
  by_cases h : i ∈ vs
  · have len : ∀ (τ : L2.St), τ.length = σ.length → (wipe τ vs)[i]? = if i < σ.length then some none else none := by
      intro τ hτ
      by_cases hi : i < σ.length
      · rw [if_pos hi]
        cases e : (wipe τ vs)[i]? with
        | none =>
          have := List.getElem?_eq_none_iff.mp e
          rw [wipe_length, hτ] at this
          omega
        | some y =>
          cases y with
          | none => rfl
          | some v => exact absurd h (wipe_some e).2
      · rw [if_neg hi, List.getElem?_eq_none (by rw [wipe_length, hτ]; omega)]
    rw [len _ (wipe_length _ _), len σ rfl]
  · rw [wipe_out h]
abbrev W0 : WX := fun _ _ _ _ => False
theorem wipeR_self {ρ : Rho} {vs : List Nat} : ∀ i ∈ vs, ∀ o, (wipeR ρ vs)[i]? ≠ some (some o) := fun i hi o e => (wipeR_get.mp e).2 hi
/-- a target's reading may be weakened -/
def TgM (g : TG) : Prop := ∀ v σ H Q Q', (∀ σ H, Q σ H → Q' σ H) → g v σ H Q → g v σ H Q'
theorem tm_tup {K : PySem.W.Frag} {n : Nat} {gs : TGs} (b : ∀ v σ H Q Q', (∀ σ H, Q σ H → Q' σ H) → gs v σ H Q → gs v σ H Q') : TgM (gTup K n gs) := fun v σ H Q Q' k ⟨a, xs, e, h1, h2, q⟩ => ⟨a, xs, e, h1, h2, b _ _ _ _ _ k q⟩
theorem tm_nil : ∀ v σ H Q Q', (∀ σ H, Q σ H → Q' σ H) → gNil v σ H Q → gNil v σ H Q' := fun v σ H Q Q' k ⟨a, q⟩ => ⟨a, k _ _ q⟩
theorem tm_cons {g : TG} {gs : TGs} (a : TgM g) (b : ∀ v σ H Q Q', (∀ σ H, Q σ H → Q' σ H) → gs v σ H Q → gs v σ H Q') : ∀ v σ H Q Q', (∀ σ H, Q σ H → Q' σ H) → gCons g gs v σ H Q → gCons g gs v σ H Q' := fun v σ H Q Q' k ⟨x, r, e, q⟩ => ⟨x, r, e, a _ _ _ _ _ (fun σ1 H1 q1 => b _ _ _ _ _ k q1) q⟩
theorem lc_read {K : PySem.W.Frag} {W : WX} {g : TG} {h : PyData → M Fl} {ft : M Bool} {fe : M PyData} {vs : List Nat} {S : Sta} {ρ : Rho} {F H : Hp} {Q : VK} {J : It} {ds : List PyData} (tg : TgR K g h) (tw : TgW g vs) (gmono : TgM g)
    (r : Run K W (RfR K) S (lcM vs h ft fe ds) ρ F H Q) (ir : ItR K F J ds) (D : Addr) (hD : H D = none) :
    ∃ Wv : Nat → Nat → Hp → Prop, (∃ m, Wv 0 m (upd H D (.lst []))) ∧ ∀ i m H, Wv i m H → (J.stop i H ∧ Q (.ref D) H) ∨ (J.go i H ∧ ∃ Nx : Hp → Prop, (∀ H', Nx H' → ∃ m', m' < m ∧ Wv (i + 1) m' H') ∧
      ∀ x H', J.yld i H x H' → g x (wipe S.σ vs) H' fun σ2 H2 => wipe σ2 vs = wipe S.σ vs ∧ tG K W0 (BR K) ft σ2 H2 fun b H3 => if b = true then tG K W0 (DR K) fe σ2 H3 fun y H4 => ∃ acc, H4 D = some (.lst acc) ∧ acc.length < sizeLine ∧ Nx (upd H4 D (.lst (acc ++ [y]))) else Nx H3) := by
  obtain ⟨p0, o, e, q⟩ := r
  unfold lcM at e
  split at e
  next hv =>
    cases el : lcF vs h ft fe ds [] (wipeR ρ vs) with
    | none => rw [el] at e; cases e
    | some ol =>
      cases ol with
      | ex c ρ' => rw [el] at e; cases e
      | ok ys ρe =>
        rw [el] at e
        cases e
        -- the state between two turns
        let Mid : Nat → Hp → Prop := fun i H' => ∃ (acc : List PyData) (xs : List V) (ρ' : Rho) (F' : Hp), Le F F' ∧ Post K S (wipe S.σ vs) ρ' F' H' ∧ (∀ i ∈ vs, ∀ o, ρ'[i]? ≠ some (some o)) ∧ F' D = none ∧ ¬ Own (wipe S.σ vs) ρ' H' D ∧ H' D = some (.lst xs) ∧ RpA K F' xs acc ∧ lcF vs h ft fe (ds.drop i) acc ρ' = some (.ok ys ρe)
        have nwD : New S D := p0.new (.inr hD)
        refine ⟨fun i m H' => m = ds.length - i ∧ i ≤ ds.length ∧ Mid i H', ⟨ds.length, rfl, Nat.zero_le _, [], [], wipeR ρ vs, F, Le.refl _, (p0.wipe hv).newO hD, wipeR_self, p0.gone hD, (p0.wipe hv).hd.notOwnNew hD, upd_same, .nil, el⟩, ?_⟩
        rintro i m H' ⟨rfl, hi, acc, xs, ρ', F', le, p, hw, hf, no, hH, ra, el⟩
        by_cases hlt : i < ds.length
        · refine .inr ⟨ir.go i F' H' hlt le p.hd.le, Mid (i + 1), fun H2 hm => ⟨ds.length - (i + 1), by omega, rfl, hlt, hm⟩, fun x H2 y => ?_⟩
          have hd : ds[i]? = some ds[i] := List.getElem?_eq_getElem hlt
          obtain ⟨F2, p2, le2, rx, kp⟩ := ir.yld i _ _ _ _ _ _ _ _ hd le p y
          have ed : ds.drop i = ds[i] :: ds.drop (i + 1) := List.drop_eq_getElem_cons hlt
          rw [ed] at el
          have el : lcH vs ft fe acc (lcF vs h ft fe (ds.drop (i + 1))) (h ds[i] ρ') = some (.ok ys ρe) := el
          obtain ⟨hH2, hf2⟩ := kp D _ hH
          have no1 : ¬ Own (wipe S.σ vs) ρ' H2 D := fun z => no (p.hd.kept le2 p2.hd.le kp D z)
          -- the turn's end: what is known at any later state of it
          have fin : ∀ (σ5 : L2.St) (ρ5 : Rho) (F5 H5 : Hp) (acc' : List PyData) (xs' : List V), wipe σ5 vs = wipe S.σ vs → Post K ⟨wipe S.σ vs, ρ', F2, H2⟩ σ5 ρ5 F5 H5 → freeV ρ5 vs = true → ∀ H6, (H6 = H5 ∨ ∃ u, H6 = upd H5 D u) → H6 D = some (.lst xs') → RpA K F5 xs' acc' →
              lcF vs h ft fe (ds.drop (i + 1)) acc' (wipeR ρ5 vs) = some (.ok ys ρe) → Mid (i + 1) H6 := by
            intro σ5 ρ5 F5 H5 acc' xs' ew p5 fv H6 h6 hD6 ra' el'
            have pw := (p2.trans p5).wipe fv
            rw [ew] at pw
            have no2 : ¬ Own (wipe S.σ vs) ρ' H2 D := no1
            have hf5 : F5 D = none := p5.nofz D _ hH2 no2 (hf2 hf)
            have no5 : ¬ Own σ5 ρ5 H5 D := p5.not hH2 no2
            have no6 : ¬ Own (wipe S.σ vs) (wipeR ρ5 vs) H5 D := fun ⟨j, b, mm, w, e1, s1, k1⟩ => no5 ⟨j, b, mm, w, (wipeR_get.mp e1).1, by rw [← ew] at s1; exact (wipe_some s1).1, k1⟩
            refine ⟨acc', xs', wipeR ρ5 vs, F5, le.trans (le2.trans p5.le), ?_, wipeR_self, hf5, ?_, hD6, ra', el'⟩
            · rcases h6 with rfl | ⟨u, rfl⟩
              · exact pw
              · exact pw.wrT hf5 no6 nwD
            · rcases h6 with rfl | ⟨u, rfl⟩
              · exact no6
              · exact fun z => no6 ((pw.hd.offUpd hf5 no6).2 D z)
          have wants : g x (wipe S.σ vs) H2 fun σ2 H2 => wipe σ2 vs = wipe (wipe S.σ vs) vs ∧ (wipe σ2 vs = wipe S.σ vs → tG K W0 (BR K) ft σ2 H2 fun b H3 => if b = true then tG K W0 (DR K) fe σ2 H3 fun y H4 => ∃ acc, H4 D = some (.lst acc) ∧ acc.length < sizeLine ∧ Mid (i + 1) (upd H4 D (.lst (acc ++ [y]))) else Mid (i + 1) H3) := by
            refine tw _ _ _ _ ?_
            cases eh : h ds[i] ρ' with
            | none => rw [eh] at el; cases el
            | some oh =>
              cases oh with
              | ex c ρ3 => rw [eh] at el; cases el
              | ok fl ρ3 =>
                cases fl with
                | bk => rw [eh] at el; cases el
                | ct => rw [eh] at el; cases el
                | rt _ => rw [eh] at el; cases el
                | nx =>
                  rw [eh] at el
                  have el : lcT vs fe acc (lcF vs h ft fe (ds.drop (i + 1))) (ft ρ3) = some (.ok ys ρe) := el
                  refine tg W0 ⟨wipe S.σ vs, ρ', F2, H2⟩ _ ρ' F2 H2 x _ ⟨_, fun _ _ => False, fun _ _ => False, fun _ _ => False⟩ ⟨Post.refl p2.hd, _, eh, fun σ4 F4 H4 p4 ew => ?_⟩ rx
                  cases et : ft ρ3 with
                  | none => rw [et] at el; cases el
                  | some ot =>
                    refine ⟨ρ3, F4, Post.refl p4.hd, ot, et, ?_⟩
                    rw [et] at el
                    cases ot with
                    | ex c ρ4 => cases el
                    | ok b ρ4 =>
                      intro b' F5 H5 p5 eb
                      have eb : b' = b := eb
                      subst eb
                      have p45 := p4.trans p5
                      cases b' with
                      | false =>
                        have el : (if freeV ρ4 vs = true then lcF vs h ft fe (ds.drop (i + 1)) acc (wipeR ρ4 vs) else none) = some (.ok ys ρe) := el
                        rw [if_neg Bool.false_ne_true]
                        split at el
                        next fv => exact fin σ4 ρ4 F5 H5 acc xs ew p45 fv H5 (.inl rfl) (p45.keep D _ hH2 no1) (RpA.mono (le2.trans p45.le) ra) el
                        next => cases el
                      | true =>
                        have el : lcE vs acc (lcF vs h ft fe (ds.drop (i + 1))) (fe ρ4) = some (.ok ys ρe) := el
                        rw [if_pos rfl]
                        cases ee : fe ρ4 with
                        | none => rw [ee] at el; cases el
                        | some oe =>
                          refine ⟨ρ4, F5, Post.refl p5.hd, oe, ee, ?_⟩
                          rw [ee] at el
                          cases oe with
                          | ex c ρ6 => cases el
                          | ok y ρ6 =>
                            intro yv F6 H6 p6 ry
                            have el : (if acc.length < 16777216 ∧ freeV ρ6 vs = true then lcF vs h ft fe (ds.drop (i + 1)) (acc ++ [y]) (wipeR ρ6 vs) else none) = some (.ok ys ρe) := el
                            split at el
                            next hc =>
                              have p46 := p45.trans p6
                              exact ⟨xs, p46.keep D _ hH2 no1, by rw [slen, ra.len]; exact hc.1, fin σ4 ρ6 F6 H6 (acc ++ [y]) (xs ++ [yv]) ew p46 hc.2 _ (.inr ⟨_, rfl⟩) upd_same ((RpA.mono (le2.trans p46.le) ra).app (.cons ry .nil)) el⟩
                            next => cases el
          refine gmono _ _ _ _ _ (fun σ2 H3 ⟨e1, q1⟩ => ?_) wants
          rw [wipe_wipe] at e1
          exact ⟨e1, q1 e1⟩
        · have hi2 : i = ds.length := by omega
          subst hi2
          rw [List.drop_length] at el
          cases el
          refine .inl ⟨ir.stop F' H' le p.hd.le, q _ F' H' (p0.unwipe hv le p hw) ⟨rfl, ⟨D, _, rfl, hH, hf, xs, rfl, ra⟩, fun a ea => ?_⟩⟩
          rw [List.mem_singleton.mp (show a ∈ [D] from ea)]
          refine ⟨nwD, fun ⟨j, b, mm, w, e1, s1, k1⟩ => ?_⟩
          rcases backR_get e1 with ⟨hj, e2⟩ | ⟨hj, e2⟩
          · have := List.all_eq_true.mp hv j hj
            rw [e2] at this
            cases this
          · exact no ⟨j, b, mm, w, e2, wipe_get s1 hj, k1⟩
  next => cases e
section
variable {X : Cx} {W : WX} {elt tg iter : Expr} {ifs : List Expr} {scope : Scope} {own : List (Str × Nat)} {pos spos py : Pos} {g : TG} {h : PyData → M Fl} {ft : M Bool} {fe : M PyData} {fi : M (List PyData)} {y : Str} {i : Nat}
theorem ev_lc (hc : X.calm = true) (hN : X.N.Nodup) (hi : EvI X W tg iter fi) (ok : BlkOk X.N X.env.scope scope own) (ht : TgR X.K g h) (tw : TgW g (own.map (·.2))) (tm : TgM g)
    (hg : ∀ (s : Shared) (H : Hp) (C : Addr) (cl : List (Str × Addr)) (fp : List Addr), PG (X.blk s H scope (compEnvC scope cl C X.env) fp) tg g) (hq : ∀ (s : Shared) (H : Hp) (C : Addr) (cl : List (Str × Addr)) (fp : List Addr), EvQ (X.blk s H scope (compEnvC scope cl C X.env) fp) W0 ifs ft)
    (he : ∀ (s : Shared) (H : Hp) (C : Addr) (cl : List (Str × Addr)) (fp : List Addr), EvD (X.blk s H scope (compEnvC scope cl C X.env) fp) W0 elt fe) (hs : ∀ x, foldedSetIterable iter X.env x = pure x := by intro _; rfl) :
    EvO X W (.ListComp elt [⟨tg, iter, ifs, 0⟩] scope pos) (fi.bind fun ds => lcM (own.map (·.2)) h ft fe ds) :=
  peI (pe_lc hc hN hi ok hg hq he hs) fun σ H Q ⟨ρ, F, r⟩ => ⟨ρ, F, r.bind.mono fun J H1 ⟨ds, ρ1, F1, ir, p, r1⟩ D hD => lc_read (S := ⟨σ, ρ, F, H⟩) ht tw tm r1 ir D hD⟩
theorem ev_setLc (hc : X.calm = true) (hN : X.N.Nodup) (hy : X.N[i]? = some y) (hyl : X.env.scope.names.lookup y = some .local)
    (hsw : swapsWith (.ListComp elt [⟨tg, iter, ifs, 0⟩] scope pos) (some (.Name y py)) spos.line X.env = pure true) (hi : EvI X W tg iter fi) (ok : BlkOk X.N X.env.scope scope own) (ht : TgR X.K g h) (tw : TgW g (own.map (·.2))) (tm : TgM g)
    (hg : ∀ (s : Shared) (H : Hp) (C : Addr) (cl : List (Str × Addr)) (fp : List Addr), PG (X.blk s H scope (compEnvC scope cl C X.env) fp) tg g) (hq : ∀ (s : Shared) (H : Hp) (C : Addr) (cl : List (Str × Addr)) (fp : List Addr), EvQ (X.blk s H scope (compEnvC scope cl C X.env) fp) W0 ifs ft)
    (he : ∀ (s : Shared) (H : Hp) (C : Addr) (cl : List (Str × Addr)) (fp : List Addr), EvD (X.blk s H scope (compEnvC scope cl C X.env) fp) W0 elt fe) (hs : ∀ x, foldedSetIterable iter X.env x = pure x := by intro _; rfl) :
    EvS X W (.Assign [.Name y py] (.ListComp elt [⟨tg, iter, ifs, 0⟩] scope pos) spos) ((fi.bind fun ds => lcM (own.map (·.2)) h ft fe ds).bind fun r => (Vs.own r).bind fun o => stM i o) :=
  psI (ps_setLc hc hN hy hyl hsw hi ok hg hq he hs) fun D σ H ⟨ρ, F, r⟩ => by
    obtain ⟨ρ', F', R⟩ := tG_S (R := RfR X.K) r
    have R2 : Run X.K W (RfR X.K) ⟨σ, ρ', F', H⟩ (fi.bind fun ds => lcM (own.map (·.2)) h ft fe ds) ρ' F' H (fun v H1 => gName i v σ H1 D.nx) := R.mono fun v H1 ⟨x, ρ1, F1, rx, r1⟩ => by
      obtain ⟨o, ρ2, F2, r2, p2, o2, e2, q2⟩ := own_run r1 rfl rx
      unfold stM at e2
      cases es : stI i o ρ2 with
      | none => rw [es] at e2; cases e2
      | some ρ3 =>
        rw [es] at e2; cases e2
        exact q2 _ F2 H1 (p2.store es r2)
    exact ⟨ρ', F', R2.bind.mono fun J H1 ⟨ds, ρ1, F1, ir, p, r1⟩ D' hD => lc_read (S := ⟨σ, ρ', F', H⟩) ht tw tm r1 ir D' hD⟩
end
end Vs

/-! Vs, the law's end. -/
namespace Vs
open PySem PySem.Spec L2
open PyProof.Rows hiding St

theorem rpInts {K : PySem.W.Frag} {F : Hp} : ∀ ns : List Int, RpA K F (ns.map V.int) (ns.map PyData.int)
  | [] => .nil
  | n :: ns => .cons (.int n) (rpInts ns)
/-- nothing is tracked but (perhaps) the script -/
structure Scr (P : Program) (w : World) (K : PySem.W.Frag) (h : Heap) (a : Addr) (ns : List Int) (H : Hp) : Prop where
  seq : SqL K H a (ns.map V.int)
  ok : HOk P w H h
  only : ∀ b u, H b = some u → b = a ∧ K.lookup a = none ∧ ∃ o xs, u = .frz o (.lst xs)
theorem scr_of {P : Program} {w : World} {K : PySem.W.Frag} {s₁ : Shared} {a : Addr} {vs : List Value} {ns : List Int} (KX : K.In s₁.heap) (ha : s₁.heap.get? a = some { cls := .type "list", data := .seq vs.toArray }) (hi : IntsAre vs ns) (hl : ns.length ≤ sizeLine) : ∃ H, Scr P w K s₁.heap a ns H := by
  have rv : Vals (ns.map V.int) vs := vals_ints hi
  have hv : vs.length = ns.length := hi.length
  cases hk : K.lookup a with
  | some o =>
    have e := KX a o hk
    rw [ha] at e
    cases e
    exact ⟨fun _ => none, .inr ⟨_, vs.toArray, _, hk, rfl, rfl, rfl, by simp only [List.size_toArray]; omega, by simpa using rv⟩, fun b u z => (nomatch (show none = some u from z)), fun b u z => (nomatch (show none = some u from z))⟩
  | none =>
    refine ⟨upd (fun _ => none) a (.frz { cls := .type "list", data := .seq vs.toArray } (.lst (ns.map V.int))), .inl (.inr ⟨_, upd_same⟩), fun b u z => ?_, fun b u z => ?_⟩
    all_goals by_cases hb : b = a
    · subst hb
      rw [upd_same] at z; cases z
      exact ⟨ha, by rw [List.length_map]; exact hl, vs, _, rv, ha⟩
    · rw [upd_ne hb] at z; cases z
    · subst hb
      rw [upd_same] at z; cases z
      exact ⟨rfl, hk, _, _, rfl⟩
    · rw [upd_ne hb] at z; cases z
theorem lawG {P : Program} {w : World} {K : PySem.W.Frag} {mg mb : Str → Option Value} {k : Nat} {fa a : Addr} {fd : FuncData} {x : Str} {g : M O} {s₁ : Shared} {vs : List Value} {ns : List Int}
    (KX : K.In s₁.heap) (hns : s₁.heap.Ns mainGlobals mg) (hb : s₁.heap.Ns builtinsNs mb) (hbb : ∀ x : Str, x ≠ "__name__" → mb x = bootBuiltins x) (hlim : s₁.heap.NoLimit) (hg : s₁.gens = #[])
    (ha : s₁.heap.get? a = some { cls := .type "list", data := .seq vs.toArray }) (hi : IntsAre vs ns) (hl : ns.length ≤ sizeLine) (hr : Room k callerA)
    (Fn : ∀ base : Heap, K.In base → base.Ns mainGlobals mg → FnG P w K mg base k fa fd [x] g) (hbind : ∀ (s : Shared) (u : Value), BindsTo s fd ⟨[u], []⟩ [(x, u)])
    (law : ∃ ρ', g [some (.fz (.list (ns.map .int)))] = some (.ok (.fz (.bool true)) ρ')) :
    codeAny (model P w) callerA (.call (.ref fa) ⟨[.ref a], []⟩) (fun r s' => r = .ok (.ret (.bool true)) ∧ OldK s₁.heap s'.heap ∧ s'.os = s₁.os ∧ AllBare s'.gens) s₁ := by
  obtain ⟨H, seq, ok, only⟩ := scr_of (P := P) (w := w) KX ha hi hl
  -- the rest of the heap, read as the module's ground
  have keepG : ∀ {b : Addr} {o : Obj}, s₁.heap.get? b = some o → H b = none → (hidT s₁.heap H).get? b = some o := fun e n => hidT_get e n
  have noSeq : ∀ {b : Addr} {o : Obj}, s₁.heap.get? b = some o → (∀ its n, o.data ≠ .seq its n) → H b = none := by
    intro b o e hd
    cases q : H b with
    | none => rfl
    | some u =>
      obtain ⟨rfl, _, _⟩ := only b u q
      rw [ha] at e
      cases e
      exact absurd rfl (hd _ _)
  have nsG : ∀ {b : Addr} {m : Str → Option Value}, s₁.heap.Ns b m → (hidT s₁.heap H).Ns b m := by
    rintro b m ⟨o, es, ep, e, d, r⟩
    exact ⟨o, es, ep, keepG e (noSeq e fun its n z => by rw [d] at z; cases z), d, r⟩
  have inG : K.In (hidT s₁.heap H) := by
    intro b o e
    refine keepG (KX b o e) ?_
    cases q : H b with
    | none => rfl
    | some u =>
      obtain ⟨rfl, hk, _⟩ := only b u q
      rw [e] at hk; cases hk
  obtain ⟨mc, lim1, lim2⟩ := hlim
  have env : Env0 P w K mg (hidT s₁.heap H) callerA [] s₁ H :=
    ⟨rfl, ⟨inG, nsG hns, ⟨mb, nsG hb, hbb⟩, mc, nsG lim1, lim2⟩, fun b o e => of_hidT e, Nat.le_of_eq (hidT_size _ _), trivial, fun b hb => (nomatch hb), ok, .of_eq hg⟩
  obtain ⟨ρ', elaw⟩ := law
  have hd : Hd K ([V.ref a].map some) [some (.fz (.list (ns.map .int)))] H H := by
    refine ⟨Le.refl _, rfl, fun i o e => ?_, fun i j b m b' m' v v' c e1 _ _ _ _ _ => ?_⟩
    · cases i with
      | zero =>
        simp at e
        subst e
        exact ⟨.ref a, rfl, Rp.lst seq (rpInts ns)⟩
      | succ i => simp at e
    · cases i with
      | zero => simp at e1
      | succ i => simp at e1
  refine codeAny_mono ((Fn _ inG (nsG hns)).run callerA [] s₁ H ⟨[.ref a], []⟩ [.ref a] [.ref a] (fun v _ => v = .bl true) (fun _ _ _ => False) [some (.fz (.list (ns.map .int)))] H rfl hr env (hbind s₁ (.ref a)) (.cons rfl .nil) rfl
    ⟨Post.refl hd, _, elaw, fun v F' H' p r => Rp.bl_of r⟩) ?_
  intro r s' h
  cases r with
  | error e =>
    obtain ⟨_, _, _, _, _, _, _, _, _, _, _, _, z⟩ := h
    exact z.elim
  | ok fl =>
    cases fl with
    | next => exact h.elim
    | brk => exact h.elim
    | cont => exact h.elim
    | ret u =>
      obtain ⟨v, H', os, bare, un, ok', ru, q⟩ := h
      have q : v = .bl true := q
      subst q
      obtain rfl : u = .bool true := ru
      refine ⟨rfl, OldK.of_keep fun b o e => ?_, os, bare⟩
      cases q : H b with
      | none => exact un.keep b o e q (fun z => (nomatch z)) (fun z => (nomatch z))
      | some u =>
        obtain ⟨_, _, ob, xs, rfl⟩ := only b u q
        have e1 : s₁.heap.get? b = some ob := (ok b _ q).1
        have e2 : s'.heap.get? b = some ob := (ok' b _ (un.frzs b ob _ q)).1
        rw [e] at e1
        rw [e2, e1]
/-- the goal that the head leaves, from the law's def and what it is worth -/
theorem walkG {l : PySem.W.OpenLaw} {n k : Nat} {q : Program} {loose : List Str} {XP : (Str → Option Value) → Heap → Prop} {YP : World → Heap → Prop} {d : DefRec} {K : Params → PySem.W.Frag} {x : Str} {g : M O}
    (hn : l.most = some n) (hn2 : n ≤ sizeLine) (hdf : d.params.defaults = []) (hr : Room k callerA) (hY : ∀ (w : World) (h : Heap), YP w h → (K w.params).In h)
    (F : ∀ (w : World) (mg : Str → Option Value) (fa : Addr) (h : Heap), (K w.params).In h → h.Ns mainGlobals mg → mg d.name = some (.ref fa) →
      ∃ fd : FuncData, (∀ (s : Shared) (u : Value), BindsTo s fd ⟨[u], []⟩ [(x, u)]) ∧ ∀ base : Heap, (K w.params).In base → base.Ns mainGlobals mg → FnG l.prog w (K w.params) mg base k fa fd [x] g)
    (law : ∀ ns : List Int, ns.length ≤ n → ∃ ρ', g [some (.fz (.list (ns.map .int)))] = some (.ok (.fz (.bool true)) ρ')) :
    PySem.W.WalkO q loose XP YP l.row.toRowW d [] (fun f vs => PySem.call f vs) := by
  refine Att.attach_call hn hdf fun w s₀ s₁ mg mb fa o pm cd doc a vs ns G Y ho hd hcd hmg hobj hints hlen hg => ?_
  have inK := hY w _ Y
  obtain ⟨fd, hbind, hF⟩ := F w mg fa _ inK G.T.g hmg
  exact lawG inK G.T.g G.T.b G.T.builtins G.T.nolimit hg hobj hints (Nat.le_trans hlen hn2) hr hF hbind (law ns hlen)
end Vs

/-! Vs, the words that a program of ours prints: plain functions, and their rules. -/
namespace Vs
open PySem PySem.Spec L2

/-! ### the words of plain functions -/
def eV (i : Nat) : M Rf := fun ρ => match ρ[i]? with | some (some _) => some (.ok (.s i) ρ) | _ => none
def eC (d : PyData) : M Rf := M.ret (.o (.fz d))
def eOp (h : O → O → Option O) (f g : M Rf) : M Rf := f.bind fun x => g.bind fun y => dr2 h x y
def eTs (h : O → O → Option O) (f g : M Rf) : M Bool := f.bind fun x => g.bind fun y => dr2B h x y
def eUn (h : O → Option O) (f : M Rf) : M Rf := f.bind fun x => dr1 h x
def eCN (h : List O → Option O) (g : M (List Rf)) : M Rf := g.bind fun xs => drN h xs
def aN : M (List PyData) := M.ret []
def aC (f : M Rf) (g : M (List PyData)) : M (List PyData) := (f.bind frz).bind fun d => g.bind fun ds => M.ret (d :: ds)
def splice (d : PyData) (g : M (List PyData)) : M (List PyData) := match d with
  | .list ds => g.bind fun rs => M.ret (ds ++ rs)
  | .tuple ds => g.bind fun rs => M.ret (ds ++ rs)
  | _ => fun _ => none
def aS (f : M Rf) (g : M (List PyData)) : M (List PyData) := (f.bind frz).bind fun d => splice d g
def lN : M (List Rf) := M.ret []
def lC (f : M Rf) (g : M (List Rf)) : M (List Rf) := f.bind fun d => g.bind fun ds => M.ret (d :: ds)
def gN : M (List Arg) := M.ret []
def gF (f : M Rf) (g : M (List Arg)) : M (List Arg) := (f.bind frz).bind fun d => g.bind fun ds => M.ret (.fz d :: ds)
def gB (i : Nat) (g : M (List Arg)) : M (List Arg) := fun ρ => match ρ[i]? with | some (some _) => (g.bind fun ds => M.ret (.br i :: ds)) ρ | _ => none
def eTup (g : M (List PyData)) : M Rf := g.bind fun ds => chk (decide (ds.length ≤ 16777216)) (.o (.fz (.tuple ds)))
def eLst (g : M (List PyData)) : M Rf := g.bind fun ds => chk (decide (ds.length ≤ 16777216)) (.o (.mu false (.lst ds)))
def eDct : M Rf := M.ret (.o (.mu false (.dct [])))
def eSl (f : M Rf) (g h : M (Option Int)) : M Rf := f.bind fun x => g.bind fun l => h.bind fun u => dr1 (fun a => hSl a l u) x
def pN : M (Option Int) := M.ret none
def pI (f : M Rf) : M (Option Int) := f.bind asInt
def eMt (T : String) (h : O → List O → Option O) (f : M Rf) (g : M (List Rf)) : M Rf := f.bind fun x => (ckM T x).bind fun x => g.bind fun ys => drM T h x ys
def eCall (g : M O) (n : Nat) (ga : M (List Arg)) : M Rf := ga.bind fun xs => callN g n xs
def tTr (f : M Rf) : M Bool := f.bind tru
def tNt (t : M Bool) : M Bool := t.bind fun k => M.ret !k
def tAn (t u : M Bool) : M Bool := t.bind fun k => if k then u else M.ret false
def tO (t u : M Bool) : M Bool := t.bind fun k => if k then M.ret true else u
def eNt (f : M Rf) : M Rf := f.bind fun x => (asB x).bind fun k => M.ret (.o (.fz (.bool !k)))
def eAn (f g : M Rf) : M Rf := f.bind fun x => (asB x).bind fun k => if k then g else M.ret (.o (.fz (.bool false)))
def eOr (f g : M Rf) : M Rf := f.bind fun x => (asB x).bind fun k => if k then M.ret (.o (.fz (.bool true))) else g
def eIf (t : M Bool) (f g : M Rf) : M Rf := t.bind fun k => if k then f else g
def eLc (vs : List Nat) (fi : M (List PyData)) (h : PyData → M Fl) (ft : M Bool) (fe : M Rf) : M Rf := fi.bind fun ds => lcM vs h ft (fe.bind frz) ds
def iV (f : M Rf) : M (List PyData) := (f.bind frz).bind iterD
def iR1 (h : M (List PyData)) : M (List PyData) := h.bind rng1
def iR2 (h : M (List PyData)) : M (List PyData) := h.bind rng2
def sN : M Fl := M.ret .nx
def sRet (f : M Rf) : M Fl := f.bind fun r => M.ret (.rt r)
def sRetN : M Fl := M.ret (.rt (.o (.fz .none)))
def sBk : M Fl := M.ret .bk
def sCt : M Fl := M.ret .ct
def sEx (f : M Rf) : M Fl := f.bind fun _ => M.ret .nx
def sIf (t : M Bool) (f g : M Fl) : M Fl := t.bind fun k => if k then f else g
def sSet (i : Nat) (f : M Rf) : M Fl := f.bind fun r => (Vs.own r).bind fun o => stM i o
def sAsg (f : M Rf) (h : PyData → M Fl) : M Fl := (f.bind frz).bind h
def sApp (i : Nat) (f : M Rf) : M Fl := fun ρ => match ρ[i]? with | some (some (.mu _ (.lst _))) => ((f.bind frz).bind fun d => upS i (muApp d)) ρ | _ => none
def sSt (i : Nat) (f g : M Rf) : M Fl := (f.bind frz).bind fun d => fun ρ => match ρ[i]? with | some (some _) => ((g.bind frz).bind fun k => upS i (muSet k d)) ρ | _ => none
def sFor (fi : M (List PyData)) (h : PyData → M Fl) (fb : M Fl) : M Fl := fi.bind fun ds => forF h fb ds

/-! ### defs of the module -/
/-- the def st stands at f under the name x -/
structure Def (K : PySem.W.Frag) (mg : Str → Option Value) (x : Str) (st : Stmt) (ps : List Str) (f : Addr) (fd : FuncData) : Prop where
  fu : Fun K x x st f fd
  gl : mg x = some (.ref f)
  bi : Binds K fd ps []
/-- what the module's name x does when it is called -/
structure Cal (P : Program) (w : World) (K : PySem.W.Frag) (mg : Str → Option Value) (base : Heap) (k : Nat) (x : Str) (n : Nat) (g : M O) : Prop where
  ex : ∃ f fd ps, ps.length = n ∧ FnG P w K mg base k f fd ps g ∧ mg x = some (.ref f) ∧ PySem.W.keepIn K (.ref f) = true ∧ Binds K fd ps []
section
variable {P : Program} {w : World} {K : PySem.W.Frag} {mg : Str → Option Value} {base : Heap} {x : Str} {st : Stmt} {ps N : List Str} {f : Addr} {fd : FuncData} {k j n : Nat} {g : M O}
theorem Cal.mono (c : Cal P w K mg base j x n g) (h : j ≤ k) : Cal P w K mg base k x n g := by
  obtain ⟨f, fd, ps, e, F, r⟩ := c.ex
  exact ⟨f, fd, ps, e, F.mono h, r⟩
theorem Def.cal (d : Def K mg x st ps f fd) (F : FnG P w K mg base k f fd ps g) : Cal P w K mg base k x ps.length g := ⟨f, fd, ps, rfl, F, d.gl, d.fu.kp, d.bi⟩
/-- a recursion's start: worth nothing -/
theorem FnG.zero : FnG P w K mg base k f fd ps (fun _ => none) := ⟨fun A outer s H args us vs Q E ρ F hg hr e0 hb r hl R => by
  obtain ⟨_, o, e, _⟩ := R
  cases e⟩
end
section
variable {X : Cx} {W : WX} {e : Expr} {es : List Expr} {ga : M (List Arg)} {pos p : Pos} {k j n : Nat} {x : Str} {g : M O}
theorem r_call (c : Cal X.prog X.w X.K X.mg X.base j x n g) (hk : j ≤ k) (hr : Room k X.A) (hgd : X.A.guards = some []) (hg : Gl X x) (tk : L2N.Takes X W) (ha : EvG X W (e :: es) ga) (hdb : (x == ("__debug__" : Str)) = false := by decide)
    (he : starEach (e :: es) X.env = (false, eval e X.env) :: starEach es X.env := by rfl) (hpl : (backTo pos (starEach es X.env)).any (·.1) = false := by rfl) : EvO X W (.Call (.Name x p) (e :: es) [] pos) (eCall g n ga) := by
  obtain ⟨f, fd, ps, rfl, F, hm, hkp, hb⟩ := c.ex
  exact ev_call F (hr.mono hk) hgd hg hm hkp hb tk ha hdb he hpl
theorem r_star {f : M Rf} {h : M (List PyData)} {sp : Pos} (ha : EvO X W e f) (hr : EvA X W es h) (hs : starEach (.Starred e sp :: es) X.env = (true, eval e X.env) :: starEach es X.env := by rfl) : EvA X W (.Starred e sp :: es) (aS f h) := evA_star (ev_frz ha) hr hs
theorem r_cons {f : M Rf} {h : M (List PyData)} (ha : EvO X W e f) (hr : EvA X W es h) (hs : starEach (e :: es) X.env = (false, eval e X.env) :: starEach es X.env := by rfl) : EvA X W (e :: es) (aC f h) := evA_cons (ev_frz ha) hr hs
theorem hu200 (hr : Room k X.A) : X.A.units + 200 < cLine := by have := hr.un; omega
end
section
variable {P : Program} {w : World} {K : PySem.W.Frag} {mg : Str → Option Value} {base : Heap} {N : List Str} {qual : Str} {st : Stmt} {f : Addr} {cdv : Value} {A : Around} {outer : List Env} {s : Shared} {H : Hp} {E : XK}
theorem cx_passes : PassesOwn (model P w) (cx P w K mg base N qual st f cdv A outer s H E).A (cx P w K mg base N qual st f cdv A outer s H E).env (cx P w K mg base N qual st f cdv A outer s H E).xe :=
  passes_of (X := cx P w K mg base N qual st f cdv A outer s H E) (K := fun e s'' => L2N.CX P w outer H s E e s'') (E₁ := fun e' s'' => L2N.CX P w outer H s E e' s'') rfl
end
end Vs

/-! Vs, walks over a list that a name holds and that may still be changed. -/
namespace Vs
open PySem PySem.Spec L2

/-! ### lending a slot to a loop -/
theorem list_set_get {ρ : Rho} {i : Nat} {x : Option O} (h : i < ρ.length) : (ρ.set i x)[i]? = some x := List.getElem?_set_self h
section
variable {K : PySem.W.Frag} {σ σ' : L2.St} {ρ ρ' : Rho} {F F' H H' : Hp} {i : Nat} {b b' : Bool} {m m' : Mu}
theorem Hd.flag (h : Hd K σ ρ F H) (e : ρ[i]? = some (some (.mu b m))) : Hd K σ (ρ.set i (some (.mu b' m))) F H := by
  have hl := (List.getElem?_eq_some_iff.mp e).1
  refine ⟨h.le, by rw [List.length_set]; exact h.len, fun j o e1 => ?_, fun j k b1 m1 b2 m2 v v' a e1 e2 s1 s2 k1 k2 => ?_⟩
  · rcases get_set e1 with ⟨rfl, z⟩ | ⟨_, z⟩
    · cases z
      obtain ⟨v, h1, h2⟩ := h.at_ j _ e
      exact ⟨v, h1, h2⟩
    · exact h.at_ j o z
  · rcases get_set e1 with ⟨rfl, z1⟩ | ⟨_, z1⟩
    · rcases get_set e2 with ⟨rfl, z2⟩ | ⟨_, z2⟩
      · rfl
      · cases z1; exact h.sep j k b _ b2 m2 v v' a e z2 s1 s2 k1 k2
    · rcases get_set e2 with ⟨rfl, z2⟩ | ⟨_, z2⟩
      · cases z2; exact h.sep j k b1 m1 b _ v v' a z1 e s1 s2 k1 k2
      · exact h.sep j k b1 m1 b2 m2 v v' a z1 z2 s1 s2 k1 k2
theorem own_flag (e : ρ[i]? = some (some (.mu b m))) {a : Addr} : Own σ (ρ.set i (some (.mu b' m))) H a ↔ Own σ ρ H a := by
  have hl := (List.getElem?_eq_some_iff.mp e).1
  constructor
  · rintro ⟨j, b1, m1, w, e1, s, k⟩
    rcases get_set e1 with ⟨rfl, z⟩ | ⟨_, z⟩
    · cases z; exact ⟨j, b, _, w, e, s, k⟩
    · exact ⟨j, b1, m1, w, z, s, k⟩
  · rintro ⟨j, b1, m1, w, e1, s, k⟩
    by_cases hj : j = i
    · subst hj
      rw [e] at e1; cases e1
      exact ⟨j, b', m, w, list_set_get hl, s, k⟩
    · exact ⟨j, b1, m1, w, by rw [set_ne hj]; exact e1, s, k⟩
/-- what was lent comes back -/
theorem Post.unlend (e : ρ[i]? = some (some (.mu b m))) (p : Post K ⟨σ, ρ.set i (some (.mu true m)), F, H⟩ σ' ρ' F' H') (e' : ρ'[i]? = some (some (.mu true m'))) : Post K ⟨σ, ρ, F, H⟩ σ' (ρ'.set i (some (.mu b m'))) F' H' := by
  have hl := (List.getElem?_eq_some_iff.mp e).1
  have hl' := (List.getElem?_eq_some_iff.mp e').1
  refine ⟨p.hd.flag e', p.le, fun c u h n => p.keep c u h fun z => n ((own_flag e).mp z), fun c u h n f => p.nofz c u h (fun z => n ((own_flag e).mp z)) f, fun c q => ?_, fun j m1 h1 => ?_⟩
  · rcases p.own c ((own_flag e').mp q) with z | z
    · exact .inl ((own_flag e).mp z)
    · exact .inr z
  · by_cases hj : j = i
    · subst hj
      have h1' : ρ[j]? = some (some (.mu true m1)) := h1
      rw [e] at h1'
      cases h1'
      obtain ⟨s1, _⟩ := p.bor j m (list_set_get hl)
      exact ⟨s1, m', list_set_get hl'⟩
    · obtain ⟨s1, m2, s2⟩ := p.bor j m1 (by show (ρ.set i _)[j]? = _; rw [set_ne hj]; exact h1)
      exact ⟨s1, m2, by rw [set_ne hj]; exact s2⟩
theorem New.flag {a : Addr} (e : ρ[i]? = some (some (.mu b m))) (h : New ⟨σ, ρ.set i (some (.mu b' m)), F, H⟩ a) : New ⟨σ, ρ, F, H⟩ a := h.imp (own_flag e).mp fun z => z
end

/-! ### for x in xs -/
def unl (i : Nat) (b : Bool) (ρ : Rho) : Option Rho := match ρ[i]? with
  | some (some (.mu true m)) => some (ρ.set i (some (.mu b m)))
  | _ => none
def unlF (i : Nat) (b : Bool) : Option (Out Fl) → Option (Out Fl)
  | some (.ok (.rt (.o (.fz d))) ρ) => (unl i b ρ).map (.ok (.rt (.o (.fz d))))
  | some (.ok (.rt (.s j)) ρ) => (match ρ[j]? with | some (some (.fz d)) => (unl i b ρ).map (.ok (.rt (.o (.fz d)))) | _ => none)
  | some (.ok (.rt _) ρ) => none
  | some (.ok fl ρ) => (unl i b ρ).map (.ok fl)
  | some (.ex c ρ) => (unl i b ρ).map (.ex c)
  | none => none
def forL (i : Nat) (h : PyData → M Fl) (fb : M Fl) : Nat → Nat → Rho → Option (Out Fl)
  | 0, _, _ => none
  | n + 1, k, ρ => match ρ[i]? with
    | some (some (.mu true (.lst ds))) => (match ds[k]? with
      | some d => forH fb (forL i h fb n (k + 1)) (h d ρ)
      | none => some (.ok .nx ρ))
    | _ => none
def sForL (i : Nat) (h : PyData → M Fl) (fb : M Fl) : M Fl := fun ρ => match ρ[i]? with
  | some (some (.mu b (.lst ds))) => unlF i b (forL i h fb (ds.length + 1) 0 (ρ.set i (some (.mu true (.lst ds)))))
  | _ => sFor (iV (eV i)) h fb ρ
theorem unl_some {i : Nat} {b : Bool} {ρ ρ' : Rho} (e : unl i b ρ = some ρ') : ∃ m, ρ[i]? = some (some (.mu true m)) ∧ ρ' = ρ.set i (some (.mu b m)) := by
  unfold unl at e
  split at e
  · rename_i m hm
    cases e
    exact ⟨m, hm, rfl⟩
  · cases e
section
variable {X : Cx} {W : WX} {tg : Expr} {body : List Stmt} {g : TG} {h : PyData → M Fl} {fb : M Fl} {pos np : Pos} {x : Str} {i : Nat}
theorem ev_forL (hp : PassesOwn (model X.prog X.w) X.A X.env X.xe) (hc : X.calm = true) (hv : PE X (.Name x np) (tVar i)) (hv2 : EvO X W (.Name x np) (eV i)) (hg : PG X tg g) (ht : TgR X.K g h) (hb : EvB X W body fb) (hs : ∀ z, foldedSetIterable (.Name x np) X.env z = pure z := by intro _; rfl) :
    EvS X W (.For tg (.Name x np) body [] pos) (sForL i h fb) := ⟨fun pins s σ H D I ⟨ρ, F, p0, o0, e0, q0⟩ => by
  unfold sForL at e0
  split at e0
  · rename_i b ds hi
    have hl := (List.getElem?_eq_some_iff.mp hi).1
    obtain ⟨v, hv', a, u, rfl, hu, hf, xs, rfl, rx⟩ := p0.hd.at_ i _ hi
    -- the run inside, the slot lent
    cases eL : forL i h fb (ds.length + 1) 0 (ρ.set i (some (.mu true (.lst ds)))) with
    | none => rw [eL] at e0; cases e0
    | some oL =>
      rw [eL] at e0
      let S1 : Sta := ⟨σ, ρ.set i (some (.mu true (.lst ds))), F, H⟩
      have pS : Post X.K S1 σ (ρ.set i (some (.mu true (.lst ds)))) F H := Post.refl (p0.hd.flag hi)
      have finL : FinS X.K W S1 D oL := by
        cases oL with
        | ex c ρ' =>
          have e0 : (unl i b ρ').map (Out.ex (α := Fl) c) = some o0 := e0
          obtain ⟨ρ2, e2, rfl⟩ := Option.map_eq_some_iff.mp e0
          obtain ⟨m', e3, rfl⟩ := unl_some e2
          exact fun d σ' F' H' p => q0 d σ' F' H' (p.unlend hi e3)
        | ok fl ρ' =>
          cases fl with
          | nx =>
            have e0 : (unl i b ρ').map (Out.ok (α := Fl) .nx) = some o0 := e0
            obtain ⟨ρ2, e2, rfl⟩ := Option.map_eq_some_iff.mp e0
            obtain ⟨m', e3, rfl⟩ := unl_some e2
            exact fun σ' F' H' p => q0 σ' F' H' (p.unlend hi e3)
          | bk =>
            have e0 : (unl i b ρ').map (Out.ok (α := Fl) .bk) = some o0 := e0
            obtain ⟨ρ2, e2, rfl⟩ := Option.map_eq_some_iff.mp e0
            obtain ⟨m', e3, rfl⟩ := unl_some e2
            exact fun σ' F' H' p => q0 σ' F' H' (p.unlend hi e3)
          | ct =>
            have e0 : (unl i b ρ').map (Out.ok (α := Fl) .ct) = some o0 := e0
            obtain ⟨ρ2, e2, rfl⟩ := Option.map_eq_some_iff.mp e0
            obtain ⟨m', e3, rfl⟩ := unl_some e2
            exact fun σ' F' H' p => q0 σ' F' H' (p.unlend hi e3)
          | rt r =>
            cases r with
            | s j =>
              have e0 : (match ρ'[j]? with | some (some (.fz d)) => (unl i b ρ').map (Out.ok (.rt (.o (.fz d)))) | _ => none) = some o0 := e0
              split at e0
              · rename_i d hj
                obtain ⟨ρ2, e2, rfl⟩ := Option.map_eq_some_iff.mp e0
                obtain ⟨m', e3, rfl⟩ := unl_some e2
                intro v σ' F' H' p rr
                obtain ⟨v2, h2, r2⟩ := p.hd.at_ j _ hj
                have rr : σ'[j]? = some (some v) := rr
                rw [rr] at h2; cases h2
                exact q0 v σ' F' H' (p.unlend hi e3) r2
              · cases e0
            | o o =>
              cases o with
              | mu _ _ => cases e0
              | fz d =>
                have e0 : (unl i b ρ').map (Out.ok (.rt (.o (.fz d)))) = some o0 := e0
                obtain ⟨ρ2, e2, rfl⟩ := Option.map_eq_some_iff.mp e0
                obtain ⟨m', e3, rfl⟩ := unl_some e2
                exact fun v σ' F' H' p r => q0 v σ' F' H' (p.unlend hi e3) r
      refine (ps_for hp hc (pi_list hv) hg hb hs).run pins s σ H D I ⟨.ref a, hv', a, rfl, ⟨xs, .of hu⟩, ?_⟩
      refine ⟨fun k m σ' H' => ∃ ρ' F', Post X.K S1 σ' ρ' F' H' ∧ forL i h fb (m + 1) k ρ' = some oL, ⟨ds.length, _, F, pS, eL⟩, ?_⟩
      rintro k m σ' H' ⟨ρ', F', p, e⟩
      obtain ⟨s1, m', s2⟩ := p.bor i (.lst ds) (list_set_get hl)
      have s1 : σ'[i]? = σ[i]? := s1
      obtain ⟨v2, hv2, a2, u2, rfl, hu2, hf2, mr⟩ := p.hd.at_ i _ s2
      rw [s1, hv'] at hv2; cases hv2
      unfold forL at e
      cases m' with
      | dct es => rw [s2] at e; cases e
      | obj C fs => rw [s2] at e; cases e
      | tre n its => rw [s2] at e; cases e
      | lst ds' =>
        obtain ⟨xs', rfl, rx'⟩ := mr
        rw [s2] at e
        simp only at e
        cases hk : ds'[k]? with
        | none =>
          rw [hk] at e
          cases e
          have hlen : ds'.length ≤ k := List.getElem?_eq_none_iff.mp hk
          exact .inl ⟨⟨xs', .of hu2, by rw [rx'.len]; exact hlen⟩, finL σ' F' H' p⟩
        | some d =>
          rw [hk] at e
          simp only at e
          obtain ⟨w, hw, rw'⟩ := rx'.get hk
          refine .inr ⟨⟨xs', w, .of hu2, hw⟩, fun σ2 H2 => ∃ m', m' < m ∧ ∃ ρ2 F2, Post X.K S1 σ2 ρ2 F2 H2 ∧ forL i h fb (m' + 1) (k + 1) ρ2 = some oL, fun σ2 H2 hh => hh, fun y H2 yl => ?_⟩
          obtain ⟨rfl, yl⟩ := yl
          have := yl xs' (.of hu2)
          rw [hw] at this; cases this
          cases eh : h d ρ' with
          | none => rw [eh] at e; cases e
          | some oh =>
            cases oh with
            | ex c ρ3 => rw [eh] at e; cases e
            | ok fl ρ3 =>
              cases fl with
              | bk => rw [eh] at e; cases e
              | ct => rw [eh] at e; cases e
              | rt _ => rw [eh] at e; cases e
              | nx =>
                rw [eh] at e
                have e : forK (forL i h fb m (k + 1)) (fb ρ3) = some oL := e
                have again : ∀ {ρ6 : Rho} {a : L2.St} {b c : Hp}, forL i h fb m (k + 1) ρ6 = some oL → Post X.K S1 a ρ6 b c → ∃ m', m' < m ∧ ∃ ρ2 F2, Post X.K S1 a ρ2 F2 c ∧ forL i h fb (m' + 1) (k + 1) ρ2 = some oL := by
                  intro ρ6 a b c e pp
                  cases m with
                  | zero => cases e
                  | succ m => exact ⟨m, Nat.lt_succ_self _, ρ6, b, pp, e⟩
                refine ht W ⟨σ', ρ', F', H2⟩ σ' ρ' F' H2 w d ⟨_, D.rt, D.bk, D.ct⟩ ⟨Post.refl p.hd, _, eh, fun σ4 F4 H4 p4 => ?_⟩ rw'
                have p5 := p.trans p4
                refine ⟨ρ3, F4, Post.refl p4.hd, ?_⟩
                cases eb : fb ρ3 with
                | none => rw [eb] at e; cases e
                | some ob =>
                  refine ⟨ob, rfl, ?_⟩
                  rw [eb] at e
                  cases ob with
                  | ex c ρ6 => cases e; exact fun d a b c z => finL d a b c (p5.trans z)
                  | ok fl ρ6 =>
                    cases fl with
                    | nx => exact fun a b c z => again e (p5.trans z)
                    | ct => exact fun a b c z => again e (p5.trans z)
                    | bk => cases e; exact fun a b c z => finL a b c (p5.trans z)
                    | rt r => cases e; exact fun v a b c z k => finL v a b c (p5.trans z) (rfUp p5 k)
  · exact (ev_for hp hc (evI_val hv2) hg ht hb hs).run pins s σ H D I ⟨ρ, F, p0, o0, e0, q0⟩⟩
end
end Vs

/-! Vs, comprehensions over a list that a name holds and that may still be changed. -/
namespace Vs
open PySem PySem.Spec L2

def lcLive (i : Nat) (vs : List Nat) (h : PyData → M Fl) (ft : M Bool) (fe : M PyData) : Nat → Nat → List PyData → Rho → Option (Out (List PyData))
  | 0, _, _, _ => none
  | n + 1, k, acc, ρ => match ρ[i]? with
    | some (some (.mu true (.lst ds))) => (match ds[k]? with
      | some d => lcH vs ft fe acc (lcLive i vs h ft fe n (k + 1)) (h d ρ)
      | none => some (.ok acc ρ))
    | _ => none
def lcEnd (i : Nat) (b : Bool) (vs : List Nat) (ρ : Rho) : Option (Out (List PyData)) → Option (Out Rf)
  | some (.ok ys ρ') => (unl i b (backR ρ ρ' vs)).map (.ok (.o (.mu false (.lst ys))))
  | _ => none
def lcL (i : Nat) (vs : List Nat) (h : PyData → M Fl) (ft : M Bool) (fe : M PyData) : M Rf := fun ρ => match ρ[i]? with
  | some (some (.mu b (.lst ds))) => if freeV ρ vs = true then lcEnd i b vs (ρ.set i (some (.mu true (.lst ds)))) (lcLive i vs h ft fe (ds.length + 1) 0 [] (wipeR (ρ.set i (some (.mu true (.lst ds)))) vs)) else none
  | _ => ((iV (eV i)).bind fun ds => lcM vs h ft fe ds) ρ
theorem lcL_read {X : Cx} {W : WX} {g : TG} {h : PyData → M Fl} {ft : M Bool} {fe : M PyData} {vs : List Nat} {σ : L2.St} {ρ : Rho} {F H : Hp} {Q : VK} {i : Nat} {b : Bool} {ds : List PyData} (tg : TgR X.K g h) (tw : TgW g vs) (gmono : TgM g)
    (hi : ρ[i]? = some (some (.mu b (.lst ds)))) (r : Run X.K W (RfR X.K) ⟨σ, ρ, F, H⟩ (lcL i vs h ft fe) ρ F H Q) : tLc (iList X.K (tVar i)) g (tG X.K W0 (BR X.K) ft) (tG X.K W0 (DR X.K) fe) vs σ H Q := by
  obtain ⟨p0, o, e, q⟩ := r
  have hl := (List.getElem?_eq_some_iff.mp hi).1
  obtain ⟨v, hv', a, u, rfl, hu, hfa, xs0, rfl, rx0⟩ := p0.hd.at_ i _ hi
  refine ⟨.ref a, hv', a, rfl, ⟨xs0, .of hu⟩, fun D hD => ?_⟩
  unfold lcL at e
  rw [hi] at e
  simp only at e
  split at e
  next hfree =>
    cases el : lcLive i vs h ft fe (ds.length + 1) 0 [] (wipeR (ρ.set i (some (.mu true (.lst ds)))) vs) with
    | none => rw [el] at e; cases e
    | some ol =>
      cases ol with
      | ex c ρ' => rw [el] at e; cases e
      | ok ys ρe =>
        rw [el] at e
        have e : (unl i b (backR (ρ.set i (some (.mu true (.lst ds)))) ρe vs)).map (Out.ok (Rf.o (.mu false (.lst ys)))) = some o := e
        obtain ⟨ρ2, e2, rfl⟩ := Option.map_eq_some_iff.mp e
        obtain ⟨mE, e3, rfl⟩ := unl_some e2
        let S1 : Sta := ⟨σ, ρ.set i (some (.mu true (.lst ds))), F, H⟩
        have pS : Post X.K S1 σ (ρ.set i (some (.mu true (.lst ds)))) F H := Post.refl (p0.hd.flag hi)
        have iv : i ∉ vs := fun hx => by
          have := List.all_eq_true.mp hfree i hx
          rw [hi] at this
          cases this
        have free1 : freeV (ρ.set i (some (.mu true (.lst ds)))) vs = true := by
          refine List.all_eq_true.mpr fun j hj => ?_
          have hji : j ≠ i := by rintro rfl; exact iv hj
          have := List.all_eq_true.mp hfree j hj
          rw [set_ne hji]
          exact this
        have nwD : New S1 D := .inr hD
        let Mid : Nat → Nat → Hp → Prop := fun k n H' => ∃ (acc : List PyData) (xs : List V) (ρ' : Rho) (F' : Hp), Le F F' ∧ Post X.K S1 (wipe σ vs) ρ' F' H' ∧ (∀ i ∈ vs, ∀ o, ρ'[i]? ≠ some (some o)) ∧ F' D = none ∧ ¬ Own (wipe σ vs) ρ' H' D ∧ H' D = some (.lst xs) ∧ RpA X.K F' xs acc ∧ lcLive i vs h ft fe n k acc ρ' = some (.ok ys ρe)
        refine ⟨fun k m H' => Mid k (m + 1) H', ⟨ds.length, [], [], _, F, Le.refl _, (pS.wipe free1).newO hD, wipeR_self, p0.gone hD, (pS.wipe free1).hd.notOwnNew hD, upd_same, .nil, el⟩, ?_⟩
        rintro k m H' ⟨acc, xs, ρ', F', le, p, hw, hf, no, hH, ra, el⟩
        obtain ⟨s1, m', s2⟩ := p.bor i (.lst ds) (list_set_get hl)
        have s1 : (wipe σ vs)[i]? = σ[i]? := s1
        obtain ⟨v2, hv2, a2, u2, rfl, hu2, hf2, mr⟩ := p.hd.at_ i _ s2
        rw [s1, hv'] at hv2; cases hv2
        unfold lcLive at el
        cases m' with
        | dct es => rw [s2] at el; cases el
        | obj C fs => rw [s2] at el; cases el
        | tre n its => rw [s2] at el; cases el
        | lst ds' =>
          obtain ⟨xs', rfl, rx'⟩ := mr
          rw [s2] at el
          simp only at el
          cases hk : ds'[k]? with
          | none =>
            rw [hk] at el
            cases el
            have hlen : ds'.length ≤ k := List.getElem?_eq_none_iff.mp hk
            have pu := pS.unwipe free1 le p hw
            refine .inl ⟨⟨xs', .of hu2, by rw [rx'.len]; exact hlen⟩, q _ F' H' (pu.unlend hi e3) ⟨rfl, ⟨D, _, rfl, hH, hf, xs, rfl, ra⟩, fun a ea => ?_⟩⟩
            rw [List.mem_singleton.mp (show a ∈ [D] from ea)]
            refine ⟨New.flag hi nwD, fun z => ?_⟩
            obtain ⟨j, b1, mm, w, e1, s1, k1⟩ := (own_flag e3).mp z
            rcases backR_get e1 with ⟨hj, e2⟩ | ⟨hj, e2⟩
            · have := List.all_eq_true.mp free1 j hj
              rw [e2] at this
              cases this
            · exact no ⟨j, b1, mm, w, e2, wipe_get s1 hj, k1⟩
          | some d =>
            rw [hk] at el
            simp only at el
            obtain ⟨w, hw', rw'⟩ := rx'.get hk
            refine .inr ⟨⟨xs', w, .of hu2, hw'⟩, fun H2 => ∃ m', m' < m ∧ Mid (k + 1) (m' + 1) H2, fun H2 hh => hh, fun y H2 yl => ?_⟩
            obtain ⟨rfl, yl⟩ := yl
            have := yl xs' (.of hu2)
            rw [hw'] at this; cases this
            have fin : ∀ (σ5 : L2.St) (ρ5 : Rho) (F5 H5 : Hp) (acc' : List PyData) (xs' : List V), wipe σ5 vs = wipe σ vs → Post X.K ⟨wipe σ vs, ρ', F', H2⟩ σ5 ρ5 F5 H5 → freeV ρ5 vs = true → ∀ H6, (H6 = H5 ∨ ∃ u, H6 = upd H5 D u) → H6 D = some (.lst xs') → RpA X.K F5 xs' acc' →
                lcLive i vs h ft fe m (k + 1) acc' (wipeR ρ5 vs) = some (.ok ys ρe) → ∃ m', m' < m ∧ Mid (k + 1) (m' + 1) H6 := by
              intro σ5 ρ5 F5 H5 acc' xs' ew p5 fv H6 h6 hD6 ra' el'
              have pw := (p.trans p5).wipe fv
              rw [ew] at pw
              have hf5 : F5 D = none := p5.nofz D _ hH no hf
              have no5 : ¬ Own σ5 ρ5 H5 D := p5.not hH no
              have no6 : ¬ Own (wipe σ vs) (wipeR ρ5 vs) H5 D := fun ⟨j, b, mm, w, e1, s1, k1⟩ => no5 ⟨j, b, mm, w, (wipeR_get.mp e1).1, by rw [← ew] at s1; exact (wipe_some s1).1, k1⟩
              cases m with
              | zero => cases el'
              | succ m =>
                refine ⟨m, Nat.lt_succ_self _, acc', xs', wipeR ρ5 vs, F5, le.trans p5.le, ?_, wipeR_self, hf5, ?_, hD6, ra', el'⟩
                · rcases h6 with rfl | ⟨u, rfl⟩
                  · exact pw
                  · exact pw.wrT hf5 no6 nwD
                · rcases h6 with rfl | ⟨u, rfl⟩
                  · exact no6
                  · exact fun z => no6 ((pw.hd.offUpd hf5 no6).2 D z)
            have wants : g w (wipe σ vs) H2 fun σ2 H3 => wipe σ2 vs = wipe (wipe σ vs) vs ∧ (wipe σ2 vs = wipe σ vs → tG X.K W0 (BR X.K) ft σ2 H3 fun b H3 => if b = true then tG X.K W0 (DR X.K) fe σ2 H3 fun y H4 => ∃ acc, H4 D = some (.lst acc) ∧ acc.length < sizeLine ∧ ∃ m', m' < m ∧ Mid (k + 1) (m' + 1) (upd H4 D (.lst (acc ++ [y]))) else ∃ m', m' < m ∧ Mid (k + 1) (m' + 1) H3) := by
              refine tw _ _ _ _ ?_
              cases eh : h d ρ' with
              | none => rw [eh] at el; cases el
              | some oh =>
                cases oh with
                | ex c ρ3 => rw [eh] at el; cases el
                | ok fl ρ3 =>
                  cases fl with
                  | bk => rw [eh] at el; cases el
                  | ct => rw [eh] at el; cases el
                  | rt _ => rw [eh] at el; cases el
                  | nx =>
                    rw [eh] at el
                    have el : lcT vs fe acc (lcLive i vs h ft fe m (k + 1)) (ft ρ3) = some (.ok ys ρe) := el
                    refine tg W0 ⟨wipe σ vs, ρ', F', H2⟩ _ ρ' F' H2 w d ⟨_, fun _ _ => False, fun _ _ => False, fun _ _ => False⟩ ⟨Post.refl p.hd, _, eh, fun σ4 F4 H4 p4 ew => ?_⟩ rw'
                    cases et : ft ρ3 with
                    | none => rw [et] at el; cases el
                    | some ot =>
                      refine ⟨ρ3, F4, Post.refl p4.hd, ot, et, ?_⟩
                      rw [et] at el
                      cases ot with
                      | ex c ρ4 => cases el
                      | ok b ρ4 =>
                        intro b' F5 H5 p5 eb
                        have eb : b' = b := eb
                        subst eb
                        have p45 := p4.trans p5
                        cases b' with
                        | false =>
                          have el : (if freeV ρ4 vs = true then lcLive i vs h ft fe m (k + 1) acc (wipeR ρ4 vs) else none) = some (.ok ys ρe) := el
                          rw [if_neg Bool.false_ne_true]
                          split at el
                          next fv => exact fin σ4 ρ4 F5 H5 acc xs ew p45 fv H5 (.inl rfl) (p45.keep D _ hH no) (RpA.mono p45.le ra) el
                          next => cases el
                        | true =>
                          have el : lcE vs acc (lcLive i vs h ft fe m (k + 1)) (fe ρ4) = some (.ok ys ρe) := el
                          rw [if_pos rfl]
                          cases ee : fe ρ4 with
                          | none => rw [ee] at el; cases el
                          | some oe =>
                            refine ⟨ρ4, F5, Post.refl p5.hd, oe, ee, ?_⟩
                            rw [ee] at el
                            cases oe with
                            | ex c ρ6 => cases el
                            | ok y ρ6 =>
                              intro yv F6 H6 p6 ry
                              have el : (if acc.length < 16777216 ∧ freeV ρ6 vs = true then lcLive i vs h ft fe m (k + 1) (acc ++ [y]) (wipeR ρ6 vs) else none) = some (.ok ys ρe) := el
                              split at el
                              next hc =>
                                have p46 := p45.trans p6
                                exact ⟨xs, p46.keep D _ hH no, by rw [slen, ra.len]; exact hc.1, fin σ4 ρ6 F6 H6 (acc ++ [y]) (xs ++ [yv]) ew p46 hc.2 _ (.inr ⟨_, rfl⟩) upd_same ((RpA.mono p46.le ra).app (.cons ry .nil)) el⟩
                              next => cases el
            refine gmono _ _ _ _ _ (fun σ2 H3 ⟨e1, q1⟩ => ?_) wants
            rw [wipe_wipe] at e1
            exact ⟨e1, q1 e1⟩
  next => cases e
section
variable {X : Cx} {W : WX} {elt tg : Expr} {ifs : List Expr} {scope : Scope} {own : List (Str × Nat)} {pos spos py np : Pos} {g : TG} {h : PyData → M Fl} {ft : M Bool} {fe : M PyData} {y x : Str} {i j : Nat}
theorem ev_lcL (hc : X.calm = true) (hN : X.N.Nodup) (hv : PE X (.Name x np) (tVar i)) (hv2 : EvO X W (.Name x np) (eV i)) (ok : BlkOk X.N X.env.scope scope own) (ht : TgR X.K g h) (tw : TgW g (own.map (·.2))) (tm : TgM g)
    (hg : ∀ (s : Shared) (H : Hp) (C : Addr) (cl : List (Str × Addr)) (fp : List Addr), PG (X.blk s H scope (compEnvC scope cl C X.env) fp) tg g) (hq : ∀ (s : Shared) (H : Hp) (C : Addr) (cl : List (Str × Addr)) (fp : List Addr), EvQ (X.blk s H scope (compEnvC scope cl C X.env) fp) W0 ifs ft)
    (he : ∀ (s : Shared) (H : Hp) (C : Addr) (cl : List (Str × Addr)) (fp : List Addr), EvD (X.blk s H scope (compEnvC scope cl C X.env) fp) W0 elt fe) (hs : ∀ z, foldedSetIterable (.Name x np) X.env z = pure z := by intro _; rfl) :
    EvO X W (.ListComp elt [⟨tg, .Name x np, ifs, 0⟩] scope pos) (lcL i (own.map (·.2)) h ft fe) := ⟨fun pins s σ H Q I ⟨ρ, F, r⟩ => by
  by_cases hm : ∃ b ds, ρ[i]? = some (some (.mu b (.lst ds)))
  · obtain ⟨b, ds, hi⟩ := hm
    exact (pe_lc hc hN (pi_list hv) ok hg hq he hs).run pins s σ H Q I (lcL_read ht tw tm hi r)
  · obtain ⟨p, o, e, q⟩ := r
    have e2 : ((iV (eV i)).bind fun ds => lcM (own.map (·.2)) h ft fe ds) ρ = some o := by
      unfold lcL at e
      split at e
      · rename_i b ds hi
        exact absurd ⟨b, ds, hi⟩ hm
      · exact e
    exact (ev_lc hc hN (evI_val hv2) ok ht tw tm hg hq he hs).run pins s σ H Q I ⟨ρ, F, p, o, e2, q⟩⟩
theorem ev_setLcL (hc : X.calm = true) (hN : X.N.Nodup) (hy : X.N[j]? = some y) (hyl : X.env.scope.names.lookup y = some .local)
    (hsw : swapsWith (.ListComp elt [⟨tg, .Name x np, ifs, 0⟩] scope pos) (some (.Name y py)) spos.line X.env = pure true) (hv : PE X (.Name x np) (tVar i)) (hv2 : EvO X W (.Name x np) (eV i)) (ok : BlkOk X.N X.env.scope scope own) (ht : TgR X.K g h) (tw : TgW g (own.map (·.2))) (tm : TgM g)
    (hg : ∀ (s : Shared) (H : Hp) (C : Addr) (cl : List (Str × Addr)) (fp : List Addr), PG (X.blk s H scope (compEnvC scope cl C X.env) fp) tg g) (hq : ∀ (s : Shared) (H : Hp) (C : Addr) (cl : List (Str × Addr)) (fp : List Addr), EvQ (X.blk s H scope (compEnvC scope cl C X.env) fp) W0 ifs ft)
    (he : ∀ (s : Shared) (H : Hp) (C : Addr) (cl : List (Str × Addr)) (fp : List Addr), EvD (X.blk s H scope (compEnvC scope cl C X.env) fp) W0 elt fe) (hs : ∀ z, foldedSetIterable (.Name x np) X.env z = pure z := by intro _; rfl) :
    EvS X W (.Assign [.Name y py] (.ListComp elt [⟨tg, .Name x np, ifs, 0⟩] scope pos) spos) ((lcL i (own.map (·.2)) h ft fe).bind fun r => (Vs.own r).bind fun o => stM j o) := ⟨fun pins s σ H D I ⟨ρ, F, r⟩ => by
  by_cases hm : ∃ b ds, ρ[i]? = some (some (.mu b (.lst ds)))
  · obtain ⟨b, ds, hi⟩ := hm
    refine (ps_setLc (tt := tG X.K W0 (BR X.K) ft) (te := tG X.K W0 (DR X.K) fe) hc hN hy hyl hsw (pi_list hv) ok hg hq he hs).run pins s σ H D I ?_
    obtain ⟨p, o, e, q⟩ := r
    cases ef : lcL i (own.map (·.2)) h ft fe ρ with
    | none => simp only [M.bind, ef] at e; cases e
    | some o1 =>
      refine lcL_read (W := W) ht tw tm hi ⟨p, o1, ef, ?_⟩
      cases o1 with
      | ex c ρ1 =>
        simp only [M.bind, ef] at e; cases e
        exact fun d F' H' p' => q d _ F' H' p'
      | ok x1 ρ1 =>
        intro v F1 H1 p1 rx
        have e2 : ((Vs.own x1).bind fun o => stM j o) ρ1 = some o := by simpa only [M.bind, ef] using e
        obtain ⟨o, ρ2, F2, r2, p2, o2, e2, q2⟩ := own_run (S := ⟨σ, ρ, F, H⟩) (D := D) (W := W) ⟨p1, o, e2, q⟩ rfl rx
        unfold stM at e2
        cases es : stI j o ρ2 with
        | none => rw [es] at e2; cases e2
        | some ρ3 =>
          rw [es] at e2; cases e2
          exact q2 _ F2 H1 (p2.store es r2)
  · obtain ⟨p, o, e, q⟩ := r
    have eq : lcL i (own.map (·.2)) h ft fe ρ = ((iV (eV i)).bind fun ds => lcM (own.map (·.2)) h ft fe ds) ρ := by
      unfold lcL
      split
      · rename_i b ds hi
        exact absurd ⟨b, ds, hi⟩ hm
      · rfl
    have e2 : (((iV (eV i)).bind fun ds => lcM (own.map (·.2)) h ft fe ds).bind fun r => (Vs.own r).bind fun o => stM j o) ρ = some o := by
      unfold M.bind at e ⊢
      rw [eq] at e
      exact e
    exact (ev_setLc hc hN hy hyl hsw (evI_val hv2) ok ht tw tm hg hq he hs).run pins s σ H D I ⟨ρ, F, p, o, e2, q⟩⟩
end
end Vs

/-! Vs, more words. -/
namespace Vs
open PySem PySem.Spec L2
abbrev hLt : O → O → Option O := hCmp (fun i j => decide (i < j)) fun i j => decide (i.cps.toList < j.cps.toList)
abbrev hLe : O → O → Option O := hCmp (fun i j => decide (i ≤ j)) fun i j => !decide (j.cps.toList < i.cps.toList)
abbrev hGt : O → O → Option O := hCmp (fun i j => decide (j < i)) fun i j => decide (j.cps.toList < i.cps.toList)
abbrev hGe : O → O → Option O := hCmp (fun i j => decide (j ≤ i)) fun i j => !decide (i.cps.toList < j.cps.toList)
def iT : M Bool := M.ret true
def eLcL (i : Nat) (vs : List Nat) (h : PyData → M Fl) (ft : M Bool) (fe : M Rf) : M Rf := lcL i vs h ft (fe.bind frz)
end Vs

/-! Vs, working plain functions out. -/
namespace Vs
open PySem PySem.Spec L2
def thenO {α β : Type} (o : Option (Out α)) (k : α → M β) : Option (Out β) := match o with
  | none => none
  | some (.ok x ρ') => k x ρ'
  | some (.ex c ρ') => some (.ex c ρ')
theorem bind_eq {α β : Type} (f : M α) (k : α → M β) (ρ : Rho) : M.bind f k ρ = thenO (f ρ) k := rfl
theorem thenO_ok {α β : Type} (x : α) (ρ : Rho) (k : α → M β) : thenO (some (.ok x ρ)) k = k x ρ := rfl
theorem ret_eq {α : Type} (x : α) (ρ : Rho) : M.ret x ρ = some (.ok x ρ) := rfl
def seqO (o : Option (Out Fl)) (g : M Fl) : Option (Out Fl) := match o with
  | some (.ok .nx ρ') => g ρ'
  | o => o
theorem seq_eq (f g : M Fl) (ρ : Rho) : sSeq f g ρ = seqO (f ρ) g := rfl
theorem seqO_nx (ρ : Rho) (g : M Fl) : seqO (some (.ok .nx ρ)) g = g ρ := rfl
theorem seqO_rt (ρ : Rho) (r : Rf) (g : M Fl) : seqO (some (.ok (.rt r) ρ)) g = some (.ok (.rt r) ρ) := rfl
theorem seqO_bk (ρ : Rho) (g : M Fl) : seqO (some (.ok .bk ρ)) g = some (.ok .bk ρ) := rfl
theorem app_if {α β : Type} (c : Prop) [Decidable c] (f g : M α) (ρ : Rho) : (if c then f else g) ρ = if c then f ρ else g ρ := by split <;> rfl
theorem dr1_eq (h : O → Option O) (x : Rf) (ρ : Rho) {a o : O} (e : rdO ρ x = some a) (e2 : h a = some o) : dr1 h x ρ = some (.ok (.o o) ρ) := by unfold dr1; rw [e]; simp only [e2]
theorem rdO_o (ρ : Rho) (o : O) : rdO ρ (.o o) = o.ok := rfl
theorem rdO_s (ρ : Rho) (i : Nat) : rdO ρ (.s i) = ((ρ[i]?).join).bind O.ok := rfl
theorem atI_0 {α : Type} {x : α} {xs : List α} : atI (x :: xs) 0 = some x := atI_nat (j := 0) rfl
theorem atI_1 {α : Type} {x y : α} {xs : List α} : atI (x :: y :: xs) 1 = some y := atI_nat (j := 1) rfl
theorem atI_2 {α : Type} {x y z : α} {xs : List α} : atI (x :: y :: z :: xs) 2 = some z := atI_nat (j := 2) rfl
/-- list[i] from the front -/
theorem atI_of {α : Type} {xs : List α} {i : Int} {v : α} (h0 : 0 ≤ i) (h : xs[i.toNat]? = some v) : atI xs i = some v := by
  obtain ⟨n, rfl⟩ := Int.eq_ofNat_of_zero_le h0
  exact atI_nat h
theorem atI_lt {α : Type} {xs : List α} {i : Int} (h0 : 0 ≤ i) (h : i < xs.length) : ∃ v, atI xs i = some v ∧ v ∈ xs := by
  have hl : i.toNat < xs.length := by omega
  exact ⟨xs[i.toNat], atI_of h0 (List.getElem?_eq_getElem hl), List.getElem_mem hl⟩
theorem log2_lt {n b : Nat} (h0 : 0 < b) (h : n < 2 ^ b) : n.log2 < b := PySem.Flt.log2_lt_of h0 h
theorem cMul_of {i j : Int} {a b : Nat} (ha : i.natAbs < 2 ^ a) (hb : j.natAbs < 2 ^ b) (h0 : 0 < a) (h1 : 0 < b) (h : a + b < 1000000) : cMul i j = true := by
  have h2 := log2_lt h0 ha
  have h3 := log2_lt h1 hb
  unfold cMul
  exact decide_eq_true (by omega)

/-! ### each word, applied -/
section
variable {ρ ρ1 ρ2 : Rho} {f g t u : M Rf} {h : O → O → Option O}
theorem eV_ap {i : Nat} {o : O} (e : ρ[i]? = some (some o)) : eV i ρ = some (.ok (.s i) ρ) := by unfold eV; rw [e]
theorem eC_ap {d : PyData} : eC d ρ = some (.ok (.o (.fz d)) ρ) := rfl
def dr2O (ρ : Rho) : Option O → Option (Out Rf)
  | some o => some (.ok (.o o) ρ)
  | none => none
def dr2P (h : O → O → Option O) (ρ : Rho) : Option O → Option O → Option (Out Rf)
  | some a, some b => dr2O ρ (h a b)
  | _, _ => none
theorem dr2_ap {x y : Rf} : dr2 h x y ρ = dr2P h ρ (rdO ρ x) (rdO ρ y) := by
  unfold dr2 dr2P
  cases rdO ρ x <;> cases rdO ρ y <;> rfl
theorem dr2P_ap {a b : O} : dr2P h ρ (some a) (some b) = dr2O ρ (h a b) := rfl
theorem dr2O_ap {o : O} : dr2O ρ (some o) = some (.ok (.o o) ρ) := rfl
def eOpK (h : O → O → Option O) (g : M Rf) (x : Rf) : M Rf := fun ρ => thenO (g ρ) (dr2 h x)
theorem eOp_ap : eOp h f g ρ = thenO (f ρ) (eOpK h g) := rfl
theorem eOpK_ap {x : Rf} : eOpK h g x ρ = thenO (g ρ) (dr2 h x) := rfl
def dr2BO (ρ : Rho) : Option O → Option (Out Bool)
  | some (.fz (.bool c)) => some (.ok c ρ)
  | _ => none
def dr2BP (h : O → O → Option O) (ρ : Rho) : Option O → Option O → Option (Out Bool)
  | some a, some b => dr2BO ρ (h a b)
  | _, _ => none
theorem dr2B_ap {x y : Rf} : dr2B h x y ρ = dr2BP h ρ (rdO ρ x) (rdO ρ y) := by
  unfold dr2B dr2BP
  cases rdO ρ x <;> cases rdO ρ y <;> rfl
theorem dr2BP_ap {a b : O} : dr2BP h ρ (some a) (some b) = dr2BO ρ (h a b) := rfl
theorem dr2BO_ap {c : Bool} : dr2BO ρ (some (.fz (.bool c))) = some (.ok c ρ) := rfl
def eTsK (h : O → O → Option O) (g : M Rf) (x : Rf) : M Bool := fun ρ => thenO (g ρ) (dr2B h x)
theorem eTs_ap : eTs h f g ρ = thenO (f ρ) (eTsK h g) := rfl
theorem eTsK_ap {x : Rf} : eTsK h g x ρ = thenO (g ρ) (dr2B h x) := rfl
def dr1P (h : O → Option O) (ρ : Rho) : Option O → Option (Out Rf)
  | some a => dr2O ρ (h a)
  | none => none
theorem dr1_ap {h : O → Option O} {x : Rf} : dr1 h x ρ = dr1P h ρ (rdO ρ x) := by
  unfold dr1 dr1P
  cases rdO ρ x <;> rfl
theorem dr1P_ap {h : O → Option O} {a : O} : dr1P h ρ (some a) = dr2O ρ (h a) := rfl
theorem eUn_ap {h : O → Option O} : eUn h f ρ = thenO (f ρ) (dr1 h) := rfl
def drNP (h : List O → Option O) (ρ : Rho) : Option (List O) → Option (Out Rf)
  | some a => dr2O ρ (h a)
  | none => none
theorem drN_ap {h : List O → Option O} {xs : List Rf} : drN h xs ρ = drNP h ρ (rdL ρ xs) := by
  unfold drN drNP
  cases rdL ρ xs <;> rfl
theorem drNP_ap {h : List O → Option O} {a : List O} : drNP h ρ (some a) = dr2O ρ (h a) := rfl
theorem eCN_ap {h : List O → Option O} {l : M (List Rf)} : eCN h l ρ = thenO (l ρ) (drN h) := rfl
theorem lN_ap : lN ρ = some (.ok [] ρ) := rfl
def consR (x : Rf) (xs : List Rf) : M (List Rf) := fun ρ => some (.ok (x :: xs) ρ)
def lCK (l : M (List Rf)) (x : Rf) : M (List Rf) := fun ρ => thenO (l ρ) (consR x)
theorem lC_ap {l : M (List Rf)} : lC f l ρ = thenO (f ρ) (lCK l) := rfl
theorem lCK_ap {l : M (List Rf)} {x : Rf} : lCK l x ρ = thenO (l ρ) (consR x) := rfl
theorem consR_ap {x : Rf} {xs : List Rf} : consR x xs ρ = some (.ok (x :: xs) ρ) := rfl
theorem aN_ap : aN ρ = some (.ok [] ρ) := rfl
def consD (x : PyData) (xs : List PyData) : M (List PyData) := fun ρ => some (.ok (x :: xs) ρ)
def aCK (l : M (List PyData)) (x : PyData) : M (List PyData) := fun ρ => thenO (l ρ) (consD x)
theorem aC_ap {l : M (List PyData)} : aC f l ρ = thenO (thenO (f ρ) frz) (aCK l) := rfl
theorem aCK_ap {l : M (List PyData)} {x : PyData} : aCK l x ρ = thenO (l ρ) (consD x) := rfl
theorem consD_ap {x : PyData} {xs : List PyData} : consD x xs ρ = some (.ok (x :: xs) ρ) := rfl
theorem frz_o {d : PyData} : frz (.o (.fz d)) ρ = some (.ok d ρ) := rfl
theorem frz_m {b : Bool} {ds : List PyData} : frz (.o (.mu b (.lst ds))) ρ = some (.ok (.list ds) ρ) := rfl
theorem frz_sf {i : Nat} {d : PyData} (e : ρ[i]? = some (some (.fz d))) : frz (.s i) ρ = some (.ok d ρ) := by unfold frz; simp only [e]
theorem frz_smx {i : Nat} {m : Mu} {d : PyData} (hd : m.fr = some d) (e : ρ[i]? = some (some (.mu false m))) : frz (.s i) ρ = some (.ok d (ρ.set i (some (.fz d)))) := by unfold frz; simp only [e, hd]
theorem frz_sm {i : Nat} {ds : List PyData} (e : ρ[i]? = some (some (.mu false (.lst ds)))) : frz (.s i) ρ = some (.ok (.list ds) (ρ.set i (some (.fz (.list ds))))) := frz_smx rfl e
theorem gN_ap : gN ρ = some (.ok [] ρ) := rfl
def consG (x : Arg) (xs : List Arg) : M (List Arg) := fun ρ => some (.ok (x :: xs) ρ)
def gFK (l : M (List Arg)) (x : PyData) : M (List Arg) := fun ρ => thenO (l ρ) (consG (.fz x))
theorem gF_ap {l : M (List Arg)} : gF f l ρ = thenO (thenO (f ρ) frz) (gFK l) := rfl
theorem gFK_ap {l : M (List Arg)} {x : PyData} : gFK l x ρ = thenO (l ρ) (consG (.fz x)) := rfl
theorem consG_ap {x : Arg} {xs : List Arg} : consG x xs ρ = some (.ok (x :: xs) ρ) := rfl
theorem gB_ap {i : Nat} {l : M (List Arg)} {o : O} (e : ρ[i]? = some (some o)) : gB i l ρ = thenO (l ρ) (consG (.br i)) := by unfold gB; rw [e]; rfl
def callA (g : M O) (xs : List Arg) (ρ : Rho) : Option Rho → Option (Out Rf)
  | some ρa => if brOk xs = true then callOut ρ xs (g ρa) else none
  | none => none
theorem eCall_ap {g : M O} {n : Nat} {l : M (List Arg)} : eCall g n l ρ = thenO (l ρ) (callN g n) := rfl
theorem callN_ap {g : M O} {n : Nat} {xs : List Arg} (e : xs.length = n) : callN g n xs ρ = callA g xs ρ (argE ρ xs) := by
  unfold callN callG callA
  exact (if_pos e).trans (by cases argE ρ xs <;> rfl)
def callBO (b : Bool) (r : Option (Out Rf)) : Option (Out Rf) := if b = true then r else none
theorem callA_ap {g : M O} {xs : List Arg} {ρa : Rho} : callA g xs ρ (some ρa) = callBO (brOk xs) (callOut ρ xs (g ρa)) := rfl
theorem callBO_t {r : Option (Out Rf)} : callBO true r = r := rfl
theorem brOk_n : brOk [] = true := rfl
theorem brOk_f {d : PyData} {xs : List Arg} : brOk (.fz d :: xs) = brOk xs := rfl
theorem brOk_b {i : Nat} {xs : List Arg} : brOk (.br i :: xs) = ((brAt i xs).isNone && brOk xs) := rfl
theorem brAt_n {i : Nat} : brAt i [] = none := rfl
theorem brAt_f {i : Nat} {d : PyData} {xs : List Arg} : brAt i (.fz d :: xs) = (brAt i xs).map (· + 1) := rfl
theorem brAt_b {i j : Nat} {xs : List Arg} : brAt i (.br j :: xs) = if j = i then some 0 else (brAt i xs).map (· + 1) := rfl
theorem callOut_ap {xs : List Arg} {o : O} {ρa : Rho} : callOut ρ xs (some (.ok o ρa)) = some (.ok (.o o) (back ρ xs ρa)) := rfl
theorem argE_b {xs : List Arg} {i : Nat} {b : Bool} {m : Mu} (e : ρ[i]? = some (some (.mu b m))) : argE ρ (.br i :: xs) = (argE ρ xs).map (some (.mu true m) :: ·) := by
  show (match ρ[i]? with | some (some (.mu _ m)) => (argE ρ xs).map (some (O.mu true m) :: ·) | _ => none) = _
  rw [e]
theorem argE_bf {xs : List Arg} {i : Nat} {m : Mu} (e : ρ[i]? = some (some (.mu false m))) : argE ρ (.br i :: xs) = (argE ρ xs).map (some (.mu true m) :: ·) := argE_b e
theorem argE_bt {xs : List Arg} {i : Nat} {m : Mu} (e : ρ[i]? = some (some (.mu true m))) : argE ρ (.br i :: xs) = (argE ρ xs).map (some (.mu true m) :: ·) := argE_b e
theorem argE_fz {xs : List Arg} {d : PyData} : argE ρ (.fz d :: xs) = (argE ρ xs).map (some (.fz d) :: ·) := rfl
theorem argE_nil : argE ρ [] = some [] := rfl
def tupK (ds : List PyData) : M Rf := chk (decide (ds.length ≤ 16777216)) (.o (.fz (.tuple ds)))
def lstK (ds : List PyData) : M Rf := chk (decide (ds.length ≤ 16777216)) (.o (.mu false (.lst ds)))
theorem eTup_ap {l : M (List PyData)} : eTup l ρ = thenO (l ρ) tupK := rfl
theorem eLst_ap {l : M (List PyData)} : eLst l ρ = thenO (l ρ) lstK := rfl
theorem tupK_ap {ds : List PyData} (e : ds.length ≤ 16777216) : tupK ds ρ = some (.ok (.o (.fz (.tuple ds))) ρ) := by unfold tupK chk; rw [if_pos (decide_eq_true e)]
theorem lstK_ap {ds : List PyData} (e : ds.length ≤ 16777216) : lstK ds ρ = some (.ok (.o (.mu false (.lst ds))) ρ) := by unfold lstK chk; rw [if_pos (decide_eq_true e)]
theorem eDct_ap : eDct ρ = some (.ok (.o (.mu false (.dct []))) ρ) := rfl
def slK2 (x : Rf) (l : Option Int) (u : Option Int) : M Rf := dr1 (fun a => hSl a l u) x
def slK1 (h : M (Option Int)) (x : Rf) (l : Option Int) : M Rf := fun ρ => thenO (h ρ) (slK2 x l)
def slK (g h : M (Option Int)) (x : Rf) : M Rf := fun ρ => thenO (g ρ) (slK1 h x)
theorem eSl_ap {g h : M (Option Int)} : eSl f g h ρ = thenO (f ρ) (slK g h) := rfl
theorem slK_ap {g h : M (Option Int)} {x : Rf} : slK g h x ρ = thenO (g ρ) (slK1 h x) := rfl
theorem slK1_ap {h : M (Option Int)} {x : Rf} {l : Option Int} : slK1 h x l ρ = thenO (h ρ) (slK2 x l) := rfl
theorem slK2_ap {x : Rf} {l u : Option Int} : slK2 x l u ρ = dr1P (fun a => hSl a l u) ρ (rdO ρ x) := dr1_ap
theorem pN_ap : pN ρ = some (.ok none ρ) := rfl
theorem pI_ap : pI f ρ = thenO (f ρ) asInt := rfl
theorem asInt_ap {x : Rf} {a : O} {i : Int} (e : rdO ρ x = some a) (e2 : a.view = .int i) : asInt x ρ = some (.ok (some i) ρ) := by unfold asInt; rw [e]; simp only [e2]
theorem tTr_ap : tTr f ρ = thenO (f ρ) tru := rfl
theorem tru_ap {x : Rf} {a : O} {b : Bool} (e : rdO ρ x = some a) (e2 : truD a.view = some b) : tru x ρ = some (.ok b ρ) := by unfold tru; rw [e]; simp only [e2]
def andK (u : M Bool) (k : Bool) : M Bool := if k then u else M.ret false
def orK (u : M Bool) (k : Bool) : M Bool := if k then M.ret true else u
theorem tAn_ap {t u : M Bool} : tAn t u ρ = thenO (t ρ) (andK u) := rfl
theorem tO_ap {t u : M Bool} : tO t u ρ = thenO (t ρ) (orK u) := rfl
theorem andK_t {u : M Bool} : andK u true ρ = u ρ := rfl
theorem andK_f {u : M Bool} : andK u false ρ = some (.ok false ρ) := rfl
theorem orK_t {u : M Bool} : orK u true ρ = some (.ok true ρ) := rfl
theorem orK_f {u : M Bool} : orK u false ρ = u ρ := rfl
theorem iT_ap : iT ρ = some (.ok true ρ) := rfl
theorem iV_ap : iV f ρ = thenO (thenO (f ρ) frz) iterD := rfl
theorem iterD_l {ds : List PyData} : iterD (.list ds) ρ = some (.ok ds ρ) := rfl
theorem iterD_t {ds : List PyData} : iterD (.tuple ds) ρ = some (.ok ds ρ) := rfl
theorem iR1_ap {l : M (List PyData)} : iR1 l ρ = thenO (l ρ) rng1 := rfl
theorem rng1_ap {j : Int} (e : -(2 ^ 62) ≤ j ∧ j < 2 ^ 62) : rng1 [.int j] ρ = some (.ok (rangeD 0 j.toNat) ρ) := by
  show (if -(2 ^ 62) ≤ j ∧ j < 2 ^ 62 then some (Out.ok (rangeD 0 j.toNat) ρ) else none) = _
  rw [if_pos e]
def rtK (r : Rf) : M Fl := fun ρ => some (.ok (.rt r) ρ)
theorem sRet_ap : sRet f ρ = thenO (f ρ) rtK := rfl
theorem rtK_ap {r : Rf} : rtK r ρ = some (.ok (.rt r) ρ) := rfl
theorem sN_ap : sN ρ = some (.ok .nx ρ) := rfl
theorem sBk_ap : sBk ρ = some (.ok .bk ρ) := rfl
def ifK (f g : M Fl) (k : Bool) : M Fl := if k then f else g
theorem sIf_ap {t : M Bool} {f g : M Fl} : sIf t f g ρ = thenO (t ρ) (ifK f g) := rfl
theorem ifK_t {f g : M Fl} : ifK f g true ρ = f ρ := rfl
theorem ifK_f {f g : M Fl} : ifK f g false ρ = g ρ := rfl
def setK (i : Nat) (r : Rf) : M Fl := fun ρ => thenO (Vs.own r ρ) (stM i)
theorem sSet_ap {i : Nat} : sSet i f ρ = thenO (f ρ) (setK i) := rfl
theorem setK_o {i : Nat} {o : O} : setK i (.o o) ρ = stM i o ρ := rfl
theorem setK_s {i j : Nat} {d : PyData} (e : frz (.s j) ρ = some (.ok d ρ1)) : setK i (.s j) ρ = stM i (.fz d) ρ1 := by
  show thenO (thenO (frz (.s j) ρ) fun d => M.ret (.fz d)) (stM i) = _
  rw [e]; rfl
theorem stM_ap {i : Nat} {o : O} {y : Option O} (e : ρ[i]? = some y) (h : ∀ m, y ≠ some (.mu true m)) : stM i o ρ = some (.ok .nx (ρ.set i (some o))) := by
  unfold stM stI
  rw [e]
  cases y with
  | none => rfl
  | some y =>
    cases y with
    | fz d => rfl
    | mu b m =>
      cases b with
      | false => rfl
      | true => exact absurd rfl (h m)
theorem stM_n {i : Nat} {o : O} (e : ρ[i]? = some none) : stM i o ρ = some (.ok .nx (ρ.set i (some o))) := stM_ap e fun _ h => nomatch h
theorem stM_f {i : Nat} {o : O} {d : PyData} (e : ρ[i]? = some (some (.fz d))) : stM i o ρ = some (.ok .nx (ρ.set i (some o))) := stM_ap e fun _ h => nomatch h
theorem stM_m {i : Nat} {o : O} {m : Mu} (e : ρ[i]? = some (some (.mu false m))) : stM i o ρ = some (.ok .nx (ρ.set i (some o))) := stM_ap e fun _ h => nomatch h
theorem stM_o {i : Nat} {o : O} {y : Option PyData} (e : ρ[i]? = some (y.map O.fz)) : stM i o ρ = some (.ok .nx (ρ.set i (some o))) := stM_ap e fun _ h => by cases y <;> cases h
theorem sAsg_ap {h : PyData → M Fl} : sAsg f h ρ = thenO (thenO (f ρ) frz) h := rfl
def appK (i : Nat) (d : PyData) : M Fl := upS i (muApp d)
theorem sApp_ap {i : Nat} {b : Bool} {ds : List PyData} (e : ρ[i]? = some (some (.mu b (.lst ds)))) : sApp i f ρ = thenO (thenO (f ρ) frz) (appK i) := by unfold sApp; rw [e]; rfl
theorem sApp_apf {i : Nat} {ds : List PyData} (e : ρ[i]? = some (some (.mu false (.lst ds)))) : sApp i f ρ = thenO (thenO (f ρ) frz) (appK i) := sApp_ap e
theorem sApp_apt {i : Nat} {ds : List PyData} (e : ρ[i]? = some (some (.mu true (.lst ds)))) : sApp i f ρ = thenO (thenO (f ρ) frz) (appK i) := sApp_ap e
theorem appK_ap {i : Nat} {d : PyData} {b : Bool} {ds : List PyData} (e : ρ[i]? = some (some (.mu b (.lst ds)))) (h : ds.length < 16777216) : appK i d ρ = some (.ok .nx (ρ.set i (some (.mu b (.lst (ds ++ [d])))))) := by
  unfold appK upS
  rw [e]
  simp only [muApp, if_pos h]
theorem appK_apf {i : Nat} {d : PyData} {ds : List PyData} (e : ρ[i]? = some (some (.mu false (.lst ds)))) (h : ds.length < 16777216) : appK i d ρ = some (.ok .nx (ρ.set i (some (.mu false (.lst (ds ++ [d])))))) := appK_ap e h
theorem appK_apt {i : Nat} {d : PyData} {ds : List PyData} (e : ρ[i]? = some (some (.mu true (.lst ds)))) (h : ds.length < 16777216) : appK i d ρ = some (.ok .nx (ρ.set i (some (.mu true (.lst (ds ++ [d])))))) := appK_ap e h
def stKK (i : Nat) (d k : PyData) : M Fl := upS i (muSet k d)
def stK (i : Nat) (g : M Rf) (d : PyData) : M Fl := fun ρ => match ρ[i]? with | some (some _) => thenO (thenO (g ρ) frz) (stKK i d) | _ => none
theorem sSt_ap {i : Nat} : sSt i f g ρ = thenO (thenO (f ρ) frz) (stK i g) := rfl
theorem stK_ap {i : Nat} {d : PyData} {o : O} (e : ρ[i]? = some (some o)) : stK i g d ρ = thenO (thenO (g ρ) frz) (stKK i d) := by unfold stK; rw [e]
theorem stKK_ap {i : Nat} {d k : PyData} {b : Bool} {m m' : Mu} (e : ρ[i]? = some (some (.mu b m))) (h : muSet k d m = some m') : stKK i d k ρ = some (.ok .nx (ρ.set i (some (.mu b m')))) := by
  unfold stKK upS
  rw [e]
  simp only [h]
theorem stKK_apf {i : Nat} {d k : PyData} {m m' : Mu} (e : ρ[i]? = some (some (.mu false m))) (h : muSet k d m = some m') : stKK i d k ρ = some (.ok .nx (ρ.set i (some (.mu false m')))) := stKK_ap e h
theorem stKK_apt {i : Nat} {d k : PyData} {m m' : Mu} (e : ρ[i]? = some (some (.mu true m))) (h : muSet k d m = some m') : stKK i d k ρ = some (.ok .nx (ρ.set i (some (.mu true m')))) := stKK_ap e h
theorem sFor_ap {fi : M (List PyData)} {h : PyData → M Fl} {fb : M Fl} : sFor fi h fb ρ = thenO (fi ρ) (forF h fb) := rfl
theorem eLc_ap {vs : List Nat} {fi : M (List PyData)} {h : PyData → M Fl} {ft : M Bool} : eLc vs fi h ft f ρ = thenO (fi ρ) (lcM vs h ft (f.bind frz)) := rfl
def mtK2 (T : String) (h : O → List O → Option O) (x : Rf) (ys : List Rf) : M Rf := drM T h x ys
def mtK1 (T : String) (h : O → List O → Option O) (g : M (List Rf)) (x : Rf) : M Rf := fun ρ => thenO (g ρ) (drM T h x)
def mtK (T : String) (h : O → List O → Option O) (g : M (List Rf)) (x : Rf) : M Rf := fun ρ => thenO (ckM T x ρ) (mtK1 T h g)
theorem eMt_ap {T : String} {h : O → List O → Option O} {g : M (List Rf)} : eMt T h f g ρ = thenO (f ρ) (mtK T h g) := rfl
theorem mtK_ap {T : String} {h : O → List O → Option O} {g : M (List Rf)} {x : Rf} : mtK T h g x ρ = thenO (ckM T x ρ) (mtK1 T h g) := rfl
theorem mtK1_ap {T : String} {h : O → List O → Option O} {g : M (List Rf)} {x : Rf} : mtK1 T h g x ρ = thenO (g ρ) (drM T h x) := rfl
theorem ckM_ap {T : String} {x : Rf} {a : O} (e : rdO ρ x = some a) (e2 : tyM T a.view = true) : ckM T x ρ = some (.ok x ρ) := by unfold ckM; rw [e]; simp only [e2, if_true]
theorem drM_ap {T : String} {h : O → List O → Option O} {x : Rf} {ys : List Rf} {a o : O} {os : List O} (e : rdO ρ x = some a) (e1 : rdL ρ ys = some os) (e2 : tyM T a.view = true) (e3 : h a os = some o) : drM T h x ys ρ = some (.ok (.o o) ρ) := by
  unfold drM; rw [e, e1]; simp only [e2, if_true, e3]
theorem hIndex_ap {b : Bool} {ds : List PyData} {w : Str} {i : Nat} (h : ds.all flatD = true) (e : idxD (.str w) ds = some i) : hIndex (.mu b (.lst ds)) [.fz (.str w)] = some (.fz (.int i)) := by
  show (if flatD (.str w) = true ∧ ds.all flatD = true then (idxD (.str w) ds).map fun i => O.fz (.int (i : Nat)) else none) = _
  rw [if_pos ⟨rfl, h⟩, e]; rfl
theorem tru_b {b : Bool} : tru (.o (.fz (.bool b))) ρ = some (.ok b ρ) := rfl
theorem asInt_o {i : Int} : asInt (.o (.fz (.int i))) ρ = some (.ok (some i) ρ) := rfl
theorem asInt_s {j : Nat} {i : Int} (e : ρ[j]? = some (some (.fz (.int i)))) : asInt (.s j) ρ = some (.ok (some i) ρ) := asInt_ap (show rdO ρ (.s j) = some (.fz (.int i)) by show ((ρ[j]?).join).bind O.ok = _; rw [e]; rfl) rfl
theorem cutL_1 {α : Type} {x : α} {xs : List α} : cutL (x :: xs) (some 1) none = xs := by
  unfold cutL
  rw [show HT.sIx (x :: xs).length 0 (some 1) = min 1 (x :: xs).length from HT.sIx_nat _ 0 1, HT.sIx_none]
  simp
theorem cutL_from {α : Type} {xs : List α} {i : Nat} (h : i ≤ xs.length) : cutL xs (some (i : Int)) none = xs.drop i := by
  unfold cutL
  rw [HT.sIx_nat, HT.sIx_none, Nat.min_eq_left h, List.take_of_length_le (by simp)]
theorem cutL_to {α : Type} {xs : List α} {i : Nat} : cutL xs none (some (i : Int)) = xs.take i := by
  unfold cutL
  rw [HT.sIx_nat, HT.sIx_none]
  simp
theorem tgName_ap {i : Nat} {d : PyData} : tgName i d ρ = stM i (.fz d) ρ := rfl
theorem tgTup_ap {n : Nat} {hs : List PyData → M Fl} {ds : List PyData} (e : ds.length = n) : tgTup n hs (.tuple ds) ρ = hs ds ρ := by
  show (if ds.length = n then hs ds ρ else none) = _
  rw [if_pos e]
theorem tgCons_ap {h : PyData → M Fl} {hs : List PyData → M Fl} {d : PyData} {ds : List PyData} : tgCons h hs (d :: ds) ρ = tgThen hs ds (h d ρ) := rfl
theorem tgThen_ap {hs : List PyData → M Fl} {ds : List PyData} : tgThen hs ds (some (.ok .nx ρ)) = hs ds ρ := rfl
theorem tgNil_ap : tgNil [] ρ = some (.ok .nx ρ) := rfl
theorem defG_ap {n N : Nat} {fB : M Fl} (e : ρ.length = n) (e2 : ρ.all okArg = true) : defG n N fB ρ = defOut ρ (fB (ρ ++ List.replicate (N - n) none)) := by unfold defG; rw [if_pos ⟨e, e2⟩]
end
end Vs

/-! Vs, loops and comprehensions worked out; small data. -/
namespace Vs
open PySem PySem.Spec L2
theorem forF_ok {h : PyData → M Fl} {fb : M Fl} (J : List PyData → Rho → Prop)
    (step : ∀ d ds ρ, J (d :: ds) ρ → ∃ ρ1, h d ρ = some (.ok .nx ρ1) ∧ ((∃ ρ2, fb ρ1 = some (.ok .nx ρ2) ∧ J ds ρ2) ∨ ∃ ρ2, fb ρ1 = some (.ok .bk ρ2) ∧ J [] ρ2)) :
    ∀ (ds : List PyData) (ρ : Rho), J ds ρ → ∃ ρ', forF h fb ds ρ = some (.ok .nx ρ') ∧ J [] ρ'
  | [], ρ, j => ⟨ρ, rfl, j⟩
  | d :: ds, ρ, j => by
    obtain ⟨ρ1, e1, h2⟩ := step d ds ρ j
    rcases h2 with ⟨ρ2, e2, j2⟩ | ⟨ρ2, e2, j2⟩
    · obtain ⟨ρ', e3, j3⟩ := forF_ok J step ds ρ2 j2
      refine ⟨ρ', ?_, j3⟩
      show forH fb (forF h fb ds) (h d ρ) = _
      rw [e1]
      show forK (forF h fb ds) (fb ρ1) = _
      rw [e2]
      exact e3
    · refine ⟨ρ2, ?_, j2⟩
      show forH fb (forF h fb ds) (h d ρ) = _
      rw [e1]
      show forK (forF h fb ds) (fb ρ1) = _
      rw [e2]
      rfl
theorem lcF_ok {vs : List Nat} {h : PyData → M Fl} {ft : M Bool} {fe : M PyData} (J : List PyData → List PyData → Rho → Prop)
    (step : ∀ d ds acc ρ, J (d :: ds) acc ρ → ∃ ρ1 k ρ2, h d ρ = some (.ok .nx ρ1) ∧ ft ρ1 = some (.ok k ρ2) ∧ (k = true → ∃ y ρ3, fe ρ2 = some (.ok y ρ3) ∧ acc.length < 16777216 ∧ freeV ρ3 vs = true ∧ J ds (acc ++ [y]) (wipeR ρ3 vs)) ∧ (k = false → freeV ρ2 vs = true ∧ J ds acc (wipeR ρ2 vs))) :
    ∀ (ds acc : List PyData) (ρ : Rho), J ds acc ρ → ∃ ys ρ', lcF vs h ft fe ds acc ρ = some (.ok ys ρ') ∧ J [] ys ρ'
  | [], acc, ρ, j => ⟨acc, ρ, rfl, j⟩
  | d :: ds, acc, ρ, j => by
    obtain ⟨ρ1, k, ρ2, e1, e2, ht, hf⟩ := step d ds acc ρ j
    cases k with
    | true =>
      obtain ⟨y, ρ3, e3, hl, hv, j3⟩ := ht rfl
      obtain ⟨ys, ρ', e4, j4⟩ := lcF_ok J step ds _ _ j3
      refine ⟨ys, ρ', ?_, j4⟩
      show lcH vs ft fe acc (lcF vs h ft fe ds) (h d ρ) = _
      rw [e1]
      show lcT vs fe acc (lcF vs h ft fe ds) (ft ρ1) = _
      rw [e2]
      show lcE vs acc (lcF vs h ft fe ds) (fe ρ2) = _
      rw [e3]
      show (if acc.length < 16777216 ∧ freeV ρ3 vs = true then lcF vs h ft fe ds (acc ++ [y]) (wipeR ρ3 vs) else none) = _
      rw [if_pos ⟨hl, hv⟩]
      exact e4
    | false =>
      obtain ⟨hv, j3⟩ := hf rfl
      obtain ⟨ys, ρ', e4, j4⟩ := lcF_ok J step ds _ _ j3
      refine ⟨ys, ρ', ?_, j4⟩
      show lcH vs ft fe acc (lcF vs h ft fe ds) (h d ρ) = _
      rw [e1]
      show lcT vs fe acc (lcF vs h ft fe ds) (ft ρ1) = _
      rw [e2]
      show (if freeV ρ2 vs = true then lcF vs h ft fe ds acc (wipeR ρ2 vs) else none) = _
      rw [if_pos hv]
      exact e4
theorem lcM_ap {vs : List Nat} {h : PyData → M Fl} {ft : M Bool} {fe : M PyData} {ds ys : List PyData} {ρ ρ' : Rho} (hv : freeV ρ vs = true) (e : lcF vs h ft fe ds [] (wipeR ρ vs) = some (.ok ys ρ')) :
    lcM vs h ft fe ds ρ = some (.ok (.o (.mu false (.lst ys))) (backR ρ ρ' vs)) := by
  unfold lcM
  rw [if_pos hv, e]
/-- a comprehension that changes nothing -/
theorem lcF_pure {vs : List Nat} {h : PyData → M Fl} {ft : M Bool} {fe : M PyData} {ρ : Rho} (p : PyData → Bool) (F : PyData → PyData) :
    ∀ (ds acc : List PyData) (_ : ∀ d ∈ ds, ∃ ρ1, h d ρ = some (.ok .nx ρ1) ∧ ft ρ1 = some (.ok (p d) ρ1) ∧ (p d = true → fe ρ1 = some (.ok (F d) ρ1)) ∧ freeV ρ1 vs = true ∧ wipeR ρ1 vs = ρ) (_ : acc.length + ds.length < 16777216),
      lcF vs h ft fe ds acc ρ = some (.ok (acc ++ (ds.filter p).map F) ρ)
  | [], acc, _, _ => by simp [lcF]
  | d :: ds, acc, st, hl => by
    obtain ⟨ρ1, e1, e2, e3, hv, hw⟩ := st d (List.mem_cons_self ..)
    have hl' : acc.length + (ds.length + 1) < 16777216 := hl
    show lcH vs ft fe acc (lcF vs h ft fe ds) (h d ρ) = _
    rw [e1]
    show lcT vs fe acc (lcF vs h ft fe ds) (ft ρ1) = _
    rw [e2]
    cases hp : p d with
    | true =>
      show lcE vs acc (lcF vs h ft fe ds) (fe ρ1) = _
      rw [e3 hp]
      show (if acc.length < 16777216 ∧ freeV ρ1 vs = true then lcF vs h ft fe ds (acc ++ [F d]) (wipeR ρ1 vs) else none) = _
      rw [if_pos ⟨by omega, hv⟩, hw, lcF_pure p F ds _ (fun x hx => st x (List.mem_cons_of_mem _ hx)) (by simp; omega)]
      simp [List.filter_cons, hp]
    | false =>
      show (if freeV ρ1 vs = true then lcF vs h ft fe ds acc (wipeR ρ1 vs) else none) = _
      rw [if_pos hv, hw, lcF_pure p F ds _ (fun x hx => st x (List.mem_cons_of_mem _ hx)) (by omega)]
      simp [List.filter_cons, hp]
/-- the live comprehension, changing nothing -/
theorem lcLive_pure {i : Nat} {vs : List Nat} {h : PyData → M Fl} {ft : M Bool} {fe : M PyData} {ρ : Rho} {ds : List PyData} (hi : ρ[i]? = some (some (.mu true (.lst ds)))) (F : PyData → PyData)
    (st : ∀ d ∈ ds, ∃ ρ1, h d ρ = some (.ok .nx ρ1) ∧ ft ρ1 = some (.ok true ρ1) ∧ fe ρ1 = some (.ok (F d) ρ1) ∧ freeV ρ1 vs = true ∧ wipeR ρ1 vs = ρ) (hl : ds.length < 16777216) :
    ∀ (n k : Nat) (_ : k + n = ds.length + 1) (_ : k ≤ ds.length), lcLive i vs h ft fe n k ((ds.take k).map F) ρ = some (.ok (ds.map F) ρ)
  | 0, k, e, hk => by omega
  | n + 1, k, e, hk => by
    unfold lcLive
    simp only [hi]
    by_cases hk2 : k < ds.length
    · rw [List.getElem?_eq_getElem hk2]
      obtain ⟨ρ1, e1, e2, e3, hv, hw⟩ := st ds[k] (List.getElem_mem hk2)
      show lcH vs ft fe _ (lcLive i vs h ft fe n (k + 1)) (h ds[k] ρ) = _
      rw [e1]
      show lcT vs fe _ (lcLive i vs h ft fe n (k + 1)) (ft ρ1) = _
      rw [e2]
      show lcE vs _ (lcLive i vs h ft fe n (k + 1)) (fe ρ1) = _
      rw [e3]
      show (if ((ds.take k).map F).length < 16777216 ∧ freeV ρ1 vs = true then lcLive i vs h ft fe n (k + 1) ((ds.take k).map F ++ [F ds[k]]) (wipeR ρ1 vs) else none) = _
      rw [if_pos ⟨by simp; omega, hv⟩, hw]
      have : (ds.take k).map F ++ [F ds[k]] = (ds.take (k + 1)).map F := by rw [List.take_succ_eq_append_getElem hk2, List.map_append]; rfl
      rw [this]
      exact lcLive_pure hi F st hl n (k + 1) (by omega) (by omega)
    · have : k = ds.length := by omega
      subst this
      simp
theorem lcL_ap {i : Nat} {vs : List Nat} {h : PyData → M Fl} {ft : M Bool} {fe : M PyData} {ρ ρL : Rho} {b : Bool} {ds : List PyData} (hi : ρ[i]? = some (some (.mu b (.lst ds)))) (F : PyData → PyData) (hL : ρ.set i (some (.mu true (.lst ds))) = ρL)
    (hv : freeV ρ vs = true) (hw : wipeR ρL vs = ρL) (hb : backR ρL ρL vs = ρL) (hu : unl i b ρL = some ρ)
    (st : ∀ d ∈ ds, ∃ ρ1, h d ρL = some (.ok .nx ρ1) ∧ ft ρ1 = some (.ok true ρ1) ∧ fe ρ1 = some (.ok (F d) ρ1) ∧ freeV ρ1 vs = true ∧ wipeR ρ1 vs = ρL) (hl : ds.length < 16777216) :
    lcL i vs h ft fe ρ = some (.ok (.o (.mu false (.lst (ds.map F)))) ρ) := by
  have hlt := (List.getElem?_eq_some_iff.mp hi).1
  unfold lcL
  simp only [hi, hv, if_true, hL, hw]
  have hiL : ρL[i]? = some (some (.mu true (.lst ds))) := by rw [← hL, List.getElem?_set_self hlt]
  have := lcLive_pure (vs := vs) (h := h) (ft := ft) (fe := fe) hiL F st hl (ds.length + 1) 0 (by omega) (Nat.zero_le _)
  rw [List.take_zero, List.map_nil] at this
  rw [this]
  simp only [lcEnd, hb, hu, Option.map_some]
/-! ### small data -/
structure Sm (d : PyData) (W D : Nat) : Prop where
  sh : d.showable = true
  lv : d.leavesShort 13 = true
  nl : noL d = true
  dp : d.depth ≤ D
  wt : d.weight ≤ W
theorem Sm.mono {d : PyData} {W D W' D' : Nat} (h : Sm d W D) (a : W ≤ W') (b : D ≤ D') : Sm d W' D' := ⟨h.sh, h.lv, h.nl, Nat.le_trans h.dp b, Nat.le_trans h.wt a⟩
theorem sm_int : ∀ {i : Int}, 0 ≤ i → i < 100 → Sm (.int i) 7 0 := by
  have key : ∀ n : _root_.Fin 100, PyData.showable (.int (n.val : Int)) = true ∧ PyData.leavesShort 13 (.int (n.val : Int)) = true ∧ PyData.weight (.int (n.val : Int)) ≤ 7 := by decide +kernel
  intro i h0 h1
  obtain ⟨n, rfl⟩ := Int.eq_ofNat_of_zero_le h0
  obtain ⟨a, b, c⟩ := key ⟨n, by omega⟩
  exact ⟨a, b, rfl, Nat.le_refl _, c⟩
theorem sm_str {x : Str} {n : Nat} (h : ∀ c ∈ x.cps.toList, c < 16 ^ 8) (hl : x.cps.size ≤ n) : Sm (.str x) n 0 :=
  ⟨rfl, by show (x.cps.toList.all fun c => decide (c < 16 ^ 8)) = true; exact List.all_eq_true.mpr fun c hc => decide_eq_true (h c hc), rfl, Nat.le_refl _, hl⟩
theorem sm_all {W D : Nat} : ∀ {ds : List PyData}, (∀ d ∈ ds, Sm d W D) → PyData.showableAll ds = true ∧ PyData.leavesShortAll 13 ds = true ∧ noLs ds = true ∧ PyData.depthAll ds ≤ D ∧ PyData.weightAll ds ≤ ds.length * (W + 1)
  | [], _ => ⟨rfl, rfl, rfl, Nat.zero_le _, Nat.zero_le _⟩
  | d :: ds, h => by
    obtain ⟨a, b, c, e, f⟩ := sm_all (ds := ds) fun x hx => h x (List.mem_cons_of_mem _ hx)
    have k := h d (List.mem_cons_self ..)
    refine ⟨?_, ?_, ?_, ?_, ?_⟩
    · show (PyData.showable d && PyData.showableAll ds) = true
      rw [k.sh, a]; rfl
    · show (PyData.leavesShort 13 d && PyData.leavesShortAll 13 ds) = true
      rw [k.lv, b]; rfl
    · show (noL d && noLs ds) = true
      rw [k.nl, c]; rfl
    · show max (PyData.depth d) (PyData.depthAll ds) ≤ D
      exact Nat.max_le.mpr ⟨k.dp, e⟩
    · show PyData.weight d + 1 + PyData.weightAll ds ≤ (ds.length + 1) * (W + 1)
      have := k.wt
      rw [Nat.add_mul]; omega
theorem sm_tup {ds : List PyData} {W D n : Nat} (h : ∀ d ∈ ds, Sm d W D) (hl : ds.length ≤ n) : Sm (.tuple ds) (n * (W + 1)) (D + 1) := by
  obtain ⟨a, b, c, e, f⟩ := sm_all h
  exact ⟨a, b, c, Nat.succ_le_succ e, Nat.le_trans f (Nat.mul_le_mul_right _ hl)⟩
theorem sm_dct {es : List (PyData × PyData)} {W D n : Nat} (h : ∀ p ∈ es, Sm p.1 W D ∧ Sm p.2 W D) (hl : es.length ≤ n) : Sm (.dict es) (n * (2 * W + 2)) (D + 1) := by
  have key : ∀ (es : List (PyData × PyData)), (∀ p ∈ es, Sm p.1 W D ∧ Sm p.2 W D) → PyData.showableKv es = true ∧ PyData.leavesShortKv 13 es = true ∧ noLk es = true ∧ PyData.depthKv es ≤ D ∧ PyData.weightKv es ≤ es.length * (2 * W + 2) := by
    intro es
    induction es with
    | nil => exact fun _ => ⟨rfl, rfl, rfl, Nat.zero_le _, Nat.zero_le _⟩
    | cons p es ih =>
      intro h
      obtain ⟨a, b, c, e, f⟩ := ih fun x hx => h x (List.mem_cons_of_mem _ hx)
      obtain ⟨k1, k2⟩ := h p (List.mem_cons_self ..)
      obtain ⟨x, y⟩ := p
      refine ⟨?_, ?_, ?_, ?_, ?_⟩
      · show (PyData.showable x && PyData.showable y && PyData.showableKv es) = true
        rw [k1.sh, k2.sh, a]; rfl
      · show (PyData.leavesShort 13 x && PyData.leavesShort 13 y && PyData.leavesShortKv 13 es) = true
        rw [k1.lv, k2.lv, b]; rfl
      · show (noL y && noLk es) = true
        rw [k2.nl, c]; rfl
      · show max (max (PyData.depth x) (PyData.depth y)) (PyData.depthKv es) ≤ D
        exact Nat.max_le.mpr ⟨Nat.max_le.mpr ⟨k1.dp, k2.dp⟩, e⟩
      · show PyData.weight x + PyData.weight y + 2 + PyData.weightKv es ≤ (es.length + 1) * (2 * W + 2)
        have h1 := k1.wt
        have h2 := k2.wt
        rw [Nat.add_mul]
        simp only at h1 h2
        omega
  obtain ⟨a, b, c, e, f⟩ := key es h
  exact ⟨a, b, c, Nat.succ_le_succ e, Nat.le_trans f (Nat.mul_le_mul_right _ hl)⟩
theorem hRepr_ap {d : O} {W D : Nat} (h : Sm d.view W D) (hD : D ≤ 150) (hW : W ≤ 1000000) : hRepr [d] = some (.fz (.str (PyData.shown d.view))) := by
  have hs := PyData.shown_le 13 (by decide) d.view h.lv
  have hw := h.wt
  have hd := h.dp
  unfold hRepr
  simp only [h.sh, h.nl, Bool.or_true, Bool.and_true, true_and]
  rw [if_pos ⟨by omega, by
    refine Nat.le_trans hs ?_
    omega⟩]
end Vs

/-! Vs, the order of tuples, zip. -/
namespace Vs
open PySem PySem.Spec L2 RZ
/-! ### < and > of data that are alike -/
def ordC (d e : PyData) : Bool := PySem.W.alike d e && (match d with | .none => false | _ => true) && decide (d.depth ≤ 150)
def hOrd (g : Bool) (a b : O) : Option O := if ordC a.view b.view = true then some (.fz (.bool (if g = true then PySem.W.dataLt b.view a.view else PySem.W.dataLt a.view b.view))) else none
def rOrd (K : PySem.W.Frag) (g : Bool) : R2 := fun x y H Q => ∃ d e, Rp K H x d ∧ Rp K H y e ∧ ordC d e = true ∧ Q (.bl (if g = true then PySem.W.dataLt e d else PySem.W.dataLt d e)) H
theorem ordC_of {d e : PyData} (h : ordC d e = true) : PySem.W.alike d e = true ∧ d ≠ .none ∧ d.depth ≤ 150 := by
  unfold ordC at h
  rw [Bool.and_eq_true, Bool.and_eq_true] at h
  exact ⟨h.1.1, fun z => by subst z; exact absurd h.1.2 Bool.false_ne_true, of_decide_eq_true h.2⟩
theorem op_ltO {X : Cx} (hu : X.A.units + 200 < cLine) : OpR X (compareOp .Lt) (rOrd X.K false) := by
  rintro pins s σ H x y v u Q I rx ry ⟨d, e, h, k, c, q⟩
  obtain ⟨as, r1, _⟩ := Rp.reads I h rx
  obtain ⟨bs, r2, _⟩ := Rp.reads I k ry
  obtain ⟨c1, c2, c3⟩ := ordC_of c
  exact PySem.W.rcLt_alike d e X.A s v u as bs r1 r2 c1 c2 (by omega) _ _ _ _ ⟨.bl _, H, I, rfl, q⟩
theorem op_gtO {X : Cx} (hu : X.A.units + 200 < cLine) : OpR X (compareOp .Gt) (rOrd X.K true) := by
  rintro pins s σ H x y v u Q I rx ry ⟨d, e, h, k, c, q⟩
  obtain ⟨as, r1, _⟩ := Rp.reads I h rx
  obtain ⟨bs, r2, _⟩ := Rp.reads I k ry
  obtain ⟨c1, c2, c3⟩ := ordC_of c
  exact PySem.W.rcGt_alike d e X.A s v u as bs r1 r2 c1 c2 (by omega) _ _ _ _ ⟨.bl _, H, I, rfl, q⟩
theorem sn_ord {K : PySem.W.Frag} {g : Bool} : Sn2 K (rOrd K g) (hOrd g) := by
  intro S ρ F H v w a b o Q p ra rb e k
  unfold hOrd at e
  split at e
  · rename_i h
    cases e
    exact ⟨_, _, ra.view p.hd.le, rb.view p.hd.le, h, k _ F H p (.bl _)⟩
  · cases e
/-! ### zip of two tuples -/
def zipD : List PyData → List PyData → List PyData
  | x :: xs, y :: ys => .tuple [x, y] :: zipD xs ys
  | _, _ => []
theorem zipD_len : ∀ (xs ys : List PyData), (zipD xs ys).length = min xs.length ys.length
  | [], _ => by simp [zipD]
  | _ :: _, [] => by simp [zipD]
  | x :: xs, y :: ys => by simp [zipD, zipD_len xs ys]
theorem zipD_get : ∀ {xs ys : List PyData} {i : Nat} {d : PyData}, (zipD xs ys)[i]? = some d → ∃ x y, xs[i]? = some x ∧ ys[i]? = some y ∧ d = .tuple [x, y]
  | [], _, i, d, h => by simp [zipD] at h
  | _ :: _, [], i, d, h => by simp [zipD] at h
  | x :: xs, y :: ys, 0, d, h => by simp [zipD] at h; exact ⟨x, y, rfl, rfl, h.symm⟩
  | x :: xs, y :: ys, i + 1, d, h => by simpa using zipD_get (xs := xs) (ys := ys) (i := i) (by simpa [zipD] using h)
theorem itr_zipT {K : PySem.W.Frag} {F : Hp} {a b : Addr} {xs ys : List V} {ds es : List PyData} (h : SqT K F a xs) (r : RpA K F xs ds) (h2 : SqT K F b ys) (r2 : RpA K F ys es) : ItR K F (ItzT K a b) (zipD ds es) where
  stop := fun F' H' l1 l2 => ⟨xs, ys, l2.seqT (l1.seqT h), l2.seqT (l1.seqT h2), by rw [zipD_len, ← r.len, ← r2.len]; omega⟩
  go := fun i F' H' hi l1 l2 => by
    rw [zipD_len, ← r.len, ← r2.len] at hi
    have hx : i < xs.length := by omega
    have hy : i < ys.length := by omega
    exact ⟨xs, ys, xs[i], ys[i], l2.seqT (l1.seqT h), l2.seqT (l1.seqT h2), by simp [hx], by simp [hy]⟩
  yld := fun i d S σ ρ F' H' x H'' hd l1 p y => by
    obtain ⟨T, u, v, rfl, nT, rfl, y1, y2⟩ := y
    obtain ⟨d1, d2, g1, g2, rfl⟩ := zipD_get hd
    obtain ⟨v1, hv1, rv1⟩ := r.get g1
    obtain ⟨v2, hv2, rv2⟩ := r2.get g2
    have e1 := y1 xs (p.hd.le.seqT (l1.seqT h))
    have e2 := y2 ys (p.hd.le.seqT (l1.seqT h2))
    rw [hv1] at e1; cases e1
    rw [hv2] at e2; cases e2
    have lf : Le F' (upd F' T (.tup [u, v])) := Le.ofNew (p.gone nT)
    exact ⟨upd F' T (.tup [u, v]), p.newF nT, lf, .tup (.inl (.inl upd_same)) (.cons (Rp.mono lf (Rp.mono l1 rv1)) (.cons (Rp.mono lf (Rp.mono l1 rv2)) .nil)), fun b o e => ⟨by rw [upd_ne (ne_of_none e nT)]; exact e, fun z => by rw [upd_ne (ne_of_none e nT)]; exact z⟩⟩
def zip2 (ds : List PyData) : M (List PyData) := match ds with
  | [.tuple xs, .tuple ys] => M.ret (zipD xs ys)
  | _ => fun _ => none
section
variable {X : Cx} {W : WX} {a b : Expr} {p pos tpos : Pos} {elts : List Expr} {kk : Nat}
theorem evI_zip {h : M (List PyData)} (hg : Gl X "zip") (hm : X.mg "zip" = none) (ha : EvA X W [a, b] h) (hs : starEach [a, b] X.env = (false, eval a X.env) :: starEach [b] X.env := by rfl) (hpl : (backTo pos (starEach [b] X.env)).any (·.1) = false := by rfl) : EvI X W (.Tuple elts kk tpos) (.Call (.Name "zip" p) [a, b] [] pos) (h.bind zip2) :=
  ⟨fun pins s σ H R I ⟨ρ, F, r⟩ => (pi_zipA hg hm ha hs hpl).run pins s σ H R I ⟨ρ, F, r.bind.mono fun vs H1 ⟨ds, ρ1, F1, rx, p, p1, o, e, q⟩ => by
    unfold zip2 at e
    split at e
    · rename_i xs ys
      cases e
      cases rx with
      | cons h t =>
        cases t with
        | cons h2 t =>
          cases t
          cases h with
          | tup s1 r1 =>
            cases h2 with
            | tup s2 r2 => exact ⟨_, _, _, _, rfl, .inr ⟨p1.hd.le.seqT s1, p1.hd.le.seqT s2, q _ F1 H1 p1 (itr_zipT s1 r1 s2 r2)⟩⟩
    · cases e⟩⟩
end
def iZ (h : M (List PyData)) : M (List PyData) := h.bind zip2
theorem iZ_ap {h : M (List PyData)} {ρ : Rho} : iZ h ρ = thenO (h ρ) zip2 := rfl
theorem zip2_ap {xs ys : List PyData} {ρ : Rho} : zip2 [.tuple xs, .tuple ys] ρ = some (.ok (zipD xs ys) ρ) := rfl
end Vs

/-! Vs, comparisons in a row. -/
namespace Vs
open PySem PySem.Spec L2
/-- a op b op' c, b a whole number -/
def chK (h h' : O → O → Option O) (k : M Rf) (x y : Rf) : M Rf := fun ρ => match rdO ρ x, rdO ρ y with
  | some a, some b => (match b.view, h a b with
    | .int j, some (.fz (.bool true)) => (k.bind fun z => dr2 h' (.o (.fz (.int j))) z) ρ
    | .int _, some (.fz (.bool false)) => some (.ok (.o (.fz (.bool false))) ρ)
    | _, _ => none)
  | _, _ => none
def eCh (h h' : O → O → Option O) (f g k : M Rf) : M Rf := f.bind fun x => g.bind fun y => chK h h' k x y
section
variable {X : Cx} {W : WX} {a b c : Expr} {f g k : M Rf} {pos : Pos}
theorem ev_chain {op op' : CmpOp} {r r' : R2} {h h' : O → O → Option O} (ho : OpR X (compareOp op) r) (s : Sn2 X.K r h) (ho' : OpR X (compareOp op') r') (s' : Sn2 X.K r' h') (ha : EvO X W a f) (hb : EvO X W b g) (hc : EvO X W c k)
    (hm : lastMarks [op, op'] [b, c] = false := by with_unfolding_all rfl) : EvO X W (.Compare a [op, op'] [b, c] pos) (eCh h h' f g k) :=
  peI (pe_chain ho ho' ha hb hc hm) fun σ H Q ⟨ρ, F, r⟩ => by
    unfold eCh at r
    refine ⟨ρ, F, r.bind.mono fun v H1 ⟨x, ρ1, F1, rx, p, r1⟩ => ⟨ρ1, F1, r1.bind.mono fun w H2 ⟨y, ρ2, F2, ry, p2, r2⟩ => ?_⟩⟩
    obtain ⟨p3, o, e, q⟩ := r2
    unfold chK at e
    split at e
    · rename_i a' b' ea eb
      have sa := slot_of p3.hd (rx.stay p2) ea
      have sb := slot_of p3.hd (rfOk.up p ry) eb
      split at e
      · rename_i j ej eh
        have hw : w = V.int j := sb.int ej
        subst hw
        refine s ⟨σ, ρ, F, H⟩ ρ2 F2 H2 v _ a' b' _ _ p3 sa sb eh fun v' F' H' p' r' => ?_
        cases (show Rp X.K F' v' (.bool true) from r')
        refine ⟨true, rfl, ?_⟩
        rw [if_pos rfl]
        have r3 : Run X.K W (RfR X.K) ⟨σ, ρ, F, H⟩ (k.bind fun z => dr2 h' (.o (.fz (.int j))) z) ρ2 F' H' Q := ⟨p', o, e, q⟩
        refine ⟨ρ2, F', r3.bind.mono fun u H3 ⟨z, ρ3, F3, rz, p4, r4⟩ => ?_⟩
        obtain ⟨c1, d1, o1, h1, h2, h3, h4⟩ := r4.dr2 (v := .int j) (show Rp X.K F3 (.int j) (.int j) from .int j) (rfOk.up p' rz)
        exact s' _ _ _ _ _ _ _ _ _ _ r4.post h1 h2 h3 h4
      · rename_i j ej eh
        cases e
        refine s ⟨σ, ρ, F, H⟩ ρ2 F2 H2 v w a' b' _ _ p3 sa sb eh fun v' F' H' p' r' => ?_
        cases (show Rp X.K F' v' (.bool false) from r')
        refine ⟨false, rfl, ?_⟩
        rw [if_neg Bool.false_ne_true]
        exact q _ F' H' p' (show Rp X.K F' (.bl false) (.bool false) from .bl false)
      · cases e
    · cases e
end
theorem eCh_ap {h h' : O → O → Option O} {f g k : M Rf} {ρ : Rho} : eCh h h' f g k ρ = thenO (f ρ) (fun x => M.bind g fun y => chK h h' k x y) := rfl
theorem chK_t {h h' : O → O → Option O} {k : M Rf} {x y : Rf} {ρ : Rho} {a b : O} {j : Int} (e1 : rdO ρ x = some a) (e2 : rdO ρ y = some b) (e3 : b.view = .int j) (e4 : h a b = some (.fz (.bool true))) : chK h h' k x y ρ = (k.bind fun z => dr2 h' (.o (.fz (.int j))) z) ρ := by
  unfold chK; rw [e1, e2]; simp only [e3, e4]
theorem chK_f {h h' : O → O → Option O} {k : M Rf} {x y : Rf} {ρ : Rho} {a b : O} {j : Int} (e1 : rdO ρ x = some a) (e2 : rdO ρ y = some b) (e3 : b.view = .int j) (e4 : h a b = some (.fz (.bool false))) : chK h h' k x y ρ = some (.ok (.o (.fz (.bool false))) ρ) := by
  unfold chK; rw [e1, e2]; simp only [e3, e4]
end Vs

/-! Vs, the rules stated in the words. -/
namespace Vs
open PySem PySem.Spec L2
section
variable {X : Cx} {W : WX} {a b c e : Expr} {es : List Expr} {f g : M Rf} {pos p p2 : Pos} {id T : String} {x : Str}
theorem r_op {op : Operator} {r : R2} {h : O → O → Option O} (ho : OpR X (binaryOp op) r) (s : Sn2 X.K r h) (ha : EvO X W a f) (hb : EvO X W b g) : EvO X W (.BinOp a op b pos) (eOp h f g) := ev_op2 ho s ha hb
theorem r_cmp {op : CmpOp} {r : R2} {h : O → O → Option O} (ho : OpR X (compareOp op) r) (s : Sn2 X.K r h) (ha : EvO X W a f) (hb : EvO X W b g) (hm : behindInMarks op b = false) : EvO X W (.Compare a [op] [b] pos) (eOp h f g) := ev_cmp2 ho s ha hb hm
theorem r_cmpT {op : CmpOp} {r : R2} {h : O → O → Option O} (ho : OpR X (compareOp op) r) (s : Sn2 X.K r h) (ha : EvO X W a f) (hb : EvO X W b g) (hm : behindInMarks op b = false) : EvT X W (.Compare a [op] [b] pos) (eTs h f g) := ev_cmpT ho s ha hb hm
theorem r_un {op : UnaryOp} {r : V → Hp → VK → Prop} {h : O → Option O} (ho : UnR X (unaryOp op) r) (s : Sn1 X.K r h) (ha : EvO X W a f) : EvO X W (.UnaryOp op a pos) (eUn h f) := ev_un ho s ha
theorem r_ix {r : R2} {h : O → O → Option O} (ho : IxR X r) (s : Sn2 X.K r h) (ha : EvO X W a f) (hb : EvO X W b g) (hs : PlainIx b) : EvO X W (.Subscript a b pos) (eOp h f g) := ev_ix ho s ha hb hs
theorem r_tup {g : M (List PyData)} {k : Nat} (h : EvA X W es g) : EvO X W (.Tuple es k pos) (eTup g) := ev_tup h
theorem r_lst {g : M (List PyData)} (h : EvA X W es g) : EvO X W (.List es pos) (eLst g) := ev_lst h
theorem r_ret (h : EvO X W e f) : EvS X W (.Return (some e) pos) (sRet f) := ev_ret h
theorem r_if {t : M Bool} {u v : M Fl} {A B : List Stmt} (hc : EvT X W c t) (ha : EvB X W A u) (hb : EvB X W B v) : EvS X W (.If c A B pos) (sIf t u v) := ev_if hc ha hb
theorem r_tru (h : EvO X W e f) (he : ∀ whole, isTrue e X.env whole = (do let v ← whole; standAt e.pos; holding [v] (truthy v)) := by intro _; rfl) : EvT X W e (tTr f) := evT_tru h he
theorem r_callB {r : List V → Hp → VK → Prop} {h : List O → Option O} {l : M (List Rf)} (hc : CallR X (.builtin id) r) (s : SnN X.K r h) (hg : Gl X x) (hm : X.mg x = none) (hv : bootBuiltins x = some (.builtin id)) (ha : EvL X W (e :: es) l) (hn : x ≠ "__name__" := by decide) (hdb : (x == ("__debug__" : Str)) = false := by decide)
    (he : starEach (e :: es) X.env = (false, eval e X.env) :: starEach es X.env := by rfl) (hpl : (backTo pos (starEach es X.env)).any (·.1) = false := by rfl) : EvO X W (.Call (.Name x p) (e :: es) [] pos) (eCN h l) := ev_callB hc s hg hm hv ha hn hdb he hpl
theorem r_callTy {r : List V → Hp → VK → Prop} {h : List O → Option O} {l : M (List Rf)} (hc : CallR X (.type T) r) (s : SnN X.K r h) (hg : Gl X x) (hm : X.mg x = none) (hv : bootBuiltins x = some (.type T)) (ha : EvL X W (e :: es) l) (hn : x ≠ "__name__" := by decide) (hdb : (x == ("__debug__" : Str)) = false := by decide)
    (he : starEach (e :: es) X.env = (false, eval e X.env) :: starEach es X.env := by rfl) (hpl : (backTo pos (starEach es X.env)).any (·.1) = false := by rfl) : EvO X W (.Call (.Name x p) (e :: es) [] pos) (eCN h l) := ev_callTy hc s hg hm hv ha hn hdb he hpl
theorem r_lNil : EvL X W [] lN := evL_nil
theorem r_lCons {l : M (List Rf)} (ha : EvO X W e f) (hr : EvL X W es l) (hs : starEach (e :: es) X.env = (false, eval e X.env) :: starEach es X.env := by rfl) : EvL X W (e :: es) (lC f l) := evL_cons ha hr hs
theorem r_aNil : EvA X W [] aN := evA_nil
theorem r_slice {lo hi : Option Expr} {l u : M (Option Int)} (he : EvO X W e f) (hl : EvP X W lo l) (hu : EvP X W hi u) : EvO X W (.Subscript e (.Slice lo hi none p2) pos) (eSl f l u) := ev_slice he hl hu
theorem r_pN : EvP X W none pN := evP_none
theorem r_pI (he : EvO X W e f) : EvP X W (some e) (pI f) := evP_some he
theorem r_iV {tg : Expr} (he : EvO X W e f) : EvI X W tg e (iV f) := evI_val he
theorem r_lc {tg iter elt : Expr} {ifs : List Expr} {scope : Scope} {own : List (Str × Nat)} {vs : List Nat} {fi : M (List PyData)} {gg : TG} {h : PyData → M Fl} {ft : M Bool} (hvs : own.map (·.2) = vs) (hc : X.calm = true) (hN : X.N.Nodup) (hi : EvI X W tg iter fi) (ok : BlkOk X.N X.env.scope scope own) (ht : TgR X.K gg h) (tw : TgW gg vs) (tm : TgM gg)
    (hg : ∀ (s : Shared) (H : Hp) (C : Addr) (cl : List (Str × Addr)) (fp : List Addr), PG (X.blk s H scope (compEnvC scope cl C X.env) fp) tg gg) (hq : ∀ (s : Shared) (H : Hp) (C : Addr) (cl : List (Str × Addr)) (fp : List Addr), EvQ (X.blk s H scope (compEnvC scope cl C X.env) fp) W0 ifs ft)
    (he : ∀ (s : Shared) (H : Hp) (C : Addr) (cl : List (Str × Addr)) (fp : List Addr), EvO (X.blk s H scope (compEnvC scope cl C X.env) fp) W0 elt f) (hs : ∀ x, foldedSetIterable iter X.env x = pure x := by intro _; rfl) :
    EvO X W (.ListComp elt [⟨tg, iter, ifs, 0⟩] scope pos) (eLc vs fi h ft f) := by
  subst hvs
  exact ev_lc hc hN hi ok ht tw tm hg hq (fun s H C cl fp => ev_frz (he s H C cl fp)) hs
theorem r_set {i : Nat} (hN : X.N.Nodup) (hi : X.N[i]? = some x) (hx : Loc X.env.scope x) (he : EvO X W e f) (hs : swapsWith e (some (.Name x p)) pos.line X.env = pure false := by rfl) (hf : X.fn x = true ∨ X.env.scope.names.lookup x = some .local := by first | exact .inl rfl | exact .inr rfl | assumption) :
    EvS X W (.Assign [.Name x p] e pos) (sSet i f) := ev_set hN hi hx he hs hf
theorem r_for {tg iter : Expr} {body : List Stmt} {gg : TG} {h : PyData → M Fl} {fb : M Fl} {fi : M (List PyData)} (hp : PassesOwn (model X.prog X.w) X.A X.env X.xe) (hc : X.calm = true) (hi : EvI X W tg iter fi) (hg : PG X tg gg) (ht : TgR X.K gg h) (hb : EvB X W body fb) (hs : ∀ x, foldedSetIterable iter X.env x = pure x := by intro _; rfl) :
    EvS X W (.For tg iter body [] pos) (sFor fi h fb) := ev_for hp hc hi hg ht hb hs
theorem r_asg {tg : Expr} {gg : TG} {h : PyData → M Fl} (he : EvO X W e f) (hg : PG X tg gg) (ht : TgR X.K gg h) (hs : swapsWithSole [tg] e pos.line X.env = pure false := by rfl) (hw : swappedStores [tg] e X.env = pure none := by rfl)
    (h1 : (assignEach [tg] X.env).map (·.2) = [assign tg X.env] := by rfl) : EvS X W (.Assign [tg] e pos) (sAsg f h) := ev_asg he hg ht hs hw h1
theorem r_int {i : Int} {j : Nat} : EvO X W (.Constant (.int i) j pos) (eC (.int i)) := ev_int
theorem r_str {i : Str} {j : Nat} : EvO X W (.Constant (.str i) j pos) (eC (.str i)) := ev_str
theorem r_bl {i : Bool} {j : Nat} : EvO X W (.Constant (.bool i) j pos) (eC (.bool i)) := ev_bl
theorem r_non {j : Nat} : EvO X W (.Constant .none j pos) (eC .none) := ev_non
theorem r_nil : EvB X W [] sN := evB_nil
theorem r_gN : EvG X W [] gN := evG_nil
theorem r_gF {l : M (List Arg)} (ha : EvO X W e f) (hr : EvG X W es l) (hs : starEach (e :: es) X.env = (false, eval e X.env) :: starEach es X.env := by rfl) : EvG X W (e :: es) (gF f l) := evG_fz ha hr hs
theorem r_var (i : Nat) (hN : X.N[i]? = some x := by rfl) (hv : Vis X.env.scope x := by first | exact Or.inl rfl | exact Or.inr (Or.inl rfl) | exact Or.inr (Or.inr rfl)) (hd : (x == ("__debug__" : Str)) = false := by decide) (hcd : (x == ("__classdict__" : Str)) = false := by decide) : EvO X W (.Name x pos) (eV i) := ev_var i hN hv hd hcd
theorem r_gB {i : Nat} {l : M (List Arg)} (ha : PE X (.Name x pos) (tVar i)) (hr : EvG X W es l) (hs : starEach (.Name x pos :: es) X.env = (false, eval (.Name x pos) X.env) :: starEach es X.env := by rfl) : EvG X W (.Name x pos :: es) (gB i l) := evG_br ha hr hs
theorem r_not (h : EvO X W a f) : EvO X W (.UnaryOp .Not a pos) (eNt f) := ev_not h
theorem r_ifx {t : M Bool} (h : EvT X W c t) (ha : EvO X W a f) (hb : EvO X W b g) : EvO X W (.IfExp c a b pos) (eIf t f g) := ev_ifx h ha hb
theorem r_tNot {t : M Bool} (h : EvT X W a t) : EvT X W (.UnaryOp .Not a pos) (tNt t) := evT_not h
theorem r_wAnd {t u : M Bool} (h : EvT X W a t) (k : EvW X W (.BoolOp .And (b :: es) pos) u) : EvW X W (.BoolOp .And (a :: b :: es) pos) (tAn t u) := evW_and h k
theorem r_wOr {t u : M Bool} (h : EvT X W a t) (k : EvW X W (.BoolOp .Or (b :: es) pos) u) : EvW X W (.BoolOp .Or (a :: b :: es) pos) (tO t u) := evW_or h k
theorem r_sEx (h : EvO X W e f) (hs : swapsWith e none pos.line X.env = pure false := by rfl) : EvS X W (.Expr e pos) (sEx f) := ev_expr h hs
end
theorem FnG.of2 {P : Program} {w : World} {K : PySem.W.Frag} {mg : Str → Option Value} {base : Heap} {x qual : Str} {st : Stmt} {f : Addr} {fd : FuncData} (N : List Str) {ps : List Str} {k nps nN : Nat} {fB : M Fl} (Fu : Fun K x qual st f fd) (S : FnScope N ps (defScope st)) (hp : ps.length = nps) (hN : N.length = nN)
    (hbody : ∀ (cdv : Value) (A : Around) (outer : List Env) (s : Shared) (H : Hp) (E : XK), A.guards = some [] → Room k (A.deeper (PyProof.Rows.envOfC qual (defScope st) s.heap.objs.size f cdv)) →
      EvB (cx P w K mg base N qual st f cdv A outer s H E) (WXof E) (defBody st) fB) : FnG P w K mg base (k + 1) f fd ps (defG nps nN fB) := by
  subst hp hN
  exact FnG.of Fu S hbody
end Vs

/-! Vs, enumerate (lists and tuples). -/
namespace Vs
open PySem PySem.Spec PyProof.Rows L2
set_option maxHeartbeats 4000000 in
theorem meets_enum1 {v : Value} {o : Obj} {H : Heap → Prop} (B : Begins v o H) :
    Meets (Builtin.«enumerate.__new__» ⟨[.type "enumerate", v], []⟩) (fun _ R s => H s.heap ∧
      R (.ok (.ret (.ref (s.heap.push o).objs.size))) { s with heap := (s.heap.push o).push { cls := .type "enumerate", data := .fields #[.none, .bool false, .ref s.heap.objs.size, rawInt 0, .none, .none] } }) :=
  .of_wp fun prog w A R s h => by
    obtain ⟨hp, g, d, tk, os⟩ := s; obtain ⟨h1, h⟩ := h
    have hsub := sub_enumerate
    have q1 : ∀ {A' : Around} {E : Value → Shared → Prop} {Q : Value → Shared → Prop}, Q (.ref hp.objs.size) ⟨hp.push o, g, d, tk, os⟩ → wpAny (model prog w) A' (pyIter v) Q E ⟨hp, g, d, tk, os⟩ :=
      fun q => B.iter prog w _ _ ⟨hp, g, d, tk, os⟩ _ h1 q
    wp_walk using q1
    refine wpAny_stack_any fun st => wpAny_pure ?_
    split
    · rename_i c _ _ _ _ _
      cases (c == Value.type "enumerate")
      · wp_walk using q1
        exact ⟨_, rfl, h⟩
      · wp_walk using q1
        exact ⟨_, rfl, h⟩
    · wp_walk using q1
      exact ⟨_, rfl, h⟩
section
variable {prog : Program} {w : World} {A : Around} {E : Value → Shared → Prop} {s : Shared}
theorem call_enum1 {v : Value} {o : Obj} {H : Heap → Prop} {Q : Value → Shared → Prop} (B : Begins v o H) (h1 : H s.heap)
    (h : ∀ h', IsEnum h' (s.heap.objs.size + 1) s.heap.objs.size 0 .none → h'.get? s.heap.objs.size = some o → h'.objs.size = s.heap.objs.size + 2 →
      (∀ b o, s.heap.get? b = some o → h'.get? b = some o) → Q (.ref (s.heap.objs.size + 1)) { s with heap := h' }) :
    wpAny (model prog w) A (call (.type "enumerate") [v]) Q E s := by
  refine callType_new F.called_enumerate (by decide) (F.typeCall_enumerate_1 _) (F.newCall_enumerate_1 _) (fun obj => F.args_object_init_2 obj _) F.entry_enumerate_new
    (meets_enum1 B) ⟨h1, ?_⟩
  have hz : (s.heap.push o).objs.size = s.heap.objs.size + 1 := Heap.size_push ..
  show _ ∧ _
  rw [hz]
  have he : IsEnum ((s.heap.push o).push { cls := .type "enumerate", data := .fields #[.none, .bool false, .ref s.heap.objs.size, rawInt 0, .none, .none] }) (s.heap.objs.size + 1) s.heap.objs.size 0 .none := by
    have := Heap.get?_push_size (s.heap.push o) (o := { cls := .type "enumerate", data := .fields #[.none, .bool false, .ref s.heap.objs.size, rawInt 0, .none, .none] }) rfl
    rw [hz] at this; exact this
  refine ⟨⟨_, he, rfl⟩, h _ he (Heap.get?_push_of_some _ (Heap.get?_push_size _ B.free)) (by rw [Heap.size_push, hz]) fun b o x => Heap.get?_push_of_some _ (Heap.get?_push_of_some _ x)⟩
end
/-- the tuple at a, each item in a new pair -/
def IteT (K : PySem.W.Frag) (a : Addr) : It :=
  ⟨fun i H => ∃ (xs : List V) (x : V), SqT K H a xs ∧ xs[i]? = some x, fun i H v H' => ∃ T x, v = .ref T ∧ H T = none ∧ H' = upd H T (.tup [.int (i : Nat), x]) ∧ ∀ xs, SqT K H a xs → xs[i]? = some x, fun i H => ∃ xs : List V, SqT K H a xs ∧ xs.length ≤ i⟩
theorem turn_enumT {P : Program} {w : World} {K : PySem.W.Frag} {elts : List Expr} {kk : Nat} {tpos : Pos} (a e it : Addr) (hea : e ≠ a) (hia : it ≠ a) :
    Turn P w K (.Tuple elts kk tpos) (IteT K a) [e, it] e (fun i h => (∃ old, IsEnum h e it ((i : Nat) : Int) old) ∧ h.IsTupleIter it a i ∧ e ≠ it) where
  mem := by simp
  obj := fun i h st b hb => by
    obtain ⟨⟨old, he⟩, ⟨o, ho, hc, hd⟩, _⟩ := st
    have e' : b = e ∨ b = it := by simpa using hb
    rcases e' with z | z
    · rw [z]; exact ⟨_, he, fun v q => nomatch q⟩
    · rw [z]; exact ⟨o, ho, fun v q => by rw [hd] at q; cases q⟩
  keep := fun i h h' st k => let ⟨⟨old, he⟩, hi, hne⟩ := st; ⟨⟨old, k e (by simp) _ he⟩, hi.at fun o q => k it (by simp) o q, hne⟩
  item := by
    intro X hP hw hK hc i pins s σ H E I hf st hg
    subst hP hw hK
    obtain ⟨⟨old, he⟩, hit, hne⟩ := st
    obtain ⟨xs, x, hq, hx⟩ := hg
    obtain ⟨its, rv, p, _⟩ := I.tuple hq
    obtain ⟨u, hu, ru⟩ := rv.get hx
    have hel : e < s.heap.objs.size := Heap.lt_size he
    have hil : it < s.heap.objs.size := by obtain ⟨_, q, _⟩ := hit; exact Heap.lt_size q
    have hlt : i < its.toArray.size := by
      have := rv.length
      have h2 : i < xs.length := by
        rcases Nat.lt_or_ge i xs.length with z | z
        · exact z
        · rw [List.getElem?_eq_none z] at hx; cases hx
      simp only [List.size_toArray]; omega
    refine wpAny_pyNext_enum_itemD (A := X.A) (Draws.tuple (A := X.A.in1) (show X.A.in1.handled = none from I.ok.hd hc) it a (Ne.symm hia) its.toArray) he ⟨hit, p⟩ hlt hne (by simp [hne, hea]) fun y h' tk hP ho hst' hT hsz hk => ?_
    have hy : y = u := by
      have hu' : its.toArray[i]? = some u := by simpa using hu
      rw [hu'] at hP; exact (Option.some.inj hP).symm
    subst hy
    refine ⟨_, rfl, wpAny_letOwnedTupleGo_enum (s := { s with heap := h', toks := tk + 1 }) ho fun h'' he' sb => ?_⟩
    have hT2 : h''.get? s.heap.objs.size = some { cls := .type "tuple", data := .seq #[.int i tk, y] } := (sb.2 _ (Nat.ne_of_gt hel)).trans hT
    have new : ObjOk X.prog X.w (upd H s.heap.objs.size (.tup [.int (i : Nat), x])) h'' s.heap.objs.size (.tup [.int (i : Nat), x]) :=
      ⟨by show 2 ≤ sizeLine; decide, [.int i tk, y], .cons ⟨_, rfl⟩ (.cons ru .nil), ⟨_, hT2, rfl, _, rfl⟩⟩
    have I1 : Inv X pins σ (upd H s.heap.objs.size (.tup [.int (i : Nat), x])) { s with heap := h'', toks := tk + 1 } :=
      I.turnedNew (ch := [e, it]) (fun b ob hb q => (sb.2 b (fun z => hb (by simp [z]))).trans (hk b ob (fun z => hb (by simp [z])) (fun z => hb (by simp [z])) q)) hf (Nat.le_refl _) new
    refine ⟨.ref s.heap.objs.size, _, I1, rfl, ⟨_, x, rfl, I.hok.fresh (Nat.le_refl _), rfl, fun ys hy => by rw [I.tuple_inj hy hq]; exact hx⟩, ⟨⟨y, ?_⟩, hst'.1.at fun o q => (sb.2 it (Ne.symm hne)).trans q, hne⟩, fun b hb => ?_⟩
    · have e1 : ((i + 1 : Nat) : Int) = (i : Int) + 1 := by omega
      rw [e1]; exact he'
    · have hb' : b < s.heap.objs.size := by
        have e' : b = e ∨ b = it := by simpa using hb
        rcases e' with z | z
        · rw [z]; exact hel
        · rw [z]; exact hil
      rw [upd_ne (Nat.ne_of_lt hb')]
      exact (hf b hb).1
  done := by
    intro X hP hw hK hc i pins s σ H E I hf st hg
    subst hP hw hK
    obtain ⟨⟨old, he⟩, hit, hne⟩ := st
    obtain ⟨xs, hq, hx⟩ := hg
    obtain ⟨its, rv, p, _⟩ := I.tuple hq
    obtain ⟨f0, f1, f2, f3, f4, f5⟩ := hf it (by simp)
    have hl := rv.length
    have hT : s.TypeIs (.ref e) "enumerate" := ⟨_, he, rfl⟩
    unfold pyNext
    refine wpAny_bind (wpAny_attempt (wpAny_callSpecial?_slot (name := Str.ofString "__next__") hT F.slot_enumerate_next
      (wpAny_call_entry F.slot_enumerate_next hT F.entry_enumerate_next ?_ (F.args_enumerate_next_1 _))))
    show wpAny _ _ (field (.ref e) 2 >>= _) _ _ _
    refine wpAny_bind (wpAny_field he rfl (x := .ref it) rfl ?_)
    refine wpAny_bind (wpAny_nextOf_tuple_end (A := X.A.in1) (show X.A.in1.handled = none from I.ok.hd hc) hit p (by simp; omega) fun h' x he' hx' => ?_)
    obtain ⟨o, ho, hc'⟩ := hx'
    refine wpAny_bind (wpAny_isInstance (T := "StopIteration") (b := true) ⟨o, ho, hc'⟩ isSubtype_stop ?_)
    exact wpAny_pure ⟨rfl, I.turned (t' := s.toks) (fun b o hb q => he' b o hb q) f0 f1 f3 f4 f5⟩
  self := fun A i s Q E st h => let ⟨⟨_, he⟩, _⟩ := st; wpAny_pyIter_enum he h
def iEnumA (K : PySem.W.Frag) (ta : TA) : TI := fun σ H R => ta σ H fun vs H1 => ∃ a xs, vs = [.ref a] ∧ ((SqL K H1 a xs ∧ R (Ite K a) H1) ∨ (SqT K H1 a xs ∧ R (IteT K a) H1))
theorem pi_enumA {X : Cx} {e : Expr} {ta : TA} {p pos tpos : Pos} {elts : List Expr} {kk : Nat} (hg : Gl X "enumerate") (hm : X.mg "enumerate" = none) (ha : PA X [e] ta) (hs : starEach [e] X.env = [(false, eval e X.env)] := by rfl) :
    PI X (.Tuple elts kk tpos) (.Call (.Name "enumerate" p) [e] [] pos) (iEnumA X.K ta) := by
  refine ⟨fun pins s σ H R I h => ?_⟩
  refine Call_ (ld_blt I hg hm boot_enumerate (PyProof.Rows.callWith_type1 (thn (ha.run pos pins s σ H _ I h) fun us s1 ⟨vs, H1, I1, r1, q1⟩ => ?_) hs rfl))
  obtain ⟨a, xs, ex, q1⟩ := q1
  subst ex
  cases r1 with
  | cons r rr =>
    cases rr
    cases r
    have fresh2 : ∀ b, b ∈ [s1.heap.objs.size + 1, s1.heap.objs.size] → FpOk X pins H1 b := fun b hb => by
      have e' : b = s1.heap.objs.size + 1 ∨ b = s1.heap.objs.size := by simpa using hb
      have hle : s1.heap.objs.size ≤ b := by
        rcases e' with z | z
        · rw [z]; exact Nat.le_add_right _ _
        · rw [z]; exact Nat.le_refl _
      exact I1.fpOk hle (I1.hok.fresh hle)
    rcases q1 with ⟨hq, q⟩ | ⟨hq, q⟩
    · obtain ⟨its, rv, p', hz⟩ := I1.list hq
      refine call_enumerate_list p'.isList fun h' he hit hsz hk => wpAny_pyIter_enum he ?_
      have I2 : Inv X pins σ H1 { s1 with heap := h' } := I1.kept (t' := s1.toks) hk
      exact ⟨s1.heap.objs.size + 1, [s1.heap.objs.size + 1, s1.heap.objs.size], _, _, H1, rfl, I2, turn_enum a (s1.heap.objs.size + 1) s1.heap.objs.size, ⟨⟨.none, he⟩, hit, Nat.succ_ne_self _⟩, fresh2, q⟩
    · obtain ⟨its, rv, p', _⟩ := I1.tuple hq
      obtain ⟨o1, ho1, _⟩ := id p'
      have hal := Heap.lt_size ho1
      refine call_enum1 (begins_tuple a its.toArray) p' fun h' he hit hsz hk => wpAny_pyIter_enum he ?_
      have I2 : Inv X pins σ H1 { s1 with heap := h' } := I1.kept (t' := s1.toks) hk
      exact ⟨s1.heap.objs.size + 1, [s1.heap.objs.size + 1, s1.heap.objs.size], _, _, H1, rfl, I2, turn_enumT a (s1.heap.objs.size + 1) s1.heap.objs.size (Nat.ne_of_gt (Nat.lt_succ_of_lt hal)) (Nat.ne_of_gt hal), ⟨⟨.none, he⟩, ⟨_, hit, rfl, rfl⟩, Nat.succ_ne_self _⟩, fresh2, q⟩
/-! the plain side -/
def enumD (k : Nat) : List PyData → List PyData
  | [] => []
  | x :: xs => .tuple [.int (k : Nat), x] :: enumD (k + 1) xs
theorem enumD_len : ∀ (k : Nat) (xs : List PyData), (enumD k xs).length = xs.length
  | _, [] => rfl
  | k, x :: xs => by simp [enumD, enumD_len (k + 1) xs]
theorem enumD_get : ∀ {k : Nat} {xs : List PyData} {i : Nat} {d : PyData}, (enumD k xs)[i]? = some d → ∃ x, xs[i]? = some x ∧ d = .tuple [.int ((k + i : Nat) : Int), x]
  | _, [], i, d, h => by simp [enumD] at h
  | k, x :: xs, 0, d, h => by simp [enumD] at h; exact ⟨x, rfl, by simpa using h.symm⟩
  | k, x :: xs, i + 1, d, h => by
    obtain ⟨y, h1, h2⟩ := enumD_get (k := k + 1) (xs := xs) (i := i) (by simpa [enumD] using h)
    exact ⟨y, by simpa using h1, by rw [h2]; congr 3; omega⟩
theorem itr_enumT {K : PySem.W.Frag} {F : Hp} {a : Addr} {xs : List V} {ds : List PyData} (h : SqT K F a xs) (r : RpA K F xs ds) : ItR K F (IteT K a) (enumD 0 ds) where
  stop := fun F' H' l1 l2 => ⟨xs, l2.seqT (l1.seqT h), by rw [enumD_len, ← r.len]; exact Nat.le_refl _⟩
  go := fun i F' H' hi l1 l2 => by
    rw [enumD_len, ← r.len] at hi
    exact ⟨xs, xs[i], l2.seqT (l1.seqT h), by simp [hi]⟩
  yld := fun i d S σ ρ F' H' x H'' hd l1 p y => by
    obtain ⟨T, u, rfl, nT, rfl, y1⟩ := y
    obtain ⟨d1, g1, rfl⟩ := enumD_get hd
    obtain ⟨v1, hv1, rv1⟩ := r.get g1
    have e1 := y1 xs (p.hd.le.seqT (l1.seqT h))
    rw [hv1] at e1; cases e1
    have lf : Le F' (upd F' T (.tup [.int (i : Nat), u])) := Le.ofNew (p.gone nT)
    have e0 : ((0 + i : Nat) : Int) = (i : Nat) := by rw [Nat.zero_add]
    rw [e0]
    exact ⟨upd F' T (.tup [.int (i : Nat), u]), p.newF nT, lf, .tup (.inl (.inl upd_same)) (.cons (.int _) (.cons (Rp.mono lf (Rp.mono l1 rv1)) .nil)), fun b o e => ⟨by rw [upd_ne (ne_of_none e nT)]; exact e, fun z => by rw [upd_ne (ne_of_none e nT)]; exact z⟩⟩
theorem itr_enumL {K : PySem.W.Frag} {F : Hp} {a : Addr} {xs : List V} {ds : List PyData} (h : SqL K F a xs) (r : RpA K F xs ds) : ItR K F (Ite K a) (enumD 0 ds) where
  stop := fun F' H' l1 l2 => ⟨xs, l2.seqL (l1.seqL h), by rw [enumD_len, ← r.len]; exact Nat.le_refl _⟩
  go := fun i F' H' hi l1 l2 => by
    rw [enumD_len, ← r.len] at hi
    exact ⟨xs, xs[i], l2.seqL (l1.seqL h), by simp [hi]⟩
  yld := fun i d S σ ρ F' H' x H'' hd l1 p y => by
    obtain ⟨T, u, rfl, nT, rfl, y1⟩ := y
    obtain ⟨d1, g1, rfl⟩ := enumD_get hd
    obtain ⟨v1, hv1, rv1⟩ := r.get g1
    have e1 := y1 xs (p.hd.le.seqL (l1.seqL h))
    rw [hv1] at e1; cases e1
    have lf : Le F' (upd F' T (.tup [.int (i : Nat), u])) := Le.ofNew (p.gone nT)
    have e0 : ((0 + i : Nat) : Int) = (i : Nat) := by rw [Nat.zero_add]
    rw [e0]
    exact ⟨upd F' T (.tup [.int (i : Nat), u]), p.newF nT, lf, .tup (.inl (.inl upd_same)) (.cons (.int _) (.cons (Rp.mono lf (Rp.mono l1 rv1)) .nil)), fun b o e => ⟨by rw [upd_ne (ne_of_none e nT)]; exact e, fun z => by rw [upd_ne (ne_of_none e nT)]; exact z⟩⟩
def enumM (ds : List PyData) : M (List PyData) := match ds with
  | [.tuple xs] => M.ret (enumD 0 xs)
  | [.list xs] => M.ret (enumD 0 xs)
  | _ => fun _ => none
def iE (h : M (List PyData)) : M (List PyData) := h.bind enumM
section
variable {X : Cx} {W : WX} {a : Expr} {p pos tpos : Pos} {elts : List Expr} {kk : Nat}
theorem evI_enum {h : M (List PyData)} (hg : Gl X "enumerate") (hm : X.mg "enumerate" = none) (ha : EvA X W [a] h) (hs : starEach [a] X.env = [(false, eval a X.env)] := by rfl) : EvI X W (.Tuple elts kk tpos) (.Call (.Name "enumerate" p) [a] [] pos) (iE h) :=
  ⟨fun pins s σ H R I ⟨ρ, F, r⟩ => (pi_enumA hg hm ha hs).run pins s σ H R I ⟨ρ, F, r.bind.mono fun vs H1 ⟨ds, ρ1, F1, rx, p, p1, o, e, q⟩ => by
    unfold enumM at e
    split at e
    · rename_i xs
      cases e
      cases rx with
      | cons h t =>
        cases t
        cases h with
        | tup s1 r1 => exact ⟨_, _, rfl, .inr ⟨p1.hd.le.seqT s1, q _ F1 H1 p1 (itr_enumT s1 r1)⟩⟩
    · rename_i xs
      cases e
      cases rx with
      | cons h t =>
        cases t
        cases h with
        | lst s1 r1 => exact ⟨_, _, rfl, .inl ⟨p1.hd.le.seqL s1, q _ F1 H1 p1 (itr_enumL s1 r1)⟩⟩
    · cases e⟩⟩
end
theorem iE_ap {h : M (List PyData)} {ρ : Rho} : iE h ρ = thenO (h ρ) enumM := rfl
theorem enumT_ap {xs : List PyData} {ρ : Rho} : enumM [.tuple xs] ρ = some (.ok (enumD 0 xs) ρ) := rfl
theorem enumL_ap {xs : List PyData} {ρ : Rho} : enumM [.list xs] ρ = some (.ok (enumD 0 xs) ρ) := rfl
end Vs

/-! Vs, dict comprehensions. -/
namespace Vs
open PySem PySem.Spec L2
def keyD : PyData → Option Key
  | .int i => some (.inl i)
  | .str x => some (.inr x)
  | _ => none
theorem keyD_kV {K : PySem.W.Frag} {F : Hp} {v : V} {d : PyData} {k : Key} (h : Rp K F v d) (e : keyD d = some k) : v = kV k := by
  cases d <;> simp only [keyD, Option.some.injEq, reduceCtorEq] at e
  · subst e; cases h; rfl
  · subst e; cases h; rfl
def dcE (vs : List Nat) (fk fv : M PyData) (acc : List (Key × PyData)) (next : List (Key × PyData) → Rho → Option (Out (List (Key × PyData)))) (ρ : Rho) : Option (Out (List (Key × PyData))) :=
  match (fk.bind fun k => fv.bind fun d => M.ret (k, d)) ρ with
  | some (.ok (k, d) ρ') => (match keyD k with
    | some k => if acc.length < 16777216 ∧ freeV ρ' vs = true then next (putE acc k d) (wipeR ρ' vs) else none
    | none => none)
  | _ => none
def dcT (vs : List Nat) (fk fv : M PyData) (acc : List (Key × PyData)) (next : List (Key × PyData) → Rho → Option (Out (List (Key × PyData)))) : Option (Out Bool) → Option (Out (List (Key × PyData)))
  | some (.ok true ρ') => dcE vs fk fv acc next ρ'
  | some (.ok false ρ') => if freeV ρ' vs = true then next acc (wipeR ρ' vs) else none
  | _ => none
def dcH (vs : List Nat) (ft : M Bool) (fk fv : M PyData) (acc : List (Key × PyData)) (next : List (Key × PyData) → Rho → Option (Out (List (Key × PyData)))) : Option (Out Fl) → Option (Out (List (Key × PyData)))
  | some (.ok .nx ρ') => dcT vs fk fv acc next (ft ρ')
  | _ => none
def dcF (vs : List Nat) (h : PyData → M Fl) (ft : M Bool) (fk fv : M PyData) : List PyData → List (Key × PyData) → Rho → Option (Out (List (Key × PyData)))
  | [], acc, ρ => some (.ok acc ρ)
  | d :: ds, acc, ρ => dcH vs ft fk fv acc (dcF vs h ft fk fv ds) (h d ρ)
def dcM (vs : List Nat) (h : PyData → M Fl) (ft : M Bool) (fk fv : M PyData) (ds : List PyData) : M Rf := fun ρ => if freeV ρ vs = true then (match dcF vs h ft fk fv ds [] (wipeR ρ vs) with
  | some (.ok ys ρ') => some (.ok (.o (.mu false (.dct ys))) (backR ρ ρ' vs))
  | _ => none) else none
theorem dc_read {K : PySem.W.Frag} {W : WX} {g : TG} {h : PyData → M Fl} {ft : M Bool} {fk fv : M PyData} {vs : List Nat} {S : Sta} {ρ : Rho} {F H : Hp} {Q : VK} {J : It} {ds : List PyData} (tg : TgR K g h) (tw : TgW g vs) (gmono : TgM g)
    (r : Run K W (RfR K) S (dcM vs h ft fk fv ds) ρ F H Q) (ir : ItR K F J ds) (D : Addr) (hD : H D = none) :
    ∃ Wv : Nat → Nat → Hp → Prop, (∃ m, Wv 0 m (upd H D (.dK []))) ∧ ∀ i m H, Wv i m H → (J.stop i H ∧ Q (.ref D) H) ∨ (J.go i H ∧ ∃ Nx : Hp → Prop, (∀ H', Nx H' → ∃ m', m' < m ∧ Wv (i + 1) m' H') ∧
      ∀ x H', J.yld i H x H' → g x (wipe S.σ vs) H' fun σ2 H2 => wipe σ2 vs = wipe S.σ vs ∧ tG K W0 (BR K) ft σ2 H2 fun b H3 => if b = true then tG K W0 (DR K) fk σ2 H3 fun y H4 => tG K W0 (DR K) fv σ2 H4 fun z H5 => ∃ kvs k, y = kV k ∧ H5 D = some (.dK kvs) ∧ kvs.length < sizeLine ∧ Nx (upd H5 D (.dK (putK kvs k z))) else Nx H3) := by
  obtain ⟨p0, o, e, q⟩ := r
  unfold dcM at e
  split at e
  next hv =>
    cases el : dcF vs h ft fk fv ds [] (wipeR ρ vs) with
    | none => rw [el] at e; cases e
    | some ol =>
      cases ol with
      | ex c ρ' => rw [el] at e; cases e
      | ok ys ρe =>
        rw [el] at e
        cases e
        let Mid : Nat → Hp → Prop := fun i H' => ∃ (acc : List (Key × PyData)) (xs : List (Key × V)) (ρ' : Rho) (F' : Hp), Le F F' ∧ Post K S (wipe S.σ vs) ρ' F' H' ∧ (∀ i ∈ vs, ∀ o, ρ'[i]? ≠ some (some o)) ∧ F' D = none ∧ ¬ Own (wipe S.σ vs) ρ' H' D ∧ H' D = some (.dK xs) ∧ RpK K F' xs acc ∧ dcF vs h ft fk fv (ds.drop i) acc ρ' = some (.ok ys ρe)
        have nwD : New S D := p0.new (.inr hD)
        refine ⟨fun i m H' => m = ds.length - i ∧ i ≤ ds.length ∧ Mid i H', ⟨ds.length, rfl, Nat.zero_le _, [], [], wipeR ρ vs, F, Le.refl _, (p0.wipe hv).newO hD, wipeR_self, p0.gone hD, (p0.wipe hv).hd.notOwnNew hD, upd_same, .nil, el⟩, ?_⟩
        rintro i m H' ⟨rfl, hi, acc, xs, ρ', F', le, p, hw, hf, no, hH, ra, el⟩
        by_cases hlt : i < ds.length
        · refine .inr ⟨ir.go i F' H' hlt le p.hd.le, Mid (i + 1), fun H2 hm => ⟨ds.length - (i + 1), by omega, rfl, hlt, hm⟩, fun x H2 y => ?_⟩
          have hd : ds[i]? = some ds[i] := List.getElem?_eq_getElem hlt
          obtain ⟨F2, p2, le2, rx, kp⟩ := ir.yld i _ _ _ _ _ _ _ _ hd le p y
          have ed : ds.drop i = ds[i] :: ds.drop (i + 1) := List.drop_eq_getElem_cons hlt
          rw [ed] at el
          have el : dcH vs ft fk fv acc (dcF vs h ft fk fv (ds.drop (i + 1))) (h ds[i] ρ') = some (.ok ys ρe) := el
          obtain ⟨hH2, hf2⟩ := kp D _ hH
          have no1 : ¬ Own (wipe S.σ vs) ρ' H2 D := fun z => no (p.hd.kept le2 p2.hd.le kp D z)
          have fin : ∀ (σ5 : L2.St) (ρ5 : Rho) (F5 H5 : Hp) (acc' : List (Key × PyData)) (xs' : List (Key × V)), wipe σ5 vs = wipe S.σ vs → Post K ⟨wipe S.σ vs, ρ', F2, H2⟩ σ5 ρ5 F5 H5 → freeV ρ5 vs = true → ∀ H6, (H6 = H5 ∨ ∃ u, H6 = upd H5 D u) → H6 D = some (.dK xs') → RpK K F5 xs' acc' →
              dcF vs h ft fk fv (ds.drop (i + 1)) acc' (wipeR ρ5 vs) = some (.ok ys ρe) → Mid (i + 1) H6 := by
            intro σ5 ρ5 F5 H5 acc' xs' ew p5 fv H6 h6 hD6 ra' el'
            have pw := (p2.trans p5).wipe fv
            rw [ew] at pw
            have no2 : ¬ Own (wipe S.σ vs) ρ' H2 D := no1
            have hf5 : F5 D = none := p5.nofz D _ hH2 no2 (hf2 hf)
            have no5 : ¬ Own σ5 ρ5 H5 D := p5.not hH2 no2
            have no6 : ¬ Own (wipe S.σ vs) (wipeR ρ5 vs) H5 D := fun ⟨j, b, mm, w, e1, s1, k1⟩ => no5 ⟨j, b, mm, w, (wipeR_get.mp e1).1, by rw [← ew] at s1; exact (wipe_some s1).1, k1⟩
            refine ⟨acc', xs', wipeR ρ5 vs, F5, le.trans (le2.trans p5.le), ?_, wipeR_self, hf5, ?_, hD6, ra', el'⟩
            · rcases h6 with rfl | ⟨u, rfl⟩
              · exact pw
              · exact pw.wrT hf5 no6 nwD
            · rcases h6 with rfl | ⟨u, rfl⟩
              · exact no6
              · exact fun z => no6 ((pw.hd.offUpd hf5 no6).2 D z)
          have wants : g x (wipe S.σ vs) H2 fun σ2 H2 => wipe σ2 vs = wipe (wipe S.σ vs) vs ∧ (wipe σ2 vs = wipe S.σ vs → tG K W0 (BR K) ft σ2 H2 fun b H3 => if b = true then tG K W0 (DR K) fk σ2 H3 fun y H4 => tG K W0 (DR K) fv σ2 H4 fun z H5 => ∃ kvs k, y = kV k ∧ H5 D = some (.dK kvs) ∧ kvs.length < sizeLine ∧ Mid (i + 1) (upd H5 D (.dK (putK kvs k z))) else Mid (i + 1) H3) := by
            refine tw _ _ _ _ ?_
            cases eh : h ds[i] ρ' with
            | none => rw [eh] at el; cases el
            | some oh =>
              cases oh with
              | ex c ρ3 => rw [eh] at el; cases el
              | ok fl ρ3 =>
                cases fl with
                | bk => rw [eh] at el; cases el
                | ct => rw [eh] at el; cases el
                | rt _ => rw [eh] at el; cases el
                | nx =>
                  rw [eh] at el
                  have el : dcT vs fk fv acc (dcF vs h ft fk fv (ds.drop (i + 1))) (ft ρ3) = some (.ok ys ρe) := el
                  refine tg W0 ⟨wipe S.σ vs, ρ', F2, H2⟩ _ ρ' F2 H2 x _ ⟨_, fun _ _ => False, fun _ _ => False, fun _ _ => False⟩ ⟨Post.refl p2.hd, _, eh, fun σ4 F4 H4 p4 ew => ?_⟩ rx
                  cases et : ft ρ3 with
                  | none => rw [et] at el; cases el
                  | some ot =>
                    refine ⟨ρ3, F4, Post.refl p4.hd, ot, et, ?_⟩
                    rw [et] at el
                    cases ot with
                    | ex c ρ4 => cases el
                    | ok b ρ4 =>
                      intro b' F5 H5 p5 eb
                      have eb : b' = b := eb
                      subst eb
                      have p45 := p4.trans p5
                      cases b' with
                      | false =>
                        have el : (if freeV ρ4 vs = true then dcF vs h ft fk fv (ds.drop (i + 1)) acc (wipeR ρ4 vs) else none) = some (.ok ys ρe) := el
                        rw [if_neg Bool.false_ne_true]
                        split at el
                        next fv => exact fin σ4 ρ4 F5 H5 acc xs ew p45 fv H5 (.inl rfl) (p45.keep D _ hH2 no1) (RpK.mono (le2.trans p45.le) ra) el
                        next => cases el
                      | true =>
                        have el : dcE vs fk fv acc (dcF vs h ft fk fv (ds.drop (i + 1))) ρ4 = some (.ok ys ρe) := el
                        rw [if_pos rfl]
                        unfold dcE at el
                        cases ek : fk ρ4 with
                        | none => simp only [M.bind, ek] at el; cases el
                        | some ok =>
                          refine ⟨ρ4, F5, Post.refl p5.hd, ok, ek, ?_⟩
                          cases ok with
                          | ex c ρ6 => simp only [M.bind, ek] at el; cases el
                          | ok kd ρ6 =>
                            intro kv F6 H6 p6 rk
                            cases ev : fv ρ6 with
                            | none => simp only [M.bind, ek, ev] at el; cases el
                            | some ov =>
                              refine ⟨ρ6, F6, Post.refl p6.hd, ov, ev, ?_⟩
                              cases ov with
                              | ex c ρ7 => simp only [M.bind, ek, ev] at el; cases el
                              | ok vd ρ7 =>
                                intro vv F7 H7 p7 rv
                                simp only [M.bind, ek, ev, M.ret] at el
                                cases eky : keyD kd with
                                | none => rw [eky] at el; cases el
                                | some key =>
                                  rw [eky] at el
                                  have el : (if acc.length < 16777216 ∧ freeV ρ7 vs = true then dcF vs h ft fk fv (ds.drop (i + 1)) (putE acc key vd) (wipeR ρ7 vs) else none) = some (.ok ys ρe) := el
                                  split at el
                                  next hc =>
                                    have p47 := (p45.trans p6).trans p7
                                    exact ⟨xs, key, keyD_kV rk eky, p47.keep D _ hH2 no1, by rw [slen, ra.len]; exact hc.1, fin σ4 ρ7 F7 H7 (putE acc key vd) (putK xs key vv) ew p47 hc.2 _ (.inr ⟨_, rfl⟩) upd_same (RpK.put rv (RpK.mono (le2.trans p47.le) ra)) el⟩
                                  next => cases el
          refine gmono _ _ _ _ _ (fun σ2 H3 ⟨e1, q1⟩ => ?_) wants
          rw [wipe_wipe] at e1
          exact ⟨e1, q1 e1⟩
        · have hi2 : i = ds.length := by omega
          subst hi2
          rw [List.drop_length] at el
          cases el
          refine .inl ⟨ir.stop F' H' le p.hd.le, q _ F' H' (p0.unwipe hv le p hw) ⟨rfl, ⟨D, _, rfl, hH, hf, xs, rfl, ra⟩, fun a ea => ?_⟩⟩
          rw [List.mem_singleton.mp (show a ∈ [D] from ea)]
          refine ⟨nwD, fun ⟨j, b, mm, w, e1, s1, k1⟩ => ?_⟩
          rcases backR_get e1 with ⟨hj, e2⟩ | ⟨hj, e2⟩
          · have := List.all_eq_true.mp hv j hj
            rw [e2] at this
            cases this
          · exact no ⟨j, b, mm, w, e2, wipe_get s1 hj, k1⟩
  next => cases e
def eDc (vs : List Nat) (fi : M (List PyData)) (h : PyData → M Fl) (ft : M Bool) (fk fv : M Rf) : M Rf := fi.bind fun ds => dcM vs h ft (fk.bind frz) (fv.bind frz) ds
section
variable {X : Cx} {W : WX} {kx vx tg iter : Expr} {ifs : List Expr} {scope : Scope} {own : List (Str × Nat)} {vs : List Nat} {pos spos py : Pos} {g : TG} {h : PyData → M Fl} {ft : M Bool} {fk fv : M Rf} {fi : M (List PyData)}
theorem r_dc (hvs : own.map (·.2) = vs) (hc : X.calm = true) (hN : X.N.Nodup) (hi : EvI X W tg iter fi) (ok : BlkOk X.N X.env.scope scope own) (ht : TgR X.K g h) (tw : TgW g vs) (tm : TgM g)
    (hg : ∀ (s : Shared) (H : Hp) (C : Addr) (cl : List (Str × Addr)) (fp : List Addr), PG (X.blk s H scope (compEnvC scope cl C X.env) fp) tg g) (hq : ∀ (s : Shared) (H : Hp) (C : Addr) (cl : List (Str × Addr)) (fp : List Addr), EvQ (X.blk s H scope (compEnvC scope cl C X.env) fp) W0 ifs ft)
    (hk : ∀ (s : Shared) (H : Hp) (C : Addr) (cl : List (Str × Addr)) (fp : List Addr), EvO (X.blk s H scope (compEnvC scope cl C X.env) fp) W0 kx fk)
    (he : ∀ (s : Shared) (H : Hp) (C : Addr) (cl : List (Str × Addr)) (fp : List Addr), EvO (X.blk s H scope (compEnvC scope cl C X.env) fp) W0 vx fv) (hs : ∀ x, foldedSetIterable iter X.env x = pure x := by intro _; rfl) :
    EvO X W (.DictComp kx vx [⟨tg, iter, ifs, 0⟩] scope pos) (eDc vs fi h ft fk fv) := by
  subst hvs
  exact peI (pe_dc hc hN hi ok hg hq (fun s H C cl fp => ev_frz (hk s H C cl fp)) (fun s H C cl fp => ev_frz (he s H C cl fp)) hs) fun σ H Q ⟨ρ, F, r⟩ => ⟨ρ, F, r.bind.mono fun J H1 ⟨ds, ρ1, F1, ir, p, r1⟩ D hD => dc_read (S := ⟨σ, ρ, F, H⟩) ht tw tm r1 ir D hD⟩
end
theorem eDc_ap {vs : List Nat} {fi : M (List PyData)} {h : PyData → M Fl} {ft : M Bool} {fk fv : M Rf} {ρ : Rho} : eDc vs fi h ft fk fv ρ = thenO (fi ρ) (dcM vs h ft (fk.bind frz) (fv.bind frz)) := rfl
end Vs

/-! Vs, what a plain function brings about: Wp, one rule for each word. -/
namespace Vs
open PySem PySem.Spec L2
abbrev Px := Er → Rho → Prop
def Sat {α : Type} (Q : α → Rho → Prop) (E : Px) : Option (Out α) → Prop
  | none => False
  | some (.ok x ρ) => Q x ρ
  | some (.ex c ρ) => E c ρ
def Wp {α : Type} (f : M α) (ρ : Rho) (Q : α → Rho → Prop) (E : Px) : Prop := Sat Q E (f ρ)
section
variable {α β : Type} {E E' : Px} {ρ ρ1 ρ' : Rho}
theorem Wp.eq {f : M α} {Q : α → Rho → Prop} {x : α} (e : f ρ = some (.ok x ρ1)) (q : Q x ρ1) : Wp f ρ Q E := by unfold Wp; rw [e]; exact q
theorem Wp.mono {f : M α} {Q Q' : α → Rho → Prop} (w : Wp f ρ Q E) (h : ∀ x ρ, Q x ρ → Q' x ρ) (h' : ∀ x ρ, E x ρ → E' x ρ) : Wp f ρ Q' E' := by
  unfold Wp at w ⊢
  cases e : f ρ with
  | none => rw [e] at w; exact w
  | some o =>
    rw [e] at w
    cases o with
    | ok x ρ2 => exact h _ _ w
    | ex c ρ2 => exact h' _ _ w
theorem Wp.imp {f : M α} {Q Q' : α → Rho → Prop} (w : Wp f ρ Q E) (h : ∀ x ρ, Q x ρ → Q' x ρ) : Wp f ρ Q' E := w.mono h fun _ _ z => z
abbrev nx : Px := fun _ _ => False
/-- a run that ends well has a value -/
theorem Wp.get {f : M α} {Q : α → Rho → Prop} (w : Wp f ρ Q nx) : ∃ x ρ', f ρ = some (.ok x ρ') ∧ Q x ρ' := by
  unfold Wp at w
  cases e : f ρ with
  | none => rw [e] at w; exact w.elim
  | some o =>
    rw [e] at w
    cases o with
    | ok x ρ2 => exact ⟨x, ρ2, rfl, w⟩
    | ex c ρ2 => exact False.elim w
theorem w_bind {f : M α} {k : α → M β} {Q : β → Rho → Prop} (w : Wp f ρ (fun x ρ1 => Wp (k x) ρ1 Q E) E) : Wp (M.bind f k) ρ Q E := by
  unfold Wp at w ⊢
  show Sat Q E (match f ρ with | none => none | some (.ok x ρ') => k x ρ' | some (.ex c ρ') => some (.ex c ρ'))
  cases e : f ρ with
  | none => rw [e] at w; exact w
  | some o =>
    rw [e] at w
    cases o with
    | ok x ρ2 => exact w
    | ex c ρ2 => exact w
theorem w_ret {x : α} {Q : α → Rho → Prop} (q : Q x ρ) : Wp (M.ret x) ρ Q E := q
end
section
variable {E : Px} {ρ ρ1 ρ' : Rho} {f g t u : M Rf} {h : O → O → Option O} {Q : Rf → Rho → Prop} {QB : Bool → Rho → Prop} {QF : Fl → Rho → Prop} {QL : List PyData → Rho → Prop} {QD : PyData → Rho → Prop} {QI : Option Int → Rho → Prop} {QR : List Rf → Rho → Prop} {QG : List Arg → Rho → Prop}
theorem w_V {i : Nat} {o : O} (e : ρ[i]? = some (some o)) (q : Q (.s i) ρ) : Wp (eV i) ρ Q E := .eq (eV_ap e) q
theorem w_C {d : PyData} (q : Q (.o (.fz d)) ρ) : Wp (eC d) ρ Q E := q
theorem w_dr2 {x y : Rf} {a b o : O} (ex : rdO ρ x = some a) (ey : rdO ρ y = some b) (e : h a b = some o) (q : Q (.o o) ρ) : Wp (dr2 h x y) ρ Q E := .eq (by rw [dr2_ap, ex, ey, dr2P_ap, e, dr2O_ap]) q
theorem w_Op (w : Wp f ρ (fun x ρ1 => Wp g ρ1 (fun y ρ2 => Wp (dr2 h x y) ρ2 Q E) E) E) : Wp (eOp h f g) ρ Q E := w_bind (w.imp fun _ _ w => w_bind w)
theorem w_dr2B {x y : Rf} {a b : O} {c : Bool} (ex : rdO ρ x = some a) (ey : rdO ρ y = some b) (e : h a b = some (.fz (.bool c))) (q : QB c ρ) : Wp (dr2B h x y) ρ QB E := .eq (by rw [dr2B_ap, ex, ey, dr2BP_ap, e, dr2BO_ap]) q
theorem w_Ts (w : Wp f ρ (fun x ρ1 => Wp g ρ1 (fun y ρ2 => Wp (dr2B h x y) ρ2 QB E) E) E) : Wp (eTs h f g) ρ QB E := w_bind (w.imp fun _ _ w => w_bind w)
theorem w_dr1 {h : O → Option O} {x : Rf} {a o : O} (ex : rdO ρ x = some a) (e : h a = some o) (q : Q (.o o) ρ) : Wp (dr1 h x) ρ Q E := .eq (dr1_eq h x ρ ex e) q
theorem w_Un {h : O → Option O} (w : Wp f ρ (fun x ρ1 => Wp (dr1 h x) ρ1 Q E) E) : Wp (eUn h f) ρ Q E := w_bind w
theorem w_drN {h : List O → Option O} {xs : List Rf} {os : List O} {o : O} (ex : rdL ρ xs = some os) (e : h os = some o) (q : Q (.o o) ρ) : Wp (drN h xs) ρ Q E := .eq (by rw [drN_ap, ex, drNP_ap, e, dr2O_ap]) q
theorem w_CN {h : List O → Option O} {l : M (List Rf)} (w : Wp l ρ (fun xs ρ1 => Wp (drN h xs) ρ1 Q E) E) : Wp (eCN h l) ρ Q E := w_bind w
theorem w_lN (q : QR [] ρ) : Wp lN ρ QR E := q
theorem w_lC {l : M (List Rf)} (w : Wp f ρ (fun x ρ1 => Wp l ρ1 (fun xs ρ2 => QR (x :: xs) ρ2) E) E) : Wp (lC f l) ρ QR E := w_bind (w.imp fun _ _ w => w_bind w)
theorem w_frzO {d : PyData} (q : QD d ρ) : Wp (frz (.o (.fz d))) ρ QD E := q
theorem w_frzM {b : Bool} {es : List (Key × PyData)} (q : QD (Mu.view (.dct es)) ρ) : Wp (frz (.o (.mu b (.dct es)))) ρ QD E := q
theorem w_frzL {b : Bool} {ds : List PyData} (q : QD (.list ds) ρ) : Wp (frz (.o (.mu b (.lst ds)))) ρ QD E := q
theorem w_frzS {i : Nat} {d : PyData} (e : ρ[i]? = some (some (.fz d))) (q : QD d ρ) : Wp (frz (.s i)) ρ QD E := .eq (frz_sf e) q
theorem w_frzT {i : Nat} {es : List (Key × PyData)} (e : ρ[i]? = some (some (.mu false (.dct es)))) (e2 : ρ.set i (some (.fz (Mu.view (.dct es)))) = ρ') (q : QD (Mu.view (.dct es)) ρ') : Wp (frz (.s i)) ρ QD E := .eq (frz_smx rfl e) (by
  show QD (Mu.view (.dct es)) (ρ.set i (some (.fz (Mu.view (.dct es)))))
  rw [e2]; exact q)
theorem w_frzU {i : Nat} {ds : List PyData} (e : ρ[i]? = some (some (.mu false (.lst ds)))) (e2 : ρ.set i (some (.fz (.list ds))) = ρ') (q : QD (.list ds) ρ') : Wp (frz (.s i)) ρ QD E := .eq (frz_smx rfl e) (by rw [e2]; exact q)
theorem w_aN (q : QL [] ρ) : Wp aN ρ QL E := q
theorem w_aC {l : M (List PyData)} (w : Wp f ρ (fun x ρ1 => Wp (frz x) ρ1 (fun d ρ2 => Wp l ρ2 (fun ds ρ3 => QL (d :: ds) ρ3) E) E) E) : Wp (aC f l) ρ QL E := w_bind (w_bind (w.imp fun _ _ w => w.imp fun _ _ w => w_bind w))
theorem w_aS {l : M (List PyData)} (w : Wp f ρ (fun x ρ1 => Wp (frz x) ρ1 (fun d ρ2 => Wp (splice d l) ρ2 QL E) E) E) : Wp (aS f l) ρ QL E := w_bind (w_bind w)
theorem w_spl {l : M (List PyData)} {ds : List PyData} (w : Wp l ρ (fun rs ρ1 => QL (ds ++ rs) ρ1) E) : Wp (splice (.list ds) l) ρ QL E := w_bind w
theorem w_spt {l : M (List PyData)} {ds : List PyData} (w : Wp l ρ (fun rs ρ1 => QL (ds ++ rs) ρ1) E) : Wp (splice (.tuple ds) l) ρ QL E := w_bind w
theorem w_Tup {l : M (List PyData)} (w : Wp l ρ (fun ds ρ1 => Wp (tupK ds) ρ1 Q E) E) : Wp (eTup l) ρ Q E := w_bind w
theorem w_tupK {ds : List PyData} (e : ds.length ≤ 16777216) (q : Q (.o (.fz (.tuple ds))) ρ) : Wp (tupK ds) ρ Q E := .eq (tupK_ap e) q
theorem w_Lst {l : M (List PyData)} (w : Wp l ρ (fun ds ρ1 => Wp (lstK ds) ρ1 Q E) E) : Wp (eLst l) ρ Q E := w_bind w
theorem w_lstK {ds : List PyData} (e : ds.length ≤ 16777216) (q : Q (.o (.mu false (.lst ds))) ρ) : Wp (lstK ds) ρ Q E := .eq (lstK_ap e) q
theorem w_Dct (q : Q (.o (.mu false (.dct []))) ρ) : Wp eDct ρ Q E := q
theorem w_pN (q : QI none ρ) : Wp pN ρ QI E := q
theorem w_pI (w : Wp f ρ (fun x ρ1 => Wp (asInt x) ρ1 QI E) E) : Wp (pI f) ρ QI E := w_bind w
theorem w_asInt {x : Rf} {a : O} {i : Int} (e : rdO ρ x = some a) (e2 : a.view = .int i) (q : QI (some i) ρ) : Wp (asInt x) ρ QI E := .eq (asInt_ap e e2) q
theorem w_Sl {g h : M (Option Int)} (w : Wp f ρ (fun x ρ1 => Wp g ρ1 (fun l ρ2 => Wp h ρ2 (fun u ρ3 => Wp (slK2 x l u) ρ3 Q E) E) E) E) : Wp (eSl f g h) ρ Q E := w_bind (w.imp fun _ _ w => w_bind (w.imp fun _ _ w => w_bind w))
theorem w_slK2 {x : Rf} {l u : Option Int} {a o : O} (ex : rdO ρ x = some a) (e : hSl a l u = some o) (q : Q (.o o) ρ) : Wp (slK2 x l u) ρ Q E := w_dr1 (h := fun a => hSl a l u) ex e q
theorem w_Tr (w : Wp f ρ (fun x ρ1 => Wp (tru x) ρ1 QB E) E) : Wp (tTr f) ρ QB E := w_bind w
theorem w_tru {x : Rf} {a : O} {b : Bool} (e : rdO ρ x = some a) (e2 : truD a.view = some b) (q : QB b ρ) : Wp (tru x) ρ QB E := .eq (tru_ap e e2) q
theorem w_asB {x : Rf} {a : O} {b : Bool} (e : rdO ρ x = some a) (e2 : a.view = .bool b) (q : QB b ρ) : Wp (asB x) ρ QB E := .eq (by unfold asB; rw [e]; simp only [e2]) q
theorem w_tNt {t : M Bool} (w : Wp t ρ (fun b ρ1 => QB (!b) ρ1) E) : Wp (tNt t) ρ QB E := w_bind w
theorem w_tAn {t u : M Bool} (w : Wp t ρ (fun b ρ1 => Wp (andK u b) ρ1 QB E) E) : Wp (tAn t u) ρ QB E := w_bind w
theorem w_tO {t u : M Bool} (w : Wp t ρ (fun b ρ1 => Wp (orK u b) ρ1 QB E) E) : Wp (tO t u) ρ QB E := w_bind w
theorem w_andT {u : M Bool} (w : Wp u ρ QB E) : Wp (andK u true) ρ QB E := w
theorem w_andF {u : M Bool} (q : QB false ρ) : Wp (andK u false) ρ QB E := q
theorem w_andD {u : M Bool} {p : Prop} {dp : Decidable p} (h1 : p → Wp u ρ QB E) (h0 : ¬p → QB false ρ) : Wp (andK u (@decide p dp)) ρ QB E := by
  cases dp with
  | isTrue h => exact h1 h
  | isFalse h => exact h0 h
theorem w_orT {u : M Bool} (q : QB true ρ) : Wp (orK u true) ρ QB E := q
theorem w_orF {u : M Bool} (w : Wp u ρ QB E) : Wp (orK u false) ρ QB E := w
theorem w_orD {u : M Bool} {p : Prop} {dp : Decidable p} (h1 : p → QB true ρ) (h0 : ¬p → Wp u ρ QB E) : Wp (orK u (@decide p dp)) ρ QB E := by
  cases dp with
  | isTrue h => exact h1 h
  | isFalse h => exact h0 h
def ntO (k : Bool) : M Rf := M.ret (.o (.fz (.bool !k)))
theorem w_Nt (w : Wp f ρ (fun x ρ1 => Wp (asB x) ρ1 (fun k ρ2 => Q (.o (.fz (.bool !k))) ρ2) E) E) : Wp (eNt f) ρ Q E := w_bind (w.imp fun _ _ w => w_bind w)
def anO (g : M Rf) (k : Bool) : M Rf := if k then g else M.ret (.o (.fz (.bool false)))
def orO (g : M Rf) (k : Bool) : M Rf := if k then M.ret (.o (.fz (.bool true))) else g
theorem w_An (w : Wp f ρ (fun x ρ1 => Wp (asB x) ρ1 (fun k ρ2 => Wp (anO g k) ρ2 Q E) E) E) : Wp (eAn f g) ρ Q E := w_bind (w.imp fun _ _ w => w_bind w)
theorem w_Or (w : Wp f ρ (fun x ρ1 => Wp (asB x) ρ1 (fun k ρ2 => Wp (orO g k) ρ2 Q E) E) E) : Wp (eOr f g) ρ Q E := w_bind (w.imp fun _ _ w => w_bind w)
theorem w_anT (w : Wp g ρ Q E) : Wp (anO g true) ρ Q E := w
theorem w_anF (q : Q (.o (.fz (.bool false))) ρ) : Wp (anO g false) ρ Q E := q
theorem w_anD {p : Prop} {dp : Decidable p} (h1 : p → Wp g ρ Q E) (h0 : ¬p → Q (.o (.fz (.bool false))) ρ) : Wp (anO g (@decide p dp)) ρ Q E := by
  cases dp with
  | isTrue h => exact h1 h
  | isFalse h => exact h0 h
theorem w_oT (q : Q (.o (.fz (.bool true))) ρ) : Wp (orO g true) ρ Q E := q
theorem w_oF (w : Wp g ρ Q E) : Wp (orO g false) ρ Q E := w
theorem w_oD {p : Prop} {dp : Decidable p} (h1 : p → Q (.o (.fz (.bool true))) ρ) (h0 : ¬p → Wp g ρ Q E) : Wp (orO g (@decide p dp)) ρ Q E := by
  cases dp with
  | isTrue h => exact h1 h
  | isFalse h => exact h0 h
def ixK (f g : M Rf) (k : Bool) : M Rf := if k then f else g
theorem w_IfX {t : M Bool} (w : Wp t ρ (fun b ρ1 => Wp (ixK f g b) ρ1 Q E) E) : Wp (eIf t f g) ρ Q E := w_bind w
theorem w_ixT (w : Wp f ρ Q E) : Wp (ixK f g true) ρ Q E := w
theorem w_ixF (w : Wp g ρ Q E) : Wp (ixK f g false) ρ Q E := w
theorem w_ixD {p : Prop} {dp : Decidable p} (h1 : p → Wp f ρ Q E) (h0 : ¬p → Wp g ρ Q E) : Wp (ixK f g (@decide p dp)) ρ Q E := by
  cases dp with
  | isTrue h => exact h1 h
  | isFalse h => exact h0 h
theorem w_iT (q : QB true ρ) : Wp iT ρ QB E := q
theorem w_iV (w : Wp f ρ (fun x ρ1 => Wp (frz x) ρ1 (fun d ρ2 => Wp (iterD d) ρ2 QL E) E) E) : Wp (iV f) ρ QL E := w_bind (w_bind w)
theorem w_itl {ds : List PyData} (q : QL ds ρ) : Wp (iterD (.list ds)) ρ QL E := q
theorem w_itt {ds : List PyData} (q : QL ds ρ) : Wp (iterD (.tuple ds)) ρ QL E := q
theorem w_its {z : Str} (q : QL (z.cps.toList.map fun c => .str ⟨#[c]⟩) ρ) : Wp (iterD (.str z)) ρ QL E := q
theorem w_iR1 {l : M (List PyData)} (w : Wp l ρ (fun ds ρ1 => Wp (rng1 ds) ρ1 QL E) E) : Wp (iR1 l) ρ QL E := w_bind w
theorem w_iR2 {l : M (List PyData)} (w : Wp l ρ (fun ds ρ1 => Wp (rng2 ds) ρ1 QL E) E) : Wp (iR2 l) ρ QL E := w_bind w
theorem w_rng1 {j : Int} (e : -(2 ^ 62) ≤ j ∧ j < 2 ^ 62) (q : QL (rangeD 0 j.toNat) ρ) : Wp (rng1 [.int j]) ρ QL E := .eq (rng1_ap e) q
theorem w_rng2 {i j : Int} (e : (-(2 ^ 62) ≤ i ∧ i < 2 ^ 62) ∧ -(2 ^ 62) ≤ j ∧ j < 2 ^ 62) (q : QL (rangeD i (j - i).toNat) ρ) : Wp (rng2 [.int i, .int j]) ρ QL E := .eq (show rng2 [.int i, .int j] ρ = _ by unfold rng2; simp only; rw [if_pos e]) q
theorem w_iE {l : M (List PyData)} (w : Wp l ρ (fun ds ρ1 => Wp (enumM ds) ρ1 QL E) E) : Wp (iE l) ρ QL E := w_bind w
theorem w_enT {xs : List PyData} (q : QL (enumD 0 xs) ρ) : Wp (enumM [.tuple xs]) ρ QL E := q
theorem w_enL {xs : List PyData} (q : QL (enumD 0 xs) ρ) : Wp (enumM [.list xs]) ρ QL E := q
theorem w_iZ {l : M (List PyData)} (w : Wp l ρ (fun ds ρ1 => Wp (zip2 ds) ρ1 QL E) E) : Wp (iZ l) ρ QL E := w_bind w
theorem w_zip2 {xs ys : List PyData} (q : QL (zipD xs ys) ρ) : Wp (zip2 [.tuple xs, .tuple ys]) ρ QL E := q
/-! statements -/
def seqK (g : M Fl) : Fl → M Fl
  | .nx => g
  | fl => M.ret fl
theorem w_Seq {f g : M Fl} (w : Wp f ρ (fun fl ρ1 => Wp (seqK g fl) ρ1 QF E) E) : Wp (sSeq f g) ρ QF E := by
  unfold Wp at w ⊢
  rw [seq_eq]
  cases e : f ρ with
  | none => rw [e] at w; exact w
  | some o =>
    rw [e] at w
    cases o with
    | ok x ρ2 => cases x <;> exact w
    | ex c ρ2 => exact w
theorem w_seqN {g : M Fl} (w : Wp g ρ QF E) : Wp (seqK g .nx) ρ QF E := w
theorem w_seqR {g : M Fl} {r : Rf} (q : QF (.rt r) ρ) : Wp (seqK g (.rt r)) ρ QF E := q
theorem w_seqB {g : M Fl} (q : QF .bk ρ) : Wp (seqK g .bk) ρ QF E := q
theorem w_seqC {g : M Fl} (q : QF .ct ρ) : Wp (seqK g .ct) ρ QF E := q
theorem w_sN (q : QF .nx ρ) : Wp sN ρ QF E := q
theorem w_sBk (q : QF .bk ρ) : Wp sBk ρ QF E := q
theorem w_sCt (q : QF .ct ρ) : Wp sCt ρ QF E := q
theorem w_Ret (w : Wp f ρ (fun r ρ1 => QF (.rt r) ρ1) E) : Wp (sRet f) ρ QF E := w_bind w
theorem w_RetN (q : QF (.rt (.o (.fz .none))) ρ) : Wp sRetN ρ QF E := q
theorem w_Ex (w : Wp f ρ (fun _ ρ1 => QF .nx ρ1) E) : Wp (sEx f) ρ QF E := w_bind w
theorem w_If {t : M Bool} {f g : M Fl} (w : Wp t ρ (fun b ρ1 => Wp (ifK f g b) ρ1 QF E) E) : Wp (sIf t f g) ρ QF E := w_bind w
theorem w_ifT {f g : M Fl} (w : Wp f ρ QF E) : Wp (ifK f g true) ρ QF E := w
theorem w_ifF {f g : M Fl} (w : Wp g ρ QF E) : Wp (ifK f g false) ρ QF E := w
theorem w_ifD {f g : M Fl} {p : Prop} {dp : Decidable p} (h1 : p → Wp f ρ QF E) (h0 : ¬p → Wp g ρ QF E) : Wp (ifK f g (@decide p dp)) ρ QF E := by
  cases dp with
  | isTrue h => exact h1 h
  | isFalse h => exact h0 h
/-- a slot that may be written -/
def Free (y : Option O) : Prop := ∀ m, y ≠ some (.mu true m)
theorem free_n : Free none := fun _ h => nomatch h
theorem free_f {d : PyData} : Free (some (.fz d)) := fun _ h => nomatch h
theorem free_m {m : Mu} : Free (some (.mu false m)) := fun _ h => nomatch h
theorem w_Set {i : Nat} (w : Wp f ρ (fun x ρ1 => Wp (setK i x) ρ1 QF E) E) : Wp (sSet i f) ρ QF E := w_bind w
theorem w_setO {i : Nat} {o : O} {y : Option O} (e : ρ[i]? = some y) (hf : Free y) (e2 : ρ.set i (some o) = ρ') (q : QF .nx ρ') : Wp (setK i (.o o)) ρ QF E := .eq (stM_ap e hf) (by rw [e2]; exact q)
theorem w_setS {i j : Nat} (w : Wp (frz (.s j)) ρ (fun d ρ1 => Wp (setK i (.o (.fz d))) ρ1 QF E) E) : Wp (setK i (.s j)) ρ QF E := w_bind (w_bind w)
theorem w_Asg {h : PyData → M Fl} (w : Wp f ρ (fun x ρ1 => Wp (frz x) ρ1 (fun d ρ2 => Wp (h d) ρ2 QF E) E) E) : Wp (sAsg f h) ρ QF E := w_bind (w_bind w)
theorem w_tgN {i : Nat} {d : PyData} {y : Option O} (e : ρ[i]? = some y) (hf : Free y) (e2 : ρ.set i (some (.fz d)) = ρ') (q : QF .nx ρ') : Wp (tgName i d) ρ QF E := .eq (stM_ap e hf) (by rw [e2]; exact q)
theorem w_tgT {n : Nat} {hs : List PyData → M Fl} {ds : List PyData} (e : ds.length = n) (w : Wp (hs ds) ρ QF E) : Wp (tgTup n hs (.tuple ds)) ρ QF E := by unfold Wp; rw [tgTup_ap e]; exact w
theorem w_tgC {i : Nat} {hs : List PyData → M Fl} {d : PyData} {ds : List PyData} {y : Option O} (e : ρ[i]? = some y) (hf : Free y) (e2 : ρ.set i (some (.fz d)) = ρ') (w : Wp (hs ds) ρ' QF E) : Wp (tgCons (tgName i) hs (d :: ds)) ρ QF E := by
  unfold Wp
  rw [tgCons_ap, tgName_ap, stM_ap e hf, e2, tgThen_ap]; exact w
theorem w_tgE (q : QF .nx ρ) : Wp (tgNil []) ρ QF E := q
theorem w_App {i : Nat} {b : Bool} {ds : List PyData} (e : ρ[i]? = some (some (.mu b (.lst ds)))) (w : Wp f ρ (fun x ρ1 => Wp (frz x) ρ1 (fun d ρ2 => Wp (appK i d) ρ2 QF E) E) E) : Wp (sApp i f) ρ QF E := by
  unfold Wp
  rw [sApp_ap e]
  exact w_bind (k := appK i) (w_bind w)
theorem w_appK {i : Nat} {d : PyData} {b : Bool} {ds : List PyData} (e : ρ[i]? = some (some (.mu b (.lst ds)))) (h : ds.length < 16777216) (e2 : ρ.set i (some (.mu b (.lst (ds ++ [d])))) = ρ') (q : QF .nx ρ') : Wp (appK i d) ρ QF E := .eq (appK_ap e h) (by rw [e2]; exact q)
theorem w_St {i : Nat} (w : Wp f ρ (fun x ρ1 => Wp (frz x) ρ1 (fun d ρ2 => Wp (stK i g d) ρ2 QF E) E) E) : Wp (sSt i f g) ρ QF E := by
  unfold Wp
  rw [sSt_ap]
  exact w_bind (k := stK i g) (w_bind w)
theorem w_stK {i : Nat} {d : PyData} {o : O} (e : ρ[i]? = some (some o)) (w : Wp g ρ (fun x ρ1 => Wp (frz x) ρ1 (fun k ρ2 => Wp (stKK i d k) ρ2 QF E) E) E) : Wp (stK i g d) ρ QF E := by
  unfold Wp
  rw [stK_ap e]
  exact w_bind (k := stKK i d) (w_bind w)
theorem w_stKK {i : Nat} {d k : PyData} {b : Bool} {m m' : Mu} (e : ρ[i]? = some (some (.mu b m))) (h : muSet k d m = some m') (e2 : ρ.set i (some (.mu b m')) = ρ') (q : QF .nx ρ') : Wp (stKK i d k) ρ QF E := .eq (stKK_ap e h) (by rw [e2]; exact q)
/-! loops -/
theorem w_For {fi : M (List PyData)} {h : PyData → M Fl} {fb : M Fl} (w : Wp fi ρ (fun ds ρ1 => Wp (forF h fb ds) ρ1 QF E) E) : Wp (sFor fi h fb) ρ QF E := w_bind w
/-- what a turn's end means -/
def Turn (J : Rho → Prop) (QF : Fl → Rho → Prop) : Fl → Rho → Prop
  | .nx, ρ => J ρ
  | .ct, ρ => J ρ
  | .bk, ρ => QF .nx ρ
  | .rt r, ρ => QF (.rt r) ρ
def tgK (fb : M Fl) : Fl → M Fl
  | .nx => fb
  | _ => fun _ => none
theorem w_tgK {fb : M Fl} (w : Wp fb ρ QF E) : Wp (tgK fb .nx) ρ QF E := w
theorem w_for {h : PyData → M Fl} {fb : M Fl} (J : List PyData → Rho → Prop) (step : ∀ d ds ρ, J (d :: ds) ρ → Wp (h d) ρ (fun fl ρ1 => Wp (tgK fb fl) ρ1 (Turn (J ds) QF) E) nx) :
    ∀ {ds : List PyData} {ρ : Rho}, J ds ρ → (∀ ρ, J [] ρ → QF .nx ρ) → Wp (forF h fb ds) ρ QF E
  | [], ρ, j, fin => fin ρ j
  | d :: ds, ρ, j, fin => by
    have w := step d ds ρ j
    unfold Wp at w ⊢
    show Sat QF E (forH fb (forF h fb ds) (h d ρ))
    cases e : h d ρ with
    | none => rw [e] at w; exact w.elim
    | some o =>
      rw [e] at w
      cases o with
      | ex c ρ2 => exact False.elim w
      | ok fl ρ1 =>
        cases fl with
        | bk => exact False.elim w
        | ct => exact False.elim w
        | rt r => exact False.elim w
        | nx =>
          have w : Sat (Turn (J ds) QF) E (fb ρ1) := w
          show Sat QF E (forK (forF h fb ds) (fb ρ1))
          cases e2 : fb ρ1 with
          | none => rw [e2] at w; exact w.elim
          | some o =>
            rw [e2] at w
            cases o with
            | ex c ρ2 => exact w
            | ok fl ρ2 =>
              cases fl with
              | nx => exact w_for J step w fin
              | ct => exact w_for J step w fin
              | bk => exact w
              | rt r => exact w
/-- wipeR, backR, slot by slot -/
def wipeA (vs : List Nat) : Nat → Rho → Rho
  | _, [] => []
  | i, y :: ρ => (if vs.contains i = true then none else y) :: wipeA vs (i + 1) ρ
def backA (vs : List Nat) : Nat → Rho → Rho → Rho
  | _, _, [] => []
  | i, [], y :: ρ => (if vs.contains i = true then none else y) :: backA vs (i + 1) [] ρ
  | i, z :: ρ0, y :: ρ => (if vs.contains i = true then z else y) :: backA vs (i + 1) ρ0 ρ
theorem wipeA_get {vs : List Nat} : ∀ {ρ : Rho} {k i : Nat}, (wipeA vs k ρ)[i]? = (ρ[i]?).map fun y => if vs.contains (k + i) = true then none else y
  | [], k, i => by simp [wipeA]
  | y :: ρ, k, 0 => by simp [wipeA]
  | y :: ρ, k, i + 1 => by
    have := wipeA_get (vs := vs) (ρ := ρ) (k := k + 1) (i := i)
    rw [show k + 1 + i = k + (i + 1) by omega] at this
    simpa [wipeA] using this
theorem backA_get {vs : List Nat} : ∀ {ρ ρ0 : Rho} {k i : Nat}, (backA vs k ρ0 ρ)[i]? = (ρ[i]?).map fun y => if vs.contains (k + i) = true then (ρ0[i]?).join else y
  | [], ρ0, k, i => by simp [backA]
  | y :: ρ, [], k, 0 => by simp [backA]
  | y :: ρ, z :: ρ0, k, 0 => by simp [backA]
  | y :: ρ, [], k, i + 1 => by
    have := backA_get (vs := vs) (ρ := ρ) (ρ0 := []) (k := k + 1) (i := i)
    rw [show k + 1 + i = k + (i + 1) by omega] at this
    simpa [backA] using this
  | y :: ρ, z :: ρ0, k, i + 1 => by
    have := backA_get (vs := vs) (ρ := ρ) (ρ0 := ρ0) (k := k + 1) (i := i)
    rw [show k + 1 + i = k + (i + 1) by omega] at this
    simpa [backA] using this
theorem wipeR_eq {vs : List Nat} {ρ : Rho} : wipeR ρ vs = wipeA vs 0 ρ := by
  apply List.ext_getElem?
  intro i
  rw [wipeA_get, Nat.zero_add]
  unfold wipeR
  rw [List.getElem?_mapIdx]
theorem backR_eq {vs : List Nat} {ρ ρ0 : Rho} : backR ρ0 ρ vs = backA vs 0 ρ0 ρ := by
  apply List.ext_getElem?
  intro i
  rw [backA_get, Nat.zero_add]
  unfold backR
  rw [List.getElem?_mapIdx]
def LcI (J : List PyData → Rho → Prop) (vs : List Nat) (acc : List PyData) (y : PyData) (ρ : Rho) : Prop := acc.length < 16777216 ∧ freeV ρ vs = true ∧ J (acc ++ [y]) (wipeA vs 0 ρ)
def lcK (vs : List Nat) (fe : M PyData) (J : List PyData → Rho → Prop) (acc : List PyData) (b : Bool) (ρ : Rho) : Prop := if b = true then Wp fe ρ (LcI J vs acc) nx else freeV ρ vs = true ∧ J acc (wipeA vs 0 ρ)
theorem lcK_T {vs : List Nat} {fe : M PyData} {J : List PyData → Rho → Prop} {acc : List PyData} (w : Wp fe ρ (LcI J vs acc) nx) : lcK vs fe J acc true ρ := w
theorem lcK_F {vs : List Nat} {fe : M PyData} {J : List PyData → Rho → Prop} {acc : List PyData} (w : freeV ρ vs = true ∧ J acc (wipeA vs 0 ρ)) : lcK vs fe J acc false ρ := w
theorem lcK_D {vs : List Nat} {fe : M PyData} {J : List PyData → Rho → Prop} {acc : List PyData} {p : Prop} {dp : Decidable p} (h1 : p → Wp fe ρ (LcI J vs acc) nx) (h0 : ¬p → freeV ρ vs = true ∧ J acc (wipeA vs 0 ρ)) : lcK vs fe J acc (@decide p dp) ρ := by
  cases dp with
  | isTrue h => exact h1 h
  | isFalse h => exact h0 h
theorem tgK_nx {fb : M Fl} {x : Fl} {P : Fl → Rho → Prop} (w : Wp (tgK fb x) ρ P nx) : x = .nx ∧ Wp fb ρ P nx := by
  cases x with
  | nx => exact ⟨rfl, w⟩
  | bk => exact w.elim
  | ct => exact w.elim
  | rt r => exact w.elim
theorem w_lcF {vs : List Nat} {h : PyData → M Fl} {ft : M Bool} {fe : M PyData} (J : List PyData → List PyData → Rho → Prop)
    (step : ∀ d ds acc ρ, J (d :: ds) acc ρ → Wp (h d) ρ (fun fl ρ1 => fl = .nx ∧ Wp ft ρ1 (lcK vs fe (J ds) acc) nx) nx) :
    ∀ {ds acc : List PyData} {ρ : Rho}, J ds acc ρ → Wp (fun ρ => lcF vs h ft fe ds acc ρ) ρ (J []) nx
  | [], acc, ρ, j => j
  | d :: ds, acc, ρ, j => by
    obtain ⟨fl, ρ1, e1, rfl, w⟩ := (step d ds acc ρ j).get
    obtain ⟨b, ρ2, e2, w⟩ := w.get
    unfold Wp
    show Sat _ _ (lcH vs ft fe acc (lcF vs h ft fe ds) (h d ρ))
    rw [e1]
    show Sat _ _ (lcT vs fe acc (lcF vs h ft fe ds) (ft ρ1))
    rw [e2]
    cases b with
    | true =>
      obtain ⟨y, ρ3, e3, hl, hv, j3⟩ := (show Wp fe ρ2 (LcI (J ds) vs acc) nx from w).get
      show Sat _ _ (lcE vs acc (lcF vs h ft fe ds) (fe ρ2))
      rw [e3]
      show Sat _ _ (if acc.length < 16777216 ∧ freeV ρ3 vs = true then lcF vs h ft fe ds (acc ++ [y]) (wipeR ρ3 vs) else none)
      rw [if_pos ⟨hl, hv⟩, wipeR_eq]
      exact w_lcF J step j3
    | false =>
      obtain ⟨hv, j3⟩ := (show freeV ρ2 vs = true ∧ J ds acc (wipeA vs 0 ρ2) from w)
      show Sat _ _ (if freeV ρ2 vs = true then lcF vs h ft fe ds acc (wipeR ρ2 vs) else none)
      rw [if_pos hv, wipeR_eq]
      exact w_lcF J step j3
theorem w_Lc {vs : List Nat} {fi : M (List PyData)} {h : PyData → M Fl} {ft : M Bool} (w : Wp fi ρ (fun ds ρ1 => Wp (lcM vs h ft (f.bind frz) ds) ρ1 Q E) E) : Wp (eLc vs fi h ft f) ρ Q E := w_bind w
theorem w_lc {vs : List Nat} {h : PyData → M Fl} {ft : M Bool} {fe : M PyData} (J : List PyData → List PyData → Rho → Prop) {ds : List PyData} {ρ0 : Rho} (hv : freeV ρ vs = true) (hw : wipeA vs 0 ρ = ρ0) (j : J ds [] ρ0)
    (step : ∀ d ds acc ρ, J (d :: ds) acc ρ → Wp (h d) ρ (fun fl ρ1 => fl = .nx ∧ Wp ft ρ1 (lcK vs fe (J ds) acc) nx) nx)
    (fin : ∀ ys ρ', J [] ys ρ' → Q (.o (.mu false (.lst ys))) (backA vs 0 ρ ρ')) : Wp (lcM vs h ft fe ds) ρ Q E := by
  subst hw
  obtain ⟨ys, ρ', e, j'⟩ := (w_lcF J step j).get
  rw [← wipeR_eq] at e
  exact .eq (lcM_ap hv e) (by rw [backR_eq]; exact fin ys ρ' j')
theorem w_ifB {f g : M Fl} {b : Bool} (h1 : b = true → Wp f ρ QF E) (h0 : b = false → Wp g ρ QF E) : Wp (ifK f g b) ρ QF E := by
  cases b with
  | true => exact h1 rfl
  | false => exact h0 rfl
theorem w_Dc {vs : List Nat} {fi : M (List PyData)} {h : PyData → M Fl} {ft : M Bool} {fk fv : M Rf} (w : Wp fi ρ (fun ds ρ1 => Wp (dcM vs h ft (fk.bind frz) (fv.bind frz) ds) ρ1 Q E) E) : Wp (eDc vs fi h ft fk fv) ρ Q E := w_bind w
def putS (K : PyData → Key) (F : PyData → PyData) (es : List (Key × PyData)) (d : PyData) : List (Key × PyData) := putE es (K d) (F d)
theorem putE_len (es : List (Key × PyData)) (k : Key) (d : PyData) : (putE es k d).length ≤ es.length + 1 := by
  unfold putE
  split
  · rw [List.length_map]; omega
  · rw [List.length_append, List.length_singleton]; omega
theorem w_dcF {vs : List Nat} {h : PyData → M Fl} {fk fv : M PyData} (K : PyData → Key) (F : PyData → PyData) {ρ : Rho} :
    ∀ {ds : List PyData} {acc : List (Key × PyData)}, (∀ d ∈ ds, Wp (h d) ρ (fun fl ρa => fl = .nx ∧ Wp (fk.bind fun k => fv.bind fun d => M.ret (k, d)) ρa (fun kd ρc => keyD kd.1 = some (K d) ∧ kd.2 = F d ∧ freeV ρc vs = true ∧ wipeA vs 0 ρc = ρ) nx) nx) →
      acc.length + ds.length < 16777216 → dcF vs h iT fk fv ds acc ρ = some (.ok (ds.foldl (putS K F) acc) ρ)
  | [], acc, _, _ => rfl
  | d :: ds, acc, st, hl => by
    have hl' : acc.length + (ds.length + 1) < 16777216 := hl
    obtain ⟨fl, ρ1, e1, rfl, w⟩ := (st d (List.mem_cons_self ..)).get
    obtain ⟨⟨kd, vd⟩, ρ2, e2, h1, h2, h3, h4⟩ := w.get
    show dcH vs iT fk fv acc (dcF vs h iT fk fv ds) (h d ρ) = _
    rw [e1]
    show dcE vs fk fv acc (dcF vs h iT fk fv ds) ρ1 = _
    unfold dcE
    rw [e2]
    simp only at h1 h2 ⊢
    rw [h1]
    simp only
    rw [if_pos ⟨by omega, h3⟩, wipeR_eq, h4, h2]
    have := putE_len acc (K d) (F d)
    exact w_dcF K F (fun x hx => st x (List.mem_cons_of_mem _ hx)) (by omega)
theorem w_dcA0 {vs : List Nat} {h : PyData → M Fl} {fk fv : M PyData} {ds : List PyData} (K : PyData → Key) (F : PyData → PyData) (hv : freeV ρ vs = true) (hw : wipeA vs 0 ρ = ρ) (hb : backA vs 0 ρ ρ = ρ) (hl : ds.length < 16777216)
    (st : ∀ d ∈ ds, Wp (h d) ρ (fun fl ρa => fl = .nx ∧ Wp (fk.bind fun k => fv.bind fun d => M.ret (k, d)) ρa (fun kd ρc => keyD kd.1 = some (K d) ∧ kd.2 = F d ∧ freeV ρc vs = true ∧ wipeA vs 0 ρc = ρ) nx) nx)
    (q : Q (.o (.mu false (.dct (ds.foldl (putS K F) [])))) ρ) : Wp (dcM vs h iT fk fv ds) ρ Q E := by
  refine .eq (x := .o (.mu false (.dct (ds.foldl (putS K F) [])))) (ρ1 := ρ) ?_ q
  unfold dcM
  rw [if_pos hv, wipeR_eq, hw, w_dcF K F st (by simp; omega)]
  simp only [backR_eq, hb]
/-! calls -/
def fzs : List Arg → Option (List PyData)
  | [] => some []
  | .fz d :: xs => (fzs xs).map (d :: ·)
  | .br _ :: _ => none
theorem fzs_n : fzs [] = some [] := rfl
theorem fzs_c {d : PyData} {xs : List Arg} {ds : List PyData} (e : fzs xs = some ds) : fzs (.fz d :: xs) = some (d :: ds) := by show (fzs xs).map _ = _; rw [e]; rfl
def fzR : List PyData → Rho
  | [] => []
  | d :: ds => some (.fz d) :: fzR ds
theorem fzs_arg : ∀ {xs : List Arg} {ds : List PyData}, fzs xs = some ds → argE ρ xs = some (fzR ds) ∧ brOk xs = true ∧ (∀ i, brAt i xs = none) ∧ xs.length = ds.length
  | [], ds, e => by cases e; exact ⟨rfl, rfl, fun _ => rfl, rfl⟩
  | .fz d :: xs, ds, e => by
    cases e1 : fzs xs with
    | none => rw [show fzs (.fz d :: xs) = (fzs xs).map (d :: ·) from rfl, e1] at e; cases e
    | some ds' =>
      rw [show fzs (.fz d :: xs) = (fzs xs).map (d :: ·) from rfl, e1] at e
      cases e
      obtain ⟨a, b, c, l⟩ := fzs_arg e1
      exact ⟨by rw [argE_fz, a]; rfl, b, fun i => by rw [brAt_f, c i]; rfl, by simp [l]⟩
  | .br i :: xs, ds, e => by cases e
theorem back_none {xs : List Arg} {ρa : Rho} (h : ∀ i, brAt i xs = none) : back ρ xs ρa = ρ := by
  unfold back
  apply List.ext_getElem?
  intro i
  rw [List.getElem?_mapIdx]
  cases e : ρ[i]? with
  | none => rfl
  | some y =>
    show some (backF xs ρa i y) = _
    unfold backF
    rw [h i]
theorem back_br {i : Nat} {xs : List Arg} {ρa : Rho} {b b' : Bool} {m m' : Mu} (h : ∀ i, brAt i xs = none) (hi : ρ[i]? = some (some (.mu b m))) (ha : ρa[0]? = some (some (.mu b' m'))) : back ρ (.br i :: xs) ρa = ρ.set i (some (.mu b m')) := by
  unfold back
  have hlt := (List.getElem?_eq_some_iff.mp hi).1
  apply List.ext_getElem?
  intro j
  rw [List.getElem?_mapIdx]
  by_cases hj : i = j
  · subst hj
    rw [List.getElem?_set_self hlt, hi]
    show some (backF _ ρa i _) = _
    unfold backF
    rw [brAt_b, if_pos rfl]
    simp only [ha]
  · rw [List.getElem?_set_ne hj]
    cases e : ρ[j]? with
    | none => rfl
    | some y =>
      show some (backF _ ρa j y) = _
      unfold backF
      rw [brAt_b, if_neg hj, h j]
      rfl
theorem w_gN (q : QG [] ρ) : Wp gN ρ QG E := q
theorem w_gF {l : M (List Arg)} (w : Wp f ρ (fun x ρ1 => Wp (frz x) ρ1 (fun d ρ2 => Wp l ρ2 (fun ds ρ3 => QG (.fz d :: ds) ρ3) E) E) E) : Wp (gF f l) ρ QG E := w_bind (w_bind (w.imp fun _ _ w => w.imp fun _ _ w => w_bind w))
theorem w_gB {i : Nat} {l : M (List Arg)} {o : O} (e : ρ[i]? = some (some o)) (w : Wp l ρ (fun ds ρ3 => QG (.br i :: ds) ρ3) E) : Wp (gB i l) ρ QG E := by
  unfold Wp
  rw [gB_ap e]
  exact w_bind (k := consG (.br i)) w
theorem w_Call {gg : M O} {n : Nat} {l : M (List Arg)} (w : Wp l ρ (fun xs ρ1 => Wp (callN gg n xs) ρ1 Q E) E) : Wp (eCall gg n l) ρ Q E := w_bind w
/-- all arguments are frozen -/
theorem w_cF {gg : M O} {n : Nat} {xs : List Arg} {ds : List PyData} {a : Rho} (e : fzs xs = some ds) (hn : ds.length = n) (ea : fzR ds = a) (w : Wp gg a (fun o _ => Q (.o o) ρ) (fun c _ => E c ρ)) : Wp (callN gg n xs) ρ Q E := by
  subst ea
  obtain ⟨a, b, c, l⟩ := fzs_arg (ρ := ρ) e
  unfold Wp at w ⊢
  rw [callN_ap (l.trans hn), a, callA_ap, b, callBO_t]
  cases e2 : gg (fzR ds) with
  | none => rw [e2] at w; exact w
  | some o =>
    rw [e2] at w
    cases o with
    | ok x ρ2 => show Q (.o x) (back ρ xs ρ2); rw [back_none c]; exact w
    | ex x ρ2 => show E x (back ρ xs ρ2); rw [back_none c]; exact w
/-- what a call with one borrowed thing brings about -/
def BQ (ρ : Rho) (i : Nat) (b : Bool) (P : Rho → Prop) (ρa : Rho) : Prop := ∃ b' m' t ρ', ρa = some (.mu b' m') :: t ∧ ρ.set i (some (.mu b m')) = ρ' ∧ P ρ'
theorem bq {i : Nat} {b b' : Bool} {P : Rho → Prop} {m' : Mu} {t : Rho} (e : ρ.set i (some (.mu b m')) = ρ') (q : P ρ') : BQ ρ i b P (some (.mu b' m') :: t) := ⟨b', m', t, ρ', rfl, e, q⟩
theorem w_cB {gg : M O} {n i : Nat} {xs : List Arg} {ds : List PyData} {b : Bool} {m : Mu} {a : Rho} (e : fzs xs = some ds) (hn : ds.length + 1 = n) (hi : ρ[i]? = some (some (.mu b m))) (ea : fzR ds = a)
    (w : Wp gg (some (.mu true m) :: a) (fun o ρa => BQ ρ i b (Q (.o o)) ρa) (fun c ρa => BQ ρ i b (E c) ρa)) : Wp (callN gg n (.br i :: xs)) ρ Q E := by
  subst ea
  obtain ⟨a, b1, c, l⟩ := fzs_arg (ρ := ρ) e
  have hb : brOk (.br i :: xs) = true := by rw [brOk_b, c i, b1]; rfl
  unfold Wp at w ⊢
  rw [callN_ap (by simp; omega), argE_b hi, a, Option.map_some, callA_ap, hb, callBO_t]
  cases e2 : gg (some (.mu true m) :: fzR ds) with
  | none => rw [e2] at w; exact w
  | some o =>
    rw [e2] at w
    cases o with
    | ok x ρ2 =>
      obtain ⟨b', m', t, ρ', rfl, e3, q⟩ := w
      show Q (.o x) (back ρ (.br i :: xs) _); rw [back_br c hi rfl, e3]; exact q
    | ex x ρ2 =>
      obtain ⟨b', m', t, ρ', rfl, e3, q⟩ := w
      show E x (back ρ (.br i :: xs) _); rw [back_br c hi rfl, e3]; exact q
/-! a def -/
def DefQ (a : Rho) (QO : O → Rho → Prop) : Fl → Rho → Prop
  | .rt r, ρ => ∃ o s, resO ρ r = some o ∧ keepB a ρ = s ∧ QO o s
  | .nx, ρ => ∃ s, keepB a ρ = s ∧ QO (.fz .none) s
  | _, _ => False
def DefE (a : Rho) (E : Px) : Px := fun c ρ => ∃ s, keepB a ρ = s ∧ E c s
theorem dq {a s : Rho} {QO : O → Rho → Prop} {r : Rf} {o : O} (e : resO ρ r = some o) (e2 : keepB a ρ = s) (q : QO o s) : DefQ a QO (.rt r) ρ := ⟨o, s, e, e2, q⟩
theorem dqN {a s : Rho} {QO : O → Rho → Prop} (e2 : keepB a ρ = s) (q : QO (.fz .none) s) : DefQ a QO .nx ρ := ⟨s, e2, q⟩
theorem w_def {n N : Nat} {fB : M Fl} {a : Rho} {QO : O → Rho → Prop} (e : a.length = n) (e2 : a.all okArg = true) (e3 : a ++ List.replicate (N - n) none = ρ) (w : Wp fB ρ (DefQ a QO) (DefE a E)) : Wp (defG n N fB) a QO E := by
  unfold Wp at w ⊢
  rw [defG_ap e e2, e3]
  cases e4 : fB ρ with
  | none => rw [e4] at w; exact w
  | some o =>
    rw [e4] at w
    cases o with
    | ex c ρ2 => obtain ⟨s, e5, q⟩ := w; show E c (keepB a ρ2); rw [e5]; exact q
    | ok fl ρ2 =>
      cases fl with
      | nx => obtain ⟨s, e5, q⟩ := w; show QO _ (keepB a ρ2); rw [e5]; exact q
      | bk => exact w
      | ct => exact w
      | rt r =>
        obtain ⟨o, s, e5, e6, q⟩ := w
        show Sat QO E (match resO ρ2 r with | some o => some (.ok o (keepB a ρ2)) | none => none)
        rw [e5, e6]; exact q
end
section
variable {i j : Int} {x y : Str} {b : Bool}
theorem keepB_n {r : Rho} : keepB [] r = [] := rfl
theorem keepB_f {a r : Rho} {d : PyData} {z : Option O} : keepB (some (.fz d) :: a) (z :: r) = some (.fz d) :: keepB a r := by
  unfold keepB
  rw [List.mapIdx_cons]
  rfl
theorem keepB_m {a r : Rho} {m m' : Mu} : keepB (some (.mu true m) :: a) (some (.mu true m') :: r) = some (.mu true m') :: keepB a r := by
  unfold keepB
  rw [List.mapIdx_cons]
  rfl
theorem hEq_i : hEq (.fz (.int i)) (.fz (.int j)) = some (.fz (.bool (decide (i = j)))) := rfl
theorem hEq_s : hEq (.fz (.str x)) (.fz (.str y)) = some (.fz (.bool (decide (x = y)))) := by
  show some (O.fz (.bool (x == y))) = _
  have e : (x == y) = decide (x = y) := by
    by_cases h : x = y
    · subst h; simp
    · rw [decide_eq_false h]; exact beq_eq_false_iff_ne.mpr h
  rw [e]
theorem hNe_i : hNe (.fz (.int i)) (.fz (.int j)) = some (.fz (.bool (!decide (i = j)))) := rfl
theorem hIx_t0 {d : PyData} {ds : List PyData} : hIx (.fz (.tuple (d :: ds))) (.fz (.int 0)) = some (.fz d) := by
  show (atI (d :: ds) 0).map O.fz = _; rw [atI_0]; rfl
theorem hIx_t1 {d e : PyData} {ds : List PyData} : hIx (.fz (.tuple (d :: e :: ds))) (.fz (.int 1)) = some (.fz e) := by
  show (atI (d :: e :: ds) 1).map O.fz = _; rw [atI_1]; rfl
theorem hIx_t2 {d e f : PyData} {ds : List PyData} : hIx (.fz (.tuple (d :: e :: f :: ds))) (.fz (.int 2)) = some (.fz f) := by
  show (atI (d :: e :: f :: ds) 2).map O.fz = _; rw [atI_2]; rfl
theorem hIx_l0 {d : PyData} {ds : List PyData} {b : Bool} : hIx (.mu b (.lst (d :: ds))) (.fz (.int 0)) = some (.fz d) := by
  show (atI (d :: ds) 0).map O.fz = _; rw [atI_0]; rfl
theorem hIx_lt {a : O} {ds : List PyData} (hv : a.view = .list ds ∨ a.view = .tuple ds) (h0 : 0 ≤ i) (h : i < ds.length) : ∃ d, hIx a (.fz (.int i)) = some (.fz d) ∧ d ∈ ds := by
  obtain ⟨d, e, m⟩ := atI_lt h0 h
  refine ⟨d, ?_, m⟩
  rcases hv with hv | hv
  · show (ixD a.view (.int i)).map O.fz = _; rw [hv]; show (atI ds i).map O.fz = _; rw [e]; rfl
  · show (ixD a.view (.int i)).map O.fz = _; rw [hv]; show (atI ds i).map O.fz = _; rw [e]; rfl
theorem hSl_1 {d : PyData} {ds : List PyData} : hSl (.fz (.tuple (d :: ds))) (some 1) none = some (.fz (.tuple ds)) := by
  show some (O.fz (.tuple (cutL (d :: ds) (some 1) none))) = _
  rw [cutL_1]
end
end Vs

/-! Vs, own error classes: raise, try .. except X as e: return .. -/
namespace Vs
open PySem PySem.Spec L2
/-- an own error class over ValueError, made with a text -/
structure Cls (K : PySem.W.Frag) (mg : Str → Option Value) (x : Str) (C : Addr) : Prop where
  gl : mg x = some (.ref C)
  ex : PySem.W.excIn K C [.type "ValueError", .type "Exception", .type "BaseException", .type "object"] "ValueError.__new__" = true
  kp : PySem.W.keepIn K (.ref C) = true
  sb : PySem.W.subIn K (.ref C) (.type "BaseException") = some true
  ty : PySem.W.typeIn K (.ref C) = some (.type "type")
def sRaise (C : Addr) : M Fl := fun ρ => some (.ex C ρ)
section
variable {X : Cx} {W : WX} {x m : Str} {C : Addr} {j : Nat} {p p2 pos rpos : Pos}
theorem r_raise (T : Cls X.K X.mg x C) (hc : X.calm = true) (tk : L2N.Takes X W) (hg : Gl X x) (hdb : (x == ("__debug__" : Str)) = false := by decide) :
    EvS X W (.Raise (some (.Call (.Name x p) [.Constant (.str m) j p2] [] pos)) none rpos) (sRaise C) :=
  psI (L2N.ps_raise hc tk (L2N.pmk_own PySem.F.excBase_ValueError T.ex T.gl T.kp (raises_own T.sb T.ty) hg hdb)) fun D σ H ⟨ρ, F, r⟩ => by
    obtain ⟨pp, o, e, q⟩ := r
    cases e
    exact q none σ F H pp rfl
end
/-! ### what a handler answers about its error -/
/-- new things beside H -/
inductive Grown : Hp → Hp → Prop
  | refl (H : Hp) : Grown H H
  | add {H H' : Hp} {a : Addr} {o : HO} (h : Grown H H') (n : H' a = none) : Grown H (upd H' a o)
theorem Grown.trans {A B C : Hp} (h : Grown A B) (k : Grown B C) : Grown A C := by
  induction k with
  | refl => exact h
  | add _ n ih => exact .add ih n
theorem Grown.post {K : PySem.W.Frag} {S : Sta} {σ : L2.St} {ρ : Rho} {F A B : Hp} (p : Post K S σ ρ F A) (g : Grown A B) : Post K S σ ρ F B := by
  induction g with
  | refl => exact p
  | add _ n ih => exact ih.newO n
/-- slot i holds the error at a; the answer is b -/
def tHe (i : Nat) (a : Addr) (b : Bool) : TE := fun σ H Q => σ[i]? = some (some (.ref a)) ∧ ∀ H', Grown H H' → Q (.bl b) H'
section
variable {X : Cx} {i : Nat} {a D : Addr} {oe : Obj} {pn : List (Addr × Obj)} {e e1 e2 : Expr} {b b1 b2 : Bool} {pos p p2 p3 : Pos} {n x : Str}
theorem he_not (h : PE X e (tHe i a b)) : PE X (.UnaryOp .Not e pos) (tHe i a (!b)) := peI (pe_not h) fun σ H Q ⟨hs, q⟩ => ⟨hs, fun H' g => ⟨b, rfl, q H' g⟩⟩
theorem he_one {op : BoolOp} (h : PE X e (tHe i a b)) : PE X (.BoolOp op [e] pos) (tHe i a b) := pe_one h
theorem he_and {es : List Expr} (h : PE X e (tHe i a b1)) (k : PE X (.BoolOp .And (e2 :: es) pos) (tHe i a b2)) : PE X (.BoolOp .And (e :: e2 :: es) pos) (tHe i a (b1 && b2)) := peI (pe_and h k) fun σ H Q ⟨hs, q⟩ => ⟨hs, fun H' g => by
  refine ⟨b1, rfl, ?_⟩
  cases b1 with
  | true => exact ⟨hs, fun H'' g2 => q H'' (g.trans g2)⟩
  | false => exact q H' g⟩
theorem he_bl {j : Nat} : PE X (.Constant (.bool b) j pos) (tHe i a b) := peI pe_bl fun σ H Q ⟨hs, q⟩ => q H (.refl H)
/-- isinstance(e, C) -/
theorem he_isi {cv : Addr} (T : ExcC X.K D) (hz : Zc (.ref D) none oe) (hf : ∃ vs, oe.data = .fields vs) (hx : PE (X.suite a ((a, oe) :: pn)) e1 (tVar i)) (hgC : Gl X x) (hmC : X.mg x = some (.ref cv)) (e : PySem.W.kitOne X.K (.ref D) (.ref cv) = some b)
    (hg : Gl X "isinstance") (hm : X.mg "isinstance" = none) (hv : bootBuiltins "isinstance" = some (.builtin "isinstance")) (hd : (x == ("__debug__" : Str)) = false := by decide)
    (h1 : starEach [e1, .Name x p] X.env = (false, eval e1 X.env) :: starEach [.Name x p] X.env := by rfl) (h2 : starEach [.Name x p] X.env = (false, eval (.Name x p) X.env) :: starEach [] X.env := by rfl) (hpl : (backTo pos (starEach [.Name x p] X.env)).any (·.1) = false := by rfl) :
    PE (X.suite a ((a, oe) :: pn)) (.Call (.Name "isinstance" p2) [e1, .Name x p] [] pos) (tHe i a b) :=
  peI (pe_callB (X := X.suite a ((a, oe) :: pn)) (call_isE T hz hf) hg hm hv (pa_cons hx (pa_cons (pe_glob (v := .ref cv) (u := .ref cv) hgC hmC rfl hd) pa_nil h2) h1) (by decide) (by decide) h1 hpl) fun σ H Q ⟨hs, q⟩ =>
    ⟨.ref a, hs, _, .ref cv, b, rfl, fun u r => r, e, q H (.refl H)⟩
end
/-- isinstance(e, t), t a tuple of classes -/
def rIsT (K : PySem.W.Frag) (D a : Addr) : List V → Hp → VK → Prop := fun xs H Q => ∃ (t : Addr) (cs : List Addr) (b : Bool), xs = [.ref a, .ref t] ∧ SqT K H t (cs.map .ref) ∧ PySem.W.kitAny K (.ref D) (cs.map .ref) = some b ∧ Q (.bl b) H
theorem vals_refs : ∀ {cs : List Addr} {us : List Value}, Vals (cs.map V.ref) us → us = cs.map Value.ref
  | [], _, .nil => rfl
  | c :: cs, _, .cons r t => by
    cases r
    rw [vals_refs t]; rfl
theorem call_isT {X : Cx} {a D : Addr} {oe : Obj} {pn : List (Addr × Obj)} (C : ExcC X.K D) (hz : Zc (.ref D) none oe) (hf : ∃ vs, oe.data = .fields vs) : CallR (X.suite a ((a, oe) :: pn)) (.builtin "isinstance") (rIsT X.K D a) := by
  intro pins s σ H xs us Q I r h
  obtain ⟨t, cs, b, rfl, hq, e, q⟩ := h
  cases r with
  | cons rx rr =>
    cases rr with
    | cons rt rr =>
      cases rr
      cases rx
      cases rt
      obtain ⟨its, rv, p, _⟩ := I.tuple hq
      obtain ⟨o, ho, hc, n, hd⟩ := p
      have hits := vals_refs rv
      subst hits
      obtain ⟨hget, _⟩ := I.pin (a, oe) (List.mem_append.mpr (.inl List.mem_cons_self))
      obtain ⟨vs, hv⟩ := hf
      have J : PySem.W.InstAt s.heap a oe D none := by
        obtain ⟨oc, od, oda, osl⟩ := oe
        obtain ⟨h1, h2⟩ := hz
        dsimp only at h1 h2 hv
        subst h1 h2 hv
        exact ⟨hget, rfl, rfl, trivial⟩
      obtain ⟨oc, od, oda, osl⟩ := o
      dsimp only at hc hd
      subst hc hd
      exact PySem.W.kia_tup (PySem.W.handS_kitx_exc C.hg C.hk C.hs C.hd C.ha C.hn C.ht C.hm) I.kIn J ho e (fun z => nomatch z) fun tk => ⟨.bl b, H, I.kept (t' := tk) fun _ _ z => z, rfl, q⟩
/-- names of classes -/
inductive Names2 (X : Cx) : List Expr → List Addr → Prop
  | nil : Names2 X [] []
  | cons {x : Str} {p : Pos} {C : Addr} {es : List Expr} {cs : List Addr} (hg : Gl X x) (hm : X.mg x = some (.ref C)) (hd : (x == ("__debug__" : Str)) = false) (hs : starEach (.Name x p :: es) X.env = (false, eval (.Name x p) X.env) :: starEach es X.env) (h : Names2 X es cs) : Names2 X (.Name x p :: es) (C :: cs)
theorem Names2.pa {X : Cx} {a : Addr} {oe : Obj} {pn : List (Addr × Obj)} {es : List Expr} {cs : List Addr} (h : Names2 X es cs) : PA (X.suite a ((a, oe) :: pn)) es (fun _ H Q => Q (cs.map .ref) H) := by
  induction h with
  | nil => exact pa_nil
  | @cons x p C es cs hg hm hd hs h ih => exact pa_cons (X := X.suite a ((a, oe) :: pn)) (pe_glob (v := .ref C) (u := .ref C) hg hm rfl hd) ih hs
section
variable {X : Cx} {i : Nat} {a D : Addr} {oe : Obj} {pn : List (Addr × Obj)} {e1 : Expr} {b : Bool} {pos p2 p3 : Pos} {es : List Expr} {cs : List Addr} {k : Nat}
theorem he_isT (T : ExcC X.K D) (hz : Zc (.ref D) none oe) (hf : ∃ vs, oe.data = .fields vs) (hx : PE (X.suite a ((a, oe) :: pn)) e1 (tVar i)) (hN : Names2 X es cs) (hl : cs.length ≤ sizeLine) (e : PySem.W.kitAny X.K (.ref D) (cs.map .ref) = some b)
    (hg : Gl X "isinstance") (hm : X.mg "isinstance" = none) (hv : bootBuiltins "isinstance" = some (.builtin "isinstance"))
    (h1 : starEach [e1, .Tuple es k p3] X.env = (false, eval e1 X.env) :: starEach [.Tuple es k p3] X.env := by rfl) (h2 : starEach [.Tuple es k p3] X.env = (false, eval (.Tuple es k p3) X.env) :: starEach [] X.env := by rfl) (hpl : (backTo pos (starEach [.Tuple es k p3] X.env)).any (·.1) = false := by rfl) :
    PE (X.suite a ((a, oe) :: pn)) (.Call (.Name "isinstance" p2) [e1, .Tuple es k p3] [] pos) (tHe i a b) :=
  peI (pe_callB (X := X.suite a ((a, oe) :: pn)) (call_isT T hz hf) hg hm hv (pa_cons hx (pa_cons (pe_tup hN.pa) pa_nil h2) h1) (by decide) (by decide) h1 hpl) fun σ H Q ⟨hs, q⟩ =>
    ⟨.ref a, hs, by rw [List.length_map]; exact hl, fun t ht => ⟨t, cs, b, rfl, .inl (.inl upd_same), e, q _ (.add (.refl H) ht)⟩⟩
end
/-! ### try: B except X as n: return e -/
def tryO (hd : Addr → Option (Option Bool)) : Option (Out Fl) → Option (Out Fl)
  | some (.ex ⟨c, none⟩ ρ) => (match hd c with
    | some (some b) => some (.ok (.rt (.o (.fz (.bool b)))) ρ)
    | some none => some (.ex ⟨c, none⟩ ρ)
    | none => none)
  | some (.ex ⟨_, some _⟩ _) => none
  | o => o
def sTry (hd : Addr → Option (Option Bool)) (f : M Fl) : M Fl := fun ρ => tryO hd (f ρ)
/-- the handler's answers are right -/
def HdOk (X : Cx) (i : Nat) (cX : Addr) (e : Expr) (hd : Addr → Option (Option Bool)) : Prop :=
  ∀ c r, hd c = some r → match r with
    | some b => PySem.W.exmOne X.K (.ref c) (.ref cX) = some true ∧ ∀ (a : Addr) (oe : Obj) (pn : List (Addr × Obj)), Zc (.ref c) none oe → (∃ vs, oe.data = .fields vs) → PE (X.suite a ((a, oe) :: pn)) e (tHe i a b)
    | none => PySem.W.exmOne X.K (.ref c) (.ref cX) = some false
section
variable {X : Cx} {x n : Str} {cX : Addr} {i : Nat} {body : List Stmt} {e : Expr} {np pos pos' rp : Pos} {fB : M Fl} {Wout : WX} {hd : Addr → Option (Option Bool)}
theorem r_try (hs : X.stack = X.env :: X.outer) (hf : X.env.frame = some X.env.locals) (hN : X.N.Nodup) (hi : X.N[i]? = some n) (hln : X.env.kindOf n = some .local) (hc : Names X x (.ref cX)) (tk : L2N.Takes X Wout)
    (hb : ∀ (W : WX) (pn : List (Addr × Obj)) (xe : Value → Shared → Prop), L2N.Takes (X.tr pn xe) W → PassesOwn (model X.prog X.w) X.A X.env xe → EvB (X.tr pn xe) W body fB) (hh : HdOk X i cX e hd) :
    EvS X Wout (.Try body [.ExceptHandler (some (.Name x np)) (some n) [.Return (some e) rp] pos'] [] [] pos) (sTry hd fB) := by
  refine psI (L2N.ps_try_as (i := i) (tb := fun W => tS X.K W fB) (ts := fun a cls d => fun D σ H => ∃ c b, cls = .ref c ∧ d = none ∧ hd c = some (some b) ∧ (i < σ.length → σ[i]? = some (some (.ref a))) ∧ ∀ H', Grown H H' → D.rt (.bl b) H') hs hf hN hi hln hc tk hb (fun a oe cls d pn hz hfl => ?_)) fun D σ H ⟨ρ, F, r⟩ => ?_
  · refine pss_one ⟨fun pins s σ H D I ⟨c, b, e1, e2, e3, h1, h2⟩ => ?_⟩
    subst e1 e2
    have hl : i < σ.length := by
      rw [I.len]; exact (List.getElem?_eq_some_iff.mp hi).1
    exact (ps_ret ((hh c _ e3).2 a oe pn hz.zc hfl)).run pins s σ H D I ⟨h1 hl, h2⟩
  · obtain ⟨p, o, eo, q⟩ := r
    unfold sTry at eo
    cases ef : fB ρ with
    | none => rw [ef] at eo; cases eo
    | some of =>
      refine ⟨ρ, F, p, of, ef, ?_⟩
      rw [ef] at eo
      cases of with
      | ok fl ρ' =>
        cases eo
        cases fl <;> exact q
      | ex c ρ' =>
        obtain ⟨c, fs⟩ := c
        cases fs with
        | some _ => cases eo
        | none =>
        intro d σ' F' H' p' ed
        have ed : d = none := ed
        subst ed
        have eo : (match hd c with | some (some b) => some (.ok (.rt (.o (.fz (.bool b)))) ρ') | some none => some (.ex ⟨c, none⟩ ρ') | none => none) = some o := eo
        cases eh : hd c with
        | none => rw [eh] at eo; cases eo
        | some rr =>
          rw [eh] at eo
          cases rr with
          | none =>
            cases eo
            have hx := hh c _ eh
            exact ⟨false, hx, fun z => (nomatch z), fun _ => q none σ' F' H' p' rfl⟩
          | some b =>
            cases eo
            have hx := hh c _ eh
            refine ⟨true, hx.1, fun _ a na => ⟨c, b, rfl, rfl, eh, fun hlt => ?_, fun H'' g => ?_⟩, fun z => (nomatch z)⟩
            · rw [List.length_set] at hlt
              rw [List.getElem?_set_self hlt]
            · exact q (.bl b) σ' F' H'' (Grown.post p' g) (.bl b)
end
theorem w_try {hd : Addr → Option (Option Bool)} {f : M Fl} {ρ : Rho} {Q : Fl → Rho → Prop} {E : Px} (w : Wp f ρ Q fun c ρ' => match c with | ⟨c, none⟩ => (match hd c with | some (some b) => Q (.rt (.o (.fz (.bool b)))) ρ' | some none => E ⟨c, none⟩ ρ' | none => False) | _ => False) : Wp (sTry hd f) ρ Q E := by
  unfold Wp at w ⊢
  show Sat Q E (tryO hd (f ρ))
  cases e : f ρ with
  | none => rw [e] at w; exact w
  | some o =>
    rw [e] at w
    cases o with
    | ok x ρ2 => exact w
    | ex c ρ2 =>
      obtain ⟨c, fs⟩ := c
      cases fs with
      | some _ => exact w.elim
      | none =>
      have w : (match hd c with | some (some b) => Q (.rt (.o (.fz (.bool b)))) ρ2 | some none => E ⟨c, none⟩ ρ2 | none => False) := w
      show Sat Q E (match hd c with | some (some b) => some (.ok (.rt (.o (.fz (.bool b)))) ρ2) | some none => some (.ex ⟨c, none⟩ ρ2) | none => none)
      cases eh : hd c with
      | none => rw [eh] at w; exact w
      | some r =>
        rw [eh] at w
        cases r with
        | none => exact w
        | some b => exact w
theorem w_raise {C : Addr} {ρ : Rho} {Q : Fl → Rho → Prop} {E : Px} (q : E C ρ) : Wp (sRaise C) ρ Q E := q
end Vs

/-! Vs, the module's constants, x is None, facts of own classes. -/
namespace Vs
open PySem PySem.Spec L2
/-- plain values of the module -/
def conV : Value → Option PyData
  | .none => some .none
  | .bool b => some (.bool b)
  | .int i _ => some (.int i)
  | .str x _ => some (.str x)
  | _ => none
def conL : List Value → Option (List PyData)
  | [] => some []
  | v :: vs => match conV v, conL vs with
    | some d, some ds => some (d :: ds)
    | _, _ => none
theorem conV_ok {v : Value} {d : PyData} (h : conV v = some d) : ∃ w, RelV w v ∧ ∀ (K : PySem.W.Frag) (F : Hp), Rp K F w d := by
  cases v <;> simp only [conV, Option.some.injEq, reduceCtorEq] at h
  · subst h; exact ⟨.non, rfl, fun _ _ => .non⟩
  · subst h; exact ⟨.bl _, rfl, fun _ _ => .bl _⟩
  · subst h; exact ⟨.int _, ⟨_, rfl⟩, fun _ _ => .int _⟩
  · subst h; exact ⟨.str _, ⟨_, rfl⟩, fun _ _ => .str _⟩
theorem conL_ok : ∀ {vs : List Value} {ds : List PyData}, conL vs = some ds → ∃ ws, Vals ws vs ∧ ∀ (K : PySem.W.Frag) (F : Hp), RpA K F ws ds
  | [], ds, h => by cases h; exact ⟨[], .nil, fun _ _ => .nil⟩
  | v :: vs, ds, h => by
    unfold conL at h
    split at h
    · rename_i d ds' h1 h2
      cases h
      obtain ⟨w, r, p⟩ := conV_ok h1
      obtain ⟨ws, rs, ps⟩ := conL_ok h2
      exact ⟨w :: ws, .cons r rs, fun K F => .cons (p K F) (ps K F)⟩
    · cases h
/-- the module's name x is the constant d -/
def Con (K : PySem.W.Frag) (mg : Str → Option Value) (x : Str) (d : PyData) : Prop := ∃ v w, mg x = some v ∧ RelV w v ∧ ∀ F : Hp, Rp K F w d
theorem con_v {K : PySem.W.Frag} {mg : Str → Option Value} {x : Str} {v : Value} {d : PyData} (h : mg x = some v) (e : conV v = some d) : Con K mg x d := by
  obtain ⟨w, r, p⟩ := conV_ok e
  exact ⟨v, w, h, r, p K⟩
theorem con_t {K : PySem.W.Frag} {mg : Str → Option Value} {x : Str} {a : Addr} {od : Option Addr} {its : Array Value} {n : Nat} {sl : Array (Option Value)} {ds : List PyData} (h : mg x = some (.ref a)) (l : K.lookup a = some ⟨.type "tuple", od, .seq its n, sl⟩) (e : conL its.toList = some ds) (hl : ds.length ≤ 1000) : Con K mg x (.tuple ds) := by
  obtain ⟨ws, r, p⟩ := conL_ok e
  have h1 := r.length
  have h2 := (p K fun _ => none).len
  refine ⟨.ref a, .ref a, h, rfl, fun F => .tup (.inr ⟨_, its, n, l, rfl, rfl, ?_, r⟩) (p K F)⟩
  rw [slen, ← Array.length_toList]
  omega
section
variable {X : Cx} {W : WX} {x : Str} {d : PyData} {pos : Pos} {e : Expr} {f : M Rf}
theorem r_con (c : Con X.K X.mg x d) (hg : Gl X x) (hd : (x == ("__debug__" : Str)) = false := by decide) : EvO X W (.Name x pos) (eC d) := by
  obtain ⟨v, w, h, r, p⟩ := c
  exact ev_con (pe_glob hg h r hd) p
def isN : PyData → Bool
  | .none => true
  | _ => false
/-- x is None, x is not None -/
def hIsN (neg : Bool) (a b : O) : Option O := match a, b with
  | .fz d, .fz .none => some (.fz (.bool (if neg then !(isN d) else isN d)))
  | _, _ => none
theorem non_dec {K : PySem.W.Frag} {F : Hp} {v : V} {d : PyData} (h : Rp K F v d) : decide (v = .non) = isN d := by
  cases h <;> simp [isN]
theorem sn_isN {K : PySem.W.Frag} : Sn2 K (fun x y H Q => y = .non ∧ Q (.bl (decide (x = .non))) H) (hIsN false) := by
  intro S ρ F H v w a b o Q p ra rb e k
  unfold hIsN at e
  split at e
  · rename_i d
    cases e
    have h1 : Rp K F v d := ra
    have h2 : Rp K F w .none := rb
    cases h2
    refine ⟨rfl, k _ F H p ?_⟩
    rw [non_dec h1]
    exact .bl _
  · cases e
theorem sn_notN {K : PySem.W.Frag} : Sn2 K (fun x y H Q => y = .non ∧ Q (.bl (!decide (x = .non))) H) (hIsN true) := by
  intro S ρ F H v w a b o Q p ra rb e k
  unfold hIsN at e
  split at e
  · rename_i d
    cases e
    have h1 : Rp K F v d := ra
    have h2 : Rp K F w .none := rb
    cases h2
    refine ⟨rfl, k _ F H p ?_⟩
    rw [non_dec h1]
    exact .bl _
  · cases e
theorem r_chain {op op' : CmpOp} {r r' : R2} {h h' : O → O → Option O} {a b c : Expr} {f g k : M Rf} (ho : OpR X (compareOp op) r) (s : Sn2 X.K r h) (ho' : OpR X (compareOp op') r') (s' : Sn2 X.K r' h') (ha : EvO X W a f) (hb : EvO X W b g) (hc : EvO X W c k)
    (hm : lastMarks [op, op'] [b, c] = false := by with_unfolding_all rfl) : EvO X W (.Compare a [op, op'] [b, c] pos) (eCh h h' f g k) := ev_chain ho s ho' s' ha hb hc hm
end
/-! ### own classes: isinstance, except -/
structure ClsOk (K : PySem.W.Frag) (C : Addr) : Prop where
  i1 : PySem.W.isClsIn K C = true
  t1 : PySem.W.typeIn K (.ref C) = some (.type "type")
theorem kit_self {K : PySem.W.Frag} {C : Addr} : PySem.W.kitOne K (.ref C) (.ref C) = some true := if_pos (beq_self_eq_true _)
theorem kit_sub {K : PySem.W.Frag} {D C : Addr} {b : Bool} (hc : (PySem.W.clsIn K C).isSome = true) (ht : PySem.W.typeIn K (.ref C) = some (.type "type")) (hs : PySem.W.subIn K (.ref D) (.ref C) = some b) (hb : b = false → D ≠ C) (hr : D = C → b = true) : PySem.W.kitOne K (.ref D) (.ref C) = some b := by
  unfold PySem.W.kitOne
  by_cases h : D = C
  · subst h
    rw [if_pos (beq_self_eq_true _), hr rfl]
  · rw [if_neg (by intro z; exact h (Value.ref.inj (beq_iff_eq.mp z)))]
    show (if ((PySem.W.clsIn K C).isSome && PySem.W.typeIn K (.ref C) == some (.type "type")) = true then PySem.W.subIn K (.ref D) (.ref C) else none) = some b
    rw [hc, ht, if_pos (by rfl), hs]
theorem kitAny_nil {K : PySem.W.Frag} {t : Value} : PySem.W.kitAny K t [] = some false := rfl
theorem kitAny_f {K : PySem.W.Frag} {t c : Value} {cs : List Value} {b : Bool} (h : PySem.W.kitOne K t c = some false) (r : PySem.W.kitAny K t cs = some b) : PySem.W.kitAny K t (c :: cs) = some b := by
  unfold PySem.W.kitAny
  rw [h]; exact r
theorem kitAny_t {K : PySem.W.Frag} {t c : Value} {cs : List Value} (h : PySem.W.kitOne K t c = some true) : PySem.W.kitAny K t (c :: cs) = some true := by
  unfold PySem.W.kitAny
  rw [h]
theorem w_Ch {h h' : O → O → Option O} {f g k : M Rf} {ρ : Rho} {Q : Rf → Rho → Prop} {E : Px} (w : Wp f ρ (fun x ρ1 => Wp g ρ1 (fun y ρ2 => Wp (chK h h' k x y) ρ2 Q E) E) E) : Wp (eCh h h' f g k) ρ Q E := w_bind (w.imp fun _ _ w => w_bind w)
theorem w_chT {h h' : O → O → Option O} {k : M Rf} {x y : Rf} {ρ : Rho} {a b : O} {j : Int} {Q : Rf → Rho → Prop} {E : Px} (e1 : rdO ρ x = some a) (e2 : rdO ρ y = some b) (e3 : b.view = .int j) (e4 : h a b = some (.fz (.bool true))) (w : Wp k ρ (fun z ρ1 => Wp (dr2 h' (.o (.fz (.int j))) z) ρ1 Q E) E) : Wp (chK h h' k x y) ρ Q E := by
  unfold Wp
  rw [chK_t e1 e2 e3 e4]
  exact w_bind (k := fun z => dr2 h' (.o (.fz (.int j))) z) w
theorem w_chF {h h' : O → O → Option O} {k : M Rf} {x y : Rf} {ρ : Rho} {a b : O} {j : Int} {Q : Rf → Rho → Prop} {E : Px} (e1 : rdO ρ x = some a) (e2 : rdO ρ y = some b) (e3 : b.view = .int j) (e4 : h a b = some (.fz (.bool false))) (q : Q (.o (.fz (.bool false))) ρ) : Wp (chK h h' k x y) ρ Q E := by
  unfold Wp
  rw [chK_f e1 e2 e3 e4]
  exact q
end Vs

/-! Vs, tuple * whole number. -/
namespace Vs
open PySem PySem.Spec PyProof.Rows L2
open AutoSeq1 (wpAny_loadPart')
theorem tuple_mul1 (l : Addr) (items : Array Value) (n : Nat) (dd : Option Addr) (sl : Array (Option Value)) (u : Tok) (hne : items.isEmpty = false) :
    Meets (Builtin.«tuple.__mul__» ⟨[.ref l, .int 1 u], []⟩) (fun _ R s => s.heap.get? l = some { cls := .type "tuple", dict := dd, data := .seq items n, slots := sl } ∧
      R (.ok (.ret (Value.ref l))) { s with toks := s.toks }) :=
  .of_wp fun prog w A R s h => by
    obtain ⟨hp, g, d, tk, os⟩ := s
    obtain ⟨hl, h⟩ := h
    have f1 := AutoSeq1.idx_int
    have c0 : (decide ((1 : Int) < -(2 ^ 63)) || decide ((1 : Int) ≥ 2 ^ 63)) = false := by decide
    have c1 : (items.isEmpty || (1 : Int) == 1) = true := by rw [hne]; rfl
    wp_walk using wpAny_loadPart' hl
    repeat (first
      | (refine wpAny_ite_false (decide_eq_false (by rw [c0]; exact Bool.false_ne_true)) ?_; wp_walk using wpAny_loadPart' hl)
      | (refine wpAny_ite_true (decide_eq_true (by rw [c1])) ?_; wp_walk using wpAny_loadPart' hl))
    exact ⟨_, rfl, h⟩
def rRep1 (K : PySem.W.Frag) : R2 := fun x y H Q => ∃ l xs, x = .ref l ∧ y = .int 1 ∧ SqT K H l xs ∧ xs ≠ [] ∧ Q (.ref l) H
theorem op_rep1 {X : Cx} : OpR X (binaryOp .Mult) (rRep1 X.K) := by
  intro pins s σ H x y v u Q I rx ry h
  obtain ⟨l, xs, rfl, rfl, hT, hne, q⟩ := h
  cases rx
  obtain ⟨t, rfl⟩ := ry
  obtain ⟨its, r, ⟨⟨cls, dd, data, sl⟩, ho, hc, n, hd⟩, hs⟩ := I.tuple hT
  simp only at hc hd
  subst hc hd
  have hle : its.length = xs.length := r.length.symm
  have hn : its ≠ [] := fun e => hne (by
    rw [e] at hle
    exact List.eq_nil_of_length_eq_zero hle.symm)
  have hi : its.toArray.isEmpty = false := by
    cases its with
    | nil => exact absurd rfl hn
    | cons a b => rfl
  refine wpAny_binaryOp_repeat_ref (T := "tuple") (U := "int") (by decide) ⟨_, ho, rfl⟩ (fun s' => typeIs_int s' 1 t) noFill_tuple_mul F.fills_int_mul F.slot_int_rmul repeat_tuple F.slot_int_index.lookup
    (call_meets F.slot_int_rmul (typeIs_int s 1 t) F.entry_int_rmul (F.args_int_rmul_2 _ _) (int_rmul_tuple 1 t l its.toArray n dd sl)
      ⟨ho, rfl, ⟨_, ho, rfl⟩, call_meets F.slot_tuple_mul ⟨_, ho, rfl⟩ F.entry_tuple_mul (F.args_tuple_mul_2 _ _) (tuple_mul1 l its.toArray n dd sl t hi) ⟨ho, ?_⟩⟩)
  exact ⟨.ref l, H, I.tok _, rfl, q⟩
theorem tuple_mul0 (l : Addr) (items : Array Value) (n : Nat) (dd : Option Addr) (sl : Array (Option Value)) (u : Tok) (hne : items.isEmpty = false) :
    Meets (Builtin.«tuple.__mul__» ⟨[.ref l, .int 0 u], []⟩) (fun _ R s => s.heap.get? l = some { cls := .type "tuple", dict := dd, data := .seq items n, slots := sl } ∧
      R (.ok (.ret (Value.ref s.heap.objs.size))) { s with heap := s.heap.push { cls := Value.type "tuple", data := Data.seq #[] }, toks := s.toks }) :=
  .of_wp fun prog w A R s h => by
    obtain ⟨hp, g, d, tk, os⟩ := s
    obtain ⟨hl, h⟩ := h
    have f1 := AutoSeq1.idx_int
    have c0 : (decide ((0 : Int) < -(2 ^ 63)) || decide ((0 : Int) ≥ 2 ^ 63)) = false := by decide
    have c1 : (items.isEmpty || (0 : Int) == 1) = false := by rw [hne]; rfl
    have c2 : (decide ((0 : Int) ≤ 0) || items.isEmpty) = true := by rw [hne]; rfl
    wp_walk using wpAny_loadPart' hl
    repeat (first
      | (refine wpAny_ite_false (decide_eq_false (by rw [c0]; exact Bool.false_ne_true)) ?_; wp_walk using wpAny_loadPart' hl)
      | (refine wpAny_ite_false (decide_eq_false (by rw [c1]; exact Bool.false_ne_true)) ?_; wp_walk using wpAny_loadPart' hl)
      | (refine wpAny_ite_true (decide_eq_true (by rw [c2])) ?_; wp_walk using wpAny_loadPart' hl))
    exact ⟨_, rfl, h⟩
def rRep0 (K : PySem.W.Frag) : R2 := fun x y H Q => ∃ l xs, x = .ref l ∧ y = .int 0 ∧ SqT K H l xs ∧ xs ≠ [] ∧ ∀ p, H p = none → Q (.ref p) (upd H p (.tup []))
theorem op_rep0 {X : Cx} : OpR X (binaryOp .Mult) (rRep0 X.K) := by
  intro pins s σ H x y v u Q I rx ry h
  obtain ⟨l, xs, rfl, rfl, hT, hne, q⟩ := h
  cases rx
  obtain ⟨t, rfl⟩ := ry
  obtain ⟨its, r, ⟨⟨cls, dd, data, sl⟩, ho, hc, n, hd⟩, hs⟩ := I.tuple hT
  simp only at hc hd
  subst hc hd
  have hle : its.length = xs.length := r.length.symm
  have hn : its ≠ [] := fun e => hne (by
    rw [e] at hle
    exact List.eq_nil_of_length_eq_zero hle.symm)
  have hi : its.toArray.isEmpty = false := by
    cases its with
    | nil => exact absurd rfl hn
    | cons a b => rfl
  refine wpAny_binaryOp_repeat_ref (T := "tuple") (U := "int") (by decide) ⟨_, ho, rfl⟩ (fun s' => typeIs_int s' 0 t) noFill_tuple_mul F.fills_int_mul F.slot_int_rmul repeat_tuple F.slot_int_index.lookup
    (call_meets F.slot_int_rmul (typeIs_int s 0 t) F.entry_int_rmul (F.args_int_rmul_2 _ _) (int_rmul_tuple 0 t l its.toArray n dd sl)
      ⟨ho, rfl, ⟨_, ho, rfl⟩, call_meets F.slot_tuple_mul ⟨_, ho, rfl⟩ F.entry_tuple_mul (F.args_tuple_mul_2 _ _) (tuple_mul0 l its.toArray n dd sl t hi) ⟨ho, ?_⟩⟩)
  refine ⟨.ref s.heap.objs.size, _, I.laid (t' := s.toks) (o := .tup []) (fun b ob q => Heap.get?_push_of_some _ q) (Nat.le_refl _) ?_, rfl, q _ (I.hok.fresh (Nat.le_refl _))⟩
  exact ⟨Nat.zero_le _, [], .nil, IsTup.new _ _⟩
/-- i * j, t * k -/
def hMulA (a b : O) : Option O := match a.view, b.view with
  | .int i, .int j => if cMul i j = true then some (.fz (.int (i * j))) else none
  | .tuple ds, .int k => if ds ≠ [] ∧ 0 ≤ k ∧ k ≤ 1000 ∧ ds.length ≤ 1000 then some (.fz (.tuple (List.replicate k.toNat ds).flatten)) else none
  | _, _ => none
def rMulA (K : PySem.W.Frag) : R2 := fun x y H Q => (rI CMulW fun i j => V.int (i * j)) x y H Q ∨ rRepT K x y H Q ∨ rRep1 K x y H Q ∨ rRep0 K x y H Q
theorem op_mulA {X : Cx} : OpR X (binaryOp .Mult) (rMulA X.K) := by
  intro pins s σ H x y v u Q I rx ry h
  rcases h with h | h | h | h
  · exact op_mulW pins s σ H x y v u Q I rx ry h
  · exact op_repT pins s σ H x y v u Q I rx ry h
  · exact op_rep1 pins s σ H x y v u Q I rx ry h
  · exact op_rep0 pins s σ H x y v u Q I rx ry h
theorem RpA.rep {K : PySem.W.Frag} {F : Hp} {xs : List V} {ds : List PyData} (h : RpA K F xs ds) : ∀ n : Nat, RpA K F (List.replicate n xs).flatten (List.replicate n ds).flatten
  | 0 => by simpa using RpA.nil
  | n + 1 => by simpa [List.replicate_succ] using h.app (RpA.rep h n)
theorem sn_mulA {K : PySem.W.Frag} : Sn2 K (rMulA K) hMulA := by
  intro S ρ F H v w a b o Q p ra rb e k
  unfold hMulA at e
  split at e
  · rename_i i j ea eb
    split at e
    · rename_i hc
      cases e
      exact .inl ⟨i, j, ra.int ea, rb.int eb, by simpa [cMul, CMulW] using hc, k _ F H p (.int _)⟩
    · cases e
  · rename_i ds j ea eb
    split at e
    · rename_i hc
      cases e
      obtain ⟨h1, h2, h3, h4⟩ := hc
      obtain ⟨l, xs, rfl, q1, r1⟩ := ra.tup p.hd.le ea
      have hx : xs ≠ [] := fun z => by
        subst z
        cases r1
        exact h1 rfl
      by_cases hj : j = 1
      · subst hj
        have e1 : (List.replicate (1 : Int).toNat ds).flatten = ds := by simp
        refine .inr (.inr (.inl ⟨l, xs, rfl, rb.int eb, q1, hx, ?_⟩))
        cases a with
        | fz d =>
          have ea : d = .tuple ds := ea
          subst ea
          exact k _ F H p (show Rp K F _ (.tuple (List.replicate (1 : Int).toNat ds).flatten) by rw [e1]; exact ra)
        | mu b m => cases m <;> cases ea
      by_cases hj0 : j = 0
      · subst hj0
        exact .inr (.inr (.inr ⟨l, xs, rfl, rb.int eb, q1, hx, k.tup p (ds := (List.replicate (0 : Int).toNat ds).flatten) .nil⟩))
      · exact .inr (.inl ⟨l, j, xs, rfl, rb.int eb, q1, hx, by omega, h3, by rw [r1.len]; exact h4, k.tup p (r1.rep j.toNat)⟩)
    · cases e
  · cases e
theorem kit_sub2 {K : PySem.W.Frag} {D C : Addr} {b : Bool} (hi : PySem.W.isClsIn K C = true) (ht : PySem.W.typeIn K (.ref C) = some (.type "type")) (hs : PySem.W.subIn K (.ref D) (.ref C) = some b) (hss : PySem.W.subIn K (.ref D) (.ref D) = some true) : PySem.W.kitOne K (.ref D) (.ref C) = some b := by
  have key : D = C → b = true := fun e => by
    subst e
    rw [hss] at hs
    exact (Option.some.inj hs).symm
  exact kit_sub hi ht hs (fun hb e => by rw [key e] at hb; cases hb) key
def hd1 (c : Addr) (b : Bool) : Addr → Option (Option Bool) := fun c' => if c' = c then some (some b) else none
theorem hd1_ok {X : Cx} {i : Nat} {c cX : Addr} {e : Expr} {b : Bool} (h : PySem.W.exmOne X.K (.ref c) (.ref cX) = some true) (k : ∀ (a : Addr) (oe : Obj) (pn : List (Addr × Obj)), Zc (.ref c) none oe → (∃ vs, oe.data = .fields vs) → PE (X.suite a ((a, oe) :: pn)) e (tHe i a b)) : HdOk X i cX e (hd1 c b) := by
  intro c' r e
  unfold hd1 at e
  split at e
  · rename_i ec
    subst ec
    cases e
    exact ⟨h, k⟩
  · cases e
end Vs

/-! Vs, comparisons in a row, as tests. -/
namespace Vs
open PySem PySem.Spec L2
theorem chain_read {K : PySem.W.Frag} {W : WX} {f g k : M Rf} {r r' : R2} {h h' : O → O → Option O} (s : Sn2 K r h) (s' : Sn2 K r' h') {σ : L2.St} {H : Hp} {Q : VK} (z : tG K W (RfR K) (eCh h h' f g k) σ H Q) : tChain r r' (tG K W (RfR K) f) (tG K W (RfR K) g) (tG K W (RfR K) k) σ H Q := by
    obtain ⟨ρ, F, r⟩ := z
    unfold eCh at r
    refine ⟨ρ, F, r.bind.mono fun v H1 ⟨x, ρ1, F1, rx, p, r1⟩ => ⟨ρ1, F1, r1.bind.mono fun w H2 ⟨y, ρ2, F2, ry, p2, r2⟩ => ?_⟩⟩
    obtain ⟨p3, o, e, q⟩ := r2
    unfold chK at e
    split at e
    · rename_i a' b' ea eb
      have sa := slot_of p3.hd (rx.stay p2) ea
      have sb := slot_of p3.hd (rfOk.up p ry) eb
      split at e
      · rename_i j ej eh
        have hw : w = V.int j := sb.int ej
        subst hw
        refine s ⟨σ, ρ, F, H⟩ ρ2 F2 H2 v _ a' b' _ _ p3 sa sb eh fun v' F' H' p' r' => ?_
        cases (show Rp K F' v' (.bool true) from r')
        refine ⟨true, rfl, ?_⟩
        rw [if_pos rfl]
        have r3 : Run K W (RfR K) ⟨σ, ρ, F, H⟩ (k.bind fun z => dr2 h' (.o (.fz (.int j))) z) ρ2 F' H' Q := ⟨p', o, e, q⟩
        refine ⟨ρ2, F', r3.bind.mono fun u H3 ⟨z, ρ3, F3, rz, p4, r4⟩ => ?_⟩
        obtain ⟨c1, d1, o1, h1, h2, h3, h4⟩ := r4.dr2 (v := .int j) (show Rp K F3 (.int j) (.int j) from .int j) (rfOk.up p' rz)
        exact s' _ _ _ _ _ _ _ _ _ _ r4.post h1 h2 h3 h4
      · rename_i j ej eh
        cases e
        refine s ⟨σ, ρ, F, H⟩ ρ2 F2 H2 v w a' b' _ _ p3 sa sb eh fun v' F' H' p' r' => ?_
        cases (show Rp K F' v' (.bool false) from r')
        refine ⟨false, rfl, ?_⟩
        rw [if_neg Bool.false_ne_true]
        exact q _ F' H' p' (show Rp K F' (.bl false) (.bool false) from .bl false)
      · cases e
    · cases e

def tCh (h h' : O → O → Option O) (f g k : M Rf) : M Bool := (eCh h h' f g k).bind fun x => (asB x).bind fun b => M.ret b
section
variable {X : Cx} {W : WX} {a b c : Expr} {f g k : M Rf} {pos : Pos}
theorem r_chainT {op op' : CmpOp} {r r' : R2} {h h' : O → O → Option O} (ho : OpR X (compareOp op) r) (s : Sn2 X.K r h) (ho' : OpR X (compareOp op') r') (s' : Sn2 X.K r' h') (ha : EvO X W a f) (hb : EvO X W b g) (hc : EvO X W c k)
    (hm : lastMarks [op, op'] [b, c] = false := by with_unfolding_all rfl) : EvT X W (.Compare a [op, op'] [b, c] pos) (tCh h h' f g k) :=
  ptI (pt_chain ho ho' ha hb hc hm) fun σ H Q ⟨ρ, F, r⟩ => chain_read (K := X.K) (W := W) s s' ⟨ρ, F, r.bind.mono fun v H1 ⟨x, ρ1, F1, rx, p, r1⟩ => by
    obtain ⟨b, ev, p1, o, e, q⟩ := r1.asB rx
    subst ev
    cases e
    exact ⟨b, rfl, q b F1 H1 p1 rfl⟩⟩
end
theorem w_tCh {h h' : O → O → Option O} {f g k : M Rf} {ρ : Rho} {Q : Bool → Rho → Prop} {E : Px} (w : Wp (eCh h h' f g k) ρ (fun x ρ1 => Wp (asB x) ρ1 Q E) E) : Wp (tCh h h' f g k) ρ Q E := w_bind (w.imp fun _ _ w => w_bind (w.imp fun _ _ q => q))
def NtK (QB : Bool → Rho → Prop) (b : Bool) (ρ : Rho) : Prop := QB (!b) ρ
section
variable {E : Px} {ρ : Rho} {QB : Bool → Rho → Prop} {Q : Rf → Rho → Prop}
theorem w_tNt2 {t : M Bool} (w : Wp t ρ (NtK QB) E) : Wp (tNt t) ρ QB E := w_tNt w
theorem nt_T (q : QB false ρ) : NtK QB true ρ := q
theorem nt_F (q : QB true ρ) : NtK QB false ρ := q
theorem nt_D {p : Prop} {dp : Decidable p} (q : QB (decide (¬p)) ρ) : NtK QB (@decide p dp) ρ := by
  unfold NtK
  rw [← decide_not]; exact q
def NtO (Q : Rf → Rho → Prop) (b : Bool) (ρ : Rho) : Prop := Q (.o (.fz (.bool !b))) ρ
theorem w_Nt2 {f : M Rf} (w : Wp f ρ (fun x ρ1 => Wp (asB x) ρ1 (NtO Q) E) E) : Wp (eNt f) ρ Q E := w_Nt w
theorem no_T (q : Q (.o (.fz (.bool false))) ρ) : NtO Q true ρ := q
theorem no_F (q : Q (.o (.fz (.bool true))) ρ) : NtO Q false ρ := q
theorem no_D {p : Prop} {dp : Decidable p} (q : Q (.o (.fz (.bool (decide (¬p))))) ρ) : NtO Q (@decide p dp) ρ := by
  unfold NtO
  rw [← decide_not]; exact q
end
def tgNK (hs : List PyData → M Fl) (ds : List PyData) : Fl → M Fl
  | .nx => hs ds
  | _ => fun _ => none
theorem w_tgNK {hs : List PyData → M Fl} {ds : List PyData} {ρ : Rho} {QF : Fl → Rho → Prop} {E : Px} (w : Wp (hs ds) ρ QF E) : Wp (tgNK hs ds .nx) ρ QF E := w
theorem w_tgCT {n : Nat} {hs' hs : List PyData → M Fl} {ds' ds : List PyData} {ρ : Rho} {QF : Fl → Rho → Prop} {E : Px} (w : Wp (tgTup n hs' (.tuple ds')) ρ (fun fl ρ1 => Wp (tgNK hs ds fl) ρ1 QF E) nx) : Wp (tgCons (tgTup n hs') hs (.tuple ds' :: ds)) ρ QF E := by
  obtain ⟨fl, ρ1, e, w⟩ := w.get
  unfold Wp
  rw [tgCons_ap, e]
  cases fl with
  | nx => exact w
  | bk => exact w
  | ct => exact w
  | rt r => exact w
end Vs

namespace Vs
open PySem PySem.Spec L2
variable {ρ : Rho} {E : Px} {Q : Rf → Rho → Prop} {f : M Rf}
theorem w_Mt {T : String} {h : O → List O → Option O} {g : M (List Rf)} (w : Wp f ρ (fun x ρ1 => Wp (mtK T h g x) ρ1 Q E) E) : Wp (eMt T h f g) ρ Q E := w_bind (k := mtK T h g) w
theorem w_mtK {T : String} {h : O → List O → Option O} {g : M (List Rf)} {x : Rf} {a : O} (e : rdO ρ x = some a) (e2 : tyM T a.view = true) (w : Wp g ρ (fun ys ρ1 => Wp (drM T h x ys) ρ1 Q E) E) : Wp (mtK T h g x) ρ Q E := by
  unfold Wp
  rw [mtK_ap, ckM_ap e e2]
  exact w_bind (k := drM T h x) w
theorem w_drM {T : String} {h : O → List O → Option O} {x : Rf} {ys : List Rf} {a o : O} {os : List O} (e : rdO ρ x = some a) (e1 : rdL ρ ys = some os) (e2 : tyM T a.view = true) (e3 : h a os = some o) (q : Q (.o o) ρ) : Wp (drM T h x ys) ρ Q E := .eq (drM_ap e e1 e2 e3) q
end Vs

/-! Vs, the law's end; the plain function is found with the module. -/
namespace Vs
open PySem PySem.Spec PyProof.Rows L2
theorem walkG2 {l : PySem.W.OpenLaw} {n k : Nat} {q : Program} {loose : List Str} {XP : (Str → Option Value) → Heap → Prop} {YP : World → Heap → Prop} {d : DefRec} {K : Params → PySem.W.Frag} {x : Str}
    (hn : l.most = some n) (hn2 : n ≤ sizeLine) (hdf : d.params.defaults = []) (hr : Room k callerA) (hY : ∀ (w : World) (h : Heap), YP w h → (K w.params).In h)
    (F : ∀ (w : World) (mg : Str → Option Value) (fa : Addr) (h : Heap), (K w.params).In h → h.Ns mainGlobals mg → mg d.name = some (.ref fa) →
      ∃ g : M O, (∀ ns : List Int, ns.length ≤ n → ∃ ρ', g [some (.fz (.list (ns.map .int)))] = some (.ok (.fz (.bool true)) ρ')) ∧
      ∃ fd : FuncData, (∀ (s : Shared) (u : Value), BindsTo s fd ⟨[u], []⟩ [(x, u)]) ∧ ∀ base : Heap, (K w.params).In base → base.Ns mainGlobals mg → FnG l.prog w (K w.params) mg base k fa fd [x] g) :
    PySem.W.WalkO q loose XP YP l.row.toRowW d [] (fun f vs => PySem.call f vs) := by
  refine Att.attach_call hn hdf fun w s₀ s₁ mg mb fa o pm cd doc a vs ns G Y ho hd hcd hmg hobj hints hlen hg => ?_
  have inK := hY w _ Y
  obtain ⟨g, law, fd, hbind, hF⟩ := F w mg fa _ inK G.T.g hmg
  exact lawG inK G.T.g G.T.b G.T.builtins G.T.nolimit hg hobj hints (Nat.le_trans hlen hn2) hr hF hbind (law ns hlen)
end Vs

/-! Vs, more words: extend, x[::-1], reversed, max of a list, op=, while, what is not read. -/
namespace Vs
open PySem PySem.Spec L2
/-! ### what is not read -/
section
variable {X : Cx} {W : WX} {e : Expr} {st : Stmt}
def eNo : M Rf := fun _ => none
def sNo : M Fl := fun _ => none
theorem r_eNo : EvO X W e eNo := ⟨fun _ _ _ _ _ _ ⟨_, _, _, _, e, _⟩ => by cases e⟩
theorem r_bNo {sts : List Stmt} : EvB X W sts sNo := ⟨fun _ _ _ _ _ _ ⟨_, _, _, _, e, _⟩ => by cases e⟩
theorem r_sNo : EvS X W st sNo := ⟨fun _ _ _ _ _ _ ⟨_, _, _, _, e, _⟩ => by cases e⟩
end
/-! ### x.extend(e) -/
def muExt (es : List PyData) : Mu → Option Mu
  | .lst ds => if ds.length + es.length ≤ 16777216 then some (.lst (ds ++ es)) else none
  | _ => none
def extK (i : Nat) (x : Rf) : M Fl := fun ρ => match rdO ρ x with
  | some (.mu _ (.lst es)) => upS i (muExt es) ρ
  | _ => none
def sExt (i : Nat) (f : M Rf) : M Fl := fun ρ => match ρ[i]? with | some (some (.mu _ (.lst _))) => (f.bind (extK i)) ρ | _ => none
section
variable {X : Cx} {W : WX} {e : Expr} {x : Str} {f g : M Rf} {pos pos' apos cpos np : Pos} {i : Nat}
theorem r_extend (ho : PE X (.Name x np) (tVar i)) (ha : EvO X W e f) (hbase : attributeBase (.Name x np) "extend" X.env (eval (.Name x np) X.env) = eval (.Name x np) X.env := by rfl)
    (hfew : ((backTo cpos (starEach (e :: []) X.env)).all (fun x => !x.1) && (backToKw cpos (keywordEach [] X.env)).all (fun x => x.1.isSome)
      && decide ((e :: ([] : List Expr)).length + ([] : List Keyword).length + (if ([] : List Keyword).isEmpty then 0 else 1) < 30)) = true := by rfl)
    (hline : (apos.endLine == cpos.line) = true := by rfl) (hs : starEach (e :: []) X.env = (false, eval e X.env) :: starEach [] X.env := by rfl) (hplain : (backTo cpos (starEach [] X.env)).any (·.1) = false := by rfl)
    (hsw : swapsWith (.Call (.Attribute (.Name x np) "extend" apos) [e] [] cpos) none pos.line X.env = pure false := by rfl) :
    EvS X W (.Expr (.Call (.Attribute (.Name x np) "extend" apos) [e] [] cpos) pos) (sExt i f) :=
  psI (ps_expr (pe_bm PySem.F.plainAttrs_list PySem.F.slot_list_extend PySem.F.type_list_extend mt_extend ho (pa_cons ha pa_nil hs) hbase hfew hline hs hplain) hsw) fun D σ H ⟨ρ, F, p, o, e, q⟩ => by
    unfold sExt at e
    split at e
    · rename_i b ds hi
      obtain ⟨v, hv, a, u, rfl, hu, hf, xs, rfl, r⟩ := p.hd.at_ i _ hi
      refine ⟨.ref a, hv, .inl ⟨rfl, xs, .of hu⟩, tG_mono (tG_S (R := RfR X.K) ⟨p, o, e, q⟩) fun w H1 ⟨y, ρ1, F1, ry, p1, o1, e1, q1⟩ => ?_⟩
      unfold extK at e1
      split at e1
      · rename_i b2 es ey
        obtain ⟨a2, u2, rfl, hu2, hf2, zs, rfl, rz⟩ := slot_of p1.hd ry ey
        obtain ⟨b, u, m, m', eb, hu, mr, hm, q2⟩ := upS_run ⟨p1, o1, e1, q1⟩ hv
        cases eb
        unfold muExt at hm
        split at hm
        · split at hm
          · cases hm
            rename_i hl
            obtain ⟨ys, rfl, r5⟩ := mr
            exact ⟨a, a2, ys, zs, rfl, rfl, hu, hu2, by rw [slen, r5.len, rz.len]; exact hl, q2 _ ⟨_, rfl, r5.app rz⟩⟩
          · cases hm
        · cases hm
      · cases e1
    · cases e
end
/-! ### max of a list -/
def maxI : List Int → Int
  | [] => 0
  | [n] => n
  | n :: ns => if maxI ns > n then maxI ns else n
theorem maxI_mem : ∀ {ns : List Int}, ns ≠ [] → maxI ns ∈ ns
  | [], h => absurd rfl h
  | [n], _ => List.mem_cons_self ..
  | n :: m :: ns, _ => by
    have ih := maxI_mem (ns := m :: ns) (by simp)
    unfold maxI
    split
    · exact List.mem_cons_of_mem _ ih
    · exact List.mem_cons_self ..
theorem maxI_le : ∀ {ns : List Int} {y : Int}, y ∈ ns → y ≤ maxI ns
  | [], _, h => by cases h
  | [n], y, h => by rw [List.mem_singleton.mp h]; exact Int.le_refl _
  | n :: m :: ns, y, h => by
    have ih := fun z => maxI_le (ns := m :: ns) (y := y) z
    unfold maxI
    rcases List.mem_cons.mp h with rfl | h
    · split <;> omega
    · have := ih h
      split <;> omega
def hMax1 : List O → Option O
  | [a] => (match a.view with
    | .list ds => (intsD ds).bind fun ns => if ns.isEmpty then none else some (.fz (.int (maxI ns)))
    | _ => none)
  | _ => none
theorem sn_max1 {K : PySem.W.Frag} : SnN K (rMax K) hMax1 := by
  intro S ρ F H vs os o Q p r e k
  unfold hMax1 at e
  split at e
  · obtain ⟨v, rfl, ra⟩ := one_slot r
    split at e
    · rename_i ds ea
      obtain ⟨ns, e1, e2⟩ := Option.bind_eq_some_iff.mp e
      split at e2
      · cases e2
      · rename_i hne
        cases e2
        have hne : ns ≠ [] := by
          rintro rfl; exact hne rfl
        obtain ⟨b, xs, rfl, h1, r1⟩ := ra.lst p.hd.le ea
        have ex := ints_rp r1 e1
        subst ex
        refine ⟨b, ns, rfl, h1, (by cases ns with | nil => exact absurd rfl hne | cons a l => exact Nat.succ_pos _), fun m hm hb => ?_⟩
        have : m = maxI ns := Int.le_antisymm (maxI_le hm) (hb _ (maxI_mem hne))
        subst this
        exact k _ F H p (.int _)
    · cases e
  · cases e
/-! ### name op= e, of whole numbers -/
def augK (i : Nat) (h : Int → Int → Int) (a : Int) (x : Rf) : M Fl := fun ρ => match rdO ρ x with
  | some b => (match b.view with | .int j => stM i (.fz (.int (h a j))) ρ | _ => none)
  | none => none
def sAug (i : Nat) (h : Int → Int → Int) (f : M Rf) : M Fl := fun ρ => match ρ[i]? with
  | some (some (.fz (.int a))) => (f.bind (augK i h a)) ρ
  | _ => none
theorem r_aug {X : Cx} {W : WX} {i : Nat} {x : Str} {e : Expr} {f : M Rf} {op : Operator} {h : Int → Int → Int} {pos pos' : Pos} (hN : X.N.Nodup) (hi : X.N[i]? = some x) (hx : Loc X.env.scope x) (he : EvO X W e f) (ho : PIp X op (ipI h)) (hf : X.fn x = true ∨ X.env.scope.names.lookup x = some .local := by first | exact .inl rfl | exact .inr rfl | assumption) :
    EvS X W (.AugAssign (.Name x pos') op e pos) (sAug i h f) := psI (ps_aug hN hi hx he ho hf) fun D σ H ⟨ρ, F, p, o, e, q⟩ => by
  unfold sAug at e
  split at e
  · rename_i a hi
    obtain ⟨v, hv, r⟩ := p.hd.at_ i _ hi
    cases (show Rp X.K F v (.int a) from r)
    refine ⟨.int a, hv, tG_mono (tG_S (R := RfR X.K) ⟨p, o, e, q⟩) fun w H1 ⟨y, ρ1, F1, ry, p1, o1, e1, q1⟩ => ?_⟩
    unfold augK at e1
    split at e1
    · rename_i b eb
      have sl := slot_of p1.hd ry eb
      split at e1
      · rename_i j ej
        refine ⟨a, j, rfl, sl.int ej, ?_⟩
        unfold stM at e1
        cases es : stI i (.fz (.int (h a j))) ρ1 with
        | none => rw [es] at e1; cases e1
        | some ρ3 =>
          rw [es] at e1; cases e1
          exact q1 _ F1 H1 (p1.store es (show Rp X.K F1 (.int (h a j)) (.int (h a j)) from .int _))
      · cases e1
    · cases e1
  · cases e
/-! ### while -/
def whK (next : Rho → Option (Out Fl)) : Option (Out Fl) → Option (Out Fl)
  | some (.ok .nx ρ') => next ρ'
  | some (.ok .ct ρ') => next ρ'
  | some (.ok .bk ρ') => some (.ok .nx ρ')
  | o => o
def whT (fb : M Fl) (next : Rho → Option (Out Fl)) : Option (Out Bool) → Option (Out Fl)
  | some (.ok true ρ') => whK next (fb ρ')
  | some (.ok false ρ') => some (.ok .nx ρ')
  | some (.ex c ρ') => some (.ex c ρ')
  | none => none
def whF (t : M Bool) (fb : M Fl) : Nat → M Fl
  | 0 => fun _ => none
  | n + 1 => fun ρ => whT fb (whF t fb n) (t ρ)
theorem whF_up {t : M Bool} {fb : M Fl} : ∀ {n : Nat} {ρ : Rho} {o : Out Fl}, whF t fb n ρ = some o → whF t fb (n + 1) ρ = some o
  | 0, _, _, h => by cases h
  | n + 1, ρ, o, h => by
    show whT fb (whF t fb (n + 1)) (t ρ) = some o
    have h : whT fb (whF t fb n) (t ρ) = some o := h
    cases e : t ρ with
    | none => rw [e] at h; cases h
    | some b =>
      rw [e] at h
      cases b with
      | ex c ρ1 => exact h
      | ok b ρ1 =>
        cases b with
        | false => exact h
        | true =>
          show whK (whF t fb (n + 1)) (fb ρ1) = some o
          have h : whK (whF t fb n) (fb ρ1) = some o := h
          cases e2 : fb ρ1 with
          | none => rw [e2] at h; cases h
          | some b =>
            rw [e2] at h
            cases b with
            | ex c ρ1 => exact h
            | ok fl ρ1 =>
              cases fl with
              | nx => exact whF_up (n := n) h
              | ct => exact whF_up (n := n) h
              | bk => exact h
              | rt r => exact h
theorem whF_le {t : M Bool} {fb : M Fl} {n m : Nat} {ρ : Rho} {o : Out Fl} (h : whF t fb n ρ = some o) (hm : n ≤ m) : whF t fb m ρ = some o := by
  obtain ⟨k, rfl⟩ := Nat.exists_eq_add_of_le hm
  induction k with
  | zero => exact h
  | succ k ih => exact whF_up (ih (by omega))
theorem whF_one {t : M Bool} {fb : M Fl} {n m : Nat} {ρ : Rho} {o o' : Out Fl} (h : whF t fb n ρ = some o) (h' : whF t fb m ρ = some o') : o = o' := by
  have a := whF_le h (Nat.le_max_left n m)
  have b := whF_le h' (Nat.le_max_right n m)
  rw [a] at b
  exact Option.some.inj b
open Classical in
noncomputable def sWhile (t : M Bool) (fb : M Fl) : M Fl := fun ρ => if h : ∃ o n, whF t fb n ρ = some o then some (Classical.choose h) else none
theorem sWhile_eq {t : M Bool} {fb : M Fl} {n : Nat} {ρ : Rho} {o : Out Fl} (h : whF t fb n ρ = some o) : sWhile t fb ρ = some o := by
  have hh : ∃ o n, whF t fb n ρ = some o := ⟨o, n, h⟩
  unfold sWhile
  rw [dif_pos hh]
  obtain ⟨m, hm⟩ := Classical.choose_spec hh
  rw [whF_one hm h]
theorem sWhile_inv {t : M Bool} {fb : M Fl} {ρ : Rho} {o : Out Fl} (h : sWhile t fb ρ = some o) : ∃ n, whF t fb n ρ = some o := by
  unfold sWhile at h
  split at h
  · rename_i hh
    cases h
    exact Classical.choose_spec hh
  · cases h
theorem r_while {X : Cx} {W : WX} {c : Expr} {body : List Stmt} {t : M Bool} {fb : M Fl} {pos : Pos} (hp : PassesOwn (model X.prog X.w) X.A X.env X.xe) (hc : EvT X W c t) (hb : EvB X W body fb) : EvS X W (.While c body [] pos) (sWhile t fb) :=
  psI (ps_while hp hc hb) fun D σ H ⟨ρ, F, p, o, e, q⟩ => by
    obtain ⟨n, hn⟩ := sWhile_inv e
    refine ⟨fun m σ' H' => ∃ ρ' F', Post X.K ⟨σ, ρ, F, H⟩ σ' ρ' F' H' ∧ whF t fb m ρ' = some o, ⟨n, ρ, F, p, hn⟩, ?_⟩
    rintro m σ1 H1 ⟨ρ1, F1, p1, h1⟩
    cases m with
    | zero => cases h1
    | succ m =>
      have h1 : whT fb (whF t fb m) (t ρ1) = some o := h1
      cases et : t ρ1 with
      | none => rw [et] at h1; cases h1
      | some ot =>
        rw [et] at h1
        refine ⟨ρ1, F1, Post.refl p1.hd, ot, et, ?_⟩
        cases ot with
        | ex c ρ2 => cases h1; exact fun d F' H' z => q d _ F' H' (p1.trans z)
        | ok b ρ2 =>
          intro v F2 H2 p2 rv
          have rv : v = b := rv
          subst rv
          cases v with
          | false =>
            cases h1
            exact q _ F2 H2 (p1.trans p2)
          | true =>
            have h1 : whK (whF t fb m) (fb ρ2) = some o := h1
            have p3 := p1.trans p2
            refine ⟨fun σ' H' => ∃ ρ' F', Post X.K ⟨σ, ρ, F, H⟩ σ' ρ' F' H' ∧ whF t fb m ρ' = some o, fun σ' H' z => ⟨m, Nat.lt_succ_self m, z⟩, ρ2, F2, Post.refl p3.hd, ?_⟩
            cases ef : fb ρ2 with
            | none => rw [ef] at h1; cases h1
            | some of =>
              rw [ef] at h1
              refine ⟨of, rfl, ?_⟩
              cases of with
              | ex c ρ4 => cases h1; exact fun d a b c z => q d a b c (p3.trans z)
              | ok fl ρ4 =>
                cases fl with
                | nx => exact fun a b c z => ⟨ρ4, b, p3.trans z, h1⟩
                | ct => exact fun a b c z => ⟨ρ4, b, p3.trans z, h1⟩
                | bk => cases h1; exact fun a b c z => q a b c (p3.trans z)
                | rt r => cases h1; exact fun v a b c z k => q v a b c (p3.trans z) (rfUp p3 k)
def TurnW (J : Rho → Prop) (QF : Fl → Rho → Prop) : Fl → Rho → Prop
  | .nx, ρ => J ρ
  | .ct, ρ => J ρ
  | .bk, ρ => QF .nx ρ
  | .rt r, ρ => QF (.rt r) ρ
def whB (fb : M Fl) (J : Rho → Prop) (QF : Fl → Rho → Prop) (E : Px) (b : Bool) (ρ : Rho) : Prop := if b = true then Wp fb ρ (TurnW J QF) E else QF .nx ρ
theorem whB_T {fb : M Fl} {J : Rho → Prop} {QF : Fl → Rho → Prop} {E : Px} {ρ : Rho} (w : Wp fb ρ (TurnW J QF) E) : whB fb J QF E true ρ := w
theorem whB_F {fb : M Fl} {J : Rho → Prop} {QF : Fl → Rho → Prop} {E : Px} {ρ : Rho} (w : QF .nx ρ) : whB fb J QF E false ρ := w
theorem whB_D {fb : M Fl} {J : Rho → Prop} {QF : Fl → Rho → Prop} {E : Px} {ρ : Rho} {p : Prop} {dp : Decidable p} (h1 : p → Wp fb ρ (TurnW J QF) E) (h0 : ¬p → QF .nx ρ) : whB fb J QF E (@decide p dp) ρ := by
  cases dp with
  | isTrue h => exact h1 h
  | isFalse h => exact h0 h
/-- J m: at most m turns are left -/
theorem w_while {t : M Bool} {fb : M Fl} {QF : Fl → Rho → Prop} {E : Px} (J : Nat → Rho → Prop) (step : ∀ m ρ, J m ρ → Wp t ρ (whB fb (fun ρ' => ∃ m', m' < m ∧ J m' ρ') QF E) E) :
    ∀ {m : Nat} {ρ : Rho}, J m ρ → Wp (sWhile t fb) ρ QF E := by
  have key : ∀ m ρ, J m ρ → ∃ n o, whF t fb n ρ = some o ∧ Sat QF E (some o) := by
    intro m
    induction m using Nat.strongRecOn with
    | ind m ih =>
      intro ρ j
      have w := step m ρ j
      unfold Wp at w
      cases et : t ρ with
      | none => rw [et] at w; exact w.elim
      | some ot =>
        rw [et] at w
        have e1 : ∀ n, whF t fb (n + 1) ρ = whT fb (whF t fb n) (some ot) := fun n => by
          show whT fb (whF t fb n) (t ρ) = _
          rw [et]
        cases ot with
        | ex c ρ2 => exact ⟨1, _, e1 0, w⟩
        | ok b ρ2 =>
          cases b with
          | false => exact ⟨1, _, e1 0, w⟩
          | true =>
            have w : Sat (TurnW (fun ρ' => ∃ m', m' < m ∧ J m' ρ') QF) E (fb ρ2) := w
            cases ef : fb ρ2 with
            | none => rw [ef] at w; exact w.elim
            | some of =>
              rw [ef] at w
              have e2 : ∀ n, whF t fb (n + 1) ρ = whK (whF t fb n) (some of) := fun n => by
                rw [e1]
                show whK (whF t fb n) (fb ρ2) = _
                rw [ef]
              cases of with
              | ex c ρ4 => exact ⟨1, _, e2 0, w⟩
              | ok fl ρ4 =>
                cases fl with
                | nx =>
                  obtain ⟨m', hm, j'⟩ := w
                  obtain ⟨n, o, h, s⟩ := ih m' hm ρ4 j'
                  exact ⟨n + 1, o, (e2 n).trans h, s⟩
                | ct =>
                  obtain ⟨m', hm, j'⟩ := w
                  obtain ⟨n, o, h, s⟩ := ih m' hm ρ4 j'
                  exact ⟨n + 1, o, (e2 n).trans h, s⟩
                | bk => exact ⟨1, _, e2 0, w⟩
                | rt r => exact ⟨1, _, e2 0, w⟩
  intro m ρ j
  obtain ⟨n, o, h, s⟩ := key m ρ j
  unfold Wp
  rw [sWhile_eq h]
  exact s
section
variable {E : Px} {ρ ρ' : Rho} {QF : Fl → Rho → Prop} {f : M Rf}
theorem w_Ext {i : Nat} {b : Bool} {ds : List PyData} (e : ρ[i]? = some (some (.mu b (.lst ds)))) (w : Wp f ρ (fun x ρ1 => Wp (extK i x) ρ1 QF E) E) : Wp (sExt i f) ρ QF E := by
  unfold Wp
  have : sExt i f ρ = (f.bind (extK i)) ρ := by unfold sExt; rw [e]
  rw [this]
  exact w_bind w
theorem w_extK {i : Nat} {b b2 : Bool} {ds es : List PyData} {x : Rf} (ex : rdO ρ x = some (.mu b2 (.lst es))) (e : ρ[i]? = some (some (.mu b (.lst ds)))) (h : ds.length + es.length ≤ 16777216) (e2 : ρ.set i (some (.mu b (.lst (ds ++ es)))) = ρ') (q : QF .nx ρ') : Wp (extK i x) ρ QF E := .eq (show extK i x ρ = some (.ok .nx ρ') by
  unfold extK
  rw [ex]
  show upS i (muExt es) ρ = _
  unfold upS
  rw [e]
  have : muExt es (.lst ds) = some (.lst (ds ++ es)) := if_pos h
  simp only [this, e2]) q
theorem w_Aug {i : Nat} {h : Int → Int → Int} {a : Int} (e : ρ[i]? = some (some (.fz (.int a)))) (w : Wp f ρ (fun x ρ1 => Wp (augK i h a x) ρ1 QF E) E) : Wp (sAug i h f) ρ QF E := by
  unfold Wp
  have : sAug i h f ρ = (f.bind (augK i h a)) ρ := by unfold sAug; rw [e]
  rw [this]
  exact w_bind w
theorem w_augK {i : Nat} {h : Int → Int → Int} {a j : Int} {x : Rf} {b : O} {y : Option O} (ex : rdO ρ x = some b) (ej : b.view = .int j) (e : ρ[i]? = some y) (hf : Free y) (e2 : ρ.set i (some (.fz (.int (h a j)))) = ρ') (q : QF .nx ρ') : Wp (augK i h a x) ρ QF E := .eq (show augK i h a x ρ = some (.ok .nx ρ') by
  unfold augK
  rw [ex]
  simp only [ej]
  rw [stM_ap e hf, e2]) q
end
end Vs

/-! Vs: x[::-1], reversed(x). -/
namespace Vs
open PySem PySem.Spec PyProof.Rows L2
section
variable {prog : Program} {w : World} {A : Around} {E : Value → Shared → Prop} {s : Shared}
theorem rev_places (n : Nat) : Builtin.Slice.sliceAdjust none none (-1) (n : Int) = ((n : Int) - 1, -1) := by
  unfold Builtin.Slice.sliceAdjust
  rfl
theorem rev_count (n : Nat) : Builtin.Slice.slicePlaces ((n : Int) - 1) (-1) (-1) = n := by
  unfold Builtin.Slice.slicePlaces
  have h1 : ¬ ((-1 : Int) > 0) := by omega
  simp only [h1, if_false]
  by_cases h : n = 0
  · subst h; rfl
  · have : (n : Int) - 1 > -1 := by omega
    simp only [this, if_true, Int.neg_neg, Int.ediv_one]
    omega
theorem sliceApplied_rev {sl : Addr} {t : Tok} {n : Nat} {Q : Int × Int × Nat → Shared → Prop} (hs : s.heap.IsSliceOf sl .none .none (.int (-1) t))
    (h : Q ((n : Int) - 1, -1, n) s) : wpAny (model prog w) A (Builtin.Slice.sliceApplied (.ref sl) (pure (n : Int))) Q E s := by
  obtain ⟨os, hos, hcs, hds⟩ := id hs
  unfold Builtin.Slice.sliceApplied Builtin.Slice.sliceFields
  refine wpAny_bind (wpAny_bind (wpAny_field hos hds (x := .none) rfl (wpAny_bind (wpAny_field hos hds (x := .none) rfl (wpAny_bind (wpAny_field hos hds (x := .int (-1) t) rfl (wpAny_pure ?_)))))))
  refine wpAny_bind (HT.slicePart_ (.int (-1) t) ?_)
  show wpAny _ _ (if ((-1 : Int) == 0) = true then _ else _) _ _ s
  rw [if_neg (by decide)]
  refine wpAny_bind (HT.slicePart_ .none (wpAny_bind (HT.slicePart_ .none (wpAny_bind (wpAny_pure ?_)))))
  show wpAny _ _ (match Builtin.Slice.sliceAdjust none none (-1) (n : Int) with | (lo, hi) => pure (lo, (-1 : Int), Builtin.Slice.slicePlaces lo hi (-1))) _ _ s
  rw [rev_places n]
  show wpAny _ _ (pure ((n : Int) - 1, (-1 : Int), Builtin.Slice.slicePlaces ((n : Int) - 1) (-1) (-1))) _ _ s
  rw [rev_count]
  exact wpAny_pure h
theorem fm_congr {α β : Type} {f g : α → Option β} : ∀ {l : List α}, (∀ x ∈ l, f x = g x) → l.filterMap f = l.filterMap g
  | [], _ => rfl
  | x :: l, h => by
    rw [List.filterMap_cons, List.filterMap_cons, h x List.mem_cons_self, fm_congr fun y hy => h y (List.mem_cons_of_mem _ hy)]
theorem pick_rev (xs : Array Value) : ((List.range xs.size).filterMap fun (m : Nat) => xs[(((xs.size : Int) - 1) + (m : Int) * (-1)).toNat]?).toArray = xs.toList.reverse.toArray := by
  congr 1
  have e : (List.range xs.size).filterMap (fun (m : Nat) => xs[(((xs.size : Int) - 1) + (m : Int) * (-1)).toNat]?) = ((List.range xs.size).map fun m => xs.size - 1 - m).filterMap (xs[·]?) := by
    rw [List.filterMap_map]
    refine fm_congr fun m hm => ?_
    have hm := List.mem_range.mp hm
    have : (((xs.size : Int) - 1) + (m : Int) * (-1)).toNat = xs.size - 1 - m := by omega
    rw [this]
    rfl
  rw [e, PySem.W.krv_range, List.filterMap_reverse, PySem.W.krv_all]
theorem getItem_tuple_rev {a sl : Addr} {items : Array Value} {t : Tok} {Q : Value → Shared → Prop} (ht : IsTup s.heap a items) (hs : s.heap.IsSliceOf sl .none .none (.int (-1) t))
    (h : Q (.ref s.heap.objs.size) { s with heap := s.heap.push { cls := .type "tuple", data := .seq items.toList.reverse.toArray } })
    (hsz : items.size ≤ sizeLine) : wpAny (model prog w) A (getItem (.ref a) (.ref sl)) Q E s := by
  have htake : sizeOk (.seq items.toList.reverse.toArray) := by
    show items.toList.reverse.toArray.size ≤ sizeLine
    rw [List.size_toArray, List.length_reverse, Array.length_toList]
    omega
  obtain ⟨os, hos, hcs, hds⟩ := id hs
  have hTs : s.TypeIs (.ref sl) "slice" := ⟨os, hos, hcs⟩
  unfold getItem
  try with_reducible refine wpAny_holding ?_
  first | refine wpAny_bind (wpAny_pure ?_) | skip
  refine wpAny_bind (wpAny_sequenceKey ht.typeIs (by decide) ?_)
  refine wpAny_bind (wpAny_callSpecial?_slot (name := Str.ofString "__getitem__") ht.typeIs PyProof.Rows.slot_tuple_getitem
    (wpAny_call_entry PyProof.Rows.slot_tuple_getitem ht.typeIs entry_tuple_getitem ?_ (args_tuple_getitem _ _)))
  show wpAny _ _ (Builtin.Tuple.tupleItemsOf (.ref a) >>= _) _ _ s
  refine wpAny_bind (tupleItemsOf_ ht ?_)
  refine wpAny_bind (wpAny_typeOf hTs ?_)
  rw [if_pos (by decide)]
  refine wpAny_bind (sliceApplied_rev (n := items.size) hs ?_)
  have hno : ¬ ((((items.size : Int) - 1) == 0 && (-1 : Int) == 1 && items.size == items.size) = true) := by
    intro q
    rw [Bool.and_eq_true, Bool.and_eq_true] at q
    exact absurd q.1.2 (by decide)
  show wpAny _ _ (if (((items.size : Int) - 1) == 0 && (-1 : Int) == 1 && items.size == items.size) = true then _ else _) _ _ s
  rw [if_neg hno, pick_rev]
  first
    | exact wpAny_bind (m := Builtin.Tuple.tupleExact _) (wpAny_newObj_type (wpAny_pure ⟨_, rfl, wpAny_pure h⟩) htake)
    | exact wpAny_bind (m := Builtin.Tuple.tupleExact _) (wpAny_newObj_type (wpAny_bind (wpAny_pure (wpAny_pure ⟨_, rfl, wpAny_pure h⟩))) htake)
    | exact wpAny_bind (wpAny_bind (m := Builtin.Tuple.tupleExact _) (wpAny_newObj_type (wpAny_pure (wpAny_pure ⟨_, rfl, wpAny_pure h⟩)) htake))
    | exact wpAny_bind (wpAny_bind (m := Builtin.Tuple.tupleExact _) (wpAny_newObj_type (wpAny_pure ⟨_, rfl, wpAny_pure h⟩) htake))
end
/-- e[::-1] -/
def tRevA (K : PySem.W.Frag) (te : TE) : TE := fun σ H Q => te σ H fun x H1 => ∃ a xs, x = .ref a ∧
  ((SqL K H1 a xs ∧ ∀ p, H1 p = none → Q (.ref p) (upd H1 p (.lst xs.reverse))) ∨ (SqT K H1 a xs ∧ ∀ p, H1 p = none → Q (.ref p) (upd H1 p (.tup xs.reverse))))
theorem pe_revA {X : Cx} {e : Expr} {te : TE} {k : Nat} {p1 p2 p3 pos : Pos} (he : PE X e te) : PE X (.Subscript e (.Slice none none (some (.UnaryOp .USub (.Constant (.int 1) k p1) p2)) p3) pos) (tRevA X.K te) := by
  refine ⟨fun pins s σ H Q I h => ?_⟩
  refine Subscript_ (thn (he.run pins s σ H _ I h) fun v s1 ⟨x, H1, I1, r1, q1⟩ => ?_)
  obtain ⟨a, xs, ex, q⟩ := q1
  subst ex
  cases r1
  have hst : PO X (some (.UnaryOp .USub (.Constant (.int 1) k p1) p2)) (tPart (tUn (rU fun i => .int (-i)) (tC (.int 1)))) := po_some (pe_un un_neg pe_int)
  refine wpAny_Slice (thn (po_none.run pins s1 σ H1 (fun o H2 => o = none ∧ H2 = H1) I1 ⟨rfl, rfl⟩) fun vl s2 ⟨l, H2, I2, pl, el, e2⟩ => ?_)
  subst el e2
  refine thn (po_none.run pins s2 σ H2 (fun o H3 => o = none ∧ H3 = H2) I2 ⟨rfl, rfl⟩) fun vu s3 ⟨u, H3, I3, pu, eu, e3⟩ => ?_
  subst eu e3
  refine thn (hst.run pins s3 σ H3 (fun o H4 => o = some (-1) ∧ H4 = H3) I3 ⟨1, rfl, -1, rfl, rfl, rfl⟩) fun vs s4 ⟨o, H4, I4, ps, eo, e4⟩ => ?_
  subst eo e4
  have I5 : Inv X pins σ H4 { s4 with heap := s4.heap.push { cls := .type "slice", data := .fields #[vl, vu, vs] } } := I4.kept (t' := s4.toks) fun b ob q => Heap.get?_push_of_some _ q
  show wpAny (model X.prog X.w) X.A (subscriptTail e (.Slice none none (some (.UnaryOp .USub (.Constant (.int 1) k p1) p2)) p3) (.ref a) (.ref s4.heap.objs.size)) (EP X pins σ Q) X.xe { s4 with heap := s4.heap.push { cls := .type "slice", data := .fields #[vl, vu, vs] } }
  rcases q with ⟨hx, q⟩ | ⟨hx, q⟩
  · obtain ⟨its, r, ht, hz⟩ := I5.list hx
    have hlen := r.length
    refine tail_any (ops := [.ref a, .ref s4.heap.objs.size]) ht.isList.typeIs (PySem.slot_list_getitem.lookup) ?_ (by with_unfolding_all rfl)
    refine wpAny_getItem_list_slice ht.isList (Heap.IsSliceOf.new _ vl vu vs) pl pu ps (by decide) ?_ (by rw [List.size_toArray]; omega)
    rw [PySem.W.krv_pick]
    refine ⟨.ref _, _, I5.laid (t' := s4.toks) (o := .lst xs.reverse) (fun b ob q => Heap.get?_push_of_some _ q) (Nat.le_refl _) ?_, rfl, q _ (I5.hok.fresh (Nat.le_refl _))⟩
    exact ⟨by rw [List.length_reverse]; exact hz, _, 0, r.reverse, Heap.get?_push_size _ rfl⟩
  · obtain ⟨its, r, ht, hz⟩ := I5.tuple hx
    have hlen := r.length
    cases pl
    cases pu
    cases ps with
    | int _ t =>
    refine tail_any (ops := [.ref a, .ref s4.heap.objs.size]) ht.typeIs (PyProof.Rows.slot_tuple_getitem.lookup) ?_ (by with_unfolding_all rfl)
    refine getItem_tuple_rev ht (Heap.IsSliceOf.new _ _ _ _) ?_ (by rw [List.size_toArray]; omega)
    refine ⟨.ref _, _, I5.laid (t' := s4.toks) (o := .tup xs.reverse) (fun b ob q => Heap.get?_push_of_some _ q) (Nat.le_refl _) ?_, rfl, q _ (I5.hok.fresh (Nat.le_refl _))⟩
    exact ⟨by rw [List.length_reverse]; exact hz, _, r.reverse, IsTup.new _ _⟩
def hRev (a : O) : Option O := match a.view with
  | .list ds => some (.mu false (.lst ds.reverse))
  | .tuple ds => some (.fz (.tuple ds.reverse))
  | _ => none
theorem r_rev {X : Cx} {W : WX} {e : Expr} {f : M Rf} {k : Nat} {p1 p2 p3 pos : Pos} (he : EvO X W e f) : EvO X W (.Subscript e (.Slice none none (some (.UnaryOp .USub (.Constant (.int 1) k p1) p2)) p3) pos) (eUn hRev f) :=
  peI (pe_revA he) fun σ H Q ⟨ρ, F, r⟩ => ⟨ρ, F, r.bind.mono fun v H1 ⟨x, ρ1, F1, rx, p, r1⟩ => by
    obtain ⟨c, o, sl, e, kk⟩ := r1.dr1 rx
    unfold hRev at e
    split at e
    · rename_i ds hv
      cases e
      obtain ⟨a, xs, rfl, h1, r2⟩ := sl.lst r1.post.hd.le hv
      exact ⟨a, xs, rfl, .inl ⟨h1, Cont.lst (S := ⟨σ, ρ, F, H⟩) kk r1.post r2.rev⟩⟩
    · rename_i ds hv
      cases e
      obtain ⟨a, xs, rfl, h1, r2⟩ := sl.tup r1.post.hd.le hv
      exact ⟨a, xs, rfl, .inr ⟨h1, Cont.tup (S := ⟨σ, ρ, F, H⟩) kk r1.post r2.rev⟩⟩
    · cases e⟩
/-! ### reversed -/
theorem itr_revL {K : PySem.W.Frag} {F : Hp} {a : Addr} {xs : List V} {ds : List PyData} (h : SqL K F a xs) (r : RpA K F xs ds) : ItR K F (Itv K a xs.length) ds.reverse where
  stop := fun F' H' l1 l2 => by show xs.length ≤ _; rw [List.length_reverse, r.len]; exact Nat.le_refl _
  go := fun i F' H' hi l1 l2 => by
    rw [List.length_reverse, ← r.len] at hi
    have hx : xs.length - 1 - i < xs.length := by omega
    exact ⟨hi, xs, xs[xs.length - 1 - i], l2.seqL (l1.seqL h), List.getElem?_eq_getElem hx⟩
  yld := fun i d S σ ρ F' H' x H'' hd l1 p y => by
    obtain ⟨rfl, y⟩ := y
    have hi : i < ds.length := by
      have := (List.getElem?_eq_some_iff.mp hd).1
      rwa [List.length_reverse] at this
    rw [List.getElem?_reverse hi, ← r.len] at hd
    obtain ⟨v, hv, rv⟩ := r.get hd
    have := y xs (p.hd.le.seqL (l1.seqL h))
    rw [hv] at this; cases this
    exact ⟨F', p, Le.refl _, Rp.mono l1 rv, fun b o e => ⟨e, fun z => z⟩⟩
theorem itr_revT {K : PySem.W.Frag} {F : Hp} {a : Addr} {xs : List V} {ds : List PyData} (h : SqT K F a xs) (r : RpA K F xs ds) : ItR K F (RT.ItvT K a xs.length) ds.reverse where
  stop := fun F' H' l1 l2 => by show xs.length ≤ _; rw [List.length_reverse, r.len]; exact Nat.le_refl _
  go := fun i F' H' hi l1 l2 => by
    rw [List.length_reverse, ← r.len] at hi
    have hx : xs.length - 1 - i < xs.length := by omega
    exact ⟨hi, xs, xs[xs.length - 1 - i], l2.seqT (l1.seqT h), List.getElem?_eq_getElem hx⟩
  yld := fun i d S σ ρ F' H' x H'' hd l1 p y => by
    obtain ⟨rfl, y⟩ := y
    have hi : i < ds.length := by
      have := (List.getElem?_eq_some_iff.mp hd).1
      rwa [List.length_reverse] at this
    rw [List.getElem?_reverse hi, ← r.len] at hd
    obtain ⟨v, hv, rv⟩ := r.get hd
    have := y xs (p.hd.le.seqT (l1.seqT h))
    rw [hv] at this; cases this
    exact ⟨F', p, Le.refl _, Rp.mono l1 rv, fun b o e => ⟨e, fun z => z⟩⟩
def revM (d : PyData) : M (List PyData) := match d with
  | .list ds => M.ret ds.reverse
  | .tuple ds => M.ret ds.reverse
  | _ => fun _ => none
def iRv (f : M Rf) : M (List PyData) := (f.bind frz).bind revM
theorem evI_rev {X : Cx} {W : WX} {tg e : Expr} {f : M Rf} {p pos : Pos} (hg : Gl X "reversed") (hm : X.mg "reversed" = none) (he : EvO X W e f) (hs : starEach [e] X.env = (false, eval e X.env) :: starEach [] X.env := by rfl) : EvI X W tg (.Call (.Name "reversed" p) [e] [] pos) (iRv f) :=
  ⟨fun pins s σ H R I ⟨ρ, F, r⟩ => (RT.pi_revA hg hm (ev_frz he) hs).run pins s σ H R I ⟨ρ, F, r.bind.mono fun v H1 ⟨d, ρ1, F1, rd, p, p1, o, e, q⟩ => by
    have rd : Rp X.K F1 v d := rd
    unfold revM at e
    split at e
    · rename_i ds
      cases e
      cases rd with
      | lst h1 h2 => exact ⟨_, _, rfl, .inl ⟨p1.hd.le.seqL h1, q _ F1 H1 p1 (itr_revL h1 h2)⟩⟩
    · rename_i ds
      cases e
      cases rd with
      | tup h1 h2 => exact ⟨_, _, rfl, .inr ⟨p1.hd.le.seqT h1, q _ F1 H1 p1 (itr_revT h1 h2)⟩⟩
    · cases e⟩⟩
section
variable {E : Px} {ρ : Rho} {QL : List PyData → Rho → Prop} {f : M Rf}
theorem w_iRv (w : Wp f ρ (fun x ρ1 => Wp (frz x) ρ1 (fun d ρ2 => Wp (revM d) ρ2 QL E) E) E) : Wp (iRv f) ρ QL E := w_bind (w_bind w)
theorem w_rvl {ds : List PyData} (q : QL ds.reverse ρ) : Wp (revM (.list ds)) ρ QL E := q
theorem w_rvt {ds : List PyData} (q : QL ds.reverse ρ) : Wp (revM (.tuple ds)) ρ QL E := q
end
end Vs

/-! Vs: a call with two borrowed things. -/
namespace Vs
open PySem PySem.Spec L2
def BQ2 (ρ : Rho) (i : Nat) (b : Bool) (j : Nat) (b2 : Bool) (P : Rho → Prop) (ρa : Rho) : Prop := ∃ c m c2 m2 t ρ', ρa = some (.mu c m) :: some (.mu c2 m2) :: t ∧ (ρ.set i (some (.mu b m))).set j (some (.mu b2 m2)) = ρ' ∧ P ρ'
theorem bq2 {ρ ρ' : Rho} {i j : Nat} {b b2 c c2 : Bool} {P : Rho → Prop} {m m2 : Mu} {t : Rho} (e : (ρ.set i (some (.mu b m))).set j (some (.mu b2 m2)) = ρ') (q : P ρ') : BQ2 ρ i b j b2 P (some (.mu c m) :: some (.mu c2 m2) :: t) := ⟨c, m, c2, m2, t, ρ', rfl, e, q⟩
section
variable {ρ : Rho} {E : Px} {Q : Rf → Rho → Prop}
theorem back_br2 {i j : Nat} {xs : List Arg} {t : Rho} {b b2 c c2 : Bool} {m m2 m' m2' : Mu} (hij : i ≠ j) (h : ∀ i, brAt i xs = none) (hi : ρ[i]? = some (some (.mu b m))) (hj : ρ[j]? = some (some (.mu b2 m2))) :
    back ρ (.br i :: .br j :: xs) (some (.mu c m') :: some (.mu c2 m2') :: t) = (ρ.set i (some (.mu b m'))).set j (some (.mu b2 m2')) := by
  unfold back
  have hlt := (List.getElem?_eq_some_iff.mp hi).1
  have hlt2 := (List.getElem?_eq_some_iff.mp hj).1
  apply List.ext_getElem?
  intro k
  rw [List.getElem?_mapIdx]
  by_cases hk : j = k
  · subst hk
    rw [List.getElem?_set_self (by rw [List.length_set]; exact hlt2), hj]
    show some (backF _ _ j _) = _
    unfold backF
    rw [brAt_b, if_neg hij, brAt_b, if_pos rfl]
    rfl
  · rw [List.getElem?_set_ne hk]
    by_cases hk2 : i = k
    · subst hk2
      rw [List.getElem?_set_self hlt, hi]
      show some (backF _ _ i _) = _
      unfold backF
      rw [brAt_b, if_pos rfl]
      rfl
    · rw [List.getElem?_set_ne hk2]
      cases e : ρ[k]? with
      | none => rfl
      | some y =>
        show some (backF _ _ k y) = _
        unfold backF
        rw [brAt_b, if_neg hk2, brAt_b, if_neg hk, h k]
        rfl
theorem w_cBB {gg : M O} {n i j : Nat} {xs : List Arg} {ds : List PyData} {b b2 : Bool} {m m2 : Mu} {a : Rho} (e : fzs xs = some ds) (hn : ds.length + 2 = n) (hij : i ≠ j) (hi : ρ[i]? = some (some (.mu b m))) (hj : ρ[j]? = some (some (.mu b2 m2))) (ea : fzR ds = a)
    (w : Wp gg (some (.mu true m) :: some (.mu true m2) :: a) (fun o ρa => BQ2 ρ i b j b2 (Q (.o o)) ρa) (fun c ρa => BQ2 ρ i b j b2 (E c) ρa)) : Wp (callN gg n (.br i :: .br j :: xs)) ρ Q E := by
  subst ea
  obtain ⟨a, b1, c, l⟩ := fzs_arg (ρ := ρ) e
  have hb : brOk (.br i :: .br j :: xs) = true := by
    rw [brOk_b, brOk_b, c j, b1, brAt_b, if_neg (Ne.symm hij), c i]; rfl
  unfold Wp at w ⊢
  rw [callN_ap (by simp; omega), argE_b hi, argE_b hj, a, Option.map_some, Option.map_some, callA_ap, hb, callBO_t]
  cases e2 : gg (some (.mu true m) :: some (.mu true m2) :: fzR ds) with
  | none => rw [e2] at w; exact w
  | some o =>
    rw [e2] at w
    cases o with
    | ok x ρ2 =>
      obtain ⟨c1, m', c2, m2', t, ρ', rfl, e3, q⟩ := w
      show Q (.o x) (back ρ (.br i :: .br j :: xs) _); rw [back_br2 hij c hi hj, e3]; exact q
    | ex x ρ2 =>
      obtain ⟨c1, m', c2, m2', t, ρ', rfl, e3, q⟩ := w
      show E x (back ρ (.br i :: .br j :: xs) _); rw [back_br2 hij c hi hj, e3]; exact q
end
end Vs

/-! Vs: loops and comprehensions over a list that is told by a Lean list. -/
namespace Vs
open PySem PySem.Spec L2
section
variable {α : Type} {ρ ρ0 ρ1 : Rho} {E : Px} {Q : Rf → Rho → Prop}
/-- a comprehension over xs.map G that changes nothing -/
theorem w_lcT {vs : List Nat} {h : PyData → M Fl} {ft : M Bool} {fe : M PyData} {xs : List α} {G : α → PyData} (p : α → Bool) (F : α → PyData) (hv : freeV ρ vs = true) (hw : wipeA vs 0 ρ = ρ0) (hb : backA vs 0 ρ ρ0 = ρ1) (hl : xs.length < 16777216)
    (st : ∀ x ∈ xs, Wp (h (G x)) ρ0 (fun fl ρa => fl = .nx ∧ Wp ft ρa (fun b ρb => b = p x ∧ (p x = true → Wp fe ρb (fun y ρc => y = F x ∧ freeV ρc vs = true ∧ wipeA vs 0 ρc = ρ0) nx) ∧ (p x = false → freeV ρb vs = true ∧ wipeA vs 0 ρb = ρ0)) nx) nx)
    (q : Q (.o (.mu false (.lst ((xs.filter p).map F)))) ρ1) : Wp (lcM vs h ft fe (xs.map G)) ρ Q E := by
  refine w_lc (fun rest acc ρ' => ∃ ys : List α, rest = ys.map G ∧ ρ' = ρ0 ∧ acc ++ (ys.filter p).map F = (xs.filter p).map F ∧ acc.length + ys.length ≤ xs.length ∧ ∀ d ∈ ys, d ∈ xs) hv hw ⟨xs, rfl, rfl, by simp, by simp, fun _ h => h⟩ ?_ ?_
  · rintro d rest acc _ ⟨ys, er, rfl, e, hl2, hm⟩
    cases ys with
    | nil => cases er
    | cons x ys =>
      cases er
      have hl3 : acc.length + (ys.length + 1) ≤ xs.length := hl2
      refine (st x (hm x (List.mem_cons_self ..))).imp fun fl ρa ⟨hfl, w⟩ => ⟨hfl, w.imp fun b ρb ⟨hb, h1, h0⟩ => ?_⟩
      subst hb
      cases hp : p x with
      | true =>
        exact lcK_T ((h1 hp).imp fun y ρc ⟨hy, hf, hw⟩ => by
          subst hy
          exact ⟨by omega, hf, ys, rfl, hw, by rw [← e]; simp [List.filter_cons, hp], by rw [List.length_append, List.length_singleton]; omega, fun x hx => hm x (List.mem_cons_of_mem _ hx)⟩)
      | false =>
        exact lcK_F ⟨(h0 hp).1, ys, rfl, (h0 hp).2, by rw [← e]; simp [List.filter_cons, hp], by omega, fun x hx => hm x (List.mem_cons_of_mem _ hx)⟩
  · rintro ys _ ⟨zs, er, rfl, e, _, _⟩
    cases zs with
    | cons z zs => cases er
    | nil =>
      rw [List.filter_nil, List.map_nil, List.append_nil] at e
      rw [hb, e]; exact q
theorem w_lcTA {vs : List Nat} {h : PyData → M Fl} {fe : M PyData} {xs : List α} {G : α → PyData} (F : α → PyData) (hv : freeV ρ vs = true) (hw : wipeA vs 0 ρ = ρ0) (hb : backA vs 0 ρ ρ0 = ρ1) (hl : xs.length < 16777216)
    (st : ∀ x ∈ xs, Wp (h (G x)) ρ0 (fun fl ρa => fl = .nx ∧ Wp fe ρa (fun y ρc => y = F x ∧ freeV ρc vs = true ∧ wipeA vs 0 ρc = ρ0) nx) nx)
    (q : Q (.o (.mu false (.lst (xs.map F)))) ρ1) : Wp (lcM vs h iT fe (xs.map G)) ρ Q E :=
  w_lcT (fun _ => true) F hv hw hb hl (fun d hd => (st d hd).imp fun fl ρa ⟨e, w⟩ => ⟨e, w_iT ⟨rfl, fun _ => w, fun z => nomatch z⟩⟩) (by rw [List.filter_eq_self.mpr (fun _ _ => rfl)]; exact q)
/-- .. whose own slots are in use outside -/
theorem w_lcTAK {vs : List Nat} {h : PyData → M Fl} {fe : M PyData} {xs : List α} {G : α → PyData} (F : α → PyData) (hv : freeV ρ vs = true) (hw : wipeA vs 0 ρ = ρ0) (hb : backA vs 0 ρ ρ0 = ρ) (hl : xs.length < 16777216)
    (st : ∀ x ∈ xs, Wp (h (G x)) ρ0 (fun fl ρa => fl = .nx ∧ Wp fe ρa (fun y ρc => y = F x ∧ freeV ρc vs = true ∧ wipeA vs 0 ρc = ρ0) nx) nx)
    (q : Q (.o (.mu false (.lst (xs.map F)))) ρ) : Wp (lcM vs h iT fe (xs.map G)) ρ Q E := w_lcTA F hv hw hb hl st q
theorem w_lcTK {vs : List Nat} {h : PyData → M Fl} {ft : M Bool} {fe : M PyData} {xs : List α} {G : α → PyData} (p : α → Bool) (F : α → PyData) (hv : freeV ρ vs = true) (hw : wipeA vs 0 ρ = ρ0) (hb : backA vs 0 ρ ρ0 = ρ) (hl : xs.length < 16777216)
    (st : ∀ x ∈ xs, Wp (h (G x)) ρ0 (fun fl ρa => fl = .nx ∧ Wp ft ρa (fun b ρb => b = p x ∧ (p x = true → Wp fe ρb (fun y ρc => y = F x ∧ freeV ρc vs = true ∧ wipeA vs 0 ρc = ρ0) nx) ∧ (p x = false → freeV ρb vs = true ∧ wipeA vs 0 ρb = ρ0)) nx) nx)
    (q : Q (.o (.mu false (.lst ((xs.filter p).map F)))) ρ) : Wp (lcM vs h ft fe (xs.map G)) ρ Q E := w_lcT p F hv hw hb hl st q
/-- .. whose own slots are empty -/
theorem w_lcT0 {vs : List Nat} {h : PyData → M Fl} {ft : M Bool} {fe : M PyData} {xs : List α} {G : α → PyData} (p : α → Bool) (F : α → PyData) (hv : freeV ρ vs = true) (hw : wipeA vs 0 ρ = ρ) (hb : backA vs 0 ρ ρ = ρ) (hl : xs.length < 16777216)
    (st : ∀ x ∈ xs, Wp (h (G x)) ρ (fun fl ρa => fl = .nx ∧ Wp ft ρa (fun b ρb => b = p x ∧ (p x = true → Wp fe ρb (fun y ρc => y = F x ∧ freeV ρc vs = true ∧ wipeA vs 0 ρc = ρ) nx) ∧ (p x = false → freeV ρb vs = true ∧ wipeA vs 0 ρb = ρ)) nx) nx)
    (q : Q (.o (.mu false (.lst ((xs.filter p).map F)))) ρ) : Wp (lcM vs h ft fe (xs.map G)) ρ Q E := w_lcT p F hv hw hb hl st q
theorem w_lcTA0 {vs : List Nat} {h : PyData → M Fl} {fe : M PyData} {xs : List α} {G : α → PyData} (F : α → PyData) (hv : freeV ρ vs = true) (hw : wipeA vs 0 ρ = ρ) (hb : backA vs 0 ρ ρ = ρ) (hl : xs.length < 16777216)
    (st : ∀ x ∈ xs, Wp (h (G x)) ρ (fun fl ρa => fl = .nx ∧ Wp fe ρa (fun y ρc => y = F x ∧ freeV ρc vs = true ∧ wipeA vs 0 ρc = ρ) nx) nx)
    (q : Q (.o (.mu false (.lst (xs.map F)))) ρ) : Wp (lcM vs h iT fe (xs.map G)) ρ Q E := w_lcTA F hv hw hb hl st q
/-- a live comprehension that changes nothing -/
theorem lcLive_T {i : Nat} {vs : List Nat} {h : PyData → M Fl} {ft : M Bool} {fe : M PyData} {xs : List α} {G : α → PyData} (p : α → Bool) (F : α → PyData) (hi : ρ[i]? = some (some (.mu true (.lst (xs.map G)))))
    (st : ∀ x ∈ xs, Wp (h (G x)) ρ (fun fl ρa => fl = .nx ∧ Wp ft ρa (fun b ρb => b = p x ∧ (p x = true → Wp fe ρb (fun y ρc => y = F x ∧ freeV ρc vs = true ∧ wipeA vs 0 ρc = ρ) nx) ∧ (p x = false → freeV ρb vs = true ∧ wipeA vs 0 ρb = ρ)) nx) nx) (hl : xs.length < 16777216) :
    ∀ (n k : Nat) (_ : k + n = xs.length + 1) (_ : k ≤ xs.length), lcLive i vs h ft fe n k (((xs.take k).filter p).map F) ρ = some (.ok ((xs.filter p).map F) ρ)
  | 0, k, e, hk => by omega
  | n + 1, k, e, hk => by
    unfold lcLive
    simp only [hi]
    by_cases hk2 : k < xs.length
    · have hg : (xs.map G)[k]? = some (G xs[k]) := by rw [List.getElem?_map, List.getElem?_eq_getElem hk2]; rfl
      rw [hg]
      obtain ⟨fl, ρ1, e1, rfl, w⟩ := (st xs[k] (List.getElem_mem hk2)).get
      obtain ⟨b, ρ2, e2, rfl, h1, h0⟩ := w.get
      have hlen : (((xs.take k).filter p).map F).length < 16777216 := by
        rw [List.length_map]
        have := List.length_filter_le p (xs.take k)
        rw [List.length_take] at this
        omega
      have ht : (xs.take (k + 1)).filter p = (xs.take k).filter p ++ (if p xs[k] = true then [xs[k]] else []) := by
        rw [List.take_succ_eq_append_getElem hk2, List.filter_append]
        congr 1
        by_cases hp : p xs[k] = true
        · simp [hp]
        · simp [hp]
      show lcH vs ft fe _ (lcLive i vs h ft fe n (k + 1)) (h (G xs[k]) ρ) = _
      rw [e1]
      show lcT vs fe _ (lcLive i vs h ft fe n (k + 1)) (ft ρ1) = _
      rw [e2]
      have ih := lcLive_T p F hi st hl n (k + 1) (by omega) (by omega)
      cases hp : p xs[k] with
      | true =>
        obtain ⟨y, ρ3, e3, rfl, hv, hw⟩ := (h1 hp).get
        show lcE vs _ (lcLive i vs h ft fe n (k + 1)) (fe ρ2) = _
        rw [e3]
        show (if (((xs.take k).filter p).map F).length < 16777216 ∧ freeV ρ3 vs = true then lcLive i vs h ft fe n (k + 1) (((xs.take k).filter p).map F ++ [F xs[k]]) (wipeR ρ3 vs) else none) = _
        rw [if_pos ⟨hlen, hv⟩, wipeR_eq, hw, ← ih, ht, if_pos hp, List.map_append]
        rfl
      | false =>
        obtain ⟨hv, hw⟩ := h0 hp
        show (if freeV ρ2 vs = true then lcLive i vs h ft fe n (k + 1) (((xs.take k).filter p).map F) (wipeR ρ2 vs) else none) = _
        rw [if_pos hv, wipeR_eq, hw, ← ih, ht, if_neg (by rw [hp]; exact Bool.false_ne_true), List.append_nil]
    · have : k = xs.length := by omega
      subst this
      rw [show (xs.map G)[xs.length]? = none from List.getElem?_eq_none (by simp)]
      simp
theorem w_lcLT {i : Nat} {vs : List Nat} {h : PyData → M Fl} {ft : M Bool} {fe : M Rf} {xs : List α} {G : α → PyData} {b : Bool} {ρL : Rho} (p : α → Bool) (F : α → PyData) (hi : ρ[i]? = some (some (.mu b (.lst (xs.map G))))) (hL : ρ.set i (some (.mu true (.lst (xs.map G)))) = ρL)
    (hv : freeV ρ vs = true) (hw : wipeA vs 0 ρL = ρL) (hb : backA vs 0 ρL ρL = ρL) (hu : ρL.set i (some (.mu b (.lst (xs.map G)))) = ρ) (hl : xs.length < 16777216)
    (st : ∀ x ∈ xs, Wp (h (G x)) ρL (fun fl ρa => fl = .nx ∧ Wp ft ρa (fun b ρb => b = p x ∧ (p x = true → Wp (fe.bind frz) ρb (fun y ρc => y = F x ∧ freeV ρc vs = true ∧ wipeA vs 0 ρc = ρL) nx) ∧ (p x = false → freeV ρb vs = true ∧ wipeA vs 0 ρb = ρL)) nx) nx)
    (q : Q (.o (.mu false (.lst ((xs.filter p).map F)))) ρ) : Wp (eLcL i vs h ft fe) ρ Q E := by
  have hlt := (List.getElem?_eq_some_iff.mp hi).1
  have hiL : ρL[i]? = some (some (.mu true (.lst (xs.map G)))) := by rw [← hL, List.getElem?_set_self hlt]
  have := lcLive_T (vs := vs) (h := h) (ft := ft) (fe := fe.bind frz) p F hiL st hl (xs.length + 1) 0 (by omega) (Nat.zero_le _)
  rw [List.take_zero, List.filter_nil, List.map_nil] at this
  refine .eq (x := .o (.mu false (.lst ((xs.filter p).map F)))) (ρ1 := ρ) ?_ q
  unfold eLcL lcL
  simp only [hi, hv, if_true, hL, wipeR_eq, hw, List.length_map, this, lcEnd, backR_eq, hb]
  unfold unl
  simp only [hiL, hu, Option.map_some]
/-- a loop over xs.map G -/
theorem w_forT {h : PyData → M Fl} {fb : M Fl} {QF : Fl → Rho → Prop} {xs : List α} {G : α → PyData} (J : List α → List α → Rho → Prop) (j : J [] xs ρ)
    (step : ∀ done x rest ρ, xs = done ++ x :: rest → J done (x :: rest) ρ → Wp (h (G x)) ρ (fun fl ρ1 => Wp (tgK fb fl) ρ1 (Turn (J (done ++ [x]) rest) QF) E) nx)
    (fin : ∀ ρ, J xs [] ρ → QF .nx ρ) : Wp (forF h fb (xs.map G)) ρ QF E := by
  refine w_for (fun rest ρ => ∃ done todo : List α, xs = done ++ todo ∧ rest = todo.map G ∧ J done todo ρ) ?_ ⟨[], xs, rfl, rfl, j⟩ ?_
  · rintro d rest ρ ⟨done, todo, e, er, jj⟩
    cases todo with
    | nil => cases er
    | cons x todo =>
      cases er
      refine (step done x todo ρ e jj).imp fun fl ρ1 w => w.mono (fun fl ρ2 t => ?_) fun _ _ z => z
      have mk : J (done ++ [x]) todo ρ2 → ∃ d2 t2 : List α, xs = d2 ++ t2 ∧ todo.map G = t2.map G ∧ J d2 t2 ρ2 := fun z => ⟨done ++ [x], todo, by rw [e]; simp, rfl, z⟩
      cases fl with
      | nx => exact mk t
      | ct => exact mk t
      | bk => exact t
      | rt r => exact t
  · rintro ρ ⟨done, todo, e, er, jj⟩
    cases todo with
    | cons x todo => cases er
    | nil =>
      rw [List.append_nil] at e
      subst e
      exact fin ρ jj
end
/-! .. over any list -/
theorem w_lcP {vs : List Nat} {h : PyData → M Fl} {ft : M Bool} {fe : M PyData} {ds : List PyData} {ρ ρ0 ρ1 : Rho} {E : Px} {Q : Rf → Rho → Prop} (p : PyData → Bool) (F : PyData → PyData) (hv : freeV ρ vs = true) (hw : wipeA vs 0 ρ = ρ0) (hb : backA vs 0 ρ ρ0 = ρ1) (hl : ds.length < 16777216)
    (st : ∀ d ∈ ds, Wp (h d) ρ0 (fun fl ρa => fl = .nx ∧ Wp ft ρa (fun b ρb => b = p d ∧ (p d = true → Wp fe ρb (fun y ρc => y = F d ∧ freeV ρc vs = true ∧ wipeA vs 0 ρc = ρ0) nx) ∧ (p d = false → freeV ρb vs = true ∧ wipeA vs 0 ρb = ρ0)) nx) nx)
    (q : Q (.o (.mu false (.lst ((ds.filter p).map F)))) ρ1) : Wp (lcM vs h ft fe ds) ρ Q E := by
  refine w_lc (fun rest acc ρ' => ρ' = ρ0 ∧ acc ++ (rest.filter p).map F = (ds.filter p).map F ∧ acc.length + rest.length ≤ ds.length ∧ ∀ d ∈ rest, d ∈ ds) hv hw ⟨rfl, rfl, by simp, fun _ h => h⟩ ?_ ?_
  · rintro d rest acc _ ⟨rfl, e, hl2, hm⟩
    have hl3 : acc.length + (rest.length + 1) ≤ ds.length := hl2
    refine (st d (hm d (List.mem_cons_self ..))).imp fun fl ρa ⟨hfl, w⟩ => ⟨hfl, w.imp fun b ρb ⟨hb, h1, h0⟩ => ?_⟩
    subst hb
    cases hp : p d with
    | true =>
      exact lcK_T ((h1 hp).imp fun y ρc ⟨hy, hf, hw⟩ => by
        subst hy
        exact ⟨by omega, hf, hw, by rw [← e]; simp [List.filter_cons, hp], by rw [List.length_append, List.length_singleton]; omega, fun x hx => hm x (List.mem_cons_of_mem _ hx)⟩)
    | false =>
      exact lcK_F ⟨(h0 hp).1, (h0 hp).2, by rw [← e]; simp [List.filter_cons, hp], by omega, fun x hx => hm x (List.mem_cons_of_mem _ hx)⟩
  · rintro ys _ ⟨rfl, e, _, _⟩
    rw [List.filter_nil, List.map_nil, List.append_nil] at e
    rw [hb, e]; exact q
theorem w_lcA {vs : List Nat} {h : PyData → M Fl} {fe : M PyData} {ds : List PyData} {ρ ρ0 ρ1 : Rho} {E : Px} {Q : Rf → Rho → Prop} (F : PyData → PyData) (hv : freeV ρ vs = true) (hw : wipeA vs 0 ρ = ρ0) (hb : backA vs 0 ρ ρ0 = ρ1) (hl : ds.length < 16777216)
    (st : ∀ d ∈ ds, Wp (h d) ρ0 (fun fl ρa => fl = .nx ∧ Wp fe ρa (fun y ρc => y = F d ∧ freeV ρc vs = true ∧ wipeA vs 0 ρc = ρ0) nx) nx)
    (q : Q (.o (.mu false (.lst (ds.map F)))) ρ1) : Wp (lcM vs h iT fe ds) ρ Q E :=
  w_lcP (fun _ => true) F hv hw hb hl (fun d hd => (st d hd).imp fun fl ρa ⟨e, w⟩ => ⟨e, w_iT ⟨rfl, fun _ => w, fun z => nomatch z⟩⟩) (by rw [List.filter_eq_self.mpr (fun _ _ => rfl)]; exact q)
theorem w_lcA0 {vs : List Nat} {h : PyData → M Fl} {fe : M PyData} {ds : List PyData} {ρ : Rho} {E : Px} {Q : Rf → Rho → Prop} (F : PyData → PyData) (hv : freeV ρ vs = true) (hw : wipeA vs 0 ρ = ρ) (hb : backA vs 0 ρ ρ = ρ) (hl : ds.length < 16777216)
    (st : ∀ d ∈ ds, Wp (h d) ρ (fun fl ρa => fl = .nx ∧ Wp fe ρa (fun y ρc => y = F d ∧ freeV ρc vs = true ∧ wipeA vs 0 ρc = ρ) nx) nx)
    (q : Q (.o (.mu false (.lst (ds.map F)))) ρ) : Wp (lcM vs h iT fe ds) ρ Q E := w_lcA F hv hw hb hl st q
theorem w_lcP0 {vs : List Nat} {h : PyData → M Fl} {ft : M Bool} {fe : M PyData} {ds : List PyData} {ρ : Rho} {E : Px} {Q : Rf → Rho → Prop} (p : PyData → Bool) (F : PyData → PyData) (hv : freeV ρ vs = true) (hw : wipeA vs 0 ρ = ρ) (hb : backA vs 0 ρ ρ = ρ) (hl : ds.length < 16777216)
    (st : ∀ d ∈ ds, Wp (h d) ρ (fun fl ρa => fl = .nx ∧ Wp ft ρa (fun b ρb => b = p d ∧ (p d = true → Wp fe ρb (fun y ρc => y = F d ∧ freeV ρc vs = true ∧ wipeA vs 0 ρc = ρ) nx) ∧ (p d = false → freeV ρb vs = true ∧ wipeA vs 0 ρb = ρ)) nx) nx)
    (q : Q (.o (.mu false (.lst ((ds.filter p).map F)))) ρ) : Wp (lcM vs h ft fe ds) ρ Q E := w_lcP p F hv hw hb hl st q
/-- .. where the comprehension's own slots are in use outside -/
theorem w_lcW {vs : List Nat} {h : PyData → M Fl} {ft : M Bool} {fe : M PyData} {ds : List PyData} {ρ : Rho} {E : Px} {Q : Rf → Rho → Prop} (p : PyData → Bool) (F : PyData → PyData) (hv : freeV ρ vs = true) (hl : ds.length < 16777216)
    (st : ∀ d ∈ ds, Wp (h d) (wipeA vs 0 ρ) (fun fl ρa => fl = .nx ∧ Wp ft ρa (fun b ρb => b = p d ∧ (p d = true → Wp fe ρb (fun y ρc => y = F d ∧ freeV ρc vs = true ∧ wipeA vs 0 ρc = wipeA vs 0 ρ) nx) ∧ (p d = false → freeV ρb vs = true ∧ wipeA vs 0 ρb = wipeA vs 0 ρ)) nx) nx)
    (q : Q (.o (.mu false (.lst ((ds.filter p).map F)))) (backA vs 0 ρ (wipeA vs 0 ρ))) : Wp (lcM vs h ft fe ds) ρ Q E := w_lcP p F hv rfl rfl hl st q
end Vs

/-! Vs: sum of a list or tuple. -/
namespace Vs
open PySem PySem.Spec PyProof.Rows L2
open AutoSeq1 (wpAny_loadPart')
def rSumA (K : PySem.W.Frag) : List V → Hp → VK → Prop := fun vs H Q => ∃ (a : Addr) (ns : List Int), vs = [V.ref a] ∧ (SqL K H a (ns.map V.int) ∨ SqT K H a (ns.map V.int)) ∧ Q (.int ns.sum) H
theorem cr_sumA {X : Cx} (hc : X.calm = true) : CallR X (.builtin "sum") (rSumA X.K) := by
  intro pins s σ H vs us Q I r h
  obtain ⟨a, ns, rfl, hs | hs, q⟩ := h
  · exact cr_sum hc pins s σ H _ us Q I r ⟨a, ns, rfl, hs, q⟩
  · obtain ⟨its, rv, hl, _⟩ := I.tuple hs
    rw [Vals.ref1 r]
    have hi := rv.ints
    obtain ⟨o, ho, hcl, n, hd⟩ := id hl
    have ht : s.heap.IsTuple a its.toArray := by
      obtain ⟨oc, od, oda, osl⟩ := o
      dsimp only at hcl hd
      subst hcl hd
      exact ⟨_, ho, rfl, n, rfl⟩
    obtain ⟨xs, hx⟩ := hi.allInts.items
    have hn : numsOf its.toArray.toList = ns := by rw [show its.toArray.toList = its from rfl, hi.numsOf]
    rw [hx] at ht hn
    rw [nums_intItems] at hn
    refine PySem.W.ktm_sumG (I.ok.hd hc) ht fun h' tk t' hk => ⟨.int ns.sum, H, I.kept hk, ⟨t', ?_⟩, q⟩
    rw [preSum_eq, List.take_of_length_le (by simp), hn]
def hSumA : List O → Option O
  | [a] => (match a.view with
    | .list ds => (intsD ds).map fun ns => .fz (.int ns.sum)
    | .tuple ds => (intsD ds).map fun ns => .fz (.int ns.sum)
    | _ => none)
  | _ => none
theorem sn_sumA {K : PySem.W.Frag} : SnN K (rSumA K) hSumA := by
  intro S ρ F H vs os o Q p r e k
  unfold hSumA at e
  split at e
  · obtain ⟨v, rfl, ra⟩ := one_slot r
    split at e
    · rename_i ds ea
      obtain ⟨ns, e1, rfl⟩ := Option.map_eq_some_iff.mp e
      obtain ⟨b, xs, rfl, h1, r1⟩ := ra.lst p.hd.le ea
      have ex := ints_rp r1 e1
      subst ex
      exact ⟨b, ns, rfl, .inl h1, k _ F H p (.int _)⟩
    · rename_i ds ea
      obtain ⟨ns, e1, rfl⟩ := Option.map_eq_some_iff.mp e
      obtain ⟨b, xs, rfl, h1, r1⟩ := ra.tup p.hd.le ea
      have ex := ints_rp r1 e1
      subst ex
      exact ⟨b, ns, rfl, .inr h1, k _ F H p (.int _)⟩
    · cases e
  · cases e
theorem list_mulW (l : Addr) (items : Array Value) (n : Nat) (sl : Array (Option Value)) (x : Int) (u : Tok) (hc0 : ¬(!Builtin.List.listFitsIndex x) = true) (hc1 : ¬items.size * x.toNat > (2 ^ 63 - 1) / 8) (hc2 : ¬Builtin.List.listTooLong (items.size * x.toNat) = true) :
    Meets (Builtin.«list.__mul__» ⟨[.ref l, .int x u], []⟩) (fun _ R s => s.heap.get? l = some { cls := .type "list", dict := none, data := .seq items n, slots := sl } ∧ R (.ok (.ret (Value.ref s.heap.objs.size))) { s with heap := s.heap.push { cls := Value.type "list", data := Data.seq (List.foldl (fun x1 x2 => x1 ++ x2) #[] (List.replicate (if items.isEmpty = true then 0 else x.toNat) items)) }, toks := s.toks }) :=
  .of_wp fun prog w A R s h => by
    obtain ⟨hp, g, d, tk, os⟩ := s; obtain ⟨hl, h⟩ := h
    have hsz := AutoListH.joined_fits hc2
    wp_walk using wpAny_loadPart' hl
    refine wpAny_ite_false (decide_eq_false (Nat.not_lt.mpr hsz)) ?_
    wp_walk using wpAny_loadPart' hl
    exact ⟨_, rfl, h⟩
theorem int_rmul_listW (a : Int) (t : Tok) (l : Addr) (items : Array Value) (n : Nat) (sl : Array (Option Value)) :
    Meets (Builtin.«int.__rmul__» ⟨[.int a t, .ref l], []⟩) (fun _ R s => s.heap.get? l = some { cls := .type "list", dict := none, data := .seq items n, slots := sl } ∧ R (.ok (.ret Value.notImplemented)) s) :=
  .of_wp fun prog w A R s h => by obtain ⟨hp, g, d, tk, os⟩ := s; obtain ⟨hl, h⟩ := h; wp_walk using wpAny_loadPart' hl; exact ⟨_, rfl, h⟩
def rRepL (K : PySem.W.Frag) : R2 := fun x y H Q => ∃ l k xs, x = .ref l ∧ y = .int k ∧ SqL K H l xs ∧ -(2 ^ 63) ≤ k ∧ k < 2 ^ 63 ∧ xs.length * k.toNat ≤ sizeLine ∧
  ∀ p, H p = none → Q (.ref p) (upd H p (.lst (List.replicate k.toNat xs).flatten))
theorem op_repL {X : Cx} : OpR X (binaryOp .Mult) (rRepL X.K) := by
  intro pins s σ H x y v u Q I rx ry h
  obtain ⟨l, k, xs, rfl, rfl, hH, h1, h2, hz, q⟩ := h
  cases rx
  obtain ⟨t, rfl⟩ := ry
  obtain ⟨its, r, ⟨⟨cls, dd, data, sl⟩, n, e, hc, hdd, hd⟩, _⟩ := I.list hH
  simp only at hc hd hdd
  subst hc hd hdd
  have hl : xs.length = its.length := r.length
  have hlen : its.toArray.size * k.toNat ≤ sizeLine := by rw [List.size_toArray, ← hl]; exact hz
  have hcap : ¬ its.toArray.size * k.toNat > (2 ^ 63 - 1) / 8 := by
    have : (sizeLine : Nat) ≤ (2 ^ 63 - 1) / 8 := by decide
    omega
  have hfit : ¬ (!Builtin.List.listFitsIndex k) = true := by
    rw [fitsIndex_both h1 h2]
    exact Bool.false_ne_true
  have hlong : ¬ Builtin.List.listTooLong (its.toArray.size * k.toNat) = true := by
    rw [notLongL hlen]
    exact Bool.false_ne_true
  have hnew : List.foldl (fun x1 x2 => x1 ++ x2) #[] (List.replicate (if its.toArray.isEmpty = true then 0 else k.toNat) its.toArray) = (List.replicate k.toNat its).flatten.toArray := by
    have f0 : ∀ m : Nat, List.foldl (fun x1 x2 => x1 ++ x2) #[] (List.replicate m its.toArray) = (List.replicate m its).flatten.toArray := fun m => by
      have := foldl_rep its m []
      rw [List.nil_append] at this
      exact this
    rw [f0]
    cases its with
    | nil => simp
    | cons a r' => rw [if_neg (by simp)]
  refine wpAny_binaryOp_repeat_ref (T := "list") (U := "int") (by decide) ⟨_, e, rfl⟩ (fun s' => typeIs_int s' k t) noFill_list_mul F.fills_int_mul F.slot_int_rmul repeat_list F.slot_int_index.lookup
    (call_meets F.slot_int_rmul (typeIs_int s k t) F.entry_int_rmul (F.args_int_rmul_2 _ _) (int_rmul_listW k t l its.toArray n sl)
      ⟨e, rfl, ⟨_, e, rfl⟩, call_meets F.slot_list_mul ⟨_, e, rfl⟩ F.entry_list_mul (F.args_list_mul_2 _ _) (list_mulW l its.toArray n sl k t hfit hcap hlong) ⟨e, ?_⟩⟩)
  rw [hnew]
  exact ⟨.ref _, _, I.lnew (t' := s.toks) (r.rep k.toNat) (by rw [PyProof.Rows.lm_len_rep_flat, Nat.mul_comm]; exact hz), rfl, q _ I.fresh⟩
/-- [..] * k -/
def hMulL (a b : O) : Option O := match a.view, b.view with
  | .list ds, .int k => if -(2 ^ 62) ≤ k ∧ k ≤ 1000 ∧ ds.length ≤ 1000 then some (.mu false (.lst (List.replicate k.toNat ds).flatten)) else none
  | _, _ => none
theorem sn_mulL {K : PySem.W.Frag} : Sn2 K (rRepL K) hMulL := by
  intro S ρ F H v w a b o Q p ra rb e k
  unfold hMulL at e
  split at e
  · rename_i ds j ea eb
    split at e
    · rename_i hc
      cases e
      obtain ⟨l, xs, rfl, hu, r1⟩ := ra.lst p.hd.le ea
      obtain ⟨h1, h2, h3⟩ := hc
      have hk : j.toNat ≤ 1000 := by omega
      have hm : xs.length * j.toNat ≤ 1000 * 1000 := Nat.mul_le_mul (by rw [r1.len]; exact h3) hk
      exact ⟨l, j, xs, rfl, rb.int eb, hu, by omega, by omega, by rw [slen]; omega, Cont.lst k p (r1.rep j.toNat)⟩
    · cases e
  · cases e
end Vs

/-! Vs: str * int. -/
namespace Vs
open PySem PySem.Spec PyProof.Rows L2
def srep (x : Str) (n : Nat) : Str := ⟨(List.replicate n x.cps).foldl (· ++ ·) #[]⟩
theorem srep_size (a : Array Nat) : ∀ (n : Nat) (acc : Array Nat), ((List.replicate n a).foldl (· ++ ·) acc).size = acc.size + n * a.size
  | 0, acc => by simp
  | n + 1, acc => by
    rw [List.replicate_succ, List.foldl_cons, srep_size a n, Array.size_append, Nat.succ_mul]
    omega
def rMulS (K : PySem.W.Frag) : R2 := fun x y H Q => ∃ i k, x = .str i ∧ y = .int k ∧ 0 ≤ k ∧ k ≤ 10000 ∧ 1 ≤ i.length ∧ i.length ≤ 1000 ∧ Q (.str (srep i k.toNat)) H
theorem op_mulS {X : Cx} : OpR X (binaryOp .Mult) (rMulS X.K) := by
  intro pins s σ H x y v u Q I rx ry h
  obtain ⟨i, k, rfl, rfl, h1, h2, h3, h4, q⟩ := h
  obtain ⟨t, rfl⟩ := rx
  obtain ⟨t', rfl⟩ := ry
  have hm : i.length * k.toNat ≤ 1000 * 10000 := Nat.mul_le_mul h4 (by omega)
  by_cases h0 : k = 0
  · subst h0
    exact P.mul_str_none (by decide) (by decide) ⟨.str _, H, I.tok _, ⟨_, rfl⟩, q⟩
  have h1 : 1 ≤ k := by omega
  refine P.mul_str ?_ ?_ ?_ ?_
  · rw [decide_eq_false (by omega), decide_eq_false (by omega)]; rfl
  · intro _ _
    have : (1000 : Int) ≤ (2 ^ 63 - 1) / k := by
      rw [Int.le_ediv_iff_mul_le (by omega)]
      omega
    omega
  · intro _ _
    unfold Builtin.Str.tooLong
    exact decide_eq_false (by have : (sizeLine : Nat) = 16777216 := rfl; omega)
  · rw [if_neg (by omega)]
    by_cases z : k = 1
    · subst z
      rw [if_pos (by simp)]
      refine ⟨.str i, H, I, ⟨t, rfl⟩, ?_⟩
      have : srep i (1 : Int).toNat = i := by
        show (⟨#[] ++ i.cps⟩ : Str) = i
        rw [Array.empty_append]
      rw [this] at q; exact q
    · have hc : (k == 1 || i.length == 0) = false := by
        rw [Bool.or_eq_false_iff]
        exact ⟨by simpa using z, by simp; omega⟩
      rw [hc, if_neg (by simp)]
      have hlen : (srep i k.toNat).length = k.toNat * i.length := by
        have := srep_size i.cps k.toNat #[]
        show ((List.replicate k.toNat i.cps).foldl (· ++ ·) #[]).size = _
        rw [this]; simp; rfl
      exact ⟨by rw [show (⟨(List.replicate k.toNat i.cps).foldl (· ++ ·) #[]⟩ : Str).length = k.toNat * i.length from hlen, Nat.mul_comm]; have : (sizeLine : Nat) = 16777216 := rfl; omega, .str _, H, I.tok _, ⟨_, rfl⟩, q⟩
def hMulS (a b : O) : Option O := match a.view, b.view with
  | .str x, .int k => if 0 ≤ k ∧ k ≤ 10000 ∧ 1 ≤ x.length ∧ x.length ≤ 1000 then some (.fz (.str (srep x k.toNat))) else none
  | _, _ => none
theorem sn_mulS {K : PySem.W.Frag} : Sn2 K (rMulS K) hMulS := by
  intro S ρ F H v w a b o Q p ra rb e k
  unfold hMulS at e
  split at e
  · rename_i x j ea eb
    split at e
    · rename_i hc
      cases e
      obtain ⟨h1, h2, h3, h4⟩ := hc
      exact ⟨x, j, ra.str ea, rb.int eb, h1, h2, h3, h4, k _ F H p (.str _)⟩
    · cases e
  · cases e
end Vs

/-! Vs: words of texts. -/
namespace Vs
open PySem PySem.Spec PyProof.Rows L2
def strsD : List PyData → Option (List Str)
  | [] => some []
  | .str x :: ds => (strsD ds).map (x :: ·)
  | _ => none
theorem strs_rp {K : PySem.W.Frag} {F : Hp} : ∀ {xs : List V} {ds : List PyData} {ys : List Str}, RpA K F xs ds → strsD ds = some ys → xs = ys.map V.str
  | _, _, _, .nil, e => by cases e; rfl
  | _, d :: ds, ys, .cons h r, e => by
    cases d with
    | str x =>
      obtain ⟨zs, e1, rfl⟩ := Option.map_eq_some_iff.mp (show (strsD ds).map (x :: ·) = some ys from e)
      rw [strs_rp r e1]
      cases h; rfl
    | _ => cases e
theorem rp_strs {K : PySem.W.Frag} {F : Hp} : ∀ {ys : List Str}, RpA K F (ys.map V.str) (ys.map .str)
  | [] => .nil
  | y :: ys => .cons (.str y) rp_strs
theorem strsD_map : ∀ ys : List Str, strsD (ys.map .str) = some ys
  | [] => rfl
  | y :: ys => by show (strsD (ys.map .str)).map (y :: ·) = _; rw [strsD_map ys]; rfl
/-- x.split(y) -/
def hSplit (a : O) (xs : List O) : Option O := match xs with
  | [b] => (match a.view, b.view with
    | .str x, .str y => if 1 ≤ y.length ∧ x.length + 2 ≤ 16777216 then some (.mu false (.lst ((Txt.split x y).map .str))) else none
    | _, _ => none)
  | _ => none
theorem sn_split {K : PySem.W.Frag} : SnM K "str" (fun x xs H Q => ∃ a b, x = .str a ∧ xs = [.str b] ∧ (b.length == 0) = false ∧ a.length + 2 ≤ sizeLine ∧ rNewStrs (Txt.split a b) H Q) hSplit := by
  intro S ρ F H v a vs os o Q p ra rs e k
  unfold hSplit at e
  split at e
  · rename_i b
    obtain ⟨w, rfl, rb⟩ := one_slot rs
    split at e
    · rename_i x y ea eb
      split at e
      · rename_i hc
        cases e
        exact ⟨x, y, ra.str ea, by rw [rb.str eb], beq_eq_false_iff_ne.mpr (by omega), by rw [slen]; exact hc.2, fun q n => Cont.lst k p rp_strs q n⟩
      · cases e
    · cases e
  · cases e
/-- x.partition(y) -/
def hPart (a : O) (xs : List O) : Option O := match xs with
  | [b] => (match a.view, b.view with
    | .str x, .str y => if 1 ≤ y.length ∧ x.length ≤ 16777216 then some (.fz (.tuple [.str (Txt.partition x y).1, .str (Txt.partition x y).2.1, .str (Txt.partition x y).2.2])) else none
    | _, _ => none)
  | _ => none
theorem sn_part {K : PySem.W.Frag} : SnM K "str" (fun x xs H Q => ∃ a b, x = .str a ∧ xs = [.str b] ∧ (b.length == 0) = false ∧ a.length ≤ sizeLine ∧
    ∀ p, H p = none → Q (.ref p) (upd H p (.tup [.str (Txt.partition a b).1, .str (Txt.partition a b).2.1, .str (Txt.partition a b).2.2]))) hPart := by
  intro S ρ F H v a vs os o Q p ra rs e k
  unfold hPart at e
  split at e
  · rename_i b
    obtain ⟨w, rfl, rb⟩ := one_slot rs
    split at e
    · rename_i x y ea eb
      split at e
      · rename_i hc
        cases e
        exact ⟨x, y, ra.str ea, by rw [rb.str eb], beq_eq_false_iff_ne.mpr (by omega), by rw [slen]; exact hc.2, fun q n => Cont.tup k p (.cons (.str _) (.cons (.str _) (.cons (.str _) .nil))) q n⟩
      · cases e
    · cases e
  · cases e
/-- x.join(ys) -/
def hJoin (a : O) (xs : List O) : Option O := match xs with
  | [b] => (match a.view, b.view with
    | .str x, .list ds => (match strsD ds with
      | some ys => if (ys.map (·.length)).sum + ys.length * x.length ≤ 16777216 then some (.fz (.str (Txt.join x ys))) else none
      | none => none)
    | .str x, .tuple ds => (match strsD ds with
      | some ys => if (ys.map (·.length)).sum + ys.length * x.length ≤ 16777216 then some (.fz (.str (Txt.join x ys))) else none
      | none => none)
    | _, _ => none)
  | _ => none
theorem sn_join {K : PySem.W.Frag} : SnM K "str" (fun x xs H Q => ∃ a p, ∃ ys : List Str, x = .str a ∧ xs = [.ref p] ∧ (SqL K H p (ys.map V.str) ∨ SqT K H p (ys.map V.str)) ∧
    (ys.map (·.length)).sum + ys.length * a.length ≤ 16777216 ∧ Q (.str (Txt.join a ys)) H) hJoin := by
  intro S ρ F H v a vs os o Q p ra rs e k
  unfold hJoin at e
  split at e
  · rename_i b
    obtain ⟨w, rfl, rb⟩ := one_slot rs
    split at e
    · rename_i x ds ea eb
      split at e
      · rename_i ys e1
        split at e
        · rename_i hc
          cases e
          obtain ⟨l, xs, rfl, h1, r1⟩ := rb.lst p.hd.le eb
          have ex := strs_rp r1 e1
          subst ex
          exact ⟨x, l, ys, ra.str ea, rfl, .inl h1, hc, k _ F H p (.str _)⟩
        · cases e
      · cases e
    · rename_i x ds ea eb
      split at e
      · rename_i ys e1
        split at e
        · rename_i hc
          cases e
          obtain ⟨l, xs, rfl, h1, r1⟩ := rb.tup p.hd.le eb
          have ex := strs_rp r1 e1
          subst ex
          exact ⟨x, l, ys, ra.str ea, rfl, .inr h1, hc, k _ F H p (.str _)⟩
        · cases e
      · cases e
    · cases e
  · cases e
/-- xs.count(y), flat -/
def rCntV (K : PySem.W.Frag) : V → List V → Hp → VK → Prop := fun x xs H Q => ∃ (a : Addr) (ys : List V) (y : V), x = V.ref a ∧ xs = [y] ∧ SqL K H a ys ∧ flatV y = true ∧ ys.all flatV = true ∧ Q (.int (ys.countP (fun z => eqV z y) : Nat)) H
theorem cnt_U {y : V} : ∀ {ys : List V} {us : List Value}, Vals ys us → ys.all flatV = true → us.countP (eqU y) = ys.countP fun z => eqV z y
  | _, _, .nil, _ => rfl
  | z :: ys, u :: us, .cons r t, f => by
    rw [List.all_cons, Bool.and_eq_true] at f
    rw [List.countP_cons, List.countP_cons, cnt_U t f.2, eqU_of r f.1]
theorem mt_countV {X : Cx} : MtR X "list.count" (rCntV X.K) := by
  intro pins s σ H x xs v us Q I rx rxs h
  obtain ⟨a, ys, y, rfl, rfl, hs, fy, fys, q⟩ := h
  cases rx
  obtain ⟨u, rfl, ru⟩ := rxs.one
  obtain ⟨its, rv, ⟨ob, n, ho, hob, hdn, hd⟩, hlen⟩ := I.list hs
  obtain ⟨cls, dd, data, sl⟩ := ob
  dsimp only at hob hd
  subst hob hd
  refine call_meets PySem.F.slot_list_count ⟨_, ho, rfl⟩ PySem.F.entry_list_count (PySem.F.args_list_count_2 _ _)
    (SeqAt.list_countAt a its.toArray n dd sl u (eqU y)) ⟨ho, fun w hw => mem_eqAt ru fy rv fys w (by simpa using hw), ?_⟩
  refine ⟨.int (ys.countP (fun z => eqV z y) : Nat), H, I.tok _, ⟨s.toks, ?_⟩, q⟩
  rw [← cnt_U rv fys]
def hCount (a : O) (xs : List O) : Option O := match xs with
  | [b] => (match a.view with
    | .list ds => if flatD b.view = true ∧ ds.all flatD = true then some (.fz (.int (ds.countP (fun d => PyData.eqv d b.view) : Nat))) else none
    | _ => none)
  | _ => none
theorem cnt_V {K : PySem.W.Frag} {F G : Hp} {w : V} {e : PyData} (rw' : Rp K G w e) (fe : flatD e = true) : ∀ {xs : List V} {ds : List PyData}, RpA K F xs ds → ds.all flatD = true → xs.countP (fun z => eqV z w) = ds.countP fun d => PyData.eqv d e
  | _, _, .nil, _ => rfl
  | x :: xs, d :: ds, .cons h r, f => by
    rw [List.all_cons, Bool.and_eq_true] at f
    rw [List.countP_cons, List.countP_cons, cnt_V rw' fe r f.2, eqv_flat h rw' f.1 fe]
theorem sn_count {K : PySem.W.Frag} : SnM K "list" (rCntV K) hCount := by
  intro S ρ F H v a vs os o Q p ra rs e k
  unfold hCount at e
  split at e
  · rename_i b
    obtain ⟨w, rfl, rb⟩ := one_slot rs
    split at e
    · rename_i ds ea
      split at e
      · rename_i hf
        cases e
        obtain ⟨l, xs, rfl, h1, r1⟩ := ra.lst p.hd.le ea
        have rw' := rb.view p.hd.le
        refine ⟨l, xs, w, rfl, rfl, h1, flat_V rw' hf.1, (flat_any rw' hf.1 (r1.mono p.hd.le) hf.2).2, ?_⟩
        rw [cnt_V rw' hf.1 r1 hf.2]
        exact k _ F H p (.int _)
      · cases e
    · cases e
  · cases e
/-- str(i) -/
def hStrI : List O → Option O
  | [a] => (match a.view with
    | .int i => if i.natAbs.log2 < 1920 then some (.fz (.str (toString i))) else none
    | _ => none)
  | _ => none
theorem sn_strI {K : PySem.W.Frag} : SnN K (fun xs H Q => ∃ i, xs = [V.int i] ∧ i.natAbs.log2 < 1920 ∧ Q (.str (toString i)) H) hStrI := by
  intro S ρ F H vs os o Q p r e k
  unfold hStrI at e
  split at e
  · obtain ⟨v, rfl, ra⟩ := one_slot r
    split at e
    · rename_i i ea
      split at e
      · rename_i hc
        cases e
        exact ⟨i, by rw [ra.int ea], hc, k _ F H p (.str _)⟩
      · cases e
    · cases e
  · cases e
/-! range with a step -/
def rangeC (lo c : Int) (n : Nat) : List PyData := (List.range n).map fun (i : Nat) => .int (lo + (i : Int) * c)
def rng3 (ds : List PyData) : M (List PyData) := fun ρ => match ds with
  | [.int i, .int j, .int c] => if c ≠ 0 ∧ c.natAbs < 1073741824 ∧ Builtin.Range.small i j c = true ∧ 0 ≤ Builtin.Range.rangeSize i j c then some (.ok (rangeC i c (Builtin.Range.rangeSize i j c).toNat) ρ) else none
  | _ => none
theorem itr_rngC {K : PySem.W.Frag} {F : Hp} {lo c : Int} {n : Nat} : ItR K F (Itc lo c n) (rangeC lo c n) where
  stop := fun F' H' l1 l2 => by show n ≤ (rangeC lo c n).length; simp [rangeC]
  go := fun i F' H' hi l1 l2 => by have : i < (rangeC lo c n).length := hi; show i < n; simpa [rangeC] using this
  yld := fun i d S σ ρ F' H' x H'' hd l1 p y => by
    obtain ⟨rfl, rfl⟩ := y
    have hi : i < n := by have := (List.getElem?_eq_some_iff.mp hd).1; simpa [rangeC] using this
    have : d = .int (lo + (i : Int) * c) := by
      rw [show (rangeC lo c n)[i]? = some (.int (lo + (i : Int) * c)) by simp [rangeC, hi]] at hd
      injection hd with hd; exact hd.symm
    subst this
    exact ⟨F', p, Le.refl _, .int _, fun b o e => ⟨e, fun h => h⟩⟩
section
variable {X : Cx} {W : WX} {tg a b c : Expr} {p pos : Pos}
theorem evI_rng3 {h : M (List PyData)} (hg : Gl X "range") (hm : X.mg "range" = none) (ha : EvA X W [a, b, c] h)
    (hs : starEach [a, b, c] X.env = (false, eval a X.env) :: starEach [b, c] X.env := by rfl) (hpl : (backTo pos (starEach [b, c] X.env)).any (·.1) = false := by rfl) : EvI X W tg (.Call (.Name "range" p) [a, b, c] [] pos) (h.bind rng3) :=
  ⟨fun pins s σ H R I ⟨ρ, F, r⟩ => (pi_range3 hg hm ha hs hpl).run pins s σ H R I ⟨ρ, F, r.bind.mono fun vs H1 ⟨ds, ρ1, F1, rx, p, p1, o, e, q⟩ => by
    unfold rng3 at e
    split at e
    · split at e
      · rename_i hj
        cases e
        cases rx with
        | cons h t => cases h; cases t with | cons h2 t => cases h2; cases t with | cons h3 t => cases h3; cases t; exact ⟨_, _, _, _, rfl, ⟨hj.1, hj.2.1, hj.2.2.1, by omega⟩, q _ F1 H1 p1 itr_rngC⟩
      · cases e
    · cases e⟩⟩
end
def iR3 (h : M (List PyData)) : M (List PyData) := h.bind rng3
/-! x.replace(y, z), the texts written, behind an item that has given out a token -/
def hRepl (y z : Str) (a : O) : Option O := match a.view with
  | .str x => if x.length + (x.length + 1) * z.length ≤ 16777216 then some (.fz (.str (Txt.replace x y z))) else none
  | _ => none
section
variable {X : Cx} {W : WX} {o e a : Expr} {es : List Expr} {y z : Str} {j k : Nat} {c0 c1 apos pos : Pos} {f : M Rf}
theorem PETi {e : Expr} {t t' : TE} (h : PET X e t) (m : ∀ σ H Q, t' σ H Q → t σ H Q) : PET X e t' := fun pins s σ H Q h0 I q => h pins s σ H Q h0 I (m σ H Q q)
theorem PATi {es : List Expr} {t t' : TA} (h : PAT X es t) (m : ∀ σ H Q, t' σ H Q → t σ H Q) : PAT X es t' := fun pos pins s σ H Q h0 I q => h pos pins s σ H Q h0 I (m σ H Q q)
theorem et_repl (ho : EvO X W o f) (hyz : (y == z) = false := by decide)
    (hst : starEach [.Constant (.str y) j c0, .Constant (.str z) k c1] X.env = [(false, eval (.Constant (.str y) j c0) X.env), (false, eval (.Constant (.str z) k c1) X.env)] := by rfl)
    (hbase : attributeBase o "replace" X.env (eval o X.env) = eval o X.env := by rfl) (hline : (apos.endLine == pos.line) = true := by rfl) :
    PET X (.Call (.Attribute o "replace" apos) [.Constant (.str y) j c0, .Constant (.str z) k c1] [] pos) (tG X.K W (RfR X.K) (f.bind (dr1 (hRepl y z)))) :=
  PETi (CwR.pet_replC ho hyz hst hbase hline) fun σ H Q ⟨ρ, F, r⟩ => ⟨ρ, F, r.bind.mono fun v H1 ⟨x, ρ1, F1, rx, p, r1⟩ => by
    obtain ⟨d, o, sl, e, k⟩ := r1.dr1 rx
    unfold hRepl at e
    split at e
    · rename_i x ea
      split at e
      · rename_i hc
        cases e
        exact ⟨x, sl.str ea, hc, k _ F1 H1 r1.post (.str _)⟩
      · cases e
    · cases e⟩
theorem et_frz (h : PET X e (tG X.K W (RfR X.K) f)) : PET X e (tG X.K W (DR X.K) (f.bind frz)) := PETi h fun σ H Q ⟨ρ, F, r⟩ => ⟨ρ, F, r.bind.mono fun v H1 ⟨x, ρ1, F1, rx, p, r2⟩ => r2.frz rx⟩
theorem et_of (h : EvO X W e f) : PET X e (tG X.K W (RfR X.K) f) := CwR.PET.of h
theorem at_nil : PAT X [] (tG X.K W (AR X.K) aN) := PATi pat_nil fun σ H Q ⟨ρ, F, p, o, e, q⟩ => by
  cases e
  exact q [] F H p .nil
theorem cons_read {f : M PyData} {g : M (List PyData)} {σ : L2.St} {H : Hp} {Q : List V → Hp → Prop} (h : tG X.K W (AR X.K) (f.bind fun d => g.bind fun ds => M.ret (d :: ds)) σ H Q) : tCons (tG X.K W (DR X.K) f) (tG X.K W (AR X.K) g) σ H Q := by
  obtain ⟨ρ, F, r⟩ := h
  exact ⟨ρ, F, r.bind.mono fun v H1 ⟨x, ρ1, F1, rx, p, r2⟩ => ⟨ρ1, F1, r2.bind.mono fun vs H2 ⟨xs, ρ2, F2, rxs, p2, ⟨p3, o, e3, q⟩⟩ => by
    cases e3
    exact q (v :: vs) F2 H2 p3 (.cons (Rp.mono p2.le rx) rxs)⟩⟩
theorem at_cons {h : M (List PyData)} (ha : PET X e (tG X.K W (RfR X.K) f)) (hr : PAT X es (tG X.K W (AR X.K) h)) (hs : starEach (e :: es) X.env = (false, eval e X.env) :: starEach es X.env := by rfl) : PAT X (e :: es) (tG X.K W (AR X.K) (aC f h)) :=
  PATi (pat_cons (et_frz ha) hr hs) fun σ H Q q => cons_read q
theorem frz_read {σ : L2.St} {H : Hp} {Q : VK} (h : tG X.K W (DR X.K) (f.bind frz) σ H Q) : tG X.K W (RfR X.K) f σ H Q := by
  obtain ⟨ρ, F, r⟩ := h
  exact ⟨ρ, F, r.bind.mono fun v H1 ⟨x, ρ1, F1, rx, p, r2⟩ => r2.frz rx⟩
theorem op_read {r : R2} {h : O → O → Option O} (sn : Sn2 X.K r h) {c : Str} {σ : L2.St} {H : Hp} {Q : VK} (q : tG X.K W (RfR X.K) (eOp h f (eC (.str c))) σ H Q) : tOp r (tG X.K W (RfR X.K) f) (tC (.str c)) σ H Q := by
  obtain ⟨ρ, F, q⟩ := q
  refine ⟨ρ, F, q.bind.mono fun v H1 ⟨x, ρ1, F1, rx, p, r1⟩ => ?_⟩
  have r2 : Run X.K W (RfR X.K) ⟨σ, ρ, F, H⟩ (dr2 h x (.o (.fz (.str c)))) ρ1 F1 H1 Q := r1
  obtain ⟨d, d2, o, h1, h2, h3, h4⟩ := r2.dr2 rx (w := .str c) (show RfR X.K _ _ _ _ _ _ _ from .str c)
  exact sn _ _ _ _ _ _ _ _ _ _ r2.post h1 h2 h3 h4
/-- a op 'text', then the rest: a token is out -/
theorem r_consP {op : Operator} {r : R2} {h : O → O → Option O} {ae : Expr} {c : Str} {jj : Nat} {cp bp : Pos} {g : M Rf} {l : M (List PyData)} (ho : OpR X (binaryOp op) r) (sn : Sn2 X.K r h) (ha : EvO X W ae g) (hr : PAT X es (tG X.K W (AR X.K) l))
    (hs : starEach (.BinOp ae op (.Constant (.str c) jj cp) bp :: es) X.env = (false, eval (.BinOp ae op (.Constant (.str c) jj cp) bp) X.env) :: starEach es X.env := by rfl) : EvA X W (.BinOp ae op (.Constant (.str c) jj cp) bp :: es) (aC (eOp h g (eC (.str c))) l) := by
  refine paI (t := tCons (tG X.K W (DR X.K) ((eOp h g (eC (.str c))).bind frz)) (tG X.K W (AR X.K) l)) ⟨fun pos pins s σ H Q I q => ?_⟩ fun σ H Q q => cons_read q
  have q := op_read sn (frz_read q)
  rw [hs]
  show wpAny _ _ (spliced ((false, eval (.BinOp ae op (.Constant (.str c) jj cp) bp) X.env) :: backTo pos (starEach es X.env))) _ _ s
  refine Calls.spliced_cons ?_
  refine wpAny_BinOp (thn (ha.run pins s σ H _ I q) fun v s1 ⟨x, H1, I1, r1, q1⟩ => ?_)
  refine Calls.Constant_str ?_
  refine wpAny_mono (PySem.wpAny_toks_of (n := 1) (by show 1 ≤ s1.toks + 1; omega) (ho pins _ σ H1 x (.str c) v _ _ (I1.tok _) r1 ⟨_, rfl⟩ q1)) (fun u s3 ⟨hk, x3, H3, I3, r3, q3⟩ => ?_) (fun _ _ z => z.2)
  exact thn (hr pos pins s3 σ H3 _ hk I3 q3) fun us s4 ⟨xs, H4, I4, r4, q4⟩ => ⟨x3 :: xs, H4, I4, .cons r3 r4, q4⟩
end
end Vs

/-! Vs: {'a': 1, 'b': 2}. -/
namespace Vs
open PySem PySem.Spec PyProof.Rows L2
section
variable {X : Cx} {W : WX} {pos p1 p2 p3 p4 : Pos} {a b : Str} {j1 j2 k1 k2 : Nat} {x y : Nat}
theorem r_disp2 (hab : (a == b) = false := by decide) : EvO X W (.Dict [some (.Constant (.str a) j1 p1), some (.Constant (.str b) j2 p2)] [.Constant (.int x) k1 p3, .Constant (.int y) k2 p4] pos) (M.ret (.o (.mu false (.dct [(.inr a, .int x), (.inr b, .int y)])))) :=
  peI (pe_disp (pps_cons pe_str pe_int (pps_cons pe_str pe_int pps_nil)) rfl rfl (by simp) (by simp)) fun σ H Q ⟨ρ, F, p, o, e, q⟩ => by
    cases e
    intro d hd
    refine ⟨upd_same, [(.inr a, .int x), (.inr b, .int y)], rfl, by simp, ?_⟩
    rw [upd_upd]
    have e : mergeK [] [((.inr a : Key), V.int x), (.inr b, V.int y)] = [(.inr a, V.int x), (.inr b, V.int y)] := by
      have : ¬ a = b := beq_eq_false_iff_ne.mp hab
      simp [mergeK, putK, this]
    rw [e]
    exact Cont.dct (S := ⟨σ, ρ, F, H⟩) q p (.cons (.int _) (.cons (.int _) .nil)) d hd
end
end Vs

/-! Vs: texts compared in a row, as a test. -/
namespace Vs
open PySem PySem.Spec PyProof.Rows L2
def chKS (h h' : O → O → Option O) (k : M Rf) (x y : Rf) : M Rf := fun ρ => match rdO ρ x, rdO ρ y with
  | some a, some b => (match b.view, h a b with
    | .str j, some (.fz (.bool true)) => (k.bind fun z => dr2 h' (.o (.fz (.str j))) z) ρ
    | .str _, some (.fz (.bool false)) => some (.ok (.o (.fz (.bool false))) ρ)
    | _, _ => none)
  | _, _ => none
def eChS (h h' : O → O → Option O) (f g k : M Rf) : M Rf := f.bind fun x => g.bind fun y => chKS h h' k x y
def tChS (h h' : O → O → Option O) (f g k : M Rf) : M Bool := (eChS h h' f g k).bind fun x => (asB x).bind fun b => M.ret b
theorem chainS_read {K : PySem.W.Frag} {W : WX} {f g k : M Rf} {r r' : R2} {h h' : O → O → Option O} (s : Sn2 K r h) (s' : Sn2 K r' h') {σ : L2.St} {H : Hp} {Q : VK} (z : tG K W (RfR K) (eChS h h' f g k) σ H Q) :
    tChain r r' (tG K W (RfR K) f) (tG K W (RfR K) g) (tG K W (RfR K) k) σ H Q := by
  obtain ⟨ρ, F, z⟩ := z
  unfold eChS at z
  refine ⟨ρ, F, z.bind.mono fun v H1 ⟨x, ρ1, F1, rx, p, r1⟩ => ⟨ρ1, F1, r1.bind.mono fun w H2 ⟨y, ρ2, F2, ry, p2, r2⟩ => ?_⟩⟩
  obtain ⟨p3, o, e, q⟩ := r2
  unfold chKS at e
  split at e
  · rename_i A B ea eb
    have va := slot_of p3.hd (rx.stay p2) ea
    have vb := slot_of p3.hd (rfOk.up p ry) eb
    split at e
    · rename_i j ej eh
      have hw : w = V.str j := vb.str ej
      subst hw
      refine s ⟨σ, ρ, F, H⟩ ρ2 F2 H2 v _ A B _ _ p3 va vb eh fun v' F' H' p' rt => ?_
      cases (show Rp K F' v' (.bool true) from rt)
      refine ⟨true, rfl, (if_pos rfl).mpr ?_⟩
      have r3 : Run K W (RfR K) ⟨σ, ρ, F, H⟩ (k.bind fun z => dr2 h' (.o (.fz (.str j))) z) ρ2 F' H' Q := ⟨p', o, e, q⟩
      refine ⟨ρ2, F', r3.bind.mono fun u H3 ⟨z, ρ3, F3, rz, p4, r4⟩ => ?_⟩
      obtain ⟨c1, d1, o1, k1, k2, k3, k4⟩ := r4.dr2 (v := .str j) (show Rp K F3 (.str j) (.str j) from .str j) (rfOk.up p' rz)
      exact s' _ _ _ _ _ _ _ _ _ _ r4.post k1 k2 k3 k4
    · rename_i j ej eh
      cases e
      refine s ⟨σ, ρ, F, H⟩ ρ2 F2 H2 v w A B _ _ p3 va vb eh fun v' F' H' p' rt => ?_
      cases (show Rp K F' v' (.bool false) from rt)
      refine ⟨false, rfl, ?_⟩
      rw [if_neg Bool.false_ne_true]
      exact q _ F' H' p' (show Rp K F' (.bl false) (.bool false) from .bl false)
    · cases e
  · cases e
section
variable {X : Cx} {W : WX} {a b c : Expr} {f g k : M Rf} {pos : Pos}
theorem r_chainST {op op' : CmpOp} {r r' : R2} {h h' : O → O → Option O} (ho : OpR X (compareOp op) r) (s : Sn2 X.K r h) (ho' : OpR X (compareOp op') r') (s' : Sn2 X.K r' h') (ha : EvO X W a f) (hb : EvO X W b g) (hc : EvO X W c k)
    (hm : lastMarks [op, op'] [b, c] = false := by with_unfolding_all rfl) : EvT X W (.Compare a [op, op'] [b, c] pos) (tChS h h' f g k) :=
  ptI (pt_chain ho ho' ha hb hc hm) fun σ H Q ⟨ρ, F, r⟩ => chainS_read s s' ⟨ρ, F, r.bind.mono fun v H1 ⟨x, ρ1, F1, rx, p, r1⟩ => by
    obtain ⟨b, ev, p1, o, e, q⟩ := r1.asB rx
    subst ev
    cases e
    exact ⟨b, rfl, q b F1 H1 p1 rfl⟩⟩
end
theorem w_ChS {h h' : O → O → Option O} {f g k : M Rf} {ρ : Rho} {Q : Rf → Rho → Prop} {E : Px} (w : Wp f ρ (fun x ρ1 => Wp g ρ1 (fun y ρ2 => Wp (chKS h h' k x y) ρ2 Q E) E) E) : Wp (eChS h h' f g k) ρ Q E := w_bind (w.imp fun _ _ w => w_bind w)
theorem w_tChS {h h' : O → O → Option O} {f g k : M Rf} {ρ : Rho} {Q : Bool → Rho → Prop} {E : Px} (w : Wp (eChS h h' f g k) ρ (fun x ρ1 => Wp (asB x) ρ1 Q E) E) : Wp (tChS h h' f g k) ρ Q E := w_bind (w.imp fun _ _ w => w_bind (w.imp fun _ _ q => q))
theorem w_chST {h h' : O → O → Option O} {k : M Rf} {x y : Rf} {ρ : Rho} {a b : O} {j : Str} {Q : Rf → Rho → Prop} {E : Px} (e1 : rdO ρ x = some a) (e2 : rdO ρ y = some b) (e3 : b.view = .str j) (e4 : h a b = some (.fz (.bool true))) (w : Wp k ρ (fun z ρ1 => Wp (dr2 h' (.o (.fz (.str j))) z) ρ1 Q E) E) : Wp (chKS h h' k x y) ρ Q E := by
  unfold Wp
  have : chKS h h' k x y ρ = (k.bind fun z => dr2 h' (.o (.fz (.str j))) z) ρ := by unfold chKS; rw [e1, e2]; simp only [e3, e4]
  rw [this]
  exact w_bind (k := fun z => dr2 h' (.o (.fz (.str j))) z) w
theorem w_chSF {h h' : O → O → Option O} {k : M Rf} {x y : Rf} {ρ : Rho} {a b : O} {j : Str} {Q : Rf → Rho → Prop} {E : Px} (e1 : rdO ρ x = some a) (e2 : rdO ρ y = some b) (e3 : b.view = .str j) (e4 : h a b = some (.fz (.bool false))) (q : Q (.o (.fz (.bool false))) ρ) : Wp (chKS h h' k x y) ρ Q E := by
  unfold Wp
  have : chKS h h' k x y ρ = some (.ok (.o (.fz (.bool false))) ρ) := by unfold chKS; rw [e1, e2]; simp only [e3, e4]
  rw [this]
  exact q
/-! range with a step -/
theorem w_iR3 {l : M (List PyData)} {QL : List PyData → Rho → Prop} {E : Px} {ρ : Rho} (w : Wp l ρ (fun ds ρ1 => Wp (rng3 ds) ρ1 QL E) E) : Wp (iR3 l) ρ QL E := w_bind w
def szC (j : Int) : Nat := if 0 < j then ((j - 1) / 2 + 1).toNat else 0
theorem size_two (j : Int) : Builtin.Range.rangeSize 0 j 2 = if 0 < j then (j - 1) / 2 + 1 else 0 := by
  unfold Builtin.Range.rangeSize
  rw [if_pos (by decide)]
  by_cases h : (0 : Int) < j
  · rw [if_pos h, if_pos h, Int.sub_zero]
  · rw [if_neg h, if_neg h]
theorem w_rng3 {j : Int} {ρ : Rho} {E : Px} {QL : List PyData → Rho → Prop} (h : -5 ≤ j ∧ j < 1000000) (q : QL (rangeC 0 2 (szC j)) ρ) : Wp (rng3 [.int 0, .int j, .int 2]) ρ QL E := by
  have e : rng3 [.int 0, .int j, .int 2] ρ = some (.ok (rangeC 0 2 (szC j)) ρ) := by
    unfold rng3
    have hs := size_two j
    have h0 : 0 ≤ Builtin.Range.rangeSize 0 j 2 := by
      rw [hs]
      split <;> omega
    have hsm : Builtin.Range.small 0 j 2 = true := by
      unfold Builtin.Range.small
      rw [hs]
      simp only [Builtin.Range.rangeFitsLong, Bool.and_eq_true, Bool.or_eq_true, decide_eq_true_eq, beq_iff_eq, show ((2 : Int) > 0) by decide, if_true]
      split <;> omega
    simp only
    rw [if_pos ⟨by decide, by decide, hsm, h0⟩, hs]
    congr 3
    unfold szC
    split <;> rfl
  exact .eq e q
end Vs

/-! Vs, instances: attributes read and stored, methods called, classes called. -/
namespace Vs
open PySem PySem.Spec L2
/-- the instance that a reference names -/
def objOf (ρ : Rho) : Rf → Option Mu
  | .s i => (match ρ[i]? with | some (some (.mu _ m)) => some m | _ => none)
  | .o (.mu _ m) => some m
  | .o (.fz _) => none
theorem obj_at {K : PySem.W.Frag} {S : Sta} {σ : L2.St} {ρ : Rho} {F H : Hp} {v : V} {x : Rf} {m : Mu} (h : Hd K σ ρ F H) (r : RfR K S σ ρ F H v x) (e : objOf ρ x = some m) :
    ∃ a u, v = .ref a ∧ H a = some u ∧ F a = none ∧ MuT K F H m a u := by
  cases x with
  | s i =>
    unfold objOf at e
    simp only at e
    split at e
    · rename_i b m' hi
      cases e
      obtain ⟨w, e1, r1⟩ := h.at_ i _ hi
      have r' : σ[i]? = some (some v) := r
      rw [r'] at e1; cases e1
      exact r1
    · cases e
  | o o =>
    cases o with
    | fz d => cases e
    | mu b m' => cases e; exact r.2.1
theorem fld_get {K : PySem.W.Frag} {F : Hp} {f : Str} {d : PyData} : ∀ {vs : List (Str × V)} {fs : List (Str × PyData)}, vs.map (·.1) = fs.map (·.1) → RpA K F (vs.map (·.2)) (fs.map (·.2)) → fs.lookup f = some d → ∃ v, vs.lookup f = some v ∧ Rp K F v d
  | [], [], _, _, e => by cases e
  | [], _ :: _, h, _, _ => by cases h
  | _ :: _, [], h, _, _ => by cases h
  | (g, x) :: vs, (g', y) :: fs, h, r, e => by
    rw [List.map_cons, List.map_cons] at h
    injection h with h1 h2
    have h1 : g = g' := h1
    subst h1
    cases r with
    | cons r0 r1 =>
      rw [List.lookup_cons] at e ⊢
      cases hg : f == g with
      | true => rw [hg] at e; cases e; exact ⟨x, rfl, r0⟩
      | false => rw [hg] at e; exact fld_get h2 r1 e
theorem fld_none {f : Str} : ∀ {vs : List (Str × V)} {fs : List (Str × PyData)}, vs.map (·.1) = fs.map (·.1) → fs.lookup f = none → vs.lookup f = none
  | [], [], _, _ => rfl
  | [], _ :: _, h, _ => by cases h
  | _ :: _, [], h, _ => by cases h
  | (g, x) :: vs, (g', y) :: fs, h, e => by
    rw [List.map_cons, List.map_cons] at h
    injection h with h1 h2
    have h1 : g = g' := h1
    subst h1
    rw [List.lookup_cons] at e ⊢
    cases hg : f == g with
    | true => rw [hg] at e; cases e
    | false => rw [hg] at e; exact fld_none h2 e
def putD (f : Str) (d : PyData) : List (Str × PyData) → List (Str × PyData)
  | [] => [(f, d)]
  | (g, x) :: r => if g = f then (g, d) :: r else (g, x) :: putD f d r
theorem fld_put {K : PySem.W.Frag} {F : Hp} {f : Str} {v : V} {d : PyData} (rv : Rp K F v d) : ∀ {vs : List (Str × V)} {fs : List (Str × PyData)}, vs.map (·.1) = fs.map (·.1) → RpA K F (vs.map (·.2)) (fs.map (·.2)) →
    (putF f v vs).map (·.1) = (putD f d fs).map (·.1) ∧ RpA K F ((putF f v vs).map (·.2)) ((putD f d fs).map (·.2))
  | [], [], _, _ => ⟨rfl, .cons rv .nil⟩
  | [], _ :: _, h, _ => by cases h
  | _ :: _, [], h, _ => by cases h
  | (g, x) :: vs, (g', y) :: fs, h, r => by
    rw [List.map_cons, List.map_cons] at h
    injection h with h1 h2
    have h1 : g = g' := h1
    subst h1
    cases r with
    | cons r0 r1 =>
      unfold putF putD
      by_cases hg : g = f
      · rw [if_pos hg, if_pos hg]
        exact ⟨by rw [List.map_cons, List.map_cons, h2], .cons rv r1⟩
      · rw [if_neg hg, if_neg hg]
        obtain ⟨e1, e2⟩ := fld_put rv h2 r1
        exact ⟨by rw [List.map_cons, List.map_cons, e1], .cons r0 e2⟩
/-! ### e.f -/
def hFld (c0 : Addr) (f : Str) : Mu → Option PyData
  | .obj C fs => if C = c0 then fs.lookup f else none
  | _ => none
def rdF (c0 : Addr) (f : Str) (x : Rf) : M Rf := fun ρ => match objOf ρ x with
  | some m => (match hFld c0 f m with | some d => some (.ok (.o (.fz d)) ρ) | none => none)
  | none => none
def eFld (c0 : Addr) (f : Str) (g : M Rf) : M Rf := g.bind (rdF c0 f)
theorem hFld_at {K : PySem.W.Frag} {F H : Hp} {a : Addr} {u : HO} {m : Mu} {c0 : Addr} {f : Str} {d : PyData} (r : MuT K F H m a u) (e : hFld c0 f m = some d) : ∃ dx vs v, u = .ins c0 dx vs ∧ vs.lookup f = some v ∧ Rp K F v d := by
  cases m with
  | lst ds => cases e
  | dct es => cases e
  | tre n its => cases e
  | obj C fs =>
    unfold hFld at e
    simp only at e
    split at e
    · rename_i hc
      subst hc
      obtain ⟨dx, vs, rfl, h1, r1⟩ := r
      obtain ⟨v, hv, rv⟩ := fld_get h1 r1 e
      exact ⟨dx, vs, v, rfl, hv, rv⟩
    · cases e
section
variable {X : Cx} {W : WX} {e : Expr} {f : Str} {pos pos' apos : Pos} {c0 : Addr} {g : M Rf} {i : Nat} {x : Str}
theorem r_fld (c : L2.Cls X.K c0) (n : NoAttr X.K c0 f) (h : EvO X W e g) (hb : attributeBase e f X.env (eval e X.env) = eval e X.env := by rfl) : EvO X W (.Attribute e f pos) (eFld c0 f g) :=
  peI (pe_fld h hb) fun σ H Q ⟨ρ, F, r⟩ => ⟨ρ, F, r.bind.mono fun v H1 ⟨y, ρ1, F1, ry, p, p2, o, e, q⟩ => by
    unfold rdF at e
    split at e
    · rename_i m em
      split at e
      · rename_i d ed
        cases e
        obtain ⟨a, u, rfl, hu, _, mr⟩ := obj_at p.hd ry em
        obtain ⟨dx, vs, w, rfl, hw, rw'⟩ := hFld_at mr ed
        exact ⟨a, c0, dx, vs, w, rfl, hu, c, n, hw, q w F1 H1 p2 rw'⟩
      · cases e
    · cases e⟩
/-! ### x.f = e -/
def muFld (c0 : Addr) (f : Str) (d : PyData) : Mu → Option Mu
  | .obj C fs => if C = c0 ∧ fs.length < 1000 then some (.obj C (putD f d fs)) else none
  | _ => none
theorem muFld_at {K : PySem.W.Frag} {F H : Hp} {a : Addr} {u : HO} {m m' : Mu} {c0 : Addr} {f : Str} {d : PyData} {v : V} (rv : Rp K F v d) (r : MuT K F H m a u) (e : muFld c0 f d m = some m') :
    ∃ dx vs, u = .ins c0 dx vs ∧ vs.length < 1000 ∧ MuX K F (.ins c0 dx (putF f v vs)) m' := by
  cases m with
  | lst ds => cases e
  | dct es => cases e
  | tre n its => cases e
  | obj C fs =>
    unfold muFld at e
    simp only at e
    split at e
    · rename_i hc
      cases e
      obtain ⟨rfl, hl⟩ := hc
      obtain ⟨dx, vs, rfl, h1, r1⟩ := r
      obtain ⟨e1, e2⟩ := fld_put (f := f) rv h1 r1
      have hvl : vs.length = fs.length := by rw [← List.length_map (f := Prod.fst) (as := vs), h1, List.length_map]
      exact ⟨dx, vs, rfl, by omega, dx, _, rfl, e1, e2⟩
    · cases e
def sFl (i : Nat) (c0 : Addr) (f : Str) (g : M Rf) : M Fl := (g.bind frz).bind fun d => upS i (muFld c0 f d)
theorem r_setF (c : L2.Cls X.K c0) (n : NoAttr X.K c0 f) (ho : PE X (.Name x apos) (tVar i)) (he : EvO X W e g) (hs : swapsWith e (some (.Attribute (.Name x apos) f pos')) pos.line X.env = pure false := by rfl) :
    EvS X W (.Assign [.Attribute (.Name x apos) f pos'] e pos) (sFl i c0 f g) := psI (ps_fld ho (ev_frz he) hs) fun D σ H ⟨ρ, F, r⟩ =>
  tG_mono (tG_S r) fun v H1 ⟨d, ρ1, F1, rd, r1⟩ => by
    have hv : ∃ w, σ[i]? = some (some w) := by
      obtain ⟨p1, o1, e1, _⟩ := r1
      unfold upS at e1
      split at e1
      · rename_i b m hi
        obtain ⟨w, hw, _⟩ := p1.hd.at_ i _ hi
        exact ⟨w, hw⟩
      · cases e1
    obtain ⟨w, hw⟩ := hv
    obtain ⟨a, u, m, m', rfl, hu, mr, hm, q⟩ := upS_run r1 hw
    obtain ⟨dx, vs, rfl, hl, mr'⟩ := muFld_at rd mr hm
    exact ⟨_, hw, a, c0, dx, vs, rfl, hu, c, n, hl, q _ mr'⟩
/-! ### x.f op= e, of whole numbers -/
def augF (i : Nat) (c0 : Addr) (f : Str) (h : Int → Int → Int) (a : Int) (y : Rf) : M Fl := fun ρ => match rdO ρ y with
  | some b => (match b.view with | .int j => upS i (muFld c0 f (.int (h a j))) ρ | _ => none)
  | none => none
def sFA (i : Nat) (c0 : Addr) (f : Str) (h : Int → Int → Int) (g : M Rf) : M Fl := fun ρ => match objOf ρ (.s i) with
  | some m => (match hFld c0 f m with | some (.int a) => (g.bind (augF i c0 f h a)) ρ | _ => none)
  | none => none
theorem r_augF {op : Operator} {h : Int → Int → Int} (c : L2.Cls X.K c0) (n : NoAttr X.K c0 f) (hx : PE X (.Name x apos) (tVar i)) (he : EvO X W e g) (ho : PIp X op (ipI h)) :
    EvS X W (.AugAssign (.Attribute (.Name x apos) f pos') op e pos) (sFA i c0 f h g) := psI (ps_fldaug hx he (fun pins s σ H x y u v Q I rx ry q => ho pins s σ H x y u v Q I rx ry q)) fun D σ H ⟨ρ, F, p, o, e, q⟩ => by
  unfold sFA at e
  split at e
  · rename_i m em
    split at e
    · rename_i a ed
      have hi : ∃ b, ρ[i]? = some (some (.mu b m)) := by
        unfold objOf at em
        simp only at em
        split at em
        · rename_i b m' hi
          cases em
          exact ⟨b, hi⟩
        · cases em
      obtain ⟨b, hi⟩ := hi
      obtain ⟨w, hw, ad, u, rfl, hu, hf, mr⟩ := p.hd.at_ i _ hi
      obtain ⟨dx, vs, z, rfl, hz, rz⟩ := hFld_at mr ed
      cases rz
      refine ⟨_, hw, ad, c0, dx, vs, _, rfl, hu, c, n, hz, tG_mono (tG_S (R := RfR X.K) ⟨p, o, e, q⟩) fun y H1 ⟨yr, ρ1, F1, ry, p1, o1, e1, q1⟩ => ?_⟩
      unfold augF at e1
      split at e1
      · rename_i bb eb
        have sl := slot_of p1.hd ry eb
        split at e1
        · rename_i j ej
          refine ⟨a, j, rfl, sl.int ej, ?_⟩
          obtain ⟨ad2, u2, m2, m3, ew, hu2, mr2, hm, q2⟩ := upS_run ⟨p1, o1, e1, q1⟩ hw
          cases ew
          obtain ⟨dx2, vs2, rfl, hl, mr3⟩ := muFld_at (v := .int (h a j)) (.int _) mr2 hm
          exact ⟨dx2, _, hu2, hl, q2 _ mr3⟩
        · cases e1
      · cases e1
    · cases e
  · cases e
end
end Vs

/-! Vs: methods called, classes called. -/
namespace Vs
open PySem PySem.Spec L2
def hasM (c0 : Addr) (m : Str) : Mu → Bool
  | .obj C fs => decide (C = c0) && (fs.lookup m).isNone
  | .tre (.obj C ns) _ => decide (C = c0) && !(ns.contains m)
  | _ => false
theorem look_names {m : Str} : ∀ {fs : List (Str × V)} {ns : List Str}, fs.map (·.1) = ns → ns.contains m = false → fs.lookup m = none
  | [], _, _, _ => rfl
  | (x, v) :: fs, ns, h, e => by
    subst h
    rw [List.map_cons, List.contains_cons, Bool.or_eq_false_iff] at e
    rw [List.lookup_cons, e.1]
    exact look_names rfl e.2
theorem hasM_at {K : PySem.W.Frag} {F H : Hp} {a : Addr} {u : HO} {mm : Mu} {c0 : Addr} {m : Str} (r : MuT K F H mm a u) (e : hasM c0 m mm = true) : ∃ dx vs, u = .ins c0 dx vs ∧ vs.lookup m = none := by
  cases mm with
  | lst ds => cases e
  | dct es => cases e
  | tre n its =>
    cases n with
    | lst => cases e
    | dct ks => cases e
    | obj C ns =>
      have e : (decide (C = c0) && !(ns.contains m)) = true := e
      rw [Bool.and_eq_true, decide_eq_true_eq, Bool.not_eq_true'] at e
      obtain ⟨rfl, e2⟩ := e
      obtain ⟨vs, ⟨dx, fs, rfl, h1, _⟩, _⟩ := r
      exact ⟨dx, fs, rfl, look_names h1 e2⟩
  | obj C fs =>
    unfold hasM at e
    rw [Bool.and_eq_true, decide_eq_true_eq, Option.isNone_iff_eq_none] at e
    obtain ⟨rfl, e2⟩ := e
    obtain ⟨dx, vs, rfl, h1, r1⟩ := r
    exact ⟨dx, vs, rfl, fld_none h1 e2⟩
/-- x.m(..), x at slot i -/
def eMe (i : Nat) (c0 : Addr) (m : Str) (g : M O) (n : Nat) (ga : M (List Arg)) : M Rf := fun ρ => match objOf ρ (.s i) with
  | some mm => if hasM c0 m mm = true then (ga.bind fun xs => callN g n (.br i :: xs)) ρ else none
  | none => none
theorem eMe_at {K : PySem.W.Frag} {S : Sta} {σ : L2.St} {ρ : Rho} {F H : Hp} {i : Nat} {mm : Mu} (h : Hd K σ ρ F H) (e : objOf ρ (.s i) = some mm) : ∃ a u, σ[i]? = some (some (.ref a)) ∧ H a = some u ∧ MuT K F H mm a u := by
  unfold objOf at e
  simp only at e
  split at e
  · rename_i b m' hi
    cases e
    obtain ⟨w, e1, a, u, rfl, hu, _, r⟩ := h.at_ i _ hi
    exact ⟨a, u, e1, hu, r⟩
  · cases e
section
variable {X : Cx} {W : WX} {e : Expr} {es : List Expr} {ga : M (List Arg)} {pos np apos : Pos} {k : Nat} {f : Addr} {fd : FuncData} {ps : List Str} {x m : Str} {g : M O} {c0 : Addr} {i : Nat}
theorem ev_meth {pl : Sem Bool} (c : L2.Cls X.K c0) (hm : L2.Meth X.K c0 m f) (Fn : FnG X.prog X.w X.K X.mg X.base k f fd ps g) (hr : Room k X.A) (hgd : X.A.guards = some []) (hb : Binds X.K fd ps []) (tk : L2N.Takes X W)
    (ho : PE X (.Name x np) (tVar i)) (ha : EvG X W (e :: es) ga) (hst : starEach (e :: es) X.env = (false, eval e X.env) :: starEach es X.env := by rfl) (hpl : (backTo pos (starEach es X.env)).any (·.1) = false := by rfl)
    (ht : eval (.Call (.Attribute (.Name x np) m apos) (e :: es) [] pos) X.env = (do
      let ov ← eval (.Name x np) X.env
      standAt apos.atName
      let (f, first) ← holding [ov] (getMethod ov m pl)
      callWith pos f first (backTo pos (starEach (e :: es) X.env)) (backToKw pos (keywordEach [] X.env))) := by rfl) :
    EvO X W (.Call (.Attribute (.Name x np) m apos) (e :: es) [] pos) (eMe i c0 m g ps.length ga) := by
  refine ⟨fun pins s σ H Q I ⟨ρ, F, p, o, eo, q⟩ => ?_⟩
  unfold eMe at eo
  split at eo
  · rename_i mm em
    split at eo
    · rename_i hmm
      obtain ⟨a, u, hw, hu, mr⟩ := eMe_at (S := ⟨σ, ρ, F, H⟩) p.hd em
      obtain ⟨dx, vs0, rfl, hl⟩ := hasM_at mr hmm
      refine PySem.W.methodCall_KW (pl := pl) (thn (ho.run pins s σ H (fun v H' => v = .ref a ∧ H' = H) I ⟨.ref a, hw, rfl, rfl⟩) fun u s1 ⟨v, H1, I1, rx, ev, eH⟩ => ?_) ht
      subst ev eH
      obtain rfl : u = Value.ref a := rx
      refine getmeth_ok I1 hu c hm hl ?_
      have r : Run X.K W (RfR X.K) ⟨σ, ρ, F, H1⟩ (ga.bind fun xs => callN g ps.length (.br i :: xs)) ρ F H1 Q := ⟨p, o, eo, q⟩
      refine PySem.W.callWith_K (first := [.ref a]) (h₀ := X.base) I1.ok.mod.kin hm.kp (thn (ha.run pos pins s1 σ H1 _ I1 ⟨ρ, F, r.bind⟩) ?_) hst hpl
      rintro us s2 ⟨vs, H2, I2, rv, xs, ρ1, F1, ra, _, p1, o1, eo1, fin⟩
      refine ⟨I2.kIn, ?_⟩
      unfold callN at eo1
      split at eo1
      next hl2 => exact run_fnG (us := .ref a :: us) (vs := .ref a :: vs) Fn hr hgd hb tk hl2 I2 (.cons rfl rv) (S := ⟨σ, ρ, F, H1⟩) rfl (.cons (show ArgR X.K σ F1 (.ref a) (.br i) from hw) ra) ⟨p1, o1, eo1, fin⟩
      next => cases eo1
    · cases eo
  · cases eo
/-- x.m() -/
theorem ev_meth0 {pl : Sem Bool} (c : L2.Cls X.K c0) (hm : L2.Meth X.K c0 m f) (Fn : FnG X.prog X.w X.K X.mg X.base k f fd ps g) (hr : Room k X.A) (hgd : X.A.guards = some []) (hb : Binds X.K fd ps []) (tk : L2N.Takes X W)
    (ho : PE X (.Name x np) (tVar i))
    (ht : eval (.Call (.Attribute (.Name x np) m apos) [] [] pos) X.env = (do
      let ov ← eval (.Name x np) X.env
      standAt apos.atName
      let (f, first) ← holding [ov] (getMethod ov m pl)
      callWith pos f first (backTo pos (starEach [] X.env)) (backToKw pos (keywordEach [] X.env))) := by rfl) :
    EvO X W (.Call (.Attribute (.Name x np) m apos) [] [] pos) (eMe i c0 m g ps.length (M.ret [])) := by
  refine ⟨fun pins s σ H Q I ⟨ρ, F, p, o, eo, q⟩ => ?_⟩
  unfold eMe at eo
  split at eo
  · rename_i mm em
    split at eo
    · rename_i hmm
      obtain ⟨a, u, hw, hu, mr⟩ := eMe_at (S := ⟨σ, ρ, F, H⟩) p.hd em
      obtain ⟨dx, vs0, rfl, hl⟩ := hasM_at mr hmm
      refine PySem.W.methodCall_KW (pl := pl) (thn (ho.run pins s σ H (fun v H' => v = .ref a ∧ H' = H) I ⟨.ref a, hw, rfl, rfl⟩) fun u s1 ⟨v, H1, I1, rx, ev, eH⟩ => ?_) ht
      subst ev eH
      obtain rfl : u = Value.ref a := rx
      refine getmeth_ok I1 hu c hm hl ?_
      have eo1 : callN g ps.length [.br i] ρ = some o := eo
      unfold callN at eo1
      split at eo1
      next hl2 => exact PySem.W.callWith_K0 (first := [.ref a]) I1.kIn hm.kp (run_fnG (us := [.ref a]) (vs := [.ref a]) Fn hr hgd hb tk hl2 I1 (.cons rfl .nil) (S := ⟨σ, ρ, F, H1⟩) rfl (.cons (show ArgR X.K σ F (.ref a) (.br i) from hw) .nil) ⟨p, o, eo1, q⟩)
      next => cases eo1
    · cases eo
  · cases eo
end
end Vs

/-! Vs: a class called: a new instance, its __init__ run. -/
namespace Vs
open PySem PySem.Spec L2
theorem guards_make {A : Around} (h : A.guards = some []) (C : Addr) (us : List Value) (kw : List (Str × Value)) : (A.under (.builtin "type.__call__" ⟨.ref C :: us, kw⟩)).guards = some [] := by
  show pushGuards (Code.guards (.builtin "type.__call__" ⟨.ref C :: us, kw⟩)) A.guards = some []
  rw [h]
  rfl
def mkOut (ρ : Rho) : Option (Out O) → Option (Out Rf)
  | some (.ok (.fz .none) (some (.mu true m) :: _)) => some (.ok (.o (.mu false m)) ρ)
  | some (.ex c _) => some (.ex c ρ)
  | _ => none
def mkK (C : Addr) (g : M O) (n : Nat) (ds : List PyData) : M Rf := fun ρ => if ds.length + 1 = n then mkOut ρ (g (some (.mu true (.obj C [])) :: ds.map fun d => some (.fz d))) else none
/-- C(..) -/
def eMk (C : Addr) (g : M O) (n : Nat) (l : M (List PyData)) : M Rf := l.bind fun ds => mkK C g n ds
section
variable {K : PySem.W.Frag} {S : Sta} {σ : L2.St} {ρ : Rho} {F H : Hp} {vs : List V} {ds : List PyData} {C x dx : Addr}
theorem rp_get : ∀ {vs : List V} {ds : List PyData} {i : Nat} {o : O}, RpA K F vs ds → (ds.map fun d => (some (O.fz d) : Option O))[i]? = some (some o) → ∃ v d, vs[i]? = some v ∧ o = .fz d ∧ Rp K F v d := by
  intro vs ds i o r e
  rw [List.getElem?_map] at e
  obtain ⟨d, hd, e2⟩ := Option.map_eq_some_iff.mp e
  cases e2
  obtain ⟨v, hv, rv⟩ := r.get hd
  exact ⟨v, d, hv, rfl, rv⟩
/-- the callee's side of __init__ -/
theorem Hd.made (p : Hd K σ ρ F H) (gx : F x = none) (gd : F dx = none) (hne : dx ≠ x) (r : RpA K F vs ds) :
    Hd K ((V.ref x :: vs).map some) (some (.mu true (.obj C [])) :: ds.map fun d => some (.fz d)) F (upd (upd H dx (.own x)) x (.ins C dx [])) := by
  refine ⟨(p.le.updH gd).updH gx, by simp [r.len], fun i o e => ?_, fun i j b m b' m' v v' a e1 e2 s1 s2 _ _ => ?_⟩
  · cases i with
    | zero =>
      cases e
      exact ⟨.ref x, rfl, x, _, rfl, upd_same, gx, dx, [], rfl, rfl, .nil⟩
    | succ i =>
      obtain ⟨v, d, hv, rfl, rv⟩ := rp_get r (i := i) (o := o) (by simpa using e)
      exact ⟨v, by simp [hv], rv⟩
  · have only : ∀ {i : Nat} {b : Bool} {m : Mu}, (some (O.mu true (.obj C [])) :: ds.map fun d => some (O.fz d))[i]? = some (some (.mu b m)) → i = 0 := fun {i b m} e => by
      cases i with
      | zero => rfl
      | succ i =>
        rw [List.getElem?_cons_succ, List.getElem?_map] at e
        obtain ⟨d, _, z⟩ := Option.map_eq_some_iff.mp e
        cases z
    rw [only e1, only e2]
theorem made_own {a : Addr} (h : Own ((V.ref x :: vs).map some) (some (.mu true (.obj C [])) :: ds.map fun d => some (.fz d)) H a) : a = x := by
  obtain ⟨i, b, m, w, e, s, k⟩ := h
  cases i with
  | zero =>
    have : some (some (V.ref x)) = some (some w) := s
    cases this
    have e : some (some (O.mu true (.obj C []))) = some (some (.mu b m)) := e
    cases e
    exact List.mem_singleton.mp (show a ∈ [x] from k)
  | succ i =>
    rw [List.getElem?_cons_succ, List.getElem?_map] at e
    obtain ⟨d, _, z⟩ := Option.map_eq_some_iff.mp e
    cases z
/-- behind __init__: the caller's side -/
theorem Post.made {F' H' : Hp} {ρ' : Rho} (p : Post K S σ ρ F H) (hx : H x = none) (hd : H dx = none) (hne : dx ≠ x)
    (pc : Post K ⟨(V.ref x :: vs).map some, some (.mu true (.obj C [])) :: ds.map fun d => some (.fz d), F, upd (upd H dx (.own x)) x (.ins C dx [])⟩ ((V.ref x :: vs).map some) ρ' F' H') : Post K S σ ρ F' H' := by
  have old : ∀ b o, H b = some o → b ≠ x ∧ upd (upd H dx (.own x)) x (.ins C dx []) b = some o := fun b o e => by
    have h1 := ne_of_none e hx
    have h2 := ne_of_none e hd
    exact ⟨h1, by rw [upd_ne h1, upd_ne h2]; exact e⟩
  obtain ⟨m1, m2⟩ := p.hd.move pc.le pc.hd.le fun c hc => by
    obtain ⟨⟨u, hu⟩, hf⟩ := p.hd.ownAt hc
    obtain ⟨h1, h2⟩ := old c u hu
    exact ⟨(pc.keep c u h2 fun z => h1 (made_own z)).trans hu.symm, pc.nofz c u h2 (fun z => h1 (made_own z)) hf⟩
  refine p.trans ⟨m1, pc.le, fun b o e _ => ?_, fun b o e _ f => ?_, fun b h => .inl (m2 b h), fun i m e => ⟨rfl, m, e⟩⟩
  · obtain ⟨h1, h2⟩ := old b o e
    exact pc.keep b o h2 fun z => h1 (made_own z)
  · obtain ⟨h1, h2⟩ := old b o e
    exact pc.nofz b o h2 (fun z => h1 (made_own z)) f
end
section
variable {X : Cx} {W : WX} {e : Expr} {es : List Expr} {l : M (List PyData)} {pos p : Pos} {k : Nat} {f C : Addr} {fd : FuncData} {ps : List Str} {x : Str} {g : M O}
theorem ev_make (M : L2.Mk X.K C f) (Fn : FnG X.prog X.w X.K X.mg X.base k f fd ps g) (hr : Room (k + 1) X.A) (hgd : X.A.guards = some []) (hg : Gl X x) (hm : X.mg x = some (.ref C)) (hb : Binds X.K fd ps []) (tk : L2N.Takes X W)
    (ha : EvA X W (e :: es) l) (hdb : (x == ("__debug__" : Str)) = false := by decide) (he : starEach (e :: es) X.env = (false, eval e X.env) :: starEach es X.env := by rfl) (hpl : (backTo pos (starEach es X.env)).any (·.1) = false := by rfl) :
    EvO X W (.Call (.Name x p) (e :: es) [] pos) (eMk C g ps.length l) := by
  refine ⟨fun pins s σ H Q I ⟨ρ, F, r⟩ => wpAny_Call_Name_kw (ld_glob I hg hm ?_ hdb)⟩
  refine PySem.W.callWith_K (h₀ := X.base) I.ok.mod.kin M.kp (thn (ha.run pos pins s σ H _ I ⟨ρ, F, r.bind⟩) ?_) he hpl
  rintro us s1 ⟨vs, H1, I1, rv, ds, ρ1, F1, ra, _, p1, o1, eo, fin⟩
  refine ⟨I1.kIn, ?_⟩
  have ra : RpA X.K F1 vs ds := ra
  unfold mkK at eo
  split at eo
  next hl =>
    have hx := I1.hok.fresh (Nat.le_succ s1.heap.objs.size)
    have hdx := I1.hok.fresh (Nat.le_refl s1.heap.objs.size)
    have hne : s1.heap.objs.size ≠ s1.heap.objs.size + 1 := Nat.ne_of_lt (Nat.lt_succ_self _)
    have I2 := Inv.made (C := C) I1
    have r2 : Vals (V.ref (s1.heap.objs.size + 1) :: vs) (Value.ref (s1.heap.objs.size + 1) :: us) := .cons rfl rv
    have hlv : (V.ref (s1.heap.objs.size + 1) :: vs).length = ps.length := by rw [List.length_cons, ra.len]; exact hl
    have hlu : (Value.ref (s1.heap.objs.size + 1) :: us).length = ps.length := r2.length.symm.trans hlv
    have bind := hb _ (Value.ref (s1.heap.objs.size + 1) :: us) I2.kIn (by rw [List.append_nil]; exact hlu)
    rw [List.append_nil] at bind
    refine wpAny_call (make_map (f := f) I1.kIn M.makes M.init (beq_iff_eq.mp M.fn) (codeAny_mono (Fn.run _ X.stack _ _ ⟨Value.ref (s1.heap.objs.size + 1) :: us, []⟩ (Value.ref (s1.heap.objs.size + 1) :: us) _ (fun v H2 => v = .non ∧ Q (.ref (s1.heap.objs.size + 1)) H2) (fun c d H' => W c d σ H')
      (some (.mu true (.obj C [])) :: ds.map fun d => some (.fz d)) F1 (guards_make hgd C us []) (hr.make C us []) (I2.env0.make C us []) bind r2 hlv ?_) fun rr s' hq => ?_))
    · refine ⟨Post.refl (p1.hd.made (p1.gone hx) (p1.gone hdx) hne ra), ?_⟩
      cases eg : g (some (.mu true (.obj C [])) :: ds.map fun d => some (.fz d)) with
      | none => rw [eg] at eo; cases eo
      | some og =>
        refine ⟨og, rfl, ?_⟩
        rw [eg] at eo
        cases og with
        | ok o ρa =>
          intro v F' H' pc ro
          unfold mkOut at eo
          split at eo
          · rename_i m' ρr eq
            cases eq
            cases eo
            have pm := p1.made hx hdx hne pc
            cases (show Rp X.K F' v .none from ro)
            refine ⟨rfl, fin _ F' H' pm ?_⟩
            have hsl : SlotX X.K F' H' (V.ref (s1.heap.objs.size + 1)) (.mu true m') := ?_
            refine ⟨rfl, hsl, fun a ea => ?_⟩
            rotate_left
            · obtain ⟨w, hw, sl⟩ := pc.hd.at_ 0 _ rfl
              have : some (some (V.ref (s1.heap.objs.size + 1))) = some (some w) := hw
              cases this
              exact sl
            · -- what the new instance owns was not there ahead of the call
              have nH : H1 a = none := by
                rcases pc.own a ⟨0, true, m', V.ref (s1.heap.objs.size + 1), rfl, rfl, ea⟩ with z | z
                · rw [made_own z]; exact hx
                · have z : upd (upd H1 s1.heap.objs.size (.own (s1.heap.objs.size + 1))) (s1.heap.objs.size + 1) (.ins C s1.heap.objs.size []) a = none := z
                  cases q : H1 a with
                  | none => rfl
                  | some o =>
                    rw [upd_ne (ne_of_none q hx), upd_ne (ne_of_none q hdx), q] at z
                    cases z
              refine ⟨p1.new (.inr nH), fun z => ?_⟩
              obtain ⟨⟨u, hu⟩, hf⟩ := pm.hd.ownAt z
              have old : ∀ b o, H1 b = some o → b ≠ s1.heap.objs.size + 1 := fun b o e => ne_of_none e hx
              -- it is owned by no slot of the caller
              obtain ⟨j, b1, m1, w1, e1, s1', k1⟩ := z
              have sl1 := p1.hd.slot e1 s1'
              have k0 := (sl1.stay (b' := b1) (F' := F') (H' := H') pc.le fun c hc => by
                obtain ⟨⟨u, hu⟩, hf⟩ := sl1.at_ hc
                have h1 := ne_of_none hu hx
                have h2 := ne_of_none hu hdx
                have hu2 : upd (upd H1 s1.heap.objs.size (.own (s1.heap.objs.size + 1))) (s1.heap.objs.size + 1) (.ins C s1.heap.objs.size []) c = some u := by rw [upd_ne h1, upd_ne h2]; exact hu
                exact ⟨(pc.keep c u hu2 fun z => h1 (made_own z)).trans hu.symm, pc.nofz c u hu2 (fun z => h1 (made_own z)) hf⟩).2
              rw [k0] at k1
              obtain ⟨⟨u, hu⟩, _⟩ := sl1.at_ k1
              rw [nH] at hu; cases hu
          · rename_i eq; cases eq
          · cases eo
        | ex c ρa =>
          intro d F' H' pc
          have pm := p1.made hx hdx hne pc
          unfold mkOut at eo
          cases eo
          exact fin d F' H' pm
    · cases rr with
      | error er => exact tk er s' (L2N.XE.of_call I2 (fun _ _ _ h => h) hq)
      | ok fl =>
        cases fl with
        | ret u =>
          obtain ⟨v, H', I3, rv3, ev, q3⟩ := I2.after hq
          subst ev
          exact ⟨rv3, ⟨V.ref (s1.heap.objs.size + 1), H', I3, rfl, q3⟩⟩
        | next => exact hq.elim
        | brk => exact hq.elim
        | cont => exact hq.elim
  next => cases eo
end
end Vs

/-! Vs: methods and classes of a law, as the generator names them. -/
namespace Vs
open PySem PySem.Spec L2
def clsBody : Stmt → List Stmt
  | .ClassDef _ _ _ body _ _ _ _ _ _ _ => body
  | _ => []
/-- the method m of the class at C -/
structure MDef (K : PySem.W.Frag) (C : Addr) (m q : Str) (st : Stmt) (ps : List Str) (f : Addr) (fd : FuncData) : Prop where
  fu : Fun K m q st f fd
  me : L2.Meth K C m f
  bi : Binds K fd ps []
/-- the __init__ of the class at C -/
structure IDef (K : PySem.W.Frag) (C : Addr) (q : Str) (st : Stmt) (ps : List Str) (f : Addr) (fd : FuncData) : Prop where
  fu : Fun K "__init__" q st f fd
  mks : L2.Mk K C f
  bi : Binds K fd ps []
structure MCal (P : Program) (w : World) (K : PySem.W.Frag) (mg : Str → Option Value) (base : Heap) (k : Nat) (C : Addr) (m : Str) (n : Nat) (g : M O) : Prop where
  ex : ∃ f fd ps, ps.length = n ∧ FnG P w K mg base k f fd ps g ∧ L2.Meth K C m f ∧ Binds K fd ps []
/-- the class at C called: one level more than its __init__ -/
structure ICal (P : Program) (w : World) (K : PySem.W.Frag) (mg : Str → Option Value) (base : Heap) (k : Nat) (C : Addr) (n : Nat) (g : M O) : Prop where
  ex : ∃ f fd ps j, ps.length = n ∧ j + 1 ≤ k ∧ FnG P w K mg base j f fd ps g ∧ L2.Mk K C f ∧ Binds K fd ps []
section
variable {P : Program} {w : World} {K : PySem.W.Frag} {mg : Str → Option Value} {base : Heap} {m q : Str} {st : Stmt} {ps : List Str} {f C : Addr} {fd : FuncData} {k n : Nat} {g : M O}
theorem MDef.cal (d : MDef K C m q st ps f fd) (F : FnG P w K mg base k f fd ps g) : MCal P w K mg base k C m ps.length g := ⟨f, fd, ps, rfl, F, d.me, d.bi⟩
theorem IDef.cal (d : IDef K C q st ps f fd) (F : FnG P w K mg base k f fd ps g) : ICal P w K mg base (k + 1) C ps.length g := ⟨f, fd, ps, k, rfl, Nat.le_refl _, F, d.mks, d.bi⟩
end
section
variable {X : Cx} {W : WX} {e : Expr} {es : List Expr} {ga : M (List Arg)} {l : M (List PyData)} {pos np apos p : Pos} {j k n : Nat} {x m : Str} {g : M O} {C : Addr} {i : Nat}
theorem r_meth {pl : Sem Bool} (cl : L2.Cls X.K C) (c : MCal X.prog X.w X.K X.mg X.base j C m n g) (hk : j ≤ k) (hr : Room k X.A) (hgd : X.A.guards = some []) (tk : L2N.Takes X W)
    (ho : PE X (.Name x np) (tVar i)) (ha : EvG X W (e :: es) ga) (hst : starEach (e :: es) X.env = (false, eval e X.env) :: starEach es X.env := by rfl) (hpl : (backTo pos (starEach es X.env)).any (·.1) = false := by rfl)
    (ht : eval (.Call (.Attribute (.Name x np) m apos) (e :: es) [] pos) X.env = (do
      let ov ← eval (.Name x np) X.env
      standAt apos.atName
      let (f, first) ← holding [ov] (getMethod ov m pl)
      callWith pos f first (backTo pos (starEach (e :: es) X.env)) (backToKw pos (keywordEach [] X.env))) := by rfl) :
    EvO X W (.Call (.Attribute (.Name x np) m apos) (e :: es) [] pos) (eMe i C m g n ga) := by
  obtain ⟨f, fd, ps, rfl, F, hm, hb⟩ := c.ex
  exact ev_meth cl hm F (hr.mono hk) hgd hb tk ho ha hst hpl ht
theorem r_meth0 {pl : Sem Bool} (cl : L2.Cls X.K C) (c : MCal X.prog X.w X.K X.mg X.base j C m n g) (hk : j ≤ k) (hr : Room k X.A) (hgd : X.A.guards = some []) (tk : L2N.Takes X W)
    (ho : PE X (.Name x np) (tVar i))
    (ht : eval (.Call (.Attribute (.Name x np) m apos) [] [] pos) X.env = (do
      let ov ← eval (.Name x np) X.env
      standAt apos.atName
      let (f, first) ← holding [ov] (getMethod ov m pl)
      callWith pos f first (backTo pos (starEach [] X.env)) (backToKw pos (keywordEach [] X.env))) := by rfl) :
    EvO X W (.Call (.Attribute (.Name x np) m apos) [] [] pos) (eMe i C m g n gN) := by
  obtain ⟨f, fd, ps, rfl, F, hm, hb⟩ := c.ex
  exact ev_meth0 cl hm F (hr.mono hk) hgd hb tk ho ht
theorem r_make (c : ICal X.prog X.w X.K X.mg X.base j C n g) (hm : X.mg x = some (.ref C)) (hk : j ≤ k) (hr : Room k X.A) (hgd : X.A.guards = some []) (hg : Gl X x) (tk : L2N.Takes X W)
    (ha : EvA X W (e :: es) l) (hdb : (x == ("__debug__" : Str)) = false := by decide) (he : starEach (e :: es) X.env = (false, eval e X.env) :: starEach es X.env := by rfl) (hpl : (backTo pos (starEach es X.env)).any (·.1) = false := by rfl) :
    EvO X W (.Call (.Name x p) (e :: es) [] pos) (eMk C g n l) := by
  obtain ⟨f, fd, ps, j', rfl, hj, F, M, hb⟩ := c.ex
  exact ev_make M F (hr.mono (Nat.le_trans hj hk)) hgd hg hm hb tk ha hdb he hpl
end
end Vs

/-! Vs: the words on instances, in Wp. -/
namespace Vs
open PySem PySem.Spec L2
section
variable {ρ ρ' : Rho} {E : Px} {c : Addr} {f m : Str} {i n : Nat} {g : M Rf} {Q : Rf → Rho → Prop} {QF : Fl → Rho → Prop}
theorem w_Fld (w : Wp g ρ (fun x ρ1 => Wp (rdF c f x) ρ1 Q E) E) : Wp (eFld c f g) ρ Q E := w_bind w
theorem w_rdF {x : Rf} {fs : List (Str × PyData)} {d : PyData} (e : objOf ρ x = some (.obj c fs)) (e2 : fs.lookup f = some d) (q : Q (.o (.fz d)) ρ) : Wp (rdF c f x) ρ Q E := .eq (by
  unfold rdF
  rw [e]
  show (match hFld c f (.obj c fs) with | some d => some (Out.ok (Rf.o (O.fz d)) ρ) | none => none) = _
  rw [show hFld c f (.obj c fs) = fs.lookup f from if_pos rfl, e2]) q
theorem w_Me {gm : M O} {ga : M (List Arg)} {fs : List (Str × PyData)} (e : objOf ρ (.s i) = some (.obj c fs)) (e2 : fs.lookup m = none) (w : Wp ga ρ (fun xs ρ1 => Wp (callN gm n (.br i :: xs)) ρ1 Q E) E) : Wp (eMe i c m gm n ga) ρ Q E := by
  have : eMe i c m gm n ga ρ = (ga.bind fun xs => callN gm n (.br i :: xs)) ρ := by
    unfold eMe
    rw [e]
    show (if (decide (c = c) && (fs.lookup m).isNone) = true then _ else none) = _
    rw [decide_eq_true rfl, e2]; rfl
  unfold Wp
  rw [this]
  exact w_bind w
theorem w_Mk {gm : M O} {l : M (List PyData)} (w : Wp l ρ (fun ds ρ1 => Wp (mkK c gm n ds) ρ1 Q E) E) : Wp (eMk c gm n l) ρ Q E := w_bind w
theorem w_mkK {gm : M O} {ds : List PyData} {r : Rho} (hn : ds.length + 1 = n) (ea : (some (O.mu true (.obj c [])) :: ds.map fun d => some (O.fz d)) = r) (w : Wp gm r (fun o ρ1 => ∃ mm r1, o = .fz .none ∧ ρ1 = some (.mu true mm) :: r1 ∧ Q (.o (.mu false mm)) ρ) (fun c _ => E c ρ)) : Wp (mkK c gm n ds) ρ Q E := by
  subst ea
  unfold Wp at w ⊢
  unfold mkK
  rw [if_pos hn]
  cases eg : gm (some (O.mu true (.obj c [])) :: ds.map fun d => some (O.fz d)) with
  | none => rw [eg] at w; exact w.elim
  | some o =>
    rw [eg] at w
    cases o with
    | ok x ρ1 =>
      obtain ⟨mm, r1, rfl, rfl, q⟩ := w
      exact q
    | ex cc ρ1 => exact w
theorem w_Fl (w : Wp g ρ (fun x ρ1 => Wp (frz x) ρ1 (fun d ρ2 => Wp (upS i (muFld c f d)) ρ2 QF E) E) E) : Wp (sFl i c f g) ρ QF E := w_bind (w_bind w)
theorem w_upF {b : Bool} {d : PyData} {fs fs' : List (Str × PyData)} (e : ρ[i]? = some (some (.mu b (.obj c fs)))) (hl : fs.length < 1000) (ep : putD f d fs = fs') (e2 : ρ.set i (some (.mu b (.obj c fs'))) = ρ') (q : QF .nx ρ') : Wp (upS i (muFld c f d)) ρ QF E := .eq (by
  unfold upS
  rw [e]
  show (match (if c = c ∧ fs.length < 1000 then some (Mu.obj c (putD f d fs)) else none) with | some m' => some (Out.ok Fl.nx (ρ.set i (some (.mu b m')))) | none => none) = _
  rw [if_pos ⟨rfl, hl⟩, ep]) (by rw [e2]; exact q)
theorem w_FA {h : Int → Int → Int} {fs : List (Str × PyData)} {a : Int} (e : objOf ρ (.s i) = some (.obj c fs)) (e2 : fs.lookup f = some (.int a)) (w : Wp g ρ (fun x ρ1 => Wp (augF i c f h a x) ρ1 QF E) E) : Wp (sFA i c f h g) ρ QF E := by
  have : sFA i c f h g ρ = (g.bind (augF i c f h a)) ρ := by
    unfold sFA
    rw [e]
    show (match hFld c f (.obj c fs) with | some (.int a) => (g.bind (augF i c f h a)) ρ | _ => none) = _
    rw [show hFld c f (.obj c fs) = fs.lookup f from if_pos rfl, e2]
  unfold Wp
  rw [this]
  exact w_bind w
theorem w_augF {h : Int → Int → Int} {a j : Int} {x : Rf} (ex : rdO ρ x = some (.fz (.int j))) (w : Wp (upS i (muFld c f (.int (h a j)))) ρ QF E) : Wp (augF i c f h a x) ρ QF E := by
  have : augF i c f h a x ρ = upS i (muFld c f (.int (h a j))) ρ := by
    unfold augF
    rw [ex]; rfl
  unfold Wp
  rw [this]
  exact w
theorem brAt_fz {j : Nat} {d : PyData} {xs : List Arg} : brAt j (.fz d :: xs) = (brAt j xs).map (· + 1) := rfl
theorem back_fb {xs : List Arg} {ρa : Rho} {d : PyData} {b b' : Bool} {mm m' : Mu} (h : ∀ i, brAt i xs = none) (hi : ρ[i]? = some (some (.mu b mm))) (ha : ρa[1]? = some (some (.mu b' m'))) : back ρ (.fz d :: .br i :: xs) ρa = ρ.set i (some (.mu b m')) := by
  unfold back
  have hlt := (List.getElem?_eq_some_iff.mp hi).1
  apply List.ext_getElem?
  intro j
  rw [List.getElem?_mapIdx]
  by_cases hj : i = j
  · subst hj
    rw [List.getElem?_set_self hlt, hi]
    show some (backF _ ρa i _) = _
    unfold backF
    rw [brAt_fz, brAt_b, if_pos rfl]
    simp only [Option.map_some, ha]
  · rw [List.getElem?_set_ne hj]
    cases e : ρ[j]? with
    | none => rfl
    | some y =>
      show some (backF _ ρa j y) = _
      unfold backF
      rw [brAt_fz, brAt_b, if_neg hj, h j]
      rfl
/-- a frozen thing, a borrowed one, frozen ones -/
def BQF (ρ : Rho) (i : Nat) (b : Bool) (P : Rho → Prop) (ρa : Rho) : Prop := ∃ y b' m' t ρ', ρa = y :: some (.mu b' m') :: t ∧ ρ.set i (some (.mu b m')) = ρ' ∧ P ρ'
theorem bqF {b b' : Bool} {P : Rho → Prop} {m' : Mu} {y : Option O} {t : Rho} (e : ρ.set i (some (.mu b m')) = ρ') (q : P ρ') : BQF ρ i b P (y :: some (.mu b' m') :: t) := ⟨y, b', m', t, ρ', rfl, e, q⟩
theorem w_cFB {gg : M O} {xs : List Arg} {ds : List PyData} {b : Bool} {d : PyData} {mm : Mu} {a : Rho} (e : fzs xs = some ds) (hn : ds.length + 2 = n) (hi : ρ[i]? = some (some (.mu b mm))) (ea : fzR ds = a)
    (w : Wp gg (some (.fz d) :: some (.mu true mm) :: a) (fun o ρa => BQF ρ i b (Q (.o o)) ρa) (fun c ρa => BQF ρ i b (E c) ρa)) : Wp (callN gg n (.fz d :: .br i :: xs)) ρ Q E := by
  subst ea
  obtain ⟨a, b1, c, l⟩ := fzs_arg (ρ := ρ) e
  have hb : brOk (.fz d :: .br i :: xs) = true := by
    show brOk (.br i :: xs) = true
    rw [brOk_b, c i, b1]; rfl
  have ea2 : argE ρ (.fz d :: .br i :: xs) = some (some (.fz d) :: some (.mu true mm) :: fzR ds) := by
    show (argE ρ (.br i :: xs)).map (some (.fz d) :: ·) = _
    rw [argE_b hi, a]; rfl
  unfold Wp at w ⊢
  rw [callN_ap (by simp; omega), ea2, callA_ap, hb, callBO_t]
  cases e2 : gg (some (.fz d) :: some (.mu true mm) :: fzR ds) with
  | none => rw [e2] at w; exact w
  | some o =>
    rw [e2] at w
    cases o with
    | ok x ρ2 =>
      obtain ⟨y, b', m', t, ρ', rfl, e3, q⟩ := w
      show Q (.o x) (back ρ (.fz d :: .br i :: xs) _); rw [back_fb c hi rfl, e3]; exact q
    | ex x ρ2 =>
      obtain ⟨y, b', m', t, ρ', rfl, e3, q⟩ := w
      show E x (back ρ (.fz d :: .br i :: xs) _); rw [back_fb c hi rfl, e3]; exact q
end
end Vs

/-! Vs: a loop over a list that the def still owns, in Wp (the body neither changes the list nor returns). -/
namespace Vs
open PySem PySem.Spec L2
def TurnN (J : Rho → Prop) : Fl → Rho → Prop
  | .nx, ρ => J ρ
  | .ct, ρ => J ρ
  | _, _ => False
theorem forL_w {i : Nat} {h : PyData → M Fl} {fb : M Fl} {ds : List PyData} (J : Nat → Rho → Prop) (keep : ∀ k ρ, J k ρ → ρ[i]? = some (some (.mu true (.lst ds))))
    (step : ∀ k d ρ, ds[k]? = some d → J k ρ → Wp (h d) ρ (fun fl ρ1 => Wp (tgK fb fl) ρ1 (TurnN (J (k + 1))) nx) nx) :
    ∀ (n k : Nat) (ρ : Rho), k + n = ds.length + 1 → k ≤ ds.length → J k ρ → ∃ ρ', forL i h fb n k ρ = some (.ok .nx ρ') ∧ J ds.length ρ'
  | 0, k, ρ, e, hk, _ => by omega
  | n + 1, k, ρ, e, hk, j => by
    unfold forL
    simp only [keep k ρ j]
    cases hd : ds[k]? with
    | none =>
      have hk2 : k = ds.length := by
        have := List.getElem?_eq_none_iff.mp hd
        omega
      subst hk2
      exact ⟨ρ, rfl, j⟩
    | some d =>
      have hlt := (List.getElem?_eq_some_iff.mp hd).1
      have w := step k d ρ hd j
      unfold Wp at w
      show ∃ ρ', forH fb (forL i h fb n (k + 1)) (h d ρ) = _ ∧ _
      cases e1 : h d ρ with
      | none => rw [e1] at w; exact w.elim
      | some o =>
        rw [e1] at w
        cases o with
        | ex c ρ2 => exact False.elim w
        | ok fl ρ1 =>
          cases fl with
          | bk => exact False.elim w
          | ct => exact False.elim w
          | rt r => exact False.elim w
          | nx =>
            have w : Sat (TurnN (J (k + 1))) nx (fb ρ1) := w
            show ∃ ρ', forK (forL i h fb n (k + 1)) (fb ρ1) = _ ∧ _
            cases e2 : fb ρ1 with
            | none => rw [e2] at w; exact w.elim
            | some o =>
              rw [e2] at w
              cases o with
              | ex c ρ2 => exact False.elim w
              | ok fl ρ2 =>
                cases fl with
                | nx => exact forL_w J keep step n (k + 1) ρ2 (by omega) (by omega) w
                | ct => exact forL_w J keep step n (k + 1) ρ2 (by omega) (by omega) w
                | bk => exact False.elim w
                | rt r => exact False.elim w
theorem w_ForL {ρ ρL : Rho} {E : Px} {QF : Fl → Rho → Prop} {i : Nat} {h : PyData → M Fl} {fb : M Fl} {ds : List PyData} {b : Bool} (J : Nat → Rho → Prop) (hi : ρ[i]? = some (some (.mu b (.lst ds)))) (hL : ρ.set i (some (.mu true (.lst ds))) = ρL)
    (keep : ∀ k ρ, J k ρ → ρ[i]? = some (some (.mu true (.lst ds)))) (j : J 0 ρL)
    (step : ∀ k d ρ, ds[k]? = some d → J k ρ → Wp (h d) ρ (fun fl ρ1 => Wp (tgK fb fl) ρ1 (TurnN (J (k + 1))) nx) nx)
    (q : ∀ ρ', J ds.length ρ' → QF .nx (ρ'.set i (some (.mu b (.lst ds))))) : Wp (sForL i h fb) ρ QF E := by
  obtain ⟨ρ', e, j'⟩ := forL_w J keep step (ds.length + 1) 0 ρL (by omega) (Nat.zero_le _) j
  refine .eq (x := .nx) (ρ1 := ρ'.set i (some (.mu b (.lst ds)))) ?_ (q ρ' j')
  unfold sForL
  simp only [hi, hL, e]
  show (unl i b ρ').map (Out.ok Fl.nx) = _
  unfold unl
  simp only [keep _ _ j', Option.map_some]
end Vs

/-! Vs: things whose parts are owned: reading a part, changing it, an attribute put. -/
namespace Vs
open PySem PySem.Spec L2
def ChR (K : PySem.W.Frag) (F H : Hp) : Ch → V → Prop
  | .fz d, v => Rp K F v d
  | .mu m, v => ∃ a o, v = .ref a ∧ H a = some o ∧ F a = none ∧ MuT K F H m a o
def footC (H : Hp) : Ch → V → List Addr
  | .fz _, _ => []
  | .mu m, v => foot H m v
section
variable {K : PySem.W.Frag} {F F' H H' : Hp}
theorem footA_cons {ch : Ch} {its : List Ch} {v : V} {vs : List V} : footA H (ch :: its) (v :: vs) = footC H ch v ++ footA H its vs := by
  cases ch <;> simp [footA, footC]
theorem chX_cons {ch : Ch} {its : List Ch} {v : V} {vs : List V} : ChX K F H (ch :: its) (v :: vs) ↔ ChR K F H ch v ∧ (∀ c ∈ footC H ch v, c ∉ footA H its vs) ∧ ChX K F H its vs := by
  cases ch <;> simp [ChX, ChR, footC]
theorem ChR.at_ {ch : Ch} {v : V} (h : ChR K F H ch v) {c : Addr} (hc : c ∈ footC H ch v) : (∃ u, H c = some u) ∧ F c = none := by
  cases ch with
  | fz d => cases hc
  | mu m =>
    obtain ⟨a, o, rfl, ho, hf, r⟩ := h
    exact MuT.at_ m a o r ho hf c hc
theorem ChR.stay {ch : Ch} {v : V} (h : ChR K F H ch v) (le : Le F F') (s : ∀ c ∈ footC H ch v, H' c = H c ∧ F' c = none) : ChR K F' H' ch v ∧ footC H' ch v = footC H ch v := by
  cases ch with
  | fz d => exact ⟨Rp.mono le h, rfl⟩
  | mu m =>
    obtain ⟨a, o, rfl, ho, hf, r⟩ := h
    obtain ⟨q1, q2⟩ := MuT.stay le m a o r ho s
    have sa := s a foot_root
    exact ⟨⟨a, o, rfl, sa.1.trans ho, sa.2, q1⟩, q2⟩
theorem ChX.len : ∀ {its : List Ch} {vs : List V}, ChX K F H its vs → its.length = vs.length
  | [], [], _ => rfl
  | [], _ :: _, h => by simp only [ChX] at h
  | ch :: its, [], h => by cases ch <;> simp only [ChX] at h
  | ch :: its, v :: vs, h => by
    rw [List.length_cons, List.length_cons, ChX.len (chX_cons.mp h).2.2]
theorem ChX.get : ∀ {its : List Ch} {vs : List V} {j : Nat} {ch : Ch}, ChX K F H its vs → its[j]? = some ch → ∃ w, vs[j]? = some w ∧ ChR K F H ch w ∧ ∀ c ∈ footC H ch w, c ∈ footA H its vs
  | [], _, _, _, _, e => by simp at e
  | _ :: its, [], _, _, h, _ => by rename_i x _ _; cases x <;> simp only [ChX] at h
  | x :: its, v :: vs, 0, ch, h, e => by
    simp at e; subst e
    exact ⟨v, rfl, (chX_cons.mp h).1, fun c hc => by rw [footA_cons]; exact List.mem_append_left _ hc⟩
  | x :: its, v :: vs, j + 1, ch, h, e => by
    obtain ⟨w, h1, h2, h3⟩ := ChX.get (j := j) (chX_cons.mp h).2.2 (by simpa using e)
    exact ⟨w, by simpa using h1, h2, fun c hc => by rw [footA_cons]; exact List.mem_append_right _ (h3 c hc)⟩
/-- a part is changed, or another one put in its place -/
theorem ChX.put (le : Le F F') : ∀ {its : List Ch} {vs : List V} {j : Nat} {ch ch' : Ch} {w w' : V}, ChX K F H its vs → its[j]? = some ch → vs[j]? = some w →
    (∀ c ∈ footA H its vs, c ∉ footC H ch w → H' c = H c ∧ F' c = none) → ChR K F' H' ch' w' → (∀ c ∈ footC H' ch' w', c ∈ footC H ch w ∨ c ∉ footA H its vs) →
    ChX K F' H' (its.set j ch') (vs.set j w') ∧ ∀ c ∈ footA H' (its.set j ch') (vs.set j w'), c ∈ footA H its vs ∨ c ∈ footC H' ch' w'
  | [], _, _, _, _, _, _, _, e, _, _, _, _ => by simp at e
  | _ :: its, [], _, _, _, _, _, _, _, e, _, _, _ => by simp at e
  | x :: its, v :: vs, 0, ch, ch', w, w', h, e1, e2, ag, r, nw => by
    simp at e1 e2; subst e1 e2
    obtain ⟨h1, h2, h3⟩ := chX_cons.mp h
    rw [footA_cons] at ag nw
    obtain ⟨s1, s2⟩ := ChX.stay le its vs h3 fun c hc => ag c (List.mem_append_right _ hc) fun z => h2 c z hc
    refine ⟨chX_cons.mpr ⟨r, fun c hc => ?_, s1⟩, fun c hc => ?_⟩
    · rw [s2]
      rcases nw c hc with z | z
      · exact h2 c z
      · exact fun q => z (List.mem_append_right _ q)
    · simp only [List.set_cons_zero] at hc
      rw [footA_cons, s2, List.mem_append] at hc
      rw [footA_cons, List.mem_append]
      rcases hc with z | z
      · exact .inr z
      · exact .inl (.inr z)
  | x :: its, v :: vs, j + 1, ch, ch', w, w', h, e1, e2, ag, r, nw => by
    obtain ⟨h1, h2, h3⟩ := chX_cons.mp h
    have e1' : its[j]? = some ch := by simpa using e1
    have e2' : vs[j]? = some w := by simpa using e2
    rw [footA_cons] at ag nw
    obtain ⟨w2, g1, _, g3⟩ := ChX.get h3 e1'
    rw [e2'] at g1; cases g1
    obtain ⟨s1, s2⟩ := h1.stay le fun c hc => ag c (List.mem_append_left _ hc) fun z => h2 c hc (g3 c z)
    obtain ⟨i1, i2⟩ := ChX.put le (j := j) h3 e1' e2' (fun c hc n => ag c (List.mem_append_right _ hc) n) r fun c hc => (nw c hc).imp id fun z q => z (List.mem_append_right _ q)
    refine ⟨chX_cons.mpr ⟨s1, fun c hc q => ?_, i1⟩, fun c hc => ?_⟩
    · rw [s2] at hc
      rcases i2 c q with z | z
      · exact h2 c hc z
      · rcases nw c z with y | y
        · exact h2 c hc (g3 c y)
        · exact y (List.mem_append_left _ hc)
    · simp only [List.set_cons_succ] at hc
      rw [footA_cons, s2, List.mem_append] at hc
      rw [footA_cons, List.mem_append]
      rcases hc with z | z
      · exact .inl (.inl z)
      · rcases i2 c z with y | y
        · exact .inl (.inr y)
        · exact .inr y
/-- one more part -/
theorem ChX.snoc : ∀ {its : List Ch} {vs : List V} {ch : Ch} {w : V}, ChX K F H its vs → ChR K F H ch w → (∀ c ∈ footC H ch w, c ∉ footA H its vs) →
    ChX K F H (its ++ [ch]) (vs ++ [w]) ∧ ∀ c ∈ footA H (its ++ [ch]) (vs ++ [w]), c ∈ footA H its vs ∨ c ∈ footC H ch w
  | [], [], ch, w, _, r, _ => ⟨chX_cons.mpr ⟨r, fun c _ q => (by simp [footA] at q), by simp only [ChX]⟩, fun c hc => by
      have : c ∈ footA H (ch :: []) (w :: []) := hc
      rw [footA_cons, List.mem_append] at this
      rcases this with z | z
      · exact .inr z
      · simp [footA] at z⟩
  | [], _ :: _, _, _, h, _, _ => by simp only [ChX] at h
  | x :: its, [], _, _, h, _, _ => by cases x <;> simp only [ChX] at h
  | x :: its, v :: vs, ch, w, h, r, nw => by
    obtain ⟨h1, h2, h3⟩ := chX_cons.mp h
    rw [footA_cons] at nw
    obtain ⟨i1, i2⟩ := ChX.snoc h3 r fun c hc q => nw c hc (List.mem_append_right _ q)
    refine ⟨chX_cons.mpr ⟨h1, fun c hc q => ?_, i1⟩, fun c hc => ?_⟩
    · rcases i2 c q with z | z
      · exact h2 c hc z
      · exact nw c z (List.mem_append_left _ hc)
    · have hc : c ∈ footA H (x :: (its ++ [ch])) (v :: (vs ++ [w])) := hc
      rw [footA_cons, List.mem_append] at hc
      rw [footA_cons, List.mem_append]
      rcases hc with z | z
      · exact .inl (.inl z)
      · rcases i2 c z with y | y
        · exact .inl (.inr y)
        · exact .inr y
/-- frozen parts own nothing -/
theorem footA_fz : ∀ {ds : List PyData} {vs : List V}, footA H (ds.map Ch.fz) vs = []
  | [], vs => by cases vs <;> simp [footA]
  | d :: ds, [] => by simp [footA]
  | d :: ds, v :: vs => by
    rw [List.map_cons, footA_cons, footA_fz]
    rfl
theorem chX_fz : ∀ {ds : List PyData} {vs : List V}, RpA K F vs ds → ChX K F H (ds.map Ch.fz) vs
  | _, _, .nil => by simp only [List.map_nil, ChX]
  | _, _, .cons h r => chX_cons.mpr ⟨h, fun c hc => by simp [footC] at hc, chX_fz r⟩
end
/-! ### attributes by their names -/
theorem look_idx {β : Type} {f : Str} : ∀ {fs : List (Str × β)}, fs.lookup f = (fs.map (·.2))[(fs.map (·.1)).idxOf f]?
  | [] => rfl
  | (g, v) :: fs => by
    rw [List.lookup_cons, List.map_cons, List.map_cons, List.idxOf_cons]
    cases hg : f == g with
    | true =>
      have : (g == f) = true := by rw [beq_iff_eq] at hg ⊢; exact hg.symm
      simp only [this, cond_true, List.getElem?_cons_zero]
    | false =>
      have : (g == f) = false := by rw [beq_eq_false_iff_ne] at hg ⊢; exact fun z => hg z.symm
      simp only [this, cond_false, List.getElem?_cons_succ]
      exact look_idx
theorem put_in {f : Str} {v : V} : ∀ {fs : List (Str × V)}, (fs.map (·.1)).contains f = true → (putF f v fs).map (·.1) = fs.map (·.1) ∧ (putF f v fs).map (·.2) = (fs.map (·.2)).set ((fs.map (·.1)).idxOf f) v
  | [], h => by simp at h
  | (g, x) :: fs, h => by
    unfold putF
    by_cases hg : g = f
    · subst hg
      simp [List.idxOf_cons]
    · rw [if_neg hg]
      have hb : (g == f) = false := by rw [beq_eq_false_iff_ne]; exact hg
      have hb2 : (f == g) = false := by rw [beq_eq_false_iff_ne]; exact fun z => hg z.symm
      rw [List.map_cons, List.contains_cons, hb2, Bool.false_or] at h
      obtain ⟨i1, i2⟩ := put_in (v := v) h
      refine ⟨by rw [List.map_cons, List.map_cons, i1], ?_⟩
      rw [List.map_cons, List.map_cons, List.map_cons, List.idxOf_cons, hb, i2]
      rfl
theorem put_out {f : Str} {v : V} : ∀ {fs : List (Str × V)}, (fs.map (·.1)).contains f = false → putF f v fs = fs ++ [(f, v)]
  | [], _ => rfl
  | (g, x) :: fs, h => by
    unfold putF
    rw [List.map_cons, List.contains_cons, Bool.or_eq_false_iff] at h
    have hg : g ≠ f := fun z => by
      have := h.1
      rw [beq_eq_false_iff_ne] at this
      exact this z.symm
    rw [if_neg hg, put_out h.2]
    rfl
theorem idx_lt {f : Str} {ns : List Str} (h : ns.contains f = true) : ns.idxOf f < ns.length := List.idxOf_lt_length_iff.mpr (by simpa using h)
/-! ### an attribute as an operand -/
def attrC (c0 : Addr) (f : Str) : Mu → Option Ch
  | .tre (.obj C ns) its => if C = c0 then its[ns.idxOf f]? else none
  | _ => none
def Ch.o : Ch → Option O
  | .fz d => some (.fz d)
  | .mu m => (O.mu true m).ok
def rdA (ρ : Rho) (i : Nat) (c0 : Addr) (f : Str) : Option O := match ρ[i]? with
  | some (some (.mu _ m)) => (attrC c0 f m).bind Ch.o
  | _ => none
section
variable {K : PySem.W.Frag} {S : Sta} {σ : L2.St} {ρ : Rho} {F F' H H' : Hp} {i : Nat} {c0 : Addr} {f : Str}
theorem attrC_at {a : Addr} {u : HO} {m : Mu} {ch : Ch} (r : MuT K F H m a u) (e : attrC c0 f m = some ch) :
    ∃ dx fs ns its w, u = .ins c0 dx fs ∧ m = .tre (.obj c0 ns) its ∧ fs.map (·.1) = ns ∧ its[ns.idxOf f]? = some ch ∧ fs.lookup f = some w ∧ (fs.map (·.2))[ns.idxOf f]? = some w ∧ ChR K F H ch w ∧
      ChX K F H its (fs.map (·.2)) ∧ a ∉ footA H its (fs.map (·.2)) ∧ ∀ c ∈ footC H ch w, c ∈ footA H its (fs.map (·.2)) := by
  cases m with
  | lst ds => cases e
  | dct es => cases e
  | obj C fs => cases e
  | tre n its =>
    cases n with
    | lst => cases e
    | dct ks => cases e
    | obj C ns =>
      have e2 : (if C = c0 then its[ns.idxOf f]? else none) = some ch := e
      clear e
      split at e2
      · rename_i hc
        subst hc
        obtain ⟨vs, ⟨dx, fs, rfl, h1, h2⟩, r2, r3⟩ := r
        subst h2
        obtain ⟨w, g1, g2, g3⟩ := r3.get e2
        exact ⟨dx, fs, ns, its, w, rfl, rfl, h1, e2, by rw [look_idx, h1]; exact g1, g1, g2, r3, r2, g3⟩
      · cases e2
theorem Ch.o_slot {ch : Ch} {w : V} {o : O} (r : ChR K F H ch w) (e : ch.o = some o) : SlotR K F H w o := by
  cases ch with
  | fz d => cases e; exact r
  | mu m =>
    have e : (O.mu true m).ok = some o := e
    have q := O.ok_eq e
    subst q
    exact O.ok_slot e r
theorem rdA_at {o : O} (h : Hd K σ ρ F H) (e : rdA ρ i c0 f = some o) : ∃ a dx fs w, σ[i]? = some (some (.ref a)) ∧ H a = some (.ins c0 dx fs) ∧ fs.lookup f = some w ∧ SlotR K F H w o := by
  unfold rdA at e
  split at e
  · rename_i b m hi
    obtain ⟨ch, e1, e2⟩ := Option.bind_eq_some_iff.mp e
    obtain ⟨v, hv, a, u, rfl, hu, hf, r⟩ := h.at_ i _ hi
    obtain ⟨dx, fs, ns, its, w, rfl, rfl, h1, h2, h3, _, h4, _⟩ := attrC_at r e1
    exact ⟨a, dx, fs, w, hv, hu, h3, Ch.o_slot h4 e2⟩
  · cases e
/-! ### a part of a slot is changed -/
/-- the part f of the instance at slot i is changed in place -/
theorem Post.attr (p : Post K S σ ρ F H) {b : Bool} {a dx : Addr} {fs : List (Str × V)} {ns : List Str} {its : List Ch} {ch ch' : Ch} {w : V} (hi : ρ[i]? = some (some (.mu b (.tre (.obj c0 ns) its)))) (hσ : σ[i]? = some (some (.ref a)))
    (hH : H a = some (.ins c0 dx fs)) (hns : fs.map (·.1) = ns) (hj : its[ns.idxOf f]? = some ch) (hw : (fs.map (·.2))[ns.idxOf f]? = some w) (lf : Le F F') (le : Le F' H') (k : ∀ c o, H c = some o → c ∉ footC H ch w → H' c = some o ∧ (F c = none → F' c = none))
    (r : ChR K F' H' ch' w) (nw : ∀ c ∈ footC H' ch' w, c ∈ footC H ch w ∨ (New S c ∧ ¬ Own σ ρ H c)) : Post K S σ (ρ.set i (some (.mu b (.tre (.obj c0 ns) (its.set (ns.idxOf f) ch'))))) F' H' := by
  have sl := p.hd.slot hi hσ
  obtain ⟨a', o', e, ho, hf, vs, hn, r2, r3⟩ := sl
  cases e
  rw [hH] at ho; cases ho
  obtain ⟨dx', fs', e', h1, h2⟩ := hn
  cases e'
  subst h2
  obtain ⟨w', g1, g2, g3⟩ := r3.get hj
  rw [hw] at g1; cases g1
  have ft : foot H (.tre (.obj c0 ns) its) (.ref a) = a :: footA H its (fs.map (·.2)) := foot_tre hH ⟨dx, fs, rfl, h1, rfl⟩
  have ownA : ∀ c ∈ footA H its (fs.map (·.2)), Own σ ρ H c := fun c hc => ⟨i, b, _, _, hi, hσ, by rw [ft]; exact List.mem_cons_of_mem _ hc⟩
  have ownR : Own σ ρ H a := ⟨i, b, _, _, hi, hσ, by rw [ft]; exact List.mem_cons_self⟩
  have nra : a ∉ footC H ch w := fun z => r2 (g3 a z)
  obtain ⟨ka, kf⟩ := k a _ hH nra
  obtain ⟨q1, q2⟩ := ChX.put lf (H' := H') (ch' := ch') (w' := w) r3 hj hw (fun c hc n => by
    obtain ⟨⟨u, hu⟩, hfc⟩ := ChX.at_ its _ r3 c hc
    obtain ⟨k1, k2⟩ := k c u hu n
    exact ⟨k1.trans hu.symm, k2 hfc⟩) r fun c hc => (nw c hc).imp id fun z q => z.2 (ownA c q)
  have hset : (fs.map (·.2)).set (ns.idxOf f) w = fs.map (·.2) := by
    apply List.ext_getElem?
    intro n
    by_cases hn : n = ns.idxOf f
    · subst hn
      rw [List.getElem?_set_self (List.getElem?_eq_some_iff.mp hw).1, hw]
    · rw [List.getElem?_set_ne (Ne.symm hn)]
  rw [hset] at q1 q2
  have ft' : foot H' (.tre (.obj c0 ns) (its.set (ns.idxOf f) ch')) (.ref a) = a :: footA H' (its.set (ns.idxOf f) ch') (fs.map (·.2)) := foot_tre ka ⟨dx, fs, rfl, h1, rfl⟩
  refine p.wr hi hσ lf le (fun c o hc n => k c o hc fun z => n (by rw [ft]; exact List.mem_cons_of_mem _ (g3 c z))) ⟨a, _, rfl, ka, kf hf, fs.map (·.2), ⟨dx, fs, rfl, h1, rfl⟩, fun z => ?_, q1⟩ fun c hc => ?_
  · rcases q2 a z with y | y
    · exact r2 y
    · rcases nw a y with x | x
      · exact nra x
      · exact x.2 ownR
  · rw [ft'] at hc
    rw [ft]
    rcases List.mem_cons.mp hc with z | z
    · exact .inl (z ▸ List.mem_cons_self)
    · rcases q2 c z with y | y
      · exact .inl (List.mem_cons_of_mem _ y)
      · rcases nw c y with x | x
        · exact .inl (List.mem_cons_of_mem _ (g3 c x))
        · exact .inr x
end
end Vs

/-! Vs: attributes that are owned: read, tested, changed, put. -/
namespace Vs
open PySem PySem.Spec L2
/-! ### readings that change nothing -/
def fzo : Option O → Option O
  | some (.fz d) => some (.fz d)
  | _ => none
def frzOnly (ρ : Rho) : Rho := ρ.map fzo
section
variable {K : PySem.W.Frag} {S : Sta} {σ : L2.St} {ρ : Rho} {F F' H H' : Hp}
theorem frzOnly_get {i : Nat} {o : O} (h : (frzOnly ρ)[i]? = some (some o)) : ∃ d, o = .fz d ∧ ρ[i]? = some (some (.fz d)) := by
  unfold frzOnly at h
  rw [List.getElem?_map] at h
  obtain ⟨y, e1, e2⟩ := Option.map_eq_some_iff.mp h
  cases y with
  | none => cases e2
  | some y =>
    cases y with
    | fz d => cases e2; exact ⟨d, rfl, e1⟩
    | mu b m => cases e2
theorem fonly_own {c : Addr} : ¬ Own σ (frzOnly ρ) H c := fun ⟨_, _, _, _, e, _, _⟩ => by
  obtain ⟨d, z, _⟩ := frzOnly_get e
  cases z
theorem Hd.fonly (h : Hd K σ ρ F H) : Hd K σ (frzOnly ρ) F H :=
  ⟨h.le, by unfold frzOnly; rw [List.length_map]; exact h.len, fun i o e => by
    obtain ⟨d, rfl, e1⟩ := frzOnly_get e
    exact h.at_ i _ e1, fun i j b m b' m' v v' c e => by
    obtain ⟨d, z, _⟩ := frzOnly_get e
    cases z⟩
/-- the heap grows -/
structure Gr (K : PySem.W.Frag) (σ : L2.St) (ρ : Rho) (F H F' H' : Hp) : Prop where
  le : Le F F'
  hd : Hd K σ ρ F' H'
  kp : ∀ b o, H b = some o → H' b = some o ∧ (F b = none → F' b = none)
theorem Gr.refl (h : Hd K σ ρ F H) : Gr K σ ρ F H F H := ⟨Le.refl F, h, fun _ _ e => ⟨e, id⟩⟩
theorem Gr.trans {F2 H2 : Hp} (a : Gr K σ ρ F H F' H') (b : Gr K σ ρ F' H' F2 H2) : Gr K σ ρ F H F2 H2 :=
  ⟨a.le.trans b.le, b.hd, fun c o e => ⟨(b.kp c o (a.kp c o e).1).1, fun f => (b.kp c o (a.kp c o e).1).2 ((a.kp c o e).2 f)⟩⟩
theorem Gr.post (p : Post K S σ ρ F H) (g : Gr K σ ρ F H F' H') : Post K S σ ρ F' H' :=
  ⟨g.hd, p.le.trans g.le, fun b o e n => (g.kp b o (p.keep b o e n)).1, fun b o e n f => (g.kp b o (p.keep b o e n)).2 (p.nofz b o e n f), fun c h => p.own c (p.hd.kept g.le g.hd.le g.kp c h), p.bor⟩
theorem SlotR.grow {v : V} {o : O} (h : SlotR K F H v o) (g : Gr K σ ρ F H F' H') : SlotR K F' H' v o := by
  cases o with
  | fz d => exact Rp.mono g.le h
  | mu b m =>
    obtain ⟨a, u, rfl, hu, hf, r⟩ := h
    exact ⟨a, u, rfl, (g.kp a u hu).1, (g.kp a u hu).2 hf, r.mono g.le⟩
end
def tR (K : PySem.W.Frag) (f : Rho → Option PyData) : TE := fun σ H Q => ∃ ρ F d, Hd K σ ρ F H ∧ f ρ = some d ∧ ∀ v F' H', Gr K σ ρ F H F' H' → Rp K F' v d → Q v H'
abbrev EvR (X : Cx) (e : Expr) (f : Rho → Option PyData) : Prop := PE X e (tR X.K f)
def oD : O → Option PyData
  | .fz d => some d
  | .mu false m => m.fr
  | .mu true _ => none
def roF (f : M Rf) (ρ : Rho) : Option PyData := match f (frzOnly ρ) with
  | some (.ok (.o o) _) => oD o
  | some (.ok (.s i) ρ') => (match ρ'[i]? with | some (some (.fz d)) => some d | _ => none)
  | _ => none
section
variable {K : PySem.W.Frag} {S : Sta} {σ : L2.St} {ρ ρ' : Rho} {F F' H H' : Hp}
theorem gr_post (hd : Hd K σ ρ F H) (p : Post K ⟨σ, frzOnly ρ, F, H⟩ σ ρ' F' H') : Gr K σ ρ F H F' H' := by
  have kp : ∀ b o, H b = some o → H' b = some o ∧ (F b = none → F' b = none) := fun b o eb => ⟨p.keep b o eb fonly_own, p.nofz b o eb fonly_own⟩
  refine ⟨p.le, (hd.move p.le p.hd.le fun c hc => ?_).1, kp⟩
  obtain ⟨⟨u, hu⟩, hf⟩ := hd.ownAt hc
  exact ⟨(kp c u hu).1.trans hu.symm, (kp c u hu).2 hf⟩
/-- a result of what owns nothing, as data -/
theorem gr_res {v : V} {o : O} {d : PyData} (hd : Hd K σ ρ F H) (p : Post K ⟨σ, frzOnly ρ, F, H⟩ σ ρ' F' H') (r : RfR K ⟨σ, frzOnly ρ, F, H⟩ σ ρ' F' H' v (.o o)) (e : oD o = some d) : ∃ F2, Gr K σ ρ F H F2 H' ∧ Rp K F2 v d := by
  cases o with
  | fz d' => cases e; exact ⟨F', gr_post hd p, r⟩
  | mu b m =>
    cases b with
    | true => cases e
    | false =>
      have e : m.fr = some d := e
      obtain ⟨_, ⟨a, u, rfl, hu, hf, mr⟩, n⟩ := r
      have rR := mr.fr e
      cases Mu.fr_view e
      obtain ⟨p2, r2⟩ := p.frzT hu hf rR (n a foot_root).1 (n a foot_root).2
      exact ⟨_, gr_post hd p2, r2⟩
end
def atR (i : Nat) (c0 : Addr) (f : Str) (ρ : Rho) : Option PyData := match rdA ρ i c0 f with
  | some (.fz d) => some d
  | _ => none
section
variable {X : Cx} {W : WX} {e : Expr} {f : M Rf} {pos np apos : Pos} {x fn : Str} {i : Nat} {c0 : Addr}
theorem er_of (h : EvO X W0 e f) : EvR X e (roF f) := peI h fun σ H Q ⟨ρ, F, d, hd, e, q⟩ => by
  refine ⟨frzOnly ρ, F, Post.refl hd.fonly, ?_⟩
  unfold roF at e
  split at e
  · rename_i o ρ' ef
    refine ⟨_, ef, fun v F' H' p r => ?_⟩
    obtain ⟨F2, g, r2⟩ := gr_res hd p r e
    exact q v F2 H' g r2
  · rename_i j ρ' ef
    split at e
    · rename_i d' ej
      cases e
      refine ⟨_, ef, fun v F' H' p r => q v F' H' (gr_post hd p) ?_⟩
      exact p.hd.slot ej r
    · cases e
  · cases e
theorem er_att (c : L2.Cls X.K c0) (n : NoAttr X.K c0 fn) (ho : PE X (.Name x np) (tVar i)) (hb : attributeBase (.Name x np) fn X.env (eval (.Name x np) X.env) = eval (.Name x np) X.env := by rfl) : EvR X (.Attribute (.Name x np) fn pos) (atR i c0 fn) :=
  peI (pe_fld ho hb) fun σ H Q ⟨ρ, F, d, hd, e, q⟩ => by
    unfold atR at e
    split at e
    · rename_i d' ed
      cases e
      obtain ⟨a, dx, fs, w, h1, h2, h3, h4⟩ := rdA_at hd ed
      exact ⟨_, h1, a, c0, dx, fs, w, rfl, h2, c, n, h3, q w F H (Gr.refl hd) h4⟩
    · cases e
end
/-! ### an attribute as an operand -/
def eAt (h : O → Option O) (i : Nat) (c0 : Addr) (f : Str) : M Rf := fun ρ => match rdA ρ i c0 f with
  | some a => (match h a with | some o => some (.ok (.o o) ρ) | none => none)
  | none => none
def at2 (h : O → O → Option O) (i : Nat) (c0 : Addr) (f : Str) (x : Rf) : M Rf := fun ρ => match rdO ρ x, rdA ρ i c0 f with
  | some a, some b => (match h a b with | some o => some (.ok (.o o) ρ) | none => none)
  | _, _ => none
def at2B (h : O → O → Option O) (i : Nat) (c0 : Addr) (f : Str) (x : Rf) : M Bool := fun ρ => match rdO ρ x, rdA ρ i c0 f with
  | some a, some b => (match h a b with | some (.fz (.bool c)) => some (.ok c ρ) | _ => none)
  | _, _ => none
/-- x op self.f -/
def eAtR (h : O → O → Option O) (g : M Rf) (i : Nat) (c0 : Addr) (f : Str) : M Rf := g.bind (at2 h i c0 f)
def tAtR (h : O → O → Option O) (g : M Rf) (i : Nat) (c0 : Addr) (f : Str) : M Bool := g.bind (at2B h i c0 f)
/-- self.f op x, x a reading that changes nothing -/
def eAtL (h : O → O → Option O) (i : Nat) (c0 : Addr) (f : Str) (k : Rho → Option PyData) : M Rf := fun ρ => match rdA ρ i c0 f, k ρ with
  | some a, some d => (match h a (.fz d) with | some o => some (.ok (.o o) ρ) | none => none)
  | _, _ => none
section
variable {X : Cx} {W : WX} {e : Expr} {g : M Rf} {k : Rho → Option PyData} {pos np apos p : Pos} {x y fn : Str} {i : Nat} {c0 : Addr} {id T : String}
theorem r_atB {r : List V → Hp → VK → Prop} {h : List O → Option O} (hc : CallR X (.builtin id) r) (s : SnN X.K r h) (hg : Gl X x) (hm : X.mg x = none) (hv : bootBuiltins x = some (.builtin id)) (c : L2.Cls X.K c0) (n : NoAttr X.K c0 fn) (ho : PE X (.Name y np) (tVar i))
    (hn : x ≠ "__name__" := by decide) (hdb : (x == ("__debug__" : Str)) = false := by decide) (hb : attributeBase (.Name y np) fn X.env (eval (.Name y np) X.env) = eval (.Name y np) X.env := by rfl)
    (he : starEach [.Attribute (.Name y np) fn apos] X.env = (false, eval (.Attribute (.Name y np) fn apos) X.env) :: starEach [] X.env := by rfl) (hpl : (backTo pos (starEach [] X.env)).any (·.1) = false := by rfl) :
    EvO X W (.Call (.Name x p) [.Attribute (.Name y np) fn apos] [] pos) (eAt (fun o => h [o]) i c0 fn) :=
  peI (pe_callB hc hg hm hv (pa_cons (pe_fld ho hb) pa_nil he) hn hdb he hpl) fun σ H Q ⟨ρ, F, p, o, e, q⟩ => by
    unfold eAt at e
    split at e
    · rename_i a ea
      obtain ⟨ad, dx, fs, w, h1, h2, h3, h4⟩ := rdA_at p.hd ea
      split at e
      · cases e
        rename_i o eo
        exact ⟨_, h1, ad, c0, dx, fs, w, rfl, h2, c, n, h3, s ⟨σ, ρ, F, H⟩ ρ F H [w] [a] o Q p (.cons h4 .nil) eo q⟩
      · cases e
    · cases e
theorem r_atTy {r : List V → Hp → VK → Prop} {h : List O → Option O} (hc : CallR X (.type T) r) (s : SnN X.K r h) (hg : Gl X x) (hm : X.mg x = none) (hv : bootBuiltins x = some (.type T)) (c : L2.Cls X.K c0) (n : NoAttr X.K c0 fn) (ho : PE X (.Name y np) (tVar i))
    (hn : x ≠ "__name__" := by decide) (hdb : (x == ("__debug__" : Str)) = false := by decide) (hb : attributeBase (.Name y np) fn X.env (eval (.Name y np) X.env) = eval (.Name y np) X.env := by rfl)
    (he : starEach [.Attribute (.Name y np) fn apos] X.env = (false, eval (.Attribute (.Name y np) fn apos) X.env) :: starEach [] X.env := by rfl) (hpl : (backTo pos (starEach [] X.env)).any (·.1) = false := by rfl) :
    EvO X W (.Call (.Name x p) [.Attribute (.Name y np) fn apos] [] pos) (eAt (fun o => h [o]) i c0 fn) :=
  peI (pe_callTy hc hg hm hv (pa_cons (pe_fld ho hb) pa_nil he) hn hdb he hpl) fun σ H Q ⟨ρ, F, p, o, e, q⟩ => by
    unfold eAt at e
    split at e
    · rename_i a ea
      obtain ⟨ad, dx, fs, w, h1, h2, h3, h4⟩ := rdA_at p.hd ea
      split at e
      · cases e
        rename_i o eo
        exact ⟨_, h1, ad, c0, dx, fs, w, rfl, h2, c, n, h3, s ⟨σ, ρ, F, H⟩ ρ F H [w] [a] o Q p (.cons h4 .nil) eo q⟩
      · cases e
    · cases e
theorem r_cmpAR {op : CmpOp} {r : R2} {h : O → O → Option O} (ho : OpR X (compareOp op) r) (s : Sn2 X.K r h) (ha : EvO X W e g) (c : L2.Cls X.K c0) (n : NoAttr X.K c0 fn) (hx : PE X (.Name y np) (tVar i)) (hm : behindInMarks op (.Attribute (.Name y np) fn apos) = false)
    (hb : attributeBase (.Name y np) fn X.env (eval (.Name y np) X.env) = eval (.Name y np) X.env := by rfl) : EvO X W (.Compare e [op] [.Attribute (.Name y np) fn apos] pos) (eAtR h g i c0 fn) :=
  peI (pe_cmpR ho ha (pe_fld hx hb) hm) fun σ H Q ⟨ρ, F, r⟩ => ⟨ρ, F, r.bind.mono fun v H1 ⟨y, ρ1, F1, ry, p, p2, o, e2, q⟩ => by
    unfold at2 at e2
    split at e2
    · rename_i a b ea eb
      obtain ⟨ad, dx, fs, w, h1, h2, h3, h4⟩ := rdA_at p2.hd eb
      split at e2
      · cases e2
        rename_i o eo
        exact ⟨_, h1, ad, c0, dx, fs, w, rfl, h2, c, n, h3, s ⟨σ, ρ, F, H⟩ ρ1 F1 H1 v w a b o Q p2 (slot_of p2.hd ry ea) h4 eo q⟩
      · cases e2
    · cases e2⟩
theorem r_cmpTAR {op : CmpOp} {r : R2} {h : O → O → Option O} (ho : OpR X (compareOp op) r) (s : Sn2 X.K r h) (ha : EvO X W e g) (c : L2.Cls X.K c0) (n : NoAttr X.K c0 fn) (hx : PE X (.Name y np) (tVar i)) (hm : behindInMarks op (.Attribute (.Name y np) fn apos) = false)
    (hb : attributeBase (.Name y np) fn X.env (eval (.Name y np) X.env) = eval (.Name y np) X.env := by rfl) : EvT X W (.Compare e [op] [.Attribute (.Name y np) fn apos] pos) (tAtR h g i c0 fn) :=
  ptI (pt_cmpR ho ha (pe_fld hx hb) hm) fun σ H Q ⟨ρ, F, r⟩ => ⟨ρ, F, r.bind.mono fun v H1 ⟨y, ρ1, F1, ry, p, p2, o, e2, q⟩ => by
    unfold at2B at e2
    split at e2
    · rename_i a b ea eb
      obtain ⟨ad, dx, fs, w, h1, h2, h3, h4⟩ := rdA_at p2.hd eb
      split at e2
      · cases e2
        rename_i k eo
        refine ⟨_, h1, ad, c0, dx, fs, w, rfl, h2, c, n, h3, s ⟨σ, ρ, F, H⟩ ρ1 F1 H1 v w a b _ _ p2 (slot_of p2.hd ry ea) h4 eo fun v' F' H' p' r' => ?_⟩
        cases (show Rp X.K F' v' (.bool k) from r')
        exact ⟨k, rfl, q k F' H' p' rfl⟩
      · cases e2
    · cases e2⟩
theorem eAtL_read {r : R2} {h : O → O → Option O} {tb : TE} (s : Sn2 X.K r h) (c : L2.Cls X.K c0) (n : NoAttr X.K c0 fn) {σ : L2.St} {H : Hp} {Q : VK} (t : tG X.K W (RfR X.K) (eAtL h i c0 fn k) σ H Q) :
    tOp r (tFld X.K (tVar i) fn) (tR X.K k) σ H Q := by
  obtain ⟨ρ, F, p, o, e, q⟩ := t
  unfold eAtL at e
  split at e
  · rename_i a d ea ed
    obtain ⟨ad, dx, fs, w, h1, h2, h3, h4⟩ := rdA_at p.hd ea
    split at e
    · cases e
      rename_i o eo
      refine ⟨_, h1, ad, c0, dx, fs, w, rfl, h2, c, n, h3, ρ, F, d, p.hd, ed, fun v F' H' g rv => ?_⟩
      exact s ⟨σ, ρ, F, H⟩ ρ F' H' w v a (.fz d) o Q (g.post p) (h4.grow g) rv eo q
    · cases e
  · cases e
theorem r_ixAL {e2 : Expr} {r : R2} {h : O → O → Option O} (ho : IxR X r) (s : Sn2 X.K r h) (c : L2.Cls X.K c0) (n : NoAttr X.K c0 fn) (hx : PE X (.Name y np) (tVar i)) (hk : EvR X e k) (hs : PlainIx e)
    (hb : attributeBase (.Name y np) fn X.env (eval (.Name y np) X.env) = eval (.Name y np) X.env := by rfl) : EvO X W (.Subscript (.Attribute (.Name y np) fn apos) e pos) (eAtL h i c0 fn k) :=
  peI (pe_ix ho (pe_fld hx hb) hk hs) fun σ H Q t => eAtL_read (tb := fun _ _ _ => True) s c n t
theorem r_cmpAL {op : CmpOp} {r : R2} {h : O → O → Option O} (ho : OpR X (compareOp op) r) (s : Sn2 X.K r h) (c : L2.Cls X.K c0) (n : NoAttr X.K c0 fn) (hx : PE X (.Name y np) (tVar i)) (hk : EvR X e k) (hm : behindInMarks op e = false)
    (hb : attributeBase (.Name y np) fn X.env (eval (.Name y np) X.env) = eval (.Name y np) X.env := by rfl) : EvO X W (.Compare (.Attribute (.Name y np) fn apos) [op] [e] pos) (eAtL h i c0 fn k) :=
  peI (pe_cmpR ho (pe_fld hx hb) hk hm) fun σ H Q t => eAtL_read (tb := fun _ _ _ => True) s c n t
end
/-! ### an attribute read as data: what is owned is frozen -/
def getA (i : Nat) (c0 : Addr) (f : Str) : M Rf := fun ρ => match ρ[i]? with
  | some (some (.mu b (.tre (.obj C ns) its))) => if C = c0 then (match its[ns.idxOf f]? with
    | some (.fz d) => some (.ok (.o (.fz d)) ρ)
    | some (.mu m) => (match m.fr with | some d => some (.ok (.o (.fz d)) (ρ.set i (some (.mu b (.tre (.obj C ns) (its.set (ns.idxOf f) (.fz d))))))) | none => none)
    | none => none) else none
  | some (some (.mu _ (.obj C fs))) => if C = c0 then (match fs.lookup f with | some d => some (.ok (.o (.fz d)) ρ) | none => none) else none
  | _ => none
section
variable {X : Cx} {W : WX} {pos np apos : Pos} {x fn : Str} {i : Nat} {c0 : Addr}
theorem tre_at {K : PySem.W.Frag} {σ : L2.St} {ρ : Rho} {F H : Hp} {i : Nat} {b : Bool} {C : Addr} {ns : List Str} {its : List Ch} (h : Hd K σ ρ F H) (hi : ρ[i]? = some (some (.mu b (.tre (.obj C ns) its)))) :
    ∃ a dx fs, σ[i]? = some (some (.ref a)) ∧ H a = some (.ins C dx fs) ∧ F a = none ∧ fs.map (·.1) = ns ∧ ChX K F H its (fs.map (·.2)) ∧ a ∉ footA H its (fs.map (·.2)) := by
  obtain ⟨v, hv, a, u, rfl, hu, hf, vs, ⟨dx, fs, rfl, h1, h2⟩, r2, r3⟩ := h.at_ i _ hi
  subst h2
  exact ⟨a, dx, fs, hv, hu, hf, h1, r3, r2⟩
theorem r_get (c : L2.Cls X.K c0) (n : NoAttr X.K c0 fn) (ho : PE X (.Name x np) (tVar i)) (hb : attributeBase (.Name x np) fn X.env (eval (.Name x np) X.env) = eval (.Name x np) X.env := by rfl) : EvO X W (.Attribute (.Name x np) fn pos) (getA i c0 fn) :=
  peI (pe_fld ho hb) fun σ H Q ⟨ρ, F, p, o, e, q⟩ => by
    unfold getA at e
    split at e
    · rename_i b C ns its hi
      split at e
      · rename_i hc
        subst hc
        obtain ⟨a, dx, fs, h1, h2, h3, h4, h5, h6⟩ := tre_at p.hd hi
        split at e
        · rename_i d hd
          cases e
          obtain ⟨w, g1, g2, g3⟩ := h5.get hd
          exact ⟨_, h1, a, C, dx, fs, w, rfl, h2, c, n, by rw [look_idx, h4]; exact g1, q w F H p g2⟩
        · rename_i m hm
          split at e
          · rename_i d hd
            cases e
            obtain ⟨w, g1, g2, g3⟩ := h5.get hm
            have g2' := g2
            obtain ⟨a', u, rfl, hu, hf, r⟩ := g2
            have rR := r.fr hd
            cases Mu.fr_view hd
            have rr : Rp X.K (upd F a' u) (.ref a') m.view := (rR.mono (Le.ofNew hf)).view upd_same (Le.refl _)
            refine ⟨_, h1, a, C, dx, fs, .ref a', rfl, h2, c, n, by rw [look_idx, h4]; exact g1, q _ (upd F a' u) H ?_ rr⟩
            refine p.attr (ch' := .fz m.view) hi h1 h2 h4 hm g1 (Le.ofNew hf) (p.hd.le.frz hu fun _ _ => Mu.noFrz rR) (fun c o hc nc => ⟨hc, fun fc => ?_⟩) rr fun c hc => by cases hc
            have : c ≠ a' := by rintro rfl; exact nc foot_root
            rw [upd_ne this]; exact fc
          · cases e
        · cases e
      · cases e
    · rename_i b C fs hi
      split at e
      · rename_i hc
        subst hc
        split at e
        · rename_i d hd
          cases e
          obtain ⟨v, hv, a, u, rfl, hu, hf, dx, vs, rfl, h1, r1⟩ := p.hd.at_ i _ hi
          obtain ⟨w, hw, rw'⟩ := fld_get h1 r1 hd
          exact ⟨_, hv, a, C, dx, vs, w, rfl, hu, c, n, hw, q w F H p rw'⟩
        · cases e
      · cases e
    · cases e
end
/-! ### self.f = e -/
def toT : Mu → Mu
  | .obj C fs => .tre (.obj C (fs.map (·.1))) ((fs.map (·.2)).map Ch.fz)
  | m => m
def putC (c0 : Addr) (f : Str) (ch : Ch) : Mu → Option Mu
  | .tre (.obj C ns) its => if C = c0 ∧ ns.length < 999 then (if ns.contains f = true then some (.tre (.obj C ns) (its.set (ns.idxOf f) ch)) else some (.tre (.obj C (ns ++ [f])) (its ++ [ch]))) else none
  | _ => none
def chO : O → Option Ch
  | .fz d => some (.fz d)
  | .mu false m => some (.mu m)
  | .mu true _ => none
def setA (i : Nat) (c0 : Addr) (f : Str) (o : O) : M Fl := fun ρ => match ρ[i]?, chO o with
  | some (some (.mu b m)), some ch => (match putC c0 f ch (toT m) with | some m' => some (.ok .nx (ρ.set i (some (.mu b m')))) | none => none)
  | _, _ => none
def sSetA (i : Nat) (c0 : Addr) (f : Str) (g : M Rf) : M Fl := g.bind fun r => (Vs.own r).bind (setA i c0 f)
section
variable {K : PySem.W.Frag} {S : Sta} {σ : L2.St} {ρ : Rho} {F F' H H' : Hp} {i : Nat} {c0 : Addr} {f : Str}
theorem toT_at {a : Addr} {u : HO} {m : Mu} (r : MuT K F H m a u) (ha : H a = some u) : MuT K F H (toT m) a u ∧ foot H (toT m) (.ref a) = foot H m (.ref a) := by
  cases m with
  | obj C fs =>
    obtain ⟨dx, vs, rfl, h1, r1⟩ := r
    refine ⟨⟨vs.map (·.2), ⟨dx, vs, rfl, h1, rfl⟩, by rw [footA_fz]; simp, chX_fz r1⟩, ?_⟩
    show a :: footA H _ _ = _
    rw [footA_fz]
    rfl
  | lst ds => exact ⟨r, rfl⟩
  | dct es => exact ⟨r, rfl⟩
  | tre n its => exact ⟨r, rfl⟩
theorem chO_r {v : V} {o : O} {ch : Ch} (r : RfR K S σ ρ F H v (.o o)) (e : chO o = some ch) : ChR K F H ch v ∧ ∀ c ∈ footC H ch v, New S c ∧ ¬ Own σ ρ H c := by
  cases o with
  | fz d => cases e; exact ⟨r, fun c hc => by cases hc⟩
  | mu b m =>
    cases b with
    | true => cases e
    | false => cases e; exact ⟨r.2.1, r.2.2⟩
theorem Post.setA (p : Post K S σ ρ F H) {b : Bool} {m m' : Mu} {v : V} {o : O} {ch : Ch} (hi : ρ[i]? = some (some (.mu b m))) (r : RfR K S σ ρ F H v (.o o)) (ec : chO o = some ch) (ep : putC c0 f ch (toT m) = some m') :
    ∃ a dx fs, σ[i]? = some (some (.ref a)) ∧ H a = some (.ins c0 dx fs) ∧ fs.length < 1000 ∧ Post K S σ (ρ.set i (some (.mu b m'))) F (upd H a (.ins c0 dx (putF f v fs))) := by
  obtain ⟨w, hσ, a, u, rfl, hu, hf, mr⟩ := p.hd.at_ i _ hi
  obtain ⟨mr2, ft⟩ := toT_at mr hu
  obtain ⟨rc, nc⟩ := chO_r r ec
  unfold putC at ep
  split at ep
  · rename_i C ns its em
    rw [em] at mr2 ft
    split at ep
    · rename_i hc
      obtain ⟨rfl, hl⟩ := hc
      obtain ⟨vs, ⟨dx, fs, rfl, h1, h2⟩, r2, r3⟩ := mr2
      subst h2
      have hns : fs.length = ns.length := by rw [← h1, List.length_map]
      refine ⟨a, dx, fs, hσ, hu, by omega, ?_⟩
      have ft2 : foot H m (.ref a) = a :: footA H its (fs.map (·.2)) := by rw [← ft]; exact foot_tre (n := .obj C ns) hu ⟨dx, fs, rfl, h1, rfl⟩
      have own_ : ∀ c, c ∈ foot H m (.ref a) → Own σ ρ H c := fun c hc => ⟨i, b, m, _, hi, hσ, hc⟩
      have ownA : ∀ c ∈ footA H its (fs.map (·.2)), Own σ ρ H c := fun c hc => own_ c (by rw [ft2]; exact List.mem_cons_of_mem _ hc)
      have ownR : Own σ ρ H a := own_ a foot_root
      have ca : ∀ c ∈ footC H ch v, c ≠ a := by rintro c hc rfl; exact (nc c hc).2 ownR
      obtain ⟨s1, s2⟩ := rc.stay (F' := F) (H' := upd H a (.ins C dx (putF f v fs))) (Le.refl F) fun c hc => ⟨upd_ne (ca c hc), (rc.at_ hc).2⟩
      have keepA : ∀ c ∈ footA H its (fs.map (·.2)), upd H a (.ins C dx (putF f v fs)) c = H c ∧ F c = none := fun c hc => by
        have : c ≠ a := by rintro rfl; exact r2 hc
        exact ⟨upd_ne this, (ChX.at_ its _ r3 c hc).2⟩
      have fin : ∀ (ns' : List Str) (its' : List Ch), (putF f v fs).map (·.1) = ns' → ChX K F (upd H a (.ins C dx (putF f v fs))) its' ((putF f v fs).map (·.2)) →
          (∀ c ∈ footA (upd H a (.ins C dx (putF f v fs))) its' ((putF f v fs).map (·.2)), c ∈ footA H its (fs.map (·.2)) ∨ c ∈ footC H ch v) → Post K S σ (ρ.set i (some (.mu b (.tre (.obj C ns') its')))) F (upd H a (.ins C dx (putF f v fs))) := by
        intro ns' its' e1 e2 e3
        refine p.wr hi hσ (Le.refl F) (p.hd.le.updH hf) (fun c o hc n => ⟨?_, id⟩) ⟨a, _, rfl, upd_same, hf, _, ⟨dx, _, rfl, e1, rfl⟩, fun z => ?_, e2⟩ fun c hc => ?_
        · have : c ≠ a := by rintro rfl; exact n foot_root
          rw [upd_ne this]; exact hc
        · rcases e3 a z with y | y
          · exact r2 y
          · exact ca a y rfl
        · rw [foot_tre (n := .obj C ns') upd_same ⟨dx, _, rfl, e1, rfl⟩] at hc
          rw [ft2]
          rcases List.mem_cons.mp hc with z | z
          · exact .inl (z ▸ List.mem_cons_self)
          · rcases e3 c z with y | y
            · exact .inl (List.mem_cons_of_mem _ y)
            · exact .inr (nc c y)
      split at ep
      · rename_i hin
        cases ep
        have hin' : (fs.map (·.1)).contains f = true := by rw [h1]; exact hin
        obtain ⟨e1, e2⟩ := put_in (v := v) hin'
        have hlt : ns.idxOf f < its.length := by
          rw [r3.len, List.length_map, hns]
          exact idx_lt hin
        obtain ⟨w0, g1, g2, g3⟩ := r3.get (List.getElem?_eq_getElem hlt)
        obtain ⟨q1, q2⟩ := ChX.put (Le.refl F) (H' := upd H a (.ins C dx (putF f v fs))) (ch' := ch) (w' := v) r3 (List.getElem?_eq_getElem hlt) g1 (fun c hc _ => keepA c hc) s1 fun c hc => .inr fun z => by
          rw [s2] at hc
          exact (nc c hc).2 (ownA c z)
        refine fin _ _ (e1.trans h1) ?_ ?_
        · rw [e2, h1]; exact q1
        · rw [e2, h1]
          intro c hc
          rcases q2 c hc with z | z
          · exact .inl z
          · rw [s2] at z; exact .inr z
      · rename_i hin
        cases ep
        have hin' : (fs.map (·.1)).contains f = false := by rw [h1]; simpa using hin
        have e0 := put_out (v := v) hin'
        obtain ⟨t1, t2⟩ := ChX.stay (Le.refl F) its _ r3 keepA
        obtain ⟨q1, q2⟩ := ChX.snoc t1 s1 fun c hc z => by
          rw [s2] at hc
          rw [t2] at z
          exact (nc c hc).2 (ownA c z)
        refine fin _ _ ?_ ?_ ?_
        · rw [e0, List.map_append, h1]; rfl
        · rw [show (putF f v fs).map (·.2) = fs.map (·.2) ++ [v] by rw [e0, List.map_append]; rfl]
          exact q1
        · rw [show (putF f v fs).map (·.2) = fs.map (·.2) ++ [v] by rw [e0, List.map_append]; rfl]
          intro c hc
          rcases q2 c hc with z | z
          · rw [t2] at z; exact .inl z
          · rw [s2] at z; exact .inr z
    · cases ep
  · cases ep
end
section
variable {X : Cx} {W : WX} {e : Expr} {g : M Rf} {pos pos' np apos : Pos} {x fn : Str} {i : Nat} {c0 : Addr}
theorem r_setA (c : L2.Cls X.K c0) (n : NoAttr X.K c0 fn) (ho : PE X (.Name x apos) (tVar i)) (he : EvO X W e g) (hs : swapsWith e (some (.Attribute (.Name x apos) fn pos')) pos.line X.env = pure false := by rfl) :
    EvS X W (.Assign [.Attribute (.Name x apos) fn pos'] e pos) (sSetA i c0 fn g) := psI (ps_fld ho he hs) fun D σ H ⟨ρ, F, r⟩ =>
  tG_mono (tG_S r) fun v H1 ⟨y, ρ1, F1, ry, r1⟩ => by
    obtain ⟨o, ρ2, F2, r2, p2, o2, e2, q2⟩ := own_run r1 rfl ry
    unfold setA at e2
    split at e2
    · rename_i b m ch hi ec
      split at e2
      · rename_i m' em
        cases e2
        obtain ⟨a, dx, fs, h1, h2, h3, h4⟩ := p2.setA hi r2 ec em
        exact ⟨_, h1, a, c0, dx, fs, rfl, h2, c, n, h3, q2 σ F2 _ h4⟩
      · cases e2
    · cases e2
end
end Vs

/-! Vs: self.f.append(e), self.f[k] = e, self.f op= e. -/
namespace Vs
open PySem PySem.Spec L2
/-- the part f of the instance at slot i is changed by h -/
def upA (i : Nat) (c0 : Addr) (f : Str) (h : Mu → Option Mu) : M Fl := fun ρ => match ρ[i]? with
  | some (some (.mu b (.tre (.obj C ns) its))) => if C = c0 then (match its[ns.idxOf f]? with
    | some (.mu m) => (match h m with | some m' => some (.ok .nx (ρ.set i (some (.mu b (.tre (.obj C ns) (its.set (ns.idxOf f) (.mu m'))))))) | none => none)
    | _ => none) else none
  | _ => none
def sAppA (i : Nat) (c0 : Addr) (f : Str) (k : Rho → Option PyData) : M Fl := fun ρ => match k ρ with
  | some d => upA i c0 f (muApp d) ρ
  | none => none
def sStA (i : Nat) (c0 : Addr) (f : Str) (g : M Rf) (k : Rho → Option PyData) : M Fl := (g.bind frz).bind fun d => fun ρ => match k ρ with
  | some kd => upA i c0 f (muSet kd d) ρ
  | none => none
theorem upA_run {K : PySem.W.Frag} {W : WX} {S : Sta} {i : Nat} {c0 : Addr} {f : Str} {h : Mu → Option Mu} {σ : L2.St} {ρ : Rho} {F H : Hp} {D : Ends} (r : RunS K W S (upA i c0 f h) σ ρ F H D) :
    ∃ a dx fs a' u m m', σ[i]? = some (some (.ref a)) ∧ H a = some (.ins c0 dx fs) ∧ fs.lookup f = some (.ref a') ∧ H a' = some u ∧ MuT K F H m a' u ∧ h m = some m' ∧ ∀ F' H' u', Gr K σ ρ F H F' H' → MuX K F' u' m' → D.nx σ (upd H' a' u') := by
  obtain ⟨p, o, e, q⟩ := r
  unfold upA at e
  split at e
  · rename_i b C ns its hi
    split at e
    · rename_i hc
      subst hc
      split at e
      · rename_i m hm
        split at e
        · cases e
          rename_i m' hm'
          obtain ⟨a, dx, fs, h1, h2, h3, h4, h5, h6⟩ := tre_at p.hd hi
          obtain ⟨w, g1, g2, g3⟩ := h5.get hm
          obtain ⟨a', u, rfl, hu, hf, mr⟩ := g2
          refine ⟨a, dx, fs, a', u, m, m', h1, h2, by rw [look_idx, h4]; exact g1, hu, mr, hm', fun F' H' u' g mr' => q σ F' _ ?_⟩
          have ch := g.kp a' u hu
          refine p.attr (ch' := .mu m') hi h1 h2 h4 hm g1 g.le (g.hd.le.updH (ch.2 hf)) (fun c o hc nc => ?_) ⟨a', u', rfl, upd_same, ch.2 hf, mr'.t⟩ fun c hc => .inl ?_
          · have ne : c ≠ a' := by rintro rfl; exact nc foot_root
            exact ⟨by rw [upd_ne ne]; exact (g.kp c o hc).1, (g.kp c o hc).2⟩
          · have hc : c ∈ foot (upd H' a' u') m' (.ref a') := hc
            rw [foot_leaf mr'.leaf] at hc
            rw [List.mem_singleton.mp hc]
            exact foot_root
        · cases e
      · cases e
    · cases e
  · cases e
section
variable {X : Cx} {W : WX} {e ix : Expr} {g : M Rf} {k : Rho → Option PyData} {pos pos' np apos bpos cpos : Pos} {x fn : Str} {i : Nat} {c0 : Addr}
theorem r_appA (c : L2.Cls X.K c0) (n : NoAttr X.K c0 fn) (ho : PE X (.Name x np) (tVar i)) (ha : EvR X e k) (hb : attributeBase (.Name x np) fn X.env (eval (.Name x np) X.env) = eval (.Name x np) X.env := by rfl)
    (hbase : attributeBase (.Attribute (.Name x np) fn bpos) "append" X.env (eval (.Attribute (.Name x np) fn bpos) X.env) = eval (.Attribute (.Name x np) fn bpos) X.env := by rfl)
    (hfew : ((backTo cpos (starEach (e :: []) X.env)).all (fun x => !x.1) && (backToKw cpos (keywordEach [] X.env)).all (fun x => x.1.isSome)
      && decide ((e :: ([] : List Expr)).length + ([] : List Keyword).length + (if ([] : List Keyword).isEmpty then 0 else 1) < 30)) = true := by rfl)
    (hline : (apos.endLine == cpos.line) = true := by rfl) (hs : starEach (e :: []) X.env = (false, eval e X.env) :: starEach [] X.env := by rfl) (hplain : (backTo cpos (starEach [] X.env)).any (·.1) = false := by rfl)
    (hsw : swapsWith (.Call (.Attribute (.Attribute (.Name x np) fn bpos) "append" apos) [e] [] cpos) none pos.line X.env = pure false := by rfl) :
    EvS X W (.Expr (.Call (.Attribute (.Attribute (.Name x np) fn bpos) "append" apos) [e] [] cpos) pos) (sAppA i c0 fn k) :=
  psI (ps_expr (pe_bm PySem.F.plainAttrs_list PySem.F.slot_list_append PySem.F.type_list_append mt_append (pe_fld ho hb) (pa_cons ha pa_nil hs) hbase hfew hline hs hplain) hsw) fun D σ H ⟨ρ, F, p, o, e, q⟩ => by
    unfold sAppA at e
    split at e
    · rename_i d hd
      obtain ⟨a, dx, fs, a', u, m, m', h1, h2, h3, h4, h5, h6, h7⟩ := upA_run ⟨p, o, e, q⟩
      unfold muApp at h6
      split at h6
      · split at h6
        · cases h6
          rename_i hl
          obtain ⟨ys, rfl, ry⟩ := h5
          refine ⟨_, h1, a, c0, dx, fs, _, rfl, h2, c, n, h3, .inl ⟨rfl, ys, .of h4⟩, ρ, F, d, p.hd, hd, fun v F' H' gr rv => ?_⟩
          exact ⟨a', ys, v, rfl, rfl, (gr.kp _ _ h4).1, by rw [slen, ry.len]; exact hl, h7 F' H' _ gr ⟨_, rfl, (RpA.mono gr.le ry).app (.cons rv .nil)⟩⟩
        · cases h6
      · cases h6
    · cases e
theorem r_stA (hu : X.A.units + 200 < cLine) (c : L2.Cls X.K c0) (n : NoAttr X.K c0 fn) (ho : PE X (.Name x np) (tVar i)) (hi : EvR X ix k) (he : EvO X W e g) (hb : attributeBase (.Name x np) fn X.env (eval (.Name x np) X.env) = eval (.Name x np) X.env := by rfl)
    (ha : ∀ v, assign (.Subscript (.Attribute (.Name x np) fn bpos) ix pos') X.env v = (do
      let ov ← holding [v] (eval (.Attribute (.Name x np) fn bpos) X.env)
      let iv ← holding [v, ov] (eval ix X.env)
      standAt pos'
      holding [v, ov, iv] (setItem ov iv v)
      release [v, ov, iv] []) := by intro _; rfl)
    (hs : swapsWithSole [.Subscript (.Attribute (.Name x np) fn bpos) ix pos'] e pos.line X.env = pure false := by rfl) (hw : swappedStores [.Subscript (.Attribute (.Name x np) fn bpos) ix pos'] e X.env = pure none := by rfl)
    (h1 : (assignEach [.Subscript (.Attribute (.Name x np) fn bpos) ix pos'] X.env).map (·.2) = [assign (.Subscript (.Attribute (.Name x np) fn bpos) ix pos') X.env] := by rfl) :
    EvS X W (.Assign [.Subscript (.Attribute (.Name x np) fn bpos) ix pos'] e pos) (sStA i c0 fn g k) :=
  psI (ps_asg (ev_frz he) (pg_sub (pe_fld ho hb) hi (PSet.or set_list (set_dct hu)) ha) hs hw h1) fun D σ H ⟨ρ, F, r⟩ =>
    tG_mono (tG_S r) fun v H1 ⟨d, ρ1, F1, rd, p1, o1, e1, q1⟩ => by
      have rd : Rp X.K F1 v d := rd
      split at e1
      · rename_i kd hk
        obtain ⟨a, dx, fs, a', u, m, m', h1, h2, h3, h4, h5, h6, h7⟩ := upA_run ⟨p1, o1, e1, q1⟩
        refine ⟨_, h1, a, c0, dx, fs, _, rfl, h2, c, n, h3, ρ1, F1, kd, p1.hd, hk, fun kv F' H' gr rk => ?_⟩
        have rd' : Rp X.K F' v d := Rp.mono gr.le rd
        have h4' := (gr.kp _ _ h4).1
        cases m with
        | lst ds =>
          obtain ⟨xs, rfl, rx⟩ := h5
          have rx := RpA.mono gr.le rx
          cases rk with
          | int n =>
            obtain ⟨j, hj, rfl⟩ := Option.map_eq_some_iff.mp (show (ixN ds.length n).map _ = some m' from h6)
            exact .inl ⟨a', xs, n, j, rfl, rfl, h4', by rw [rx.len]; exact hj, h7 F' H' _ gr ⟨_, rfl, rx.set rd' j⟩⟩
          | _ => cases h6
        | dct es =>
          obtain ⟨kvs, rfl, rx⟩ := h5
          have rx := RpK.mono gr.le rx
          unfold muSet at h6
          simp only at h6
          split at h6
          · rename_i hl
            cases rk with
            | int n =>
              cases h6
              exact .inr ⟨a', _, rfl, .inl ⟨kvs, .inl n, h4', rfl, by rw [slen, rx.len]; exact hl, rfl⟩, h7 F' H' _ gr ⟨_, rfl, rx.put rd'⟩⟩
            | str n =>
              cases h6
              exact .inr ⟨a', _, rfl, .inl ⟨kvs, .inr n, h4', rfl, by rw [slen, rx.len]; exact hl, rfl⟩, h7 F' H' _ gr ⟨_, rfl, rx.put rd'⟩⟩
            | _ => cases h6
          · cases h6
        | obj C fs => cases h6
        | tre n its => cases h6
      · cases e1
end
/-- self.f op= e, of whole numbers -/
def augK2 (i : Nat) (c0 : Addr) (f : Str) (h : Int → Int → Int) (a : Int) (y : Rf) : M Fl := fun ρ => match rdO ρ y with
  | some b => (match b.view with | .int j => setA i c0 f (.fz (.int (h a j))) ρ | _ => none)
  | none => none
def sAugA (i : Nat) (c0 : Addr) (f : Str) (h : Int → Int → Int) (g : M Rf) : M Fl := fun ρ => match rdA ρ i c0 f with
  | some (.fz (.int a)) => (g.bind (augK2 i c0 f h a)) ρ
  | _ => none
section
variable {X : Cx} {W : WX} {e : Expr} {g : M Rf} {pos pos' apos : Pos} {x fn : Str} {i : Nat} {c0 : Addr}
theorem r_augA {op : Operator} {h : Int → Int → Int} (c : L2.Cls X.K c0) (n : NoAttr X.K c0 fn) (hx : PE X (.Name x apos) (tVar i)) (he : EvO X W e g) (ho : PIp X op (ipI h)) :
    EvS X W (.AugAssign (.Attribute (.Name x apos) fn pos') op e pos) (sAugA i c0 fn h g) := psI (ps_fldaug hx he (fun pins s σ H x y u v Q I rx ry q => ho pins s σ H x y u v Q I rx ry q)) fun D σ H ⟨ρ, F, p, o, e, q⟩ => by
  unfold sAugA at e
  split at e
  · rename_i a ea
    obtain ⟨ad, dx, fs, w, h1, h2, h3, h4⟩ := rdA_at p.hd ea
    cases (show Rp X.K F w (.int a) from h4)
    refine ⟨_, h1, ad, c0, dx, fs, _, rfl, h2, c, n, h3, tG_mono (tG_S (R := RfR X.K) ⟨p, o, e, q⟩) fun y H1 ⟨yr, ρ1, F1, ry, p1, o1, e1, q1⟩ => ?_⟩
    unfold augK2 at e1
    split at e1
    · rename_i bb eb
      have sl := slot_of p1.hd ry eb
      split at e1
      · rename_i j ej
        refine ⟨a, j, rfl, sl.int ej, ?_⟩
        unfold setA at e1
        split at e1
        · rename_i b m ch hi ec
          split at e1
          · rename_i m' em
            cases e1
            obtain ⟨a2, dx2, fs2, g1, g2, g3, g4⟩ := p1.setA (v := .int (h a j)) (o := .fz (.int (h a j))) hi (.int _) ec em
            rw [h1] at g1
            cases g1
            exact ⟨dx2, fs2, g2, g3, q1 σ F1 _ g4⟩
          · cases e1
        · cases e1
      · cases e1
    · cases e1
  · cases e
end
end Vs

/-! Vs: what an except suite does with its error. -/
namespace Vs
open PySem PySem.Spec L2
/-- slot i holds the error at a, its attributes stand -/
structure RH (K : PySem.W.Frag) (i : Nat) (a : Addr) (fs : Option (List (Str × PyData))) (dd : Option Addr) (σ : L2.St) (ρ : Rho) (F H : Hp) : Prop where
  at_ : σ[i]? = some (some (.ref a))
  hd : Hd K σ ρ F H
  er : ErD K F H fs dd
section
variable {K : PySem.W.Frag} {i : Nat} {a : Addr} {fs : Option (List (Str × PyData))} {dd : Option Addr} {S : Sta} {σ : L2.St} {ρ : Rho} {F F' H H' : Hp}
theorem ErD.grow (h : ErD K F H fs dd) (le : Le F F') (kp : ∀ b o, H b = some o → H' b = some o) : ErD K F' H' fs dd := by
  cases fs with
  | none => exact h
  | some l =>
    obtain ⟨d, vs, e, hH, h1, h2⟩ := h
    exact ⟨d, vs, e, kp d _ hH, h1, RpA.mono le h2⟩
theorem RH.grow (h : RH K i a fs dd σ ρ F H) (g : Gr K σ ρ F H F' H') : RH K i a fs dd σ ρ F' H' := ⟨h.at_, g.hd, h.er.grow g.le fun b o e => (g.kp b o e).1⟩
theorem Gr.newF (h : Hd K σ ρ F H) {p : Addr} {o : HO} (n : H p = none) : Gr K σ ρ F H (upd F p o) (upd H p o) := by
  have P := (Post.refl h).newF (o := o) n
  exact ⟨P.le, P.hd, fun b u e => ⟨by rw [upd_ne (ne_of_none e n)]; exact e, fun f => by rw [upd_ne (ne_of_none e n)]; exact f⟩⟩
end
def tH (K : PySem.W.Frag) (i : Nat) (a : Addr) (fs : Option (List (Str × PyData))) (dd : Option Addr) (f : Rho → Option PyData) : TE := fun σ H Q => ∃ ρ F d, RH K i a fs dd σ ρ F H ∧ f ρ = some d ∧ ∀ v F' H', Gr K σ ρ F H F' H' → Rp K F' v d → Q v H'
def tHA (K : PySem.W.Frag) (i : Nat) (a : Addr) (fs : Option (List (Str × PyData))) (dd : Option Addr) (f : Rho → Option (List PyData)) : TA := fun σ H Q => ∃ ρ F ds, RH K i a fs dd σ ρ F H ∧ f ρ = some ds ∧ ∀ vs F' H', Gr K σ ρ F H F' H' → RpA K F' vs ds → Q vs H'
def tHT (K : PySem.W.Frag) (i : Nat) (a : Addr) (fs : Option (List (Str × PyData))) (dd : Option Addr) (f : Rho → Option Bool) : TT := fun σ H Q => ∃ ρ F b, RH K i a fs dd σ ρ F H ∧ f ρ = some b ∧ ∀ F' H', Gr K σ ρ F H F' H' → Q b H'
abbrev EvH (X : Cx) (i : Nat) (a : Addr) (fs : Option (List (Str × PyData))) (dd : Option Addr) (e : Expr) (f : Rho → Option PyData) : Prop := PE X e (tH X.K i a fs dd f)
abbrev EvHA (X : Cx) (i : Nat) (a : Addr) (fs : Option (List (Str × PyData))) (dd : Option Addr) (e : List Expr) (f : Rho → Option (List PyData)) : Prop := PA X e (tHA X.K i a fs dd f)
abbrev EvHT (X : Cx) (i : Nat) (a : Addr) (fs : Option (List (Str × PyData))) (dd : Option Addr) (e : Expr) (f : Rho → Option Bool) : Prop := PT X e (tHT X.K i a fs dd f)
abbrev EvHW (X : Cx) (i : Nat) (a : Addr) (fs : Option (List (Str × PyData))) (dd : Option Addr) (e : Expr) (f : Rho → Option Bool) : Prop := PW X e (tHT X.K i a fs dd f)
def dB : PyData → Option Bool
  | .bool b => some b
  | _ => none
def hC (d : PyData) : Rho → Option PyData := fun _ => some d
def hNot (f : Rho → Option PyData) : Rho → Option PyData := fun ρ => ((f ρ).bind dB).map fun b => .bool (!b)
def hAnd (f g : Rho → Option PyData) : Rho → Option PyData := fun ρ => ((f ρ).bind dB).bind fun b => if b = true then g ρ else some (.bool false)
def hOr (f g : Rho → Option PyData) : Rho → Option PyData := fun ρ => ((f ρ).bind dB).bind fun b => if b = true then some (.bool true) else g ρ
def h2 (h : O → O → Option O) (f g : Rho → Option PyData) : Rho → Option PyData := fun ρ => (f ρ).bind fun x => (g ρ).bind fun y => (h (.fz x) (.fz y)).bind oD
def h2B (h : O → O → Option O) (f g : Rho → Option PyData) : Rho → Option Bool := fun ρ => (f ρ).bind fun x => (g ρ).bind fun y => ((h (.fz x) (.fz y)).bind oD).bind dB
def hN (h : List O → Option O) (l : Rho → Option (List PyData)) : Rho → Option PyData := fun ρ => (l ρ).bind fun ds => (h (ds.map O.fz)).bind oD
def hNil : Rho → Option (List PyData) := fun _ => some []
def hCons (f : Rho → Option PyData) (g : Rho → Option (List PyData)) : Rho → Option (List PyData) := fun ρ => (f ρ).bind fun d => (g ρ).map fun ds => d :: ds
def hTup (l : Rho → Option (List PyData)) : Rho → Option PyData := fun ρ => (l ρ).bind fun ds => if ds.length ≤ 16777216 then some (.tuple ds) else none
def hLst (l : Rho → Option (List PyData)) : Rho → Option PyData := fun ρ => (l ρ).bind fun ds => if ds.length ≤ 16777216 then some (.list ds) else none
def hTr (f : Rho → Option PyData) : Rho → Option Bool := fun ρ => (f ρ).bind dB
def hTNot (f : Rho → Option Bool) : Rho → Option Bool := fun ρ => (f ρ).map fun b => !b
def hTAnd (f g : Rho → Option Bool) : Rho → Option Bool := fun ρ => (f ρ).bind fun b => if b = true then g ρ else some false
def hTOr (f g : Rho → Option Bool) : Rho → Option Bool := fun ρ => (f ρ).bind fun b => if b = true then some true else g ρ
theorem dB_rp {K : PySem.W.Frag} {F : Hp} {v : V} {d : PyData} {b : Bool} (r : Rp K F v d) (e : dB d = some b) : v = .bl b := by
  cases d <;> cases e
  cases r
  rfl
section
variable {X : Cx} {W : WX} {i : Nat} {a : Addr} {fs : Option (List (Str × PyData))} {dd : Option Addr} {e e1 e2 : Expr} {es : List Expr} {f g : Rho → Option PyData} {l : Rho → Option (List PyData)} {t u : Rho → Option Bool} {pos p p2 p3 : Pos} {x : Str} {id T : String}
theorem eh_of {m : M Rf} (h : EvO X W0 e m) : EvH X i a fs dd e (roF m) := peI (er_of h) fun σ H Q ⟨ρ, F, d, rh, hf, q⟩ => ⟨ρ, F, d, rh.hd, hf, q⟩
theorem eh_not (h : EvH X i a fs dd e f) : EvH X i a fs dd (.UnaryOp .Not e pos) (hNot f) := peI (pe_not h) fun σ H Q ⟨ρ, F, d, rh, hf, q⟩ => by
  obtain ⟨b, e1, rfl⟩ := Option.map_eq_some_iff.mp hf
  obtain ⟨d', e2, e3⟩ := Option.bind_eq_some_iff.mp e1
  exact ⟨ρ, F, d', rh, e2, fun v F' H' gr r => ⟨b, dB_rp r e3, q _ F' H' gr (.bl _)⟩⟩
theorem eh_one {op : BoolOp} (h : EvH X i a fs dd e f) : EvH X i a fs dd (.BoolOp op [e] pos) f := pe_one h
theorem eh_and (h : EvH X i a fs dd e f) (k : EvH X i a fs dd (.BoolOp .And (e2 :: es) pos) g) : EvH X i a fs dd (.BoolOp .And (e :: e2 :: es) pos) (hAnd f g) := peI (pe_and h k) fun σ H Q ⟨ρ, F, d, rh, hf, q⟩ => by
  obtain ⟨b, e1, e4⟩ := Option.bind_eq_some_iff.mp hf
  obtain ⟨d', e2, e3⟩ := Option.bind_eq_some_iff.mp e1
  refine ⟨ρ, F, d', rh, e2, fun v F' H' gr r => ⟨b, dB_rp r e3, ?_⟩⟩
  cases b with
  | true => exact ⟨ρ, F', d, rh.grow gr, e4, fun v2 F2 H2 g2 r2 => q v2 F2 H2 (gr.trans g2) r2⟩
  | false =>
    cases e4
    exact q _ F' H' gr (.bl _)
theorem eh_or (h : EvH X i a fs dd e f) (k : EvH X i a fs dd (.BoolOp .Or (e2 :: es) pos) g) : EvH X i a fs dd (.BoolOp .Or (e :: e2 :: es) pos) (hOr f g) := peI (pe_or h k) fun σ H Q ⟨ρ, F, d, rh, hf, q⟩ => by
  obtain ⟨b, e1, e4⟩ := Option.bind_eq_some_iff.mp hf
  obtain ⟨d', e2, e3⟩ := Option.bind_eq_some_iff.mp e1
  refine ⟨ρ, F, d', rh, e2, fun v F' H' gr r => ⟨b, dB_rp r e3, ?_⟩⟩
  cases b with
  | false => exact ⟨ρ, F', d, rh.grow gr, e4, fun v2 F2 H2 g2 r2 => q v2 F2 H2 (gr.trans g2) r2⟩
  | true =>
    cases e4
    exact q _ F' H' gr (.bl _)
/-- two readings, then a rule on their values -/
theorem h2_read {r : R2} {h : O → O → Option O} (s : Sn2 X.K r h) {σ : L2.St} {H : Hp} {Q : VK} (t : tH X.K i a fs dd (h2 h f g) σ H Q) : tOp r (tH X.K i a fs dd f) (tH X.K i a fs dd g) σ H Q := by
  obtain ⟨ρ, F, d, rh, hf, q⟩ := t
  obtain ⟨x, e1, e2⟩ := Option.bind_eq_some_iff.mp hf
  obtain ⟨y, e3, e4⟩ := Option.bind_eq_some_iff.mp e2
  obtain ⟨o, e5, e6⟩ := Option.bind_eq_some_iff.mp e4
  refine ⟨ρ, F, x, rh, e1, fun v F' H' gr rv => ⟨ρ, F', y, rh.grow gr, e3, fun w F2 H2 g2 rw' => ?_⟩⟩
  refine s ⟨σ, frzOnly ρ, F2, H2⟩ (frzOnly ρ) F2 H2 v w (.fz x) (.fz y) o Q (Post.refl g2.hd.fonly) (Rp.mono g2.le rv) rw' e5 fun v' F3 H3 p r => ?_
  obtain ⟨F4, g4, r4⟩ := gr_res g2.hd p r e6
  exact q v' F4 H3 ((gr.trans g2).trans g4) r4
theorem eh_op {op : Operator} {r : R2} {h : O → O → Option O} (ho : OpR X (binaryOp op) r) (s : Sn2 X.K r h) (ha : EvH X i a fs dd e1 f) (hb : EvH X i a fs dd e2 g) : EvH X i a fs dd (.BinOp e1 op e2 pos) (h2 h f g) :=
  peI (pe_op ho ha hb) fun σ H Q t => h2_read s t
theorem eh_cmp {op : CmpOp} {r : R2} {h : O → O → Option O} (ho : OpR X (compareOp op) r) (s : Sn2 X.K r h) (ha : EvH X i a fs dd e1 f) (hb : EvH X i a fs dd e2 g) (hm : behindInMarks op e2 = false) : EvH X i a fs dd (.Compare e1 [op] [e2] pos) (h2 h f g) :=
  peI (pe_cmpR ho ha hb hm) fun σ H Q t => h2_read s t
theorem eh_ix {r : R2} {h : O → O → Option O} (ho : IxR X r) (s : Sn2 X.K r h) (ha : EvH X i a fs dd e1 f) (hb : EvH X i a fs dd e2 g) (hs : PlainIx e2) : EvH X i a fs dd (.Subscript e1 e2 pos) (h2 h f g) :=
  peI (pe_ix ho ha hb hs) fun σ H Q t => h2_read s t
theorem eh_nil : EvHA X i a fs dd [] hNil := paI pa_nil fun σ H Q ⟨ρ, F, ds, rh, hf, q⟩ => by
  cases hf
  exact q [] F H (Gr.refl rh.hd) .nil
theorem eh_cons (ha : EvH X i a fs dd e f) (hr : EvHA X i a fs dd es l) (hs : starEach (e :: es) X.env = (false, eval e X.env) :: starEach es X.env := by rfl) : EvHA X i a fs dd (e :: es) (hCons f l) := paI (pa_cons ha hr hs) fun σ H Q ⟨ρ, F, ds, rh, hf, q⟩ => by
  obtain ⟨d, e1, e2⟩ := Option.bind_eq_some_iff.mp hf
  obtain ⟨ds', e3, rfl⟩ := Option.map_eq_some_iff.mp e2
  exact ⟨ρ, F, d, rh, e1, fun v F' H' gr rv => ⟨ρ, F', ds', rh.grow gr, e3, fun vs F2 H2 g2 rvs => q (v :: vs) F2 H2 (gr.trans g2) (.cons (Rp.mono g2.le rv) rvs)⟩⟩
theorem eh_tup {k : Nat} (h : EvHA X i a fs dd es l) : EvH X i a fs dd (.Tuple es k pos) (hTup l) := peI (pe_tup h) fun σ H Q ⟨ρ, F, d, rh, hf, q⟩ => by
  obtain ⟨ds, e1, e2⟩ := Option.bind_eq_some_iff.mp hf
  split at e2
  · cases e2
    rename_i hl
    refine ⟨ρ, F, ds, rh, e1, fun vs F' H' gr rv => ⟨by rw [slen, rv.len]; exact hl, fun p hp => ?_⟩⟩
    have hg := Gr.newF (o := .tup vs) gr.hd hp
    exact q _ _ _ (gr.trans hg) (.tup (.of upd_same) (RpA.mono hg.le rv))
  · cases e2
theorem eh_lst (h : EvHA X i a fs dd es l) : EvH X i a fs dd (.List es pos) (hLst l) := peI (pe_lst h) fun σ H Q ⟨ρ, F, d, rh, hf, q⟩ => by
  obtain ⟨ds, e1, e2⟩ := Option.bind_eq_some_iff.mp hf
  split at e2
  · cases e2
    rename_i hl
    refine ⟨ρ, F, ds, rh, e1, fun vs F' H' gr rv => ⟨by rw [slen, rv.len]; exact hl, fun p hp => ?_⟩⟩
    have hg := Gr.newF (o := .lst vs) gr.hd hp
    exact q _ _ _ (gr.trans hg) (.lst (.of upd_same) (RpA.mono hg.le rv))
  · cases e2
theorem rpa_slots {K : PySem.W.Frag} {F H : Hp} : ∀ {vs : List V} {ds : List PyData}, RpA K F vs ds → Paired (SlotR K F H) vs (ds.map O.fz)
  | _, _, .nil => .nil
  | _, _, .cons h r => .cons h (rpa_slots r)
theorem hN_read {r : List V → Hp → VK → Prop} {h : List O → Option O} (s : SnN X.K r h) {σ : L2.St} {H : Hp} {Q : VK} (t : tH X.K i a fs dd (hN h l) σ H Q) : tHA X.K i a fs dd l σ H (fun xs H1 => r xs H1 Q) := by
  obtain ⟨ρ, F, d, rh, hf, q⟩ := t
  obtain ⟨ds, e1, e2⟩ := Option.bind_eq_some_iff.mp hf
  obtain ⟨o, e5, e6⟩ := Option.bind_eq_some_iff.mp e2
  refine ⟨ρ, F, ds, rh, e1, fun vs F2 H2 g2 rvs => ?_⟩
  refine s ⟨σ, frzOnly ρ, F2, H2⟩ (frzOnly ρ) F2 H2 vs (ds.map O.fz) o Q (Post.refl g2.hd.fonly) (rpa_slots rvs) e5 fun v' F3 H3 p r => ?_
  obtain ⟨F4, g4, r4⟩ := gr_res g2.hd p r e6
  exact q v' F4 H3 (g2.trans g4) r4
theorem eh_callTy {r : List V → Hp → VK → Prop} {h : List O → Option O} (hc : CallR X (.type T) r) (s : SnN X.K r h) (hg : Gl X x) (hm : X.mg x = none) (hv : bootBuiltins x = some (.type T)) (ha : EvHA X i a fs dd (e :: es) l) (hn : x ≠ "__name__" := by decide) (hdb : (x == ("__debug__" : Str)) = false := by decide)
    (he : starEach (e :: es) X.env = (false, eval e X.env) :: starEach es X.env := by rfl) (hpl : (backTo pos (starEach es X.env)).any (·.1) = false := by rfl) : EvH X i a fs dd (.Call (.Name x p) (e :: es) [] pos) (hN h l) :=
  peI (pe_callTy hc hg hm hv ha hn hdb he hpl) fun σ H Q t => hN_read s t
theorem eh_callB {r : List V → Hp → VK → Prop} {h : List O → Option O} (hc : CallR X (.builtin id) r) (s : SnN X.K r h) (hg : Gl X x) (hm : X.mg x = none) (hv : bootBuiltins x = some (.builtin id)) (ha : EvHA X i a fs dd (e :: es) l) (hn : x ≠ "__name__" := by decide) (hdb : (x == ("__debug__" : Str)) = false := by decide)
    (he : starEach (e :: es) X.env = (false, eval e X.env) :: starEach es X.env := by rfl) (hpl : (backTo pos (starEach es X.env)).any (·.1) = false := by rfl) : EvH X i a fs dd (.Call (.Name x p) (e :: es) [] pos) (hN h l) :=
  peI (pe_callB hc hg hm hv ha hn hdb he hpl) fun σ H Q t => hN_read s t
/-! tests -/
theorem ht_val (h : EvH X i a fs dd e f) (he : ∀ whole, isTrue e X.env whole = (do let v ← whole; standAt e.pos; holding [v] (truthy v)) := by intro _; rfl) : EvHT X i a fs dd e (hTr f) := ptI (pt_val h he) fun σ H Q ⟨ρ, F, b, rh, hf, q⟩ => by
  obtain ⟨d, e1, e2⟩ := Option.bind_eq_some_iff.mp hf
  exact ⟨ρ, F, d, rh, e1, fun v F' H' gr r => ⟨b, dB_rp r e2, q F' H' gr⟩⟩
theorem ht_cmp {op : CmpOp} {r : R2} {h : O → O → Option O} (ho : OpR X (compareOp op) r) (s : Sn2 X.K r h) (ha : EvH X i a fs dd e1 f) (hb : EvH X i a fs dd e2 g) (hm : behindInMarks op e2 = false) : EvHT X i a fs dd (.Compare e1 [op] [e2] pos) (h2B h f g) :=
  ptI (pt_cmpR ho ha hb hm) fun σ H Q ⟨ρ, F, b, rh, hf, q⟩ => by
    obtain ⟨x, e1, e2⟩ := Option.bind_eq_some_iff.mp hf
    obtain ⟨y, e3, e4⟩ := Option.bind_eq_some_iff.mp e2
    obtain ⟨d, e5, e6⟩ := Option.bind_eq_some_iff.mp e4
    refine h2_read s ⟨ρ, F, d, rh, ?_, fun v F' H' gr r => ⟨b, dB_rp r e6, q F' H' gr⟩⟩
    unfold h2
    rw [e1]
    show (g ρ).bind _ = _
    rw [e3]
    exact e5
theorem ht_not (h : EvHT X i a fs dd e t) : EvHT X i a fs dd (.UnaryOp .Not e pos) (hTNot t) := ptI (pt_not h) fun σ H Q ⟨ρ, F, b, rh, hf, q⟩ => by
  obtain ⟨c, e1, rfl⟩ := Option.map_eq_some_iff.mp hf
  exact ⟨ρ, F, c, rh, e1, q⟩
theorem hw_and1 (h : EvHT X i a fs dd e t) : EvHW X i a fs dd (.BoolOp .And [e] pos) t := pw_and1 h
theorem hw_or1 (h : EvHT X i a fs dd e t) : EvHW X i a fs dd (.BoolOp .Or [e] pos) t := pw_or1 h
theorem hw_and (h : EvHT X i a fs dd e t) (k : EvHW X i a fs dd (.BoolOp .And (e2 :: es) pos) u) : EvHW X i a fs dd (.BoolOp .And (e :: e2 :: es) pos) (hTAnd t u) := pwI (pw_and h k) fun σ H Q ⟨ρ, F, b, rh, hf, q⟩ => by
  obtain ⟨c, e1, e4⟩ := Option.bind_eq_some_iff.mp hf
  refine ⟨ρ, F, c, rh, e1, fun F' H' gr => ?_⟩
  cases c with
  | true => exact ⟨ρ, F', b, rh.grow gr, e4, fun F2 H2 g2 => q F2 H2 (gr.trans g2)⟩
  | false =>
    cases e4
    exact q F' H' gr
theorem hw_or (h : EvHT X i a fs dd e t) (k : EvHW X i a fs dd (.BoolOp .Or (e2 :: es) pos) u) : EvHW X i a fs dd (.BoolOp .Or (e :: e2 :: es) pos) (hTOr t u) := pwI (pw_or h k) fun σ H Q ⟨ρ, F, b, rh, hf, q⟩ => by
  obtain ⟨c, e1, e4⟩ := Option.bind_eq_some_iff.mp hf
  refine ⟨ρ, F, c, rh, e1, fun F' H' gr => ?_⟩
  cases c with
  | false => exact ⟨ρ, F', b, rh.grow gr, e4, fun F2 H2 g2 => q F2 H2 (gr.trans g2)⟩
  | true =>
    cases e4
    exact q F' H' gr
theorem ht_w (h : EvHW X i a fs dd e t) : EvHT X i a fs dd e t := h.pt
end
end Vs

/-! Vs: isinstance of an error in hand; statements of an except suite; try. -/
namespace Vs
open PySem PySem.Spec L2
/-- isinstance asks the error at a, of the class D, rightly -/
structure HIs (X : Cx) (a D : Addr) : Prop where
  one : CallR X (.builtin "isinstance") (rIsE X.K D a)
  tup : CallR X (.builtin "isinstance") (rIsT X.K D a)
section
variable {X : Cx} {W : WX} {i : Nat} {a D : Addr} {fs : Option (List (Str × PyData))} {dd : Option Addr} {oe : Obj} {pn : List (Addr × Obj)} {e1 : Expr} {b : Bool} {pos p p2 p3 : Pos} {es : List Expr} {cs : List Addr} {k : Nat} {x : Str}
theorem his_suite (T : ExcC X.K D) (hz : Zc (.ref D) none oe) (hf : ∃ vs, oe.data = .fields vs) : HIs (X.suite a ((a, oe) :: pn)) a D := ⟨call_isE T hz hf, call_isT T hz hf⟩
theorem Names2.pa2 {X : Cx} {es : List Expr} {cs : List Addr} (h : Names2 X es cs) : PA X es (fun _ H Q => Q (cs.map .ref) H) := by
  induction h with
  | nil => exact pa_nil
  | @cons x p C es cs hg hm hd hs h ih => exact pa_cons (pe_glob (v := .ref C) (u := .ref C) hg hm rfl hd) ih hs
theorem eh_isi {cv : Addr} (his : HIs X a D) (hx : PE X e1 (tVar i)) (hgC : Gl X x) (hmC : X.mg x = some (.ref cv)) (e : PySem.W.kitOne X.K (.ref D) (.ref cv) = some b)
    (hg : Gl X "isinstance") (hm : X.mg "isinstance" = none) (hv : bootBuiltins "isinstance" = some (.builtin "isinstance")) (hd : (x == ("__debug__" : Str)) = false := by decide)
    (h1 : starEach [e1, .Name x p] X.env = (false, eval e1 X.env) :: starEach [.Name x p] X.env := by rfl) (h2 : starEach [.Name x p] X.env = (false, eval (.Name x p) X.env) :: starEach [] X.env := by rfl) (hpl : (backTo pos (starEach [.Name x p] X.env)).any (·.1) = false := by rfl) :
    EvH X i a fs dd (.Call (.Name "isinstance" p2) [e1, .Name x p] [] pos) (hC (.bool b)) :=
  peI (pe_callB his.one hg hm hv (pa_cons hx (pa_cons (pe_glob (v := .ref cv) (u := .ref cv) hgC hmC rfl hd) pa_nil h2) h1) (by decide) (by decide) h1 hpl) fun σ H Q ⟨ρ, F, d, rh, hf, q⟩ => by
    cases hf
    exact ⟨.ref a, rh.at_, _, .ref cv, b, rfl, fun u r => r, e, q (.bl b) F H (Gr.refl rh.hd) (.bl b)⟩
theorem eh_isT (his : HIs X a D) (hx : PE X e1 (tVar i)) (hN : Names2 X es cs) (hl : cs.length ≤ sizeLine) (e : PySem.W.kitAny X.K (.ref D) (cs.map .ref) = some b)
    (hg : Gl X "isinstance") (hm : X.mg "isinstance" = none) (hv : bootBuiltins "isinstance" = some (.builtin "isinstance"))
    (h1 : starEach [e1, .Tuple es k p3] X.env = (false, eval e1 X.env) :: starEach [.Tuple es k p3] X.env := by rfl) (h2 : starEach [.Tuple es k p3] X.env = (false, eval (.Tuple es k p3) X.env) :: starEach [] X.env := by rfl) (hpl : (backTo pos (starEach [.Tuple es k p3] X.env)).any (·.1) = false := by rfl) :
    EvH X i a fs dd (.Call (.Name "isinstance" p2) [e1, .Tuple es k p3] [] pos) (hC (.bool b)) :=
  peI (pe_callB his.tup hg hm hv (pa_cons hx (pa_cons (pe_tup hN.pa2) pa_nil h2) h1) (by decide) (by decide) h1 hpl) fun σ H Q ⟨ρ, F, d, rh, hf, q⟩ => by
    cases hf
    refine ⟨.ref a, rh.at_, by rw [List.length_map]; exact hl, fun t ht => ⟨t, cs, b, rfl, .inl (.inl upd_same), e, ?_⟩⟩
    exact q (.bl b) _ _ (Gr.newF rh.hd ht) (.bl b)
end
mutual
/-- what is owned is no error's dict -/
theorem noXd {K : PySem.W.Frag} {F H : Hp} : ∀ (m : Mu) (a : Addr) (o : HO), MuT K F H m a o → H a = some o → ∀ c ∈ foot H m (.ref a), ∀ vs, H c ≠ some (.xd vs)
  | .lst _, a, o, r, h, c, hc, vs => by
    obtain ⟨xs, rfl, _⟩ := r
    rw [List.mem_singleton.mp (show c ∈ [a] from hc), h]
    intro z; cases z
  | .dct _, a, o, r, h, c, hc, vs => by
    obtain ⟨xs, rfl, _⟩ := r
    rw [List.mem_singleton.mp (show c ∈ [a] from hc), h]
    intro z; cases z
  | .obj _ _, a, o, r, h, c, hc, vs => by
    obtain ⟨dx, xs, rfl, _⟩ := r
    rw [List.mem_singleton.mp (show c ∈ [a] from hc), h]
    intro z; cases z
  | .tre n its, a, o, r, h, c, hc, vs => by
    obtain ⟨ws, r1, r2, r3⟩ := r
    rw [foot_tre h r1] at hc
    rcases List.mem_cons.mp hc with e | hc
    · rw [e, h]
      intro z
      cases z
      cases n with
      | lst => cases r1
      | dct ks => obtain ⟨_, z, _⟩ := r1; cases z
      | obj C ns => obtain ⟨_, _, z, _⟩ := r1; cases z
    · exact noXdA its ws r3 c hc vs
theorem noXdA {K : PySem.W.Frag} {F H : Hp} : ∀ (its : List Ch) (ws : List V), ChX K F H its ws → ∀ c ∈ footA H its ws, ∀ vs, H c ≠ some (.xd vs)
  | [], ws, _, c, hc, _ => by cases ws <;> simp [footA] at hc
  | .fz d :: its, [], r, c, hc, _ => by simp [footA] at hc
  | .fz d :: its, w :: ws, r, c, hc, vs => by
    simp only [ChX] at r
    exact noXdA its ws r.2 c (by simpa [footA] using hc) vs
  | .mu m :: its, [], r, c, hc, _ => by simp [footA] at hc
  | .mu m :: its, w :: ws, r, c, hc, vs => by
    simp only [ChX] at r
    obtain ⟨⟨a, o, e, h, f, r1⟩, _, r3⟩ := r
    subst e
    simp only [footA, List.mem_append] at hc
    rcases hc with hc | hc
    · exact noXd m a o r1 h c hc vs
    · exact noXdA its ws r3 c hc vs
end
/-! ### statements -/
def FinH (K : PySem.W.Frag) (i : Nat) (S : Sta) (D : Ends) : Out Fl → Prop
  | .ok .nx ρ' => ∀ σ' F' H', Post K S σ' ρ' F' H' → σ'[i]? = S.σ[i]? → D.nx σ' H'
  | .ok .bk ρ' => ∀ σ' F' H', Post K S σ' ρ' F' H' → σ'[i]? = S.σ[i]? → D.bk σ' H'
  | .ok .ct ρ' => ∀ σ' F' H', Post K S σ' ρ' F' H' → σ'[i]? = S.σ[i]? → D.ct σ' H'
  | .ok (.rt (.o (.fz d))) ρ' => ∀ v σ' F' H', Post K S σ' ρ' F' H' → Rp K F' v d → D.rt v H'
  | _ => False
def tHS (K : PySem.W.Frag) (i : Nat) (a : Addr) (fs : Option (List (Str × PyData))) (dd : Option Addr) (f : M Fl) : TS := fun D σ H => ∃ ρ F, RH K i a fs dd σ ρ F H ∧ ∃ o, f ρ = some o ∧ FinH K i ⟨σ, ρ, F, H⟩ D o
abbrev EvHS (X : Cx) (i : Nat) (a : Addr) (fs : Option (List (Str × PyData))) (dd : Option Addr) (e : Stmt) (f : M Fl) : Prop := PS X e (tHS X.K i a fs dd f)
abbrev EvHB (X : Cx) (i : Nat) (a : Addr) (fs : Option (List (Str × PyData))) (dd : Option Addr) (e : List Stmt) (f : M Fl) : Prop := PSs X e (tHS X.K i a fs dd f)
def hRet (f : Rho → Option PyData) : M Fl := fun ρ => (f ρ).map fun d => .ok (.rt (.o (.fz d))) ρ
def hSet (j : Nat) (f : Rho → Option PyData) : M Fl := fun ρ => (f ρ).bind fun d => (stI j (.fz d) ρ).map fun ρ' => .ok .nx ρ'
def hIf (t : Rho → Option Bool) (f g : M Fl) : M Fl := fun ρ => (t ρ).bind fun b => if b = true then f ρ else g ρ
section
variable {K : PySem.W.Frag} {i : Nat} {S : Sta} {σ : L2.St} {ρ : Rho} {F H : Hp} {D : Ends}
theorem FinH.up {o : Out Fl} (p : Post K S σ ρ F H) (hs : σ[i]? = S.σ[i]?) (h : FinH K i S D o) : FinH K i ⟨σ, ρ, F, H⟩ D o := by
  cases o with
  | ex c ρ' => exact h
  | ok fl ρ' =>
    cases fl with
    | nx => exact fun σ' F' H' q e => h σ' F' H' (p.trans q) (e.trans hs)
    | bk => exact fun σ' F' H' q e => h σ' F' H' (p.trans q) (e.trans hs)
    | ct => exact fun σ' F' H' q e => h σ' F' H' (p.trans q) (e.trans hs)
    | rt r =>
      cases r with
      | s j => exact h
      | o o =>
        cases o with
        | fz d => exact fun v σ' F' H' q r => h v σ' F' H' (p.trans q) r
        | mu b m => exact h
end
section
variable {X : Cx} {i j : Nat} {a : Addr} {fs : Option (List (Str × PyData))} {dd : Option Addr} {e : Expr} {st : Stmt} {sts : List Stmt} {body els : List Stmt} {f : Rho → Option PyData} {t : Rho → Option Bool} {m n : M Fl} {pos pos' : Pos} {x : Str}
theorem hs_ret (h : EvH X i a fs dd e f) : EvHS X i a fs dd (.Return (some e) pos) (hRet f) := psI (ps_ret h) fun D σ H ⟨ρ, F, rh, o, eo, q⟩ => by
  obtain ⟨d, e1, rfl⟩ := Option.map_eq_some_iff.mp eo
  exact ⟨ρ, F, d, rh, e1, fun v F' H' g r => q v σ F' H' (g.post (Post.refl rh.hd)) r⟩
theorem hs_set (hN : X.N.Nodup) (hj : X.N[j]? = some x) (hx : Loc X.env.scope x) (hij : j ≠ i) (he : EvH X i a fs dd e f) (hs : swapsWith e (some (.Name x pos')) pos.line X.env = pure false := by rfl) (hf : X.fn x = true ∨ X.env.scope.names.lookup x = some .local := by first | exact .inl rfl | exact .inr rfl | assumption) :
    EvHS X i a fs dd (.Assign [.Name x pos'] e pos) (hSet j f) := psI (ps_set hN hj hx he hs hf) fun D σ H ⟨ρ, F, rh, o, eo, q⟩ => by
  obtain ⟨d, e1, e2⟩ := Option.bind_eq_some_iff.mp eo
  obtain ⟨ρ', e3, rfl⟩ := Option.map_eq_some_iff.mp e2
  exact ⟨ρ, F, d, rh, e1, fun v F' H' g r => q _ F' H' ((g.post (Post.refl rh.hd)).store e3 (show Rp X.K F' v d from r)) (List.getElem?_set_ne hij)⟩
theorem hs_pass : EvHS X i a fs dd (.Pass pos) (M.ret .nx) := psI ps_pass fun D σ H ⟨ρ, F, rh, o, eo, q⟩ => by
  cases eo
  exact q σ F H (Post.refl rh.hd) rfl
theorem hs_break : EvHS X i a fs dd (.Break pos) (M.ret .bk) := psI ps_break fun D σ H ⟨ρ, F, rh, o, eo, q⟩ => by
  cases eo
  exact q σ F H (Post.refl rh.hd) rfl
theorem hb_nil : EvHB X i a fs dd [] (M.ret .nx) := pssI pss_nil fun D σ H ⟨ρ, F, rh, o, eo, q⟩ => by
  cases eo
  exact q σ F H (Post.refl rh.hd) rfl
theorem hb_one (h : EvHS X i a fs dd st m) : EvHB X i a fs dd [st] m := pss_one h
theorem hb_cons (h1 : EvHS X i a fs dd st m) (h2 : EvHB X i a fs dd sts n) : EvHB X i a fs dd (st :: sts) (sSeq m n) := pssI (pss_cons h1 h2) fun D σ H ⟨ρ, F, rh, o, eo, q⟩ => by
  unfold sSeq at eo
  cases em : m ρ with
  | none => rw [em] at eo; cases eo
  | some o1 =>
    refine ⟨ρ, F, rh, o1, em, ?_⟩
    rw [em] at eo
    cases o1 with
    | ex c ρ' => cases eo; exact q
    | ok fl ρ' =>
      cases fl with
      | nx =>
        exact fun σ' F' H' p e => ⟨ρ', F', ⟨e.trans rh.at_, p.hd, by
          have er := rh.er
          cases fs with
          | none => exact er
          | some l =>
            obtain ⟨d, vs, e1, hH, h1, h2⟩ := er
            refine ⟨d, vs, e1, p.keep d _ hH fun z => ?_, h1, RpA.mono p.le h2⟩
            obtain ⟨i1, b1, m1, v1, f1, f2, f3⟩ := z
            obtain ⟨a1, o1, rfl, g1, g2, g3⟩ := rh.hd.slot f1 f2
            exact noXd m1 a1 o1 g3 g1 d f3 _ hH⟩, o, eo, FinH.up p e q⟩
      | bk => cases eo; exact q
      | ct => cases eo; exact q
      | rt r =>
        cases eo
        cases r with
        | s j => exact q.elim
        | o o =>
          cases o with
          | fz d => exact q
          | mu b m => exact q.elim
theorem hs_if {c : Expr} (hc : EvHT X i a fs dd c t) (ha : EvHB X i a fs dd body m) (hb : EvHB X i a fs dd els n) : EvHS X i a fs dd (.If c body els pos) (hIf t m n) := psI (ps_if hc ha hb) fun D σ H ⟨ρ, F, rh, o, eo, q⟩ => by
  obtain ⟨b, e1, e2⟩ := Option.bind_eq_some_iff.mp eo
  refine ⟨ρ, F, b, rh, e1, fun F' H' g => ?_⟩
  have P := g.post (Post.refl rh.hd)
  cases b with
  | true => exact ⟨ρ, F', rh.grow g, o, e2, FinH.up P rfl q⟩
  | false => exact ⟨ρ, F', rh.grow g, o, e2, FinH.up P rfl q⟩
end
/-! ### try: B except X as n: suite -/
def isFree (ρ : Rho) (i : Nat) : Bool := match ρ[i]? with
  | some none => true
  | _ => false
/-- behind the suite: the name is gone -/
def hdEnd (i : Nat) : Option (Out Fl) → Option (Out Fl)
  | some (.ok .nx ρ) => if isFree ρ i = true then some (.ok .nx ρ) else none
  | some (.ok .bk ρ) => if isFree ρ i = true then some (.ok .bk ρ) else none
  | some (.ok .ct ρ) => if isFree ρ i = true then some (.ok .ct ρ) else none
  | some (.ok (.rt (.o (.fz d))) ρ) => if isFree ρ i = true then some (.ok (.rt (.o (.fz d))) ρ) else none
  | _ => none
def tryH (i : Nat) (hd : Er → Option (Option (M Fl))) : Option (Out Fl) → Option (Out Fl)
  | some (.ex c ρ) => (match hd c with
    | some (some m) => if isFree ρ i = true then hdEnd i (m ρ) else none
    | some none => some (.ex c ρ)
    | none => none)
  | o => o
def sTryH (i : Nat) (hd : Er → Option (Option (M Fl))) (f : M Fl) : M Fl := fun ρ => tryH i hd (f ρ)
/-- the handler's suite is right for each error that it takes -/
def HdOkH (X : Cx) (i : Nat) (cX : Addr) (body : List Stmt) (hd : Er → Option (Option (M Fl))) : Prop :=
  ∀ c r, hd c = some r → match r with
    | some m => PySem.W.exmOne X.K (.ref c.c) (.ref cX) = some true ∧ ∀ (a : Addr) (oe : Obj) (dd : Option Addr) (pn : List (Addr × Obj)), L2N.Zn (.ref c.c) dd oe → (∃ vs, oe.data = .fields vs) → (c.fs = none → dd = none) → EvHB (X.suite a ((a, oe) :: pn)) i a c.fs dd body m
    | none => PySem.W.exmOne X.K (.ref c.c) (.ref cX) = some false
section
variable {K : PySem.W.Frag} {σ σ' : L2.St} {ρ ρ' : Rho} {F F' H H' : Hp} {i : Nat} {x : Option V}
theorem free_own (h : ρ[i]? = some none) {c : Addr} : Own (σ.set i x) ρ H c ↔ Own σ ρ H c := by
  have ne : ∀ {j : Nat} {b : Bool} {m : Mu}, ρ[j]? = some (some (.mu b m)) → i ≠ j := by
    rintro j b m e rfl
    rw [h] at e; cases e
  constructor
  · rintro ⟨j, b, m, v, e, s, k⟩
    exact ⟨j, b, m, v, e, by rw [List.getElem?_set_ne (ne e)] at s; exact s, k⟩
  · rintro ⟨j, b, m, v, e, s, k⟩
    exact ⟨j, b, m, v, e, by rw [List.getElem?_set_ne (ne e)]; exact s, k⟩
theorem Hd.freeSlot (h : Hd K σ ρ F H) (e : ρ[i]? = some none) : Hd K (σ.set i x) ρ F H := by
  have ne : ∀ {j : Nat} {o : O}, ρ[j]? = some (some o) → i ≠ j := by
    rintro j o e2 rfl
    rw [e] at e2; cases e2
  refine ⟨h.le, by rw [List.length_set]; exact h.len, fun j o e2 => ?_, fun j k b m b' m' v v' c e1 e2 s1 s2 k1 k2 => ?_⟩
  · rw [List.getElem?_set_ne (ne e2)]
    exact h.at_ j o e2
  · rw [List.getElem?_set_ne (ne e1)] at s1
    rw [List.getElem?_set_ne (ne e2)] at s2
    exact h.sep j k b m b' m' v v' c e1 e2 s1 s2 k1 k2
/-- a run with the slot i of the state σ filled, behind it emptied -/
theorem Post.freeSlot {y : Option V} (p : Post K ⟨σ.set i x, ρ, F, H⟩ σ' ρ' F' H') (e : ρ[i]? = some none) (e' : ρ'[i]? = some none) : Post K ⟨σ, ρ, F, H⟩ (σ'.set i y) ρ' F' H' := by
  refine ⟨p.hd.freeSlot e', p.le, fun b o h n => p.keep b o h fun z => n ((free_own e).mp z), fun b o h n f => p.nofz b o h (fun z => n ((free_own e).mp z)) f, fun b h => ?_, fun j m h => ?_⟩
  · rcases p.own b ((free_own e').mp h) with z | z
    · exact .inl ((free_own e).mp z)
    · exact .inr z
  · have ne : i ≠ j := by
      rintro rfl
      rw [show ρ[i]? = some none from e] at h; cases h
    obtain ⟨s1, m', s2⟩ := p.bor j m h
    refine ⟨?_, m', s2⟩
    rw [List.getElem?_set_ne ne, s1]
    show (σ.set i x)[j]? = _
    rw [List.getElem?_set_ne ne]
theorem isFree_eq (h : isFree ρ i = true) : ρ[i]? = some none := by
  unfold isFree at h
  split at h
  · assumption
  · cases h
end
section
variable {X : Cx} {x n : Str} {cX : Addr} {i : Nat} {body suite : List Stmt} {b₀ : Stmt} {np pos pos' : Pos} {fB : M Fl} {Wout : WX} {hd : Er → Option (Option (M Fl))}
theorem r_tryH (hs : X.stack = X.env :: X.outer) (hf : X.env.frame = some X.env.locals) (hN : X.N.Nodup) (hi : X.N[i]? = some n) (hln : X.env.kindOf n = some .local) (hc : Names X x (.ref cX)) (tk : L2N.Takes X Wout)
    (hb : ∀ (W : WX) (pn : List (Addr × Obj)) (xe : Value → Shared → Prop), L2N.Takes (X.tr pn xe) W → PassesOwn (model X.prog X.w) X.A X.env xe → EvB (X.tr pn xe) W body fB) (hh : HdOkH X i cX (b₀ :: suite) hd) :
    EvS X Wout (.Try body [.ExceptHandler (some (.Name x np)) (some n) (b₀ :: suite) pos'] [] [] pos) (sTryH i hd fB) := by
  refine psI (L2N.ps_try_as (i := i) (tb := fun W => tS X.K W fB) (ts := fun a cls d => fun D σ H => ∃ (c : Er) (m : M Fl), cls = .ref c.c ∧ hd c = some (some m) ∧ (c.fs = none → d = none) ∧ tHS X.K i a c.fs d m D σ H) hs hf hN hi hln hc tk hb (fun a oe cls d pn hz hfl => ?_)) fun D σ H ⟨ρ, F, r⟩ => ?_
  · refine ⟨fun pins s σ H D I ⟨c, m, e1, e2, e3, t⟩ => ?_⟩
    subst e1
    exact ((hh c _ e2).2 a oe d pn hz hfl e3).run pins s σ H D I t
  · obtain ⟨p, o, eo, q⟩ := r
    unfold sTryH at eo
    cases ef : fB ρ with
    | none => rw [ef] at eo; cases eo
    | some of =>
      refine ⟨ρ, F, p, of, ef, ?_⟩
      rw [ef] at eo
      cases of with
      | ok fl ρ' =>
        cases eo
        cases fl <;> exact q
      | ex c ρ' =>
        intro d σ' F' H' p' ed
        have eo : (match hd c with | some (some m) => if isFree ρ' i = true then hdEnd i (m ρ') else none | some none => some (.ex c ρ') | none => none) = some o := eo
        cases eh : hd c with
        | none => rw [eh] at eo; cases eo
        | some rr =>
          rw [eh] at eo
          cases rr with
          | none =>
            cases eo
            exact ⟨false, hh c _ eh, fun z => (nomatch z), fun _ => q d σ' F' H' p' ed⟩
          | some m =>
            have eo : (if isFree ρ' i = true then hdEnd i (m ρ') else none) = some o := eo
            split at eo
            next hfr =>
              have hfr := isFree_eq hfr
              refine ⟨true, (hh c _ eh).1, fun _ a na => ⟨c, m, rfl, eh, fun z => ?_, ρ', F', ⟨?_, p'.hd.freeSlot hfr, ed⟩, ?_⟩, fun z => (nomatch z)⟩
              · have ed := ed
                rw [z] at ed
                exact ed
              · have hl : i < σ'.length := by
                  rw [p'.hd.len]
                  exact (List.getElem?_eq_some_iff.mp hfr).1
                rw [List.getElem?_set_self hl]
              · cases em : m ρ' with
                | none => rw [em] at eo; cases eo
                | some om =>
                  refine ⟨om, rfl, ?_⟩
                  rw [em] at eo
                  cases om with
                  | ex c2 ρ2 => cases eo
                  | ok fl ρ2 =>
                    cases fl with
                    | nx =>
                      have eo : (if isFree ρ2 i = true then some (Out.ok Fl.nx ρ2) else none) = some o := eo
                      split at eo
                      next h2 =>
                        cases eo
                        exact fun σ2 F2 H2 P _ => q _ F2 H2 (p'.trans (P.freeSlot hfr (isFree_eq h2)))
                      next => cases eo
                    | bk =>
                      have eo : (if isFree ρ2 i = true then some (Out.ok Fl.bk ρ2) else none) = some o := eo
                      split at eo
                      next h2 =>
                        cases eo
                        exact fun σ2 F2 H2 P _ => q _ F2 H2 (p'.trans (P.freeSlot hfr (isFree_eq h2)))
                      next => cases eo
                    | ct =>
                      have eo : (if isFree ρ2 i = true then some (Out.ok Fl.ct ρ2) else none) = some o := eo
                      split at eo
                      next h2 =>
                        cases eo
                        exact fun σ2 F2 H2 P _ => q _ F2 H2 (p'.trans (P.freeSlot hfr (isFree_eq h2)))
                      next => cases eo
                    | rt rf =>
                      cases rf with
                      | s j => cases eo
                      | o oo =>
                        cases oo with
                        | mu b mm => cases eo
                        | fz dd =>
                          have eo : (if isFree ρ2 i = true then some (Out.ok (Fl.rt (.o (.fz dd))) ρ2) else none) = some o := eo
                          split at eo
                          next h2 =>
                            cases eo
                            exact fun v σ2 F2 H2 P r => q v _ F2 H2 (p'.trans (P.freeSlot (y := none) hfr (isFree_eq h2))) r
                          next => cases eo
            next => cases eo
end
end Vs

/-! Vs: defs that are asked about an error, within an except suite. -/
namespace Vs
open PySem PySem.Spec L2
section
variable {X : Cx} {a D : Addr} {oe : Obj}
theorem inst_pin {pins : List (Addr × Obj)} {σ : L2.St} {H : Hp} {s : Shared} (I : Inv X pins σ H s) (hp : (a, oe) ∈ X.pn) (hz : Zc (.ref D) none oe) (hf : ∃ vs, oe.data = .fields vs) : PySem.W.InstAt s.heap a oe D none := by
  have hget := (I.pin (a, oe) (List.mem_append_left pins hp)).1
  obtain ⟨ws, hw⟩ := hf
  rcases oe with ⟨c1, d1, t1, l1⟩
  obtain ⟨g1, g2⟩ := hz
  dsimp only at g1 g2 hw
  subst g1 g2 hw
  exact ⟨hget, rfl, rfl, trivial⟩
theorem his_pin (T : ExcC X.K D) (hp : (a, oe) ∈ X.pn) (hz : Zc (.ref D) none oe) (hf : ∃ vs, oe.data = .fields vs) : HIs X a D := by
  constructor
  · rintro pins s σ H xs us Q I r ⟨c, cv, b, rfl, hcv, e, q⟩
    match us, r with
    | [_, _], .cons rx (.cons rt .nil) =>
      cases rx
      rw [hcv _ rt]
      exact PySem.W.kia_one (PySem.W.handS_kitx_exc T.hg T.hk T.hs T.hd T.ha T.hn T.ht T.hm) I.kIn (inst_pin I hp hz hf) e nofun fun tk => ⟨.bl b, H, I.kept (t' := tk) fun _ _ z => z, rfl, q⟩
  · rintro pins s σ H xs us Q I r ⟨t, cs, b, rfl, hq, e, q⟩
    match us, r with
    | [_, _], .cons rx (.cons rt .nil) =>
      cases rx
      cases rt
      obtain ⟨its, rv, hp2, _⟩ := I.tuple hq
      rw [vals_refs rv] at hp2
      obtain ⟨o, ho, hc, n, hd⟩ := hp2
      rcases o with ⟨c1, d1, t1, l1⟩
      dsimp only at hc hd
      subst hc hd
      exact PySem.W.kia_tup (PySem.W.handS_kitx_exc T.hg T.hk T.hs T.hd T.ha T.hn T.ht T.hm) I.kIn (inst_pin I hp hz hf) ho e nofun fun tk => ⟨.bl b, H, I.kept (t' := tk) fun _ _ z => z, rfl, q⟩
end
/-- what such a def answers for each error -/
structure FnK (P : Program) (w : World) (K : PySem.W.Frag) (mg : Str → Option Value) (base : Heap) (k : Nat) (f : Addr) (fd : FuncData) (ps : List Str) (g : Er → Option PyData) : Prop where
  run : ∀ (A : Around) (outer : List Env) (s : Shared) (H : Hp) (args : Args) (us : List Value) (a : Addr) (oe : Obj) (Q : VK) (E : XK) (c : Er) (dd : Option Addr) (F : Hp) (d : PyData), L2H.RoomH k A → L2H.Hot1 A (a, oe) → L2H.PinOk outer H s (a, oe) → Env0 P w K mg base A outer s H → BindsTo s fd args (ps.zip us) →
    Vals [V.ref a] us → ps.length = 1 → L2N.Zn (.ref c.c) dd oe → (c.fs = none → dd = none) → Le F H → ErD K F H c.fs dd → g c = some d →
    (∀ v F' H', Le F F' → Le F' H' → (∀ b o, H b = some o → H' b = some o ∧ (F b = none → F' b = none)) → Rp K F' v d → Q v H') → codeAny (model P w) A (.call (.ref f) args) (CR (L2N.CX P w) outer P w H s Q E) s
def hotV (N : Nat) (m : M Fl) : Option PyData := match m (List.replicate N none) with
  | some (.ok (.rt (.o (.fz d))) _) => some d
  | _ => none
section
variable {P : Program} {w : World} {K : PySem.W.Frag} {mg : Str → Option Value} {base : Heap}
abbrev cxK (P : Program) (w : World) (K : PySem.W.Frag) (mg : Str → Option Value) (base : Heap) (N : List Str) (qual : Str) (st : Stmt) (f : Addr) (cdv : Value) (A : Around) (outer : List Env) (s : Shared) (H : Hp) (E : XK) (p : Addr × Obj) : Cx :=
  L2H.cxH (L2N.CX P w) P w K mg base N qual (defScope st) f cdv A outer s H E p
theorem FnK.of {x qual : Str} {st : Stmt} {f : Addr} {fd : FuncData} {p1 : Str} {N1 : List Str} {k : Nat} {m : Er → M Fl} (Fu : Fun K x qual st f fd) (S : FnScope (p1 :: N1) [p1] (defScope st))
    (hbody : ∀ (cdv : Value) (A : Around) (outer : List Env) (s : Shared) (H : Hp) (E : XK) (a : Addr) (oe : Obj) (c : Er) (dd : Option Addr) (d : PyData), L2H.Hot1 A (a, oe) → L2H.RoomH k (A.deeper (PyProof.Rows.envOfC qual (defScope st) s.heap.objs.size f cdv)) → L2N.Zn (.ref c.c) dd oe → (c.fs = none → dd = none) →
      hotV (N1.length + 1) (m c) = some d → EvHB (cxK P w K mg base (p1 :: N1) qual st f cdv A outer s H E (a, oe)) 0 a c.fs dd (defBody st) (m c)) : FnK P w K mg base (k + 1) f fd [p1] (fun c => hotV (N1.length + 1) (m c)) := by
  obtain ⟨oc, od, kV, doc, pm, an, cdv, ct, osl, rfl, lk, hcd⟩ := Fu.ex
  refine ⟨fun A outer s H args us a oe Q E c dd F d hr hot hpin e0 hb r hl1 hz hz0 le er hg fin => ?_⟩
  have inHeap : K.In s.heap := e0.mod.kin.keeps fun b o e => (e0.bs b o e).1
  have noLim : s.heap.NoLimit := e0.mod.nolimit.keeps fun b o e => (e0.bs b o e).1
  have names : ∀ y ∈ [p1].zip us, (defScope st).names.lookup y.1 = some .local ∨ ((defScope st).names.lookup y.1 = some .cell ∧ ((cellsFrom (s.heap.objs.size + 1) (defScope st).names []).lookup y.1).isSome = true) := by
    rintro ⟨n, v⟩ hy
    rcases S.par n (List.of_mem_zip hy).1 with q | q
    · exact Or.inl q
    · exact Or.inr ⟨q, PySem.W.cellsFrom_some _ _ _ (Or.inl q)⟩
  refine codeAny_call_function hr.depth (inHeap _ _ lk) rfl S.co S.gen rfl (PySem.W.codeRec_of inHeap hcd) (hb _ _ _ _ (wpAny_newFunctionEnv_cells S.kind names ?_))
  rintro env rfl s1 made
  refine ⟨noLim.keeps made.toInCall.keep, codeAny_func ?_⟩
  have body := hbody cdv A outer s H E a oe c dd d hot (hr.deeper _) hz hz0 hg
  have atStart := L2H.inv_startH (CX := L2N.CX P w) (E := E) S hpin e0 (vs := [V.ref a]) rfl r made
  have hst : L2.start (p1 :: N1) [V.ref a] = some (V.ref a) :: List.replicate N1.length none := by
    unfold L2.start
    simp
  have hd0 : Hd K (L2.start (p1 :: N1) [V.ref a]) (List.replicate (N1.length + 1) none) F H := by
    rw [hst]
    refine ⟨le, by simp, fun i o e => ?_, fun i j b m b' m' v v' c e => ?_⟩
    · rw [List.getElem?_replicate] at e
      split at e <;> cases e
    · rw [List.getElem?_replicate] at e
      split at e <;> cases e
  have no : ∀ c, ¬ Own (L2.start (p1 :: N1) [V.ref a]) (List.replicate (N1.length + 1) none) H c := fun c ⟨i, b, m, v, e, _, _⟩ => by
    rw [List.getElem?_replicate] at e
    split at e <;> cases e
  have want : tHS K 0 a c.fs dd (m c) { nx := fun _ _ => False, rt := Q, bk := fun _ _ => False, ct := fun _ _ => False } (L2.start (p1 :: N1) [V.ref a]) H := by
    refine ⟨List.replicate (N1.length + 1) none, F, ⟨by rw [hst]; rfl, hd0, er⟩, ?_⟩
    unfold hotV at hg
    split at hg
    · rename_i d' ρ' em
      cases hg
      exact ⟨_, em, fun v σ' F' H' p r => fin v F' H' p.le p.hd.le (fun b o e => ⟨p.keep b o e (no b), p.nofz b o e (no b)⟩) r⟩
    · cases hg
  refine wpAny_mono (body.run [] s1 (L2.start (p1 :: N1) [V.ref a]) H _ atStart want) (fun fl s' hs => ?_) fun _ _ hs => hs
  cases fl with
  | ret u => obtain ⟨v, σ', H', J, rv, q⟩ := hs; exact ⟨v, H', J.os, J.bare, J.base, J.hok, rv, q⟩
  | next => obtain ⟨_, _, _, q⟩ := hs; exact q.elim
  | brk => obtain ⟨_, _, _, q⟩ := hs; exact q.elim
  | cont => obtain ⟨_, _, _, q⟩ := hs; exact q.elim
end
section
variable {X : Cx} {i : Nat} {a : Addr} {c : Er} {dd : Option Addr} {oe : Obj} {e1 : Expr} {pos p : Pos} {k : Nat} {f : Addr} {fd : FuncData} {ps : List Str} {x : Str} {g : Er → Option PyData}
/-- such a def called with the error in hand -/
theorem eh_call (Fn : FnK X.prog X.w X.K X.mg X.base k f fd ps g) (h1 : ps.length = 1) (hr : L2H.RoomH k X.A) (hot : L2H.Hot1 X.A (a, oe)) (hp : (a, oe) ∈ X.pn) (hz : L2N.Zn (.ref c.c) dd oe) (hz0 : c.fs = none → dd = none) (hg : Gl X x) (hm : X.mg x = some (.ref f))
    (hk : PySem.W.keepIn X.K (.ref f) = true) (hb : Binds X.K fd ps []) (hx : PE X e1 (tVar i)) (hdb : (x == ("__debug__" : Str)) = false := by decide)
    (he : starEach [e1] X.env = (false, eval e1 X.env) :: starEach [] X.env := by rfl) (hpl : (backTo pos (starEach [] X.env)).any (·.1) = false := by rfl) : EvH X i a c.fs dd (.Call (.Name x p) [e1] [] pos) (fun _ => g c) := by
  refine ⟨fun pins s σ H Q I ⟨ρ, F, d, rh, hf, q⟩ => wpAny_Call_Name_kw (ld_glob I hg hm ?_ hdb)⟩
  refine PySem.W.callWith_K (h₀ := X.base) I.ok.mod.kin hk (thn ((pa_cons hx pa_nil he).run pos pins s σ H (fun vs H1 => vs = [V.ref a] ∧ H1 = H) I ⟨_, rh.at_, rfl, rfl⟩) ?_) he hpl
  rintro us s1 ⟨vs, H1, I1, rv, rfl, rfl⟩
  refine ⟨I1.kIn, ?_⟩
  have hl : us.length = ps.length := by rw [← rv.length, h1]; rfl
  have bind := hb s1 us I1.kIn (by rw [List.append_nil]; exact hl)
  rw [List.append_nil] at bind
  have P1 := I1.pin (a, oe) (List.mem_append_left pins hp)
  have pin : L2H.PinOk X.stack H1 s1 (a, oe) := ⟨P1.1, P1.2.1, fun hmem => (List.mem_cons.mp (I1.stkSub a hmem)).elim P1.2.2.1 P1.2.2.2.1, P1.2.2.2.2⟩
  refine wpAny_call (codeAny_mono (Fn.run X.A X.stack s1 H1 ⟨us, []⟩ us a oe Q (fun _ _ _ => False) c dd F d hr hot pin I1.env0 bind rv h1 hz hz0 rh.hd.le rh.er hf fun v F' H' l1 l2 kp r => q v F' H' ⟨l1, ?_, kp⟩ r) fun rr s' hq => ?_)
  · refine (rh.hd.move l1 l2 fun c hc => ?_).1
    obtain ⟨⟨u, hu⟩, hf⟩ := rh.hd.ownAt hc
    exact ⟨(kp c u hu).1.trans hu.symm, (kp c u hu).2 hf⟩
  · cases rr with
    | error er =>
      obtain ⟨_, _, _, _, _, _, _, _, _, _, _, _, z⟩ := hq
      exact z.elim
    | ok fl =>
      cases fl with
      | ret u => exact I1.after hq
      | next => exact hq.elim
      | brk => exact hq.elim
      | cont => exact hq.elim
end
end Vs

/-! Vs: handlers put together; the Wp words of try. -/
namespace Vs
open PySem PySem.Spec L2
def hdYes (C : Addr) (m : M Fl) (hd : Er → Option (Option (M Fl))) : Er → Option (Option (M Fl)) := fun c => if c.c = C ∧ c.fs.isNone = true then some (some m) else hd c
def hdNo (C : Addr) (hd : Er → Option (Option (M Fl))) : Er → Option (Option (M Fl)) := fun c => if c.c = C then some none else hd c
def hdNil : Er → Option (Option (M Fl)) := fun _ => none
section
variable {X : Cx} {i : Nat} {cX C : Addr} {body : List Stmt} {m : M Fl} {hd : Er → Option (Option (M Fl))}
theorem hdo_nil : HdOkH X i cX body hdNil := fun c r e => by cases e
theorem hdo_yes (h : PySem.W.exmOne X.K (.ref C) (.ref cX) = some true) (k : ∀ (a : Addr) (oe : Obj) (dd : Option Addr) (pn : List (Addr × Obj)), L2N.Zn (.ref C) none oe → (∃ vs, oe.data = .fields vs) → EvHB (X.suite a ((a, oe) :: pn)) i a none none body m) (r : HdOkH X i cX body hd) : HdOkH X i cX body (hdYes C m hd) := fun c r' e => by
  unfold hdYes at e
  split at e
  · rename_i hc
    cases e
    obtain ⟨c1, c2⟩ := c
    obtain ⟨rfl, e2⟩ := hc
    have e2 : c2 = none := Option.isNone_iff_eq_none.mp e2
    subst e2
    refine ⟨h, fun a oe dd pn hz hf h0 => ?_⟩
    have h0 := h0 rfl
    subst h0
    exact k a oe none pn hz hf
  · exact r c r' e
theorem hdo_no (h : PySem.W.exmOne X.K (.ref C) (.ref cX) = some false) (r : HdOkH X i cX body hd) : HdOkH X i cX body (hdNo C hd) := fun c r' e => by
  unfold hdNo at e
  split at e
  · rename_i hc
    cases e
    subst hc
    exact h
  · exact r c r' e
end
def kYes (C : Addr) (m : M Fl) (km : Er → M Fl) : Er → M Fl := fun c => if c.c = C ∧ c.fs.isNone = true then m else km c
def kNil : Er → M Fl := fun _ _ => none
theorem kb_nil {n : Nat} {R : M Fl → Prop} {c : Er} {d : PyData} (hv : hotV n (kNil c) = some d) : R (kNil c) := by
  unfold hotV kNil at hv
  cases hv
theorem kb_yes {n : Nat} {R : M Fl → Prop} {C : Addr} {m : M Fl} {km : Er → M Fl} {c : Er} {d : PyData} (h : c.c = C → c.fs = none → R m) (k : hotV n (km c) = some d → R (km c)) (hv : hotV n (kYes C m km c) = some d) : R (kYes C m km c) := by
  unfold kYes at hv ⊢
  split
  · rename_i hc
    exact h hc.1 (Option.isNone_iff_eq_none.mp hc.2)
  · rename_i hc
    rw [if_neg hc] at hv
    exact k hv
/-- what the module's name x answers for an error, called within a suite -/
structure CalK (P : Program) (w : World) (K : PySem.W.Frag) (mg : Str → Option Value) (base : Heap) (k : Nat) (x : Str) (g : Er → Option PyData) : Prop where
  ex : ∃ f fd ps, ps.length = 1 ∧ FnK P w K mg base k f fd ps g ∧ mg x = some (.ref f) ∧ PySem.W.keepIn K (.ref f) = true ∧ Binds K fd ps []
section
variable {P : Program} {w : World} {K : PySem.W.Frag} {mg : Str → Option Value} {base : Heap} {x : Str} {st : Stmt} {p1 : Str} {f : Addr} {fd : FuncData} {k : Nat} {g : Er → Option PyData}
theorem Def.calK (d : Def K mg x st [p1] f fd) (F : FnK P w K mg base k f fd [p1] g) : CalK P w K mg base k x g := ⟨f, fd, [p1], rfl, F, d.gl, d.fu.kp, d.bi⟩
end
section
variable {X : Cx} {i : Nat} {a : Addr} {c : Er} {dd : Option Addr} {oe : Obj} {e1 : Expr} {pos p : Pos} {j k : Nat} {x : Str} {g : Er → Option PyData} {pn : List (Addr × Obj)}
theorem roomH_mono {j k : Nat} {A : Around} (r : Room k A) (h : j ≤ k) : L2H.RoomH j A := L2H.RoomH.mono (L2H.roomH_of r) h
theorem FnK.mono {P : Program} {w : World} {K : PySem.W.Frag} {mg : Str → Option Value} {base : Heap} {f : Addr} {fd : FuncData} {ps : List Str} (F : FnK P w K mg base j f fd ps g) (h : j ≤ k) : FnK P w K mg base k f fd ps g :=
  ⟨fun A outer s H args us a oe Q E c dd F' d hr => F.run A outer s H args us a oe Q E c dd F' d (hr.mono h)⟩
theorem zn_fields (hz : L2N.Zn (.ref c.c) dd oe) (hf : ∃ vs, oe.data = .fields vs) : ∃ vs : Array Value, oe.data = .fields vs ∧ vs[2]? = some .none := by
  obtain ⟨vs, e⟩ := hf
  exact ⟨vs, e, hz.2.2 vs e⟩
/-- within a suite of X -/
theorem eh_kind (ck : CalK X.prog X.w X.K X.mg X.base j x g) (hjk : j ≤ k) (hr : Room k X.A) (hz : L2N.Zn (.ref c.c) dd oe) (hf : ∃ vs, oe.data = .fields vs) (hz0 : c.fs = none → dd = none) (hg : Gl X x) (hx : PE (X.suite a ((a, oe) :: pn)) e1 (tVar i)) (hdb : (x == ("__debug__" : Str)) = false := by decide)
    (he : starEach [e1] X.env = (false, eval e1 X.env) :: starEach [] X.env := by rfl) (hpl : (backTo pos (starEach [] X.env)).any (·.1) = false := by rfl) : EvH (X.suite a ((a, oe) :: pn)) i a c.fs dd (.Call (.Name x p) [e1] [] pos) (fun _ => g c) := by
  obtain ⟨f, fd, ps, h1, F, hm, hk, hb⟩ := ck.ex
  have rH := roomH_mono hr hjk
  exact eh_call (X := X.suite a ((a, oe) :: pn)) F h1 ⟨rH.dp, rH.un⟩ ⟨rfl, zn_fields hz hf⟩ List.mem_cons_self hz hz0 hg hm hk hb hx hdb he hpl
end
theorem exm_f {K : PySem.W.Frag} {C D : Addr} {b : Bool} (h1 : PySem.W.subIn K (.ref C) (.type "BaseException") = some true) (hdct : PySem.W.hasDictIn K C = true) (ht : PySem.W.typeIn K (.ref C) = some (.type "type")) (h4 : PySem.W.subIn K (.ref D) (.ref C) = some b) : PySem.W.exmOne K (.ref D) (.ref C) = some b := PySem.W.exm_ref h1 hdct ht h4
/-! ### Wp -/
section
variable {i : Nat} {hd : Er → Option (Option (M Fl))} {f : M Fl} {ρ ρ' : Rho} {Q : Fl → Rho → Prop} {E : Px} {C : Addr} {m : M Fl} {c : Er}
/-- what a suite ends with -/
def QH (i : Nat) (Q : Fl → Rho → Prop) : Fl → Rho → Prop
  | .rt (.o (.fz d)), ρ => isFree ρ i = true ∧ Q (.rt (.o (.fz d))) ρ
  | .rt _, _ => False
  | fl, ρ => isFree ρ i = true ∧ Q fl ρ
def EH (i : Nat) (hd : Er → Option (Option (M Fl))) (Q : Fl → Rho → Prop) (E : Px) : Px := fun c ρ => match hd c with
  | some (some m) => isFree ρ i = true ∧ Wp m ρ (QH i Q) fun _ _ => False
  | some none => E c ρ
  | none => False
theorem w_tryH (w : Wp f ρ Q (EH i hd Q E)) : Wp (sTryH i hd f) ρ Q E := by
  unfold Wp at w ⊢
  show Sat Q E (tryH i hd (f ρ))
  cases e : f ρ with
  | none => rw [e] at w; exact w
  | some o =>
    rw [e] at w
    cases o with
    | ok x ρ2 => exact w
    | ex c ρ2 =>
      have w : (match hd c with | some (some m) => isFree ρ2 i = true ∧ Wp m ρ2 (QH i Q) (fun _ _ => False) | some none => E c ρ2 | none => False) := w
      show Sat Q E (match hd c with | some (some m) => if isFree ρ2 i = true then hdEnd i (m ρ2) else none | some none => some (.ex c ρ2) | none => none)
      cases eh : hd c with
      | none => rw [eh] at w; exact w
      | some r =>
        rw [eh] at w
        cases r with
        | none => exact w
        | some m =>
          obtain ⟨h1, h2⟩ := w
          show Sat Q E (if isFree ρ2 i = true then hdEnd i (m ρ2) else none)
          rw [if_pos h1]
          unfold Wp at h2
          cases em : m ρ2 with
          | none => rw [em] at h2; exact h2.elim
          | some om =>
            rw [em] at h2
            cases om with
            | ex c2 ρ3 => exact h2.elim
            | ok fl ρ3 =>
              have h2 : QH i Q fl ρ3 := h2
              cases fl with
              | nx => show Sat Q E (if isFree ρ3 i = true then some (.ok .nx ρ3) else none); rw [if_pos h2.1]; exact h2.2
              | bk => show Sat Q E (if isFree ρ3 i = true then some (.ok .bk ρ3) else none); rw [if_pos h2.1]; exact h2.2
              | ct => show Sat Q E (if isFree ρ3 i = true then some (.ok .ct ρ3) else none); rw [if_pos h2.1]; exact h2.2
              | rt rf =>
                cases rf with
                | s j => exact h2.elim
                | o oo =>
                  cases oo with
                  | mu b mm => exact h2.elim
                  | fz d => show Sat Q E (if isFree ρ3 i = true then some (.ok (.rt (.o (.fz d))) ρ3) else none); rw [if_pos h2.1]; exact h2.2
/-- the error is one of the class C -/
theorem eh_yes (h : isFree ρ i = true) (w : Wp m ρ (QH i Q) fun _ _ => False) : EH i (hdYes C m hd) Q E C ρ := by
  show (match (if C = C ∧ (none : Option (List (Str × PyData))).isNone = true then some (some m) else hd C) with | some (some m) => isFree ρ i = true ∧ Wp m ρ (QH i Q) (fun _ _ => False) | some none => E C ρ | none => False)
  rw [if_pos ⟨rfl, rfl⟩]
  exact ⟨h, w⟩
end
end Vs
namespace Vs
open PySem PySem.Spec L2
theorem takes0N {X : Cx} : L2N.Takes X (fun _ _ _ _ => False) := fun _ _ ⟨_, _, _, _, _, _, _, _, _, _, _, _, _, _, _, _, z⟩ => z.elim
theorem zn_none {c : Addr} {C : Addr} {dd : Option Addr} {oe : Obj} (hz : L2N.Zn (.ref c) dd oe) (e1 : c = C) (e2 : dd = none) : L2N.Zn (.ref C) none oe := by
  subst e1 e2
  exact hz
theorem hu200S {X : Cx} {k : Nat} (hr : Room k X.A) {a : Addr} {pn : List (Addr × Obj)} : (X.suite a pn).A.units + 200 < cLine := by
  have := hr.un
  show X.A.units + 200 < cLine
  omega
theorem hu200H {k : Nat} {A : Around} (hr : L2H.RoomH k A) : A.units + 200 < cLine := by have := hr.un; omega
end Vs

/-! Vs: max(list of ints, default=n). -/
namespace Vs
open PySem PySem.Spec L2
def maxDf (n : Int) : List Int → Int
  | [] => n
  | m :: ms => ms.foldl max m
theorem depth_ints : ∀ ns : List Int, PyData.depthAll (ns.map PyData.int) = 0
  | [] => rfl
  | n :: ns => by
    rw [List.map_cons]
    show max 0 (PyData.depthAll (ns.map PyData.int)) = 0
    rw [depth_ints ns]
    rfl
theorem alike_ints (ns : List Int) : PySem.W.AlikeAll (ns.map PyData.int) := by
  refine ⟨fun x hx y hy => ?_, fun x hx => ?_⟩
  · obtain ⟨i, _, rfl⟩ := List.mem_map.mp hx
    obtain ⟨j, _, rfl⟩ := List.mem_map.mp hy
    rfl
  · obtain ⟨i, _, rfl⟩ := List.mem_map.mp hx
    intro z; cases z
def rMaxDf (K : PySem.W.Frag) : List V → List V → Hp → VK → Prop := fun vs zs H Q => ∃ (a : Addr) (ns : List Int) (n : Int), vs = [.ref a] ∧ zs = [.int n] ∧ SqL K H a (ns.map V.int) ∧ Q (.int (maxDf n ns)) H
theorem call_maxDf {X : Cx} (hc : X.calm = true) (hu : X.A.units + 200 < cLine) : CallRK X (.builtin "max") ["default"] (rMaxDf X.K) := by
  rintro pins s σ H xs zs us ws Q I r1 r2 ⟨a, ns, n, rfl, rfl, hs, q⟩
  match us, r1, ws, r2 with
  | [_], .cons rx .nil, [_], .cons rz .nil =>
    cases rx
    obtain ⟨t, rfl⟩ := rz
    obtain ⟨its, rv, hl, _⟩ := I.list hs
    obtain ⟨as, ra, _⟩ := RpA.reads I (rpInts (K := X.K) (F := H) ns) rv
    refine PySem.W.max_list_default (vs := its.toArray) (I.ok.hd hc) hl.isList (by simpa using ra) (alike_ints ns) (by rw [depth_ints]; omega) (fun e h' tk k => ?_) fun y ys i v h' tk bs e _ rd k => ?_
    · cases ns with
      | nil => exact ⟨.int n, H, I.kept (t' := tk) k, ⟨t, rfl⟩, q⟩
      | cons m ms => cases e
    · cases ns with
      | nil => cases e
      | cons m ms =>
        rw [List.map_cons] at e
        injection e with e1 e2
        subst e1 e2
        rw [PySem.W.maxD_ints] at rd
        cases rd
        exact ⟨.int (ms.foldl max m), H, I.kept (t' := tk) k, ⟨_, rfl⟩, q⟩
def mxD (n : Int) (x : Rf) : M Rf := fun ρ => match rdO ρ x with
  | some a => (match a.view with
    | .list ds => (match intsD ds with | some ns => some (.ok (.o (.fz (.int (maxDf n ns)))) ρ) | none => none)
    | _ => none)
  | none => none
def eMaxD (f : M Rf) (n : Int) : M Rf := f.bind (mxD n)
section
variable {X : Cx} {W : WX} {e : Expr} {f : M Rf} {pos p kp cp : Pos} {n : Int} {j : Nat}
theorem r_maxD (hc : X.calm = true) (hu : X.A.units + 200 < cLine) (hg : Gl X "max") (hm : X.mg "max" = none) (hv : bootBuiltins "max" = some (.builtin "max")) (ha : EvO X W e f)
    (hs : starEach [e] X.env = (false, eval e X.env) :: starEach [] X.env := by rfl)
    (he : backTo pos (starEach [e] X.env) = (false, eval e X.env) :: backTo pos (starEach [] X.env) := by rfl) (hpl : (backTo pos (starEach [e] X.env)).any (·.1) = false := by rfl) :
    EvO X W (.Call (.Name "max" p) [e] [⟨some "default", .Constant (.int n) j cp, kp⟩] pos) (eMaxD f n) :=
  peI (pe_callBK (call_maxDf hc hu) hg hm hv (pa_cons ha pa_nil hs) (pk_cons pe_int pk_nil) (by decide) (by decide) he hpl rfl rfl rfl) fun σ H Q ⟨ρ, F, r⟩ => ⟨ρ, F, r.bind.mono fun v H1 ⟨x, ρ1, F1, rx, p, p2, o, e2, q⟩ => by
    unfold mxD at e2
    split at e2
    · rename_i a ea
      have sl := slot_of p2.hd rx ea
      split at e2
      · rename_i ds ed
        split at e2
        · cases e2
          rename_i ns en
          obtain ⟨b, xs, rfl, h1, r1⟩ := sl.lst p2.hd.le ed
          have ex := ints_rp r1 en
          subst ex
          exact ⟨b, ns, n, rfl, rfl, h1, q _ F1 H1 p2 (.int _)⟩
        · cases e2
      · cases e2
    · cases e2⟩
theorem w_MaxD {ρ : Rho} {Q : Rf → Rho → Prop} {E : Px} (w : Wp f ρ (fun x ρ1 => Wp (mxD n x) ρ1 Q E) E) : Wp (eMaxD f n) ρ Q E := w_bind w
end
end Vs

/-! Vs: lists whose items are lists that are owned. -/
namespace Vs
open PySem PySem.Spec L2
section
variable {K : PySem.W.Frag} {S : Sta} {σ : L2.St} {ρ : Rho} {F F' H H' : Hp} {i : Nat}
/-- the item j of the list at slot i is changed in place -/
theorem Post.item (p : Post K S σ ρ F H) {b : Bool} {a : Addr} {vs : List V} {its : List Ch} {j : Nat} {ch ch' : Ch} {w : V} (hi : ρ[i]? = some (some (.mu b (.tre .lst its)))) (hσ : σ[i]? = some (some (.ref a)))
    (hH : H a = some (.lst vs)) (hj : its[j]? = some ch) (hw : vs[j]? = some w) (lf : Le F F') (le : Le F' H') (k : ∀ c o, H c = some o → c ∉ footC H ch w → H' c = some o ∧ (F c = none → F' c = none))
    (r : ChR K F' H' ch' w) (nw : ∀ c ∈ footC H' ch' w, c ∈ footC H ch w ∨ (New S c ∧ ¬ Own σ ρ H c)) : Post K S σ (ρ.set i (some (.mu b (.tre .lst (its.set j ch'))))) F' H' := by
  have sl := p.hd.slot hi hσ
  obtain ⟨a', o', e, ho, hf, vs', hn, r2, r3⟩ := sl
  cases e
  rw [hH] at ho; cases ho
  have hn : HO.lst vs = .lst vs' := hn
  cases hn
  obtain ⟨w', g1, g2, g3⟩ := r3.get hj
  rw [hw] at g1; cases g1
  have ft : foot H (.tre .lst its) (.ref a) = a :: footA H its vs := foot_tre hH rfl
  have ownA : ∀ c ∈ footA H its vs, Own σ ρ H c := fun c hc => ⟨i, b, _, _, hi, hσ, by rw [ft]; exact List.mem_cons_of_mem _ hc⟩
  have ownR : Own σ ρ H a := ⟨i, b, _, _, hi, hσ, by rw [ft]; exact List.mem_cons_self⟩
  have nra : a ∉ footC H ch w := fun z => r2 (g3 a z)
  obtain ⟨ka, kf⟩ := k a _ hH nra
  obtain ⟨q1, q2⟩ := ChX.put lf (H' := H') (ch' := ch') (w' := w) r3 hj hw (fun c hc n => by
    obtain ⟨⟨u, hu⟩, hfc⟩ := ChX.at_ its _ r3 c hc
    obtain ⟨k1, k2⟩ := k c u hu n
    exact ⟨k1.trans hu.symm, k2 hfc⟩) r fun c hc => (nw c hc).imp id fun z q => z.2 (ownA c q)
  have hset : vs.set j w = vs := by
    apply List.ext_getElem?
    intro n
    by_cases hn : n = j
    · subst hn
      rw [List.getElem?_set_self (List.getElem?_eq_some_iff.mp hw).1, hw]
    · rw [List.getElem?_set_ne (Ne.symm hn)]
  rw [hset] at q1 q2
  have ft' : foot H' (.tre .lst (its.set j ch')) (.ref a) = a :: footA H' (its.set j ch') vs := foot_tre ka rfl
  refine p.wr hi hσ lf le (fun c o hc n => k c o hc fun z => n (by rw [ft]; exact List.mem_cons_of_mem _ (g3 c z))) ⟨a, _, rfl, ka, kf hf, vs, rfl, fun z => ?_, q1⟩ fun c hc => ?_
  · rcases q2 a z with y | y
    · exact r2 y
    · rcases nw a y with x | x
      · exact nra x
      · exact x.2 ownR
  · rw [ft'] at hc
    rw [ft]
    rcases List.mem_cons.mp hc with z | z
    · exact .inl (z ▸ List.mem_cons_self)
    · rcases q2 c z with y | y
      · exact .inl (List.mem_cons_of_mem _ y)
      · rcases nw c y with x | x
        · exact .inl (List.mem_cons_of_mem _ (g3 c x))
        · exact .inr x
end
/-- the item of the list at slot i, read as data (and frozen) -/
def ixF (i : Nat) (y : Rf) : M Rf := fun ρ => match rdO ρ y with
  | some b => (match b.view with
    | .int k => (match ρ[i]? with
      | some (some (.mu c (.tre .lst its))) => if 0 ≤ k then (match its[k.toNat]? with
        | some (.fz d) => some (.ok (.o (.fz d)) ρ)
        | some (.mu m) => (match m.fr with | some d => some (.ok (.o (.fz d)) (ρ.set i (some (.mu c (.tre .lst (its.set k.toNat (.fz d))))))) | none => none)
        | none => none) else none
      | _ => none)
    | _ => none)
  | none => none
def isMu (ρ : Rho) (i : Nat) : Bool := match ρ[i]? with
  | some (some (.mu _ _)) => true
  | _ => false
def eIxF (i : Nat) (g : M Rf) : M Rf := fun ρ => if isMu ρ i = true then (g.bind fun y => ixF i y) ρ else none
section
variable {X : Cx} {W : WX} {pos np : Pos} {x : Str} {e : Expr} {i : Nat} {g : M Rf}
theorem r_ixF (hx : PE X (.Name x np) (tVar i)) (hb : EvO X W e g) (hs : PlainIx e) : EvO X W (.Subscript (.Name x np) e pos) (eIxF i g) :=
  peI (pe_ix ix_seq hx hb hs) fun σ H Q ⟨ρ, F, p0, o0, e0, q0⟩ => by
    unfold eIxF at e0
    split at e0
    · rename_i hm
      unfold isMu at hm
      split at hm
      · rename_i b0 m0 hi0
        obtain ⟨v, hv, _⟩ := p0.hd.at_ i _ hi0
        have r : Run X.K W (RfR X.K) ⟨σ, ρ, F, H⟩ (g.bind fun y => ixF i y) ρ F H Q := ⟨p0, o0, e0, q0⟩
        refine ⟨v, hv, ρ, F, r.bind.mono fun w H2 ⟨y, ρ2, F2, ry, p2, r2⟩ => ?_⟩
        obtain ⟨p3, o, e, q⟩ := r2
        unfold ixF at e
        split at e
        · rename_i bo hbo
          split at e
          · rename_i k hk
            split at e
            · rename_i c its hi
              split at e
              · rename_i hk0
                obtain ⟨v', hv', a, u, rfl, hu, hf, vs, hn, h5, h6⟩ := p3.hd.at_ i _ hi
                have hv'' : σ[i]? = some (some (.ref a)) := hv'
                rw [hv] at hv''; cases hv''
                have hn : u = .lst vs := hn
                subst hn
                have hw : w = .int k := (slot_of p3.hd ry hbo).int hk
                split at e
                · rename_i d hd
                  cases e
                  obtain ⟨z, g1, g2, g3⟩ := h6.get hd
                  exact .inl ⟨a, vs, k, z, rfl, hw, .of hu, atI_of hk0 g1, q z F2 H2 p3 g2⟩
                · rename_i m hm'
                  split at e
                  · rename_i d hd
                    cases e
                    obtain ⟨z, g1, g2, g3⟩ := h6.get hm'
                    have g2' := g2
                    obtain ⟨a', u, rfl, hu', hf', r⟩ := g2
                    have rR := r.fr hd
                    cases Mu.fr_view hd
                    have rr : Rp X.K (upd F2 a' u) (.ref a') m.view := (rR.mono (Le.ofNew hf')).view upd_same (Le.refl _)
                    refine .inl ⟨a, vs, k, .ref a', rfl, hw, .of hu, atI_of hk0 g1, q _ (upd F2 a' u) H2 ?_ rr⟩
                    refine p3.item (ch' := .fz m.view) hi hv' hu hm' g1 (Le.ofNew hf') (p3.hd.le.frz hu' fun _ _ => Mu.noFrz rR) (fun c o hc nc => ⟨hc, fun fc => ?_⟩) rr fun c hc => by cases hc
                    have : c ≠ a' := by rintro rfl; exact nc foot_root
                    rw [upd_ne this]; exact fc
                  · cases e
                · cases e
              · cases e
            · cases e
          · cases e
        · cases e
      · cases hm
    · cases e0
end
/-! ### an item taken out of a list that was just made -/
def ixM (x y : Rf) : M Rf := fun ρ => match x, rdO ρ y with
  | .o (.mu false (.tre .lst its)), some b => (match b.view with
    | .int k => if 0 ≤ k then (match its[k.toNat]? with
      | some (.fz d) => some (.ok (.o (.fz d)) ρ)
      | some (.mu m) => some (.ok (.o (.mu false m)) ρ)
      | none => none) else none
    | _ => none)
  | _, _ => none
def eIxM (f g : M Rf) : M Rf := f.bind fun x => g.bind fun y => ixM x y
/-- [e], e owned -/
def ls1 (x : Rf) : M Rf := fun ρ => match x with
  | .o (.mu false m) => some (.ok (.o (.mu false (.tre .lst [.mu m]))) ρ)
  | _ => none
def eLs1 (f : M Rf) : M Rf := f.bind ls1
/-- x.append(y), y's list is handed over -/
def sApM (i j : Nat) : M Fl := fun ρ => match ρ[i]?, ρ[j]? with
  | some (some (.mu b (.tre .lst its))), some (some (.mu false m)) => if i ≠ j ∧ its.length < 16777216 then some (.ok .nx ((ρ.set j none).set i (some (.mu b (.tre .lst (its ++ [.mu m])))))) else none
  | _, _ => none
section
variable {K : PySem.W.Frag} {S : Sta} {σ : L2.St} {ρ : Rho} {F F' H H' : Hp} {i j : Nat}
/-- a slot that is owned is forgotten -/
theorem Post.dropS (p : Post K S σ ρ F H) {m : Mu} (hj : ρ[j]? = some (some (.mu false m))) : Post K S σ (ρ.set j none) F H := by
  have sub : ∀ c, Own σ (ρ.set j none) H c → Own σ ρ H c := by
    rintro c ⟨k, b', m', v, e, q, hc⟩
    rcases get_set e with ⟨_, z⟩ | ⟨_, z⟩
    · cases z
    · exact ⟨k, b', m', v, z, q, hc⟩
  refine ⟨⟨p.hd.le, by rw [List.length_set]; exact p.hd.len, fun k o e => ?_, fun k l b m1 b' m2 v v' c e1 e2 s1 s2 h1 h2 => ?_⟩, p.le, p.keep, p.nofz, fun b q => p.own b (sub b q), fun k m1 e => ?_⟩
  · rcases get_set e with ⟨_, z⟩ | ⟨_, z⟩
    · cases z
    · exact p.hd.at_ k o z
  · rcases get_set e1 with ⟨_, z⟩ | ⟨_, z1⟩
    · cases z
    · rcases get_set e2 with ⟨_, z⟩ | ⟨_, z2⟩
      · cases z
      · exact p.hd.sep k l b m1 b' m2 v v' c z1 z2 s1 s2 h1 h2
  · obtain ⟨e1, m', e2⟩ := p.bor k m1 e
    have : k ≠ j := by rintro rfl; rw [hj] at e2; cases e2
    exact ⟨e1, m', by rw [set_ne this]; exact e2⟩
theorem Post.snocS (p : Post K S σ ρ F H) {b : Bool} {m : Mu} {its : List Ch} {a : Addr} {vs : List V} {w : V} (hij : i ≠ j) (hi : ρ[i]? = some (some (.mu b (.tre .lst its)))) (hj : ρ[j]? = some (some (.mu false m))) (hσ : σ[i]? = some (some (.ref a))) (hτ : σ[j]? = some (some w)) (hH : H a = some (.lst vs)) :
    Post K S σ ((ρ.set j none).set i (some (.mu b (.tre .lst (its ++ [.mu m]))))) F (upd H a (.lst (vs ++ [w]))) := by
  have hi' : (ρ.set j none)[i]? = some (some (.mu b (.tre .lst its))) := by rw [set_ne hij]; exact hi
  obtain ⟨a0, u0, e0, hu0, hf, vs', hn, r2, r3⟩ := p.hd.slot hi hσ
  cases e0
  rw [hH] at hu0; cases hu0
  have hn : HO.lst vs = .lst vs' := hn
  cases hn
  obtain ⟨a', u, rfl, hu, hf', rm⟩ := p.hd.slot hj hτ
  have ft : foot H (.tre .lst its) (.ref a) = a :: footA H its vs := foot_tre hH rfl
  have dis : ∀ c ∈ foot H m (.ref a'), c ∉ foot H (.tre .lst its) (.ref a) := fun c h1 h2 => hij (p.hd.sep i j b _ false m _ _ c hi hj hσ hτ h2 h1)
  have dis0 : ∀ c ∈ foot H m (.ref a'), c ≠ a ∧ c ∉ footA H its vs := fun c h => by
    have := dis c h
    rw [ft] at this
    exact ⟨fun e => this (e ▸ List.mem_cons_self), fun e => this (List.mem_cons_of_mem _ e)⟩
  have ownj : ∀ c ∈ foot H m (.ref a'), New S c ∧ ¬ Own σ (ρ.set j none) H c := fun c hc => ⟨p.own c ⟨j, false, m, _, hj, hτ, hc⟩, by
    rintro ⟨k, b', m', v, e, q, hk⟩
    rcases get_set e with ⟨_, z⟩ | ⟨ne, z⟩
    · cases z
    · exact ne (p.hd.sep k j b' m' false m v _ c z hj q hτ hk hc)⟩
  obtain ⟨s1, s2⟩ := ChX.stay (Le.refl F) (H' := upd H a (.lst (vs ++ [.ref a']))) its vs r3 fun c hc => ⟨upd_ne (by rintro rfl; exact r2 hc), (ChX.at_ its vs r3 c hc).2⟩
  obtain ⟨t1, t2⟩ := MuT.stay (Le.refl F) (H' := upd H a (.lst (vs ++ [.ref a']))) m a' u rm hu fun c hc => ⟨upd_ne (dis0 c hc).1, (MuT.at_ m a' u rm hu hf' c hc).2⟩
  have ha' : (upd H a (.lst (vs ++ [V.ref a']))) a' = some u := by rw [upd_ne (dis0 a' foot_root).1]; exact hu
  obtain ⟨q1, q2⟩ := ChX.snoc s1 (ch := .mu m) (w := .ref a') ⟨a', u, rfl, ha', hf', t1⟩ fun c hc => by
    have hc : c ∈ foot (upd H a (.lst (vs ++ [.ref a']))) m (.ref a') := hc
    rw [t2] at hc
    rw [s2]
    exact (dis0 c hc).2
  have ft' : foot (upd H a (.lst (vs ++ [.ref a']))) (.tre .lst (its ++ [.mu m])) (.ref a) = a :: footA (upd H a (.lst (vs ++ [.ref a']))) (its ++ [.mu m]) (vs ++ [.ref a']) := foot_tre upd_same rfl
  refine (p.dropS hj).wr hi' hσ (Le.refl F) (p.hd.le.updH hf) (fun c o hc n => ⟨?_, id⟩) ⟨a, _, rfl, upd_same, hf, vs ++ [V.ref a'], rfl, fun z => ?_, q1⟩ fun c hc => ?_
  · have : c ≠ a := by rintro rfl; exact n foot_root
    rw [upd_ne this]; exact hc
  · rcases q2 a z with y | y
    · rw [s2] at y; exact r2 y
    · have y : a ∈ foot (upd H a (.lst (vs ++ [.ref a']))) m (.ref a') := y
      rw [t2] at y
      exact (dis0 a y).1 rfl
  · rw [ft'] at hc
    rcases List.mem_cons.mp hc with e | hc
    · rw [e]; exact .inl foot_root
    · rcases q2 c hc with y | y
      · rw [s2] at y
        exact .inl (by rw [ft]; exact List.mem_cons_of_mem _ y)
      · have y : c ∈ foot (upd H a (.lst (vs ++ [.ref a']))) m (.ref a') := y
        rw [t2] at y
        exact .inr (ownj c y)
end
section
variable {X : Cx} {W : WX} {pos np np2 apos cpos : Pos} {x y : Str} {a b : Expr} {i j : Nat} {f g : M Rf}
theorem r_ixM (ha : EvO X W a f) (hb : EvO X W b g) (hs : PlainIx b) : EvO X W (.Subscript a b pos) (eIxM f g) :=
  peI (pe_ix ix_seq ha hb hs) fun σ H Q ⟨ρ, F, r⟩ => ⟨ρ, F, r.bind.mono fun v H1 ⟨x, ρ1, F1, rx, p, r1⟩ => ⟨ρ1, F1, r1.bind.mono fun w H2 ⟨y, ρ2, F2, ry, p2, r2⟩ => by
    have rx2 := rx.stay p2
    obtain ⟨p3, o, e, q⟩ := r2
    unfold ixM at e
    split at e
    · rename_i its bo hbo hx
      obtain ⟨_, ⟨ad, u, rfl, hu, hf, vs, hn, h5, h6⟩, fr⟩ := rx2
      have hn : u = .lst vs := hn
      subst hn
      have ft : foot H2 (.tre .lst its) (.ref ad) = ad :: footA H2 its vs := foot_tre hu rfl
      split at e
      · rename_i k hk
        split at e
        · rename_i hk0
          have hw : w = .int k := (slot_of p3.hd (rfOk.up p ry) hbo).int hk
          split at e
          · rename_i d hd
            cases e
            obtain ⟨z, g1, g2, g3⟩ := h6.get hd
            exact .inl ⟨ad, vs, k, z, rfl, hw, .of hu, atI_of hk0 g1, q z F2 H2 p3 g2⟩
          · rename_i m hm
            cases e
            obtain ⟨z, g1, g2, g3⟩ := h6.get hm
            obtain ⟨a', u', rfl, hu', hf', r⟩ := g2
            exact .inl ⟨ad, vs, k, .ref a', rfl, hw, .of hu, atI_of hk0 g1, q _ F2 H2 p3 ⟨rfl, ⟨a', u', rfl, hu', hf', r⟩, fun c hc => fr c (by rw [ft]; exact List.mem_cons_of_mem _ (g3 c hc))⟩⟩
          · cases e
        · cases e
      · cases e
    · cases e⟩⟩
theorem r_ls1 (ha : EvO X W a f) (hs : starEach (a :: []) X.env = (false, eval a X.env) :: starEach [] X.env := by rfl) : EvO X W (.List [a] pos) (eLs1 f) :=
  peI (pe_lst (pa_cons ha pa_nil hs)) fun σ H Q ⟨ρ, F, r⟩ => ⟨ρ, F, r.bind.mono fun v H1 ⟨x, ρ1, F1, rx, p, p1, o, e, q⟩ => by
    unfold ls1 at e
    split at e
    · rename_i m
      cases e
      obtain ⟨_, ⟨ad, u, rfl, hu, hf, r⟩, fr⟩ := rx
      refine ⟨by rw [slen]; simp, fun b n => ?_⟩
      have hb : ∀ c ∈ foot H1 m (.ref ad), c ≠ b := fun c hc e => by
        obtain ⟨⟨u', hu'⟩, _⟩ := MuT.at_ m ad u r hu hf c hc
        rw [e, n] at hu'; cases hu'
      obtain ⟨t1, t2⟩ := MuT.stay (Le.refl F1) (H' := upd H1 b (.lst [.ref ad])) m ad u r hu fun c hc => ⟨upd_ne (hb c hc), (MuT.at_ m ad u r hu hf c hc).2⟩
      have hu2 : (upd H1 b (.lst [V.ref ad])) ad = some u := by rw [upd_ne (hb ad foot_root)]; exact hu
      have fb : F1 b = none := p1.gone n
      have ch : ChX X.K F1 (upd H1 b (.lst [.ref ad])) [.mu m] [.ref ad] := chX_cons.mpr ⟨⟨ad, u, rfl, hu2, hf, t1⟩, fun c _ q => (by simp [footA] at q), by simp only [ChX]⟩
      have fA : footA (upd H1 b (.lst [.ref ad])) [.mu m] [.ref ad] = foot H1 m (.ref ad) := by
        rw [footA_cons]
        show foot _ m (.ref ad) ++ footA _ [] [] = _
        rw [t2]; simp [footA]
      have ft : foot (upd H1 b (.lst [.ref ad])) (.tre .lst [.mu m]) (.ref b) = b :: foot H1 m (.ref ad) := by rw [foot_tre (o := .lst [V.ref ad]) (n := .lst) (vs := [V.ref ad]) upd_same rfl, fA]
      refine q _ F1 _ (p1.newO n) ⟨rfl, ⟨b, _, rfl, upd_same, fb, [.ref ad], rfl, fun z => ?_, ch⟩, fun c hc => ?_⟩
      · rw [fA] at z; exact hb b z rfl
      · rw [ft] at hc
        rcases List.mem_cons.mp hc with e | hc
        · rw [e]; exact ⟨p1.new (.inr n), p1.hd.notOwnNew n⟩
        · refine ⟨(fr c hc).1, fun z => (fr c hc).2 ?_⟩
          exact p1.hd.kept (Le.refl F1) (p1.hd.le.updH fb) (fun b' o' e' => ⟨by rw [upd_ne (ne_of_none e' n)]; exact e', id⟩) c z
    · cases e⟩
theorem r_apM (ho : PE X (.Name x np) (tVar i)) (ha : PE X (.Name y np2) (tVar j)) (hbase : attributeBase (.Name x np) "append" X.env (eval (.Name x np) X.env) = eval (.Name x np) X.env := by rfl)
    (hfew : ((backTo cpos (starEach ((.Name y np2) :: []) X.env)).all (fun x => !x.1) && (backToKw cpos (keywordEach [] X.env)).all (fun x => x.1.isSome)
      && decide (((.Name y np2) :: ([] : List Expr)).length + ([] : List Keyword).length + (if ([] : List Keyword).isEmpty then 0 else 1) < 30)) = true := by rfl)
    (hline : (apos.endLine == cpos.line) = true := by rfl) (hs : starEach ((.Name y np2) :: []) X.env = (false, eval (.Name y np2) X.env) :: starEach [] X.env := by rfl) (hplain : (backTo cpos (starEach [] X.env)).any (·.1) = false := by rfl)
    (hsw : swapsWith (.Call (.Attribute (.Name x np) "append" apos) [.Name y np2] [] cpos) none pos.line X.env = pure false := by rfl) :
    EvS X W (.Expr (.Call (.Attribute (.Name x np) "append" apos) [.Name y np2] [] cpos) pos) (sApM i j) :=
  psI (ps_expr (pe_bm PySem.F.plainAttrs_list PySem.F.slot_list_append PySem.F.type_list_append mt_append ho (pa_cons ha pa_nil hs) hbase hfew hline hs hplain) hsw) fun D σ H ⟨ρ, F, p, o, e, q⟩ => by
    unfold sApM at e
    split at e
    · rename_i b its m hi hj
      split at e
      · rename_i hc
        cases e
        obtain ⟨v, hv, ad, u, rfl, hu, hf, vs, hn, h5, h6⟩ := p.hd.at_ i _ hi
        have hn : u = .lst vs := hn
        subst hn
        obtain ⟨w, hw, _⟩ := p.hd.at_ j _ hj
        refine ⟨.ref ad, hv, .inl ⟨rfl, vs, .of hu⟩, w, hw, ad, vs, w, rfl, rfl, hu, by rw [slen, ← h6.len]; exact hc.2, ?_⟩
        exact q σ F _ (p.snocS hc.1 hi hj hv hw hu)
      · cases e
    · cases e
end
end Vs

/-! Vs: comprehensions of two clauses. -/
namespace Vs
open PySem PySem.Spec L2
theorem lcF_read {K : PySem.W.Frag} {g : TG} {h : PyData → M Fl} {ft : M Bool} {fe : M PyData} {vs : List Nat} {S : Sta} {τ : L2.St} {ρ0 : Rho} {F H : Hp} {J : It} {ds : List PyData} {acc0 ys : List PyData} {xs0 : List V} {ρe : Rho} (tg : TgR K g h) (tw : TgW g vs) (gmono : TgM g) (hτ : wipe τ vs = τ)
    (p0 : Post K S τ ρ0 F H) (hw0 : ∀ i ∈ vs, ∀ o, ρ0[i]? ≠ some (some o)) {D : Addr} (hf0 : F D = none) (no0 : ¬ Own τ ρ0 H D) (hH0 : H D = some (.lst xs0)) (ra0 : RpA K F xs0 acc0) (nwD : New S D) (el0 : lcF vs h ft fe ds acc0 ρ0 = some (.ok ys ρe)) (ir : ItR K F J ds) :
    ∃ Wv : Nat → Nat → Hp → Prop, (∃ m, Wv 0 m H) ∧ ∀ i m H', Wv i m H' → (J.stop i H' ∧ ∃ (xs : List V) (F' : Hp), Le F F' ∧ Post K S τ ρe F' H' ∧ F' D = none ∧ ¬ Own τ ρe H' D ∧ H' D = some (.lst xs) ∧ RpA K F' xs ys) ∨ (J.go i H' ∧ ∃ Nx : Hp → Prop, (∀ H', Nx H' → ∃ m', m' < m ∧ Wv (i + 1) m' H') ∧
      ∀ x H2, J.yld i H' x H2 → g x τ H2 fun σ2 H2 => wipe σ2 vs = τ ∧ tG K W0 (BR K) ft σ2 H2 fun b H3 => if b = true then tG K W0 (DR K) fe σ2 H3 fun y H4 => ∃ acc, H4 D = some (.lst acc) ∧ acc.length < sizeLine ∧ Nx (upd H4 D (.lst (acc ++ [y]))) else Nx H3) := by
  -- the state between two turns
  let Mid : Nat → Hp → Prop := fun i H' => ∃ (acc : List PyData) (xs : List V) (ρ' : Rho) (F' : Hp), Le F F' ∧ Post K S τ ρ' F' H' ∧ (∀ i ∈ vs, ∀ o, ρ'[i]? ≠ some (some o)) ∧ F' D = none ∧ ¬ Own τ ρ' H' D ∧ H' D = some (.lst xs) ∧ RpA K F' xs acc ∧ lcF vs h ft fe (ds.drop i) acc ρ' = some (.ok ys ρe)
  refine ⟨fun i m H' => m = ds.length - i ∧ i ≤ ds.length ∧ Mid i H', ⟨ds.length, rfl, Nat.zero_le _, acc0, xs0, ρ0, F, Le.refl _, p0, hw0, hf0, no0, hH0, ra0, el0⟩, ?_⟩
  rintro i m H' ⟨rfl, hi, acc, xs, ρ', F', le, p, hw, hf, no, hH, ra, el⟩
  by_cases hlt : i < ds.length
  · refine .inr ⟨ir.go i F' H' hlt le p.hd.le, Mid (i + 1), fun H2 hm => ⟨ds.length - (i + 1), by omega, rfl, hlt, hm⟩, fun x H2 y => ?_⟩
    have hd : ds[i]? = some ds[i] := List.getElem?_eq_getElem hlt
    obtain ⟨F2, p2, le2, rx, kp⟩ := ir.yld i _ _ _ _ _ _ _ _ hd le p y
    have ed : ds.drop i = ds[i] :: ds.drop (i + 1) := List.drop_eq_getElem_cons hlt
    rw [ed] at el
    have el : lcH vs ft fe acc (lcF vs h ft fe (ds.drop (i + 1))) (h ds[i] ρ') = some (.ok ys ρe) := el
    obtain ⟨hH2, hf2⟩ := kp D _ hH
    have no1 : ¬ Own (τ) ρ' H2 D := fun z => no (p.hd.kept le2 p2.hd.le kp D z)
    -- the turn's end: what is known at any later state of it
    have fin : ∀ (σ5 : L2.St) (ρ5 : Rho) (F5 H5 : Hp) (acc' : List PyData) (xs' : List V), wipe σ5 vs = τ → Post K ⟨τ, ρ', F2, H2⟩ σ5 ρ5 F5 H5 → freeV ρ5 vs = true → ∀ H6, (H6 = H5 ∨ ∃ u, H6 = upd H5 D u) → H6 D = some (.lst xs') → RpA K F5 xs' acc' →
        lcF vs h ft fe (ds.drop (i + 1)) acc' (wipeR ρ5 vs) = some (.ok ys ρe) → Mid (i + 1) H6 := by
      intro σ5 ρ5 F5 H5 acc' xs' ew p5 fv H6 h6 hD6 ra' el'
      have pw := (p2.trans p5).wipe fv
      rw [ew] at pw
      have no2 : ¬ Own (τ) ρ' H2 D := no1
      have hf5 : F5 D = none := p5.nofz D _ hH2 no2 (hf2 hf)
      have no5 : ¬ Own σ5 ρ5 H5 D := p5.not hH2 no2
      have no6 : ¬ Own (τ) (wipeR ρ5 vs) H5 D := fun ⟨j, b, mm, w, e1, s1, k1⟩ => no5 ⟨j, b, mm, w, (wipeR_get.mp e1).1, by rw [← ew] at s1; exact (wipe_some s1).1, k1⟩
      refine ⟨acc', xs', wipeR ρ5 vs, F5, le.trans (le2.trans p5.le), ?_, wipeR_self, hf5, ?_, hD6, ra', el'⟩
      · rcases h6 with rfl | ⟨u, rfl⟩
        · exact pw
        · exact pw.wrT hf5 no6 nwD
      · rcases h6 with rfl | ⟨u, rfl⟩
        · exact no6
        · exact fun z => no6 ((pw.hd.offUpd hf5 no6).2 D z)
    have wants : g x (τ) H2 fun σ2 H2 => wipe σ2 vs = wipe τ vs ∧ (wipe σ2 vs = τ → tG K W0 (BR K) ft σ2 H2 fun b H3 => if b = true then tG K W0 (DR K) fe σ2 H3 fun y H4 => ∃ acc, H4 D = some (.lst acc) ∧ acc.length < sizeLine ∧ Mid (i + 1) (upd H4 D (.lst (acc ++ [y]))) else Mid (i + 1) H3) := by
      refine tw _ _ _ _ ?_
      cases eh : h ds[i] ρ' with
      | none => rw [eh] at el; cases el
      | some oh =>
        cases oh with
        | ex c ρ3 => rw [eh] at el; cases el
        | ok fl ρ3 =>
          cases fl with
          | bk => rw [eh] at el; cases el
          | ct => rw [eh] at el; cases el
          | rt _ => rw [eh] at el; cases el
          | nx =>
            rw [eh] at el
            have el : lcT vs fe acc (lcF vs h ft fe (ds.drop (i + 1))) (ft ρ3) = some (.ok ys ρe) := el
            refine tg W0 ⟨τ, ρ', F2, H2⟩ _ ρ' F2 H2 x _ ⟨_, fun _ _ => False, fun _ _ => False, fun _ _ => False⟩ ⟨Post.refl p2.hd, _, eh, fun σ4 F4 H4 p4 ew => ?_⟩ rx
            cases et : ft ρ3 with
            | none => rw [et] at el; cases el
            | some ot =>
              refine ⟨ρ3, F4, Post.refl p4.hd, ot, et, ?_⟩
              rw [et] at el
              cases ot with
              | ex c ρ4 => cases el
              | ok b ρ4 =>
                intro b' F5 H5 p5 eb
                have eb : b' = b := eb
                subst eb
                have p45 := p4.trans p5
                cases b' with
                | false =>
                  have el : (if freeV ρ4 vs = true then lcF vs h ft fe (ds.drop (i + 1)) acc (wipeR ρ4 vs) else none) = some (.ok ys ρe) := el
                  rw [if_neg Bool.false_ne_true]
                  split at el
                  next fv => exact fin σ4 ρ4 F5 H5 acc xs ew p45 fv H5 (.inl rfl) (p45.keep D _ hH2 no1) (RpA.mono (le2.trans p45.le) ra) el
                  next => cases el
                | true =>
                  have el : lcE vs acc (lcF vs h ft fe (ds.drop (i + 1))) (fe ρ4) = some (.ok ys ρe) := el
                  rw [if_pos rfl]
                  cases ee : fe ρ4 with
                  | none => rw [ee] at el; cases el
                  | some oe =>
                    refine ⟨ρ4, F5, Post.refl p5.hd, oe, ee, ?_⟩
                    rw [ee] at el
                    cases oe with
                    | ex c ρ6 => cases el
                    | ok y ρ6 =>
                      intro yv F6 H6 p6 ry
                      have el : (if acc.length < 16777216 ∧ freeV ρ6 vs = true then lcF vs h ft fe (ds.drop (i + 1)) (acc ++ [y]) (wipeR ρ6 vs) else none) = some (.ok ys ρe) := el
                      split at el
                      next hc =>
                        have p46 := p45.trans p6
                        exact ⟨xs, p46.keep D _ hH2 no1, by rw [slen, ra.len]; exact hc.1, fin σ4 ρ6 F6 H6 (acc ++ [y]) (xs ++ [yv]) ew p46 hc.2 _ (.inr ⟨_, rfl⟩) upd_same ((RpA.mono (le2.trans p46.le) ra).app (.cons ry .nil)) el⟩
                      next => cases el
    refine gmono _ _ _ _ _ (fun σ2 H3 ⟨e1, q1⟩ => ?_) wants
    rw [hτ] at e1
    exact ⟨e1, q1 e1⟩
  · have hi2 : i = ds.length := by omega
    subst hi2
    rw [List.drop_length] at el
    cases el
    exact .inl ⟨ir.stop F' H' le p.hd.le, xs, F', le, p, hf, no, hH, ra⟩
theorem wipe_sub {vs1 vs : List Nat} (hv : ∀ i ∈ vs1, i ∈ vs) {σ : L2.St} : wipe (wipe σ vs1) vs = wipe σ vs := by
  apply List.ext_getElem?
  intro i
  by_cases h : i ∈ vs
  · have len : ∀ (τ : L2.St), τ.length = σ.length → (wipe τ vs)[i]? = if i < σ.length then some none else none := by
      intro τ hτ
      by_cases hi : i < σ.length
      · rw [if_pos hi]
        cases e : (wipe τ vs)[i]? with
        | none =>
          have := List.getElem?_eq_none_iff.mp e
          rw [wipe_length, hτ] at this
          omega
        | some y =>
          cases y with
          | none => rfl
          | some v => exact absurd h (wipe_some e).2
      · rw [if_neg hi, List.getElem?_eq_none (by rw [wipe_length, hτ]; omega)]
    rw [len _ (wipe_length _ _), len σ rfl]
  · rw [wipe_out h, wipe_out h, wipe_out fun z => h (hv i z)]
def lc2I (vs vs1 : List Nat) (h1 : PyData → M Fl) (ft1 : M Bool) (fe : M PyData) (acc : List PyData) (next : List PyData → Rho → Option (Out (List PyData))) : Option (Out (List PyData)) → Option (Out (List PyData))
  | some (.ok es ρ3) => if freeV ρ3 vs1 = true then (match lcF vs1 h1 ft1 fe es acc (wipeR ρ3 vs1) with
    | some (.ok acc' ρ4) => if freeV ρ4 vs = true then next acc' (wipeR ρ4 vs) else none
    | _ => none) else none
  | _ => none
def lc2T (vs vs1 : List Nat) (fi1 : M (List PyData)) (h1 : PyData → M Fl) (ft1 : M Bool) (fe : M PyData) (acc : List PyData) (next : List PyData → Rho → Option (Out (List PyData))) : Option (Out Bool) → Option (Out (List PyData))
  | some (.ok true ρ') => lc2I vs vs1 h1 ft1 fe acc next (fi1 ρ')
  | some (.ok false ρ') => if freeV ρ' vs = true then next acc (wipeR ρ' vs) else none
  | _ => none
def lc2H (vs vs1 : List Nat) (ft : M Bool) (fi1 : M (List PyData)) (h1 : PyData → M Fl) (ft1 : M Bool) (fe : M PyData) (acc : List PyData) (next : List PyData → Rho → Option (Out (List PyData))) : Option (Out Fl) → Option (Out (List PyData))
  | some (.ok .nx ρ') => lc2T vs vs1 fi1 h1 ft1 fe acc next (ft ρ')
  | _ => none
def lc2F (vs vs1 : List Nat) (h : PyData → M Fl) (ft : M Bool) (fi1 : M (List PyData)) (h1 : PyData → M Fl) (ft1 : M Bool) (fe : M PyData) : List PyData → List PyData → Rho → Option (Out (List PyData))
  | [], acc, ρ => some (.ok acc ρ)
  | d :: ds, acc, ρ => lc2H vs vs1 ft fi1 h1 ft1 fe acc (lc2F vs vs1 h ft fi1 h1 ft1 fe ds) (h d ρ)
/-- [e for .. in ds if .. for .. in fi1 if ..] -/
def lc2M (vs vs1 : List Nat) (h : PyData → M Fl) (ft : M Bool) (fi1 : M (List PyData)) (h1 : PyData → M Fl) (ft1 : M Bool) (fe : M PyData) (ds : List PyData) : M Rf := fun ρ => if freeV ρ vs = true then (match lc2F vs vs1 h ft fi1 h1 ft1 fe ds [] (wipeR ρ vs) with
  | some (.ok ys ρ') => some (.ok (.o (.mu false (.lst ys))) (backR ρ ρ' vs))
  | _ => none) else none
theorem lc2_read {K : PySem.W.Frag} {W : WX} {g g1 : TG} {h h1 : PyData → M Fl} {ft ft1 : M Bool} {fi1 : M (List PyData)} {fe : M PyData} {vs vs1 : List Nat} {S : Sta} {ρ : Rho} {F H : Hp} {Q : VK} {J : It} {ds : List PyData} (hvs : ∀ i ∈ vs1, i ∈ vs) (tg : TgR K g h) (tw : TgW g vs) (gmono : TgM g) (tg1 : TgR K g1 h1) (tw1 : TgW g1 vs1) (gmono1 : TgM g1)
    (r : Run K W (RfR K) S (lc2M vs vs1 h ft fi1 h1 ft1 fe ds) ρ F H Q) (ir : ItR K F J ds) (D : Addr) (hD : H D = none) :
    ∃ Wv : Nat → Nat → Hp → Prop, (∃ m, Wv 0 m (upd H D (.lst []))) ∧ ∀ i m H, Wv i m H → (J.stop i H ∧ Q (.ref D) H) ∨ (J.go i H ∧ ∃ Nx : Hp → Prop, (∀ H', Nx H' → ∃ m', m' < m ∧ Wv (i + 1) m' H') ∧
      ∀ x H', J.yld i H x H' → g x (wipe S.σ vs) H' fun σ2 H2 => wipe σ2 vs = wipe S.σ vs ∧ tG K W0 (BR K) ft σ2 H2 fun b H3 => if b = true then tG K W0 (IR K) fi1 σ2 H3 fun J1 H4 => ∃ W1 : Nat → Nat → Hp → Prop, (∃ m, W1 0 m H4) ∧ ∀ j k H, W1 j k H →
        (J1.stop j H ∧ Nx H) ∨ (J1.go j H ∧ ∃ Nx1 : Hp → Prop, (∀ H', Nx1 H' → ∃ k', k' < k ∧ W1 (j + 1) k' H') ∧ ∀ x H', J1.yld j H x H' → g1 x (wipe σ2 vs1) H' fun σ3 H5 => wipe σ3 vs1 = wipe σ2 vs1 ∧ tG K W0 (BR K) ft1 σ3 H5 fun b H6 =>
          if b = true then tG K W0 (DR K) fe σ3 H6 fun y H7 => ∃ acc, H7 D = some (.lst acc) ∧ acc.length < sizeLine ∧ Nx1 (upd H7 D (.lst (acc ++ [y]))) else Nx1 H6) else Nx H3) := by
  obtain ⟨p0, o, e, q⟩ := r
  unfold lc2M at e
  split at e
  next hv =>
    cases el : lc2F vs vs1 h ft fi1 h1 ft1 fe ds [] (wipeR ρ vs) with
    | none => rw [el] at e; cases e
    | some ol =>
      cases ol with
      | ex c ρ' => rw [el] at e; cases e
      | ok ys ρe =>
        rw [el] at e
        cases e
        let Mid : Nat → Hp → Prop := fun i H' => ∃ (acc : List PyData) (xs : List V) (ρ' : Rho) (F' : Hp), Le F F' ∧ Post K S (wipe S.σ vs) ρ' F' H' ∧ (∀ i ∈ vs, ∀ o, ρ'[i]? ≠ some (some o)) ∧ F' D = none ∧ ¬ Own (wipe S.σ vs) ρ' H' D ∧ H' D = some (.lst xs) ∧ RpA K F' xs acc ∧ lc2F vs vs1 h ft fi1 h1 ft1 fe (ds.drop i) acc ρ' = some (.ok ys ρe)
        have nwD : New S D := p0.new (.inr hD)
        refine ⟨fun i m H' => m = ds.length - i ∧ i ≤ ds.length ∧ Mid i H', ⟨ds.length, rfl, Nat.zero_le _, [], [], wipeR ρ vs, F, Le.refl _, (p0.wipe hv).newO hD, wipeR_self, p0.gone hD, (p0.wipe hv).hd.notOwnNew hD, upd_same, .nil, el⟩, ?_⟩
        rintro i m H' ⟨rfl, hi, acc, xs, ρ', F', le, p, hw, hf, no, hH, ra, el⟩
        by_cases hlt : i < ds.length
        · refine .inr ⟨ir.go i F' H' hlt le p.hd.le, Mid (i + 1), fun H2 hm => ⟨ds.length - (i + 1), by omega, rfl, hlt, hm⟩, fun x H2 y => ?_⟩
          have hd : ds[i]? = some ds[i] := List.getElem?_eq_getElem hlt
          obtain ⟨F2, p2, le2, rx, kp⟩ := ir.yld i _ _ _ _ _ _ _ _ hd le p y
          have ed : ds.drop i = ds[i] :: ds.drop (i + 1) := List.drop_eq_getElem_cons hlt
          rw [ed] at el
          have el : lc2H vs vs1 ft fi1 h1 ft1 fe acc (lc2F vs vs1 h ft fi1 h1 ft1 fe (ds.drop (i + 1))) (h ds[i] ρ') = some (.ok ys ρe) := el
          obtain ⟨hH2, hf2⟩ := kp D _ hH
          have no1 : ¬ Own (wipe S.σ vs) ρ' H2 D := fun z => no (p.hd.kept le2 p2.hd.le kp D z)
          -- the turn's end
          have fin : ∀ (σ5 : L2.St) (ρ5 : Rho) (F5 H5 : Hp) (acc' : List PyData) (xs' : List V), wipe σ5 vs = wipe S.σ vs → Post K S σ5 ρ5 F5 H5 → Le F F5 → F5 D = none → ¬ Own σ5 ρ5 H5 D → freeV ρ5 vs = true → H5 D = some (.lst xs') → RpA K F5 xs' acc' →
              lc2F vs vs1 h ft fi1 h1 ft1 fe (ds.drop (i + 1)) acc' (wipeR ρ5 vs) = some (.ok ys ρe) → Mid (i + 1) H5 := by
            intro σ5 ρ5 F5 H5 acc' xs' ew p5 le5 hf5 no5 fv hD6 ra' el'
            have pw := p5.wipe fv
            rw [ew] at pw
            have no6 : ¬ Own (wipe S.σ vs) (wipeR ρ5 vs) H5 D := fun ⟨j, b, mm, w, e1, s1, k1⟩ => no5 ⟨j, b, mm, w, (wipeR_get.mp e1).1, by rw [← ew] at s1; exact (wipe_some s1).1, k1⟩
            exact ⟨acc', xs', wipeR ρ5 vs, F5, le5, pw, wipeR_self, hf5, no6, hD6, ra', el'⟩
          have wants : g x (wipe S.σ vs) H2 fun σ2 H2 => wipe σ2 vs = wipe (wipe S.σ vs) vs ∧ (wipe σ2 vs = wipe S.σ vs → tG K W0 (BR K) ft σ2 H2 fun b H3 => if b = true then tG K W0 (IR K) fi1 σ2 H3 fun J1 H4 => ∃ W1 : Nat → Nat → Hp → Prop, (∃ m, W1 0 m H4) ∧ ∀ j k H, W1 j k H →
              (J1.stop j H ∧ Mid (i + 1) H) ∨ (J1.go j H ∧ ∃ Nx1 : Hp → Prop, (∀ H', Nx1 H' → ∃ k', k' < k ∧ W1 (j + 1) k' H') ∧ ∀ x H', J1.yld j H x H' → g1 x (wipe σ2 vs1) H' fun σ3 H5 => wipe σ3 vs1 = wipe σ2 vs1 ∧ tG K W0 (BR K) ft1 σ3 H5 fun b H6 =>
                if b = true then tG K W0 (DR K) fe σ3 H6 fun y H7 => ∃ acc, H7 D = some (.lst acc) ∧ acc.length < sizeLine ∧ Nx1 (upd H7 D (.lst (acc ++ [y]))) else Nx1 H6) else Mid (i + 1) H3) := by
            refine tw _ _ _ _ ?_
            cases eh : h ds[i] ρ' with
            | none => rw [eh] at el; cases el
            | some oh =>
              cases oh with
              | ex c ρ3 => rw [eh] at el; cases el
              | ok fl ρ3 =>
                cases fl with
                | bk => rw [eh] at el; cases el
                | ct => rw [eh] at el; cases el
                | rt _ => rw [eh] at el; cases el
                | nx =>
                  rw [eh] at el
                  have el : lc2T vs vs1 fi1 h1 ft1 fe acc (lc2F vs vs1 h ft fi1 h1 ft1 fe (ds.drop (i + 1))) (ft ρ3) = some (.ok ys ρe) := el
                  refine tg W0 ⟨wipe S.σ vs, ρ', F2, H2⟩ _ ρ' F2 H2 x _ ⟨_, fun _ _ => False, fun _ _ => False, fun _ _ => False⟩ ⟨Post.refl p2.hd, _, eh, fun σ4 F4 H4 p4 ew => ?_⟩ rx
                  cases et : ft ρ3 with
                  | none => rw [et] at el; cases el
                  | some ot =>
                    refine ⟨ρ3, F4, Post.refl p4.hd, ot, et, ?_⟩
                    rw [et] at el
                    cases ot with
                    | ex c ρ4 => cases el
                    | ok b ρ4 =>
                      intro b' F5 H5 p5 eb
                      have eb : b' = b := eb
                      subst eb
                      have p45 := p4.trans p5
                      cases b' with
                      | false =>
                        have el : (if freeV ρ4 vs = true then lc2F vs vs1 h ft fi1 h1 ft1 fe (ds.drop (i + 1)) acc (wipeR ρ4 vs) else none) = some (.ok ys ρe) := el
                        rw [if_neg Bool.false_ne_true]
                        split at el
                        next fv => exact fin σ4 ρ4 F5 H5 acc xs ew (p2.trans p45) (le.trans (le2.trans p45.le)) (p45.nofz D _ hH2 no1 (hf2 hf)) (p45.not hH2 no1) fv (p45.keep D _ hH2 no1) (RpA.mono (le2.trans p45.le) ra) el
                        next => cases el
                      | true =>
                        have el : lc2I vs vs1 h1 ft1 fe acc (lc2F vs vs1 h ft fi1 h1 ft1 fe (ds.drop (i + 1))) (fi1 ρ4) = some (.ok ys ρe) := el
                        rw [if_pos rfl]
                        cases ee : fi1 ρ4 with
                        | none => rw [ee] at el; cases el
                        | some oe =>
                          refine ⟨ρ4, F5, Post.refl p5.hd, oe, ee, ?_⟩
                          rw [ee] at el
                          cases oe with
                          | ex c ρ6 => cases el
                          | ok es ρ6 =>
                            intro J1 F6 H6 p6 ir1
                            have p46 := p45.trans p6
                            have el : (if freeV ρ6 vs1 = true then (match lcF vs1 h1 ft1 fe es acc (wipeR ρ6 vs1) with | some (.ok acc' ρ7) => if freeV ρ7 vs = true then lc2F vs vs1 h ft fi1 h1 ft1 fe (ds.drop (i + 1)) acc' (wipeR ρ7 vs) else none | _ => none) else none) = some (.ok ys ρe) := el
                            split at el
                            next fv1 =>
                              cases e7 : lcF vs1 h1 ft1 fe es acc (wipeR ρ6 vs1) with
                              | none => rw [e7] at el; cases el
                              | some o7 =>
                                rw [e7] at el
                                cases o7 with
                                | ex c ρ7 => cases el
                                | ok acc' ρ7 =>
                                  have el : (if freeV ρ7 vs = true then lc2F vs vs1 h ft fi1 h1 ft1 fe (ds.drop (i + 1)) acc' (wipeR ρ7 vs) else none) = some (.ok ys ρe) := el
                                  split at el
                                  next fv =>
                                    have pB := (p2.trans p46).wipe fv1
                                    have no6 : ¬ Own σ4 ρ6 H6 D := p46.not hH2 no1
                                    have noB : ¬ Own (wipe σ4 vs1) (wipeR ρ6 vs1) H6 D := fun ⟨j, b, mm, w, e1, s1, k1⟩ => no6 ⟨j, b, mm, w, (wipeR_get.mp e1).1, (wipe_some s1).1, k1⟩
                                    obtain ⟨W1, hW0, hW⟩ := lcF_read (J := J1) tg1 tw1 gmono1 (τ := wipe σ4 vs1) wipe_wipe pB wipeR_self (p46.nofz D _ hH2 no1 (hf2 hf)) noB (p46.keep D _ hH2 no1) (RpA.mono (le2.trans p46.le) ra) nwD e7 ir1
                                    refine ⟨W1, hW0, fun j k H7 w7 => ?_⟩
                                    rcases hW j k H7 w7 with ⟨st, xs7, F7, le7, p7, hf7, no7, hD7, ra7⟩ | ⟨go, Nx1, hN, hy⟩
                                    · exact .inl ⟨st, fin (wipe σ4 vs1) ρ7 F7 H7 acc' xs7 (by rw [wipe_sub hvs]; exact ew) p7 (le.trans (le2.trans (p46.le.trans le7))) hf7 no7 fv hD7 ra7 el⟩
                                    · exact .inr ⟨go, Nx1, hN, hy⟩
                                  next => cases el
                            next => cases el
          refine gmono _ _ _ _ _ (fun σ2 H3 ⟨e1, q1⟩ => ?_) wants
          rw [wipe_wipe] at e1
          exact ⟨e1, q1 e1⟩
        · have hi2 : i = ds.length := by omega
          subst hi2
          rw [List.drop_length] at el
          cases el
          refine .inl ⟨ir.stop F' H' le p.hd.le, q _ F' H' (p0.unwipe hv le p hw) ⟨rfl, ⟨D, _, rfl, hH, hf, xs, rfl, ra⟩, fun a ea => ?_⟩⟩
          rw [List.mem_singleton.mp (show a ∈ [D] from ea)]
          refine ⟨nwD, fun ⟨j, b, mm, w, e1, s1, k1⟩ => ?_⟩
          rcases backR_get e1 with ⟨hj, e2⟩ | ⟨hj, e2⟩
          · have := List.all_eq_true.mp hv j hj
            rw [e2] at this
            cases this
          · exact no ⟨j, b, mm, w, e2, wipe_get s1 hj, k1⟩
  next => cases e
section
variable {X : Cx} {W : WX} {elt tg iter tg1 iter1 : Expr} {ifs ifs1 : List Expr} {scope : Scope} {own : List (Str × Nat)} {pos : Pos} {g g1 : TG} {h h1 : PyData → M Fl} {ft ft1 : M Bool} {fi fi1 : M (List PyData)} {vs vs1 : List Nat} {f : M Rf}
def eLc2 (vs vs1 : List Nat) (fi : M (List PyData)) (h : PyData → M Fl) (ft : M Bool) (fi1 : M (List PyData)) (h1 : PyData → M Fl) (ft1 : M Bool) (f : M Rf) : M Rf := fi.bind fun ds => lc2M vs vs1 h ft fi1 h1 ft1 (f.bind frz) ds
theorem r_lc2 (hvs : own.map (·.2) = vs) (hc : X.calm = true) (hN : X.N.Nodup) (hi : EvI X W tg iter fi) (ok : BlkOk X.N X.env.scope scope own) (hv : ∀ i ∈ vs1, i ∈ vs) (ht : TgR X.K g h) (tw : TgW g vs) (tm : TgM g) (ht1 : TgR X.K g1 h1) (tw1 : TgW g1 vs1) (tm1 : TgM g1)
    (hg : ∀ (s : Shared) (H : Hp) (C : Addr) (cl : List (Str × Addr)) (fp : List Addr), PG (X.blk s H scope (compEnvC scope cl C X.env) fp) tg g) (hq : ∀ (s : Shared) (H : Hp) (C : Addr) (cl : List (Str × Addr)) (fp : List Addr), EvQ (X.blk s H scope (compEnvC scope cl C X.env) fp) W0 ifs ft)
    (hi1 : ∀ (s : Shared) (H : Hp) (C : Addr) (cl : List (Str × Addr)) (fp : List Addr), EvI (X.blk s H scope (compEnvC scope cl C X.env) fp) W0 tg1 iter1 fi1)
    (hg1 : ∀ (s : Shared) (H : Hp) (C : Addr) (cl : List (Str × Addr)) (fp : List Addr), PG (X.blk s H scope (compEnvC scope cl C X.env) fp) tg1 g1) (hq1 : ∀ (s : Shared) (H : Hp) (C : Addr) (cl : List (Str × Addr)) (fp : List Addr), EvQ (X.blk s H scope (compEnvC scope cl C X.env) fp) W0 ifs1 ft1)
    (he : ∀ (s : Shared) (H : Hp) (C : Addr) (cl : List (Str × Addr)) (fp : List Addr), EvO (X.blk s H scope (compEnvC scope cl C X.env) fp) W0 elt f) (hs : ∀ x, foldedSetIterable iter X.env x = pure x := by intro _; rfl) (hs1 : ∀ env x, foldedSetIterable iter1 env x = pure x := by intro _ _; rfl) :
    EvO X W (.ListComp elt [⟨tg, iter, ifs, 0⟩, ⟨tg1, iter1, ifs1, 0⟩] scope pos) (eLc2 vs vs1 fi h ft fi1 h1 ft1 f) := by
  subst hvs
  exact peI (pe_lc2 hc hN hi ok hv hg hq hi1 hg1 hq1 (fun s H C cl fp => ev_frz (he s H C cl fp)) hs hs1) fun σ H Q ⟨ρ, F, r⟩ => ⟨ρ, F, r.bind.mono fun J H1 ⟨ds, ρ1, F1, ir, p, r1⟩ D hD => lc2_read (S := ⟨σ, ρ, F, H⟩) hv ht tw tm ht1 tw1 tm1 r1 ir D hD⟩
end
end Vs

/-! Vs: the Wp rules of VsZT and VsZU. -/
namespace Vs
open PySem PySem.Spec L2
section
variable {ρ ρ' : Rho} {E : Px} {Q : Rf → Rho → Prop} {QF : Fl → Rho → Prop} {i j : Nat} {f g : M Rf}
theorem w_IxF (e : isMu ρ i = true) (w : Wp g ρ (fun y ρ1 => Wp (ixF i y) ρ1 Q E) E) : Wp (eIxF i g) ρ Q E := by
  have : eIxF i g ρ = (g.bind fun y => ixF i y) ρ := by unfold eIxF; rw [if_pos e]
  have w2 := w_bind (k := fun y => ixF i y) w
  unfold Wp at w2 ⊢
  rw [this]; exact w2
/-- lists whose items are told by LL -/
structure LkOk (its : List Ch) (LL : List (List PyData)) : Prop where
  len : its.length = LL.length
  at_ : ∀ (k : Nat) (ds : List PyData), LL[k]? = some ds → its[k]? = some (Ch.fz (.list ds)) ∨ its[k]? = some (Ch.mu (.lst ds))
theorem w_ixFL {y : Rf} {b : O} {k : Int} {c : Bool} {its : List Ch} {LL : List (List PyData)} {ds : List PyData} (ex : rdO ρ y = some b) (ek : b.view = .int k) (hi : ρ[i]? = some (some (.mu c (.tre .lst its)))) (h0 : 0 ≤ k) (L : LkOk its LL) (hk : LL[k.toNat]? = some ds)
    (q : ∀ its', LkOk its' LL → (∀ n, n ≠ k.toNat → its'[n]? = its[n]?) → Q (.o (.fz (.list ds))) (ρ.set i (some (.mu c (.tre .lst its'))))) : Wp (ixF i y) ρ Q E := by
  have hself : ρ.set i (some (.mu c (.tre .lst its))) = ρ := by
    apply List.ext_getElem?
    intro n
    by_cases hn : n = i
    · subst hn
      rw [List.getElem?_set_self (List.getElem?_eq_some_iff.mp hi).1, hi]
    · rw [List.getElem?_set_ne (Ne.symm hn)]
  rcases L.at_ _ _ hk with hg | hg
  · refine .eq (x := .o (.fz (.list ds))) (ρ1 := ρ) ?_ (by have := q its L fun _ _ => rfl; rw [hself] at this; exact this)
    unfold ixF
    simp only [ex, ek, hi, if_pos h0, hg]
  · refine .eq (x := .o (.fz (.list ds))) (ρ1 := ρ.set i (some (.mu c (.tre .lst (its.set k.toNat (.fz (.list ds))))))) ?_ (q _ ⟨by rw [List.length_set]; exact L.len, fun n es hn => ?_⟩ fun n hn => List.getElem?_set_ne (Ne.symm hn))
    · unfold ixF
      simp only [ex, ek, hi, if_pos h0, hg]
      rfl
    · by_cases hnk : n = k.toNat
      · subst hnk
        rw [hk] at hn; cases hn
        exact .inl (by rw [List.getElem?_set_self (List.getElem?_eq_some_iff.mp hg).1])
      · rw [List.getElem?_set_ne (Ne.symm hnk)]
        exact L.at_ n es hn
theorem w_IxM (w : Wp f ρ (fun x ρ1 => Wp g ρ1 (fun y ρ2 => Wp (ixM x y) ρ2 Q E) E) E) : Wp (eIxM f g) ρ Q E := w_bind (w.imp fun _ _ w => w_bind w)
theorem w_ixM {y : Rf} {b : O} {k : Int} {its : List Ch} {m : Mu} (ex : rdO ρ y = some b) (ek : b.view = .int k) (h0 : 0 ≤ k) (hg : its[k.toNat]? = some (.mu m)) (q : Q (.o (.mu false m)) ρ) : Wp (ixM (.o (.mu false (.tre .lst its))) y) ρ Q E := by
  refine .eq (x := .o (.mu false m)) (ρ1 := ρ) ?_ q
  unfold ixM
  simp only [ex, ek, if_pos h0, hg]
theorem w_Ls1 (w : Wp f ρ (fun x ρ1 => Wp (ls1 x) ρ1 Q E) E) : Wp (eLs1 f) ρ Q E := w_bind w
theorem w_ls1 {m : Mu} (q : Q (.o (.mu false (.tre .lst [.mu m]))) ρ) : Wp (ls1 (.o (.mu false m))) ρ Q E := .eq rfl q
theorem w_ApM {c : Bool} {its : List Ch} {m : Mu} (hi : ρ[i]? = some (some (.mu c (.tre .lst its)))) (hj : ρ[j]? = some (some (.mu false m))) (hij : i ≠ j) (hl : its.length < 16777216) (e : (ρ.set j none).set i (some (.mu c (.tre .lst (its ++ [.mu m])))) = ρ') (q : QF .nx ρ') : Wp (sApM i j) ρ QF E := by
  refine .eq (x := .nx) (ρ1 := ρ') ?_ q
  unfold sApM
  simp only [hi, hj]
  rw [if_pos ⟨hij, hl⟩, e]
/-! ### two clauses -/
def Lc2I (J : List PyData → Rho → Prop) (vs vs1 : List Nat) (h1 : PyData → M Fl) (ft1 : M Bool) (fe : M PyData) (acc : List PyData) (es : List PyData) (ρ3 : Rho) : Prop :=
  freeV ρ3 vs1 = true ∧ Wp (fun ρ => lcF vs1 h1 ft1 fe es acc ρ) (wipeA vs1 0 ρ3) (fun acc' ρ7 => freeV ρ7 vs = true ∧ J acc' (wipeA vs 0 ρ7)) nx
theorem w_lc2F {vs vs1 : List Nat} {h h1 : PyData → M Fl} {ft ft1 : M Bool} {fi1 : M (List PyData)} {fe : M PyData} (J : List PyData → List PyData → Rho → Prop)
    (step : ∀ d ds acc ρ, J (d :: ds) acc ρ → Wp (h d) ρ (fun fl ρ1 => fl = .nx ∧ Wp ft ρ1 (fun b ρ2 => b = true ∧ Wp fi1 ρ2 (Lc2I (J ds) vs vs1 h1 ft1 fe acc) nx) nx) nx) :
    ∀ {ds acc : List PyData} {ρ : Rho}, J ds acc ρ → Wp (fun ρ => lc2F vs vs1 h ft fi1 h1 ft1 fe ds acc ρ) ρ (J []) nx
  | [], acc, ρ, j => j
  | d :: ds, acc, ρ, j => by
    obtain ⟨fl, ρ1, e1, rfl, w⟩ := (step d ds acc ρ j).get
    obtain ⟨b, ρ2, e2, rfl, w⟩ := w.get
    obtain ⟨es, ρ3, e3, hv1, w⟩ := w.get
    obtain ⟨acc', ρ7, e7, hv, j7⟩ := w.get
    unfold Wp
    show Sat _ _ (lc2H vs vs1 ft fi1 h1 ft1 fe acc (lc2F vs vs1 h ft fi1 h1 ft1 fe ds) (h d ρ))
    rw [e1]
    show Sat _ _ (lc2T vs vs1 fi1 h1 ft1 fe acc (lc2F vs vs1 h ft fi1 h1 ft1 fe ds) (ft ρ1))
    rw [e2]
    show Sat _ _ (lc2I vs vs1 h1 ft1 fe acc (lc2F vs vs1 h ft fi1 h1 ft1 fe ds) (fi1 ρ2))
    rw [e3]
    show Sat _ _ (if freeV ρ3 vs1 = true then (match lcF vs1 h1 ft1 fe es acc (wipeR ρ3 vs1) with
      | some (.ok acc' ρ4) => if freeV ρ4 vs = true then lc2F vs vs1 h ft fi1 h1 ft1 fe ds acc' (wipeR ρ4 vs) else none
      | _ => none) else none)
    rw [if_pos hv1, wipeR_eq, e7]
    show Sat _ _ (if freeV ρ7 vs = true then lc2F vs vs1 h ft fi1 h1 ft1 fe ds acc' (wipeR ρ7 vs) else none)
    rw [if_pos hv, wipeR_eq]
    exact w_lc2F J step j7
theorem w_Lc2 {vs vs1 : List Nat} {fi fi1 : M (List PyData)} {h h1 : PyData → M Fl} {ft ft1 : M Bool} (w : Wp fi ρ (fun ds ρ1 => Wp (lc2M vs vs1 h ft fi1 h1 ft1 (f.bind frz) ds) ρ1 Q E) E) : Wp (eLc2 vs vs1 fi h ft fi1 h1 ft1 f) ρ Q E := w_bind w
theorem w_lc2 {vs vs1 : List Nat} {h h1 : PyData → M Fl} {ft ft1 : M Bool} {fi1 : M (List PyData)} {fe : M PyData} (J : List PyData → List PyData → Rho → Prop) {ds : List PyData} {ρ0 : Rho} (hv : freeV ρ vs = true) (hw : wipeA vs 0 ρ = ρ0) (jj : J ds [] ρ0)
    (step : ∀ d ds acc ρ, J (d :: ds) acc ρ → Wp (h d) ρ (fun fl ρ1 => fl = .nx ∧ Wp ft ρ1 (fun b ρ2 => b = true ∧ Wp fi1 ρ2 (Lc2I (J ds) vs vs1 h1 ft1 fe acc) nx) nx) nx)
    (fin : ∀ ys ρ', J [] ys ρ' → Q (.o (.mu false (.lst ys))) (backA vs 0 ρ ρ')) : Wp (lc2M vs vs1 h ft fi1 h1 ft1 fe ds) ρ Q E := by
  subst hw
  obtain ⟨ys, ρ', e, j'⟩ := (w_lc2F J step jj).get
  rw [← wipeR_eq] at e
  refine .eq (x := .o (.mu false (.lst ys))) (ρ1 := backR ρ ρ' vs) ?_ (by rw [backR_eq]; exact fin ys ρ' j')
  unfold lc2M
  rw [if_pos hv, e]
end
end Vs

/-! Vs: try with several clauses, each with a name or without one. -/
namespace Vs
open PySem PySem.Spec PyProof.Rows L2
abbrev Cls1 := Value × Option Nat × (Addr → Value → Option Addr → TS)
def endsI (i : Nat) (D : Ends) : Ends := { nx := fun σ' H' => D.nx (σ'.set i none) H', rt := D.rt, bk := fun σ' H' => D.bk (σ'.set i none) H', ct := fun σ' H' => D.ct (σ'.set i none) H' }
def wMx (K : PySem.W.Frag) (Wout : WX) (D : Ends) : List Cls1 → WX
  | [] => Wout
  | (c, oi, ts) :: r => fun cls d σ H => ∃ b, PySem.W.exmOne K cls c = some b ∧ (b = true → ∀ a, H a = none → match oi with
      | some i => ts a cls d (endsI i D) (σ.set i (some (.ref a))) H
      | none => ts a cls d D σ H) ∧ (b = false → wMx K Wout D r cls d σ H)
inductive HdsMx (X : Cx) : List ExceptHandler → List Cls1 → Prop
  | nil : HdsMx X [] []
  | as_ {x n : Str} {i : Nat} {c : Value} {ts : Addr → Value → Option Addr → TS} {b₀ : Stmt} {suite : List Stmt} {np pos' : Pos} {hds : List ExceptHandler} {l : List Cls1} (hc : Names X x c)
      (hi : X.N[i]? = some n) (hln : X.env.kindOf n = some .local)
      (hsu : ∀ (a : Addr) (oe : Obj) (cls : Value) (d : Option Addr) (pn : List (Addr × Obj)), L2N.Zn cls d oe → (∃ vs, oe.data = .fields vs) → PSs (X.suite a ((a, oe) :: pn)) (b₀ :: suite) (ts a cls d)) (r : HdsMx X hds l) :
      HdsMx X (.ExceptHandler (some (.Name x np)) (some n) (b₀ :: suite) pos' :: hds) ((c, some i, ts) :: l)
  | no {x : Str} {c : Value} {ts : Addr → Value → Option Addr → TS} {b₀ : Stmt} {suite : List Stmt} {np pos' : Pos} {hds : List ExceptHandler} {l : List Cls1} (hc : Names X x c)
      (hsu : ∀ (a : Addr) (oe : Obj) (cls : Value) (d : Option Addr) (pn : List (Addr × Obj)), L2N.Zn cls d oe → (∃ vs, oe.data = .fields vs) → PSs (X.suite a ((a, oe) :: pn)) (b₀ :: suite) (ts a cls d)) (r : HdsMx X hds l) :
      HdsMx X (.ExceptHandler (some (.Name x np)) none (b₀ :: suite) pos' :: hds) ((c, none, ts) :: l)
/-- an error of the class cls (its dict: d) has come down to the clauses of X: bs the state it left, g the heap there -/
structure Down (X : Cx) (pins : List (Addr × Obj)) (σ : L2.St) (H : Hp) (er : Addr) (cls : Value) (d : Option Addr) (Bs : Heap) (bs s : Shared) (g : Heap) : Prop where
  left : Inv X pins σ H bs
  olds : ∀ q u, bs.heap.get? q = some u → q ∉ frs X.stack → Bs.get? q = some u
  rise : bs.heap.UpToSlots g
  fly : HandSPX.FlyingZ Bs (X.env :: X.outer) er (L2N.Zn cls d) g
  none_ : H er = none
  sys : s.os = bs.os
  gens : AllBare s.gens
section
variable {X : Cx} {pins : List (Addr × Obj)} {σ : L2.St} {H : Hp} {er : Addr} {cls : Value} {d : Option Addr} {Bs : Heap} {bs s : Shared} {g g' : Heap}
theorem Down.inv (w : Down X pins σ H er cls d Bs bs s g) : Inv X pins σ H { s with heap := g } := Inv.landed (s' := { s with heap := g }) w.left w.olds w.fly.1 w.rise w.sys w.gens
theorem Down.on (w : Down X pins σ H er cls d Bs bs s g) (fl : HandSPX.FlyingZ Bs (X.env :: X.outer) er (L2N.Zn cls d) g') (r : g.UpToSlots g') : Down X pins σ H er cls d Bs bs s g' :=
  { w with rise := w.rise.trans r, fly := fl }
/-- the suite of a clause begins -/
theorem Down.begin (w : Down X pins σ H er cls d Bs bs s g) (hf : X.env.frame = some X.env.locals) : ∃ u : Obj, g.get? er = some u ∧ L2N.Zn cls d u ∧ (∃ fs, u.data = .fields fs) ∧ Inv (X.suite er ((er, u) :: (X.pn ++ pins))) [] σ H { s with heap := g } := by
  obtain ⟨u, fs, at_, zn, dt⟩ := w.fly.there
  have out : er ∉ frs (X.env :: X.outer) := by
    intro m
    have ⟨_, u', e, h⟩ := w.fly.2.2.1.mem m
    exact h fs (by have z := at_.symm.trans e; cases z; exact dt)
  refine ⟨u, at_, zn, ⟨fs, dt⟩, w.inv.suite at_ dt w.none_ (fun z => ?_) fun m => ?_⟩
  · exact out (List.mem_filterMap.mpr ⟨_, List.mem_cons_self, z ▸ hf⟩)
  · have ⟨v, hv, fv⟩ := List.mem_filterMap.mp m
    exact out (List.mem_filterMap.mpr ⟨v, .tail _ hv, fv⟩)
/-- no clause is left -/
theorem Down.past (w : Down X pins σ H er cls d Bs bs s g) (hs : X.stack = X.env :: X.outer) (hf : X.env.frame = some X.env.locals) {W : WX} (tk : L2N.Takes X W) (k : W cls d σ H) {D : Ends} :
    wpAny (model X.prog X.w) X.A (handleBy (.ref er) X.env []) (SP X pins D) X.xe { s with heap := g } := by
  have away : wpAny (model X.prog X.w) X.A (setFlight (.ref er) X.env.frame) (fun _ z => wpAny (model X.prog X.w) X.A (throw (.ref er) : Sem Flow) (SP X pins D) X.xe z) X.xe { s with heap := g } := by
    rw [hf]
    exact HandSPX.setFlight_upZ w.fly fun _ held r => wpAny_throw (tk _ _ ⟨er, Bs, bs, pins, σ, H, cls, d, rfl, w.left, w.olds, w.rise.trans r, .inr (.inr (hs ▸ held)), w.none_, w.sys, w.gens, k⟩)
  obtain ⟨_, _, _, u, fs, tr, _, _, e, _, dt, f1, _⟩ := w.fly
  apply wpAny_handleBy_nil
  unfold PySem.passOn
  refine wpAny_bind (wpAny_field e dt f1 ?_)
  have ne : ¬ (Value.ref tr == Value.none) = true := by simp
  simp only [ne, if_false]
  first
    | exact wpAny_bind (wpAny_pure (wpAny_bind away))
    | exact wpAny_bind away
    | exact away
/-- the class that a clause names is asked -/
theorem Down.ask (w : Down X pins σ H er cls d Bs bs s g) (hf : X.env.frame = some X.env.locals) {x : Str} {c : Value} {np : Pos} {t : Bool} (hc : Names X x c) (e : PySem.W.exmOne X.K cls c = some t) {Q : Bool → Shared → Prop} {E : Value → Shared → Prop} (q : Q t { s with heap := g }) :
    wpAny (model X.prog X.w) (X.A.mark (some (.ref er))) (eval (.Name x np) X.env) (fun v s1 => wpAny (model X.prog X.w) (X.A.mark (some (.ref er))) (excMatches (.ref er) v) Q E s1) E { s with heap := g } := by
  obtain ⟨u, at_, zn, _, I⟩ := w.begin hf
  have own : PySem.W.Looks (model X.prog X.w) g (typeOf (.ref er)) cls := fun _ _ _ _ keep z => wpAny_typeOf_ref (keep _ _ at_) (zn.1.symm ▸ z)
  have told := (PySem.W.exm_one (M := model X.prog X.w) w.inv.kIn own e).here (A := X.A.mark (some (.ref er))) (E := E) q
  rcases hc with ⟨gl, db, m | ⟨m, bl, nn⟩⟩
  · exact ld_glob (X := X.suite er ((er, u) :: (X.pn ++ pins))) I gl m told db
  · exact ld_blt (X := X.suite er ((er, u) :: (X.pn ++ pins))) I gl m bl told nn db
/-- the clauses, one after the other -/
theorem Down.go (w : Down X pins σ H er cls d Bs bs s g) (hs : X.stack = X.env :: X.outer) (hf : X.env.frame = some X.env.locals) (hN : X.N.Nodup) {Wout : WX} (tk : L2N.Takes X Wout) {D : Ends} {hds : List ExceptHandler} {l : List Cls1} (hh : HdsMx X hds l) (k : wMx X.K Wout D l cls d σ H) :
    wpAny (model X.prog X.w) X.A (handleBy (.ref er) X.env hds) (SP X pins D) X.xe { s with heap := g } := by
  have ok := w.left.ok
  induction hh with
  | nil => exact w.past hs hf tk k
  | as_ hc hi hln hsu r ih =>
    have ⟨t, e, yes, no_⟩ := k
    refine wpAny_handleBy_cons (codeAny_handlers_test (w.ask hf hc e ?_)) nofun
    cases t
    · exact ih (no_ rfl)
    refine codeAny_handlers_suite_as (HandSPX.lands_againZ w.fly fun g2 fl r2 => ?_)
    obtain ⟨u, _, zn, dt, I⟩ := (w.on fl r2).begin hf
    refine store_ok (X := X.suite er ((er, u) :: (X.pn ++ pins))) (v := .ref er) I hN hi (.inl hln) rfl (fun s5 I5 => ?_) (.inr hln)
    have run := (hsu er u cls d (X.pn ++ pins) zn dt).run [] s5 _ H _ I5 (yes rfl er w.none_)
    refine wpAny_mono run ?_ (fun _ _ z => z.elim)
    intro fl s6 out
    cases fl <;> dsimp only [SP] at out ⊢
    case next => obtain ⟨σ6, H6, I6, q⟩ := out; exact gone_ok (I6.unsuite ok) hN hi hln fun _ J => ⟨_, _, J, q⟩
    case brk => obtain ⟨σ6, H6, I6, q⟩ := out; exact gone_ok (I6.unsuite ok) hN hi hln fun _ J => ⟨_, _, J, q⟩
    case cont => obtain ⟨σ6, H6, I6, q⟩ := out; exact gone_ok (I6.unsuite ok) hN hi hln fun _ J => ⟨_, _, J, q⟩
    case ret => obtain ⟨v6, σ6, H6, I6, rv, q⟩ := out; exact gone_ok (I6.unsuite ok) hN hi hln fun _ J => ⟨v6, _, _, J, rv, q⟩
  | no hc hsu r ih =>
    have ⟨t, e, yes, no_⟩ := k
    refine wpAny_handleBy_cons (codeAny_handlers_test (w.ask hf hc e ?_)) nofun
    cases t
    · exact ih (no_ rfl)
    refine codeAny_handlers_suite (HandSPX.lands_againZ w.fly fun g2 fl r2 => ?_)
    obtain ⟨u, _, zn, dt, I⟩ := (w.on fl r2).begin hf
    have run := (hsu er u cls d (X.pn ++ pins) zn dt).run [] _ _ H _ I (yes rfl er w.none_)
    refine wpAny_mono run ?_ (fun _ _ z => z.elim)
    intro fl s6 out
    cases fl <;> dsimp only [SP] at out ⊢
    case next => obtain ⟨σ6, H6, I6, q⟩ := out; exact ⟨σ6, H6, I6.unsuite ok, q⟩
    case brk => obtain ⟨σ6, H6, I6, q⟩ := out; exact ⟨σ6, H6, I6.unsuite ok, q⟩
    case cont => obtain ⟨σ6, H6, I6, q⟩ := out; exact ⟨σ6, H6, I6.unsuite ok, q⟩
    case ret => obtain ⟨v6, σ6, H6, I6, rv, q⟩ := out; exact ⟨v6, σ6, H6, I6.unsuite ok, rv, q⟩
end
section
variable {X : Cx} {body : List Stmt} {h₀ : ExceptHandler} {hds : List ExceptHandler} {l : List Cls1} {pos : Pos} {tb : WX → TS} {Wout : WX}
theorem ps_try_mx (hs : X.stack = X.env :: X.outer) (hf : X.env.frame = some X.env.locals) (hN : X.N.Nodup) (tk : L2N.Takes X Wout)
    (hb : ∀ (W : WX) (pn : List (Addr × Obj)) (xe : Value → Shared → Prop), L2N.Takes (X.tr pn xe) W → PassesOwn (model X.prog X.w) X.A X.env xe → PSs (X.tr pn xe) body (tb W))
    (hh : HdsMx X (h₀ :: hds) l) : PS X (.Try body (h₀ :: hds) [] [] pos) (fun D σ H => tb (wMx X.K Wout D l) D σ H) where
  run pins s σ H D I h := by
    let M := model X.prog X.w
    let caught : Value → Shared → Prop := fun e s1 => wpAny M X.A (noteFrame e X.env) (fun _ s2 => wpAny M X.A (setFlight e none) (fun _ s3 => wpAny M X.A (handleBy e X.env (h₀ :: hds)) (SP X pins D) X.xe s3) X.xe s2) X.xe s1
    have take : L2N.Takes (X.tr (X.pn ++ pins) caught) (wMx X.K Wout D l) := by
      rintro _ s1 ⟨er, Bs, bs, pins', σ', H', cls, d, rfl, J, olds, rise, sky, nn, sys, gens, k⟩
      have fr : X.A.frames = some (X.env :: X.outer) := hs ▸ I.ok.frames
      refine L2N.Sky.land L2N.Zn.steady fr hf (show Sky Bs (X.env :: X.outer) er (L2N.Zn cls d) X.env.locals s1.heap from hs ▸ sky) fun g fl r => ?_
      exact Down.go (s := s1) ⟨J.ofTry I.ok, olds, rise.trans r, fl, nn, sys, gens⟩ hs hf hN tk hh k
    have run := (hb (wMx X.K Wout D l) (X.pn ++ pins) caught take PassesOwn.looking).run [] s σ H D (I.toTry caught) h
    refine wpAny_Try_except (wpAny_mono run (fun fl s1 out => ?_) fun _ _ z => z)
    cases fl <;> dsimp only [SP] at out ⊢
    case next => obtain ⟨σ1, H1, J, q⟩ := out; exact wpAny_execs_nil ⟨σ1, H1, J.ofTry I.ok, q⟩
    case brk => obtain ⟨σ1, H1, J, q⟩ := out; exact ⟨σ1, H1, J.ofTry I.ok, q⟩
    case cont => obtain ⟨σ1, H1, J, q⟩ := out; exact ⟨σ1, H1, J.ofTry I.ok, q⟩
    case ret => obtain ⟨v1, σ1, H1, J, rv, q⟩ := out; exact ⟨v1, σ1, H1, J.ofTry I.ok, rv, q⟩
end
/-! ### the reading -/
abbrev Hq := Er → Option (Option (M Fl))
def selM : List (Option Nat × Hq) → Er → Option (Option (Option Nat × M Fl))
  | [], _ => some none
  | (oi, q) :: r, c => match q c with
    | none => none
    | some (some m) => some (some (oi, m))
    | some none => selM r c
def hdEndN : Option (Out Fl) → Option (Out Fl)
  | some (.ok fl ρ) => some (.ok fl ρ)
  | _ => none
def tryM (cl : List (Option Nat × Hq)) : Option (Out Fl) → Option (Out Fl)
  | some (.ex c ρ) => (match selM cl c with
    | none => none
    | some none => some (.ex c ρ)
    | some (some (some i, m)) => if isFree ρ i = true then hdEnd i (m ρ) else none
    | some (some (none, m)) => hdEndN (m ρ))
  | o => o
def sTryM (cl : List (Option Nat × Hq)) (f : M Fl) : M Fl := fun ρ => tryM cl (f ρ)
/-- the suite of a clause without a name -/
def HdOkN (X : Cx) (cX : Addr) (body : List Stmt) (hd : Hq) : Prop :=
  ∀ c r, hd c = some r → match r with
    | some m => PySem.W.exmOne X.K (.ref c.c) (.ref cX) = some true ∧ ∀ (a : Addr) (oe : Obj) (dd : Option Addr) (pn : List (Addr × Obj)), L2N.Zn (.ref c.c) dd oe → (∃ vs, oe.data = .fields vs) → EvB (X.suite a ((a, oe) :: pn)) (fun _ _ _ _ => False) body m
    | none => PySem.W.exmOne X.K (.ref c.c) (.ref cX) = some false
def tsH (K : PySem.W.Frag) (i : Nat) (q : Hq) : Addr → Value → Option Addr → TS := fun a cls d D σ H => ∃ (c : Er) (m : M Fl), cls = .ref c.c ∧ q c = some (some m) ∧ (c.fs = none → d = none) ∧ tHS K i a c.fs d m D σ H
def tsN (K : PySem.W.Frag) (q : Hq) : Addr → Value → Option Addr → TS := fun a cls d D σ H => ∃ (c : Er) (m : M Fl), cls = .ref c.c ∧ q c = some (some m) ∧ tS K (fun _ _ _ _ => False) m D σ H
inductive HMs (X : Cx) : List ExceptHandler → List (Option Nat × Hq) → List Cls1 → Prop
  | nil : HMs X [] [] []
  | as_ {x n : Str} {i : Nat} {cX : Addr} {b₀ : Stmt} {suite : List Stmt} {np pos' : Pos} {hds : List ExceptHandler} {q : Hq} {cl : List (Option Nat × Hq)} {l : List Cls1} (hc : Names X x (.ref cX))
      (hi : X.N[i]? = some n) (hln : X.env.kindOf n = some .local) (hq : HdOkH X i cX (b₀ :: suite) q) (r : HMs X hds cl l) :
      HMs X (.ExceptHandler (some (.Name x np)) (some n) (b₀ :: suite) pos' :: hds) ((some i, q) :: cl) ((.ref cX, some i, tsH X.K i q) :: l)
  | no {x : Str} {cX : Addr} {b₀ : Stmt} {suite : List Stmt} {np pos' : Pos} {hds : List ExceptHandler} {q : Hq} {cl : List (Option Nat × Hq)} {l : List Cls1} (hc : Names X x (.ref cX))
      (hq : HdOkN X cX (b₀ :: suite) q) (r : HMs X hds cl l) :
      HMs X (.ExceptHandler (some (.Name x np)) none (b₀ :: suite) pos' :: hds) ((none, q) :: cl) ((.ref cX, none, tsN X.K q) :: l)
section
variable {X : Cx} {hds : List ExceptHandler} {h₀ : ExceptHandler} {cl : List (Option Nat × Hq)} {l : List Cls1} {body : List Stmt} {fB : M Fl} {pos : Pos} {Wout : WX}
theorem HMs.mx (h : HMs X hds cl l) : HdsMx X hds l := by
  induction h with
  | nil => exact .nil
  | as_ hc hi hln hq r ih =>
    refine .as_ hc hi hln (fun a oe cls d pn hz hfl => ⟨fun pins s σ H D I ⟨c, m, e1, e2, e3, t⟩ => ?_⟩) ih
    subst e1
    exact ((hq c _ e2).2 a oe d pn hz hfl e3).run pins s σ H D I t
  | no hc hq r ih =>
    refine .no hc (fun a oe cls d pn hz hfl => ⟨fun pins s σ H D I ⟨c, m, e1, e2, t⟩ => ?_⟩) ih
    subst e1
    exact ((hq c _ e2).2 a oe d pn hz hfl).run pins s σ H D I t
/-- where the clauses take the error -/
theorem HMs.sel {σ' : L2.St} {ρ' : Rho} {F' H' : Hp} {S : Sta} {D : Ends} {c : Er} {d : Option Addr} {o : Out Fl} {W : WX} (hR : ∀ {σ2 : L2.St} {F2 H2 : Hp}, Post X.K S σ2 ρ' F2 H2 → ErD X.K F2 H2 c.fs d → S.σ = S.σ) (p : Post X.K S σ' ρ' F' H') (ed : ErD X.K F' H' c.fs d) (h : HMs X hds cl l)
    (w0 : selM cl c = some none → Wout (.ref c.c) d σ' H')
    (w1 : ∀ i m, selM cl c = some (some (some i, m)) → ∀ a, tHS X.K i a c.fs d m (endsI i D) (σ'.set i (some (.ref a))) H')
    (w2 : ∀ m, selM cl c = some (some (none, m)) → tS X.K (fun _ _ _ _ => False) m D σ' H') (w3 : selM cl c ≠ none) : wMx X.K Wout D l (.ref c.c) d σ' H' := by
  have e3 : c.fs = none → d = none := fun z => by rw [z] at ed; exact ed
  induction h with
  | nil => exact w0 rfl
  | @as_ x n i cX b₀ suite np pos' hds q cl l hc hi hln hq r ih =>
    cases eq : q c with
    | none => exact absurd (show selM ((some i, q) :: cl) c = none by simp only [selM, eq]) w3
    | some rr =>
      have hq := hq c rr eq
      cases rr with
      | none =>
        have es : selM ((some i, q) :: cl) c = selM cl c := by simp only [selM, eq]
        rw [es] at w0 w2 w3
        exact ⟨false, hq, fun z => (nomatch z), fun _ => ih w0 (fun j m e => w1 j m (es.trans e)) w2 w3⟩
      | some m => exact ⟨true, hq.1, fun _ a na => ⟨c, m, rfl, eq, e3, w1 i m (by simp only [selM, eq]) a⟩, fun z => (nomatch z)⟩
  | @no x cX b₀ suite np pos' hds q cl l hc hq r ih =>
    cases eq : q c with
    | none => exact absurd (show selM ((none, q) :: cl) c = none by simp only [selM, eq]) w3
    | some rr =>
      have hq := hq c rr eq
      cases rr with
      | none =>
        have es : selM ((none, q) :: cl) c = selM cl c := by simp only [selM, eq]
        rw [es] at w0 w3
        exact ⟨false, hq, fun z => (nomatch z), fun _ => ih w0 (fun j m e => w1 j m (es.trans e)) (fun m e => w2 m (es.trans e)) w3⟩
      | some m => exact ⟨true, hq.1, fun _ a na => ⟨c, m, rfl, eq, w2 m (by simp only [selM, eq])⟩, fun z => (nomatch z)⟩
theorem r_tryM (hs : X.stack = X.env :: X.outer) (hf : X.env.frame = some X.env.locals) (hN : X.N.Nodup) (tk : L2N.Takes X Wout)
    (hb : ∀ (W : WX) (pn : List (Addr × Obj)) (xe : Value → Shared → Prop), L2N.Takes (X.tr pn xe) W → PassesOwn (model X.prog X.w) X.A X.env xe → EvB (X.tr pn xe) W body fB) (hh : HMs X (h₀ :: hds) cl l) :
    EvS X Wout (.Try body (h₀ :: hds) [] [] pos) (sTryM cl fB) := by
  refine psI (ps_try_mx (tb := fun W => tS X.K W fB) hs hf hN tk hb hh.mx) fun D σ H ⟨ρ, F, r⟩ => ?_
  obtain ⟨p, o, eo, q⟩ := r
  unfold sTryM at eo
  cases ef : fB ρ with
  | none => rw [ef] at eo; cases eo
  | some of =>
    refine ⟨ρ, F, p, of, ef, ?_⟩
    rw [ef] at eo
    cases of with
    | ok fl ρ' =>
      cases eo
      cases fl <;> exact q
    | ex c ρ' =>
      intro d σ' F' H' p' ed
      have eo : (match selM cl c with | none => none | some none => some (.ex c ρ') | some (some (some i, m)) => if isFree ρ' i = true then hdEnd i (m ρ') else none | some (some (none, m)) => hdEndN (m ρ')) = some o := eo
      refine HMs.sel (S := ⟨σ, ρ, F, H⟩) (o := o) (W := Wout) (fun _ _ => rfl) p' ed hh (fun e => ?_) (fun i m e a => ?_) (fun m e => ?_) (fun e => ?_)
      · rw [e] at eo
        cases eo
        exact q d σ' F' H' p' ed
      · rw [e] at eo
        have eo : (if isFree ρ' i = true then hdEnd i (m ρ') else none) = some o := eo
        split at eo
        next hfr =>
          have hfr := isFree_eq hfr
          refine ⟨ρ', F', ⟨?_, p'.hd.freeSlot hfr, ed⟩, ?_⟩
          · have hl : i < σ'.length := by
              rw [p'.hd.len]
              exact (List.getElem?_eq_some_iff.mp hfr).1
            rw [List.getElem?_set_self hl]
          · cases em : m ρ' with
            | none => rw [em] at eo; cases eo
            | some om =>
              refine ⟨om, rfl, ?_⟩
              rw [em] at eo
              cases om with
              | ex c2 ρ2 => cases eo
              | ok fl ρ2 =>
                cases fl with
                | nx =>
                  have eo : (if isFree ρ2 i = true then some (Out.ok Fl.nx ρ2) else none) = some o := eo
                  split at eo
                  next h2 =>
                    cases eo
                    exact fun σ2 F2 H2 P _ => q _ F2 H2 (p'.trans (P.freeSlot hfr (isFree_eq h2)))
                  next => cases eo
                | bk =>
                  have eo : (if isFree ρ2 i = true then some (Out.ok Fl.bk ρ2) else none) = some o := eo
                  split at eo
                  next h2 =>
                    cases eo
                    exact fun σ2 F2 H2 P _ => q _ F2 H2 (p'.trans (P.freeSlot hfr (isFree_eq h2)))
                  next => cases eo
                | ct =>
                  have eo : (if isFree ρ2 i = true then some (Out.ok Fl.ct ρ2) else none) = some o := eo
                  split at eo
                  next h2 =>
                    cases eo
                    exact fun σ2 F2 H2 P _ => q _ F2 H2 (p'.trans (P.freeSlot hfr (isFree_eq h2)))
                  next => cases eo
                | rt rf =>
                  cases rf with
                  | s j => cases eo
                  | o oo =>
                    cases oo with
                    | mu b mm => cases eo
                    | fz dd =>
                      have eo : (if isFree ρ2 i = true then some (Out.ok (Fl.rt (.o (.fz dd))) ρ2) else none) = some o := eo
                      split at eo
                      next h2 =>
                        cases eo
                        exact fun v σ2 F2 H2 P r => q v _ F2 H2 (p'.trans (P.freeSlot (y := none) hfr (isFree_eq h2))) r
                      next => cases eo
        next => cases eo
      · rw [e] at eo
        have eo : hdEndN (m ρ') = some o := eo
        cases em : m ρ' with
        | none => rw [em] at eo; cases eo
        | some om =>
          rw [em] at eo
          cases om with
          | ex c2 ρ2 => cases eo
          | ok fl ρ2 =>
            cases eo
            exact RunS.sub (S := ⟨σ, ρ, F, H⟩) ⟨p', .ok fl ρ2, em, by cases fl <;> exact q⟩
      · rw [e] at eo
        cases eo
end
/-! ### Wp -/
section
variable {cl : List (Option Nat × Hq)} {i : Nat} {oi : Option Nat} {hd : Hq} {f m : M Fl} {ρ ρ' : Rho} {Q : Fl → Rho → Prop} {E : Px} {C : Addr} {c : Er}
def EM1 (Q : Fl → Rho → Prop) (E : Px) (c : Er) (ρ : Rho) : Option (Option (Option Nat × M Fl)) → Prop
  | some (some (some i, m)) => isFree ρ i = true ∧ Wp m ρ (QH i Q) fun _ _ => False
  | some (some (none, m)) => Wp m ρ Q fun _ _ => False
  | some none => E c ρ
  | none => False
def EM (cl : List (Option Nat × Hq)) (Q : Fl → Rho → Prop) (E : Px) : Px := fun c ρ => EM1 Q E c ρ (selM cl c)
theorem w_tryM (w : Wp f ρ Q (EM cl Q E)) : Wp (sTryM cl f) ρ Q E := by
  unfold Wp at w ⊢
  show Sat Q E (tryM cl (f ρ))
  cases e : f ρ with
  | none => rw [e] at w; exact w
  | some o =>
    rw [e] at w
    cases o with
    | ok x ρ2 => exact w
    | ex c ρ2 =>
      have w : EM1 Q E c ρ2 (selM cl c) := w
      show Sat Q E (match selM cl c with | none => none | some none => some (.ex c ρ2) | some (some (some i, m)) => if isFree ρ2 i = true then hdEnd i (m ρ2) else none | some (some (none, m)) => hdEndN (m ρ2))
      cases eh : selM cl c with
      | none => rw [eh] at w; exact w
      | some r =>
        rw [eh] at w
        cases r with
        | none => exact w
        | some om =>
          obtain ⟨oi, m⟩ := om
          cases oi with
          | none =>
            have w : Wp m ρ2 Q (fun _ _ => False) := w
            show Sat Q E (hdEndN (m ρ2))
            unfold Wp at w
            cases em : m ρ2 with
            | none => rw [em] at w; exact w.elim
            | some om =>
              rw [em] at w
              cases om with
              | ex c2 ρ3 => exact w.elim
              | ok fl ρ3 => exact w
          | some i =>
            obtain ⟨h1, h2⟩ := w
            show Sat Q E (if isFree ρ2 i = true then hdEnd i (m ρ2) else none)
            rw [if_pos h1]
            unfold Wp at h2
            cases em : m ρ2 with
            | none => rw [em] at h2; exact h2.elim
            | some om =>
              rw [em] at h2
              cases om with
              | ex c2 ρ3 => exact h2.elim
              | ok fl ρ3 =>
                have h2 : QH i Q fl ρ3 := h2
                cases fl with
                | nx => show Sat Q E (if isFree ρ3 i = true then some (.ok .nx ρ3) else none); rw [if_pos h2.1]; exact h2.2
                | bk => show Sat Q E (if isFree ρ3 i = true then some (.ok .bk ρ3) else none); rw [if_pos h2.1]; exact h2.2
                | ct => show Sat Q E (if isFree ρ3 i = true then some (.ok .ct ρ3) else none); rw [if_pos h2.1]; exact h2.2
                | rt rf =>
                  cases rf with
                  | s j => exact h2.elim
                  | o oo =>
                    cases oo with
                    | mu b mm => exact h2.elim
                    | fz d => show Sat Q E (if isFree ρ3 i = true then some (.ok (.rt (.o (.fz d))) ρ3) else none); rw [if_pos h2.1]; exact h2.2
/-- the first clause that tells of the class C -/
theorem em_as (h : isFree ρ i = true) (w : Wp m ρ (QH i Q) fun _ _ => False) (e : hd C = some (some m)) : EM ((some i, hd) :: cl) Q E C ρ := by
  show EM1 Q E C ρ (selM ((some i, hd) :: cl) C)
  simp only [selM, e]
  exact ⟨h, w⟩
theorem em_no (w : Wp m ρ Q fun _ _ => False) (e : hd C = some (some m)) : EM ((none, hd) :: cl) Q E C ρ := by
  show EM1 Q E C ρ (selM ((none, hd) :: cl) C)
  simp only [selM, e]
  exact w
theorem em_next (e : hd c = some none) (w : EM cl Q E c ρ) : EM ((oi, hd) :: cl) Q E c ρ := by
  show EM1 Q E c ρ (selM ((oi, hd) :: cl) c)
  simp only [selM, e]
  exact w
theorem em_nil (w : E c ρ) : EM [] Q E c ρ := w
theorem yes_eq {D : Addr} : hdYes C m hd C = some (some m) := by simp [hdYes]
theorem no_eq : hdNo C hd C = some none := by simp [hdNo]
theorem yes_ne {D : Addr} (h : D ≠ C) : hdYes C m hd D = hd D := by
  unfold hdYes
  rw [if_neg (fun z => h z.1)]
theorem no_ne {D : Addr} (h : D ≠ C) : hdNo C hd D = hd D := by
  unfold hdNo
  rw [if_neg h]
end
section
variable {X : Cx} {cX C : Addr} {body : List Stmt} {m : M Fl} {hd : Hq}
theorem hdn_nil : HdOkN X cX body hdNil := fun c r e => by cases e
theorem hdn_yes (h : PySem.W.exmOne X.K (.ref C) (.ref cX) = some true) (k : ∀ (a : Addr) (oe : Obj) (dd : Option Addr) (pn : List (Addr × Obj)), L2N.Zn (.ref C) dd oe → (∃ vs, oe.data = .fields vs) → EvB (X.suite a ((a, oe) :: pn)) (fun _ _ _ _ => False) body m) (r : HdOkN X cX body hd) : HdOkN X cX body (hdYes C m hd) := fun c r' e => by
  unfold hdYes at e
  split at e
  · rename_i hc
    cases e
    obtain ⟨c1, c2⟩ := c
    obtain ⟨rfl, e2⟩ := hc
    exact ⟨h, fun a oe dd pn hz hf => k a oe dd pn hz hf⟩
  · exact r c r' e
theorem hdn_no (h : PySem.W.exmOne X.K (.ref C) (.ref cX) = some false) (r : HdOkN X cX body hd) : HdOkN X cX body (hdNo C hd) := fun c r' e => by
  unfold hdNo at e
  split at e
  · rename_i hc
    cases e
    subst hc
    exact h
  · exact r c r' e
end
end Vs

noncomputable section
namespace VsG
open PySem PySem.Spec PyProof.Rows L2 Vs
def topS (i : Nat) : Stmt := PySem.Challenge.pw_pergola_k62_positions_of_games.main.body.getD i (.Pass ⟨0, 0, 0, 0⟩)
abbrev s__law_at_goal : Stmt := topS 67
theorem sc__law_at_goal : FnScope ["game", "name", "stack"] ["game", "name", "stack"] (defScope s__law_at_goal) := ⟨rfl, rfl, rfl, by decide +kernel, rfl, by decide +kernel, by decide +kernel⟩
abbrev s_player_of : Stmt := topS 44
theorem sc_player_of : FnScope ["game", "state", "name", "player"] ["game", "state"] (defScope s_player_of) := ⟨rfl, rfl, rfl, by decide +kernel, rfl, by decide +kernel, by decide +kernel⟩
abbrev s_check_position : Stmt := topS 49
theorem sc_check_position : FnScope ["game", "state", "stack", "letter"] ["game", "state", "stack"] (defScope s_check_position) := ⟨rfl, rfl, rfl, by decide +kernel, rfl, by decide +kernel, by decide +kernel⟩
abbrev s_Plan___init__ : Stmt := ((clsBody (topS 61)).getD 0 (.Pass ⟨0, 0, 0, 0⟩))
theorem sc_Plan___init__ : FnScope ["self", "game", "state", "stack"] ["self", "game", "state", "stack"] (defScope s_Plan___init__) := ⟨rfl, rfl, rfl, by decide +kernel, rfl, by decide +kernel, by decide +kernel⟩
abbrev s_is_goal : Stmt := topS 50
theorem sc_is_goal : FnScope ["game", "state", "stack"] ["game", "state", "stack"] (defScope s_is_goal) := ⟨rfl, rfl, rfl, by decide +kernel, rfl, by decide +kernel, by decide +kernel⟩
abbrev s_at_goal : Stmt := topS 52
theorem sc_at_goal : FnScope ["game", "state", "stack"] ["game", "state", "stack"] (defScope s_at_goal) := ⟨rfl, rfl, rfl, by decide +kernel, rfl, by decide +kernel, by decide +kernel⟩
abbrev s_steps_of : Stmt := topS 43
theorem sc_steps_of : FnScope ["game", "state", "letter", "k", "step"] ["game", "state", "letter"] (defScope s_steps_of) := ⟨rfl, rfl, rfl, by decide +kernel, rfl, by decide +kernel, by decide +kernel⟩
abbrev s_possible : Stmt := topS 51
theorem sc_possible : FnScope ["game", "state", "stack"] ["game", "state", "stack"] (defScope s_possible) := ⟨rfl, rfl, rfl, by decide +kernel, rfl, by decide +kernel, by decide +kernel⟩
abbrev s_options : Stmt := topS 53
theorem sc_options : FnScope ["game", "state", "stack"] ["game", "state", "stack"] (defScope s_options) := ⟨rfl, rfl, rfl, by decide +kernel, rfl, by decide +kernel, by decide +kernel⟩
abbrev s_winner : Stmt := topS 54
theorem sc_winner : FnScope ["game", "state", "stack"] ["game", "state", "stack"] (defScope s_winner) := ⟨rfl, rfl, rfl, by decide +kernel, rfl, by decide +kernel, by decide +kernel⟩
abbrev s_winning : Stmt := topS 55
theorem sc_winning : FnScope ["game", "state"] ["game", "state"] (defScope s_winning) := ⟨rfl, rfl, rfl, by decide +kernel, rfl, by decide +kernel, by decide +kernel⟩
abbrev s__law_class : Stmt := topS 69
theorem sc__law_class : FnScope ["game", "name", "stack", "kind", "e"] ["game", "name", "stack", "kind"] (defScope s__law_class) := ⟨rfl, rfl, rfl, by decide +kernel, rfl, by decide +kernel, by decide +kernel⟩
abbrev s__law_next : Stmt := topS 64
theorem sc__law_next : FnScope ["state", "many", "turn"] ["state", "many"] (defScope s__law_next) := ⟨rfl, rfl, rfl, by decide +kernel, rfl, by decide +kernel, by decide +kernel⟩
abbrev s__law_word : Stmt := topS 65
theorem sc__law_word : FnScope ["state", "taken", "word", "k"] ["state", "taken"] (defScope s__law_word) := ⟨rfl, rfl, rfl, by decide +kernel, rfl, by decide +kernel, by decide +kernel⟩
abbrev s__law_game : Stmt := topS 66
theorem sc__law_game : FnScope ["state", "most", "many", "room", "taken", "states", "k", "player", "letters", "word", "other", "goals", "goal", "moves", "name", "after", "step", "alike", "j", "one"] ["state", "most"] (defScope s__law_game) := ⟨rfl, rfl, rfl, by decide +kernel, rfl, by decide +kernel, by decide +kernel⟩
abbrev s__law_options : Stmt := topS 68
theorem sc__law_options : FnScope ["game", "name", "stack", "k"] ["game", "name", "stack"] (defScope s__law_options) := ⟨rfl, rfl, rfl, by decide +kernel, rfl, by decide +kernel, by decide +kernel⟩
abbrev s__law_stream : Stmt := topS 63
theorem sc__law_stream : FnScope ["script", "numbers", "cell", "rest", "k", "mixed"] ["script"] (defScope s__law_stream) := ⟨rfl, rfl, rfl, by decide +kernel, rfl, by decide +kernel, by decide +kernel⟩
abbrev s_law : Stmt := topS 70
theorem sc_law : FnScope ["script", "state", "game", "states", "letters", "moves", "goals", "kept", "turn", "name", "many", "stack", "told", "goal", "strange", "at", "wrong", "kind", "k"] ["script"] (defScope s_law) := ⟨rfl, rfl, rfl, by decide +kernel, rfl, by decide +kernel, by decide +kernel⟩
structure Zs (K : PySem.W.Frag) (mg : Str → Option Value) : Prop where
  z_abs : mg "abs" = none
  z_all : mg "all" = none
  z_any : mg "any" = none
  z_bool : mg "bool" = none
  z_enumerate : mg "enumerate" = none
  z_int : mg "int" = none
  z_isinstance : mg "isinstance" = none
  z_len : mg "len" = none
  z_list : mg "list" = none
  z_range : mg "range" = none
  z_repr : mg "repr" = none
  z_tuple : mg "tuple" = none
  q_MAX_STACK : Con K mg "MAX_STACK" (.int 99)
structure Ks (K : PySem.W.Frag) (mg : Str → Option Value) (n_cls_BadPaper n_cls_Missing n_cls_NotAllowed n_cls_PergolaError n_cls_Plan n_cls_TooLarge : Nat) : Prop where
  m_BadPaper : mg "BadPaper" = some (.ref n_cls_BadPaper)
  m_Missing : mg "Missing" = some (.ref n_cls_Missing)
  m_NotAllowed : mg "NotAllowed" = some (.ref n_cls_NotAllowed)
  m_PergolaError : mg "PergolaError" = some (.ref n_cls_PergolaError)
  m_Plan : mg "Plan" = some (.ref n_cls_Plan)
  m_TooLarge : mg "TooLarge" = some (.ref n_cls_TooLarge)
  o_Plan : L2.Cls K n_cls_Plan
  c_Missing : Cls K mg "Missing" n_cls_Missing
  c_NotAllowed : Cls K mg "NotAllowed" n_cls_NotAllowed
  x_Missing : L2.ExcC K n_cls_Missing
  x_NotAllowed : L2.ExcC K n_cls_NotAllowed
  m2_Missing_Missing : PySem.W.exmOne K (.ref n_cls_Missing) (.ref n_cls_Missing) = some true
  m2_NotAllowed_Missing : PySem.W.exmOne K (.ref n_cls_NotAllowed) (.ref n_cls_Missing) = some false
  m2_NotAllowed_NotAllowed : PySem.W.exmOne K (.ref n_cls_NotAllowed) (.ref n_cls_NotAllowed) = some true
  k_Missing_BadPaper : PySem.W.kitOne K (.ref n_cls_Missing) (.ref n_cls_BadPaper) = some false
  k_Missing_NotAllowed : PySem.W.kitOne K (.ref n_cls_Missing) (.ref n_cls_NotAllowed) = some false
  k_Missing_PergolaError : PySem.W.kitOne K (.ref n_cls_Missing) (.ref n_cls_PergolaError) = some true
  k_Missing_TooLarge : PySem.W.kitOne K (.ref n_cls_Missing) (.ref n_cls_TooLarge) = some false
  k_NotAllowed_BadPaper : PySem.W.kitOne K (.ref n_cls_NotAllowed) (.ref n_cls_BadPaper) = some false
  k_NotAllowed_Missing : PySem.W.kitOne K (.ref n_cls_NotAllowed) (.ref n_cls_Missing) = some false
  k_NotAllowed_PergolaError : PySem.W.kitOne K (.ref n_cls_NotAllowed) (.ref n_cls_PergolaError) = some true
  k_NotAllowed_TooLarge : PySem.W.kitOne K (.ref n_cls_NotAllowed) (.ref n_cls_TooLarge) = some false
theorem bt_abs : bootBuiltins "abs" = some (.builtin "abs") := by decide +kernel
theorem bt_all : bootBuiltins "all" = some (.builtin "all") := by decide +kernel
theorem bt_any : bootBuiltins "any" = some (.builtin "any") := by decide +kernel
theorem bt_bool : bootBuiltins "bool" = some (.type "bool") := by decide +kernel
theorem bt_enumerate : bootBuiltins "enumerate" = some (.type "enumerate") := by decide +kernel
theorem bt_int : bootBuiltins "int" = some (.type "int") := by decide +kernel
theorem bt_isinstance : bootBuiltins "isinstance" = some (.builtin "isinstance") := by decide +kernel
theorem bt_len : bootBuiltins "len" = some (.builtin "len") := by decide +kernel
theorem bt_list : bootBuiltins "list" = some (.type "list") := by decide +kernel
theorem bt_range : bootBuiltins "range" = some (.type "range") := by decide +kernel
theorem bt_repr : bootBuiltins "repr" = some (.builtin "repr") := by decide +kernel
theorem bt_tuple : bootBuiltins "tuple" = some (.type "tuple") := by decide +kernel
def f__law_at_goal : M Fl := (sRet (eOr (eOp (hIn false) (eTup (aC (eV 1) (aC (eC (.bool false)) aN))) (eOp hIx (eV 0) (eC (.int 3)))) (eAn (eOp hEq (eCN hLen (lC (eV 2) lN)) (eC (.int 0))) (eOp (hIn false) (eTup (aC (eV 1) (aC (eC (.bool true)) aN))) (eOp hIx (eV 0) (eC (.int 3)))))))
def g__law_at_goal : M O := defG 3 3 (f__law_at_goal)
theorem ok__law_at_goal {P : Program} {w : World} {K : PySem.W.Frag} {mg : Str → Option Value} {base : Heap} (Z : Zs K mg) {f : Addr} {fd : FuncData} (d : Def K mg "_law_at_goal" s__law_at_goal ["game", "name", "stack"] f fd) : FnG P w K mg base (0 + 1) f fd ["game", "name", "stack"] (g__law_at_goal) :=
    FnG.of2 ["game", "name", "stack"] (k := 0) (fB := f__law_at_goal) d.fu sc__law_at_goal rfl rfl fun cdv A outer s H E hgd hr =>
      (evB_one
      (r_ret (ev_or (r_cmp (op_inP (hu200 hr)) sn_in (r_tup (r_cons (r_var 1) (r_cons r_bl r_aNil))) (r_ix (ix_all (hu200 hr)) sn_ix (r_var 0) r_int (fun _ _ => rfl)) (by rfl)) (ev_one (ev_and (r_cmp (op_eqP (hu200 hr)) sn_eq (r_callB call_lenA sn_len (by rfl) Z.z_len bt_len (r_lCons (r_var 2) r_lNil)) r_int (by rfl)) (ev_one (r_cmp (op_inP (hu200 hr)) sn_in (r_tup (r_cons (r_var 1) (r_cons r_bl r_aNil))) (r_ix (ix_all (hu200 hr)) sn_ix (r_var 0) r_int (fun _ _ => rfl)) (by rfl))))))))
def f_player_of (n_cls_BadPaper : Nat) (n_cls_Missing : Nat) (n_cls_NotAllowed : Nat) (n_cls_PergolaError : Nat) (n_cls_Plan : Nat) (n_cls_TooLarge : Nat) : M Fl := (sSeq (sFor (iV (eOp hIx (eV 0) (eC (.int 0)))) (tgTup 2 (tgCons (tgName 2) (tgCons (tgName 3) tgNil))) (sIf (eTs hEq (eV 2) (eV 1)) (sRet (eV 3)) sN))
    (sRaise n_cls_Missing))
def g_player_of (n_cls_BadPaper : Nat) (n_cls_Missing : Nat) (n_cls_NotAllowed : Nat) (n_cls_PergolaError : Nat) (n_cls_Plan : Nat) (n_cls_TooLarge : Nat) : M O := defG 2 4 (f_player_of n_cls_BadPaper n_cls_Missing n_cls_NotAllowed n_cls_PergolaError n_cls_Plan n_cls_TooLarge)
theorem ok_player_of {P : Program} {w : World} {K : PySem.W.Frag} {mg : Str → Option Value} {base : Heap} (Z : Zs K mg) {f : Addr} {fd : FuncData} (n_cls_BadPaper : Nat) (n_cls_Missing : Nat) (n_cls_NotAllowed : Nat) (n_cls_PergolaError : Nat) (n_cls_Plan : Nat) (n_cls_TooLarge : Nat) (Γ : Ks K mg n_cls_BadPaper n_cls_Missing n_cls_NotAllowed n_cls_PergolaError n_cls_Plan n_cls_TooLarge) (d : Def K mg "player_of" s_player_of ["game", "state"] f fd) : FnG P w K mg base (0 + 1) f fd ["game", "state"] (g_player_of n_cls_BadPaper n_cls_Missing n_cls_NotAllowed n_cls_PergolaError n_cls_Plan n_cls_TooLarge) :=
    FnG.of2 ["game", "state", "name", "player"] (k := 0) (fB := f_player_of n_cls_BadPaper n_cls_Missing n_cls_NotAllowed n_cls_PergolaError n_cls_Plan n_cls_TooLarge) d.fu sc_player_of rfl rfl fun cdv A outer s H E hgd hr =>
      (evB_cons
      (r_for cx_passes rfl (r_iV (r_ix (ix_all (hu200 hr)) sn_ix (r_var 0) r_int (fun _ _ => rfl))) (pg_tup rfl (pgs_cons (pg_name (i := 2) sc_player_of.nd rfl (by first | exact Or.inl rfl | exact Or.inr rfl)) (pgs_cons (pg_name (i := 3) sc_player_of.nd rfl (by first | exact Or.inl rfl | exact Or.inr rfl)) pgs_nil))) (tg_tup (tg_cons tg_name (tg_cons tg_name tg_nil (gName_mono)) (gName_mono))) (evB_one
      (r_if (r_cmpT (op_eqP (hu200 hr)) sn_eq (r_var 2) (r_var 1) (by rfl)) (evB_one
      (r_ret (r_var 3))) r_nil)))
      (evB_one
      (r_raise Γ.c_Missing rfl cx_takes (by rfl))))
def f_check_position (n_cls_BadPaper : Nat) (n_cls_Missing : Nat) (n_cls_NotAllowed : Nat) (n_cls_PergolaError : Nat) (n_cls_Plan : Nat) (n_cls_TooLarge : Nat) : M Fl := (sSeq (sEx (eCall (g_player_of n_cls_BadPaper n_cls_Missing n_cls_NotAllowed n_cls_PergolaError n_cls_Plan n_cls_TooLarge) 2 (gF (eV 0) (gF (eV 1) gN))))
    (sIf (tO (eTs hGt (eCN hLen (lC (eV 2) lN)) (eC (.int 99))) (tNt (tTr (eCN hAll (lC (eLc [3] (iV (eV 2)) (tgName 3) iT (eOp (hIn false) (eV 3) (eOp hIx (eV 0) (eC (.int 1))))) lN))))) (sRaise n_cls_NotAllowed) sN))
def g_check_position (n_cls_BadPaper : Nat) (n_cls_Missing : Nat) (n_cls_NotAllowed : Nat) (n_cls_PergolaError : Nat) (n_cls_Plan : Nat) (n_cls_TooLarge : Nat) : M O := defG 3 4 (f_check_position n_cls_BadPaper n_cls_Missing n_cls_NotAllowed n_cls_PergolaError n_cls_Plan n_cls_TooLarge)
theorem ok_check_position {P : Program} {w : World} {K : PySem.W.Frag} {mg : Str → Option Value} {base : Heap} (Z : Zs K mg) {f : Addr} {fd : FuncData} (n_cls_BadPaper : Nat) (n_cls_Missing : Nat) (n_cls_NotAllowed : Nat) (n_cls_PergolaError : Nat) (n_cls_Plan : Nat) (n_cls_TooLarge : Nat) (Γ : Ks K mg n_cls_BadPaper n_cls_Missing n_cls_NotAllowed n_cls_PergolaError n_cls_Plan n_cls_TooLarge) (d : Def K mg "check_position" s_check_position ["game", "state", "stack"] f fd) (c_player_of : Cal P w K mg base (0 + 1) "player_of" 2 (g_player_of n_cls_BadPaper n_cls_Missing n_cls_NotAllowed n_cls_PergolaError n_cls_Plan n_cls_TooLarge)) : FnG P w K mg base ((0 + 1) + 1) f fd ["game", "state", "stack"] (g_check_position n_cls_BadPaper n_cls_Missing n_cls_NotAllowed n_cls_PergolaError n_cls_Plan n_cls_TooLarge) :=
    FnG.of2 ["game", "state", "stack", "letter"] (k := (0 + 1)) (fB := f_check_position n_cls_BadPaper n_cls_Missing n_cls_NotAllowed n_cls_PergolaError n_cls_Plan n_cls_TooLarge) d.fu sc_check_position rfl rfl fun cdv A outer s H E hgd hr =>
      (evB_cons
      (r_sEx (r_call c_player_of (Nat.le_refl _) hr hgd (by rfl) cx_takes (r_gF (r_var 0) (r_gF (r_var 1) r_gN))))
      (evB_one
      (r_if (evT_w (r_wOr (r_cmpT op_gtA sn_cmp (r_callB call_lenA sn_len (by rfl) Z.z_len bt_len (r_lCons (r_var 2) r_lNil)) (r_con Z.q_MAX_STACK (by rfl)) (by rfl)) (evW_or1 (r_tNot (r_tru (r_callB (cr_all (by rfl)) sn_all (by rfl) Z.z_all bt_all (r_lCons (r_lc (own := [("letter", 3)]) rfl (by rfl) sc_check_position.nd (r_iV (r_var 2)) (blkOk_by (N := ["game", "state", "stack", "letter"]) (sc := defScope s_check_position) (own := [("letter", 3)]) (by decide +kernel)) tg_name (tw_name (by decide)) (gName_mono) (fun _ _ _ _ _ => (pg_name (i := 3) sc_check_position.nd rfl (by first | exact Or.inl rfl | exact Or.inr rfl))) (fun _ _ _ _ _ => evQ_nil) (fun _ _ _ _ _ => (r_cmp (op_inP (hu200 hr)) sn_in (r_var 3) (r_ix (ix_all (hu200 hr)) sn_ix (r_var 0) r_int (fun _ _ => rfl)) (by rfl)))) r_lNil))))))) (evB_one
      (r_raise Γ.c_NotAllowed rfl cx_takes (by rfl))) r_nil)))
def f_Plan___init__ (n_cls_BadPaper : Nat) (n_cls_Missing : Nat) (n_cls_NotAllowed : Nat) (n_cls_PergolaError : Nat) (n_cls_Plan : Nat) (n_cls_TooLarge : Nat) : M Fl := (sSeq (sEx (eCall (g_check_position n_cls_BadPaper n_cls_Missing n_cls_NotAllowed n_cls_PergolaError n_cls_Plan n_cls_TooLarge) 3 (gF (eV 1) (gF (eV 2) (gF (eV 3) gN)))))
    (sSeq sNo
    (sSeq sNo
    (sSeq sNo
    (sSeq sNo
    (sSeq sNo
    (sSeq sNo
    (sSeq sNo
    (sSeq sNo
    sNo)))))))))
def g_Plan___init__ (n_cls_BadPaper : Nat) (n_cls_Missing : Nat) (n_cls_NotAllowed : Nat) (n_cls_PergolaError : Nat) (n_cls_Plan : Nat) (n_cls_TooLarge : Nat) : M O := defG 4 4 (f_Plan___init__ n_cls_BadPaper n_cls_Missing n_cls_NotAllowed n_cls_PergolaError n_cls_Plan n_cls_TooLarge)
theorem ok_Plan___init__ {P : Program} {w : World} {K : PySem.W.Frag} {mg : Str → Option Value} {base : Heap} (Z : Zs K mg) {f : Addr} {fd : FuncData} (n_cls_BadPaper : Nat) (n_cls_Missing : Nat) (n_cls_NotAllowed : Nat) (n_cls_PergolaError : Nat) (n_cls_Plan : Nat) (n_cls_TooLarge : Nat) (Γ : Ks K mg n_cls_BadPaper n_cls_Missing n_cls_NotAllowed n_cls_PergolaError n_cls_Plan n_cls_TooLarge) (d : IDef K n_cls_Plan "Plan.__init__" s_Plan___init__ ["self", "game", "state", "stack"] f fd) (c_check_position : Cal P w K mg base ((0 + 1) + 1) "check_position" 3 (g_check_position n_cls_BadPaper n_cls_Missing n_cls_NotAllowed n_cls_PergolaError n_cls_Plan n_cls_TooLarge)) : FnG P w K mg base (((0 + 1) + 1) + 1) f fd ["self", "game", "state", "stack"] (g_Plan___init__ n_cls_BadPaper n_cls_Missing n_cls_NotAllowed n_cls_PergolaError n_cls_Plan n_cls_TooLarge) :=
    FnG.of2 ["self", "game", "state", "stack"] (k := ((0 + 1) + 1)) (fB := f_Plan___init__ n_cls_BadPaper n_cls_Missing n_cls_NotAllowed n_cls_PergolaError n_cls_Plan n_cls_TooLarge) d.fu sc_Plan___init__ rfl rfl fun cdv A outer s H E hgd hr =>
      (evB_cons
      (r_sEx (r_call c_check_position (Nat.le_refl _) hr hgd (by rfl) cx_takes (r_gF (r_var 1) (r_gF (r_var 2) (r_gF (r_var 3) r_gN)))))
      (evB_cons
      r_sNo
      (evB_cons
      r_sNo
      (evB_cons
      r_sNo
      (evB_cons
      r_sNo
      (evB_cons
      r_sNo
      (evB_cons
      r_sNo
      (evB_cons
      r_sNo
      (evB_cons
      r_sNo
      (evB_one
      r_sNo))))))))))
def f_is_goal : M Fl := (sRet (eOr (eOp (hIn false) (eTup (aC (eV 1) (aC (eC (.bool false)) aN))) (eOp hIx (eV 0) (eC (.int 3)))) (eAn (eOp hEq (eCN hLen (lC (eV 2) lN)) (eC (.int 0))) (eOp (hIn false) (eTup (aC (eV 1) (aC (eC (.bool true)) aN))) (eOp hIx (eV 0) (eC (.int 3)))))))
def g_is_goal : M O := defG 3 3 (f_is_goal)
theorem ok_is_goal {P : Program} {w : World} {K : PySem.W.Frag} {mg : Str → Option Value} {base : Heap} (Z : Zs K mg) {f : Addr} {fd : FuncData} (d : Def K mg "is_goal" s_is_goal ["game", "state", "stack"] f fd) : FnG P w K mg base (0 + 1) f fd ["game", "state", "stack"] (g_is_goal) :=
    FnG.of2 ["game", "state", "stack"] (k := 0) (fB := f_is_goal) d.fu sc_is_goal rfl rfl fun cdv A outer s H E hgd hr =>
      (evB_one
      (r_ret (ev_or (r_cmp (op_inP (hu200 hr)) sn_in (r_tup (r_cons (r_var 1) (r_cons r_bl r_aNil))) (r_ix (ix_all (hu200 hr)) sn_ix (r_var 0) r_int (fun _ _ => rfl)) (by rfl)) (ev_one (ev_and (r_cmp (op_eqP (hu200 hr)) sn_eq (r_callB call_lenA sn_len (by rfl) Z.z_len bt_len (r_lCons (r_var 2) r_lNil)) r_int (by rfl)) (ev_one (r_cmp (op_inP (hu200 hr)) sn_in (r_tup (r_cons (r_var 1) (r_cons r_bl r_aNil))) (r_ix (ix_all (hu200 hr)) sn_ix (r_var 0) r_int (fun _ _ => rfl)) (by rfl))))))))
def f_at_goal (n_cls_BadPaper : Nat) (n_cls_Missing : Nat) (n_cls_NotAllowed : Nat) (n_cls_PergolaError : Nat) (n_cls_Plan : Nat) (n_cls_TooLarge : Nat) : M Fl := (sSeq (sEx (eCall (g_check_position n_cls_BadPaper n_cls_Missing n_cls_NotAllowed n_cls_PergolaError n_cls_Plan n_cls_TooLarge) 3 (gF (eV 0) (gF (eV 1) (gF (eV 2) gN)))))
    (sRet (eCall (g_is_goal) 3 (gF (eV 0) (gF (eV 1) (gF (eV 2) gN))))))
def g_at_goal (n_cls_BadPaper : Nat) (n_cls_Missing : Nat) (n_cls_NotAllowed : Nat) (n_cls_PergolaError : Nat) (n_cls_Plan : Nat) (n_cls_TooLarge : Nat) : M O := defG 3 3 (f_at_goal n_cls_BadPaper n_cls_Missing n_cls_NotAllowed n_cls_PergolaError n_cls_Plan n_cls_TooLarge)
theorem ok_at_goal {P : Program} {w : World} {K : PySem.W.Frag} {mg : Str → Option Value} {base : Heap} (Z : Zs K mg) {f : Addr} {fd : FuncData} (n_cls_BadPaper : Nat) (n_cls_Missing : Nat) (n_cls_NotAllowed : Nat) (n_cls_PergolaError : Nat) (n_cls_Plan : Nat) (n_cls_TooLarge : Nat) (Γ : Ks K mg n_cls_BadPaper n_cls_Missing n_cls_NotAllowed n_cls_PergolaError n_cls_Plan n_cls_TooLarge) (d : Def K mg "at_goal" s_at_goal ["game", "state", "stack"] f fd) (c_check_position : Cal P w K mg base ((0 + 1) + 1) "check_position" 3 (g_check_position n_cls_BadPaper n_cls_Missing n_cls_NotAllowed n_cls_PergolaError n_cls_Plan n_cls_TooLarge)) (c_is_goal : Cal P w K mg base (0 + 1) "is_goal" 3 (g_is_goal)) : FnG P w K mg base ((max ((0 + 1) + 1) (0 + 1)) + 1) f fd ["game", "state", "stack"] (g_at_goal n_cls_BadPaper n_cls_Missing n_cls_NotAllowed n_cls_PergolaError n_cls_Plan n_cls_TooLarge) :=
    FnG.of2 ["game", "state", "stack"] (k := (max ((0 + 1) + 1) (0 + 1))) (fB := f_at_goal n_cls_BadPaper n_cls_Missing n_cls_NotAllowed n_cls_PergolaError n_cls_Plan n_cls_TooLarge) d.fu sc_at_goal rfl rfl fun cdv A outer s H E hgd hr =>
      (evB_cons
      (r_sEx (r_call c_check_position (Nat.le_trans (Nat.le_refl _) (Nat.le_max_left _ _)) hr hgd (by rfl) cx_takes (r_gF (r_var 0) (r_gF (r_var 1) (r_gF (r_var 2) r_gN)))))
      (evB_one
      (r_ret (r_call c_is_goal (Nat.le_max_right _ _) hr hgd (by rfl) cx_takes (r_gF (r_var 0) (r_gF (r_var 1) (r_gF (r_var 2) r_gN)))))))
def f_steps_of : M Fl := (sRet (eLc [3, 4] (iE (aC (eOp hIx (eV 0) (eC (.int 2))) aN)) (tgTup 2 (tgCons (tgName 3) (tgCons (tgName 4) tgNil))) (tAn (eTs hEq (eOp hIx (eV 4) (eC (.int 0))) (eV 1)) (eTs hEq (eOp hIx (eV 4) (eC (.int 1))) (eV 2))) (eV 3)))
def g_steps_of : M O := defG 3 5 (f_steps_of)
theorem ok_steps_of {P : Program} {w : World} {K : PySem.W.Frag} {mg : Str → Option Value} {base : Heap} (Z : Zs K mg) {f : Addr} {fd : FuncData} (d : Def K mg "steps_of" s_steps_of ["game", "state", "letter"] f fd) : FnG P w K mg base (0 + 1) f fd ["game", "state", "letter"] (g_steps_of) :=
    FnG.of2 ["game", "state", "letter", "k", "step"] (k := 0) (fB := f_steps_of) d.fu sc_steps_of rfl rfl fun cdv A outer s H E hgd hr =>
      (evB_one
      (r_ret (r_lc (own := [("k", 3), ("step", 4)]) rfl (by rfl) sc_steps_of.nd (evI_enum (by rfl) Z.z_enumerate (r_cons (r_ix (ix_all (hu200 hr)) sn_ix (r_var 0) r_int (fun _ _ => rfl)) r_aNil)) (blkOk_by (N := ["game", "state", "letter", "k", "step"]) (sc := defScope s_steps_of) (own := [("k", 3), ("step", 4)]) (by decide +kernel)) (tg_tup (tg_cons tg_name (tg_cons tg_name tg_nil (gName_mono)) (gName_mono))) (tw_tup (tw_cons (tw_name (by decide)) (tw_cons (tw_name (by decide)) tw_nil (gName_mono)) (gName_mono))) (tm_tup (tm_cons (gName_mono) (tm_cons (gName_mono) tm_nil))) (fun _ _ _ _ _ => (pg_tup rfl (pgs_cons (pg_name (i := 3) sc_steps_of.nd rfl (by first | exact Or.inl rfl | exact Or.inr rfl)) (pgs_cons (pg_name (i := 4) sc_steps_of.nd rfl (by first | exact Or.inl rfl | exact Or.inr rfl)) pgs_nil)))) (fun _ _ _ _ _ => (evQ_one (evT_w (r_wAnd (r_cmpT (op_eqP (hu200 hr)) sn_eq (r_ix (ix_all (hu200 hr)) sn_ix (r_var 4) r_int (fun _ _ => rfl)) (r_var 1) (by rfl)) (evW_and1 (r_cmpT (op_eqP (hu200 hr)) sn_eq (r_ix (ix_all (hu200 hr)) sn_ix (r_var 4) r_int (fun _ _ => rfl)) (r_var 2) (by rfl))))))) (fun _ _ _ _ _ => (r_var 3)))))
def f_possible : M Fl := (sSeq (sIf (tO (eTs hEq (eCN hLen (lC (eV 2) lN)) (eC (.int 0))) (tTr (eCall (g_is_goal) 3 (gF (eV 0) (gF (eV 1) (gF (eV 2) gN)))))) (sRet (eLst aN)) sN)
    (sRet (eCall (g_steps_of) 3 (gF (eV 0) (gF (eV 1) (gF (eOp hIx (eV 2) (eC (.int 0))) gN))))))
def g_possible : M O := defG 3 3 (f_possible)
theorem ok_possible {P : Program} {w : World} {K : PySem.W.Frag} {mg : Str → Option Value} {base : Heap} (Z : Zs K mg) {f : Addr} {fd : FuncData} (d : Def K mg "possible" s_possible ["game", "state", "stack"] f fd) (c_is_goal : Cal P w K mg base (0 + 1) "is_goal" 3 (g_is_goal)) (c_steps_of : Cal P w K mg base (0 + 1) "steps_of" 3 (g_steps_of)) : FnG P w K mg base ((max (0 + 1) (0 + 1)) + 1) f fd ["game", "state", "stack"] (g_possible) :=
    FnG.of2 ["game", "state", "stack"] (k := (max (0 + 1) (0 + 1))) (fB := f_possible) d.fu sc_possible rfl rfl fun cdv A outer s H E hgd hr =>
      (evB_cons
      (r_if (evT_w (r_wOr (r_cmpT (op_eqP (hu200 hr)) sn_eq (r_callB call_lenA sn_len (by rfl) Z.z_len bt_len (r_lCons (r_var 2) r_lNil)) r_int (by rfl)) (evW_or1 (r_tru (r_call c_is_goal (Nat.le_trans (Nat.le_refl _) (Nat.le_max_left _ _)) hr hgd (by rfl) cx_takes (r_gF (r_var 0) (r_gF (r_var 1) (r_gF (r_var 2) r_gN)))))))) (evB_one
      (r_ret (r_lst r_aNil))) r_nil)
      (evB_one
      (r_ret (r_call c_steps_of (Nat.le_max_right _ _) hr hgd (by rfl) cx_takes (r_gF (r_var 0) (r_gF (r_var 1) (r_gF (r_ix (ix_all (hu200 hr)) sn_ix (r_var 2) r_int (fun _ _ => rfl)) r_gN)))))))
def f_options (n_cls_BadPaper : Nat) (n_cls_Missing : Nat) (n_cls_NotAllowed : Nat) (n_cls_PergolaError : Nat) (n_cls_Plan : Nat) (n_cls_TooLarge : Nat) : M Fl := (sSeq (sEx (eCall (g_check_position n_cls_BadPaper n_cls_Missing n_cls_NotAllowed n_cls_PergolaError n_cls_Plan n_cls_TooLarge) 3 (gF (eV 0) (gF (eV 1) (gF (eV 2) gN)))))
    (sRet (eCall (g_possible) 3 (gF (eV 0) (gF (eV 1) (gF (eV 2) gN))))))
def g_options (n_cls_BadPaper : Nat) (n_cls_Missing : Nat) (n_cls_NotAllowed : Nat) (n_cls_PergolaError : Nat) (n_cls_Plan : Nat) (n_cls_TooLarge : Nat) : M O := defG 3 3 (f_options n_cls_BadPaper n_cls_Missing n_cls_NotAllowed n_cls_PergolaError n_cls_Plan n_cls_TooLarge)
theorem ok_options {P : Program} {w : World} {K : PySem.W.Frag} {mg : Str → Option Value} {base : Heap} (Z : Zs K mg) {f : Addr} {fd : FuncData} (n_cls_BadPaper : Nat) (n_cls_Missing : Nat) (n_cls_NotAllowed : Nat) (n_cls_PergolaError : Nat) (n_cls_Plan : Nat) (n_cls_TooLarge : Nat) (Γ : Ks K mg n_cls_BadPaper n_cls_Missing n_cls_NotAllowed n_cls_PergolaError n_cls_Plan n_cls_TooLarge) (d : Def K mg "options" s_options ["game", "state", "stack"] f fd) (c_check_position : Cal P w K mg base ((0 + 1) + 1) "check_position" 3 (g_check_position n_cls_BadPaper n_cls_Missing n_cls_NotAllowed n_cls_PergolaError n_cls_Plan n_cls_TooLarge)) (c_possible : Cal P w K mg base ((max (0 + 1) (0 + 1)) + 1) "possible" 3 (g_possible)) : FnG P w K mg base ((max ((0 + 1) + 1) ((max (0 + 1) (0 + 1)) + 1)) + 1) f fd ["game", "state", "stack"] (g_options n_cls_BadPaper n_cls_Missing n_cls_NotAllowed n_cls_PergolaError n_cls_Plan n_cls_TooLarge) :=
    FnG.of2 ["game", "state", "stack"] (k := (max ((0 + 1) + 1) ((max (0 + 1) (0 + 1)) + 1))) (fB := f_options n_cls_BadPaper n_cls_Missing n_cls_NotAllowed n_cls_PergolaError n_cls_Plan n_cls_TooLarge) d.fu sc_options rfl rfl fun cdv A outer s H E hgd hr =>
      (evB_cons
      (r_sEx (r_call c_check_position (Nat.le_trans (Nat.le_refl _) (Nat.le_max_left _ _)) hr hgd (by rfl) cx_takes (r_gF (r_var 0) (r_gF (r_var 1) (r_gF (r_var 2) r_gN)))))
      (evB_one
      (r_ret (r_call c_possible (Nat.le_max_right _ _) hr hgd (by rfl) cx_takes (r_gF (r_var 0) (r_gF (r_var 1) (r_gF (r_var 2) r_gN)))))))
def f_winner (n_cls_BadPaper : Nat) (n_cls_Missing : Nat) (n_cls_NotAllowed : Nat) (n_cls_PergolaError : Nat) (n_cls_Plan : Nat) (n_cls_TooLarge : Nat) : M Fl := (sSeq (sEx (eCall (g_check_position n_cls_BadPaper n_cls_Missing n_cls_NotAllowed n_cls_PergolaError n_cls_Plan n_cls_TooLarge) 3 (gF (eV 0) (gF (eV 1) (gF (eV 2) gN)))))
    (sSeq sNo
    sNo))
def g_winner (n_cls_BadPaper : Nat) (n_cls_Missing : Nat) (n_cls_NotAllowed : Nat) (n_cls_PergolaError : Nat) (n_cls_Plan : Nat) (n_cls_TooLarge : Nat) : M O := defG 3 3 (f_winner n_cls_BadPaper n_cls_Missing n_cls_NotAllowed n_cls_PergolaError n_cls_Plan n_cls_TooLarge)
theorem ok_winner {P : Program} {w : World} {K : PySem.W.Frag} {mg : Str → Option Value} {base : Heap} (Z : Zs K mg) {f : Addr} {fd : FuncData} (n_cls_BadPaper : Nat) (n_cls_Missing : Nat) (n_cls_NotAllowed : Nat) (n_cls_PergolaError : Nat) (n_cls_Plan : Nat) (n_cls_TooLarge : Nat) (Γ : Ks K mg n_cls_BadPaper n_cls_Missing n_cls_NotAllowed n_cls_PergolaError n_cls_Plan n_cls_TooLarge) (d : Def K mg "winner" s_winner ["game", "state", "stack"] f fd) (c_check_position : Cal P w K mg base ((0 + 1) + 1) "check_position" 3 (g_check_position n_cls_BadPaper n_cls_Missing n_cls_NotAllowed n_cls_PergolaError n_cls_Plan n_cls_TooLarge)) : FnG P w K mg base (((0 + 1) + 1) + 1) f fd ["game", "state", "stack"] (g_winner n_cls_BadPaper n_cls_Missing n_cls_NotAllowed n_cls_PergolaError n_cls_Plan n_cls_TooLarge) :=
    FnG.of2 ["game", "state", "stack"] (k := ((0 + 1) + 1)) (fB := f_winner n_cls_BadPaper n_cls_Missing n_cls_NotAllowed n_cls_PergolaError n_cls_Plan n_cls_TooLarge) d.fu sc_winner rfl rfl fun cdv A outer s H E hgd hr =>
      (evB_cons
      (r_sEx (r_call c_check_position (Nat.le_refl _) hr hgd (by rfl) cx_takes (r_gF (r_var 0) (r_gF (r_var 1) (r_gF (r_var 2) r_gN)))))
      (evB_cons
      r_sNo
      (evB_one
      r_sNo)))
def f_winning (n_cls_BadPaper : Nat) (n_cls_Missing : Nat) (n_cls_NotAllowed : Nat) (n_cls_PergolaError : Nat) (n_cls_Plan : Nat) (n_cls_TooLarge : Nat) : M Fl := (sSeq (sEx (eCall (g_player_of n_cls_BadPaper n_cls_Missing n_cls_NotAllowed n_cls_PergolaError n_cls_Plan n_cls_TooLarge) 2 (gF (eV 0) (gF (eV 1) gN))))
    sNo)
def g_winning (n_cls_BadPaper : Nat) (n_cls_Missing : Nat) (n_cls_NotAllowed : Nat) (n_cls_PergolaError : Nat) (n_cls_Plan : Nat) (n_cls_TooLarge : Nat) : M O := defG 2 2 (f_winning n_cls_BadPaper n_cls_Missing n_cls_NotAllowed n_cls_PergolaError n_cls_Plan n_cls_TooLarge)
theorem ok_winning {P : Program} {w : World} {K : PySem.W.Frag} {mg : Str → Option Value} {base : Heap} (Z : Zs K mg) {f : Addr} {fd : FuncData} (n_cls_BadPaper : Nat) (n_cls_Missing : Nat) (n_cls_NotAllowed : Nat) (n_cls_PergolaError : Nat) (n_cls_Plan : Nat) (n_cls_TooLarge : Nat) (Γ : Ks K mg n_cls_BadPaper n_cls_Missing n_cls_NotAllowed n_cls_PergolaError n_cls_Plan n_cls_TooLarge) (d : Def K mg "winning" s_winning ["game", "state"] f fd) (c_player_of : Cal P w K mg base (0 + 1) "player_of" 2 (g_player_of n_cls_BadPaper n_cls_Missing n_cls_NotAllowed n_cls_PergolaError n_cls_Plan n_cls_TooLarge)) : FnG P w K mg base ((0 + 1) + 1) f fd ["game", "state"] (g_winning n_cls_BadPaper n_cls_Missing n_cls_NotAllowed n_cls_PergolaError n_cls_Plan n_cls_TooLarge) :=
    FnG.of2 ["game", "state"] (k := (0 + 1)) (fB := f_winning n_cls_BadPaper n_cls_Missing n_cls_NotAllowed n_cls_PergolaError n_cls_Plan n_cls_TooLarge) d.fu sc_winning rfl rfl fun cdv A outer s H E hgd hr =>
      (evB_cons
      (r_sEx (r_call c_player_of (Nat.le_refl _) hr hgd (by rfl) cx_takes (r_gF (r_var 0) (r_gF (r_var 1) r_gN))))
      (evB_one
      r_sNo))
def f__law_class (n_cls_BadPaper : Nat) (n_cls_Missing : Nat) (n_cls_NotAllowed : Nat) (n_cls_PergolaError : Nat) (n_cls_Plan : Nat) (n_cls_TooLarge : Nat) : M Fl := (sSeq (sTryM [(some 4, (hdYes n_cls_Missing (hRet (h2 hIx (roF (eLst (aC (eC (.str "missing")) (aC (eC (.str "other")) aN)))) (hN hInt (hCons (hOr (hC (.bool false)) (hNot (hC (.bool true)))) hNil)))) (hdNo n_cls_NotAllowed hdNil))), (some 4, (hdYes n_cls_NotAllowed (hRet (h2 hIx (roF (eLst (aC (eC (.str "allowed")) (aC (eC (.str "other")) aN)))) (hN hInt (hCons (hOr (hC (.bool false)) (hNot (hC (.bool true)))) hNil)))) hdNil)), (some 4, hdNil)] (sIf (eTs hEq (eV 3) (eC (.int 0))) (sEx (eCall (g_options n_cls_BadPaper n_cls_Missing n_cls_NotAllowed n_cls_PergolaError n_cls_Plan n_cls_TooLarge) 3 (gF (eV 0) (gF (eV 1) (gF (eV 2) gN))))) (sIf (eTs hEq (eV 3) (eC (.int 1))) (sEx (eCall (g_at_goal n_cls_BadPaper n_cls_Missing n_cls_NotAllowed n_cls_PergolaError n_cls_Plan n_cls_TooLarge) 3 (gF (eV 0) (gF (eV 1) (gF (eV 2) gN))))) (sIf (eTs hEq (eV 3) (eC (.int 2))) (sEx (eCall (g_winner n_cls_BadPaper n_cls_Missing n_cls_NotAllowed n_cls_PergolaError n_cls_Plan n_cls_TooLarge) 3 (gF (eV 0) (gF (eV 1) (gF (eV 2) gN))))) (sIf (eTs hEq (eV 3) (eC (.int 3))) (sEx (eMk n_cls_Plan (g_Plan___init__ n_cls_BadPaper n_cls_Missing n_cls_NotAllowed n_cls_PergolaError n_cls_Plan n_cls_TooLarge) 4 (aC (eV 0) (aC (eV 1) (aC (eV 2) aN))))) (sEx (eCall (g_winning n_cls_BadPaper n_cls_Missing n_cls_NotAllowed n_cls_PergolaError n_cls_Plan n_cls_TooLarge) 2 (gF (eV 0) (gF (eV 1) gN)))))))))
    (sRet (eC (.str "none"))))
def g__law_class (n_cls_BadPaper : Nat) (n_cls_Missing : Nat) (n_cls_NotAllowed : Nat) (n_cls_PergolaError : Nat) (n_cls_Plan : Nat) (n_cls_TooLarge : Nat) : M O := defG 4 5 (f__law_class n_cls_BadPaper n_cls_Missing n_cls_NotAllowed n_cls_PergolaError n_cls_Plan n_cls_TooLarge)
theorem ok__law_class {P : Program} {w : World} {K : PySem.W.Frag} {mg : Str → Option Value} {base : Heap} (Z : Zs K mg) {f : Addr} {fd : FuncData} (n_cls_BadPaper : Nat) (n_cls_Missing : Nat) (n_cls_NotAllowed : Nat) (n_cls_PergolaError : Nat) (n_cls_Plan : Nat) (n_cls_TooLarge : Nat) (Γ : Ks K mg n_cls_BadPaper n_cls_Missing n_cls_NotAllowed n_cls_PergolaError n_cls_Plan n_cls_TooLarge) (d : Def K mg "_law_class" s__law_class ["game", "name", "stack", "kind"] f fd) (c_Plan___init__ : ICal P w K mg base (((0 + 1) + 1) + 1 + 1) n_cls_Plan 4 (g_Plan___init__ n_cls_BadPaper n_cls_Missing n_cls_NotAllowed n_cls_PergolaError n_cls_Plan n_cls_TooLarge)) (c_at_goal : Cal P w K mg base ((max ((0 + 1) + 1) (0 + 1)) + 1) "at_goal" 3 (g_at_goal n_cls_BadPaper n_cls_Missing n_cls_NotAllowed n_cls_PergolaError n_cls_Plan n_cls_TooLarge)) (c_options : Cal P w K mg base ((max ((0 + 1) + 1) ((max (0 + 1) (0 + 1)) + 1)) + 1) "options" 3 (g_options n_cls_BadPaper n_cls_Missing n_cls_NotAllowed n_cls_PergolaError n_cls_Plan n_cls_TooLarge)) (c_winner : Cal P w K mg base (((0 + 1) + 1) + 1) "winner" 3 (g_winner n_cls_BadPaper n_cls_Missing n_cls_NotAllowed n_cls_PergolaError n_cls_Plan n_cls_TooLarge)) (c_winning : Cal P w K mg base ((0 + 1) + 1) "winning" 2 (g_winning n_cls_BadPaper n_cls_Missing n_cls_NotAllowed n_cls_PergolaError n_cls_Plan n_cls_TooLarge)) : FnG P w K mg base ((max (max (max (max (((0 + 1) + 1) + 1 + 1) ((max ((0 + 1) + 1) (0 + 1)) + 1)) ((max ((0 + 1) + 1) ((max (0 + 1) (0 + 1)) + 1)) + 1)) (((0 + 1) + 1) + 1)) ((0 + 1) + 1)) + 1) f fd ["game", "name", "stack", "kind"] (g__law_class n_cls_BadPaper n_cls_Missing n_cls_NotAllowed n_cls_PergolaError n_cls_Plan n_cls_TooLarge) :=
    FnG.of2 ["game", "name", "stack", "kind", "e"] (k := (max (max (max (max (((0 + 1) + 1) + 1 + 1) ((max ((0 + 1) + 1) (0 + 1)) + 1)) ((max ((0 + 1) + 1) ((max (0 + 1) (0 + 1)) + 1)) + 1)) (((0 + 1) + 1) + 1)) ((0 + 1) + 1))) (fB := f__law_class n_cls_BadPaper n_cls_Missing n_cls_NotAllowed n_cls_PergolaError n_cls_Plan n_cls_TooLarge) d.fu sc__law_class rfl rfl fun cdv A outer s H E hgd hr =>
      (evB_cons
      (r_tryM rfl rfl sc__law_class.nd cx_takes (fun W pn xe tk pso => (evB_one
      (r_if (r_cmpT (op_eqP (hu200 hr)) sn_eq (r_var 3) r_int (by rfl)) (evB_one
      (r_sEx (r_call c_options (Nat.le_trans (Nat.le_trans (Nat.le_max_right _ _) (Nat.le_max_left _ _)) (Nat.le_max_left _ _)) hr hgd (by rfl) tk (r_gF (r_var 0) (r_gF (r_var 1) (r_gF (r_var 2) r_gN)))))) (evB_one
      (r_if (r_cmpT (op_eqP (hu200 hr)) sn_eq (r_var 3) r_int (by rfl)) (evB_one
      (r_sEx (r_call c_at_goal (Nat.le_trans (Nat.le_trans (Nat.le_trans (Nat.le_max_right _ _) (Nat.le_max_left _ _)) (Nat.le_max_left _ _)) (Nat.le_max_left _ _)) hr hgd (by rfl) tk (r_gF (r_var 0) (r_gF (r_var 1) (r_gF (r_var 2) r_gN)))))) (evB_one
      (r_if (r_cmpT (op_eqP (hu200 hr)) sn_eq (r_var 3) r_int (by rfl)) (evB_one
      (r_sEx (r_call c_winner (Nat.le_trans (Nat.le_max_right _ _) (Nat.le_max_left _ _)) hr hgd (by rfl) tk (r_gF (r_var 0) (r_gF (r_var 1) (r_gF (r_var 2) r_gN)))))) (evB_one
      (r_if (r_cmpT (op_eqP (hu200 hr)) sn_eq (r_var 3) r_int (by rfl)) (evB_one
      (r_sEx (r_make c_Plan___init__ Γ.m_Plan (Nat.le_trans (Nat.le_trans (Nat.le_trans (Nat.le_trans (Nat.le_refl _) (Nat.le_max_left _ _)) (Nat.le_max_left _ _)) (Nat.le_max_left _ _)) (Nat.le_max_left _ _)) hr hgd (by rfl) tk (r_cons (r_var 0) (r_cons (r_var 1) (r_cons (r_var 2) r_aNil)))))) (evB_one
      (r_sEx (r_call c_winning (Nat.le_max_right _ _) hr hgd (by rfl) tk (r_gF (r_var 0) (r_gF (r_var 1) r_gN)))))))))))))) (.as_ (i := 4) (cX := n_cls_Missing) ⟨by rfl, by decide, .inl Γ.m_Missing⟩ rfl rfl (hdo_yes Γ.m2_Missing_Missing (fun a oe dd pn hz hf => (hb_one (hs_ret (eh_ix (ix_all (hu200S hr)) sn_ix (eh_of (r_lst (r_cons r_str (r_cons r_str r_aNil)))) (eh_callTy call_intA sn_int (by rfl) Z.z_int bt_int (eh_cons (eh_or (eh_isT (his_suite Γ.x_Missing hz.zc hf) (pv 4) (cs := [n_cls_NotAllowed, n_cls_TooLarge, n_cls_BadPaper]) (.cons (by rfl) Γ.m_NotAllowed (by decide) (by rfl) (.cons (by rfl) Γ.m_TooLarge (by decide) (by rfl) (.cons (by rfl) Γ.m_BadPaper (by decide) (by rfl) .nil))) (by show 3 ≤ sizeLine; decide) (Vs.kitAny_f Γ.k_Missing_NotAllowed (Vs.kitAny_f Γ.k_Missing_TooLarge (Vs.kitAny_f Γ.k_Missing_BadPaper Vs.kitAny_nil))) (by rfl) Z.z_isinstance bt_isinstance) (eh_one (eh_not (eh_isi (his_suite Γ.x_Missing hz.zc hf) (pv 4) (by rfl) Γ.m_PergolaError Γ.k_Missing_PergolaError (by rfl) Z.z_isinstance bt_isinstance)))) eh_nil)) (fun _ _ => rfl))))) (hdo_no Γ.m2_NotAllowed_Missing hdo_nil)) (.as_ (i := 4) (cX := n_cls_NotAllowed) ⟨by rfl, by decide, .inl Γ.m_NotAllowed⟩ rfl rfl (hdo_yes Γ.m2_NotAllowed_NotAllowed (fun a oe dd pn hz hf => (hb_one (hs_ret (eh_ix (ix_all (hu200S hr)) sn_ix (eh_of (r_lst (r_cons r_str (r_cons r_str r_aNil)))) (eh_callTy call_intA sn_int (by rfl) Z.z_int bt_int (eh_cons (eh_or (eh_isT (his_suite Γ.x_NotAllowed hz.zc hf) (pv 4) (cs := [n_cls_Missing, n_cls_TooLarge, n_cls_BadPaper]) (.cons (by rfl) Γ.m_Missing (by decide) (by rfl) (.cons (by rfl) Γ.m_TooLarge (by decide) (by rfl) (.cons (by rfl) Γ.m_BadPaper (by decide) (by rfl) .nil))) (by show 3 ≤ sizeLine; decide) (Vs.kitAny_f Γ.k_NotAllowed_Missing (Vs.kitAny_f Γ.k_NotAllowed_TooLarge (Vs.kitAny_f Γ.k_NotAllowed_BadPaper Vs.kitAny_nil))) (by rfl) Z.z_isinstance bt_isinstance) (eh_one (eh_not (eh_isi (his_suite Γ.x_NotAllowed hz.zc hf) (pv 4) (by rfl) Γ.m_PergolaError Γ.k_NotAllowed_PergolaError (by rfl) Z.z_isinstance bt_isinstance)))) eh_nil)) (fun _ _ => rfl))))) hdo_nil) (.as_ (i := 4) (cX := n_cls_TooLarge) ⟨by rfl, by decide, .inl Γ.m_TooLarge⟩ rfl rfl hdo_nil .nil))))
      (evB_one
      (r_ret r_str)))
def f__law_next : M Fl := (sSeq (sSt 0 (eOp hAdd (eOp hIx (eV 0) (eC (.int 1))) (eC (.int 1))) (eC (.int 1)))
    (sSeq (sSet 2 (eOp (hI cDiv fun i j => i / j) (eOp hIx (eV 0) (eC (.int 1))) (eCN hLen (lC (eOp hIx (eV 0) (eC (.int 0))) lN))))
    (sRet (eOp (hI cMod fun i j => i % j) (eCN hInt (lC (eOp hAdd (eOp hAdd (eOp hIx (eOp hIx (eV 0) (eC (.int 0))) (eOp (hI cMod fun i j => i % j) (eOp hIx (eV 0) (eC (.int 1))) (eCN hLen (lC (eOp hIx (eV 0) (eC (.int 0))) lN)))) (eOp (hI cMul fun i j => i * j) (eV 2) (eC (.int 389)))) (eOp (hI cMul fun i j => i * j) (eOp (hI cMul fun i j => i * j) (eOp hIx (eV 0) (eC (.int 1))) (eV 2)) (eC (.int 17)))) lN)) (eV 1)))))
def g__law_next : M O := defG 2 3 (f__law_next)
theorem ok__law_next {P : Program} {w : World} {K : PySem.W.Frag} {mg : Str → Option Value} {base : Heap} (Z : Zs K mg) {f : Addr} {fd : FuncData} (d : Def K mg "_law_next" s__law_next ["state", "many"] f fd) : FnG P w K mg base (0 + 1) f fd ["state", "many"] (g__law_next) :=
    FnG.of2 ["state", "many", "turn"] (k := 0) (fB := f__law_next) d.fu sc__law_next rfl rfl fun cdv A outer s H E hgd hr =>
      (evB_cons
      (ev_store (hu200 hr) (pv 0) r_int (r_op op_addAll sn_add (r_ix (ix_all (hu200 hr)) sn_ix (r_var 0) r_int (fun _ _ => rfl)) r_int))
      (evB_cons
      (r_set (i := 2) sc__law_next.nd rfl (by first | exact Or.inl rfl | exact Or.inr rfl) (r_op op_fdiv sn_fdiv (r_ix (ix_all (hu200 hr)) sn_ix (r_var 0) r_int (fun _ _ => rfl)) (r_callB call_lenA sn_len (by rfl) Z.z_len bt_len (r_lCons (r_ix (ix_all (hu200 hr)) sn_ix (r_var 0) r_int (fun _ _ => rfl)) r_lNil))))
      (evB_one
      (r_ret (r_op op_mod sn_mod (r_callTy call_intA sn_int (by rfl) Z.z_int bt_int (r_lCons (r_op op_addAll sn_add (r_op op_addAll sn_add (r_ix (ix_all (hu200 hr)) sn_ix (r_ix (ix_all (hu200 hr)) sn_ix (r_var 0) r_int (fun _ _ => rfl)) (r_op op_mod sn_mod (r_ix (ix_all (hu200 hr)) sn_ix (r_var 0) r_int (fun _ _ => rfl)) (r_callB call_lenA sn_len (by rfl) Z.z_len bt_len (r_lCons (r_ix (ix_all (hu200 hr)) sn_ix (r_var 0) r_int (fun _ _ => rfl)) r_lNil))) (fun _ _ => rfl)) (r_op op_mulW sn_mulI (r_var 2) r_int)) (r_op op_mulW sn_mulI (r_op op_mulW sn_mulI (r_ix (ix_all (hu200 hr)) sn_ix (r_var 0) r_int (fun _ _ => rfl)) (r_var 2)) r_int)) r_lNil)) (r_var 1))))))
def f__law_word : M Fl := (sSeq (sSet 2 (eC (.str "")))
    (sSeq (sFor (iR1 (aC (eOp hIx (eLst (aC (eC (.int 1)) (aC (eC (.int 2)) (aC (eOp hAdd (eC (.int 1)) (eCall (g__law_next) 2 (gB 0 (gF (eC (.int 8)) gN)))) aN)))) (eCall (g__law_next) 2 (gB 0 (gF (eC (.int 3)) gN)))) aN)) (tgName 3) (sSet 2 (eOp hAdd (eV 2) (eOp hIx (eC (.str "abyz")) (eCall (g__law_next) 2 (gB 0 (gF (eC (.int 4)) gN)))))))
    (sSeq (sIf (eTs (hIn false) (eV 2) (eV 1)) (sRet (eOp hAdd (eC (.str "c")) (eOp hIx (eC (.str "abcdefghijklmnopqrstuvwxyz")) (eCN hLen (lC (eV 1) lN))))) sN)
    (sRet (eV 2)))))
def g__law_word : M O := defG 2 4 (f__law_word)
theorem ok__law_word {P : Program} {w : World} {K : PySem.W.Frag} {mg : Str → Option Value} {base : Heap} (Z : Zs K mg) {f : Addr} {fd : FuncData} (d : Def K mg "_law_word" s__law_word ["state", "taken"] f fd) (c__law_next : Cal P w K mg base (0 + 1) "_law_next" 2 (g__law_next)) : FnG P w K mg base ((0 + 1) + 1) f fd ["state", "taken"] (g__law_word) :=
    FnG.of2 ["state", "taken", "word", "k"] (k := (0 + 1)) (fB := f__law_word) d.fu sc__law_word rfl rfl fun cdv A outer s H E hgd hr =>
      (evB_cons
      (r_set (i := 2) sc__law_word.nd rfl (by first | exact Or.inl rfl | exact Or.inr rfl) r_str)
      (evB_cons
      (r_for cx_passes rfl (evI_rng1 (by rfl) Z.z_range (r_cons (r_ix (ix_all (hu200 hr)) sn_ix (r_lst (r_cons r_int (r_cons r_int (r_cons (r_op op_addAll sn_add r_int (r_call c__law_next (Nat.le_refl _) hr hgd (by rfl) cx_takes (r_gB (pv 0) (r_gF r_int r_gN)))) r_aNil)))) (r_call c__law_next (Nat.le_refl _) hr hgd (by rfl) cx_takes (r_gB (pv 0) (r_gF r_int r_gN))) (fun _ _ => rfl)) r_aNil)) (pg_name (i := 3) sc__law_word.nd rfl (by first | exact Or.inl rfl | exact Or.inr rfl)) tg_name (evB_one
      (r_set (i := 2) sc__law_word.nd rfl (by first | exact Or.inl rfl | exact Or.inr rfl) (r_op op_addAll sn_add (r_var 2) (r_ix (ix_all (hu200 hr)) sn_ix r_str (r_call c__law_next (Nat.le_refl _) hr hgd (by rfl) cx_takes (r_gB (pv 0) (r_gF r_int r_gN))) (fun _ _ => rfl))))))
      (evB_cons
      (r_if (r_cmpT (op_inP (hu200 hr)) sn_in (r_var 2) (r_var 1) (by rfl)) (evB_one
      (r_ret (r_op op_addAll sn_add r_str (r_ix (ix_all (hu200 hr)) sn_ix r_str (r_callB call_lenA sn_len (by rfl) Z.z_len bt_len (r_lCons (r_var 1) r_lNil)) (fun _ _ => rfl))))) r_nil)
      (evB_one
      (r_ret (r_var 2))))))
def f__law_game : M Fl := (sSeq (sSet 2 (eOp hAdd (eC (.int 1)) (eCall (g__law_next) 2 (gB 0 (gF (eC (.int 3)) gN)))))
    (sSeq (sSet 3 (eC (.int 24)))
    (sSeq (sSet 4 (eLst aN))
    (sSeq (sSet 5 (eLst aN))
    (sSeq (sFor (iR1 (aC (eOp hAdd (eC (.int 1)) (eCall (g__law_next) 2 (gB 0 (gF (eV 1) gN)))) aN)) (tgName 6) (sSeq (sApp 4 (eCall (g__law_word) 2 (gB 0 (gB 4 gN))))
    (sSeq (sSet 7 (eOp hIx (eLst (aC (eC (.int 0)) (aC (eCall (g__law_next) 2 (gB 0 (gF (eC (.int 2)) gN))) aN))) (eCN hInt (lC (eOp hGt (eOp (hI (fun _ _ => true) fun i j => i - j) (eV 3) (eV 2)) (eC (.int 8))) lN))))
    (sSeq (sSet 3 (eOp (hI (fun _ _ => true) fun i j => i - j) (eV 3) (eOp (hI cMul fun i j => i * j) (eV 7) (eOp hAdd (eV 2) (eC (.int 1))))))
    (sApp 5 (eTup (aC (eOp hIx (eV 4) (eUn hNeg (eC (.int 1)))) (aC (eV 7) aN))))))))
    (sSeq (sSet 8 (eLst aN))
    (sSeq (sFor (iR1 (aC (eV 2) aN)) (tgName 6) (sSeq (sSet 9 (eCall (g__law_word) 2 (gB 0 (gB 4 gN))))
    (sSeq (sSet 10 (eOp hIx (eC (.str "xyzw")) (eCall (g__law_next) 2 (gB 0 (gF (eC (.int 4)) gN)))))
    (sSeq (sIf (tAn (eTs hEq (eCall (g__law_next) 2 (gB 0 (gF (eC (.int 3)) gN))) (eC (.int 0))) (eTs (hIn true) (eV 10) (eV 4))) (sSet 9 (eV 10)) sN)
    (sSeq (sApp 4 (eV 9))
    (sApp 8 (eV 9)))))))
    (sSeq (sSet 11 (eLst aN))
    (sSeq (sFor (iR1 (aC (eCall (g__law_next) 2 (gB 0 (gF (eC (.int 4)) gN))) aN)) (tgName 6) (sSeq (sSet 12 (eTup (aC (eOp hIx (eOp hIx (eV 5) (eCall (g__law_next) 2 (gB 0 (gF (eCN hLen (lC (eV 5) lN)) gN)))) (eC (.int 0))) (aC (eOp hGt (eCall (g__law_next) 2 (gB 0 (gF (eC (.int 4)) gN))) (eC (.int 0))) aN))))
    (sIf (eTs (hIn true) (eV 12) (eV 11)) (sApp 11 (eV 12)) sN)))
    (sSeq (sSet 3 (eOp (hI (fun _ _ => true) fun i j => i - j) (eV 3) (eCN hLen (lC (eV 11) lN))))
    (sSeq (sSet 13 (eLst aN))
    (sSeq (sFor (iR1 (aC (eOp hAdd (eCall (g__law_next) 2 (gB 0 (gF (eC (.int 8)) gN))) (eCall (g__law_next) 2 (gB 0 (gF (eC (.int 24)) gN)))) aN)) (tgName 6) (sSeq (sAsg (eOp hIx (eV 5) (eCall (g__law_next) 2 (gB 0 (gF (eCN hLen (lC (eV 5) lN)) gN)))) (tgTup 2 (tgCons (tgName 14) (tgCons (tgName 7) tgNil))))
    (sSeq (sSet 15 (eOp hIx (eOp hIx (eV 5) (eCall (g__law_next) 2 (gB 0 (gF (eCN hLen (lC (eV 5) lN)) gN)))) (eC (.int 0))))
    (sSeq (sSet 9 (eCN hTuple (lC (eLc [18] (iR1 (aC (eOp hIx (eLst (aC (eC (.int 0)) (aC (eC (.int 0)) (aC (eC (.int 1)) (aC (eC (.int 1)) (aC (eC (.int 2)) aN)))))) (eCall (g__law_next) 2 (gB 0 (gF (eC (.int 5)) gN)))) aN)) (tgName 18) iT (eOp hIx (eV 8) (eCall (g__law_next) 2 (gB 0 (gF (eV 2) gN))))) lN)))
    (sSeq (sSet 16 (eTup (aC (eV 14) (aC (eOp hIx (eV 8) (eCall (g__law_next) 2 (gB 0 (gF (eV 2) gN)))) (aC (eV 15) (aC (eV 9) aN))))))
    (sSeq (sSet 17 (eLcL 13 [19] (tgName 19) (eTs hEq (eSl (eV 19) pN (pI (eC (.int 2)))) (eSl (eV 16) pN (pI (eC (.int 2))))) (eV 19)))
    (sIf (tAn (eTs (hIn true) (eV 16) (eV 13)) (tAn (tO (eTs hGt (eV 3) (eC (.int 0))) (eTs hEq (eV 7) (eC (.int 1)))) (tO (eTs hLt (eCN hLen (lC (eV 17) lN)) (eC (.int 4))) (eTs hEq (eV 7) (eC (.int 0)))))) (sSeq (sApp 13 (eV 16))
    (sSet 3 (eOp hAdd (eOp (hI (fun _ _ => true) fun i j => i - j) (eV 3) (eC (.int 1))) (eV 7)))) sN)))))))
    (sRet (eTup (aC (eCN hTuple (lC (eV 5) lN)) (aC (eCN hTuple (lC (eV 8) lN)) (aC (eCN hTuple (lC (eV 13) lN)) (aC (eCN hTuple (lC (eV 11) lN)) aN))))))))))))))))))
def g__law_game : M O := defG 2 20 (f__law_game)
theorem ok__law_game {P : Program} {w : World} {K : PySem.W.Frag} {mg : Str → Option Value} {base : Heap} (Z : Zs K mg) {f : Addr} {fd : FuncData} (d : Def K mg "_law_game" s__law_game ["state", "most"] f fd) (c__law_next : Cal P w K mg base (0 + 1) "_law_next" 2 (g__law_next)) (c__law_word : Cal P w K mg base ((0 + 1) + 1) "_law_word" 2 (g__law_word)) : FnG P w K mg base ((max (0 + 1) ((0 + 1) + 1)) + 1) f fd ["state", "most"] (g__law_game) :=
    FnG.of2 ["state", "most", "many", "room", "taken", "states", "k", "player", "letters", "word", "other", "goals", "goal", "moves", "name", "after", "step", "alike", "j", "one"] (k := (max (0 + 1) ((0 + 1) + 1))) (fB := f__law_game) d.fu sc__law_game rfl rfl fun cdv A outer s H E hgd hr =>
      (evB_cons
      (r_set (i := 2) sc__law_game.nd rfl (by first | exact Or.inl rfl | exact Or.inr rfl) (r_op op_addAll sn_add r_int (r_call c__law_next (Nat.le_trans (Nat.le_refl _) (Nat.le_max_left _ _)) hr hgd (by rfl) cx_takes (r_gB (pv 0) (r_gF r_int r_gN)))))
      (evB_cons
      (r_set (i := 3) sc__law_game.nd rfl (by first | exact Or.inl rfl | exact Or.inr rfl) r_int)
      (evB_cons
      (r_set (i := 4) sc__law_game.nd rfl (by first | exact Or.inl rfl | exact Or.inr rfl) (r_lst r_aNil))
      (evB_cons
      (r_set (i := 5) sc__law_game.nd rfl (by first | exact Or.inl rfl | exact Or.inr rfl) (r_lst r_aNil))
      (evB_cons
      (r_for cx_passes rfl (evI_rng1 (by rfl) Z.z_range (r_cons (r_op op_addAll sn_add r_int (r_call c__law_next (Nat.le_trans (Nat.le_refl _) (Nat.le_max_left _ _)) hr hgd (by rfl) cx_takes (r_gB (pv 0) (r_gF (r_var 1) r_gN)))) r_aNil)) (pg_name (i := 6) sc__law_game.nd rfl (by first | exact Or.inl rfl | exact Or.inr rfl)) tg_name (evB_cons
      (ev_append (pv 4) (r_call c__law_word (Nat.le_max_right _ _) hr hgd (by rfl) cx_takes (r_gB (pv 0) (r_gB (pv 4) r_gN))))
      (evB_cons
      (r_set (i := 7) sc__law_game.nd rfl (by first | exact Or.inl rfl | exact Or.inr rfl) (r_ix (ix_all (hu200 hr)) sn_ix (r_lst (r_cons r_int (r_cons (r_call c__law_next (Nat.le_trans (Nat.le_refl _) (Nat.le_max_left _ _)) hr hgd (by rfl) cx_takes (r_gB (pv 0) (r_gF r_int r_gN))) r_aNil))) (r_callTy call_intA sn_int (by rfl) Z.z_int bt_int (r_lCons (r_cmp op_gtA sn_cmp (r_op op_sub sn_sub (r_var 3) (r_var 2)) r_int (by rfl)) r_lNil)) (fun _ _ => rfl)))
      (evB_cons
      (r_set (i := 3) sc__law_game.nd rfl (by first | exact Or.inl rfl | exact Or.inr rfl) (r_op op_sub sn_sub (r_var 3) (r_op op_mulW sn_mulI (r_var 7) (r_op op_addAll sn_add (r_var 2) r_int))))
      (evB_one
      (ev_append (pv 5) (r_tup (r_cons (r_ix (ix_all (hu200 hr)) sn_ix (r_var 4) (r_un un_neg sn_neg r_int) (fun _ _ => rfl)) (r_cons (r_var 7) r_aNil)))))))))
      (evB_cons
      (r_set (i := 8) sc__law_game.nd rfl (by first | exact Or.inl rfl | exact Or.inr rfl) (r_lst r_aNil))
      (evB_cons
      (r_for cx_passes rfl (evI_rng1 (by rfl) Z.z_range (r_cons (r_var 2) r_aNil)) (pg_name (i := 6) sc__law_game.nd rfl (by first | exact Or.inl rfl | exact Or.inr rfl)) tg_name (evB_cons
      (r_set (i := 9) sc__law_game.nd rfl (by first | exact Or.inl rfl | exact Or.inr rfl) (r_call c__law_word (Nat.le_max_right _ _) hr hgd (by rfl) cx_takes (r_gB (pv 0) (r_gB (pv 4) r_gN))))
      (evB_cons
      (r_set (i := 10) sc__law_game.nd rfl (by first | exact Or.inl rfl | exact Or.inr rfl) (r_ix (ix_all (hu200 hr)) sn_ix r_str (r_call c__law_next (Nat.le_trans (Nat.le_refl _) (Nat.le_max_left _ _)) hr hgd (by rfl) cx_takes (r_gB (pv 0) (r_gF r_int r_gN))) (fun _ _ => rfl)))
      (evB_cons
      (r_if (evT_w (r_wAnd (r_cmpT (op_eqP (hu200 hr)) sn_eq (r_call c__law_next (Nat.le_trans (Nat.le_refl _) (Nat.le_max_left _ _)) hr hgd (by rfl) cx_takes (r_gB (pv 0) (r_gF r_int r_gN))) r_int (by rfl)) (evW_and1 (r_cmpT (op_notInP (hu200 hr)) sn_in (r_var 10) (r_var 4) (by rfl))))) (evB_one
      (r_set (i := 9) sc__law_game.nd rfl (by first | exact Or.inl rfl | exact Or.inr rfl) (r_var 10))) r_nil)
      (evB_cons
      (ev_append (pv 4) (r_var 9))
      (evB_one
      (ev_append (pv 8) (r_var 9))))))))
      (evB_cons
      (r_set (i := 11) sc__law_game.nd rfl (by first | exact Or.inl rfl | exact Or.inr rfl) (r_lst r_aNil))
      (evB_cons
      (r_for cx_passes rfl (evI_rng1 (by rfl) Z.z_range (r_cons (r_call c__law_next (Nat.le_trans (Nat.le_refl _) (Nat.le_max_left _ _)) hr hgd (by rfl) cx_takes (r_gB (pv 0) (r_gF r_int r_gN))) r_aNil)) (pg_name (i := 6) sc__law_game.nd rfl (by first | exact Or.inl rfl | exact Or.inr rfl)) tg_name (evB_cons
      (r_set (i := 12) sc__law_game.nd rfl (by first | exact Or.inl rfl | exact Or.inr rfl) (r_tup (r_cons (r_ix (ix_all (hu200 hr)) sn_ix (r_ix (ix_all (hu200 hr)) sn_ix (r_var 5) (r_call c__law_next (Nat.le_trans (Nat.le_refl _) (Nat.le_max_left _ _)) hr hgd (by rfl) cx_takes (r_gB (pv 0) (r_gF (r_callB call_lenA sn_len (by rfl) Z.z_len bt_len (r_lCons (r_var 5) r_lNil)) r_gN))) (fun _ _ => rfl)) r_int (fun _ _ => rfl)) (r_cons (r_cmp op_gtA sn_cmp (r_call c__law_next (Nat.le_trans (Nat.le_refl _) (Nat.le_max_left _ _)) hr hgd (by rfl) cx_takes (r_gB (pv 0) (r_gF r_int r_gN))) r_int (by rfl)) r_aNil))))
      (evB_one
      (r_if (r_cmpT (op_notInP (hu200 hr)) sn_in (r_var 12) (r_var 11) (by rfl)) (evB_one
      (ev_append (pv 11) (r_var 12))) r_nil))))
      (evB_cons
      (r_set (i := 3) sc__law_game.nd rfl (by first | exact Or.inl rfl | exact Or.inr rfl) (r_op op_sub sn_sub (r_var 3) (r_callB call_lenA sn_len (by rfl) Z.z_len bt_len (r_lCons (r_var 11) r_lNil))))
      (evB_cons
      (r_set (i := 13) sc__law_game.nd rfl (by first | exact Or.inl rfl | exact Or.inr rfl) (r_lst r_aNil))
      (evB_cons
      (r_for cx_passes rfl (evI_rng1 (by rfl) Z.z_range (r_cons (r_op op_addAll sn_add (r_call c__law_next (Nat.le_trans (Nat.le_refl _) (Nat.le_max_left _ _)) hr hgd (by rfl) cx_takes (r_gB (pv 0) (r_gF r_int r_gN))) (r_call c__law_next (Nat.le_trans (Nat.le_refl _) (Nat.le_max_left _ _)) hr hgd (by rfl) cx_takes (r_gB (pv 0) (r_gF r_int r_gN)))) r_aNil)) (pg_name (i := 6) sc__law_game.nd rfl (by first | exact Or.inl rfl | exact Or.inr rfl)) tg_name (evB_cons
      (r_asg (r_ix (ix_all (hu200 hr)) sn_ix (r_var 5) (r_call c__law_next (Nat.le_trans (Nat.le_refl _) (Nat.le_max_left _ _)) hr hgd (by rfl) cx_takes (r_gB (pv 0) (r_gF (r_callB call_lenA sn_len (by rfl) Z.z_len bt_len (r_lCons (r_var 5) r_lNil)) r_gN))) (fun _ _ => rfl)) (pg_tup rfl (pgs_cons (pg_name (i := 14) sc__law_game.nd rfl (by first | exact Or.inl rfl | exact Or.inr rfl)) (pgs_cons (pg_name (i := 7) sc__law_game.nd rfl (by first | exact Or.inl rfl | exact Or.inr rfl)) pgs_nil))) (tg_tup (tg_cons tg_name (tg_cons tg_name tg_nil (gName_mono)) (gName_mono))))
      (evB_cons
      (r_set (i := 15) sc__law_game.nd rfl (by first | exact Or.inl rfl | exact Or.inr rfl) (r_ix (ix_all (hu200 hr)) sn_ix (r_ix (ix_all (hu200 hr)) sn_ix (r_var 5) (r_call c__law_next (Nat.le_trans (Nat.le_refl _) (Nat.le_max_left _ _)) hr hgd (by rfl) cx_takes (r_gB (pv 0) (r_gF (r_callB call_lenA sn_len (by rfl) Z.z_len bt_len (r_lCons (r_var 5) r_lNil)) r_gN))) (fun _ _ => rfl)) r_int (fun _ _ => rfl)))
      (evB_cons
      (r_set (i := 9) sc__law_game.nd rfl (by first | exact Or.inl rfl | exact Or.inr rfl) (r_callTy call_tuple_of sn_tuple (by rfl) Z.z_tuple bt_tuple (r_lCons (r_lc (own := [("j", 18)]) rfl (by rfl) sc__law_game.nd (evI_rng1 (by rfl) Z.z_range (r_cons (r_ix (ix_all (hu200 hr)) sn_ix (r_lst (r_cons r_int (r_cons r_int (r_cons r_int (r_cons r_int (r_cons r_int r_aNil)))))) (r_call c__law_next (Nat.le_trans (Nat.le_refl _) (Nat.le_max_left _ _)) hr hgd (by rfl) cx_takes (r_gB (pv 0) (r_gF r_int r_gN))) (fun _ _ => rfl)) r_aNil)) (blkOk_by (N := ["state", "most", "many", "room", "taken", "states", "k", "player", "letters", "word", "other", "goals", "goal", "moves", "name", "after", "step", "alike", "j", "one"]) (sc := defScope s__law_game) (own := [("j", 18)]) (by decide +kernel)) tg_name (tw_name (by decide)) (gName_mono) (fun _ _ _ _ _ => (pg_name (i := 18) sc__law_game.nd rfl (by first | exact Or.inl rfl | exact Or.inr rfl))) (fun _ _ _ _ _ => evQ_nil) (fun _ _ _ _ _ => (r_ix (ix_all (hu200 hr)) sn_ix (r_var 8) (r_call c__law_next (Nat.le_trans (Nat.le_refl _) (Nat.le_max_left _ _)) hr hgd (by rfl) takes0N (r_gB (pv 0) (r_gF (r_var 2) r_gN))) (fun _ _ => rfl)))) r_lNil)))
      (evB_cons
      (r_set (i := 16) sc__law_game.nd rfl (by first | exact Or.inl rfl | exact Or.inr rfl) (r_tup (r_cons (r_var 14) (r_cons (r_ix (ix_all (hu200 hr)) sn_ix (r_var 8) (r_call c__law_next (Nat.le_trans (Nat.le_refl _) (Nat.le_max_left _ _)) hr hgd (by rfl) cx_takes (r_gB (pv 0) (r_gF (r_var 2) r_gN))) (fun _ _ => rfl)) (r_cons (r_var 15) (r_cons (r_var 9) r_aNil))))))
      (evB_cons
      (ev_setLcL (own := [("one", 19)]) (by rfl) sc__law_game.nd (j := 17) rfl rfl (sw_true rfl rfl rfl (by decide +kernel)) (pv 13) (r_var 13) (blkOk_by (N := ["state", "most", "many", "room", "taken", "states", "k", "player", "letters", "word", "other", "goals", "goal", "moves", "name", "after", "step", "alike", "j", "one"]) (sc := defScope s__law_game) (own := [("one", 19)]) (by decide +kernel)) tg_name (tw_name (by decide)) (gName_mono) (fun _ _ _ _ _ => (pg_name (i := 19) sc__law_game.nd rfl (by first | exact Or.inl rfl | exact Or.inr rfl))) (fun _ _ _ _ _ => (evQ_one (r_cmpT (op_eqP (hu200 hr)) sn_eq (r_slice (r_var 19) r_pN (r_pI r_int)) (r_slice (r_var 16) r_pN (r_pI r_int)) (by rfl)))) (fun _ _ _ _ _ => ev_frz (r_var 19)))
      (evB_one
      (r_if (evT_w (r_wAnd (r_cmpT (op_notInP (hu200 hr)) sn_in (r_var 16) (r_var 13) (by rfl)) (r_wAnd (evT_w (r_wOr (r_cmpT op_gtA sn_cmp (r_var 3) r_int (by rfl)) (evW_or1 (r_cmpT (op_eqP (hu200 hr)) sn_eq (r_var 7) r_int (by rfl))))) (evW_and1 (evT_w (r_wOr (r_cmpT op_ltA sn_cmp (r_callB call_lenA sn_len (by rfl) Z.z_len bt_len (r_lCons (r_var 17) r_lNil)) r_int (by rfl)) (evW_or1 (r_cmpT (op_eqP (hu200 hr)) sn_eq (r_var 7) r_int (by rfl))))))))) (evB_cons
      (ev_append (pv 13) (r_var 16))
      (evB_one
      (r_set (i := 3) sc__law_game.nd rfl (by first | exact Or.inl rfl | exact Or.inr rfl) (r_op op_addAll sn_add (r_op op_sub sn_sub (r_var 3) r_int) (r_var 7))))) r_nil))))))))
      (evB_one
      (r_ret (r_tup (r_cons (r_callTy call_tuple_of sn_tuple (by rfl) Z.z_tuple bt_tuple (r_lCons (r_var 5) r_lNil)) (r_cons (r_callTy call_tuple_of sn_tuple (by rfl) Z.z_tuple bt_tuple (r_lCons (r_var 8) r_lNil)) (r_cons (r_callTy call_tuple_of sn_tuple (by rfl) Z.z_tuple bt_tuple (r_lCons (r_var 13) r_lNil)) (r_cons (r_callTy call_tuple_of sn_tuple (by rfl) Z.z_tuple bt_tuple (r_lCons (r_var 11) r_lNil)) r_aNil)))))))))))))))))))
def f__law_options : M Fl := (sSeq (sIf (tO (eTs hEq (eCN hLen (lC (eV 2) lN)) (eC (.int 0))) (tTr (eCall (g__law_at_goal) 3 (gF (eV 0) (gF (eV 1) (gF (eV 2) gN)))))) (sRet (eLst aN)) sN)
    (sRet (eLc [3] (iR1 (aC (eCN hLen (lC (eOp hIx (eV 0) (eC (.int 2))) lN)) aN)) (tgName 3) (eTs hEq (eSl (eOp hIx (eOp hIx (eV 0) (eC (.int 2))) (eV 3)) pN (pI (eC (.int 2)))) (eTup (aC (eV 1) (aC (eOp hIx (eV 2) (eC (.int 0))) aN)))) (eV 3))))
def g__law_options : M O := defG 3 4 (f__law_options)
theorem ok__law_options {P : Program} {w : World} {K : PySem.W.Frag} {mg : Str → Option Value} {base : Heap} (Z : Zs K mg) {f : Addr} {fd : FuncData} (d : Def K mg "_law_options" s__law_options ["game", "name", "stack"] f fd) (c__law_at_goal : Cal P w K mg base (0 + 1) "_law_at_goal" 3 (g__law_at_goal)) : FnG P w K mg base ((0 + 1) + 1) f fd ["game", "name", "stack"] (g__law_options) :=
    FnG.of2 ["game", "name", "stack", "k"] (k := (0 + 1)) (fB := f__law_options) d.fu sc__law_options rfl rfl fun cdv A outer s H E hgd hr =>
      (evB_cons
      (r_if (evT_w (r_wOr (r_cmpT (op_eqP (hu200 hr)) sn_eq (r_callB call_lenA sn_len (by rfl) Z.z_len bt_len (r_lCons (r_var 2) r_lNil)) r_int (by rfl)) (evW_or1 (r_tru (r_call c__law_at_goal (Nat.le_refl _) hr hgd (by rfl) cx_takes (r_gF (r_var 0) (r_gF (r_var 1) (r_gF (r_var 2) r_gN)))))))) (evB_one
      (r_ret (r_lst r_aNil))) r_nil)
      (evB_one
      (r_ret (r_lc (own := [("k", 3)]) rfl (by rfl) sc__law_options.nd (evI_rng1 (by rfl) Z.z_range (r_cons (r_callB call_lenA sn_len (by rfl) Z.z_len bt_len (r_lCons (r_ix (ix_all (hu200 hr)) sn_ix (r_var 0) r_int (fun _ _ => rfl)) r_lNil)) r_aNil)) (blkOk_by (N := ["game", "name", "stack", "k"]) (sc := defScope s__law_options) (own := [("k", 3)]) (by decide +kernel)) tg_name (tw_name (by decide)) (gName_mono) (fun _ _ _ _ _ => (pg_name (i := 3) sc__law_options.nd rfl (by first | exact Or.inl rfl | exact Or.inr rfl))) (fun _ _ _ _ _ => (evQ_one (r_cmpT (op_eqP (hu200 hr)) sn_eq (r_slice (r_ix (ix_all (hu200 hr)) sn_ix (r_ix (ix_all (hu200 hr)) sn_ix (r_var 0) r_int (fun _ _ => rfl)) (r_var 3) (fun _ _ => rfl)) r_pN (r_pI r_int)) (r_tup (r_cons (r_var 1) (r_cons (r_ix (ix_all (hu200 hr)) sn_ix (r_var 2) r_int (fun _ _ => rfl)) r_aNil))) (by rfl)))) (fun _ _ _ _ _ => (r_var 3))))))
def f__law_stream : M Fl := (sSeq (sSet 1 (eLst aN))
    (sSeq (sFor (iV (eSl (eV 0) pN (pI (eC (.int 63))))) (tgName 2) (sSeq (sSet 3 (eCN hAbs (lC (eCN hInt (lC (eV 2) lN)) lN)))
    (sIf (eTs hGe (eV 3) (eOp (hI cPow fun i j => i ^ j.toNat) (eC (.int 10)) (eC (.int 18)))) (sFor (iR1 (aC (eC (.int 60)) aN)) (tgName 4) (sSeq (sApp 1 (eOp (hI cMod fun i j => i % j) (eCN hInt (lC (eV 3) lN)) (eC (.int 1009))))
    (sSeq (sSet 3 (eOp (hI cDiv fun i j => i / j) (eV 3) (eC (.int 1009))))
    (sIf (eTs hEq (eV 3) (eC (.int 0))) sBk sN)))) (sSeq (sSet 5 (eOp (hI cMod fun i j => i % j) (eCN hInt (lC (eV 3) lN)) (eC (.int 2147483647))))
    (sFor (iR1 (aC (eC (.int 10)) aN)) (tgName 4) (sSeq (sSet 5 (eOp (hI cMod fun i j => i % j) (eCN hInt (lC (eOp hAdd (eOp hAdd (eOp (hI cMul fun i j => i * j) (eV 5) (eC (.int 48271))) (eOp (hI cMul fun i j => i * j) (eC (.int 7)) (eV 4))) (eC (.int 11))) lN)) (eC (.int 2147483647))))
    (sApp 1 (eOp (hI cMod fun i j => i % j) (eOp (hI cMod fun i j => i % j) (eCN hInt (lC (eOp hAdd (eOp (hI cMul fun i j => i * j) (eV 5) (eC (.int 69621))) (eV 4)) lN)) (eC (.int 2147483629))) (eC (.int 1009))))))))))
    (sSeq (sIf (eTs hEq (eCN hLen (lC (eV 1) lN)) (eC (.int 0))) (sApp 1 (eC (.int 0))) sN)
    (sRet (eV 1)))))
def g__law_stream : M O := defG 1 6 (f__law_stream)
theorem ok__law_stream {P : Program} {w : World} {K : PySem.W.Frag} {mg : Str → Option Value} {base : Heap} (Z : Zs K mg) {f : Addr} {fd : FuncData} (d : Def K mg "_law_stream" s__law_stream ["script"] f fd) : FnG P w K mg base (0 + 1) f fd ["script"] (g__law_stream) :=
    FnG.of2 ["script", "numbers", "cell", "rest", "k", "mixed"] (k := 0) (fB := f__law_stream) d.fu sc__law_stream rfl rfl fun cdv A outer s H E hgd hr =>
      (evB_cons
      (r_set (i := 1) sc__law_stream.nd rfl (by first | exact Or.inl rfl | exact Or.inr rfl) (r_lst r_aNil))
      (evB_cons
      (r_for cx_passes rfl (r_iV (r_slice (r_var 0) r_pN (r_pI r_int))) (pg_name (i := 2) sc__law_stream.nd rfl (by first | exact Or.inl rfl | exact Or.inr rfl)) tg_name (evB_cons
      (r_set (i := 3) sc__law_stream.nd rfl (by first | exact Or.inl rfl | exact Or.inr rfl) (r_callB call_abs sn_abs (by rfl) Z.z_abs bt_abs (r_lCons (r_callTy call_intA sn_int (by rfl) Z.z_int bt_int (r_lCons (r_var 2) r_lNil)) r_lNil)))
      (evB_one
      (r_if (r_cmpT op_geA sn_cmp (r_var 3) (r_op op_pow sn_pow r_int r_int) (by rfl)) (evB_one
      (r_for cx_passes rfl (evI_rng1 (by rfl) Z.z_range (r_cons r_int r_aNil)) (pg_name (i := 4) sc__law_stream.nd rfl (by first | exact Or.inl rfl | exact Or.inr rfl)) tg_name (evB_cons
      (ev_append (pv 1) (r_op op_mod sn_mod (r_callTy call_intA sn_int (by rfl) Z.z_int bt_int (r_lCons (r_var 3) r_lNil)) r_int))
      (evB_cons
      (r_set (i := 3) sc__law_stream.nd rfl (by first | exact Or.inl rfl | exact Or.inr rfl) (r_op op_fdiv sn_fdiv (r_var 3) r_int))
      (evB_one
      (r_if (r_cmpT (op_eqP (hu200 hr)) sn_eq (r_var 3) r_int (by rfl)) (evB_one
      ev_break) r_nil)))))) (evB_cons
      (r_set (i := 5) sc__law_stream.nd rfl (by first | exact Or.inl rfl | exact Or.inr rfl) (r_op op_mod sn_mod (r_callTy call_intA sn_int (by rfl) Z.z_int bt_int (r_lCons (r_var 3) r_lNil)) r_int))
      (evB_one
      (r_for cx_passes rfl (evI_rng1 (by rfl) Z.z_range (r_cons r_int r_aNil)) (pg_name (i := 4) sc__law_stream.nd rfl (by first | exact Or.inl rfl | exact Or.inr rfl)) tg_name (evB_cons
      (r_set (i := 5) sc__law_stream.nd rfl (by first | exact Or.inl rfl | exact Or.inr rfl) (r_op op_mod sn_mod (r_callTy call_intA sn_int (by rfl) Z.z_int bt_int (r_lCons (r_op op_addAll sn_add (r_op op_addAll sn_add (r_op op_mulW sn_mulI (r_var 5) r_int) (r_op op_mulW sn_mulI r_int (r_var 4))) r_int) r_lNil)) r_int))
      (evB_one
      (ev_append (pv 1) (r_op op_mod sn_mod (r_op op_mod sn_mod (r_callTy call_intA sn_int (by rfl) Z.z_int bt_int (r_lCons (r_op op_addAll sn_add (r_op op_mulW sn_mulI (r_var 5) r_int) (r_var 4)) r_lNil)) r_int) r_int)))))))))))
      (evB_cons
      (r_if (r_cmpT (op_eqP (hu200 hr)) sn_eq (r_callB call_lenA sn_len (by rfl) Z.z_len bt_len (r_lCons (r_var 1) r_lNil)) r_int (by rfl)) (evB_one
      (ev_append (pv 1) r_int)) r_nil)
      (evB_one
      (r_ret (r_var 1))))))
def f_law (n_cls_BadPaper : Nat) (n_cls_Missing : Nat) (n_cls_NotAllowed : Nat) (n_cls_PergolaError : Nat) (n_cls_Plan : Nat) (n_cls_TooLarge : Nat) : M Fl := (sSeq (sSet 1 (eLst (aC (eCall (g__law_stream) 1 (gF (eV 0) gN)) (aC (eC (.int 0)) aN))))
    (sSeq (sSet 2 (eCall (g__law_game) 2 (gB 1 (gF (eC (.int 6)) gN))))
    (sSeq (sAsg (eV 2) (tgTup 4 (tgCons (tgName 3) (tgCons (tgName 4) (tgCons (tgName 5) (tgCons (tgName 6) tgNil))))))
    (sSeq (sSet 7 (eCN hRepr (lC (eV 2) lN)))
    (sSeq (sFor (iR1 (aC (eC (.int 6)) aN)) (tgName 8) (sSeq (sSet 9 (eOp hIx (eOp hIx (eV 3) (eCall (g__law_next) 2 (gB 1 (gF (eCN hLen (lC (eV 3) lN)) gN)))) (eC (.int 0))))
    (sSeq (sSet 10 (eOp hIx (eLst (aC (eCall (g__law_next) 2 (gB 1 (gF (eC (.int 13)) gN))) (aC (eOp hAdd (eC (.int 98)) (eCall (g__law_next) 2 (gB 1 (gF (eC (.int 3)) gN)))) (aC (eCall (g__law_next) 2 (gB 1 (gF (eC (.int 3)) gN))) aN)))) (eCall (g__law_next) 2 (gB 1 (gF (eC (.int 3)) gN)))))
    (sSeq (sSet 11 (eCN hTuple (lC (eLc [18] (iR1 (aC (eV 10) aN)) (tgName 18) iT (eOp hIx (eV 4) (eCall (g__law_next) 2 (gB 1 (gF (eCN hLen (lC (eV 4) lN)) gN))))) lN)))
    (sSeq (sIf (eTs hLt (eV 10) (eC (.int 100))) (sSeq (sSet 12 (eCall (g_options n_cls_BadPaper n_cls_Missing n_cls_NotAllowed n_cls_PergolaError n_cls_Plan n_cls_TooLarge) 3 (gF (eV 2) (gF (eV 9) (gF (eV 11) gN)))))
    (sSeq (sSet 13 (eCall (g_at_goal n_cls_BadPaper n_cls_Missing n_cls_NotAllowed n_cls_PergolaError n_cls_Plan n_cls_TooLarge) 3 (gF (eV 2) (gF (eV 9) (gF (eV 11) gN)))))
    (sSeq (sIf (tO (eTs hNe (eV 12) (eCall (g__law_options) 3 (gF (eV 2) (gF (eV 9) (gF (eV 11) gN))))) (tO (tNt (tTr (eUn (hIsi "list") (eV 12)))) (tTr (eCN hAny (lC (eLcL 12 [18] (tgName 18) iT (eUn (hIsi "bool") (eV 18))) lN))))) (sRet (eC (.bool false))) sN)
    (sSeq (sIf (tO (tNt (tTr (eUn (hIsi "bool") (eV 13)))) (eTs hNe (eV 13) (eCall (g__law_at_goal) 3 (gF (eV 2) (gF (eV 9) (gF (eV 11) gN)))))) (sRet (eC (.bool false))) sN)
    (sSeq (sApp 12 (eC (.int 7)))
    (sIf (eTs hNe (eCall (g_options n_cls_BadPaper n_cls_Missing n_cls_NotAllowed n_cls_PergolaError n_cls_Plan n_cls_TooLarge) 3 (gF (eV 2) (gF (eV 9) (gF (eV 11) gN)))) (eSl (eV 12) pN (pI (eUn hNeg (eC (.int 1)))))) (sRet (eC (.bool false))) sN)))))) sN)
    (sSeq (sSet 14 (eOp hIx (eLst (aC (eC (.str "qq")) (aC (eOp hIx (eV 4) (eC (.int 0))) (aC (eC (.str "bottom")) (aC (eC (.str "")) aN))))) (eCall (g__law_next) 2 (gB 1 (gF (eC (.int 4)) gN)))))
    (sSeq (sSet 15 (eCall (g__law_next) 2 (gB 1 (gF (eOp hAdd (eV 10) (eC (.int 1))) gN))))
    (sSeq (sSet 16 (eOp hAdd (eOp hAdd (eSl (eV 11) pN (pI (eV 15))) (eTup (aC (eOp hIx (eLst (aC (eC (.str "qq")) (aC (eV 9) (aC (eC (.str "bottom")) aN)))) (eCall (g__law_next) 2 (gB 1 (gF (eC (.int 3)) gN)))) aN))) (eSl (eV 11) (pI (eV 15)) pN)))
    (sSeq (sFor (iR1 (aC (eC (.int 4)) aN)) (tgName 17) (sSeq (sIf (eTs hNe (eCall (g__law_class n_cls_BadPaper n_cls_Missing n_cls_NotAllowed n_cls_PergolaError n_cls_Plan n_cls_TooLarge) 4 (gF (eV 2) (gF (eV 14) (gF (eOp hIx (eLst (aC (eV 11) (aC (eV 16) aN))) (eCall (g__law_next) 2 (gB 1 (gF (eC (.int 2)) gN)))) (gF (eV 17) gN))))) (eC (.str "missing"))) (sRet (eC (.bool false))) sN)
    (sSeq (sIf (tO (eTs hNe (eCall (g__law_class n_cls_BadPaper n_cls_Missing n_cls_NotAllowed n_cls_PergolaError n_cls_Plan n_cls_TooLarge) 4 (gF (eV 2) (gF (eV 9) (gF (eV 16) (gF (eV 17) gN))))) (eC (.str "allowed"))) (tAn (eTs hGt (eV 10) (eC (.int 99))) (eTs hNe (eCall (g__law_class n_cls_BadPaper n_cls_Missing n_cls_NotAllowed n_cls_PergolaError n_cls_Plan n_cls_TooLarge) 4 (gF (eV 2) (gF (eV 9) (gF (eV 11) (gF (eV 17) gN))))) (eC (.str "allowed"))))) (sRet (eC (.bool false))) sN)
    (sIf (tAn (eTs hLt (eV 17) (eC (.int 2))) (tAn (eTs hLt (eV 10) (eC (.int 100))) (eTs hNe (eCall (g__law_class n_cls_BadPaper n_cls_Missing n_cls_NotAllowed n_cls_PergolaError n_cls_Plan n_cls_TooLarge) 4 (gF (eV 2) (gF (eV 9) (gF (eV 11) (gF (eV 17) gN))))) (eC (.str "none"))))) (sRet (eC (.bool false))) sN))))
    (sIf (eTs hNe (eCall (g__law_class n_cls_BadPaper n_cls_Missing n_cls_NotAllowed n_cls_PergolaError n_cls_Plan n_cls_TooLarge) 4 (gF (eV 2) (gF (eV 14) (gF (eTup aN) (gF (eC (.int 4)) gN))))) (eC (.str "missing"))) (sRet (eC (.bool false))) sN))))))))))
    (sRet (eAn (eOp hEq (eC (.int 99)) (eC (.int 99))) (eOp hEq (eCN hRepr (lC (eV 2) lN)) (eV 7)))))))))
def g_law (n_cls_BadPaper : Nat) (n_cls_Missing : Nat) (n_cls_NotAllowed : Nat) (n_cls_PergolaError : Nat) (n_cls_Plan : Nat) (n_cls_TooLarge : Nat) : M O := defG 1 19 (f_law n_cls_BadPaper n_cls_Missing n_cls_NotAllowed n_cls_PergolaError n_cls_Plan n_cls_TooLarge)
theorem ok_law {P : Program} {w : World} {K : PySem.W.Frag} {mg : Str → Option Value} {base : Heap} (Z : Zs K mg) {f : Addr} {fd : FuncData} (n_cls_BadPaper : Nat) (n_cls_Missing : Nat) (n_cls_NotAllowed : Nat) (n_cls_PergolaError : Nat) (n_cls_Plan : Nat) (n_cls_TooLarge : Nat) (Γ : Ks K mg n_cls_BadPaper n_cls_Missing n_cls_NotAllowed n_cls_PergolaError n_cls_Plan n_cls_TooLarge) (d : Def K mg "law" s_law ["script"] f fd) (c__law_at_goal : Cal P w K mg base (0 + 1) "_law_at_goal" 3 (g__law_at_goal)) (c__law_class : Cal P w K mg base ((max (max (max (max (((0 + 1) + 1) + 1 + 1) ((max ((0 + 1) + 1) (0 + 1)) + 1)) ((max ((0 + 1) + 1) ((max (0 + 1) (0 + 1)) + 1)) + 1)) (((0 + 1) + 1) + 1)) ((0 + 1) + 1)) + 1) "_law_class" 4 (g__law_class n_cls_BadPaper n_cls_Missing n_cls_NotAllowed n_cls_PergolaError n_cls_Plan n_cls_TooLarge)) (c__law_game : Cal P w K mg base ((max (0 + 1) ((0 + 1) + 1)) + 1) "_law_game" 2 (g__law_game)) (c__law_next : Cal P w K mg base (0 + 1) "_law_next" 2 (g__law_next)) (c__law_options : Cal P w K mg base ((0 + 1) + 1) "_law_options" 3 (g__law_options)) (c__law_stream : Cal P w K mg base (0 + 1) "_law_stream" 1 (g__law_stream)) (c_at_goal : Cal P w K mg base ((max ((0 + 1) + 1) (0 + 1)) + 1) "at_goal" 3 (g_at_goal n_cls_BadPaper n_cls_Missing n_cls_NotAllowed n_cls_PergolaError n_cls_Plan n_cls_TooLarge)) (c_options : Cal P w K mg base ((max ((0 + 1) + 1) ((max (0 + 1) (0 + 1)) + 1)) + 1) "options" 3 (g_options n_cls_BadPaper n_cls_Missing n_cls_NotAllowed n_cls_PergolaError n_cls_Plan n_cls_TooLarge)) : FnG P w K mg base ((max (max (max (max (max (max (max (0 + 1) ((max (max (max (max (((0 + 1) + 1) + 1 + 1) ((max ((0 + 1) + 1) (0 + 1)) + 1)) ((max ((0 + 1) + 1) ((max (0 + 1) (0 + 1)) + 1)) + 1)) (((0 + 1) + 1) + 1)) ((0 + 1) + 1)) + 1)) ((max (0 + 1) ((0 + 1) + 1)) + 1)) (0 + 1)) ((0 + 1) + 1)) (0 + 1)) ((max ((0 + 1) + 1) (0 + 1)) + 1)) ((max ((0 + 1) + 1) ((max (0 + 1) (0 + 1)) + 1)) + 1)) + 1) f fd ["script"] (g_law n_cls_BadPaper n_cls_Missing n_cls_NotAllowed n_cls_PergolaError n_cls_Plan n_cls_TooLarge) :=
    FnG.of2 ["script", "state", "game", "states", "letters", "moves", "goals", "kept", "turn", "name", "many", "stack", "told", "goal", "strange", "at", "wrong", "kind", "k"] (k := (max (max (max (max (max (max (max (0 + 1) ((max (max (max (max (((0 + 1) + 1) + 1 + 1) ((max ((0 + 1) + 1) (0 + 1)) + 1)) ((max ((0 + 1) + 1) ((max (0 + 1) (0 + 1)) + 1)) + 1)) (((0 + 1) + 1) + 1)) ((0 + 1) + 1)) + 1)) ((max (0 + 1) ((0 + 1) + 1)) + 1)) (0 + 1)) ((0 + 1) + 1)) (0 + 1)) ((max ((0 + 1) + 1) (0 + 1)) + 1)) ((max ((0 + 1) + 1) ((max (0 + 1) (0 + 1)) + 1)) + 1))) (fB := f_law n_cls_BadPaper n_cls_Missing n_cls_NotAllowed n_cls_PergolaError n_cls_Plan n_cls_TooLarge) d.fu sc_law rfl rfl fun cdv A outer s H E hgd hr =>
      (evB_cons
      (r_set (i := 1) sc_law.nd rfl (by first | exact Or.inl rfl | exact Or.inr rfl) (r_lst (r_cons (r_call c__law_stream (Nat.le_trans (Nat.le_trans (Nat.le_max_right _ _) (Nat.le_max_left _ _)) (Nat.le_max_left _ _)) hr hgd (by rfl) cx_takes (r_gF (r_var 0) r_gN)) (r_cons r_int r_aNil))))
      (evB_cons
      (r_set (i := 2) sc_law.nd rfl (by first | exact Or.inl rfl | exact Or.inr rfl) (r_call c__law_game (Nat.le_trans (Nat.le_trans (Nat.le_trans (Nat.le_trans (Nat.le_trans (Nat.le_max_right _ _) (Nat.le_max_left _ _)) (Nat.le_max_left _ _)) (Nat.le_max_left _ _)) (Nat.le_max_left _ _)) (Nat.le_max_left _ _)) hr hgd (by rfl) cx_takes (r_gB (pv 1) (r_gF r_int r_gN))))
      (evB_cons
      (r_asg (r_var 2) (pg_tup rfl (pgs_cons (pg_name (i := 3) sc_law.nd rfl (by first | exact Or.inl rfl | exact Or.inr rfl)) (pgs_cons (pg_name (i := 4) sc_law.nd rfl (by first | exact Or.inl rfl | exact Or.inr rfl)) (pgs_cons (pg_name (i := 5) sc_law.nd rfl (by first | exact Or.inl rfl | exact Or.inr rfl)) (pgs_cons (pg_name (i := 6) sc_law.nd rfl (by first | exact Or.inl rfl | exact Or.inr rfl)) pgs_nil))))) (tg_tup (tg_cons tg_name (tg_cons tg_name (tg_cons tg_name (tg_cons tg_name tg_nil (gName_mono)) (gName_mono)) (gName_mono)) (gName_mono))))
      (evB_cons
      (r_set (i := 7) sc_law.nd rfl (by first | exact Or.inl rfl | exact Or.inr rfl) (r_callB (call_repr hgd (hu200 hr)) sn_repr (by rfl) Z.z_repr bt_repr (r_lCons (r_var 2) r_lNil)))
      (evB_cons
      (r_for cx_passes rfl (evI_rng1 (by rfl) Z.z_range (r_cons r_int r_aNil)) (pg_name (i := 8) sc_law.nd rfl (by first | exact Or.inl rfl | exact Or.inr rfl)) tg_name (evB_cons
      (r_set (i := 9) sc_law.nd rfl (by first | exact Or.inl rfl | exact Or.inr rfl) (r_ix (ix_all (hu200 hr)) sn_ix (r_ix (ix_all (hu200 hr)) sn_ix (r_var 3) (r_call c__law_next (Nat.le_trans (Nat.le_trans (Nat.le_trans (Nat.le_trans (Nat.le_max_right _ _) (Nat.le_max_left _ _)) (Nat.le_max_left _ _)) (Nat.le_max_left _ _)) (Nat.le_max_left _ _)) hr hgd (by rfl) cx_takes (r_gB (pv 1) (r_gF (r_callB call_lenA sn_len (by rfl) Z.z_len bt_len (r_lCons (r_var 3) r_lNil)) r_gN))) (fun _ _ => rfl)) r_int (fun _ _ => rfl)))
      (evB_cons
      (r_set (i := 10) sc_law.nd rfl (by first | exact Or.inl rfl | exact Or.inr rfl) (r_ix (ix_all (hu200 hr)) sn_ix (r_lst (r_cons (r_call c__law_next (Nat.le_trans (Nat.le_trans (Nat.le_trans (Nat.le_trans (Nat.le_max_right _ _) (Nat.le_max_left _ _)) (Nat.le_max_left _ _)) (Nat.le_max_left _ _)) (Nat.le_max_left _ _)) hr hgd (by rfl) cx_takes (r_gB (pv 1) (r_gF r_int r_gN))) (r_cons (r_op op_addAll sn_add r_int (r_call c__law_next (Nat.le_trans (Nat.le_trans (Nat.le_trans (Nat.le_trans (Nat.le_max_right _ _) (Nat.le_max_left _ _)) (Nat.le_max_left _ _)) (Nat.le_max_left _ _)) (Nat.le_max_left _ _)) hr hgd (by rfl) cx_takes (r_gB (pv 1) (r_gF r_int r_gN)))) (r_cons (r_call c__law_next (Nat.le_trans (Nat.le_trans (Nat.le_trans (Nat.le_trans (Nat.le_max_right _ _) (Nat.le_max_left _ _)) (Nat.le_max_left _ _)) (Nat.le_max_left _ _)) (Nat.le_max_left _ _)) hr hgd (by rfl) cx_takes (r_gB (pv 1) (r_gF r_int r_gN))) r_aNil)))) (r_call c__law_next (Nat.le_trans (Nat.le_trans (Nat.le_trans (Nat.le_trans (Nat.le_max_right _ _) (Nat.le_max_left _ _)) (Nat.le_max_left _ _)) (Nat.le_max_left _ _)) (Nat.le_max_left _ _)) hr hgd (by rfl) cx_takes (r_gB (pv 1) (r_gF r_int r_gN))) (fun _ _ => rfl)))
      (evB_cons
      (r_set (i := 11) sc_law.nd rfl (by first | exact Or.inl rfl | exact Or.inr rfl) (r_callTy call_tuple_of sn_tuple (by rfl) Z.z_tuple bt_tuple (r_lCons (r_lc (own := [("k", 18)]) rfl (by rfl) sc_law.nd (evI_rng1 (by rfl) Z.z_range (r_cons (r_var 10) r_aNil)) (blkOk_by (N := ["script", "state", "game", "states", "letters", "moves", "goals", "kept", "turn", "name", "many", "stack", "told", "goal", "strange", "at", "wrong", "kind", "k"]) (sc := defScope s_law) (own := [("k", 18)]) (by decide +kernel)) tg_name (tw_name (by decide)) (gName_mono) (fun _ _ _ _ _ => (pg_name (i := 18) sc_law.nd rfl (by first | exact Or.inl rfl | exact Or.inr rfl))) (fun _ _ _ _ _ => evQ_nil) (fun _ _ _ _ _ => (r_ix (ix_all (hu200 hr)) sn_ix (r_var 4) (r_call c__law_next (Nat.le_trans (Nat.le_trans (Nat.le_trans (Nat.le_trans (Nat.le_max_right _ _) (Nat.le_max_left _ _)) (Nat.le_max_left _ _)) (Nat.le_max_left _ _)) (Nat.le_max_left _ _)) hr hgd (by rfl) takes0N (r_gB (pv 1) (r_gF (r_callB call_lenA sn_len (by rfl) Z.z_len bt_len (r_lCons (r_var 4) r_lNil)) r_gN))) (fun _ _ => rfl)))) r_lNil)))
      (evB_cons
      (r_if (r_cmpT op_ltA sn_cmp (r_var 10) r_int (by rfl)) (evB_cons
      (r_set (i := 12) sc_law.nd rfl (by first | exact Or.inl rfl | exact Or.inr rfl) (r_call c_options (Nat.le_max_right _ _) hr hgd (by rfl) cx_takes (r_gF (r_var 2) (r_gF (r_var 9) (r_gF (r_var 11) r_gN)))))
      (evB_cons
      (r_set (i := 13) sc_law.nd rfl (by first | exact Or.inl rfl | exact Or.inr rfl) (r_call c_at_goal (Nat.le_trans (Nat.le_max_right _ _) (Nat.le_max_left _ _)) hr hgd (by rfl) cx_takes (r_gF (r_var 2) (r_gF (r_var 9) (r_gF (r_var 11) r_gN)))))
      (evB_cons
      (r_if (evT_w (r_wOr (r_cmpT (op_neP (hu200 hr)) sn_ne (r_var 12) (r_call c__law_options (Nat.le_trans (Nat.le_trans (Nat.le_trans (Nat.le_max_right _ _) (Nat.le_max_left _ _)) (Nat.le_max_left _ _)) (Nat.le_max_left _ _)) hr hgd (by rfl) cx_takes (r_gF (r_var 2) (r_gF (r_var 9) (r_gF (r_var 11) r_gN)))) (by rfl)) (r_wOr (r_tNot (r_tru (ev_isi (by rfl) Z.z_isinstance (by rfl) Z.z_list bt_list (r_var 12) bt_isinstance))) (evW_or1 (r_tru (r_callB (cr_any (by rfl)) sn_any (by rfl) Z.z_any bt_any (r_lCons (ev_lcL (own := [("k", 18)]) (by rfl) sc_law.nd (pv 12) (r_var 12) (blkOk_by (N := ["script", "state", "game", "states", "letters", "moves", "goals", "kept", "turn", "name", "many", "stack", "told", "goal", "strange", "at", "wrong", "kind", "k"]) (sc := defScope s_law) (own := [("k", 18)]) (by decide +kernel)) tg_name (tw_name (by decide)) (gName_mono) (fun _ _ _ _ _ => (pg_name (i := 18) sc_law.nd rfl (by first | exact Or.inl rfl | exact Or.inr rfl))) (fun _ _ _ _ _ => evQ_nil) (fun _ _ _ _ _ => ev_frz (ev_isi (by rfl) Z.z_isinstance (by rfl) Z.z_bool bt_bool (r_var 18) bt_isinstance))) r_lNil))))))) (evB_one
      (r_ret r_bl)) r_nil)
      (evB_cons
      (r_if (evT_w (r_wOr (r_tNot (r_tru (ev_isi (by rfl) Z.z_isinstance (by rfl) Z.z_bool bt_bool (r_var 13) bt_isinstance))) (evW_or1 (r_cmpT (op_neP (hu200 hr)) sn_ne (r_var 13) (r_call c__law_at_goal (Nat.le_trans (Nat.le_trans (Nat.le_trans (Nat.le_trans (Nat.le_trans (Nat.le_trans (Nat.le_trans (Nat.le_refl _) (Nat.le_max_left _ _)) (Nat.le_max_left _ _)) (Nat.le_max_left _ _)) (Nat.le_max_left _ _)) (Nat.le_max_left _ _)) (Nat.le_max_left _ _)) (Nat.le_max_left _ _)) hr hgd (by rfl) cx_takes (r_gF (r_var 2) (r_gF (r_var 9) (r_gF (r_var 11) r_gN)))) (by rfl))))) (evB_one
      (r_ret r_bl)) r_nil)
      (evB_cons
      (ev_append (pv 12) r_int)
      (evB_one
      (r_if (r_cmpT (op_neP (hu200 hr)) sn_ne (r_call c_options (Nat.le_max_right _ _) hr hgd (by rfl) cx_takes (r_gF (r_var 2) (r_gF (r_var 9) (r_gF (r_var 11) r_gN)))) (r_slice (r_var 12) r_pN (r_pI (r_un un_neg sn_neg r_int))) (by rfl)) (evB_one
      (r_ret r_bl)) r_nil))))))) r_nil)
      (evB_cons
      (r_set (i := 14) sc_law.nd rfl (by first | exact Or.inl rfl | exact Or.inr rfl) (r_ix (ix_all (hu200 hr)) sn_ix (r_lst (r_cons r_str (r_cons (r_ix (ix_all (hu200 hr)) sn_ix (r_var 4) r_int (fun _ _ => rfl)) (r_cons r_str (r_cons r_str r_aNil))))) (r_call c__law_next (Nat.le_trans (Nat.le_trans (Nat.le_trans (Nat.le_trans (Nat.le_max_right _ _) (Nat.le_max_left _ _)) (Nat.le_max_left _ _)) (Nat.le_max_left _ _)) (Nat.le_max_left _ _)) hr hgd (by rfl) cx_takes (r_gB (pv 1) (r_gF r_int r_gN))) (fun _ _ => rfl)))
      (evB_cons
      (r_set (i := 15) sc_law.nd rfl (by first | exact Or.inl rfl | exact Or.inr rfl) (r_call c__law_next (Nat.le_trans (Nat.le_trans (Nat.le_trans (Nat.le_trans (Nat.le_max_right _ _) (Nat.le_max_left _ _)) (Nat.le_max_left _ _)) (Nat.le_max_left _ _)) (Nat.le_max_left _ _)) hr hgd (by rfl) cx_takes (r_gB (pv 1) (r_gF (r_op op_addAll sn_add (r_var 10) r_int) r_gN))))
      (evB_cons
      (r_set (i := 16) sc_law.nd rfl (by first | exact Or.inl rfl | exact Or.inr rfl) (r_op op_addAll sn_add (r_op op_addAll sn_add (r_slice (r_var 11) r_pN (r_pI (r_var 15))) (r_tup (r_cons (r_ix (ix_all (hu200 hr)) sn_ix (r_lst (r_cons r_str (r_cons (r_var 9) (r_cons r_str r_aNil)))) (r_call c__law_next (Nat.le_trans (Nat.le_trans (Nat.le_trans (Nat.le_trans (Nat.le_max_right _ _) (Nat.le_max_left _ _)) (Nat.le_max_left _ _)) (Nat.le_max_left _ _)) (Nat.le_max_left _ _)) hr hgd (by rfl) cx_takes (r_gB (pv 1) (r_gF r_int r_gN))) (fun _ _ => rfl)) r_aNil))) (r_slice (r_var 11) (r_pI (r_var 15)) r_pN)))
      (evB_cons
      (r_for cx_passes rfl (evI_rng1 (by rfl) Z.z_range (r_cons r_int r_aNil)) (pg_name (i := 17) sc_law.nd rfl (by first | exact Or.inl rfl | exact Or.inr rfl)) tg_name (evB_cons
      (r_if (r_cmpT (op_neP (hu200 hr)) sn_ne (r_call c__law_class (Nat.le_trans (Nat.le_trans (Nat.le_trans (Nat.le_trans (Nat.le_trans (Nat.le_trans (Nat.le_max_right _ _) (Nat.le_max_left _ _)) (Nat.le_max_left _ _)) (Nat.le_max_left _ _)) (Nat.le_max_left _ _)) (Nat.le_max_left _ _)) (Nat.le_max_left _ _)) hr hgd (by rfl) cx_takes (r_gF (r_var 2) (r_gF (r_var 14) (r_gF (r_ix (ix_all (hu200 hr)) sn_ix (r_lst (r_cons (r_var 11) (r_cons (r_var 16) r_aNil))) (r_call c__law_next (Nat.le_trans (Nat.le_trans (Nat.le_trans (Nat.le_trans (Nat.le_max_right _ _) (Nat.le_max_left _ _)) (Nat.le_max_left _ _)) (Nat.le_max_left _ _)) (Nat.le_max_left _ _)) hr hgd (by rfl) cx_takes (r_gB (pv 1) (r_gF r_int r_gN))) (fun _ _ => rfl)) (r_gF (r_var 17) r_gN))))) r_str (by rfl)) (evB_one
      (r_ret r_bl)) r_nil)
      (evB_cons
      (r_if (evT_w (r_wOr (r_cmpT (op_neP (hu200 hr)) sn_ne (r_call c__law_class (Nat.le_trans (Nat.le_trans (Nat.le_trans (Nat.le_trans (Nat.le_trans (Nat.le_trans (Nat.le_max_right _ _) (Nat.le_max_left _ _)) (Nat.le_max_left _ _)) (Nat.le_max_left _ _)) (Nat.le_max_left _ _)) (Nat.le_max_left _ _)) (Nat.le_max_left _ _)) hr hgd (by rfl) cx_takes (r_gF (r_var 2) (r_gF (r_var 9) (r_gF (r_var 16) (r_gF (r_var 17) r_gN))))) r_str (by rfl)) (evW_or1 (evT_w (r_wAnd (r_cmpT op_gtA sn_cmp (r_var 10) r_int (by rfl)) (evW_and1 (r_cmpT (op_neP (hu200 hr)) sn_ne (r_call c__law_class (Nat.le_trans (Nat.le_trans (Nat.le_trans (Nat.le_trans (Nat.le_trans (Nat.le_trans (Nat.le_max_right _ _) (Nat.le_max_left _ _)) (Nat.le_max_left _ _)) (Nat.le_max_left _ _)) (Nat.le_max_left _ _)) (Nat.le_max_left _ _)) (Nat.le_max_left _ _)) hr hgd (by rfl) cx_takes (r_gF (r_var 2) (r_gF (r_var 9) (r_gF (r_var 11) (r_gF (r_var 17) r_gN))))) r_str (by rfl)))))))) (evB_one
      (r_ret r_bl)) r_nil)
      (evB_one
      (r_if (evT_w (r_wAnd (r_cmpT op_ltA sn_cmp (r_var 17) r_int (by rfl)) (r_wAnd (r_cmpT op_ltA sn_cmp (r_var 10) r_int (by rfl)) (evW_and1 (r_cmpT (op_neP (hu200 hr)) sn_ne (r_call c__law_class (Nat.le_trans (Nat.le_trans (Nat.le_trans (Nat.le_trans (Nat.le_trans (Nat.le_trans (Nat.le_max_right _ _) (Nat.le_max_left _ _)) (Nat.le_max_left _ _)) (Nat.le_max_left _ _)) (Nat.le_max_left _ _)) (Nat.le_max_left _ _)) (Nat.le_max_left _ _)) hr hgd (by rfl) cx_takes (r_gF (r_var 2) (r_gF (r_var 9) (r_gF (r_var 11) (r_gF (r_var 17) r_gN))))) r_str (by rfl)))))) (evB_one
      (r_ret r_bl)) r_nil)))))
      (evB_one
      (r_if (r_cmpT (op_neP (hu200 hr)) sn_ne (r_call c__law_class (Nat.le_trans (Nat.le_trans (Nat.le_trans (Nat.le_trans (Nat.le_trans (Nat.le_trans (Nat.le_max_right _ _) (Nat.le_max_left _ _)) (Nat.le_max_left _ _)) (Nat.le_max_left _ _)) (Nat.le_max_left _ _)) (Nat.le_max_left _ _)) (Nat.le_max_left _ _)) hr hgd (by rfl) cx_takes (r_gF (r_var 2) (r_gF (r_var 14) (r_gF (r_tup r_aNil) (r_gF r_int r_gN))))) r_str (by rfl)) (evB_one
      (r_ret r_bl)) r_nil)))))))))))
      (evB_one
      (r_ret (ev_and (r_cmp (op_eqP (hu200 hr)) sn_eq (r_con Z.q_MAX_STACK (by rfl)) r_int (by rfl)) (ev_one (r_cmp (op_eqP (hu200 hr)) sn_eq (r_callB (call_repr hgd (hu200 hr)) sn_repr (by rfl) Z.z_repr bt_repr (r_lCons (r_var 2) r_lNil)) (r_var 7) (by rfl)))))))))))
end VsG
end

namespace VsG
open PySem PySem.Spec L2 Vs
/-- the state of the draws -/
abbrev stD (ns : List Int) (c : Int) : Mu := .lst [.list (ns.map .int), .int c]
structure Good (ns : List Int) : Prop where
  ne : ns ≠ []
  at_ : ∀ n ∈ ns, 0 ≤ n ∧ n < 1009
  len : ns.length ≤ 100000
theorem next_ok {ns : List Int} {c m : Int} (G : Good ns) (h0 : 0 ≤ c) (h1 : c + 1 < 2 ^ 200) (hm : 0 < m) :
    ∃ r, 0 ≤ r ∧ r < m ∧ g__law_next [some (.mu true (stD ns c)), some (.fz (.int m))] = some (.ok (.fz (.int r)) [some (.mu true (stD ns (c + 1))), some (.fz (.int m))]) := by
  have hl : 0 < ns.length := List.length_pos_iff.mpr G.ne
  obtain ⟨d, e1, hd⟩ := atI_lt (xs := ns.map PyData.int) (i := (c + 1) % (ns.length : Int)) (Int.emod_nonneg _ (by omega)) (by rw [List.length_map]; exact Int.emod_lt_of_pos _ (by omega))
  obtain ⟨n, hn, rfl⟩ := List.mem_map.mp hd
  have ht : 0 ≤ (c + 1) / (ns.length : Int) ∧ (c + 1) / (ns.length : Int) ≤ c + 1 := ⟨Int.ediv_nonneg (by omega) (by omega), Int.ediv_le_self _ (by omega)⟩
  have b1 : ((c + 1) / (ns.length : Int)).natAbs < 2 ^ 200 := by omega
  have b2 : (c + 1).natAbs < 2 ^ 200 := by omega
  have k1 : cMul ((c + 1) / (ns.length : Int)) 389 = true := cMul_of b1 (b := 10) (by decide) (by decide) (by decide) (by decide)
  have k2 : cMul (c + 1) ((c + 1) / (ns.length : Int)) = true := cMul_of b2 b1 (by decide) (by decide) (by decide)
  have k3 : cMul ((c + 1) * ((c + 1) / (ns.length : Int))) 17 = true := cMul_of (a := 400) (b := 10) (by
    rw [Int.natAbs_mul, show (400 : Nat) = 200 + 200 from rfl, Nat.pow_add]
    exact Nat.mul_lt_mul'' b2 b1) (by decide) (by decide) (by decide) (by decide)
  have k4 : cDiv (c + 1) (ns.length : Int) = true := by unfold cDiv; have := G.len; exact decide_eq_true (by omega)
  have k5 : cMod (c + 1) (ns.length : Int) = true := by unfold cMod; exact decide_eq_true (by omega)
  have k6 : ∀ x, cMod x m = true := fun x => by unfold cMod; exact decide_eq_true hm
  refine ⟨(n + (c + 1) / (ns.length : Int) * 389 + (c + 1) * ((c + 1) / (ns.length : Int)) * 17) % m, Int.emod_nonneg _ (by omega), Int.emod_lt_of_pos _ hm, ?_⟩
  simp [g__law_next, f__law_next, eV_ap, eC_ap, dr2O_ap, dr2_ap, dr2P_ap, eOp_ap, eOpK_ap, dr2B_ap, dr2BP_ap, dr2BO_ap, eTs_ap, eTsK_ap, dr1_ap, dr1P_ap, eUn_ap, drN_ap, drNP_ap, eCN_ap, lN_ap, lC_ap, lCK_ap, consR_ap, aN_ap, aC_ap, aCK_ap, consD_ap, frz_o, frz_m, frz_sf, frz_sm, gN_ap, gF_ap, gFK_ap, consG_ap, gB_ap, eCall_ap, callN_ap, callA_ap, callOut_ap, argE_bt, argE_bf, argE_fz, argE_nil, eTup_ap, eLst_ap, tupK_ap, lstK_ap, eDct_ap, eSl_ap, slK_ap, slK1_ap, slK2_ap, pN_ap, pI_ap, tTr_ap, tAn_ap, tO_ap, andK_t, andK_f, orK_t, orK_f, iT_ap, iV_ap, iterD_l, iterD_t, iR1_ap, sRet_ap, rtK_ap, sN_ap, sBk_ap, sIf_ap, ifK_t, ifK_f, sSet_ap, setK_o, stM_n, stM_f, stM_m, stM_o, sAsg_ap, sApp_apt, sApp_apf, appK_apt, appK_apf, sSt_ap, stK_ap, stKK_apt, stKK_apf, sFor_ap, eLc_ap, eMt_ap, mtK_ap, mtK1_ap, tgName_ap, tgTup_ap, tgCons_ap, tgThen_ap, tgNil_ap, seq_eq, bind_eq, thenO_ok, ret_eq, seqO_nx, seqO_rt, seqO_bk, rdL, rdO_o, rdO_s, O.ok, O.view, Mu.view, muSet, muApp, hIx, ixD, hAdd, hLen, hI, hInt, hAbs, hCmp, hMax2, hTuple, hSl, hEq, hNe, flatD, PyData.eqv, tru_b, asInt_o, asInt_s, cutL_1, atI_0, atI_1, atI_2, defG_ap, okArg, defOut, resO, keepB, keepF, List.mapIdx, List.mapIdx.go, ixN, k1, k2, k3, k4, k5, k6, e1]
abbrev sgD (ss : List (Str × Int)) : List PyData := ss.map fun p => .tuple [.str p.1, .int p.2]
inductive Tm (ss : List (Str × Int)) (nm : List Str) : Nat → PyData → Prop
  | name {x : Str} {n : Nat} : x ∈ nm → Tm ss nm n (.str x)
  | node {w : Str} {a : Int} {ds : List PyData} {n : Nat} : (w, a) ∈ ss → (ds.length : Int) = a → (∀ d ∈ ds, Tm ss nm n d) → Tm ss nm (n + 1) (.tuple (.str w :: ds))
theorem Tm.mono {ss : List (Str × Int)} {nm : List Str} : ∀ {n m : Nat} {d : PyData}, Tm ss nm n d → n ≤ m → Tm ss nm m d
  | _, _, _, .name h, _ => .name h
  | n + 1, m, _, .node h1 h2 h3, hm => by
    obtain ⟨k, rfl⟩ : ∃ k, m = k + 1 := ⟨m - 1, by omega⟩
    exact .node h1 h2 fun d hd => (h3 d hd).mono (by omega)
/-- the place of a sign -/
theorem idx_ok {w : Str} {a : Int} : ∀ {ss : List (Str × Int)}, (w, a) ∈ ss → (ss.map (·.1)).Nodup → ∃ i, idxD (.str w) (ss.map fun p => PyData.str p.1) = some i ∧ ss[i]? = some (w, a)
  | (v, b) :: ss, h, nd => by
    have nd' := List.nodup_cons.mp nd
    by_cases e : v = w
    · subst e
      rcases List.mem_cons.mp h with h | h
      · cases h
        exact ⟨0, by simp [idxD, PyData.eqv], rfl⟩
      · exact absurd (List.mem_map.mpr ⟨_, h, rfl⟩) nd'.1
    · rcases List.mem_cons.mp h with h | h
      · cases h; exact absurd rfl e
      · obtain ⟨i, e1, e2⟩ := idx_ok h nd'.2
        exact ⟨i + 1, by simp [idxD, PyData.eqv, e, e1], e2⟩
theorem rangeD_len {lo : Int} {n : Nat} : (rangeD lo n).length = n := by simp [rangeD]
theorem rangeD_mem {lo : Int} {n : Nat} {d : PyData} (h : d ∈ rangeD lo n) : ∃ i : Nat, i < n ∧ d = .int (lo + i) := by
  obtain ⟨i, hi, rfl⟩ := List.mem_map.mp h
  exact ⟨i, List.mem_range.mp hi, rfl⟩
abbrev abyz : List Nat := [97, 98, 121, 122]
theorem letter4 {r : Int} (h0 : 0 ≤ r) (h1 : r < 4) : ∃ x, x ∈ abyz ∧ hIx (.fz (.str "abyz")) (.fz (.int r)) = some (.fz (.str ⟨#[x]⟩)) := by
  have : r = 0 ∨ r = 1 ∨ r = 2 ∨ r = 3 := by omega
  rcases this with rfl | rfl | rfl | rfl
  · exact ⟨97, by decide, rfl⟩
  · exact ⟨98, by decide, rfl⟩
  · exact ⟨121, by decide, rfl⟩
  · exact ⟨122, by decide, rfl⟩
def cw (j : Nat) : Str := ⟨#[99, 97 + j]⟩
theorem cw_at {j : Nat} (h : j < 26) : ∃ y, hIx (.fz (.str "abcdefghijklmnopqrstuvwxyz")) (.fz (.int (j : Int))) = some (.fz (.str y)) ∧ hAdd (.fz (.str "c")) (.fz (.str y)) = some (.fz (.str (cw j))) := by
  have : j = 0 ∨ j = 1 ∨ j = 2 ∨ j = 3 ∨ j = 4 ∨ j = 5 ∨ j = 6 ∨ j = 7 ∨ j = 8 ∨ j = 9 ∨ j = 10 ∨ j = 11 ∨ j = 12 ∨ j = 13 ∨ j = 14 ∨ j = 15 ∨ j = 16 ∨ j = 17 ∨ j = 18 ∨ j = 19 ∨ j = 20 ∨ j = 21 ∨ j = 22 ∨ j = 23 ∨ j = 24 ∨ j = 25 := by omega
  rcases this with rfl | rfl | rfl | rfl | rfl | rfl | rfl | rfl | rfl | rfl | rfl | rfl | rfl | rfl | rfl | rfl | rfl | rfl | rfl | rfl | rfl | rfl | rfl | rfl | rfl | rfl
  · exact ⟨⟨#[97]⟩, rfl, rfl⟩
  · exact ⟨⟨#[98]⟩, rfl, rfl⟩
  · exact ⟨⟨#[99]⟩, rfl, rfl⟩
  · exact ⟨⟨#[100]⟩, rfl, rfl⟩
  · exact ⟨⟨#[101]⟩, rfl, rfl⟩
  · exact ⟨⟨#[102]⟩, rfl, rfl⟩
  · exact ⟨⟨#[103]⟩, rfl, rfl⟩
  · exact ⟨⟨#[104]⟩, rfl, rfl⟩
  · exact ⟨⟨#[105]⟩, rfl, rfl⟩
  · exact ⟨⟨#[106]⟩, rfl, rfl⟩
  · exact ⟨⟨#[107]⟩, rfl, rfl⟩
  · exact ⟨⟨#[108]⟩, rfl, rfl⟩
  · exact ⟨⟨#[109]⟩, rfl, rfl⟩
  · exact ⟨⟨#[110]⟩, rfl, rfl⟩
  · exact ⟨⟨#[111]⟩, rfl, rfl⟩
  · exact ⟨⟨#[112]⟩, rfl, rfl⟩
  · exact ⟨⟨#[113]⟩, rfl, rfl⟩
  · exact ⟨⟨#[114]⟩, rfl, rfl⟩
  · exact ⟨⟨#[115]⟩, rfl, rfl⟩
  · exact ⟨⟨#[116]⟩, rfl, rfl⟩
  · exact ⟨⟨#[117]⟩, rfl, rfl⟩
  · exact ⟨⟨#[118]⟩, rfl, rfl⟩
  · exact ⟨⟨#[119]⟩, rfl, rfl⟩
  · exact ⟨⟨#[120]⟩, rfl, rfl⟩
  · exact ⟨⟨#[121]⟩, rfl, rfl⟩
  · exact ⟨⟨#[122]⟩, rfl, rfl⟩
structure Wd (w : Str) : Prop where
  ab : ∀ x ∈ w.cps.toList, x ∈ abyz
  sz : w.cps.size ≤ 8
theorem Wd.cw {w : Str} (h : Wd w) {j : Nat} : w ≠ cw j := fun e => by
  have := h.ab 99 (by rw [e]; simp [VsG.cw])
  simp at this
theorem cw_inj {i j : Nat} (h : cw i = cw j) : i = j := by
  simp [cw] at h
  exact h
theorem in_ap {w : Str} {ws : List Str} : hIn false (.fz (.str w)) (.fz (.list (ws.map .str))) = some (.fz (.bool (decide (w ∈ ws)))) := by
  have h1 : (ws.map PyData.str).all flatD = true := by simp [flatD]
  have h2 : memD (.str w) (ws.map .str) = decide (w ∈ ws) := by
    unfold memD
    rw [List.any_map]
    induction ws with
    | nil => rfl
    | cons u ws ih =>
      have h3 : (ws.map PyData.str).all flatD = true := by simp [flatD]
      rw [List.any_cons, ih h3]
      by_cases hu : u = w
      · subst hu; simp [PyData.eqv]
      · have : w ≠ u := fun z => hu z.symm
        simp [PyData.eqv, hu, this]
  show (inD (.str w) (.list (ws.map .str))).map (fun k => O.fz (.bool (if false = true then !k else k))) = _
  show Option.map _ (if (flatD (.str w) && (ws.map PyData.str).all flatD || deepD (.str w) && deepL (ws.map PyData.str)) = true then some (memD (.str w) (ws.map PyData.str)) else none) = _
  rw [if_pos (by rw [h1]; rfl), h2]; rfl
theorem word_ok {ns : List Int} {ws : List Str} {c : Int} (G : Good ns) (hw : ws.length < 26) (hcw : ∀ u ∈ ws, u ≠ cw ws.length) (h0 : 0 ≤ c) (h1 : c + 100 < 2 ^ 200) :
    ∃ w c', w ∉ ws ∧ (Wd w ∨ w = cw ws.length) ∧ c ≤ c' ∧ c' ≤ c + 100 ∧ g__law_word [some (.mu true (stD ns c)), some (.fz (.list (ws.map .str)))] = some (.ok (.fz (.str w)) [some (.mu true (stD ns c')), some (.fz (.list (ws.map .str)))]) := by
  obtain ⟨r, r0, r1, e1⟩ := next_ok (c := c) (m := 8) G h0 (by omega) (by decide)
  obtain ⟨q, q0, q1, e2⟩ := next_ok (c := c + 1) (m := 3) G (by omega) (by omega) (by decide)
  -- the number of letters
  obtain ⟨N, N0, N1, eN⟩ : ∃ N : Int, 1 ≤ N ∧ N ≤ 8 ∧ hIx (.mu false (.lst [.int 1, .int 2, .int (1 + r)])) (.fz (.int q)) = some (.fz (.int N)) := by
    have : q = 0 ∨ q = 1 ∨ q = 2 := by omega
    rcases this with rfl | rfl | rfl
    · exact ⟨1, by decide, by decide, rfl⟩
    · exact ⟨2, by decide, by decide, rfl⟩
    · exact ⟨1 + r, by omega, by omega, rfl⟩
  obtain ⟨ρ', ef, w, c2, y, er, hab, hsz, k0, k1⟩ := forF_ok (h := tgName 3) (fb := sSet 2 (eOp hAdd (eV 2) (eOp hIx (eC (.str "abyz")) (eCall (g__law_next) 2 (gB 0 (gF (eC (.int 4)) gN))))))
    (fun ds ρ => ∃ (w : Str) (c2 : Int) (y : Option PyData), ρ = [some (.mu true (stD ns c2)), some (.fz (.list (ws.map .str))), some (.fz (.str w)), y.map O.fz] ∧ (∀ x ∈ w.cps.toList, x ∈ abyz) ∧ w.cps.size + ds.length ≤ 8 ∧ c ≤ c2 ∧ c2 + ds.length ≤ c + 12)
    (fun d ds ρ ⟨w, c2, y, er, hab, hsz, k0, k1⟩ => by
      subst er
      have hsz' : w.cps.size + (ds.length + 1) ≤ 8 := hsz
      have k1' : c2 + (ds.length + 1 : Nat) ≤ c + 12 := k1
      obtain ⟨p, p0, p1, e3⟩ := next_ok (c := c2) (m := 4) G (by omega) (by omega) (by decide)
      obtain ⟨x, hx, e4⟩ := letter4 p0 p1
      have hlen : w.length ≤ 8 := by show w.cps.size ≤ 8; omega
      have e5 : hAdd (.fz (.str w)) (.fz (.str ⟨#[x]⟩)) = some (.fz (.str (w ++ ⟨#[x]⟩))) := by
        show (if w.length + (⟨#[x]⟩ : Str).length ≤ 16777216 then some (O.fz (.str (w ++ ⟨#[x]⟩))) else none) = _
        rw [if_pos (by have : (⟨#[x]⟩ : Str).length = 1 := rfl; omega)]
      refine ⟨[some (.mu true (stD ns c2)), some (.fz (.list (ws.map .str))), some (.fz (.str w)), some (.fz d)], ?_, .inl ⟨[some (.mu true (stD ns (c2 + 1))), some (.fz (.list (ws.map .str))), some (.fz (.str (w ++ ⟨#[x]⟩))), some (.fz d)], ?_, w ++ ⟨#[x]⟩, c2 + 1, some d, rfl, ?_, ?_, by omega, by omega⟩⟩
      · rw [tgName_ap, stM_o (y := y) rfl]; rfl
      · have e4' := e4
        have e5' := e5
        simp only [hIx, hAdd, O.view] at e4' e5'
        simp [eV_ap, eC_ap, eOp_ap, eOpK_ap, thenO_ok, dr2_ap, rdO_s, rdO_o, O.ok, dr2P_ap, dr2O_ap, eCall_ap, gB_ap, gF_ap, gFK_ap, gN_ap, frz_o, consG_ap, callN_ap, argE_bt, argE_fz, argE_nil, callA_ap, callBO_t, brOk_n, brOk_f, brOk_b, brAt_n, brAt_f, brAt_b, back, backF, List.mapIdx, List.mapIdx.go, e3, callOut_ap, e4, e5, sSet_ap, setK_o, stM_f]
      · intro z hz
        rw [show (w ++ ⟨#[x]⟩ : Str).cps = w.cps ++ #[x] from rfl] at hz
        simp at hz
        rcases hz with hz | hz
        · exact hab z (by simpa using hz)
        · rw [hz]; exact hx
      · rw [show (w ++ ⟨#[x]⟩ : Str).cps = w.cps ++ #[x] from rfl]; simp; omega) (rangeD 0 N.toNat) [some (.mu true (stD ns (c + 2))), some (.fz (.list (ws.map .str))), some (.fz (.str "")), none]
    ⟨"", c + 2, none, rfl, (fun x hx => by have : ("" : Str).cps.toList = [] := rfl; rw [this] at hx; cases hx), by rw [rangeD_len]; have : ("" : Str).cps.size = 0 := rfl; omega, by omega, by rw [rangeD_len]; omega⟩
  have k1' : c2 ≤ c + 12 := by have : c2 + (0 : Nat) ≤ c + 12 := k1; omega
  have hW : Wd w := ⟨hab, by have : w.cps.size + 0 ≤ 8 := hsz; omega⟩
  have hr := rng1_ap (ρ := [some (.mu true (stD ns (c + 2))), some (.fz (.list (ws.map .str))), some (.fz (.str "")), none]) (j := N) (by omega)
  have c11 : c + 1 + 1 = c + 2 := by omega
  rw [c11] at e2
  subst er
  by_cases hin : w ∈ ws
  · obtain ⟨z, z1, z2⟩ := cw_at hw
    refine ⟨cw ws.length, c2, fun h => hcw _ h rfl, .inr rfl, k0, by omega, ?_⟩
    have hl : hLen [.fz (.list (ws.map .str))] = some (.fz (.int (ws.length : Int))) := by simp [hLen, O.view]
    have hin' : hIn false (.fz (.str w)) (.fz (.list (ws.map .str))) = some (.fz (.bool true)) := by rw [in_ap, decide_eq_true hin]
    simp [g__law_word, f__law_word, defG_ap, okArg, defOut, resO, keepB, keepF, List.mapIdx, List.mapIdx.go, eV_ap, eC_ap, dr2O_ap, dr2_ap, dr2P_ap, eOp_ap, eOpK_ap, dr2B_ap, dr2BP_ap, dr2BO_ap, eTs_ap, eTsK_ap, dr1_ap, dr1P_ap, eUn_ap, drN_ap, drNP_ap, eCN_ap, lN_ap, lC_ap, lCK_ap, consR_ap, aN_ap, aC_ap, aCK_ap, consD_ap, frz_o, frz_m, frz_sf, frz_sm, gN_ap, gF_ap, gFK_ap, consG_ap, gB_ap, eCall_ap, callN_ap, callA_ap, callOut_ap, argE_bt, argE_bf, argE_fz, argE_nil, eTup_ap, eLst_ap, tupK_ap, lstK_ap, eDct_ap, eSl_ap, slK_ap, slK1_ap, slK2_ap, pN_ap, pI_ap, tTr_ap, tAn_ap, tO_ap, andK_t, andK_f, orK_t, orK_f, iT_ap, iV_ap, iterD_l, iterD_t, iR1_ap, sRet_ap, rtK_ap, sN_ap, sBk_ap, sIf_ap, ifK_t, ifK_f, sSet_ap, setK_o, stM_n, stM_f, stM_m, stM_o, sAsg_ap, sApp_apt, sApp_apf, appK_apt, appK_apf, sSt_ap, stK_ap, stKK_apt, stKK_apf, sFor_ap, eLc_ap, eMt_ap, mtK_ap, mtK1_ap, tgName_ap, tgTup_ap, tgCons_ap, tgThen_ap, tgNil_ap, seq_eq, bind_eq, thenO_ok, ret_eq, seqO_nx, seqO_rt, seqO_bk, rdL, rdO_o, rdO_s, O.ok, callBO_t, brOk_n, brOk_f, brOk_b, brAt_n, brAt_f, brAt_b, back, backF, List.mapIdx, List.mapIdx.go, Mu.view, e1, e2, eN, hr, ef, hin', hl, z1, z2, show hAdd (.fz (.int 1)) (.fz (.int r)) = some (.fz (.int (1 + r))) from rfl]
  · refine ⟨w, c2, hin, .inl hW, k0, by omega, ?_⟩
    have hin' : hIn false (.fz (.str w)) (.fz (.list (ws.map .str))) = some (.fz (.bool false)) := by rw [in_ap, decide_eq_false hin]
    simp [g__law_word, f__law_word, defG_ap, okArg, defOut, resO, keepB, keepF, List.mapIdx, List.mapIdx.go, eV_ap, eC_ap, dr2O_ap, dr2_ap, dr2P_ap, eOp_ap, eOpK_ap, dr2B_ap, dr2BP_ap, dr2BO_ap, eTs_ap, eTsK_ap, dr1_ap, dr1P_ap, eUn_ap, drN_ap, drNP_ap, eCN_ap, lN_ap, lC_ap, lCK_ap, consR_ap, aN_ap, aC_ap, aCK_ap, consD_ap, frz_o, frz_m, frz_sf, frz_sm, gN_ap, gF_ap, gFK_ap, consG_ap, gB_ap, eCall_ap, callN_ap, callA_ap, callOut_ap, argE_bt, argE_bf, argE_fz, argE_nil, eTup_ap, eLst_ap, tupK_ap, lstK_ap, eDct_ap, eSl_ap, slK_ap, slK1_ap, slK2_ap, pN_ap, pI_ap, tTr_ap, tAn_ap, tO_ap, andK_t, andK_f, orK_t, orK_f, iT_ap, iV_ap, iterD_l, iterD_t, iR1_ap, sRet_ap, rtK_ap, sN_ap, sBk_ap, sIf_ap, ifK_t, ifK_f, sSet_ap, setK_o, stM_n, stM_f, stM_m, stM_o, sAsg_ap, sApp_apt, sApp_apf, appK_apt, appK_apf, sSt_ap, stK_ap, stKK_apt, stKK_apf, sFor_ap, eLc_ap, eMt_ap, mtK_ap, mtK1_ap, tgName_ap, tgTup_ap, tgCons_ap, tgThen_ap, tgNil_ap, seq_eq, bind_eq, thenO_ok, ret_eq, seqO_nx, seqO_rt, seqO_bk, rdL, rdO_o, rdO_s, O.ok, callBO_t, brOk_n, brOk_f, brOk_b, brAt_n, brAt_f, brAt_b, back, backF, List.mapIdx, List.mapIdx.go, Mu.view, e1, e2, eN, hr, ef, hin', show hAdd (.fz (.int 1)) (.fz (.int r)) = some (.fz (.int (1 + r))) from rfl]
def Fr (y : Option O) : Prop := ∀ m, y ≠ some (.mu true m)
theorem fr_n : Fr none := fun _ h => nomatch h
theorem fr_f {d : PyData} : Fr (some (.fz d)) := fun _ h => nomatch h
theorem stM_v {ρ : Rho} {i : Nat} {o : O} {y : Option O} (e : ρ[i]? = some y) (h : Fr y) : Vs.stM i o ρ = some (.ok .nx (ρ.set i (some o))) := stM_ap e h
def Bd (ns : List Int) : Prop := ∀ n ∈ ns, 0 ≤ n ∧ n < 1009
theorem Bd.app {ns : List Int} (h : Bd ns) (x : Int) : Bd (ns ++ [x % 1009]) := fun n hn => by
  rcases List.mem_append.mp hn with hn | hn
  · exact h n hn
  · rw [List.mem_singleton.mp hn]; exact ⟨Int.emod_nonneg _ (by decide), Int.emod_lt_of_pos _ (by decide)⟩
abbrev sA : M Fl := (sSeq (sApp 1 (eOp (hI cMod fun i j => i % j) (eCN hInt (lC (eV 3) lN)) (eC (.int 1009))))
    (sSeq (sSet 3 (eOp (hI cDiv fun i j => i / j) (eV 3) (eC (.int 1009))))
    (sIf (eTs hEq (eV 3) (eC (.int 0))) sBk sN)))
abbrev sB : M Fl := (sSeq (sSet 5 (eOp (hI cMod fun i j => i % j) (eCN hInt (lC (eOp hAdd (eOp hAdd (eOp (hI cMul fun i j => i * j) (eV 5) (eC (.int 48271))) (eOp (hI cMul fun i j => i * j) (eC (.int 7)) (eV 4))) (eC (.int 11))) lN)) (eC (.int 2147483647))))
    (sApp 1 (eOp (hI cMod fun i j => i % j) (eOp (hI cMod fun i j => i % j) (eCN hInt (lC (eOp hAdd (eOp (hI cMul fun i j => i * j) (eV 5) (eC (.int 69621))) (eV 4)) lN)) (eC (.int 2147483629))) (eC (.int 1009)))))
theorem loopA {sc : PyData} {ns : List Int} {x2 x5 : Option O} {B : Nat} (hB : B ≤ 10000) : ∀ (ds : List PyData) (ns : List Int) (rest : Int) (y4 : Option O), Bd ns → Fr y4 → ns.length + ds.length ≤ B →
    ∃ ns' rest' y4', Bd ns' ∧ Fr y4' ∧ ns'.length ≤ B ∧ forF (tgName 4) sA ds [some (.fz sc), some (.mu false (.lst (ns.map .int))), x2, some (.fz (.int rest)), y4, x5] = some (.ok .nx [some (.fz sc), some (.mu false (.lst (ns'.map .int))), x2, some (.fz (.int rest')), y4', x5]) := by
  intro ds ns rest y4 hb hy hl
  obtain ⟨ρ', ef, ns', rest', y4', er, h1, h2, h3⟩ := forF_ok (h := tgName 4) (fb := sA) (fun ds ρ => ∃ (ns' : List Int) (rest' : Int) (y4' : Option O), ρ = [some (.fz sc), some (.mu false (.lst (ns'.map .int))), x2, some (.fz (.int rest')), y4', x5] ∧ Bd ns' ∧ Fr y4' ∧ ns'.length + ds.length ≤ B)
    (fun d ds ρ ⟨ns, rest, y4, er, hb, hy, hl⟩ => by
      subst er
      have hl' : ns.length + (ds.length + 1) ≤ B := hl
      have hn : (ns.map PyData.int).length < 16777216 := by simp; omega
      refine ⟨[some (.fz sc), some (.mu false (.lst (ns.map .int))), x2, some (.fz (.int rest)), some (.fz d), x5], ?_, ?_⟩
      · rw [tgName_ap, stM_v rfl hy]; rfl
      · have c1 : cMod rest 1009 = true := by unfold cMod; exact decide_eq_true (by decide)
        have c2 : cDiv rest 1009 = true := by unfold cDiv; exact decide_eq_true (by decide)
        have key : ∀ k : Bool, (rest / 1009 == 0) = k → sA [some (.fz sc), some (.mu false (.lst (ns.map .int))), x2, some (.fz (.int rest)), some (.fz d), x5] = some (.ok (if k then .bk else .nx) [some (.fz sc), some (.mu false (.lst ((ns ++ [rest % 1009]).map .int))), x2, some (.fz (.int (rest / 1009))), some (.fz d), x5]) := by
          intro k hk
          have hn' : ns.length < 16777216 := by omega
          cases k <;> simp [eV_ap, eC_ap, dr2O_ap, dr2_ap, dr2P_ap, eOp_ap, eOpK_ap, dr2B_ap, dr2BP_ap, dr2BO_ap, eTs_ap, eTsK_ap, dr1_ap, dr1P_ap, eUn_ap, drN_ap, drNP_ap, eCN_ap, lN_ap, lC_ap, lCK_ap, consR_ap, aN_ap, aC_ap, aCK_ap, consD_ap, frz_o, frz_m, frz_sf, frz_sm, gN_ap, gF_ap, gFK_ap, consG_ap, gB_ap, eCall_ap, callN_ap, callA_ap, callOut_ap, argE_bt, argE_bf, argE_fz, argE_nil, eTup_ap, eLst_ap, tupK_ap, lstK_ap, eDct_ap, eSl_ap, slK_ap, slK1_ap, slK2_ap, pN_ap, pI_ap, tTr_ap, tAn_ap, tO_ap, andK_t, andK_f, orK_t, orK_f, iT_ap, iV_ap, iterD_l, iterD_t, iR1_ap, sRet_ap, rtK_ap, sN_ap, sBk_ap, sIf_ap, ifK_t, ifK_f, sSet_ap, setK_o, stM_n, stM_f, stM_m, stM_o, sAsg_ap, sApp_apt, sApp_apf, appK_apt, appK_apf, sSt_ap, stK_ap, stKK_apt, stKK_apf, sFor_ap, eLc_ap, eMt_ap, mtK_ap, mtK1_ap, tgName_ap, tgTup_ap, tgCons_ap, tgThen_ap, tgNil_ap, seq_eq, bind_eq, thenO_ok, ret_eq, seqO_nx, seqO_rt, seqO_bk, rdL, rdO_o, rdO_s, O.ok, O.view, Mu.view, muSet, muApp, hIx, ixD, hAdd, hLen, hI, hInt, hAbs, hCmp, hMax2, hTuple, hSl, hEq, hNe, flatD, PyData.eqv, tru_b, asInt_o, asInt_s, cutL_1, atI_0, atI_1, atI_2, c1, c2, hn', hk]
        cases hk : (rest / 1009 == 0) with
        | true => exact .inr ⟨_, key true hk, ns ++ [rest % 1009], rest / 1009, some (.fz d), rfl, hb.app _, fr_f, by simp; omega⟩
        | false => exact .inl ⟨_, key false hk, ns ++ [rest % 1009], rest / 1009, some (.fz d), rfl, hb.app _, fr_f, by simp; omega⟩) ds _ ⟨ns, rest, y4, rfl, hb, hy, hl⟩
  subst er
  exact ⟨ns', rest', y4', h1, h2, by simpa using h3, ef⟩
theorem loopB {sc : PyData} {x2 x3 : Option O} {B : Nat} (hB : B ≤ 10000) (ds : List PyData) (ns : List Int) (mx : Int) (y4 : Option O) (hb : Bd ns) (hy : Fr y4) (hl : ns.length + ds.length ≤ B) (hm : 0 ≤ mx ∧ mx < 2147483647) (hd : ∀ d ∈ ds, ∃ k : Int, d = .int k ∧ 0 ≤ k ∧ k < 100) :
    ∃ ns' mx' y4', Bd ns' ∧ Fr y4' ∧ ns'.length ≤ B ∧ forF (tgName 4) sB ds [some (.fz sc), some (.mu false (.lst (ns.map .int))), x2, x3, y4, some (.fz (.int mx))] = some (.ok .nx [some (.fz sc), some (.mu false (.lst (ns'.map .int))), x2, x3, y4', some (.fz (.int mx'))]) := by
  obtain ⟨ρ', ef, ns', mx', y4', er, h1, h2, h3, _⟩ := forF_ok (h := tgName 4) (fb := sB) (fun ds ρ => ∃ (ns' : List Int) (mx' : Int) (y4' : Option O), ρ = [some (.fz sc), some (.mu false (.lst (ns'.map .int))), x2, x3, y4', some (.fz (.int mx'))] ∧ Bd ns' ∧ Fr y4' ∧ ns'.length + ds.length ≤ B ∧ (0 ≤ mx' ∧ mx' < 2147483647) ∧ ∀ d ∈ ds, ∃ k : Int, d = .int k ∧ 0 ≤ k ∧ k < 100)
    (fun d ds ρ ⟨ns, mx, y4, er, hb, hy, hl, hm, hd⟩ => by
      subst er
      have hl' : ns.length + (ds.length + 1) ≤ B := hl
      have hn : ns.length < 16777216 := by omega
      obtain ⟨k, rfl, k0, k1⟩ := hd d (List.mem_cons_self ..)
      have m2 : 0 ≤ (mx * 48271 + 7 * k + 11) % 2147483647 ∧ (mx * 48271 + 7 * k + 11) % 2147483647 < 2147483647 := ⟨Int.emod_nonneg _ (by decide), Int.emod_lt_of_pos _ (by decide)⟩
      have c1 : cMul mx 48271 = true := cMul_of (a := 40) (b := 40) (by omega) (by decide) (by decide) (by decide) (by decide)
      have c2 : cMul 7 k = true := cMul_of (a := 40) (b := 40) (by decide) (by omega) (by decide) (by decide) (by decide)
      have c3 : cMul ((mx * 48271 + 7 * k + 11) % 2147483647) 69621 = true := cMul_of (a := 40) (b := 40) (by omega) (by decide) (by decide) (by decide) (by decide)
      have c4 : ∀ x, cMod x 2147483647 = true := fun x => by unfold cMod; exact decide_eq_true (by decide)
      have c5 : ∀ x, cMod x 2147483629 = true := fun x => by unfold cMod; exact decide_eq_true (by decide)
      have c6 : ∀ x, cMod x 1009 = true := fun x => by unfold cMod; exact decide_eq_true (by decide)
      refine ⟨[some (.fz sc), some (.mu false (.lst (ns.map .int))), x2, x3, some (.fz (.int k)), some (.fz (.int mx))], ?_, .inl ⟨[some (.fz sc), some (.mu false (.lst ((ns ++ [((mx * 48271 + 7 * k + 11) % 2147483647 * 69621 + k) % 2147483629 % 1009]).map .int))), x2, x3, some (.fz (.int k)), some (.fz (.int ((mx * 48271 + 7 * k + 11) % 2147483647)))], ?_, _, _, _, rfl, hb.app _, fr_f, by simp; omega, m2, fun d h => hd d (List.mem_cons_of_mem _ h)⟩⟩
      · rw [tgName_ap, stM_v rfl hy]; rfl
      · simp [eV_ap, eC_ap, dr2O_ap, dr2_ap, dr2P_ap, eOp_ap, eOpK_ap, dr2B_ap, dr2BP_ap, dr2BO_ap, eTs_ap, eTsK_ap, dr1_ap, dr1P_ap, eUn_ap, drN_ap, drNP_ap, eCN_ap, lN_ap, lC_ap, lCK_ap, consR_ap, aN_ap, aC_ap, aCK_ap, consD_ap, frz_o, frz_m, frz_sf, frz_sm, gN_ap, gF_ap, gFK_ap, consG_ap, gB_ap, eCall_ap, callN_ap, callA_ap, callOut_ap, argE_bt, argE_bf, argE_fz, argE_nil, eTup_ap, eLst_ap, tupK_ap, lstK_ap, eDct_ap, eSl_ap, slK_ap, slK1_ap, slK2_ap, pN_ap, pI_ap, tTr_ap, tAn_ap, tO_ap, andK_t, andK_f, orK_t, orK_f, iT_ap, iV_ap, iterD_l, iterD_t, iR1_ap, sRet_ap, rtK_ap, sN_ap, sBk_ap, sIf_ap, ifK_t, ifK_f, sSet_ap, setK_o, stM_n, stM_f, stM_m, stM_o, sAsg_ap, sApp_apt, sApp_apf, appK_apt, appK_apf, sSt_ap, stK_ap, stKK_apt, stKK_apf, sFor_ap, eLc_ap, eMt_ap, mtK_ap, mtK1_ap, tgName_ap, tgTup_ap, tgCons_ap, tgThen_ap, tgNil_ap, seq_eq, bind_eq, thenO_ok, ret_eq, seqO_nx, seqO_rt, seqO_bk, rdL, rdO_o, rdO_s, O.ok, O.view, Mu.view, muSet, muApp, hIx, ixD, hAdd, hLen, hI, hInt, hAbs, hCmp, hMax2, hTuple, hSl, hEq, hNe, flatD, PyData.eqv, tru_b, asInt_o, asInt_s, cutL_1, atI_0, atI_1, atI_2, c1, c2, c3, c4, c5, c6, hn]) ds _ ⟨ns, mx, y4, rfl, hb, hy, hl, hm, hd⟩
  subst er
  exact ⟨ns', mx', y4', h1, h2, by simpa using h3, ef⟩
theorem stream_ok (xs : List Int) (hx : xs.length ≤ 63) : ∃ ns, Good ns ∧ g__law_stream [some (.fz (.list (xs.map .int)))] = some (.ok (.mu false (.lst (ns.map .int))) [some (.fz (.list (xs.map .int)))]) := by
  obtain ⟨ρ', ef, ns, y2, y3, y4, y5, er, hb, f2, f3, f4, f5, hl, _⟩ := forF_ok (h := tgName 2) (fb := (sSeq (sSet 3 (eCN hAbs (lC (eCN hInt (lC (eV 2) lN)) lN)))
    (sIf (eTs hGe (eV 3) (eOp (hI cPow fun i j => i ^ j.toNat) (eC (.int 10)) (eC (.int 18)))) (sFor (iR1 (aC (eC (.int 60)) aN)) (tgName 4) sA) (sSeq (sSet 5 (eOp (hI cMod fun i j => i % j) (eCN hInt (lC (eV 3) lN)) (eC (.int 2147483647))))
    (sFor (iR1 (aC (eC (.int 10)) aN)) (tgName 4) sB)))))
    (fun ds ρ => ∃ (ns : List Int) (y2 y3 y4 y5 : Option O), ρ = [some (.fz (.list (xs.map .int))), some (.mu false (.lst (ns.map .int))), y2, y3, y4, y5] ∧ Bd ns ∧ Fr y2 ∧ Fr y3 ∧ Fr y4 ∧ Fr y5 ∧ ns.length + 60 * ds.length ≤ 60 * 63 ∧ ∀ d ∈ ds, ∃ z : Int, d = .int z)
    (fun d ds ρ ⟨ns, y2, y3, y4, y5, er, hb, f2, f3, f4, f5, hl, hd⟩ => by
      subst er
      have hl' : ns.length + 60 * (ds.length + 1) ≤ 60 * 63 := hl
      obtain ⟨z, rfl⟩ := hd d (List.mem_cons_self ..)
      have hp : hI cPow (fun i j => i ^ j.toNat) (.fz (.int 10)) (.fz (.int 18)) = some (.fz (.int 1000000000000000000)) := by rfl
      have ha : hAbs [.fz (.int z)] = some (.fz (.int (if z < 0 then -z else z))) := rfl
      have hi : hInt [.fz (.int z)] = some (.fz (.int z)) := rfl
      generalize hr : (if z < 0 then -z else z) = rest at ha
      have hi2 : hInt [.fz (.int rest)] = some (.fz (.int rest)) := rfl
      have hge : hGe (.fz (.int rest)) (.fz (.int 1000000000000000000)) = some (.fz (.bool (decide (1000000000000000000 ≤ rest)))) := rfl
      obtain ⟨n1, r1, z1, b1, g1, l1, e1⟩ := loopA (sc := .list (xs.map .int)) (ns := ns) (x2 := some (.fz (.int z))) (x5 := y5) (B := ns.length + 60) (by omega) (rangeD 0 60) ns rest y4 hb f4 (by rw [rangeD_len]; omega)
      obtain ⟨n2, r2, z2, b2, g2, l2, e2⟩ := loopB (sc := .list (xs.map .int)) (x2 := some (.fz (.int z))) (x3 := some (.fz (.int rest))) (B := ns.length + 60) (by omega) (rangeD 0 10) ns (rest % 2147483647) y4 hb f4 (by rw [rangeD_len]; omega) ⟨Int.emod_nonneg _ (by decide), Int.emod_lt_of_pos _ (by decide)⟩ (fun d h => by obtain ⟨i, hi, rfl⟩ := rangeD_mem h; exact ⟨_, rfl, by omega, by omega⟩)
      have hm : hI cMod (fun i j => i % j) (.fz (.int rest)) (.fz (.int 2147483647)) = some (.fz (.int (rest % 2147483647))) := rfl
      have q1 : ∀ ρ, rng1 [.int 60] ρ = some (.ok (rangeD 0 60) ρ) := fun ρ => rng1_ap (by decide)
      have q2 : ∀ ρ, rng1 [.int 10] ρ = some (.ok (rangeD 0 10) ρ) := fun ρ => rng1_ap (by decide)
      by_cases hg : 1000000000000000000 ≤ rest
      · rw [decide_eq_true hg] at hge
        refine ⟨[some (.fz (.list (xs.map .int))), some (.mu false (.lst (ns.map .int))), some (.fz (.int z)), y3, y4, y5], ?_, .inl ⟨[some (.fz (.list (xs.map .int))), some (.mu false (.lst (n1.map .int))), some (.fz (.int z)), some (.fz (.int r1)), z1, y5], ?_, n1, _, _, _, _, rfl, b1, fr_f, fr_f, g1, f5, by omega, fun d h => hd d (List.mem_cons_of_mem _ h)⟩⟩
        · rw [tgName_ap, stM_v rfl f2]; rfl
        · simp [eV_ap, eC_ap, dr2O_ap, dr2_ap, dr2P_ap, eOp_ap, eOpK_ap, dr2B_ap, dr2BP_ap, dr2BO_ap, eTs_ap, eTsK_ap, dr1_ap, dr1P_ap, eUn_ap, drN_ap, drNP_ap, eCN_ap, lN_ap, lC_ap, lCK_ap, consR_ap, aN_ap, aC_ap, aCK_ap, consD_ap, frz_o, frz_m, frz_sf, frz_sm, gN_ap, gF_ap, gFK_ap, consG_ap, gB_ap, eCall_ap, callN_ap, callA_ap, callOut_ap, argE_bt, argE_bf, argE_fz, argE_nil, eTup_ap, eLst_ap, tupK_ap, lstK_ap, eDct_ap, eSl_ap, slK_ap, slK1_ap, slK2_ap, pN_ap, pI_ap, tTr_ap, tAn_ap, tO_ap, andK_t, andK_f, orK_t, orK_f, iT_ap, iV_ap, iterD_l, iterD_t, iR1_ap, sRet_ap, rtK_ap, sN_ap, sBk_ap, sIf_ap, ifK_t, ifK_f, sSet_ap, setK_o, stM_n, stM_f, stM_m, stM_o, sAsg_ap, sApp_apt, sApp_apf, appK_apt, appK_apf, sSt_ap, stK_ap, stKK_apt, stKK_apf, sFor_ap, eLc_ap, eMt_ap, mtK_ap, mtK1_ap, tgName_ap, tgTup_ap, tgCons_ap, tgThen_ap, tgNil_ap, seq_eq, bind_eq, thenO_ok, ret_eq, seqO_nx, seqO_rt, seqO_bk, rdL, rdO_o, rdO_s, O.ok, hi, ha, stM_v, f3, hp, hge, q1, e1]
      · rw [decide_eq_false hg] at hge
        refine ⟨[some (.fz (.list (xs.map .int))), some (.mu false (.lst (ns.map .int))), some (.fz (.int z)), y3, y4, y5], ?_, .inl ⟨[some (.fz (.list (xs.map .int))), some (.mu false (.lst (n2.map .int))), some (.fz (.int z)), some (.fz (.int rest)), z2, some (.fz (.int r2))], ?_, n2, _, _, _, _, rfl, b2, fr_f, fr_f, g2, fr_f, by omega, fun d h => hd d (List.mem_cons_of_mem _ h)⟩⟩
        · rw [tgName_ap, stM_v rfl f2]; rfl
        · simp [eV_ap, eC_ap, dr2O_ap, dr2_ap, dr2P_ap, eOp_ap, eOpK_ap, dr2B_ap, dr2BP_ap, dr2BO_ap, eTs_ap, eTsK_ap, dr1_ap, dr1P_ap, eUn_ap, drN_ap, drNP_ap, eCN_ap, lN_ap, lC_ap, lCK_ap, consR_ap, aN_ap, aC_ap, aCK_ap, consD_ap, frz_o, frz_m, frz_sf, frz_sm, gN_ap, gF_ap, gFK_ap, consG_ap, gB_ap, eCall_ap, callN_ap, callA_ap, callOut_ap, argE_bt, argE_bf, argE_fz, argE_nil, eTup_ap, eLst_ap, tupK_ap, lstK_ap, eDct_ap, eSl_ap, slK_ap, slK1_ap, slK2_ap, pN_ap, pI_ap, tTr_ap, tAn_ap, tO_ap, andK_t, andK_f, orK_t, orK_f, iT_ap, iV_ap, iterD_l, iterD_t, iR1_ap, sRet_ap, rtK_ap, sN_ap, sBk_ap, sIf_ap, ifK_t, ifK_f, sSet_ap, setK_o, stM_n, stM_f, stM_m, stM_o, sAsg_ap, sApp_apt, sApp_apf, appK_apt, appK_apf, sSt_ap, stK_ap, stKK_apt, stKK_apf, sFor_ap, eLc_ap, eMt_ap, mtK_ap, mtK1_ap, tgName_ap, tgTup_ap, tgCons_ap, tgThen_ap, tgNil_ap, seq_eq, bind_eq, thenO_ok, ret_eq, seqO_nx, seqO_rt, seqO_bk, rdL, rdO_o, rdO_s, O.ok, hi, ha, stM_v, f3, f5, hp, hge, q2, hi2, hm, e2]) (xs.map .int) [some (.fz (.list (xs.map .int))), some (.mu false (.lst (([] : List Int).map .int))), none, none, none, none]
    ⟨[], none, none, none, none, rfl, (fun _ h => nomatch h), fr_n, fr_n, fr_n, fr_n, by simp; omega, fun d h => by obtain ⟨z, _, rfl⟩ := List.mem_map.mp h; exact ⟨z, rfl⟩⟩
  subst er
  have hl' : ns.length ≤ 60 * 63 := by have : ns.length + 60 * 0 ≤ 60 * 63 := hl; omega
  have s1 : hSl (.fz (.list (xs.map .int))) none (some 63) = some (.mu false (.lst (xs.map .int))) := by
    show some (O.mu false (.lst (cutL (xs.map .int) none (some ((63 : Nat) : Int))))) = _
    rw [cutL_to, List.take_of_length_le (by simpa using hx)]
  by_cases hn : ns = []
  · subst hn
    refine ⟨[0], ⟨by simp, by simp, by simp⟩, ?_⟩
    simp only [List.map_nil] at ef
    simp [g__law_stream, f__law_stream, defG_ap, okArg, defOut, resO, keepB, keepF, List.mapIdx, List.mapIdx.go, eV_ap, eC_ap, dr2O_ap, dr2_ap, dr2P_ap, eOp_ap, eOpK_ap, dr2B_ap, dr2BP_ap, dr2BO_ap, eTs_ap, eTsK_ap, dr1_ap, dr1P_ap, eUn_ap, drN_ap, drNP_ap, eCN_ap, lN_ap, lC_ap, lCK_ap, consR_ap, aN_ap, aC_ap, aCK_ap, consD_ap, frz_o, frz_m, frz_sf, frz_sm, gN_ap, gF_ap, gFK_ap, consG_ap, gB_ap, eCall_ap, callN_ap, callA_ap, callOut_ap, argE_bt, argE_bf, argE_fz, argE_nil, eTup_ap, eLst_ap, tupK_ap, lstK_ap, eDct_ap, eSl_ap, slK_ap, slK1_ap, slK2_ap, pN_ap, pI_ap, tTr_ap, tAn_ap, tO_ap, andK_t, andK_f, orK_t, orK_f, iT_ap, iV_ap, iterD_l, iterD_t, iR1_ap, sRet_ap, rtK_ap, sN_ap, sBk_ap, sIf_ap, ifK_t, ifK_f, sSet_ap, setK_o, stM_n, stM_f, stM_m, stM_o, sAsg_ap, sApp_apt, sApp_apf, appK_apt, appK_apf, sSt_ap, stK_ap, stKK_apt, stKK_apf, sFor_ap, eLc_ap, eMt_ap, mtK_ap, mtK1_ap, tgName_ap, tgTup_ap, tgCons_ap, tgThen_ap, tgNil_ap, seq_eq, bind_eq, thenO_ok, ret_eq, seqO_nx, seqO_rt, seqO_bk, rdL, rdO_o, rdO_s, O.ok, Mu.view, s1, asInt_o, ef, hLen, hEq, O.view, flatD, PyData.eqv]
  · have hpos : 0 < ns.length := List.length_pos_iff.mpr hn
    refine ⟨ns, ⟨hn, hb, by omega⟩, ?_⟩
    simp only [List.map_nil] at ef
    have hz : ((ns.length : Int) == 0) = false := beq_eq_false_iff_ne.mpr (by omega)
    simp [g__law_stream, f__law_stream, defG_ap, okArg, defOut, resO, keepB, keepF, List.mapIdx, List.mapIdx.go, eV_ap, eC_ap, dr2O_ap, dr2_ap, dr2P_ap, eOp_ap, eOpK_ap, dr2B_ap, dr2BP_ap, dr2BO_ap, eTs_ap, eTsK_ap, dr1_ap, dr1P_ap, eUn_ap, drN_ap, drNP_ap, eCN_ap, lN_ap, lC_ap, lCK_ap, consR_ap, aN_ap, aC_ap, aCK_ap, consD_ap, frz_o, frz_m, frz_sf, frz_sm, gN_ap, gF_ap, gFK_ap, consG_ap, gB_ap, eCall_ap, callN_ap, callA_ap, callOut_ap, argE_bt, argE_bf, argE_fz, argE_nil, eTup_ap, eLst_ap, tupK_ap, lstK_ap, eDct_ap, eSl_ap, slK_ap, slK1_ap, slK2_ap, pN_ap, pI_ap, tTr_ap, tAn_ap, tO_ap, andK_t, andK_f, orK_t, orK_f, iT_ap, iV_ap, iterD_l, iterD_t, iR1_ap, sRet_ap, rtK_ap, sN_ap, sBk_ap, sIf_ap, ifK_t, ifK_f, sSet_ap, setK_o, stM_n, stM_f, stM_m, stM_o, sAsg_ap, sApp_apt, sApp_apf, appK_apt, appK_apf, sSt_ap, stK_ap, stKK_apt, stKK_apf, sFor_ap, eLc_ap, eMt_ap, mtK_ap, mtK1_ap, tgName_ap, tgTup_ap, tgCons_ap, tgThen_ap, tgNil_ap, seq_eq, bind_eq, thenO_ok, ret_eq, seqO_nx, seqO_rt, seqO_bk, rdL, rdO_o, rdO_s, O.ok, Mu.view, s1, asInt_o, ef, hLen, hEq, O.view, flatD, PyData.eqv, hz]
local macro_rules | `(tactic| fail_if_success skip) => `(tactic| rfl)
local macro_rules | `(tactic| fail_if_success skip) => `(tactic| with_reducible assumption)
local macro_rules | `(tactic| fail_if_success skip) => `(tactic| with_reducible exact hSl_1)
local macro_rules | `(tactic| fail_if_success skip) => `(tactic| with_reducible exact hIx_t2)
local macro_rules | `(tactic| fail_if_success skip) => `(tactic| with_reducible exact hIx_t1)
local macro_rules | `(tactic| fail_if_success skip) => `(tactic| with_reducible exact hIx_t0)
local macro_rules | `(tactic| fail_if_success skip) => `(tactic| with_reducible exact hEq_s)
local macro_rules | `(tactic| fail_if_success skip) => `(tactic| with_reducible exact hEq_i)
local macro_rules | `(tactic| fail "vsSt") => `(tactic| ((simp only [List.set_cons_zero, List.set_cons_succ]) <;> rfl))
local macro_rules | `(tactic| fail "vsFr") => `(tactic| with_reducible exact free_m)
local macro_rules | `(tactic| fail "vsFr") => `(tactic| with_reducible exact free_f)
local macro_rules | `(tactic| fail "vsFr") => `(tactic| with_reducible exact free_n)
local macro_rules | `(tactic| fail "vsFr") => `(tactic| with_reducible assumption)
local macro_rules | `(tactic| fail "vsLn") => `(tactic| (simp only [List.length_cons, List.length_nil, List.length_map, List.length_append]; omega))
local macro_rules | `(tactic| fail "vsLn") => `(tactic| omega)
local macro_rules | `(tactic| fail "vsLn") => `(tactic| with_reducible assumption)
local macro_rules | `(tactic| fail "vsFz") => `(tactic| exact fzs_c (fzs_c (fzs_c (fzs_c (fzs_c (fzs_c fzs_n))))))
local macro_rules | `(tactic| fail "vsFz") => `(tactic| exact fzs_c (fzs_c (fzs_c (fzs_c (fzs_c fzs_n)))))
local macro_rules | `(tactic| fail "vsFz") => `(tactic| exact fzs_c (fzs_c (fzs_c (fzs_c fzs_n))))
local macro_rules | `(tactic| fail "vsFz") => `(tactic| exact fzs_c (fzs_c (fzs_c fzs_n)))
local macro_rules | `(tactic| fail "vsFz") => `(tactic| exact fzs_c (fzs_c fzs_n))
local macro_rules | `(tactic| fail "vsFz") => `(tactic| exact fzs_c fzs_n)
local macro_rules | `(tactic| fail "vsFz") => `(tactic| exact fzs_n)
local macro_rules | `(tactic| unhygienic fail) => `(tactic| ((with_reducible refine' w_drM (e := ?e) (e1 := ?e1) (e2 := ?e2) (e3 := ?e3) (q := ?q)); (case e => rfl); (case e1 => rfl); (case e2 => rfl); (case e3 => (fail_if_success skip))))
local macro_rules | `(tactic| unhygienic fail) => `(tactic| ((with_reducible refine' w_mtK (e := ?e) (e2 := ?e2) (w := ?w)); (case e => rfl); (case e2 => rfl)))
local macro_rules | `(tactic| unhygienic fail) => `(tactic| (with_reducible refine w_Mt ?_))
local macro_rules | `(tactic| unhygienic fail) => `(tactic| (with_reducible refine w_ChS ?_))
local macro_rules | `(tactic| unhygienic fail) => `(tactic| (with_reducible refine w_Ch ?_))
local macro_rules | `(tactic| unhygienic fail) => `(tactic| (with_reducible refine w_Dct ?_))
local macro_rules | `(tactic| unhygienic fail) => `(tactic| (with_reducible refine w_oD ?_ ?_))
local macro_rules | `(tactic| unhygienic fail) => `(tactic| (with_reducible refine w_oF ?_))
local macro_rules | `(tactic| unhygienic fail) => `(tactic| (with_reducible refine w_oT ?_))
local macro_rules | `(tactic| unhygienic fail) => `(tactic| (with_reducible refine w_Or ?_))
local macro_rules | `(tactic| unhygienic fail) => `(tactic| (with_reducible refine w_anD ?_ ?_))
local macro_rules | `(tactic| unhygienic fail) => `(tactic| (with_reducible refine w_anF ?_))
local macro_rules | `(tactic| unhygienic fail) => `(tactic| (with_reducible refine w_anT ?_))
local macro_rules | `(tactic| unhygienic fail) => `(tactic| (with_reducible refine w_An ?_))
local macro_rules | `(tactic| unhygienic fail) => `(tactic| (with_reducible refine w_Nt2 ?_))
local macro_rules | `(tactic| unhygienic fail) => `(tactic| (with_reducible refine w_ixD ?_ ?_))
local macro_rules | `(tactic| unhygienic fail) => `(tactic| (with_reducible refine w_ixF ?_))
local macro_rules | `(tactic| unhygienic fail) => `(tactic| (with_reducible refine w_ixT ?_))
local macro_rules | `(tactic| unhygienic fail) => `(tactic| (with_reducible refine w_IfX ?_))
local macro_rules | `(tactic| unhygienic fail) => `(tactic| ((with_reducible refine' w_dr1 (ex := ?ex) (e := ?e) (q := ?q)); (case ex => rfl); (case e => (fail_if_success skip))))
local macro_rules | `(tactic| unhygienic fail) => `(tactic| (with_reducible refine w_Un ?_))
local macro_rules | `(tactic| unhygienic fail) => `(tactic| (with_reducible refine w_Dc ?_))
local macro_rules | `(tactic| unhygienic fail) => `(tactic| (with_reducible refine w_Lc ?_))
local macro_rules | `(tactic| unhygienic fail) => `(tactic| ((with_reducible refine' w_slK2 (ex := ?ex) (e := ?e) (q := ?q)); (case ex => rfl); (case e => (fail_if_success skip))))
local macro_rules | `(tactic| unhygienic fail) => `(tactic| (with_reducible refine w_Sl ?_))
local macro_rules | `(tactic| unhygienic fail) => `(tactic| ((with_reducible refine' w_lstK (e := ?e) (q := ?q)); (case e => (fail "vsLn"))))
local macro_rules | `(tactic| unhygienic fail) => `(tactic| (with_reducible refine w_Lst ?_))
local macro_rules | `(tactic| unhygienic fail) => `(tactic| ((with_reducible refine' w_tupK (e := ?e) (q := ?q)); (case e => (fail "vsLn"))))
local macro_rules | `(tactic| unhygienic fail) => `(tactic| (with_reducible refine w_Tup ?_))
local macro_rules | `(tactic| unhygienic fail) => `(tactic| ((with_reducible refine' w_drN (ex := ?ex) (e := ?e) (q := ?q)); (case ex => rfl); (case e => (fail_if_success skip))))
local macro_rules | `(tactic| unhygienic fail) => `(tactic| (with_reducible refine w_CN ?_))
local macro_rules | `(tactic| unhygienic fail) => `(tactic| ((with_reducible refine' w_mkK (hn := ?hn) (ea := ?ea) (w := ?w)); (case hn => rfl); (case ea => rfl)))
local macro_rules | `(tactic| unhygienic fail) => `(tactic| (with_reducible refine w_Mk ?_))
local macro_rules | `(tactic| unhygienic fail) => `(tactic| ((with_reducible refine' w_Me (e := ?e) (e2 := ?e2) (w := ?w)); (case e => rfl); (case e2 => rfl)))
local macro_rules | `(tactic| unhygienic fail) => `(tactic| ((with_reducible refine' w_rdF (e := ?e) (e2 := ?e2) (q := ?q)); (case e => rfl); (case e2 => rfl)))
local macro_rules | `(tactic| unhygienic fail) => `(tactic| (with_reducible refine w_Fld ?_))
local macro_rules | `(tactic| unhygienic fail) => `(tactic| ((with_reducible refine' w_cFB (e := ?e) (hn := ?hn) (hi := ?hi) (ea := ?ea) (w := ?w)); (case e => (fail "vsFz")); (case hn => rfl); (case hi => rfl); (case ea => ((simp only [fzR]) <;> rfl))))
local macro_rules | `(tactic| unhygienic fail) => `(tactic| ((with_reducible refine' w_cBB (e := ?e) (hn := ?hn) (hij := ?hij) (hi := ?hi) (hj := ?hj) (ea := ?ea) (w := ?w)); (case e => (fail "vsFz")); (case hn => rfl); (case hij => decide); (case hi => rfl); (case hj => rfl); (case ea => ((simp only [fzR]) <;> rfl))))
local macro_rules | `(tactic| unhygienic fail) => `(tactic| ((with_reducible refine' w_cB (e := ?e) (hn := ?hn) (hi := ?hi) (ea := ?ea) (w := ?w)); (case e => (fail "vsFz")); (case hn => rfl); (case hi => rfl); (case ea => ((simp only [fzR]) <;> rfl))))
local macro_rules | `(tactic| unhygienic fail) => `(tactic| ((with_reducible refine' w_cF (e := ?e) (hn := ?hn) (ea := ?ea) (w := ?w)); (case e => (fail "vsFz")); (case hn => rfl); (case ea => ((simp only [fzR]) <;> rfl))))
local macro_rules | `(tactic| unhygienic fail) => `(tactic| (with_reducible refine w_Call ?_))
local macro_rules | `(tactic| unhygienic fail) => `(tactic| ((with_reducible refine' w_dr2 (ex := ?ex) (ey := ?ey) (e := ?e) (q := ?q)); (case ex => rfl); (case ey => rfl); (case e => (fail_if_success skip))))
local macro_rules | `(tactic| unhygienic fail) => `(tactic| (with_reducible refine w_Op ?_))
local macro_rules | `(tactic| unhygienic fail) => `(tactic| (with_reducible refine w_C ?_))
local macro_rules | `(tactic| unhygienic fail) => `(tactic| ((with_reducible refine' w_V (e := ?e) (q := ?q)); (case e => rfl)))
local macro_rules | `(tactic| with_reducible_and_instances fail "vsPd") => `(tactic| ((with_reducible refine' w_frzT (e := ?e) (e2 := ?e2) (q := ?q)); (case e => rfl); (case e2 => (fail "vsSt"))))
local macro_rules | `(tactic| with_reducible_and_instances fail "vsPd") => `(tactic| (with_reducible refine w_frzM ?_))
local macro_rules | `(tactic| with_reducible_and_instances fail "vsPd") => `(tactic| ((with_reducible refine' w_frzU (e := ?e) (e2 := ?e2) (q := ?q)); (case e => rfl); (case e2 => (fail "vsSt"))))
local macro_rules | `(tactic| with_reducible_and_instances fail "vsPd") => `(tactic| (with_reducible refine w_frzL ?_))
local macro_rules | `(tactic| with_reducible_and_instances fail "vsPd") => `(tactic| ((with_reducible refine' w_frzS (e := ?e) (q := ?q)); (case e => rfl)))
local macro_rules | `(tactic| with_reducible_and_instances fail "vsPd") => `(tactic| (with_reducible refine w_frzO ?_))
local macro_rules | `(tactic| with_reducible_and_instances fail "vsLp") => `(tactic| (with_reducible refine w_rvt ?_))
local macro_rules | `(tactic| with_reducible_and_instances fail "vsLp") => `(tactic| (with_reducible refine w_rvl ?_))
local macro_rules | `(tactic| with_reducible_and_instances fail "vsLp") => `(tactic| (with_reducible refine w_iRv ?_))
local macro_rules | `(tactic| with_reducible_and_instances fail "vsLp") => `(tactic| (with_reducible refine w_spt ?_))
local macro_rules | `(tactic| with_reducible_and_instances fail "vsLp") => `(tactic| (with_reducible refine w_spl ?_))
local macro_rules | `(tactic| with_reducible_and_instances fail "vsLp") => `(tactic| (with_reducible refine w_aS ?_))
local macro_rules | `(tactic| with_reducible_and_instances fail "vsLp") => `(tactic| (with_reducible refine w_zip2 ?_))
local macro_rules | `(tactic| with_reducible_and_instances fail "vsLp") => `(tactic| (with_reducible refine w_iZ ?_))
local macro_rules | `(tactic| with_reducible_and_instances fail "vsLp") => `(tactic| (with_reducible refine w_enL ?_))
local macro_rules | `(tactic| with_reducible_and_instances fail "vsLp") => `(tactic| (with_reducible refine w_enT ?_))
local macro_rules | `(tactic| with_reducible_and_instances fail "vsLp") => `(tactic| (with_reducible refine w_iE ?_))
local macro_rules | `(tactic| with_reducible_and_instances fail "vsLp") => `(tactic| ((with_reducible refine' w_rng3 (h := ?h) (q := ?q)); (case h => omega)))
local macro_rules | `(tactic| with_reducible_and_instances fail "vsLp") => `(tactic| (with_reducible refine w_iR3 ?_))
local macro_rules | `(tactic| with_reducible_and_instances fail "vsLp") => `(tactic| ((with_reducible refine' w_rng2 (e := ?e) (q := ?q)); (case e => omega)))
local macro_rules | `(tactic| with_reducible_and_instances fail "vsLp") => `(tactic| (with_reducible refine w_iR2 ?_))
local macro_rules | `(tactic| with_reducible_and_instances fail "vsLp") => `(tactic| ((with_reducible refine' w_rng1 (e := ?e) (q := ?q)); (case e => omega)))
local macro_rules | `(tactic| with_reducible_and_instances fail "vsLp") => `(tactic| (with_reducible refine w_iR1 ?_))
local macro_rules | `(tactic| with_reducible_and_instances fail "vsLp") => `(tactic| (with_reducible refine w_itt ?_))
local macro_rules | `(tactic| with_reducible_and_instances fail "vsLp") => `(tactic| (with_reducible refine w_itl ?_))
local macro_rules | `(tactic| with_reducible_and_instances fail "vsLp") => `(tactic| (with_reducible refine w_iV ?_))
local macro_rules | `(tactic| with_reducible_and_instances fail "vsLp") => `(tactic| (with_reducible refine w_aN ?_))
local macro_rules | `(tactic| with_reducible_and_instances fail "vsLp") => `(tactic| (with_reducible refine w_aC ?_))
local macro_rules | `(tactic| with_reducible_and_instances fail "vsLa") => `(tactic| (with_reducible refine w_gN ?_))
local macro_rules | `(tactic| with_reducible_and_instances fail "vsLa") => `(tactic| ((with_reducible refine' w_gB (e := ?e) (w := ?w)); (case e => rfl)))
local macro_rules | `(tactic| with_reducible_and_instances fail "vsLa") => `(tactic| (with_reducible refine w_gF ?_))
local macro_rules | `(tactic| with_reducible_and_instances fail "vsLr") => `(tactic| (with_reducible refine w_lN ?_))
local macro_rules | `(tactic| with_reducible_and_instances fail "vsLr") => `(tactic| (with_reducible refine w_lC ?_))
local macro_rules | `(tactic| with_unfolding_all fail) => `(tactic| (with_reducible refine w_seqC ?_))
local macro_rules | `(tactic| with_unfolding_all fail) => `(tactic| (with_reducible refine w_seqB ?_))
local macro_rules | `(tactic| with_unfolding_all fail) => `(tactic| (with_reducible refine w_sCt ?_))
local macro_rules | `(tactic| with_unfolding_all fail) => `(tactic| (with_reducible refine w_sBk ?_))
local macro_rules | `(tactic| with_unfolding_all fail) => `(tactic| (with_reducible refine w_RetN ?_))
local macro_rules | `(tactic| with_unfolding_all fail) => `(tactic| ((with_reducible refine' w_augK (ex := ?ex) (ej := ?ej) (e := ?e) (hf := ?hf) (e2 := ?e2) (q := ?q)); (case ex => rfl); (case ej => rfl); (case e => rfl); (case hf => (fail "vsFr")); (case e2 => (fail "vsSt"))))
local macro_rules | `(tactic| with_unfolding_all fail) => `(tactic| ((with_reducible refine' w_Aug (e := ?e) (w := ?w)); (case e => rfl)))
local macro_rules | `(tactic| with_unfolding_all fail) => `(tactic| ((with_reducible refine' w_extK (ex := ?ex) (e := ?e) (h := ?h) (e2 := ?e2) (q := ?q)); (case ex => rfl); (case e => rfl); (case h => (fail "vsLn")); (case e2 => (fail "vsSt"))))
local macro_rules | `(tactic| with_unfolding_all fail) => `(tactic| ((with_reducible refine' w_Ext (e := ?e) (w := ?w)); (case e => rfl)))
local macro_rules | `(tactic| with_unfolding_all fail) => `(tactic| ((with_reducible refine' w_augF (ex := ?ex) (w := ?w)); (case ex => rfl)))
local macro_rules | `(tactic| with_unfolding_all fail) => `(tactic| ((with_reducible refine' w_FA (e := ?e) (e2 := ?e2) (w := ?w)); (case e => rfl); (case e2 => rfl)))
local macro_rules | `(tactic| with_unfolding_all fail) => `(tactic| ((with_reducible refine' w_upF (e := ?e) (hl := ?hl) (ep := ?ep) (e2 := ?e2) (q := ?q)); (case e => rfl); (case hl => (fail "vsLn")); (case ep => rfl); (case e2 => (fail "vsSt"))))
local macro_rules | `(tactic| with_unfolding_all fail) => `(tactic| (with_reducible refine w_Fl ?_))
local macro_rules | `(tactic| with_unfolding_all fail) => `(tactic| ((with_reducible refine' w_stK (e := ?e) (w := ?w)); (case e => rfl)))
local macro_rules | `(tactic| with_unfolding_all fail) => `(tactic| (with_reducible refine w_St ?_))
local macro_rules | `(tactic| with_unfolding_all fail) => `(tactic| (with_reducible refine w_Ex ?_))
local macro_rules | `(tactic| with_unfolding_all fail) => `(tactic| (with_reducible refine w_For ?_))
local macro_rules | `(tactic| with_unfolding_all fail) => `(tactic| (with_reducible refine w_tgK ?_))
local macro_rules | `(tactic| with_unfolding_all fail) => `(tactic| ((with_reducible refine' w_tgN (e := ?e) (hf := ?hf) (e2 := ?e2) (q := ?q)); (case e => rfl); (case hf => (fail "vsFr")); (case e2 => (fail "vsSt"))))
local macro_rules | `(tactic| with_unfolding_all fail) => `(tactic| (with_reducible refine w_tgE ?_))
local macro_rules | `(tactic| with_unfolding_all fail) => `(tactic| (with_reducible refine w_tgNK ?_))
local macro_rules | `(tactic| with_unfolding_all fail) => `(tactic| (with_reducible refine w_tgCT ?_))
local macro_rules | `(tactic| with_unfolding_all fail) => `(tactic| ((with_reducible refine' w_tgC (e := ?e) (hf := ?hf) (e2 := ?e2) (w := ?w)); (case e => rfl); (case hf => (fail "vsFr")); (case e2 => (fail "vsSt"))))
local macro_rules | `(tactic| with_unfolding_all fail) => `(tactic| ((with_reducible refine' w_tgT (e := ?e) (w := ?w)); (case e => rfl)))
local macro_rules | `(tactic| with_unfolding_all fail) => `(tactic| (with_reducible refine w_Asg ?_))
local macro_rules | `(tactic| with_unfolding_all fail) => `(tactic| (with_reducible refine w_seqR ?_))
local macro_rules | `(tactic| with_unfolding_all fail) => `(tactic| (with_reducible refine w_Ret ?_))
local macro_rules | `(tactic| with_unfolding_all fail) => `(tactic| ((with_reducible refine' w_appK (e := ?e) (h := ?h) (e2 := ?e2) (q := ?q)); (case e => rfl); (case h => (fail "vsLn")); (case e2 => (fail "vsSt"))))
local macro_rules | `(tactic| with_unfolding_all fail) => `(tactic| ((with_reducible refine' w_App (e := ?e) (w := ?w)); (case e => rfl)))
local macro_rules | `(tactic| with_unfolding_all fail) => `(tactic| (with_reducible refine w_raise ?_))
local macro_rules | `(tactic| with_unfolding_all fail) => `(tactic| (with_reducible refine w_sN ?_))
local macro_rules | `(tactic| with_unfolding_all fail) => `(tactic| (with_reducible refine w_setS ?_))
local macro_rules | `(tactic| with_unfolding_all fail) => `(tactic| ((with_reducible refine' w_setO (e := ?e) (hf := ?hf) (e2 := ?e2) (q := ?q)); (case e => rfl); (case hf => (fail "vsFr")); (case e2 => (fail "vsSt"))))
local macro_rules | `(tactic| with_unfolding_all fail) => `(tactic| (with_reducible refine w_Set ?_))
local macro_rules | `(tactic| with_unfolding_all fail) => `(tactic| (with_reducible refine w_ifD ?_ ?_))
local macro_rules | `(tactic| with_unfolding_all fail) => `(tactic| (with_reducible refine w_ifF ?_))
local macro_rules | `(tactic| with_unfolding_all fail) => `(tactic| (with_reducible refine w_ifT ?_))
local macro_rules | `(tactic| with_unfolding_all fail) => `(tactic| (with_reducible refine w_If ?_))
local macro_rules | `(tactic| with_unfolding_all fail) => `(tactic| (with_reducible refine w_seqN ?_))
local macro_rules | `(tactic| with_unfolding_all fail) => `(tactic| (with_reducible refine w_Seq ?_))
local macro_rules | `(tactic| with_unfolding_none fail) => `(tactic| (with_reducible refine w_tChS ?_))
local macro_rules | `(tactic| with_unfolding_none fail) => `(tactic| (with_reducible refine w_tCh ?_))
local macro_rules | `(tactic| with_unfolding_none fail) => `(tactic| ((with_reducible refine' w_asB (e := ?e) (e2 := ?e2) (q := ?q)); (case e => rfl); (case e2 => rfl)))
local macro_rules | `(tactic| with_unfolding_none fail) => `(tactic| (with_reducible refine w_iT ?_))
local macro_rules | `(tactic| with_unfolding_none fail) => `(tactic| ((with_reducible refine' w_tru (e := ?e) (e2 := ?e2) (q := ?q)); (case e => rfl); (case e2 => rfl)))
local macro_rules | `(tactic| with_unfolding_none fail) => `(tactic| ((with_reducible refine' w_tru (b := false) (e := ?e) (e2 := ?e2) (q := ?q)); (case e => rfl); (case e2 => rfl)))
local macro_rules | `(tactic| with_unfolding_none fail) => `(tactic| ((with_reducible refine' w_tru (b := true) (e := ?e) (e2 := ?e2) (q := ?q)); (case e => rfl); (case e2 => rfl)))
local macro_rules | `(tactic| with_unfolding_none fail) => `(tactic| (with_reducible refine w_Tr ?_))
local macro_rules | `(tactic| with_unfolding_none fail) => `(tactic| (with_reducible refine w_tNt2 ?_))
local macro_rules | `(tactic| with_unfolding_none fail) => `(tactic| (with_reducible refine w_orD ?_ ?_))
local macro_rules | `(tactic| with_unfolding_none fail) => `(tactic| (with_reducible refine w_orF ?_))
local macro_rules | `(tactic| with_unfolding_none fail) => `(tactic| (with_reducible refine w_orT ?_))
local macro_rules | `(tactic| with_unfolding_none fail) => `(tactic| (with_reducible refine w_tO ?_))
local macro_rules | `(tactic| with_unfolding_none fail) => `(tactic| (with_reducible refine w_andD ?_ ?_))
local macro_rules | `(tactic| with_unfolding_none fail) => `(tactic| (with_reducible refine w_andF ?_))
local macro_rules | `(tactic| with_unfolding_none fail) => `(tactic| (with_reducible refine w_andT ?_))
local macro_rules | `(tactic| with_unfolding_none fail) => `(tactic| (with_reducible refine w_tAn ?_))
local macro_rules | `(tactic| with_unfolding_none fail) => `(tactic| ((with_reducible refine' w_dr2B (ex := ?ex) (ey := ?ey) (e := ?e) (q := ?q)); (case ex => rfl); (case ey => rfl); (case e => (fail_if_success skip))))
local macro_rules | `(tactic| with_unfolding_none fail) => `(tactic| ((with_reducible refine' w_dr2B (c := false) (ex := ?ex) (ey := ?ey) (e := ?e) (q := ?q)); (case ex => rfl); (case ey => rfl); (case e => rfl)))
local macro_rules | `(tactic| with_unfolding_none fail) => `(tactic| ((with_reducible refine' w_dr2B (c := true) (ex := ?ex) (ey := ?ey) (e := ?e) (q := ?q)); (case ex => rfl); (case ey => rfl); (case e => rfl)))
local macro_rules | `(tactic| with_unfolding_none fail) => `(tactic| (with_reducible refine w_Ts ?_))
local macro_rules | `(tactic| with_reducible_and_instances fail "vsOi") => `(tactic| ((with_reducible refine' w_asInt (e := ?e) (e2 := ?e2) (q := ?q)); (case e => rfl); (case e2 => rfl)))
local macro_rules | `(tactic| with_reducible_and_instances fail "vsOi") => `(tactic| (with_reducible refine w_pN ?_))
local macro_rules | `(tactic| with_reducible_and_instances fail "vsOi") => `(tactic| (with_reducible refine w_pI ?_))
local macro_rules | `(tactic| as_aux_lemma => fail) => `(tactic| ((with_reducible refine' w_def (e := ?e) (e2 := ?e2) (e3 := ?e3) (w := ?w)); (case e => rfl); (case e2 => rfl); (case e3 => ((simp only [List.cons_append, List.nil_append, Nat.reduceSub, List.replicate]) <;> rfl))))
local macro_rules | `(tactic| as_aux_lemma => fail) => `(tactic| ((with_reducible refine' bqF (e := ?e) (q := ?q)); (case e => (fail "vsSt"))))
local macro_rules | `(tactic| as_aux_lemma => fail) => `(tactic| ((with_reducible refine' bq2 (e := ?e) (q := ?q)); (case e => (fail "vsSt"))))
local macro_rules | `(tactic| as_aux_lemma => fail) => `(tactic| ((with_reducible refine' bq (e := ?e) (q := ?q)); (case e => (fail "vsSt"))))
local macro_rules | `(tactic| as_aux_lemma => fail) => `(tactic| ((with_reducible refine' dqN (e2 := ?e2) (q := ?q)); (case e2 => ((simp only [keepB_n, keepB_f, keepB_m]) <;> rfl))))
local macro_rules | `(tactic| as_aux_lemma => fail) => `(tactic| ((with_reducible refine' dq (e := ?e) (e2 := ?e2) (q := ?q)); (case e => rfl); (case e2 => ((simp only [keepB_n, keepB_f, keepB_m]) <;> rfl))))
local macro_rules | `(tactic| as_aux_lemma => fail) => `(tactic| (with_reducible refine w_ret ?_))
local macro_rules | `(tactic| as_aux_lemma => fail) => `(tactic| (with_reducible refine no_D ?_))
local macro_rules | `(tactic| as_aux_lemma => fail) => `(tactic| (with_reducible refine no_F ?_))
local macro_rules | `(tactic| as_aux_lemma => fail) => `(tactic| (with_reducible refine no_T ?_))
local macro_rules | `(tactic| as_aux_lemma => fail) => `(tactic| (with_reducible refine nt_D ?_))
local macro_rules | `(tactic| as_aux_lemma => fail) => `(tactic| (with_reducible refine nt_F ?_))
local macro_rules | `(tactic| as_aux_lemma => fail) => `(tactic| (with_reducible refine nt_T ?_))
local macro_rules | `(tactic| as_aux_lemma => fail) => `(tactic| (with_reducible refine w_bind ?_))
local macro_rules | `(tactic| as_aux_lemma => fail) => `(tactic| ((with_reducible refine (?_ : Wp (α := (Option Int)) _ _ _ _)); with_reducible_and_instances fail "vsOi"))
local macro_rules | `(tactic| as_aux_lemma => fail) => `(tactic| ((with_reducible refine (?_ : Wp (α := Bool) _ _ _ _)); with_unfolding_none fail))
local macro_rules | `(tactic| as_aux_lemma => fail) => `(tactic| ((with_reducible refine (?_ : Wp (α := Fl) _ _ _ _)); with_unfolding_all fail))
local macro_rules | `(tactic| as_aux_lemma => fail) => `(tactic| ((with_reducible refine (?_ : Wp (α := (List Rf)) _ _ _ _)); with_reducible_and_instances fail "vsLr"))
local macro_rules | `(tactic| as_aux_lemma => fail) => `(tactic| ((with_reducible refine (?_ : Wp (α := (List Vs.Arg)) _ _ _ _)); with_reducible_and_instances fail "vsLa"))
local macro_rules | `(tactic| as_aux_lemma => fail) => `(tactic| ((with_reducible refine (?_ : Wp (α := (List PyData)) _ _ _ _)); with_reducible_and_instances fail "vsLp"))
local macro_rules | `(tactic| as_aux_lemma => fail) => `(tactic| ((with_reducible refine (?_ : Wp (α := PyData) _ _ _ _)); with_reducible_and_instances fail "vsPd"))
local macro_rules | `(tactic| as_aux_lemma => fail) => `(tactic| ((with_reducible refine (?_ : Wp (α := Rf) _ _ _ _)); unhygienic fail))
local macro_rules | `(tactic| done) => `(tactic| first
  | as_aux_lemma => fail
  | fail)
/-- the state of the draws, good for k more of them -/
structure Stt (m : Mu) (k : Nat) : Prop where
  ex : ∃ ns c, m = stD ns c ∧ Good ns ∧ 0 ≤ c ∧ c + k < 2 ^ 200
theorem Stt.le {m : Mu} {k k' : Nat} (S : Stt m k) (h : k' ≤ k) : Stt m k' := by
  obtain ⟨ns, c, e, G, h0, h1⟩ := S.ex
  exact ⟨ns, c, e, G, h0, by omega⟩
theorem next_w {m : Mu} {k : Nat} {E : Px} {Q : O → Rho → Prop} {n : Int} (S : Stt m k) (hk : 1 ≤ k) (hn : 0 < n) (q : ∀ (r : Int) (m' : Mu), 0 ≤ r → r < n → Stt m' (k - 1) → Q (.fz (.int r)) [some (.mu true m'), some (.fz (.int n))]) : Wp g__law_next [some (.mu true m), some (.fz (.int n))] Q E := by
  obtain ⟨ns, c, rfl, G, h0, h1⟩ := S.ex
  obtain ⟨r, r0, r1, e⟩ := next_ok G h0 (by omega) hn
  exact .eq e (q r _ r0 r1 ⟨_, _, rfl, G, by omega, by omega⟩)
theorem rangeD_at {lo : Int} {n i : Nat} (h : i < n) : (rangeD lo n)[i]? = some (.int (lo + i)) := by
  unfold rangeD
  rw [List.getElem?_map, List.getElem?_range h]; rfl
/-! ### words -/
abbrev Resv : List Str := ["sign", "mark", "if", "not", "all", "some", "and", "or", "end", "bottom"]
/-- a word -/
structure Vw (w : Str) : Prop where
  lo : 1 ≤ w.cps.size
  hi : w.cps.size ≤ 8
  ab : ∀ x ∈ w.cps.toList, 97 ≤ x ∧ x ≤ 122
  nr : w ∉ Resv
theorem abyz_az {x : Nat} (h : x ∈ abyz) : 97 ≤ x ∧ x ≤ 122 := by
  have : ∀ x ∈ abyz, 97 ≤ x ∧ x ≤ 122 := by decide
  exact this x h
theorem resv_out : ∀ r ∈ Resv, ∃ x ∈ r.cps.toList, x ∉ abyz := by decide
theorem vw_abyz {w : Str} (lo : 1 ≤ w.cps.size) (hi : w.cps.size ≤ 8) (ab : ∀ x ∈ w.cps.toList, x ∈ abyz) : Vw w := ⟨lo, hi, fun x h => abyz_az (ab x h), fun h => by
  obtain ⟨x, h1, h2⟩ := resv_out w h
  exact h2 (ab x h1)⟩
theorem vw_cw {j : Nat} (h : j < 26) : Vw (cw j) := by
  refine ⟨by show 1 ≤ 2; omega, by show 2 ≤ 8; omega, fun x hx => ?_, fun hr => ?_⟩
  · have : x = 99 ∨ x = 97 + j := by simpa [cw] using hx
    omega
  · have hc : ∀ r ∈ Resv, r.cps[0]? ≠ some 99 := by decide
    exact hc _ hr rfl
/-- how the words of a law came -/
inductive Wo (n : Nat) (w : Str) : Prop
  | ab (h : ∀ x ∈ w.cps.toList, x ∈ abyz) (lo : 1 ≤ w.cps.size) (hi : w.cps.size ≤ 8)
  | cw (j : Nat) (h : j < n) (e : w = cw j)
theorem Wo.ne {n : Nat} {w : Str} (h : Wo n w) {j : Nat} (hj : n ≤ j) : w ≠ VsG.cw j := by
  intro e2
  cases h with
  | ab h _ _ =>
    have := h 99 (by rw [e2]; simp [VsG.cw])
    simp at this
  | cw i hi e =>
    have := cw_inj (e.symm.trans e2)
    omega
theorem Wo.vw {n : Nat} {w : Str} (h : Wo n w) (hn : n ≤ 26) : Vw w := by
  cases h with
  | ab h lo hi => exact vw_abyz lo hi h
  | cw i hi e => subst e; exact vw_cw (by omega)
theorem Wo.mono {n n' : Nat} {w : Str} (h : Wo n w) (k : n ≤ n') : Wo n' w := by
  cases h with
  | ab h lo hi => exact .ab h lo hi
  | cw i hi e => exact .cw i (by omega) e
/-- a word is drawn; t: the words taken -/
theorem wordO_w {m : Mu} {k : Nat} {E : Px} {Q : O → Rho → Prop} {ws : List Str} {t : O} (ht : t = .fz (.list (ws.map .str)) ∨ t = .mu true (.lst (ws.map .str))) (S : Stt m k) (hk : 20 ≤ k) (hw : ws.length < 26) (hcw : ∀ u ∈ ws, u ≠ cw ws.length)
    (q : ∀ (w : Str) (m' : Mu), w ∉ ws → Wo (ws.length + 1) w → Stt m' (k - 20) → Q (.fz (.str w)) [some (.mu true m'), some t]) :
    Wp g__law_word [some (.mu true m), some t] Q E := by
  rcases ht with rfl | rfl
  · skip
    have tv : (O.fz (.list (ws.map .str))).view = .list (ws.map .str) := by rfl
    have hlen : hLen [(O.fz (.list (ws.map .str)))] = some (.fz (.int (ws.length : Int))) := by
      show some (O.fz (.int ((ws.map PyData.str).length : Int))) = _
      rw [List.length_map]
    have hin : ∀ w : Str, hIn false (.fz (.str w)) (O.fz (.list (ws.map .str))) = some (.fz (.bool (decide (w ∈ ws)))) := fun w => by
      exact in_ap
    have ok : [some (O.mu true m), some (O.fz (.list (ws.map .str)))].all okArg = true := by rfl
    unfold g__law_word
    refine w_def (ρ := [some (.mu true m), some (O.fz (.list (ws.map .str))), none, none]) rfl ok rfl ?_
    unfold f__law_word
    generalize hN : ws.length = n at *
    have hI : (fun x : Rf => x) = id := rfl
    repeat done
    with_reducible refine next_w S (by omega) (by decide) ?_
    intro r m1 r0 r1 S1
    repeat done
    with_reducible refine next_w S1 (by omega) (by decide) ?_
    intro p m2 p0 p1 S2
    obtain ⟨N, N0, N1, eN⟩ : ∃ N : Int, 1 ≤ N ∧ N ≤ 8 ∧ hIx (.mu false (.lst [.int 1, .int 2, .int (1 + r)])) (.fz (.int p)) = some (.fz (.int N)) := by
      have : p = 0 ∨ p = 1 ∨ p = 2 := by omega
      rcases this with rfl | rfl | rfl
      · exact ⟨1, by decide, by decide, rfl⟩
      · exact ⟨2, by decide, by decide, rfl⟩
      · exact ⟨1 + r, by omega, by omega, rfl⟩
    repeat done
    refine w_for (fun rest ρ => ∃ (w : Str) (mm : Mu) (y : Option O), ρ = [some (.mu true mm), some (O.fz (.list (ws.map .str))), some (.fz (.str w)), y] ∧ Free y ∧ (∀ x ∈ w.cps.toList, x ∈ abyz) ∧ (w.cps.size + rest.length : Int) = N ∧ Stt mm (k - 20 + rest.length)) ?_
      ⟨"", m2, none, rfl, free_n, (fun x hx => by have : ("" : Str).cps.toList = [] := rfl; rw [this] at hx; cases hx), by rw [rangeD_len]; have : ("" : Str).cps.size = 0 := rfl; omega, S2.le (by rw [rangeD_len]; omega)⟩ ?_
    · rintro d rest _ ⟨w, mm, y, rfl, fy, hab, hsz, S3⟩
      rw [List.length_cons] at hsz S3
      repeat done
      with_reducible refine next_w S3 (by omega) (by decide) ?_
      intro c m3 c0 c1 S4
      obtain ⟨x, hx, e4⟩ := letter4 c0 c1
      have e5 : hAdd (.fz (.str w)) (.fz (.str ⟨#[x]⟩)) = some (.fz (.str (w ++ ⟨#[x]⟩))) := by
        have hlw : w.length ≤ 8 := by show w.cps.size ≤ 8; omega
        show (if w.length + (⟨#[x]⟩ : Str).length ≤ 16777216 then some (O.fz (.str (w ++ ⟨#[x]⟩))) else none) = _
        rw [if_pos (by have : (⟨#[x]⟩ : Str).length = 1 := rfl; omega)]
      repeat done
      refine ⟨w ++ ⟨#[x]⟩, m3, some (.fz d), rfl, free_f, ?_, ?_, S4.le (by omega)⟩
      · intro z hz
        rw [show (w ++ ⟨#[x]⟩ : Str).cps = w.cps ++ #[x] from rfl] at hz
        simp at hz
        rcases hz with hz | hz
        · exact hab z (by simpa using hz)
        · rw [hz]; exact hx
      · rw [show (w ++ ⟨#[x]⟩ : Str).cps = w.cps ++ #[x] from rfl, Array.size_append]
        have : (#[x] : Array Nat).size = 1 := rfl
        omega
    rintro _ ⟨w, mm, y, rfl, fy, hab, hsz, S3⟩
    rw [List.length_nil] at hsz S3
    have hi := hin w
    by_cases hm : w ∈ ws
    · rw [decide_eq_true hm] at hi
      obtain ⟨z, z1, z2⟩ := cw_at hw
      subst hN
      repeat done
      exact (q _ mm (fun h => hcw _ h rfl) (.cw _ (Nat.lt_succ_self _) rfl) (S3.le (by omega)))
    · rw [decide_eq_false hm] at hi
      repeat done
      exact (q _ mm hm (.ab hab (by omega) (by omega)) (S3.le (by omega)))
  · skip
    have tv : (O.mu true (.lst (ws.map .str))).view = .list (ws.map .str) := by rfl
    have hlen : hLen [(O.mu true (.lst (ws.map .str)))] = some (.fz (.int (ws.length : Int))) := by
      show some (O.fz (.int ((ws.map PyData.str).length : Int))) = _
      rw [List.length_map]
    have hin : ∀ w : Str, hIn false (.fz (.str w)) (O.mu true (.lst (ws.map .str))) = some (.fz (.bool (decide (w ∈ ws)))) := fun w => by
      exact in_ap
    have ok : [some (O.mu true m), some (O.mu true (.lst (ws.map .str)))].all okArg = true := by rfl
    unfold g__law_word
    refine w_def (ρ := [some (.mu true m), some (O.mu true (.lst (ws.map .str))), none, none]) rfl ok rfl ?_
    unfold f__law_word
    generalize hN : ws.length = n at *
    have hI : (fun x : Rf => x) = id := rfl
    repeat done
    with_reducible refine next_w S (by omega) (by decide) ?_
    intro r m1 r0 r1 S1
    repeat done
    with_reducible refine next_w S1 (by omega) (by decide) ?_
    intro p m2 p0 p1 S2
    obtain ⟨N, N0, N1, eN⟩ : ∃ N : Int, 1 ≤ N ∧ N ≤ 8 ∧ hIx (.mu false (.lst [.int 1, .int 2, .int (1 + r)])) (.fz (.int p)) = some (.fz (.int N)) := by
      have : p = 0 ∨ p = 1 ∨ p = 2 := by omega
      rcases this with rfl | rfl | rfl
      · exact ⟨1, by decide, by decide, rfl⟩
      · exact ⟨2, by decide, by decide, rfl⟩
      · exact ⟨1 + r, by omega, by omega, rfl⟩
    repeat done
    refine w_for (fun rest ρ => ∃ (w : Str) (mm : Mu) (y : Option O), ρ = [some (.mu true mm), some (O.mu true (.lst (ws.map .str))), some (.fz (.str w)), y] ∧ Free y ∧ (∀ x ∈ w.cps.toList, x ∈ abyz) ∧ (w.cps.size + rest.length : Int) = N ∧ Stt mm (k - 20 + rest.length)) ?_
      ⟨"", m2, none, rfl, free_n, (fun x hx => by have : ("" : Str).cps.toList = [] := rfl; rw [this] at hx; cases hx), by rw [rangeD_len]; have : ("" : Str).cps.size = 0 := rfl; omega, S2.le (by rw [rangeD_len]; omega)⟩ ?_
    · rintro d rest _ ⟨w, mm, y, rfl, fy, hab, hsz, S3⟩
      rw [List.length_cons] at hsz S3
      repeat done
      with_reducible refine next_w S3 (by omega) (by decide) ?_
      intro c m3 c0 c1 S4
      obtain ⟨x, hx, e4⟩ := letter4 c0 c1
      have e5 : hAdd (.fz (.str w)) (.fz (.str ⟨#[x]⟩)) = some (.fz (.str (w ++ ⟨#[x]⟩))) := by
        have hlw : w.length ≤ 8 := by show w.cps.size ≤ 8; omega
        show (if w.length + (⟨#[x]⟩ : Str).length ≤ 16777216 then some (O.fz (.str (w ++ ⟨#[x]⟩))) else none) = _
        rw [if_pos (by have : (⟨#[x]⟩ : Str).length = 1 := rfl; omega)]
      repeat done
      refine ⟨w ++ ⟨#[x]⟩, m3, some (.fz d), rfl, free_f, ?_, ?_, S4.le (by omega)⟩
      · intro z hz
        rw [show (w ++ ⟨#[x]⟩ : Str).cps = w.cps ++ #[x] from rfl] at hz
        simp at hz
        rcases hz with hz | hz
        · exact hab z (by simpa using hz)
        · rw [hz]; exact hx
      · rw [show (w ++ ⟨#[x]⟩ : Str).cps = w.cps ++ #[x] from rfl, Array.size_append]
        have : (#[x] : Array Nat).size = 1 := rfl
        omega
    rintro _ ⟨w, mm, y, rfl, fy, hab, hsz, S3⟩
    rw [List.length_nil] at hsz S3
    have hi := hin w
    by_cases hm : w ∈ ws
    · rw [decide_eq_true hm] at hi
      obtain ⟨z, z1, z2⟩ := cw_at hw
      subst hN
      repeat done
      exact (q _ mm (fun h => hcw _ h rfl) (.cw _ (Nat.lt_succ_self _) rfl) (S3.le (by omega)))
    · rw [decide_eq_false hm] at hi
      repeat done
      exact (q _ mm hm (.ab hab (by omega) (by omega)) (S3.le (by omega)))
/-! data of words, numbers, truth values, tuples, lists -/
structure Nd (d : PyData) (W D : Nat) : Prop where
  sm : Sm d W D
  cl : d.canLay0 = true
theorem Nd.mono {d : PyData} {W D W' D' : Nat} (h : Nd d W D) (a : W ≤ W') (b : D ≤ D') : Nd d W' D' := ⟨h.sm.mono a b, h.cl⟩
theorem nd_strn {w : Str} {n : Nat} (h : ∀ c ∈ w.cps.toList, c < 0x110000) (hl : w.cps.size ≤ n) : Nd (.str w) n 0 := ⟨sm_str (fun c hc => by have := h c hc; omega) hl, by
  show w.cps.all (· < 0x110000) = true
  rw [Array.all_eq_true_iff_forall_mem]
  intro x hx
  exact decide_eq_true (h x (by simpa using hx))⟩
theorem nd_str {w : Str} (h : Vw w) : Nd (.str w) 8 0 := nd_strn (fun c hc => by have := h.ab c hc; omega) h.hi
theorem nd_int {i : Int} (h0 : 0 ≤ i) (h1 : i < 100) : Nd (.int i) 8 0 := ⟨(sm_int h0 h1).mono (by omega) (Nat.le_refl _), rfl⟩
theorem nd_bool {b : Bool} : Nd (.bool b) 8 0 := ⟨⟨rfl, rfl, rfl, Nat.le_refl _, Nat.zero_le _⟩, rfl⟩
theorem canL_all : ∀ {ds : List PyData}, (∀ d ∈ ds, d.canLay0 = true) → PyData.canLayAll0 ds = true
  | [], _ => rfl
  | d :: ds, h => by
    show (PyData.canLay0 d && PyData.canLayAll0 ds) = true
    rw [h d List.mem_cons_self, canL_all fun x hx => h x (List.mem_cons_of_mem _ hx)]; rfl
theorem nd_tup {ds : List PyData} {W D n : Nat} (h : ∀ d ∈ ds, Nd d W D) (hl : ds.length ≤ n) : Nd (.tuple ds) (n * (W + 1)) (D + 1) :=
  ⟨sm_tup (fun d hd => (h d hd).sm) hl, by
    show PyData.canLayAll0 ds = true
    exact canL_all fun d hd => (h d hd).cl⟩
theorem Nd.deep {d : PyData} {W D : Nat} (h : Nd d W D) (hD : D ≤ 150) : deepD d = true := by
  unfold deepD
  rw [h.cl, decide_eq_true (Nat.le_trans h.sm.dp hD)]; rfl
theorem nd_repr {d : O} {W D : Nat} (h : Nd d.view W D) (hD : D ≤ 150) (hW : W ≤ 1000000) : hRepr [d] = some (.fz (.str (PyData.shown d.view))) := hRepr_ap h.sm hD hW
theorem nd_eq {a b : O} {W D W' D' : Nat} (h : Nd a.view W D) (k : Nd b.view W' D') (hD : D ≤ 150) (hD' : D' ≤ 150) : hEq a b = some (.fz (.bool (PyData.eqv a.view b.view))) := by
  unfold hEq
  rw [if_pos (by rw [h.deep hD, k.deep hD']; simp)]
theorem nd_ne {a b : O} {W D W' D' : Nat} (h : Nd a.view W D) (k : Nd b.view W' D') (hD : D ≤ 150) (hD' : D' ≤ 150) : hNe a b = some (.fz (.bool (!PyData.eqv a.view b.view))) := by
  unfold hNe
  rw [if_pos (by rw [h.deep hD, k.deep hD']; simp)]
theorem nd_self {d : PyData} {W D : Nat} (h : Nd d W D) : PyData.eqv d d = true := PySem.SeqAt.eqv_refl d h.cl
theorem nd_in {neg : Bool} {d : PyData} {b : O} {ds : List PyData} {W D : Nat} (hb : b.view = .list ds ∨ b.view = .tuple ds) (h : Nd d W D) (k : ∀ e ∈ ds, Nd e W D) (hD : D ≤ 150) : hIn neg (.fz d) b = some (.fz (.bool (if neg then !memD d ds else memD d ds))) := by
  have hc : (flatD d && ds.all flatD || deepD d && deepL ds) = true := by
    have : deepL ds = true := by
      unfold deepL
      rw [canL_all fun e he => (k e he).cl, decide_eq_true (Nat.le_trans (sm_all fun e he => (k e he).sm).2.2.2.1 hD)]; rfl
    rw [h.deep hD, this]; simp
  have : inD d b.view = some (memD d ds) := by
    rcases hb with hb | hb
    · rw [hb]
      show (if (flatD d && ds.all flatD || deepD d && deepL ds) = true then some (memD d ds) else none) = _
      rw [if_pos hc]
    · rw [hb]
      show (if (flatD d && ds.all flatD || deepD d && deepL ds) = true then some (memD d ds) else none) = _
      rw [if_pos hc]
  unfold hIn
  rw [show (O.fz d).view = d from rfl, this]
  rfl
/-- data on which equality of Python is equality (b: truth values, else numbers) -/
inductive Ce (b : Bool) : PyData → Prop
  | str (x : Str) : Ce b (.str x)
  | bool (x : Bool) : b = true → Ce b (.bool x)
  | int (x : Int) : b = false → Ce b (.int x)
  | tup {ds : List PyData} : (∀ d ∈ ds, Ce b d) → Ce b (.tuple ds)
mutual
theorem ce_eqv {b : Bool} : ∀ (d e : PyData), Ce b d → Ce b e → (PyData.eqv d e = true ↔ d = e)
  | .str x, .str y, _, _ => by simp [PyData.eqv]
  | .bool x, .bool y, _, _ => by simp [PyData.eqv]
  | .int x, .int y, _, _ => by simp [PyData.eqv]
  | .tuple ds, .tuple es, h, k => by
    cases h with
    | tup h =>
      cases k with
      | tup k =>
        have := ce_eqvA (b := b) ds es h k
        show PyData.eqvAll ds es = true ↔ _
        rw [this]
        exact ⟨fun z => by rw [z], fun z => by injection z⟩
  | .bool x, .int y, h, k => by cases h with | bool _ h => cases k with | int _ k => rw [h] at k; cases k
  | .int x, .bool y, h, k => by cases h with | int _ h => cases k with | bool _ k => rw [h] at k; cases k
  | .str x, .bool y, _, _ => by simp [PyData.eqv]
  | .str x, .int y, _, _ => by simp [PyData.eqv]
  | .str x, .tuple y, _, _ => by simp [PyData.eqv]
  | .bool x, .str y, _, _ => by simp [PyData.eqv]
  | .bool x, .tuple y, _, _ => by simp [PyData.eqv]
  | .int x, .str y, _, _ => by simp [PyData.eqv]
  | .int x, .tuple y, _, _ => by simp [PyData.eqv]
  | .tuple x, .str y, _, _ => by simp [PyData.eqv]
  | .tuple x, .bool y, _, _ => by simp [PyData.eqv]
  | .tuple x, .int y, _, _ => by simp [PyData.eqv]
  | .none, _, h, _ => nomatch h
  | .list _, _, h, _ => nomatch h
  | .dict _, _, h, _ => nomatch h
  | _, .none, _, k => nomatch k
  | _, .list _, _, k => nomatch k
  | _, .dict _, _, k => nomatch k
theorem ce_eqvA {b : Bool} : ∀ (ds es : List PyData), (∀ d ∈ ds, Ce b d) → (∀ d ∈ es, Ce b d) → (PyData.eqvAll ds es = true ↔ ds = es)
  | [], [], _, _ => by simp [PyData.eqvAll]
  | [], e :: es, _, _ => by simp [PyData.eqvAll]
  | d :: ds, [], _, _ => by simp [PyData.eqvAll]
  | d :: ds, e :: es, h, k => by
    have h1 := ce_eqv d e (h d List.mem_cons_self) (k e List.mem_cons_self)
    have h2 := ce_eqvA ds es (fun x hx => h x (List.mem_cons_of_mem _ hx)) (fun x hx => k x (List.mem_cons_of_mem _ hx))
    show (PyData.eqv d e && PyData.eqvAll ds es) = true ↔ _
    rw [Bool.and_eq_true, h1, h2]
    simp
end
theorem ce_bool {b : Bool} {d e : PyData} (h : Ce b d) (k : Ce b e) {p : Prop} [Decidable p] (hp : d = e ↔ p) : PyData.eqv d e = decide p := by
  have := ce_eqv d e h k
  by_cases z : p
  · rw [decide_eq_true z, this.mpr (hp.mpr z)]
  · rw [decide_eq_false z, Bool.eq_false_iff]
    exact fun y => z (hp.mp (this.mp y))
theorem ce_mem {b : Bool} {α : Type} [DecidableEq α] {G : α → PyData} (inj : ∀ x y, G x = G y → x = y) (ce : ∀ x, Ce b (G x)) {x : α} : ∀ {xs : List α}, memD (G x) (xs.map G) = decide (x ∈ xs)
  | [] => by simp [memD]
  | y :: xs => by
    have ih := ce_mem inj ce (x := x) (xs := xs)
    show (PyData.eqv (G y) (G x) || memD (G x) (xs.map G)) = _
    rw [ih, ce_bool (ce y) (ce x) (p := y = x) ⟨inj _ _, fun h => by rw [h]⟩]
    by_cases z : y = x
    · subst z; simp
    · have : x ≠ y := fun h => z h.symm
      simp [z, this]
/-! is_word -/
theorem in_tup {w : Str} {ws : List Str} : hIn false (.fz (.str w)) (.fz (.tuple (ws.map .str))) = some (.fz (.bool (decide (w ∈ ws)))) := by
  rw [← in_ap]; rfl
theorem letter_in : ∀ {x : Nat}, 97 ≤ x → x ≤ 122 → hIn false (.fz (.str ⟨#[x]⟩)) (.fz (.str "abcdefghijklmnopqrstuvwxyz")) = some (.fz (.bool true)) := by
  have key : ∀ i : _root_.Fin 26, (Builtin.Str.occurrences ("abcdefghijklmnopqrstuvwxyz" : Str) ⟨#[97 + i.val]⟩ 0 ("abcdefghijklmnopqrstuvwxyz" : Str).length 1).isEmpty = false := by decide +kernel
  intro x h0 h1
  have := key ⟨x - 97, by omega⟩
  rw [show 97 + (x - 97) = x by omega] at this
  show some (O.fz (.bool (!(Builtin.Str.occurrences ("abcdefghijklmnopqrstuvwxyz" : Str) ⟨#[x]⟩ 0 ("abcdefghijklmnopqrstuvwxyz" : Str).length 1).isEmpty))) = _
  rw [this]; rfl
theorem boolsD_map : ∀ bs : List Bool, boolsD (bs.map .bool) = some bs
  | [] => rfl
  | b :: bs => by simp [boolsD, boolsD_map bs]
theorem hAll_ap {bs : List Bool} {b : Bool} : hAll [.mu b (.lst (bs.map .bool))] = some (.fz (.bool (bs.all id))) := by
  show (boolsD (bs.map .bool)).map (fun ns => O.fz (.bool (ns.all id))) = _
  rw [boolsD_map]; rfl
theorem hAny_ap {bs : List Bool} {b : Bool} : hAny [.mu b (.lst (bs.map .bool))] = some (.fz (.bool (bs.any id))) := by
  show (boolsD (bs.map .bool)).map (fun ns => O.fz (.bool (ns.any id))) = _
  rw [boolsD_map]; rfl
theorem hAll_F {α : Type} {xs : List α} {G : α → PyData} {b : Bool} {F : PyData → PyData} {p : α → Bool} (h : ∀ x ∈ xs, F (G x) = .bool (p x)) : hAll [.mu b (.lst ((xs.map G).map F))] = some (.fz (.bool (xs.all p))) := by
  have : (xs.map G).map F = (xs.map p).map .bool := by
    rw [List.map_map, List.map_map]
    exact List.map_congr_left h
  rw [this, hAll_ap, List.all_map]; rfl
theorem hAny_F {α : Type} {xs : List α} {G : α → PyData} {b : Bool} {F : PyData → PyData} {p : α → Bool} (h : ∀ x ∈ xs, F (G x) = .bool (p x)) : hAny [.mu b (.lst ((xs.map G).map F))] = some (.fz (.bool (xs.any p))) := by
  have : (xs.map G).map F = (xs.map p).map .bool := by
    rw [List.map_map, List.map_map]
    exact List.map_congr_left h
  rw [this, hAny_ap, List.any_map]; rfl
theorem hAll_true {ds : List PyData} {b : Bool} {F : PyData → PyData} (h : ∀ d ∈ ds, F d = .bool true) : hAll [.mu b (.lst (ds.map F))] = some (.fz (.bool true)) := by
  have : ds.map F = (ds.map fun _ => true).map .bool := by
    rw [List.map_map]
    exact List.map_congr_left h
  rw [this, hAll_ap]
  have : (ds.map fun _ => true).all id = true := by simp
  rw [this]
theorem hAny_false {ds : List PyData} {b : Bool} {F : PyData → PyData} (h : ∀ d ∈ ds, F d = .bool false) : hAny [.mu b (.lst (ds.map F))] = some (.fz (.bool false)) := by
  have : ds.map F = (ds.map fun _ => false).map .bool := by
    rw [List.map_map]
    exact List.map_congr_left h
  rw [this, hAny_ap]
  have : (ds.map fun _ => false).any id = false := by simp
  rw [this]
/-! games -/
abbrev Mv := Str × Str × Str × List Str
structure Gm where
  st : List (Str × Int)
  le : List Str
  mv : List Mv
  go : List (Str × Bool)
def mvD (m : Mv) : PyData := .tuple [.str m.1, .str m.2.1, .str m.2.2.1, .tuple (m.2.2.2.map .str)]
def goD (g : Str × Bool) : PyData := .tuple [.str g.1, .bool g.2]
abbrev nmG (g : Gm) : List Str := g.st.map (·.1)
def gmD (g : Gm) : PyData := .tuple [.tuple (sgD g.st), .tuple (g.le.map .str), .tuple (g.mv.map mvD), .tuple (g.go.map goD)]
theorem str_inj {a b : List Str} (h : a.map PyData.str = b.map PyData.str) : a = b := by
  induction a generalizing b with
  | nil => cases b with
    | nil => rfl
    | cons y b => cases h
  | cons x a ih => cases b with
    | nil => cases h
    | cons y b =>
      injection h with h1 h2
      injection h1 with h1
      rw [h1, ih h2]
theorem mvD_inj : ∀ x y : Mv, mvD x = mvD y → x = y := by
  rintro ⟨a, b, c, d⟩ ⟨a', b', c', d'⟩ h
  unfold mvD at h
  injection h with h
  injection h with h1 h
  injection h with h2 h
  injection h with h3 h
  injection h with h4 h
  injection h1 with h1
  injection h2 with h2
  injection h3 with h3
  injection h4 with h4
  simp only at h1 h2 h3 h4
  rw [h1, h2, h3, str_inj h4]
theorem goD_inj : ∀ x y : Str × Bool, goD x = goD y → x = y := by
  rintro ⟨a, b⟩ ⟨a', b'⟩ h
  unfold goD at h
  injection h with h
  injection h with h1 h
  injection h with h2 h
  injection h1 with h1
  injection h2 with h2
  simp only at h1 h2
  rw [h1, h2]
theorem mvD_ce (m : Mv) : Ce true (mvD m) := .tup fun d hd => by
  rcases List.mem_cons.mp hd with rfl | hd
  · exact .str _
  rcases List.mem_cons.mp hd with rfl | hd
  · exact .str _
  rcases List.mem_cons.mp hd with rfl | hd
  · exact .str _
  rcases List.mem_cons.mp hd with rfl | hd
  · refine .tup fun d hd => ?_
    obtain ⟨x, _, rfl⟩ := List.mem_map.mp hd
    exact .str x
  · cases hd
theorem goD_ce (m : Str × Bool) : Ce true (goD m) := .tup fun d hd => by
  rcases List.mem_cons.mp hd with rfl | hd
  · exact .str _
  rcases List.mem_cons.mp hd with rfl | hd
  · exact .bool _ rfl
  · cases hd
theorem goD_nd {m : Str × Bool} (h : Vw m.1) : Nd (goD m) 18 1 := nd_tup (W := 8) (D := 0) (n := 2) (fun d hd => by
  rcases List.mem_cons.mp hd with rfl | hd
  · exact nd_str h
  rcases List.mem_cons.mp hd with rfl | hd
  · exact nd_bool
  · cases hd) (by simp)
theorem strs_nd {ws : List Str} {n : Nat} (h : ∀ w ∈ ws, Vw w) (hl : ws.length ≤ n) : Nd (.tuple (ws.map .str)) (n * 9) 1 := nd_tup (W := 8) (D := 0) (n := n) (fun d hd => by
  obtain ⟨x, hx, rfl⟩ := List.mem_map.mp hd
  exact nd_str (h x hx)) (by rw [List.length_map]; exact hl)
theorem mvD_nd {m : Mv} (h1 : Vw m.1) (h2 : Vw m.2.1) (h3 : Vw m.2.2.1) (h4 : ∀ w ∈ m.2.2.2, Vw w) (h5 : m.2.2.2.length ≤ 2) : Nd (mvD m) 76 2 := nd_tup (W := 18) (D := 1) (n := 4) (fun d hd => by
  rcases List.mem_cons.mp hd with rfl | hd
  · exact (nd_str h1).mono (by omega) (by omega)
  rcases List.mem_cons.mp hd with rfl | hd
  · exact (nd_str h2).mono (by omega) (by omega)
  rcases List.mem_cons.mp hd with rfl | hd
  · exact (nd_str h3).mono (by omega) (by omega)
  rcases List.mem_cons.mp hd with rfl | hd
  · exact (strs_nd h4 h5)
  · cases hd) (by simp)
/-- a word that does not begin with q -/
def Nq (w : Str) : Prop := w.cps[0]? ≠ some 113
theorem Wo.nq {n : Nat} {w : Str} (h : Wo n w) : Nq w := by
  intro e
  cases h with
  | ab h lo hi =>
    have h0 : 0 < w.cps.size := lo
    rw [Array.getElem?_eq_getElem h0] at e
    injection e with e
    have := h w.cps[0] (by simp)
    rw [e] at this
    revert this
    decide
  | cw j hj e2 =>
    rw [e2] at e
    have : (VsG.cw j).cps[0]? = some 99 := rfl
    rw [this] at e
    cases e
/-- the second player's states -/
def secS (st : List (Str × Int)) : List Str := (st.filter fun p => decide (p.2 = 1)).map (·.1)
structure GmOk (g : Gm) : Prop where
  s1 : 1 ≤ g.st.length
  s6 : g.st.length ≤ 6
  l1 : 1 ≤ g.le.length
  l3 : g.le.length ≤ 3
  wd : ∀ w ∈ nmG g ++ g.le, Vw w
  nd : (nmG g ++ g.le).Nodup
  nq : ∀ w ∈ nmG g ++ g.le, Nq w
  pl : ∀ p ∈ g.st, p.2 = 0 ∨ p.2 = 1
  mv : ∀ m ∈ g.mv, m.1 ∈ nmG g ∧ m.2.1 ∈ g.le ∧ m.2.2.1 ∈ nmG g ∧ m.2.2.2.length ≤ 2 ∧ ∀ w ∈ m.2.2.2, w ∈ g.le
  mn : g.mv.Nodup
  ml : g.mv.length ≤ 40
  go : ∀ p ∈ g.go, p.1 ∈ nmG g
  gn : g.go.Nodup
  gl : g.go.length ≤ 6
  mb : ∀ p ∈ g.st, p.2 = 1 → ∀ l ∈ g.le, (g.mv.filter fun m => decide (m.1 = p.1 ∧ m.2.1 = l)).length ≤ 4
  sz : g.go.length + (secS g.st).length * (g.le.length + 1) + (g.mv.filter fun m => decide (m.1 ∉ secS g.st)).length ≤ 24
theorem hIx_last {b : Bool} {ds : List PyData} {d : PyData} : hIx (.mu b (.lst (ds ++ [d]))) (.fz (.int (-1))) = some (.fz d) := by
  show (atI (ds ++ [d]) (-1)).map O.fz = _
  have : ixN (ds ++ [d]).length (-1) = some ds.length := by
    unfold ixN
    rw [if_neg (by decide), List.length_append, List.length_singleton]
    have h : (-1 : Int) + ((ds.length + 1 : Nat) : Int) = (ds.length : Int) := by omega
    simp only [h]
    split
    · simp
    · omega
  unfold atI
  rw [this]
  simp
theorem hIx_st {st : List (Str × Int)} {b : Bool} {r : Int} (h0 : 0 ≤ r) (h1 : r < st.length) : ∃ p ∈ st, hIx (.mu b (.lst (sgD st))) (.fz (.int r)) = some (.fz (.tuple [.str p.1, .int p.2])) := by
  obtain ⟨d, e, hd⟩ := hIx_lt (a := .mu b (.lst (sgD st))) (ds := sgD st) (.inl rfl) h0 (by rw [List.length_map]; exact h1)
  obtain ⟨p, hp, rfl⟩ := List.mem_map.mp hd
  exact ⟨p, hp, e⟩
theorem hIx_ws {ws : List Str} {b : Bool} {r : Int} (h0 : 0 ≤ r) (h1 : r < ws.length) : ∃ p ∈ ws, hIx (.mu b (.lst (ws.map .str))) (.fz (.int r)) = some (.fz (.str p)) := by
  obtain ⟨d, e, hd⟩ := hIx_lt (a := .mu b (.lst (ws.map .str))) (ds := ws.map .str) (.inl rfl) h0 (by rw [List.length_map]; exact h1)
  obtain ⟨p, hp, rfl⟩ := List.mem_map.mp hd
  exact ⟨p, hp, e⟩
/-- the words that are taken: all words, none of them the next one of cw -/
structure Tk (ws : List Str) : Prop where
  nd : ws.Nodup
  vw : ∀ w ∈ ws, Vw w
  cw : ∀ w ∈ ws, ∀ j, ws.length ≤ j → w ≠ cw j
  nq : ∀ w ∈ ws, Nq w
theorem Tk.nil : Tk [] := ⟨List.nodup_nil, (fun _ h => absurd h List.not_mem_nil), (fun _ h => absurd h List.not_mem_nil), (fun _ h => absurd h List.not_mem_nil)⟩
theorem Tk.add {ws : List Str} (h : Tk ws) {w : Str} (h1 : w ∉ ws) (h2 : Vw w) (h3 : ∀ j, ws.length + 1 ≤ j → w ≠ VsG.cw j) (h4 : Nq w) : Tk (ws ++ [w]) := by
  refine ⟨?_, fun u hu => ?_, fun u hu j hj => ?_, fun u hu => ?_⟩
  · rw [List.nodup_append]
    exact ⟨h.nd, by simp, fun a ha b hb e => h1 (by rw [List.mem_singleton.mp hb] at e; rw [← e]; exact ha)⟩
  · rcases List.mem_append.mp hu with hu | hu
    · exact h.vw u hu
    · rw [List.mem_singleton.mp hu]; exact h2
  · rw [List.length_append, List.length_singleton] at hj
    rcases List.mem_append.mp hu with hu | hu
    · exact h.cw u hu j (by omega)
    · rw [List.mem_singleton.mp hu]; exact h3 j hj
  · rcases List.mem_append.mp hu with hu | hu
    · exact h.nq u hu
    · rw [List.mem_singleton.mp hu]; exact h4
theorem Tk.wo {ws : List Str} (h : Tk ws) (hl : ws.length < 26) {w : Str} (h1 : w ∉ ws) (h2 : Wo (ws.length + 1) w) : Tk (ws ++ [w]) := h.add h1 (h2.vw (by omega)) (fun j hj => h2.ne hj) h2.nq
theorem xyzw_at {r : Int} (h0 : 0 ≤ r) (h1 : r < 4) : ∃ u : Str, Vw u ∧ (∀ j, u ≠ cw j) ∧ Nq u ∧ hIx (.fz (.str "xyzw")) (.fz (.int r)) = some (.fz (.str u)) := by
  have nc : ∀ x j, (⟨#[x]⟩ : Str) ≠ cw j := fun x j h => by
    have := congrArg (fun w : Str => w.cps.size) h
    cases this
  have nqx : ∀ x : Nat, x ≠ 113 → Nq ⟨#[x]⟩ := fun x h e => h (by injection e)
  have v : ∀ i : _root_.Fin 4, 1 ≤ ((["x", "y", "z", "w"] : List Str).getD i.val "").cps.size ∧ ((["x", "y", "z", "w"] : List Str).getD i.val "").cps.size ≤ 8 ∧ (∀ x ∈ ((["x", "y", "z", "w"] : List Str).getD i.val "").cps.toList, 97 ≤ x ∧ x ≤ 122) ∧ ((["x", "y", "z", "w"] : List Str).getD i.val "") ∉ Resv := by decide
  have : r = 0 ∨ r = 1 ∨ r = 2 ∨ r = 3 := by omega
  rcases this with rfl | rfl | rfl | rfl
  · exact ⟨"x", ⟨(v 0).1, (v 0).2.1, (v 0).2.2.1, (v 0).2.2.2⟩, nc 120, nqx 120 (by decide), rfl⟩
  · exact ⟨"y", ⟨(v 1).1, (v 1).2.1, (v 1).2.2.1, (v 1).2.2.2⟩, nc 121, nqx 121 (by decide), rfl⟩
  · exact ⟨"z", ⟨(v 2).1, (v 2).2.1, (v 2).2.2.1, (v 2).2.2.2⟩, nc 122, nqx 122 (by decide), rfl⟩
  · exact ⟨"w", ⟨(v 3).1, (v 3).2.1, (v 3).2.2.1, (v 3).2.2.2⟩, nc 119, nqx 119 (by decide), rfl⟩
theorem hMul_small {P M : Int} (hP : P = 0 ∨ P = 1) (h0 : 0 ≤ M) (h1 : M ≤ 10) : hI cMul (fun i j => i * j) (.fz (.int P)) (.fz (.int M)) = some (.fz (.int (P * M))) := by
  have : cMul P M = true := cMul_of (a := 2) (b := 4) (by rcases hP with rfl | rfl <;> decide) (by omega) (by decide) (by decide) (by decide)
  show (if cMul P M = true then some (O.fz (.int (P * M))) else none) = _
  rw [if_pos this]
theorem secS_add {st : List (Str × Int)} {w : Str} {P : Int} (hP : P = 0 ∨ P = 1) : ((secS (st ++ [(w, P)])).length : Int) = (secS st).length + P := by
  unfold secS
  rw [List.filter_append]
  rcases hP with rfl | rfl
  · simp
  · simp
abbrev gs1 (mm : Mu) (most M R : Int) (ws : List Str) (st : List (Str × Int)) (y6 y7 : Option O) : Rho :=
  [some (.mu true mm), some (.fz (.int most)), some (.fz (.int M)), some (.fz (.int R)), some (.mu false (.lst (ws.map .str))), some (.mu false (.lst (sgD st))), y6, y7, none, none, none, none, none, none, none, none, none, none, none, none]
/-- the states are drawn -/
structure St1 (ws : List Str) (st : List (Str × Int)) (M R : Int) : Prop where
  ew : ws = st.map (·.1)
  tk : Tk ws
  pl : ∀ p ∈ st, p.2 = 0 ∨ p.2 = 1
  rm : R + (secS st).length * (M + 1) = 24
  r8 : 8 ≤ R
theorem St1.add {ws : List Str} {st : List (Str × Int)} {M R : Int} (h : St1 ws st M R) (hl : ws.length < 26) {w : Str} {P : Int} (h1 : w ∉ ws) (h2 : Wo (ws.length + 1) w) (hP : P = 0 ∨ P = 1) (hR : P = 1 → 8 < R - M) : St1 (ws ++ [w]) (st ++ [(w, P)]) M (R - P * (M + 1)) := by
  refine ⟨by rw [h.ew]; simp, h.tk.wo hl h1 h2, fun p hp => ?_, ?_, ?_⟩
  · rcases List.mem_append.mp hp with hp | hp
    · exact h.pl p hp
    · rw [List.mem_singleton.mp hp]; exact hP
  · rw [secS_add hP]
    have := h.rm
    rw [Int.add_mul]
    omega
  · have := h.r8
    rcases hP with rfl | rfl
    · omega
    · have := hR rfl; omega
/-- .. and the letters -/
structure St2 (st : List (Str × Int)) (ls : List Str) : Prop where
  tk : Tk (st.map (·.1) ++ ls)
theorem St2.add {st : List (Str × Int)} {ls : List Str} (h : St2 st ls) {w : Str} (h1 : w ∉ st.map (·.1) ++ ls) (h2 : Vw w) (h3 : ∀ j, (st.map (·.1) ++ ls).length + 1 ≤ j → w ≠ cw j) (h4 : Nq w) : St2 st (ls ++ [w]) := ⟨by
  rw [← List.append_assoc]
  exact h.tk.add h1 h2 h3 h4⟩
abbrev gs2 (mm : Mu) (most M R : Int) (ws : List Str) (st : List (Str × Int)) (y6 y7 : Option O) (ls : List Str) (y9 y10 : Option O) : Rho :=
  [some (.mu true mm), some (.fz (.int most)), some (.fz (.int M)), some (.fz (.int R)), some (.mu false (.lst (ws.map .str))), some (.mu false (.lst (sgD st))), y6, y7, some (.mu false (.lst (ls.map .str))), y9, y10, none, none, none, none, none, none, none, none, none]
/-- .. and the goals -/
structure St3 (st : List (Str × Int)) (gs : List (Str × Bool)) : Prop where
  go : ∀ p ∈ gs, p.1 ∈ st.map (·.1)
  nd : gs.Nodup
abbrev gs3 (mm : Mu) (most M R : Int) (tk : List PyData) (st : List (Str × Int)) (y6 y7 : Option O) (ls : List Str) (y9 y10 : Option O) (gs : List (Str × Bool)) (y12 : Option O) : Rho :=
  [some (.mu true mm), some (.fz (.int most)), some (.fz (.int M)), some (.fz (.int R)), some (.mu false (.lst tk)), some (.mu false (.lst (sgD st))), y6, y7, some (.mu false (.lst (ls.map .str))), y9, y10, some (.mu false (.lst (gs.map goD))), y12, none, none, none, none, none, none, none]
/-- .. and the moves -/
structure St4 (st : List (Str × Int)) (ls : List Str) (ng : Nat) (mv : List Mv) (M R : Int) : Prop where
  mo : ∀ m ∈ mv, m.1 ∈ st.map (·.1) ∧ m.2.1 ∈ ls ∧ m.2.2.1 ∈ st.map (·.1) ∧ m.2.2.2.length ≤ 2 ∧ ∀ w ∈ m.2.2.2, w ∈ ls
  mn : mv.Nodup
  mb : ∀ p ∈ st, p.2 = 1 → ∀ l ∈ ls, (mv.filter fun m => decide (m.1 = p.1 ∧ m.2.1 = l)).length ≤ 4
  sz : R + ng + (secS st).length * (M + 1) + (mv.filter fun m => decide (m.1 ∉ secS st)).length = 24
  r0 : 0 ≤ R
abbrev gs4 (mm : Mu) (most M R : Int) (tk : List PyData) (st : List (Str × Int)) (y6 y7 : Option O) (ls : List Str) (y9 y10 : Option O) (gs : List (Str × Bool)) (y12 : Option O) (mv : List Mv) (y14 y15 y16 y17 : Option O) : Rho :=
  [some (.mu true mm), some (.fz (.int most)), some (.fz (.int M)), some (.fz (.int R)), some (.mu false (.lst tk)), some (.mu false (.lst (sgD st))), y6, y7, some (.mu false (.lst (ls.map .str))), y9, y10, some (.mu false (.lst (gs.map goD))), y12, some (.mu false (.lst (mv.map mvD))), y14, y15, y16, y17, none, none]
theorem sec_iff {st : List (Str × Int)} (nd : (st.map (·.1)).Nodup) {p : Str × Int} (hp : p ∈ st) : p.1 ∈ secS st ↔ p.2 = 1 := by
  unfold secS
  constructor
  · intro h
    obtain ⟨q, hq, e⟩ := List.mem_map.mp h
    obtain ⟨h1, h2⟩ := List.mem_filter.mp hq
    have : q = p := by
      clear h hq h2
      induction st with
      | nil => cases hp
      | cons x st ih =>
        rw [List.map_cons, List.nodup_cons] at nd
        rcases List.mem_cons.mp hp with e1 | hp2
        · rcases List.mem_cons.mp h1 with e2 | h12
          · rw [e1, e2]
          · exact (nd.1 (List.mem_map.mpr ⟨q, h12, by rw [e, e1]⟩)).elim
        · rcases List.mem_cons.mp h1 with e2 | h12
          · exact (nd.1 (List.mem_map.mpr ⟨p, hp2, by rw [← e, e2]⟩)).elim
          · exact ih nd.2 hp2 h12
    rw [this] at h2
    exact of_decide_eq_true h2
  · intro h
    exact List.mem_map.mpr ⟨p, List.mem_filter.mpr ⟨hp, decide_eq_true h⟩, rfl⟩
theorem St4.add {st : List (Str × Int)} {ls : List Str} {ng : Nat} {mv : List Mv} {M R : Int} (h : St4 st ls ng mv M R) (nd : (st.map (·.1)).Nodup) {p : Str × Int} (hp : p ∈ st) (pl : p.2 = 0 ∨ p.2 = 1) {l a : Str} {w : List Str} (hl : l ∈ ls) (ha : a ∈ st.map (·.1)) (hw : w.length ≤ 2) (hw2 : ∀ u ∈ w, u ∈ ls)
    (h1 : (p.1, l, a, w) ∉ mv) (h2 : 0 < R ∨ p.2 = 1) (h3 : (mv.filter fun m => decide (m.1 = p.1 ∧ m.2.1 = l)).length < 4 ∨ p.2 = 0) : St4 st ls ng (mv ++ [(p.1, l, a, w)]) M (R - 1 + p.2) := by
  have hpm : p.1 ∈ st.map (·.1) := List.mem_map.mpr ⟨p, hp, rfl⟩
  have hs := sec_iff nd hp
  refine ⟨fun m hm => ?_, ?_, fun q hq hq1 x hx => ?_, ?_, ?_⟩
  · rcases List.mem_append.mp hm with hm | hm
    · exact h.mo m hm
    · rw [List.mem_singleton.mp hm]; exact ⟨hpm, hl, ha, hw, hw2⟩
  · rw [List.nodup_append]
    exact ⟨h.mn, by simp, fun a ha b hb e => h1 (by rw [List.mem_singleton.mp hb] at e; rw [← e]; exact ha)⟩
  · rw [List.filter_append, List.length_append]
    have ih := h.mb q hq hq1 x hx
    by_cases e : p.1 = q.1 ∧ l = x
    · have h4 : (mv.filter fun m => decide (m.1 = q.1 ∧ m.2.1 = x)).length < 4 := by
        rcases h3 with h3 | h3
        · rw [e.1, e.2] at h3; exact h3
        · have k1 := (sec_iff nd hq).mpr hq1
          rw [← e.1] at k1
          have := hs.mp k1
          omega
      have : ([(p.1, l, a, w)].filter fun m : Mv => decide (m.1 = q.1 ∧ m.2.1 = x)).length ≤ 1 := List.length_filter_le _ _
      omega
    · have : ([(p.1, l, a, w)].filter fun m : Mv => decide (m.1 = q.1 ∧ m.2.1 = x)) = [] := by simp only [List.filter_cons, decide_eq_false e]; rfl
      rw [this]
      simp only [List.length_nil, Nat.add_zero]
      exact ih
  · have := h.sz
    rw [List.filter_append, List.length_append]
    rcases pl with e | e
    · have : p.1 ∉ secS st := fun z => by have := hs.mp z; omega
      have k : ([(p.1, l, a, w)].filter fun m : Mv => decide (m.1 ∉ secS st)).length = 1 := by simp only [List.filter_cons, decide_eq_true this]; rfl
      rw [k, e]; omega
    · have : ¬ (p.1 ∉ secS st) := fun z => z (hs.mpr e)
      have k : ([(p.1, l, a, w)].filter fun m : Mv => decide (m.1 ∉ secS st)).length = 0 := by simp only [List.filter_cons, decide_eq_false this]; rfl
      rw [k, e]; omega
  · have := h.r0
    rcases h2 with h2 | h2
    · rcases pl with e | e <;> omega
    · omega
theorem dec_any {p : Prop} (a b : Decidable p) : @decide p a = @decide p b := by congr
theorem in_mv {x : Mv} {mv : List Mv} (hx : Nd (mvD x) 76 2) (hm : ∀ m ∈ mv, Nd (mvD m) 76 2) {b : O} (hb : b.view = .list (mv.map mvD) ∨ b.view = .tuple (mv.map mvD)) : hIn true (.fz (mvD x)) b = some (.fz (.bool (decide (x ∉ mv)))) := by
  rw [nd_in hb hx (fun e he => by obtain ⟨m, h, rfl⟩ := List.mem_map.mp he; exact hm m h) (by omega), ce_mem mvD_inj mvD_ce, decide_not, if_pos rfl]
  exact congrArg (fun z => some (O.fz (.bool !z))) (dec_any _ _)
theorem in_go {x : Str × Bool} {gs : List (Str × Bool)} (hx : Nd (goD x) 18 1) (hm : ∀ m ∈ gs, Nd (goD m) 18 1) {b : O} (hb : b.view = .list (gs.map goD) ∨ b.view = .tuple (gs.map goD)) : hIn true (.fz (goD x)) b = some (.fz (.bool (decide (x ∉ gs)))) := by
  rw [nd_in hb hx (fun e he => by obtain ⟨m, h, rfl⟩ := List.mem_map.mp he; exact hm m h) (by omega), ce_mem goD_inj goD_ce, decide_not, if_pos rfl]
  exact congrArg (fun z => some (O.fz (.bool !z))) (dec_any _ _)
theorem notin_ap {w : Str} {ws : List Str} {b : Bool} : hIn true (.fz (.str w)) (.mu b (.lst (ws.map .str))) = some (.fz (.bool (decide (w ∉ ws)))) := by
  have h := in_ap (w := w) (ws := ws)
  have h2 : inD (.str w) (.list (ws.map .str)) = some (decide (w ∈ ws)) := by
    cases e : inD (.str w) (.list (ws.map .str)) with
    | none => rw [show hIn false (.fz (.str w)) (.fz (.list (ws.map .str))) = (inD (.str w) (.list (ws.map .str))).map _ from rfl, e] at h; cases h
    | some k =>
      rw [show hIn false (.fz (.str w)) (.fz (.list (ws.map .str))) = (inD (.str w) (.list (ws.map .str))).map _ from rfl, e] at h
      simp at h
      rw [h]
  show (inD (.str w) (.list (ws.map .str))).map _ = _
  rw [h2, decide_not]; rfl
theorem pair_eq {a b c d : Str} (ha : Vw a) (hb : Vw b) (hc : Vw c) (hd : Vw d) : hEq (.fz (.tuple [.str a, .str b])) (.fz (.tuple [.str c, .str d])) = some (.fz (.bool (decide (a = c ∧ b = d)))) := by
  have nd : ∀ {a b : Str}, Vw a → Vw b → Nd (.tuple [.str a, .str b]) 18 1 := fun {a b} ha hb => nd_tup (W := 8) (D := 0) (n := 2) (fun d hd => by
    rcases List.mem_cons.mp hd with rfl | hd
    · exact nd_str ha
    rcases List.mem_cons.mp hd with rfl | hd
    · exact nd_str hb
    · cases hd) (by simp)
  have ce2 : ∀ a b : Str, Ce true (.tuple [.str a, .str b]) := fun a b => .tup fun d hd => by
    rcases List.mem_cons.mp hd with rfl | hd
    · exact .str _
    rcases List.mem_cons.mp hd with rfl | hd
    · exact .str _
    · cases hd
  rw [nd_eq (a := .fz (.tuple [.str a, .str b])) (b := .fz (.tuple [.str c, .str d])) (nd ha hb) (nd hc hd) (by omega) (by omega)]
  exact congrArg (fun z => some (O.fz (.bool z))) (ce_bool (ce2 _ _) (ce2 _ _) (p := a = c ∧ b = d) (by simp))
theorem game_w {m : Mu} {k : Nat} {E : Px} {Q : O → Rho → Prop} {most : Int} (S : Stt m k) (hk : 2000 ≤ k) (h1 : 1 ≤ most) (h6 : most ≤ 6)
    (q : ∀ (g : Gm) (m' : Mu), GmOk g → Stt m' (k - 2000) → Q (.fz (gmD g)) [some (.mu true m'), some (.fz (.int most))]) :
    Wp g__law_game [some (.mu true m), some (.fz (.int most))] Q E := by
  unfold g__law_game
  done
  unfold f__law_game
  repeat done
  with_reducible refine next_w S (by omega) (by decide) ?_
  intro r m1 r0 r1 S1
  repeat done
  have M1 : 1 ≤ 1 + r := by omega
  have M3 : 1 + r ≤ 3 := by omega
  generalize 1 + r = M at *
  with_reducible refine next_w S1 (by omega) (by omega) ?_
  intro c m2 c0 c1 S2
  repeat done
  have N1 : 1 ≤ 1 + c := by omega
  have N6 : 1 + c ≤ 6 := by omega
  generalize 1 + c = N at *
  refine w_for (fun rest ρ => ∃ (mm : Mu) (R : Int) (ws : List Str) (st : List (Str × Int)) (y6 y7 : Option O), ρ = gs1 mm most M R ws st y6 y7 ∧ Free y6 ∧ Free y7 ∧ St1 ws st M R ∧ (st.length + rest.length : Int) = N ∧ Stt mm (k - 1000 + 30 * rest.length)) ?_
    ⟨m2, 24, [], [], none, none, rfl, free_n, free_n, ⟨rfl, Tk.nil, (fun _ h => absurd h List.not_mem_nil), by show (24 : Int) + ((0 : Nat) : Int) * (M + 1) = 24; simp, by decide⟩, by rw [rangeD_len]; simp; omega, S2.le (by rw [rangeD_len]; omega)⟩ ?_
  · rintro d rest _ ⟨mm, R, ws, st, y6, y7, rfl, f6, f7, I, hn, S3⟩
    rw [List.length_cons] at hn S3
    have hwl : ws.length = st.length := by rw [I.ew, List.length_map]
    repeat done
    refine wordO_w (.inr rfl) S3 (by omega) (by omega) (fun u hu => I.tk.cw u hu _ (Nat.le_refl _)) ?_
    intro w m3 hw1 hw2 S4
    have hla : hIx (.mu false (.lst (ws.map .str ++ [.str w]))) (.fz (.int (-1))) = some (.fz (.str w)) := hIx_last
    repeat done
    with_reducible refine next_w S4 (by omega) (by decide) ?_
    intro c m4 c0 c1 S5
    obtain ⟨qq, P, i1, i2, hP, hP2⟩ : ∃ qq P : Int, hInt [.fz (.bool (decide (R - M > 8)))] = some (.fz (.int qq)) ∧ hIx (.mu false (.lst [.int 0, .int c])) (.fz (.int qq)) = some (.fz (.int P)) ∧ (P = 0 ∨ P = 1) ∧ (P = 1 → 8 < R - M) := by
      by_cases h : R - M > 8
      · rw [decide_eq_true h]; exact ⟨1, c, rfl, rfl, by omega, fun _ => h⟩
      · rw [decide_eq_false h]; exact ⟨0, 0, rfl, rfl, .inl rfl, fun z => by cases z⟩
    have hmul := hMul_small (M := M + 1) hP (by omega) (by omega)
    repeat done
    exact ⟨m4, R - P * (M + 1), ws ++ [w], st ++ [(w, P)], some (.fz d), some (.fz (.int P)), by simp [sgD], free_f, free_f, I.add (by omega) hw1 hw2 hP hP2, by rw [List.length_append, List.length_singleton]; omega, S5.le (by omega)⟩
  rintro _ ⟨mm, R, ws, st, y6, y7, rfl, f6, f7, I1, hn, S3⟩
  rw [List.length_nil] at hn S3
  have hws := I1.ew
  have nd1 : (st.map (·.1)).Nodup := by rw [← hws]; exact I1.tk.nd
  repeat done
  refine w_for (fun rest ρ => ∃ (mm : Mu) (tk ls : List Str) (y6 y9 y10 : Option O), ρ = gs2 mm most M R tk st y6 y7 ls y9 y10 ∧ Free y6 ∧ Free y9 ∧ Free y10 ∧ tk = st.map (·.1) ++ ls ∧ St2 st ls ∧ (ls.length + rest.length : Int) = M ∧ Stt mm (k - 1300 + 40 * rest.length)) ?_
    ⟨mm, ws, [], y6, none, none, rfl, f6, free_n, free_n, by rw [List.append_nil]; exact hws, ⟨by rw [List.append_nil, ← hws]; exact I1.tk⟩, by rw [rangeD_len]; simp; omega, S3.le (by rw [rangeD_len]; omega)⟩ ?_
  · rintro d rest _ ⟨mm, tk, ls, y6, y9, y10, rfl, f6, f9, f10, et, I, hn2, S4⟩
    rw [List.length_cons] at hn2 S4
    have htl : tk.length = st.length + ls.length := by rw [et, List.length_append, List.length_map]
    have hT : Tk tk := by rw [et]; exact I.tk
    repeat done
    refine wordO_w (.inr rfl) S4 (by omega) (by omega) (fun u hu => hT.cw u hu _ (Nat.le_refl _)) ?_
    intro w m3 hw1 hw2 S5
    have J : ∀ (v : Str) (m' : Mu) (y10 : Option O), v ∉ tk → Vw v → (∀ j, tk.length + 1 ≤ j → v ≠ cw j) → Nq v → Free y10 → Stt m' (k - 1300 + 40 * rest.length) →
        ∃ (mm : Mu) (tk' ls' : List Str) (y6 y9 y10' : Option O), [some (.mu true m'), some (.fz (.int most)), some (.fz (.int M)), some (.fz (.int R)), some (.mu false (.lst (tk.map .str ++ [.str v]))), some (.mu false (.lst (sgD st))), some (.fz d), y7, some (.mu false (.lst (ls.map .str ++ [.str v]))), some (.fz (.str v)), y10, none, none, none, none, none, none, none, none, none] = gs2 mm most M R tk' st y6 y7 ls' y9 y10' ∧ Free y6 ∧ Free y9 ∧ Free y10' ∧ tk' = st.map (·.1) ++ ls' ∧ St2 st ls' ∧ (ls'.length + rest.length : Int) = M ∧ Stt mm (k - 1300 + 40 * rest.length) := fun v m' y10 a1 a2 a3 a4 fy S' =>
      ⟨m', tk ++ [v], ls ++ [v], some (.fz d), some (.fz (.str v)), y10, by simp, free_f, free_f, fy, by rw [et, List.append_assoc], I.add (by rw [← et]; exact a1) a2 (by rw [← et]; exact a3) a4, by rw [List.length_append, List.length_singleton]; omega, S'⟩
    repeat done
    with_reducible refine next_w S5 (by omega) (by decide) ?_
    intro c m4 c0 c1 S6
    obtain ⟨u, uv, uc, un, i1⟩ := xyzw_at c0 c1
    repeat done
    with_reducible refine next_w S6 (by omega) (by decide) ?_
    intro e m5 e0 e1 S7
    have hin : hIn true (.fz (.str u)) (.mu false (.lst (tk.map .str))) = some (.fz (.bool (decide (u ∉ tk)))) := notin_ap
    repeat done
    · intro _
      repeat done
      · intro hu
        repeat done
        exact J u m5 _ hu uv (fun j _ => uc j) un free_f (S7.le (by omega))
      · intro _
        repeat done
        exact J w m5 _ hw1 (hw2.vw (by omega)) (fun j hj => hw2.ne hj) hw2.nq free_f (S7.le (by omega))
    · intro _
      repeat done
      exact J w m5 _ hw1 (hw2.vw (by omega)) (fun j hj => hw2.ne hj) hw2.nq free_f (S7.le (by omega))
  rintro _ ⟨mm, tk, ls, y6, y9, y10, rfl, f6, f9, f10, et, I2, hn2, S4⟩
  rw [List.length_nil] at hn2 S4
  have vw1 : ∀ u ∈ st.map (·.1), Vw u := fun u hu => I2.tk.vw u (List.mem_append.mpr (.inl hu))
  have vw2 : ∀ u ∈ ls, Vw u := fun u hu => I2.tk.vw u (List.mem_append.mpr (.inr hu))
  generalize htk : tk.map PyData.str = T
  obtain ⟨NS, hNS, hlS⟩ : ∃ n : Int, (st.length : Int) = n ∧ hLen [.mu false (.lst (sgD st))] = some (.fz (.int n)) := ⟨_, rfl, by show some (O.fz (.int ((sgD st).length : Int))) = _; rw [List.length_map]⟩
  repeat done
  with_reducible refine next_w S4 (by omega) (by decide) ?_
  intro n3 m6 n30 n31 S5
  repeat done
  refine w_for (fun rest ρ => ∃ (mm : Mu) (gs : List (Str × Bool)) (y6 y12 : Option O), ρ = gs3 mm most M R T st y6 y7 ls y9 y10 gs y12 ∧ Free y6 ∧ Free y12 ∧ St3 st gs ∧ gs.length + rest.length ≤ 3 ∧ Stt mm (k - 1400 + 10 * rest.length)) ?_
    ⟨m6, [], y6, none, by rw [← htk]; rfl, f6, free_n, ⟨(fun _ h => absurd h List.not_mem_nil), List.nodup_nil⟩, by rw [rangeD_len]; simp; omega, S5.le (by rw [rangeD_len]; omega)⟩ ?_
  · rintro d rest _ ⟨mm, gs, y6, y12, rfl, f6, f12, I, hl3, S6⟩
    rw [List.length_cons] at hl3 S6
    repeat done
    with_reducible refine next_w S6 (by omega) (by omega) ?_
    intro c m7 c0 c1 S7
    obtain ⟨p, hp, i1⟩ := hIx_st (st := st) (b := false) c0 (by omega)
    have hpm : p.1 ∈ st.map (·.1) := List.mem_map.mpr ⟨p, hp, rfl⟩
    repeat done
    with_reducible refine next_w S7 (by omega) (by decide) ?_
    intro e m8 e0 e1 S8
    generalize hb : decide (e > 0) = b
    have hgt : hGt (.fz (.int e)) (.fz (.int 0)) = some (.fz (.bool b)) := by rw [← hb]; rfl
    have hin : hIn true (.fz (.tuple [.str p.1, .bool b])) (.mu false (.lst (gs.map goD))) = some (.fz (.bool (decide ((p.1, b) ∉ gs)))) := in_go (x := (p.1, b)) (goD_nd (vw1 _ hpm)) (fun g hg => goD_nd (vw1 _ (I.go g hg))) (.inl rfl)
    repeat done
    · intro hni
      repeat done
      refine ⟨m8, gs ++ [(p.1, b)], some (.fz d), some (.fz (goD (p.1, b))), by simp [goD], free_f, free_f, ⟨fun x hx => ?_, ?_⟩, by rw [List.length_append, List.length_singleton]; omega, S8.le (by omega)⟩
      · rcases List.mem_append.mp hx with hx | hx
        · exact I.go x hx
        · rw [List.mem_singleton.mp hx]; exact hpm
      · rw [List.nodup_append]
        exact ⟨I.nd, by simp, fun a ha z hz e => hni (by rw [List.mem_singleton.mp hz] at e; rw [← e]; exact ha)⟩
    · intro _
      repeat done
      exact ⟨m8, gs, some (.fz d), some (.fz (goD (p.1, b))), rfl, free_f, free_f, I, by omega, S8.le (by omega)⟩
  rintro _ ⟨mm, gs, y6, y12, rfl, f6, f12, I3, hl3, S6⟩
  rw [List.length_nil] at hl3 S6
  obtain ⟨NG, hNG, hlG⟩ : ∃ n : Int, (gs.length : Int) = n ∧ hLen [.mu false (.lst (gs.map goD))] = some (.fz (.int n)) := ⟨_, rfl, by show some (O.fz (.int ((gs.map goD).length : Int))) = _; rw [List.length_map]⟩
  repeat done
  with_reducible refine next_w S6 (by omega) (by decide) ?_
  intro c m7 c0 c1 S7
  repeat done
  with_reducible refine next_w S7 (by omega) (by decide) ?_
  intro e m8 e0 e1 S8
  repeat done
  have NC0 : 0 ≤ c + e := by omega
  have NC1 : c + e ≤ 30 := by omega
  generalize c + e = NC at *
  repeat done
  have hsec : (secS st).length ≤ st.length := by
    unfold secS
    rw [List.length_map]
    exact List.length_filter_le _ _
  refine w_for (fun rest ρ => ∃ (mm : Mu) (mv : List Mv) (R : Int) (y6 y7 y9 y14 y15 y16 y17 : Option O), ρ = gs4 mm most M R T st y6 y7 ls y9 y10 gs y12 mv y14 y15 y16 y17 ∧ Free y6 ∧ Free y7 ∧ Free y9 ∧ Free y14 ∧ Free y15 ∧ Free y16 ∧ Free y17 ∧ St4 st ls gs.length mv M R ∧ mv.length + rest.length ≤ 30 ∧ Stt mm (k - 1900 + 12 * rest.length)) ?_
    ⟨m8, [], R - NG, y6, y7, y9, none, none, none, none, rfl, f6, f7, f9, free_n, free_n, free_n, free_n, ⟨(fun _ h => absurd h List.not_mem_nil), List.nodup_nil, fun _ _ _ _ _ => Nat.zero_le _, by
      have := I1.rm
      show R - NG + gs.length + (secS st).length * (M + 1) + ((0 : Nat) : Int) = 24
      omega, by have := I1.r8; omega⟩, by rw [rangeD_len]; simp; omega, S8.le (by rw [rangeD_len]; omega)⟩ ?_
  · rintro d rest _ ⟨mm, mv, R, y6, y7, y9, y14, y15, y16, y17, rfl, f6, f7, f9, f14, f15, f16, f17, I, hl4, S9⟩
    rw [List.length_cons] at hl4 S9
    repeat done
    with_reducible refine next_w S9 (by omega) (by omega) ?_
    intro c m9 c0 c1 S10
    obtain ⟨p, hp, i1⟩ := hIx_st (st := st) (b := false) c0 (by omega)
    have hpm : p.1 ∈ st.map (·.1) := List.mem_map.mpr ⟨p, hp, rfl⟩
    have hpl := I1.pl p hp
    repeat done
    with_reducible refine next_w S10 (by omega) (by omega) ?_
    intro e m10 e0 e1 S11
    obtain ⟨p2, hp2, i2⟩ := hIx_st (st := st) (b := false) e0 (by omega)
    have hpm2 : p2.1 ∈ st.map (·.1) := List.mem_map.mpr ⟨p2, hp2, rfl⟩
    repeat done
    with_reducible refine next_w S11 (by omega) (by decide) ?_
    intro f m11 f0 f1 S12
    obtain ⟨nw, nw0, nw1, i3⟩ : ∃ nw : Int, 0 ≤ nw ∧ nw ≤ 2 ∧ hIx (.mu false (.lst [.int 0, .int 0, .int 1, .int 1, .int 2])) (.fz (.int f)) = some (.fz (.int nw)) := by
      have : f = 0 ∨ f = 1 ∨ f = 2 ∨ f = 3 ∨ f = 4 := by omega
      rcases this with rfl | rfl | rfl | rfl | rfl
      · exact ⟨0, by decide, by decide, rfl⟩
      · exact ⟨0, by decide, by decide, rfl⟩
      · exact ⟨1, by decide, by decide, rfl⟩
      · exact ⟨1, by decide, by decide, rfl⟩
      · exact ⟨2, by decide, by decide, rfl⟩
    repeat done
    have hS0 : Stt m11 (k - 1900 + 12 * rest.length + 3 + (rangeD 0 nw.toNat).length) := S12.le (by rw [rangeD_len]; omega)
    have hN0 : ((([] : List Str).length : Int) + ((rangeD 0 nw.toNat).length : Int)) = nw := by rw [rangeD_len, List.length_nil]; omega
    with_reducible refine w_lc (fun rs acc ρ => ∃ (us : List Str) (mm : Mu), ρ = gs4 mm most M R T st (some (.fz d)) (some (.fz (.int p.2))) ls y9 y10 gs y12 mv (some (.fz (.str p.1))) (some (.fz (.str p2.1))) y16 y17 ∧ acc = us.map .str ∧ (∀ u ∈ us, u ∈ ls) ∧ (us.length + rs.length : Int) = nw ∧ Stt mm (k - 1900 + 12 * rest.length + 3 + rs.length)) rfl rfl ⟨[], m11, rfl, rfl, (fun _ h => absurd h List.not_mem_nil), hN0, hS0⟩ ?_ ?_
    · rintro d2 rs acc _ ⟨us, mm, rfl, rfl, hus, hn5, S13⟩
      rw [List.length_cons] at hn5 S13
      repeat done
      refine ⟨rfl, ?_⟩
      repeat done
      refine lcK_T ?_
      repeat done
      with_reducible refine next_w S13 (by omega) (by omega) ?_
      intro g m12 g0 g1 S14
      obtain ⟨u, hu, i4⟩ := hIx_ws (ws := ls) (b := false) g0 (by omega)
      repeat done
      refine ⟨by rw [List.length_map]; omega, rfl, us ++ [u], m12, rfl, by simp, fun x hx => ?_, by rw [List.length_append, List.length_singleton]; omega, S14.le (by omega)⟩
      rcases List.mem_append.mp hx with h | h
      · exact hus x h
      · rw [List.mem_singleton.mp h]; exact hu
    rintro ys _ ⟨us, mm, rfl, rfl, hus, hn5, S13⟩
    rw [List.length_nil] at hn5 S13
    show Wp _ (gs4 mm most M R T st (some (.fz d)) (some (.fz (.int p.2))) ls y9 y10 gs y12 mv (some (.fz (.str p.1))) (some (.fz (.str p2.1))) y16 y17) _ _
    have htu : hTuple [.mu false (.lst (us.map .str))] = some (.fz (.tuple (us.map .str))) := rfl
    generalize hus2 : us.map PyData.str = U at *
    repeat done
    with_reducible refine next_w S13 (by omega) (by omega) ?_
    intro g m12 g0 g1 S14
    obtain ⟨l, hl, i5⟩ := hIx_ws (ws := ls) (b := false) g0 (by omega)
    repeat done
    have vm : ∀ x ∈ mv, Nd (mvD x) 76 2 := fun x hx => by
      obtain ⟨a1, a2, a3, a4, a5⟩ := I.mo x hx
      exact mvD_nd (vw1 _ a1) (vw2 _ a2) (vw1 _ a3) (fun w hw => vw2 _ (a5 w hw)) a4
    have hsl : hSl (.fz (.tuple [.str p.1, .str l, .str p2.1, .tuple U])) none (some 2) = some (.fz (.tuple [.str p.1, .str l])) := rfl
    with_reducible refine w_lcLT (xs := mv) (G := mvD) (fun m => decide (m.1 = p.1 ∧ m.2.1 = l)) mvD rfl rfl rfl rfl rfl rfl (by omega) ?_ ?_
    · intro x hx
      have hsx : hSl (.fz (mvD x)) none (some 2) = some (.fz (.tuple [.str x.1, .str x.2.1])) := rfl
      obtain ⟨a1, a2, a3, a4, a5⟩ := I.mo x hx
      have heq : hEq (.fz (.tuple [.str x.1, .str x.2.1])) (.fz (.tuple [.str p.1, .str l])) = some (.fz (.bool (decide (x.1 = p.1 ∧ x.2.1 = l)))) := by
        exact pair_eq (vw1 _ a1) (vw2 _ a2) (vw1 _ hpm) (vw2 _ hl)
      generalize hX : mvD x = X at *
      generalize hD : decide (x.1 = p.1 ∧ x.2.1 = l) = D at *
      repeat done
      refine ⟨rfl, ?_⟩
      repeat done
      refine ⟨rfl, fun _ => ?_, fun _ => ⟨rfl, rfl⟩⟩
      repeat done
      exact ⟨rfl, rfl, rfl⟩
    obtain ⟨L, hL, hlL⟩ : ∃ n : Int, ((mv.filter fun m => decide (m.1 = p.1 ∧ m.2.1 = l)).length : Int) = n ∧ hLen [.mu false (.lst ((mv.filter fun m => decide (m.1 = p.1 ∧ m.2.1 = l)).map mvD))] = some (.fz (.int n)) := ⟨_, rfl, by show some (O.fz (.int (((mv.filter fun m => decide (m.1 = p.1 ∧ m.2.1 = l)).map mvD).length : Int))) = _; rw [List.length_map]⟩
    generalize hAl : (mv.filter fun m => decide (m.1 = p.1 ∧ m.2.1 = l)).map mvD = AL at *
    have hus3 : us.length ≤ 2 := by omega
    have hin : hIn true (.fz (.tuple [.str p.1, .str l, .str p2.1, .tuple U])) (.mu false (.lst (mv.map mvD))) = some (.fz (.bool (decide ((p.1, l, p2.1, us) ∉ mv)))) := by
      rw [← hus2]
      exact in_mv (x := (p.1, l, p2.1, us)) (mvD_nd (vw1 _ hpm) (vw2 _ hl) (vw1 _ hpm2) (fun w hw => vw2 _ (hus w hw)) hus3) vm (.inl rfl)
    have Jadd : (p.1, l, p2.1, us) ∉ mv → (0 < R ∨ p.2 = 1) → (L < 4 ∨ p.2 = 0) → ∃ (mm : Mu) (mv' : List Mv) (R' : Int) (y6 y7 y9 y14 y15 y16 y17 : Option O), [some (.mu true m12), some (.fz (.int most)), some (.fz (.int M)), some (.fz (.int (R - 1 + p.2))), some (.mu false (.lst T)), some (.mu false (.lst (sgD st))), some (.fz d), some (.fz (.int p.2)), some (.mu false (.lst (ls.map .str))), some (.fz (.tuple U)), y10, some (.mu false (.lst (gs.map goD))), y12, some (.mu false (.lst (mv.map mvD ++ [.tuple [.str p.1, .str l, .str p2.1, .tuple U]]))), some (.fz (.str p.1)), some (.fz (.str p2.1)), some (.fz (.tuple [.str p.1, .str l, .str p2.1, .tuple U])), some (.mu false (.lst AL)), none, none] = gs4 mm most M R' T st y6 y7 ls y9 y10 gs y12 mv' y14 y15 y16 y17 ∧ Free y6 ∧ Free y7 ∧ Free y9 ∧ Free y14 ∧ Free y15 ∧ Free y16 ∧ Free y17 ∧ St4 st ls gs.length mv' M R' ∧ mv'.length + rest.length ≤ 30 ∧ Stt mm (k - 1900 + 12 * rest.length) := fun a1 a2 a3 =>
      ⟨m12, mv ++ [(p.1, l, p2.1, us)], R - 1 + p.2, some (.fz d), some (.fz (.int p.2)), some (.fz (.tuple U)), some (.fz (.str p.1)), some (.fz (.str p2.1)), some (.fz (.tuple [.str p.1, .str l, .str p2.1, .tuple U])), some (.mu false (.lst AL)), by rw [← hus2]; simp [mvD], free_f, free_f, free_f, free_f, free_f, free_f, free_m,
        I.add nd1 hp hpl hl hpm2 hus3 hus a1 a2 (a3.elim (fun z => .inl (by omega)) .inr), by rw [List.length_append, List.length_singleton]; omega, S14.le (by omega)⟩
    have Jno : ∃ (mm : Mu) (mv' : List Mv) (R' : Int) (y6 y7 y9 y14 y15 y16 y17 : Option O), [some (.mu true m12), some (.fz (.int most)), some (.fz (.int M)), some (.fz (.int R)), some (.mu false (.lst T)), some (.mu false (.lst (sgD st))), some (.fz d), some (.fz (.int p.2)), some (.mu false (.lst (ls.map .str))), some (.fz (.tuple U)), y10, some (.mu false (.lst (gs.map goD))), y12, some (.mu false (.lst (mv.map mvD))), some (.fz (.str p.1)), some (.fz (.str p2.1)), some (.fz (.tuple [.str p.1, .str l, .str p2.1, .tuple U])), some (.mu false (.lst AL)), none, none] = gs4 mm most M R' T st y6 y7 ls y9 y10 gs y12 mv' y14 y15 y16 y17 ∧ Free y6 ∧ Free y7 ∧ Free y9 ∧ Free y14 ∧ Free y15 ∧ Free y16 ∧ Free y17 ∧ St4 st ls gs.length mv' M R' ∧ mv'.length + rest.length ≤ 30 ∧ Stt mm (k - 1900 + 12 * rest.length) :=
      ⟨m12, mv, R, some (.fz d), some (.fz (.int p.2)), some (.fz (.tuple U)), some (.fz (.str p.1)), some (.fz (.str p2.1)), some (.fz (.tuple [.str p.1, .str l, .str p2.1, .tuple U])), some (.mu false (.lst AL)), rfl, free_f, free_f, free_f, free_f, free_f, free_f, free_m, I, by omega, S14.le (by omega)⟩
    show Wp _ (gs4 m12 most M R T st (some (.fz d)) (some (.fz (.int p.2))) ls (some (.fz (.tuple U))) y10 gs y12 mv (some (.fz (.str p.1))) (some (.fz (.str p2.1))) (some (.fz (.tuple [.str p.1, .str l, .str p2.1, .tuple U]))) y17) _ _
    generalize hP2 : p.2 = P at *
    repeat done
    · intro hni
      repeat done
      · intro hR
        repeat done
        · intro h4
          repeat done
          exact Jadd hni (.inl hR) (.inl h4)
        · intro _
          repeat done
          · intro h5
            repeat done
            exact Jadd hni (.inl hR) (.inr h5)
          · intro _
            repeat done
            exact Jno
      · intro _
        repeat done
        · intro hR
          repeat done
          · intro h4
            repeat done
            exact Jadd hni (.inr hR) (.inl h4)
          · intro _
            repeat done
            · intro h5
              repeat done
              exact Jadd hni (.inr hR) (.inr h5)
            · intro _
              repeat done
              exact Jno
        · intro _
          repeat done
          exact Jno
    · intro _
      repeat done
      exact Jno
  rintro _ ⟨mm, mv, R, y6, y7, y9, y14, y15, y16, y17, rfl, f6, f7, f9, f14, f15, f16, f17, I4, hl4, S9⟩
  rw [List.length_nil] at hl4 S9
  repeat done
  exact q ⟨st, ls, mv, gs⟩ mm ⟨by show 1 ≤ st.length; omega, by show st.length ≤ 6; omega, by show 1 ≤ ls.length; omega, by show ls.length ≤ 3; omega, I2.tk.vw, I2.tk.nd, I2.tk.nq, I1.pl, I4.mo, I4.mn, by show mv.length ≤ 40; omega, I3.go, I3.nd, by show gs.length ≤ 6; omega, I4.mb, by
    have h1 := I4.sz
    have h2 := I4.r0
    show gs.length + (secS st).length * (ls.length + 1) + (mv.filter fun m => decide (m.1 ∉ secS st)).length ≤ 24
    have h3 : ((secS st).length : Int) * (M + 1) = (((secS st).length * (ls.length + 1) : Nat) : Int) := by
      rw [Int.natCast_mul, show M = (ls.length : Int) by omega]; rfl
    omega⟩ (S9.le (by omega))
/-! positions of games -/
theorem hIx_t3 {a b c d : PyData} {ds : List PyData} : hIx (.fz (.tuple (a :: b :: c :: d :: ds))) (.fz (.int 3)) = some (.fz d) := by
  show (atI (a :: b :: c :: d :: ds) 3).map O.fz = _
  have : ixN (a :: b :: c :: d :: ds).length 3 = some 3 := by
    unfold ixN
    rw [if_pos (by decide)]
    simp
    omega
  unfold atI
  rw [this]; rfl
theorem gm_ix0 {g : Gm} : hIx (.fz (gmD g)) (.fz (.int 0)) = some (.fz (.tuple (sgD g.st))) := hIx_t0
theorem gm_ix1 {g : Gm} : hIx (.fz (gmD g)) (.fz (.int 1)) = some (.fz (.tuple (g.le.map .str))) := hIx_t1
theorem gm_ix2 {g : Gm} : hIx (.fz (gmD g)) (.fz (.int 2)) = some (.fz (.tuple (g.mv.map mvD))) := hIx_t2
theorem gm_ix3 {g : Gm} : hIx (.fz (gmD g)) (.fz (.int 3)) = some (.fz (.tuple (g.go.map goD))) := hIx_t3
theorem st_vw {g : Gm} (G : GmOk g) {w : Str} (h : w ∈ nmG g) : Vw w := G.wd w (List.mem_append.mpr (.inl h))
theorem le_vw {g : Gm} (G : GmOk g) {w : Str} (h : w ∈ g.le) : Vw w := G.wd w (List.mem_append.mpr (.inr h))
/-- an own stack -/
def posB (g : Gm) (k : List Str) : Bool := decide (k.length ≤ 99) && k.all fun l => decide (l ∈ g.le)
def goalB (g : Gm) (s : Str) (k : List Str) : Bool := decide ((s, false) ∈ g.go) || (decide (k.length = 0) && decide ((s, true) ∈ g.go))
abbrev stk (k : List Str) : PyData := .tuple (k.map .str)
theorem in_go2 {x : Str × Bool} {gs : List (Str × Bool)} (hx : Nd (goD x) 18 1) (hm : ∀ m ∈ gs, Nd (goD m) 18 1) {b : O} (hb : b.view = .list (gs.map goD) ∨ b.view = .tuple (gs.map goD)) : hIn false (.fz (goD x)) b = some (.fz (.bool (decide (x ∈ gs)))) := by
  rw [nd_in hb hx (fun e he => by obtain ⟨m, h, rfl⟩ := List.mem_map.mp he; exact hm m h) (by omega), ce_mem goD_inj goD_ce]
  exact congrArg (fun z => some (O.fz (.bool z))) (dec_any _ _)
theorem go_in {g : Gm} (G : GmOk g) {s : Str} (hs : s ∈ nmG g) (b : Bool) : hIn false (.fz (.tuple [.str s, .bool b])) (.fz (.tuple (g.go.map goD))) = some (.fz (.bool (decide ((s, b) ∈ g.go)))) :=
  in_go2 (x := (s, b)) (goD_nd (st_vw G hs)) (fun m hm => goD_nd (st_vw G (G.go m hm))) (.inr rfl)
theorem len_stk {k : List Str} : hLen [.fz (stk k)] = some (.fz (.int (k.length : Int))) := by
  show some (O.fz (.int ((k.map PyData.str).length : Int))) = _
  rw [List.length_map]
section
variable {E : Px} {Q : O → Rho → Prop} {cB cM cN cP cL cT : Nat} {g : Gm} {s : Str} {k : List Str}
theorem playerof_w (q : s ∈ nmG g → ∀ i : Int, Q (.fz (.int i)) [some (.fz (gmD g)), some (.fz (.str s))]) (e : s ∉ nmG g → E cM [some (.fz (gmD g)), some (.fz (.str s))]) :
    Wp (g_player_of cB cM cN cP cL cT) [some (.fz (gmD g)), some (.fz (.str s))] Q E := by
  have g0 := gm_ix0 (g := g)
  unfold g_player_of
  done
  unfold f_player_of
  generalize gmD g = GG at *
  repeat done
  refine w_forT (fun done rest ρ => ∃ y2 y3 : Option O, ρ = [some (.fz GG), some (.fz (.str s)), y2, y3] ∧ Free y2 ∧ Free y3 ∧ ∀ p ∈ done, p.1 ≠ s) ⟨none, none, rfl, free_n, free_n, (fun _ h => absurd h List.not_mem_nil)⟩ ?_ ?_
  · rintro done ⟨a, i⟩ rest _ e1 ⟨y2, y3, rfl, f2, f3, hd⟩
    repeat done
    · intro ha
      have hs : s ∈ nmG g := List.mem_map.mpr ⟨(a, i), by rw [e1]; simp, ha⟩
      repeat done
      show Wp (seqK _ (.rt _)) _ _ _
      repeat done
      exact q hs i
    · intro ha
      repeat done
      refine ⟨_, _, rfl, free_f, free_f, fun p hp => ?_⟩
      rcases List.mem_append.mp hp with hp | hp
      · exact hd p hp
      · rw [List.mem_singleton.mp hp]; exact ha
  · rintro _ ⟨y2, y3, rfl, f2, f3, hd⟩
    have hs : s ∉ nmG g := fun h => by
      obtain ⟨p, hp, ep⟩ := List.mem_map.mp h
      exact hd p hp ep
    repeat done
    exact ⟨_, rfl, e hs⟩
theorem checkpos_w (q : s ∈ nmG g → posB g k = true → Q (.fz .none) [some (.fz (gmD g)), some (.fz (.str s)), some (.fz (stk k))]) (e1 : s ∉ nmG g → E cM [some (.fz (gmD g)), some (.fz (.str s)), some (.fz (stk k))])
    (e2 : s ∈ nmG g → posB g k = false → E cN [some (.fz (gmD g)), some (.fz (.str s)), some (.fz (stk k))]) (hk : k.length ≤ 1000) :
    Wp (g_check_position cB cM cN cP cL cT) [some (.fz (gmD g)), some (.fz (.str s)), some (.fz (stk k))] Q E := by
  have g1 := gm_ix1 (g := g)
  have hpl := @playerof_w
  obtain ⟨N, hN, hlen⟩ : ∃ N : Int, (k.length : Int) = N ∧ hLen [.fz (stk k)] = some (.fz (.int N)) := ⟨_, rfl, len_stk⟩
  unfold g_check_position
  done
  unfold f_check_position
  have pl : ∀ {E : Px} {Q : O → Rho → Prop}, (s ∈ nmG g → ∀ i : Int, Q (.fz (.int i)) [some (.fz (gmD g)), some (.fz (.str s))]) → (s ∉ nmG g → E cM [some (.fz (gmD g)), some (.fz (.str s))]) → Wp (g_player_of cB cM cN cP cL cT) [some (.fz (gmD g)), some (.fz (.str s))] Q E := fun a b => playerof_w a b
  generalize gmD g = GG at *
  repeat done
  refine pl (fun hs i => ?_) (fun hs => ⟨_, rfl, e1 hs⟩)
  repeat done
  · intro hn
    repeat done
    have hp : posB g k = false := by
      unfold posB
      rw [decide_eq_false (by omega)]; rfl
    exact ⟨_, rfl, e2 hs hp⟩
  · intro hn
    have hall : hAll [.mu false (.lst (k.map fun l => PyData.bool (decide (l ∈ g.le))))] = some (.fz (.bool (k.all fun l => decide (l ∈ g.le)))) := by
      have := hAll_F (xs := k) (G := PyData.str) (b := false) (F := fun d => match d with | .str l => .bool (decide (l ∈ g.le)) | _ => .none) (p := fun l => decide (l ∈ g.le)) fun _ _ => rfl
      rw [List.map_map] at this
      exact this
    repeat done
    with_reducible refine w_lcTA0 (xs := k) (G := PyData.str) (fun l => .bool (decide (l ∈ g.le))) rfl rfl rfl (by omega) ?_ ?_
    · intro l hl
      have hin := in_tup (w := l) (ws := g.le)
      repeat done
      refine ⟨rfl, ?_⟩
      repeat done
      exact ⟨rfl, rfl, rfl⟩
    have hp : posB g k = k.all fun l => decide (l ∈ g.le) := by
      unfold posB
      rw [decide_eq_true (by omega), Bool.true_and]
    rw [hp] at q e2
    generalize (k.all fun l => decide (l ∈ g.le)) = B at *
    cases B with
    | true =>
      repeat done
      exact q hs rfl
    | false =>
      repeat done
      exact ⟨_, rfl, e2 hs rfl⟩
theorem isgoal_w (G : GmOk g) (hs : s ∈ nmG g) (hk : k.length ≤ 1000) (q : Q (.fz (.bool (goalB g s k))) [some (.fz (gmD g)), some (.fz (.str s)), some (.fz (stk k))]) :
    Wp g_is_goal [some (.fz (gmD g)), some (.fz (.str s)), some (.fz (stk k))] Q E := by
  have g3 := gm_ix3 (g := g)
  obtain ⟨N, hN, hlen⟩ : ∃ N : Int, (k.length : Int) = N ∧ hLen [.fz (stk k)] = some (.fz (.int N)) := ⟨_, rfl, len_stk⟩
  have i0 := go_in G hs false
  have i1 := go_in G hs true
  have hg : goalB g s k = (decide ((s, false) ∈ g.go) || (decide (N = 0) && decide ((s, true) ∈ g.go))) := by
    unfold goalB
    congr 2
    exact decide_eq_decide.mpr (by omega)
  rw [hg] at q
  unfold g_is_goal
  done
  unfold f_is_goal
  generalize gmD g = GG at *
  generalize decide ((s, false) ∈ g.go) = B0 at *
  generalize decide ((s, true) ∈ g.go) = B1 at *
  cases B0 with
  | true =>
    repeat done
    exact q
  | false =>
    rw [Bool.false_or] at q
    repeat done
    · intro h
      rw [decide_eq_true h, Bool.true_and] at q
      repeat done
      exact q
    · intro h
      rw [decide_eq_false h, Bool.false_and] at q
      repeat done
      exact q
theorem lgoal_w (G : GmOk g) (hs : s ∈ nmG g) (hk : k.length ≤ 1000) (q : Q (.fz (.bool (goalB g s k))) [some (.fz (gmD g)), some (.fz (.str s)), some (.fz (stk k))]) :
    Wp g__law_at_goal [some (.fz (gmD g)), some (.fz (.str s)), some (.fz (stk k))] Q E := by
  have g3 := gm_ix3 (g := g)
  obtain ⟨N, hN, hlen⟩ : ∃ N : Int, (k.length : Int) = N ∧ hLen [.fz (stk k)] = some (.fz (.int N)) := ⟨_, rfl, len_stk⟩
  have i0 := go_in G hs false
  have i1 := go_in G hs true
  have hg : goalB g s k = (decide ((s, false) ∈ g.go) || (decide (N = 0) && decide ((s, true) ∈ g.go))) := by
    unfold goalB
    congr 2
    exact decide_eq_decide.mpr (by omega)
  rw [hg] at q
  unfold g__law_at_goal
  done
  unfold f__law_at_goal
  generalize gmD g = GG at *
  generalize decide ((s, false) ∈ g.go) = B0 at *
  generalize decide ((s, true) ∈ g.go) = B1 at *
  cases B0 with
  | true =>
    repeat done
    exact q
  | false =>
    rw [Bool.false_or] at q
    repeat done
    · intro h
      rw [decide_eq_true h, Bool.true_and] at q
      repeat done
      exact q
    · intro h
      rw [decide_eq_false h, Bool.false_and] at q
      repeat done
      exact q
end
/-! the moves that are possible; the classes of errors -/
def stepsI (g : Gm) (s l : Str) : List (Mv × Nat) := g.mv.zipIdx.filter fun p => decide (p.1.1 = s ∧ p.1.2.1 = l)
def stepsD (g : Gm) (s l : Str) : List PyData := (stepsI g s l).map fun p => .int (p.2 : Int)
def optD (g : Gm) (s : Str) : List Str → List PyData
  | [] => []
  | l :: k => if goalB g s (l :: k) = true then [] else stepsD g s l
section
variable {E : Px} {Q : O → Rho → Prop} {cB cM cN cP cL cT : Nat} {g : Gm} {s l : Str} {k : List Str}
theorem enumD_map {α : Type} {G : α → PyData} {xs : List α} {j : Nat} : enumD j (xs.map G) = (xs.zipIdx j).map fun p => .tuple [.int (p.2 : Int), G p.1] := by
  induction xs generalizing j with
  | nil => rfl
  | cons x xs ih =>
    show _ :: enumD (j + 1) (xs.map G) = _
    rw [ih]; rfl
theorem stepsof_w (G : GmOk g) (q : Q (.mu false (.lst (stepsD g s l))) [some (.fz (gmD g)), some (.fz (.str s)), some (.fz (.str l))]) : Wp g_steps_of [some (.fz (gmD g)), some (.fz (.str s)), some (.fz (.str l))] Q E := by
  have g2 := gm_ix2 (g := g)
  have hml := G.ml
  unfold stepsD stepsI at q
  unfold g_steps_of
  done
  unfold f_steps_of
  generalize gmD g = GG at *
  repeat done
  rw [enumD_map]
  with_reducible refine w_lcT0 (fun p => decide (p.1.1 = s ∧ p.1.2.1 = l)) (fun p => .int (p.2 : Int)) rfl rfl rfl (by rw [List.length_zipIdx]; omega) ?_ ?_
  · rintro ⟨⟨a, b, c, d⟩, k⟩ hx
    unfold mvD
    simp only
    generalize (k : Int) = kk
    repeat done
    refine ⟨rfl, ?_⟩
    repeat done
    · intro z1
      repeat done
      refine ⟨by simp [z1], fun _ => ?_, fun _ => ⟨rfl, rfl⟩⟩
      repeat done
      exact ⟨rfl, rfl, rfl⟩
    · intro z1
      exact ⟨by simp [z1], fun h => absurd h (by simp [z1]), fun _ => ⟨rfl, rfl⟩⟩
  repeat done
  exact q
theorem possible_w (G : GmOk g) (hs : s ∈ nmG g) (hk : k.length ≤ 1000) (q : Q (.mu false (.lst (optD g s k))) [some (.fz (gmD g)), some (.fz (.str s)), some (.fz (stk k))]) :
    Wp g_possible [some (.fz (gmD g)), some (.fz (.str s)), some (.fz (stk k))] Q E := by
  have ig : ∀ {E : Px} {Q : O → Rho → Prop}, Q (.fz (.bool (goalB g s k))) [some (.fz (gmD g)), some (.fz (.str s)), some (.fz (stk k))] → Wp g_is_goal [some (.fz (gmD g)), some (.fz (.str s)), some (.fz (stk k))] Q E := fun z => isgoal_w G hs hk z
  have sf : ∀ {l : Str} {E : Px} {Q : O → Rho → Prop}, Q (.mu false (.lst (stepsD g s l))) [some (.fz (gmD g)), some (.fz (.str s)), some (.fz (.str l))] → Wp g_steps_of [some (.fz (gmD g)), some (.fz (.str s)), some (.fz (.str l))] Q E := fun z => stepsof_w G z
  unfold g_possible
  done
  unfold f_possible
  cases k with
  | nil =>
    have hl : hLen [.fz (stk [])] = some (.fz (.int 0)) := rfl
    generalize gmD g = GG at *
    repeat done
    exact q
  | cons l k =>
    obtain ⟨N, hN, hlen⟩ : ∃ N : Int, N ≠ 0 ∧ hLen [.fz (stk (l :: k))] = some (.fz (.int N)) := ⟨((l :: k).length : Int), by simp; omega, len_stk⟩
    have hq : hEq (.fz (.int N)) (.fz (.int 0)) = some (.fz (.bool false)) := by rw [hEq_i, decide_eq_false hN]
    have h0 : hIx (.fz (stk (l :: k))) (.fz (.int 0)) = some (.fz (.str l)) := hIx_t0
    have ho : optD g s (l :: k) = if goalB g s (l :: k) = true then [] else stepsD g s l := rfl
    rw [ho] at q
    generalize gmD g = GG at *
    generalize goalB g s (l :: k) = B at *
    generalize stk (l :: k) = K at *
    repeat done
    · intro h; exact absurd h hN
    intro _
    repeat done
    refine ig ?_
    cases B with
    | true =>
      repeat done
      exact q
    | false =>
      repeat done
      refine sf ?_
      repeat done
      exact q
theorem zipIdx_map {α : Type} {F : Nat → PyData} : ∀ {xs : List α} {j : Nat}, (xs.zipIdx j).map (fun p => F p.2) = (List.range' j xs.length).map F
  | [], _ => rfl
  | x :: xs, j => by
    rw [List.zipIdx_cons, List.map_cons, List.length_cons, List.range'_succ, List.map_cons, zipIdx_map]
theorem loptions_w (G : GmOk g) (hs : s ∈ nmG g) (hp : posB g k = true) (hk : k.length ≤ 1000) (q : Q (.mu false (.lst (optD g s k))) [some (.fz (gmD g)), some (.fz (.str s)), some (.fz (stk k))]) :
    Wp g__law_options [some (.fz (gmD g)), some (.fz (.str s)), some (.fz (stk k))] Q E := by
  have ig : ∀ {E : Px} {Q : O → Rho → Prop}, Q (.fz (.bool (goalB g s k))) [some (.fz (gmD g)), some (.fz (.str s)), some (.fz (stk k))] → Wp g__law_at_goal [some (.fz (gmD g)), some (.fz (.str s)), some (.fz (stk k))] Q E := fun z => lgoal_w G hs hk z
  have g2 := gm_ix2 (g := g)
  have hml := G.ml
  unfold g__law_options
  done
  unfold f__law_options
  cases k with
  | nil =>
    have hl : hLen [.fz (stk [])] = some (.fz (.int 0)) := rfl
    generalize gmD g = GG at *
    repeat done
    exact q
  | cons l k =>
    have vs := st_vw G hs
    have vl : Vw l := le_vw G (by
      unfold posB at hp
      rw [Bool.and_eq_true] at hp
      have := List.all_eq_true.mp hp.2 l List.mem_cons_self
      exact of_decide_eq_true this)
    obtain ⟨N, hN, hlen⟩ : ∃ N : Int, N ≠ 0 ∧ hLen [.fz (stk (l :: k))] = some (.fz (.int N)) := ⟨((l :: k).length : Int), by simp; omega, len_stk⟩
    have hq : hEq (.fz (.int N)) (.fz (.int 0)) = some (.fz (.bool false)) := by rw [hEq_i, decide_eq_false hN]
    have h0 : hIx (.fz (stk (l :: k))) (.fz (.int 0)) = some (.fz (.str l)) := hIx_t0
    obtain ⟨M, hM, hlm⟩ : ∃ M : Int, (g.mv.length : Int) = M ∧ hLen [.fz (.tuple (g.mv.map mvD))] = some (.fz (.int M)) := ⟨_, rfl, by show some (O.fz (.int ((g.mv.map mvD).length : Int))) = _; rw [List.length_map]⟩
    have ho : optD g s (l :: k) = if goalB g s (l :: k) = true then [] else stepsD g s l := rfl
    rw [ho] at q
    unfold stepsD stepsI at q
    have hix : ∀ p ∈ g.mv.zipIdx, hIx (.fz (.tuple (g.mv.map mvD))) (.fz (.int (p.2 : Int))) = some (.fz (mvD p.1)) := fun p hp => by
      have e := (List.mem_zipIdx_iff_getElem?.mp hp)
      have hlt : p.2 < g.mv.length := (List.getElem?_eq_some_iff.mp e).1
      show (atI (g.mv.map mvD) (p.2 : Int)).map O.fz = _
      have : ixN (g.mv.map mvD).length (p.2 : Int) = some p.2 := by
        unfold ixN
        rw [if_pos (by omega), List.length_map]
        simp
        exact hlt
      unfold atI
      rw [this, Option.bind_some, List.getElem?_map, e]
      rfl
    have hvw : ∀ p ∈ g.mv.zipIdx, Vw p.1.1 ∧ Vw p.1.2.1 := fun p hp => by
      have hm : p.1 ∈ g.mv := List.mem_of_getElem? (List.mem_zipIdx_iff_getElem?.mp hp)
      obtain ⟨a1, a2, _⟩ := G.mv p.1 hm
      exact ⟨st_vw G a1, le_vw G a2⟩
    have hrg : rangeD 0 M.toNat = g.mv.zipIdx.map fun p => PyData.int (p.2 : Int) := by
      rw [show M.toNat = g.mv.length by omega]
      unfold rangeD
      refine Eq.trans ?_ (zipIdx_map (F := fun i : Nat => PyData.int (i : Int)) (xs := g.mv) (j := 0)).symm
      rw [List.range_eq_range']
      refine List.map_congr_left fun i _ => ?_
      simp
    generalize gmD g = GG at *
    generalize goalB g s (l :: k) = B at *
    generalize stk (l :: k) = K at *
    repeat done
    · intro h; exact absurd h hN
    intro _
    repeat done
    refine ig ?_
    cases B with
    | true =>
      repeat done
      exact q
    | false =>
      repeat done
      rw [hrg]
      with_reducible refine w_lcT0 (xs := g.mv.zipIdx) (G := fun p => PyData.int (p.2 : Int)) (fun p => decide (p.1.1 = s ∧ p.1.2.1 = l)) (fun p => .int (p.2 : Int)) rfl rfl rfl (by rw [List.length_zipIdx]; omega) ?_ ?_
      · intro p hx
        have hi := hix p hx
        obtain ⟨v1, v2⟩ := hvw p hx
        have hsx : hSl (.fz (mvD p.1)) none (some 2) = some (.fz (.tuple [.str p.1.1, .str p.1.2.1])) := rfl
        have heq : hEq (.fz (.tuple [.str p.1.1, .str p.1.2.1])) (.fz (.tuple [.str s, .str l])) = some (.fz (.bool (decide (p.1.1 = s ∧ p.1.2.1 = l)))) := pair_eq v1 v2 vs vl
        generalize hX : mvD p.1 = X at *
        generalize hD : decide (p.1.1 = s ∧ p.1.2.1 = l) = D at *
        generalize (p.2 : Int) = kk at *
        repeat done
        refine ⟨rfl, ?_⟩
        repeat done
        refine ⟨rfl, fun _ => ?_, fun _ => ⟨rfl, rfl⟩⟩
        repeat done
        exact ⟨rfl, rfl, rfl⟩
      repeat done
      exact q
abbrev gsk (g : Gm) (s : Str) (k : List Str) : Rho := [some (.fz (gmD g)), some (.fz (.str s)), some (.fz (stk k))]
theorem options_w (G : GmOk g) (hk : k.length ≤ 1000) (q : s ∈ nmG g → posB g k = true → Q (.mu false (.lst (optD g s k))) (gsk g s k)) (e1 : s ∉ nmG g → E cM (gsk g s k)) (e2 : s ∈ nmG g → posB g k = false → E cN (gsk g s k)) :
    Wp (g_options cB cM cN cP cL cT) (gsk g s k) Q E := by
  unfold g_options
  done
  unfold f_options
  repeat done
  refine checkpos_w (fun hs hp => ?_) (fun hs => ⟨_, rfl, e1 hs⟩) (fun hs hp => ⟨_, rfl, e2 hs hp⟩) hk
  repeat done
  refine possible_w G hs hk ?_
  repeat done
  exact q hs hp
theorem atgoal_w (G : GmOk g) (hk : k.length ≤ 1000) (q : s ∈ nmG g → posB g k = true → Q (.fz (.bool (goalB g s k))) (gsk g s k)) (e1 : s ∉ nmG g → E cM (gsk g s k)) (e2 : s ∈ nmG g → posB g k = false → E cN (gsk g s k)) :
    Wp (g_at_goal cB cM cN cP cL cT) (gsk g s k) Q E := by
  unfold g_at_goal
  done
  unfold f_at_goal
  repeat done
  refine checkpos_w (fun hs hp => ?_) (fun hs => ⟨_, rfl, e1 hs⟩) (fun hs hp => ⟨_, rfl, e2 hs hp⟩) hk
  repeat done
  refine isgoal_w G hs hk ?_
  repeat done
  exact q hs hp
/-- the position is none -/
theorem winner_w (hk : k.length ≤ 1000) (h : s ∈ nmG g → posB g k = false) (e1 : s ∉ nmG g → E cM (gsk g s k)) (e2 : s ∈ nmG g → posB g k = false → E cN (gsk g s k)) :
    Wp (g_winner cB cM cN cP cL cT) (gsk g s k) Q E := by
  unfold g_winner
  done
  unfold f_winner
  repeat done
  refine checkpos_w (fun hs hp => ?_) (fun hs => ⟨_, rfl, e1 hs⟩) (fun hs hp => ⟨_, rfl, e2 hs hp⟩) hk
  rw [h hs] at hp
  cases hp
theorem plan_w {m : Mu} (hk : k.length ≤ 1000) (h : s ∈ nmG g → posB g k = false) (e1 : s ∉ nmG g → E cM (some (.mu true m) :: gsk g s k)) (e2 : s ∈ nmG g → posB g k = false → E cN (some (.mu true m) :: gsk g s k)) :
    Wp (g_Plan___init__ cB cM cN cP cL cT) [some (.mu true m), some (.fz (gmD g)), some (.fz (.str s)), some (.fz (stk k))] Q E := by
  unfold g_Plan___init__
  done
  unfold f_Plan___init__
  repeat done
  refine checkpos_w (fun hs hp => ?_) (fun hs => ⟨_, rfl, e1 hs⟩) (fun hs hp => ⟨_, rfl, e2 hs hp⟩) hk
  rw [h hs] at hp
  cases hp
theorem winning_w (h : s ∉ nmG g) (e1 : E cM [some (.fz (gmD g)), some (.fz (.str s))]) : Wp (g_winning cB cM cN cP cL cT) [some (.fz (gmD g)), some (.fz (.str s))] Q E := by
  unfold g_winning
  done
  unfold f_winning
  repeat done
  refine playerof_w (fun hs => absurd hs h) (fun hs => ⟨_, rfl, e1⟩)
end
def clsT (g : Gm) (s : Str) (k : List Str) : Str := if s ∈ nmG g then (if posB g k = true then "none" else "allowed") else "missing"
theorem suite1 {x y : Str} {y0 y1 y2 y3 y4 : Option O} : (hRet (h2 hIx (roF (eLst (aC (eC (.str x)) (aC (eC (.str y)) aN)))) (hN hInt (hCons (hOr (hC (.bool false)) (hNot (hC (.bool true)))) hNil)))) [y0, y1, y2, y3, y4] = some (.ok (.rt (.o (.fz (.str x)))) [y0, y1, y2, y3, y4]) := by
  have e2 : roF (eLst (aC (eC (.str x)) (aC (eC (.str y)) aN))) [y0, y1, y2, y3, y4] = some (.list [.str x, .str y]) := rfl
  have e3 : (hN hInt (hCons (hOr (hC (.bool false)) (hNot (hC (.bool true)))) hNil)) [y0, y1, y2, y3, y4] = some (.int 0) := rfl
  have e4 : hIx (.fz (.list [.str x, .str y])) (.fz (.int 0)) = some (.fz (.str x)) := rfl
  unfold hRet h2
  simp only [e2, e3, e4, Option.bind_some]
  rfl
section
variable {E : Px} {Q : O → Rho → Prop} {cB cM cN cP cL cT : Nat} {g : Gm} {s l : Str} {k : List Str}
theorem class_w (G : GmOk g) (hk : k.length ≤ 1000) (hne : cN ≠ cM) {j : Int} (j0 : 0 ≤ j) (j1 : j < 4) (hj : s ∈ nmG g → posB g k = true → j < 2) (q : Q (.fz (.str (clsT g s k))) [some (.fz (gmD g)), some (.fz (.str s)), some (.fz (stk k)), some (.fz (.int j))]) :
    Wp (g__law_class cB cM cN cP cL cT) [some (.fz (gmD g)), some (.fz (.str s)), some (.fz (stk k)), some (.fz (.int j))] Q E := by
  unfold g__law_class
  done
  unfold f__law_class
  have hm : s ∉ nmG g → clsT g s k = "missing" := fun h => if_neg h
  have ha : s ∈ nmG g → posB g k = false → clsT g s k = "allowed" := fun h h2 => by unfold clsT; rw [if_pos h, h2]; rfl
  have hn : s ∈ nmG g → posB g k = true → clsT g s k = "none" := fun h h2 => by unfold clsT; rw [if_pos h, if_pos h2]
  done
  with_reducible refine w_tryM ?_
  have mis : ∀ {D : Fl → Rho → Prop} {fs : M Fl} {EE : Px} {m2 m3 : M Fl} {h3 : Hq}, s ∉ nmG g → (∀ ρ, ρ = [some (.fz (gmD g)), some (.fz (.str s)), some (.fz (stk k)), some (.fz (.int j)), none] → D (.rt (.o (.fz (.str "missing")))) ρ) → EM [(some 4, (hdYes cM (hRet (h2 hIx (roF (eLst (aC (eC (.str "missing")) (aC (eC (.str "other")) aN)))) (hN hInt (hCons (hOr (hC (.bool false)) (hNot (hC (.bool true)))) hNil)))) (hdNo cN hdNil))), (some 4, (hdYes cN (hRet (h2 hIx (roF (eLst (aC (eC (.str "allowed")) (aC (eC (.str "other")) aN)))) (hN hInt (hCons (hOr (hC (.bool false)) (hNot (hC (.bool true)))) hNil)))) hdNil)), (some 4, hdNil)] D EE cM [some (.fz (gmD g)), some (.fz (.str s)), some (.fz (stk k)), some (.fz (.int j)), none] := by
    intro D fs EE m2 m3 h3 hs hD
    exact em_as rfl (.eq suite1 ⟨rfl, hD _ rfl⟩) (yes_eq (D := cM))
  have all : ∀ {D : Fl → Rho → Prop} {EE : Px}, (∀ ρ, ρ = [some (.fz (gmD g)), some (.fz (.str s)), some (.fz (stk k)), some (.fz (.int j)), none] → D (.rt (.o (.fz (.str "allowed")))) ρ) → EM [(some 4, (hdYes cM (hRet (h2 hIx (roF (eLst (aC (eC (.str "missing")) (aC (eC (.str "other")) aN)))) (hN hInt (hCons (hOr (hC (.bool false)) (hNot (hC (.bool true)))) hNil)))) (hdNo cN hdNil))), (some 4, (hdYes cN (hRet (h2 hIx (roF (eLst (aC (eC (.str "allowed")) (aC (eC (.str "other")) aN)))) (hN hInt (hCons (hOr (hC (.bool false)) (hNot (hC (.bool true)))) hNil)))) hdNil)), (some 4, hdNil)] D EE cN [some (.fz (gmD g)), some (.fz (.str s)), some (.fz (stk k)), some (.fz (.int j)), none] := by
    intro D EE hD
    exact em_next ((yes_ne hne).trans no_eq) (em_as rfl (.eq suite1 ⟨rfl, hD _ rfl⟩) (yes_eq (D := cN)))
  have opt : ∀ {E : Px} {Q : O → Rho → Prop}, (s ∈ nmG g → posB g k = true → Q (.mu false (.lst (optD g s k))) [some (.fz (gmD g)), some (.fz (.str s)), some (.fz (stk k))]) → (s ∉ nmG g → E cM [some (.fz (gmD g)), some (.fz (.str s)), some (.fz (stk k))]) → (s ∈ nmG g → posB g k = false → E cN [some (.fz (gmD g)), some (.fz (.str s)), some (.fz (stk k))]) →
    Wp (g_options cB cM cN cP cL cT) [some (.fz (gmD g)), some (.fz (.str s)), some (.fz (stk k))] Q E := fun a b c => options_w G hk a b c
  have atg : ∀ {E : Px} {Q : O → Rho → Prop}, (s ∈ nmG g → posB g k = true → Q (.fz (.bool (goalB g s k))) [some (.fz (gmD g)), some (.fz (.str s)), some (.fz (stk k))]) → (s ∉ nmG g → E cM [some (.fz (gmD g)), some (.fz (.str s)), some (.fz (stk k))]) → (s ∈ nmG g → posB g k = false → E cN [some (.fz (gmD g)), some (.fz (.str s)), some (.fz (stk k))]) →
    Wp (g_at_goal cB cM cN cP cL cT) [some (.fz (gmD g)), some (.fz (.str s)), some (.fz (stk k))] Q E := fun a b c => atgoal_w G hk a b c
  have win : ∀ {E : Px} {Q : O → Rho → Prop}, (s ∈ nmG g → posB g k = false) → (s ∉ nmG g → E cM [some (.fz (gmD g)), some (.fz (.str s)), some (.fz (stk k))]) → (s ∈ nmG g → posB g k = false → E cN [some (.fz (gmD g)), some (.fz (.str s)), some (.fz (stk k))]) →
    Wp (g_winner cB cM cN cP cL cT) [some (.fz (gmD g)), some (.fz (.str s)), some (.fz (stk k))] Q E := fun a b c => winner_w hk a b c
  have pln : ∀ {m : Mu} {E : Px} {Q : O → Rho → Prop}, (s ∈ nmG g → posB g k = false) → (s ∉ nmG g → E cM [some (.mu true m), some (.fz (gmD g)), some (.fz (.str s)), some (.fz (stk k))]) → (s ∈ nmG g → posB g k = false → E cN [some (.mu true m), some (.fz (gmD g)), some (.fz (.str s)), some (.fz (stk k))]) →
    Wp (g_Plan___init__ cB cM cN cP cL cT) [some (.mu true m), some (.fz (gmD g)), some (.fz (.str s)), some (.fz (stk k))] Q E := fun a b c => plan_w hk a b c
  generalize gmD g = GG at *
  generalize stk k = K at *
  have hpb : 2 ≤ j → s ∈ nmG g → posB g k = false := fun h hs => by
    cases hp : posB g k with
    | false => rfl
    | true => have := hj hs hp; omega
  have hj4 : j = 0 ∨ j = 1 ∨ j = 2 ∨ j = 3 := by omega
  clear hj
  rcases hj4 with rfl | rfl | rfl | rfl
  · repeat done
    refine opt (fun hs hp => ?_) (fun hs => mis (fs := sN) (m2 := sN) (m3 := sN) (h3 := hdNil) hs (fun _ e => ?_)) (fun hs hp => all (fun _ e => ?_))
    · rw [hn hs hp] at q
      repeat done
      exact q
    · subst e
      rw [hm hs] at q
      show Wp (seqK _ (.rt _)) _ _ _
      repeat done
      exact q
    · subst e
      rw [ha hs hp] at q
      show Wp (seqK _ (.rt _)) _ _ _
      repeat done
      exact q
  · repeat done
    refine atg (fun hs hp => ?_) (fun hs => mis (fs := sN) (m2 := sN) (m3 := sN) (h3 := hdNil) hs (fun _ e => ?_)) (fun hs hp => all (fun _ e => ?_))
    · rw [hn hs hp] at q
      repeat done
      exact q
    · subst e
      rw [hm hs] at q
      show Wp (seqK _ (.rt _)) _ _ _
      repeat done
      exact q
    · subst e
      rw [ha hs hp] at q
      show Wp (seqK _ (.rt _)) _ _ _
      repeat done
      exact q
  · repeat done
    refine win (hpb (by decide)) (fun hs => mis (fs := sN) (m2 := sN) (m3 := sN) (h3 := hdNil) hs (fun _ e => ?_)) (fun hs hp => all (fun _ e => ?_))
    · subst e
      rw [hm hs] at q
      show Wp (seqK _ (.rt _)) _ _ _
      repeat done
      exact q
    · subst e
      rw [ha hs hp] at q
      show Wp (seqK _ (.rt _)) _ _ _
      repeat done
      exact q
  · repeat done
    refine pln (hpb (by decide)) (fun hs => mis (fs := sN) (m2 := sN) (m3 := sN) (h3 := hdNil) hs (fun _ e => ?_)) (fun hs hp => all (fun _ e => ?_))
    · subst e
      rw [hm hs] at q
      show Wp (seqK _ (.rt _)) _ _ _
      repeat done
      exact q
    · subst e
      rw [ha hs hp] at q
      show Wp (seqK _ (.rt _)) _ _ _
      repeat done
      exact q
theorem class4_w (hs : s ∉ nmG g) {K : PyData} (q : Q (.fz (.str "missing")) [some (.fz (gmD g)), some (.fz (.str s)), some (.fz K), some (.fz (.int 4))]) :
    Wp (g__law_class cB cM cN cP cL cT) [some (.fz (gmD g)), some (.fz (.str s)), some (.fz K), some (.fz (.int 4))] Q E := by
  have wi : ∀ {E : Px} {Q : O → Rho → Prop}, E cM [some (.fz (gmD g)), some (.fz (.str s))] → Wp (g_winning cB cM cN cP cL cT) [some (.fz (gmD g)), some (.fz (.str s))] Q E := fun a => winning_w hs a
  unfold g__law_class
  done
  unfold f__law_class
  generalize gmD g = GG at *
  done
  with_reducible refine w_tryM ?_
  repeat done
  refine wi ?_
  refine em_as rfl (.eq suite1 ⟨rfl, ?_⟩) (yes_eq (D := cM))
  show Wp (seqK _ (.rt _)) _ _ _
  repeat done
  exact q
end
/-! equality, lists -/
theorem cutL_m1 {α : Type} {xs : List α} : cutL xs none (some (-1)) = xs.dropLast := by
  unfold cutL
  rw [show HT.sIx xs.length 0 none = 0 from rfl, List.drop_zero, Nat.sub_zero, List.dropLast_eq_take]
  congr 1
  show HT.sIx xs.length xs.length (some (-1)) = _
  unfold HT.sIx
  simp
  omega
theorem pairsG_nd {st : List (Str × Int)} {n : Nat} (h : ∀ p ∈ st, Vw p.1) (k : ∀ p ∈ st, p.2 = 0 ∨ p.2 = 1) (hl : st.length ≤ n) : Nd (.tuple (sgD st)) (n * 19) 2 := nd_tup (W := 18) (D := 1) (n := n) (fun d hd => by
  obtain ⟨p, hp, rfl⟩ := List.mem_map.mp hd
  refine nd_tup (W := 8) (D := 0) (n := 2) (fun d hd => ?_) (by simp)
  rcases List.mem_cons.mp hd with rfl | hd
  · exact nd_str (h p hp)
  rcases List.mem_cons.mp hd with rfl | hd
  · exact nd_int (by have := k p hp; omega) (by have := k p hp; omega)
  · cases hd) (by rw [List.length_map]; exact hl)
theorem gm_nd {g : Gm} (G : GmOk g) : Nd (gmD g) 12324 4 := nd_tup (W := 3080) (D := 3) (n := 4) (fun d hd => by
  rcases List.mem_cons.mp hd with rfl | hd
  · exact (pairsG_nd (n := 6) (fun p hp => st_vw G (List.mem_map.mpr ⟨p, hp, rfl⟩)) G.pl G.s6).mono (by omega) (by omega)
  rcases List.mem_cons.mp hd with rfl | hd
  · exact (strs_nd (n := 3) (fun w hw => le_vw G hw) G.l3).mono (by omega) (by omega)
  rcases List.mem_cons.mp hd with rfl | hd
  · refine (nd_tup (W := 76) (D := 2) (n := 40) (fun d hd => ?_) (by rw [List.length_map]; exact G.ml)).mono (by omega) (by omega)
    obtain ⟨m, hm, rfl⟩ := List.mem_map.mp hd
    obtain ⟨a1, a2, a3, a4, a5⟩ := G.mv m hm
    exact mvD_nd (st_vw G a1) (le_vw G a2) (st_vw G a3) (fun w hw => le_vw G (a5 w hw)) a4
  rcases List.mem_cons.mp hd with rfl | hd
  · refine (nd_tup (W := 18) (D := 1) (n := 6) (fun d hd => ?_) (by rw [List.length_map]; exact G.gl)).mono (by omega) (by omega)
    obtain ⟨m, hm, rfl⟩ := List.mem_map.mp hd
    exact goD_nd (st_vw G (G.go m hm))
  · cases hd) (by simp)
theorem hAddT {x y : List PyData} (h : x.length + y.length ≤ 16777216) : hAdd (.fz (.tuple x)) (.fz (.tuple y)) = some (.fz (.tuple (x ++ y))) := by
  show (if x.length + y.length ≤ 16777216 then some (O.fz (.tuple (x ++ y))) else none) = _
  rw [if_pos h]
theorem list_ndE {ds : List PyData} (h : ∀ d ∈ ds, Nd d 8 0) (hl : ds.length ≤ 100) {b b' : Bool} : hNe (.mu b (.lst ds)) (.mu b' (.lst ds)) = some (.fz (.bool false)) := by
  have hd : deepD (.list ds) = true := by
    have := (nd_tup (n := 100) h hl).deep (by omega)
    exact this
  have hc : PyData.canLay0 (.list ds) = true := (nd_tup (n := 100) h hl).cl
  unfold hNe
  rw [show (O.mu b (.lst ds)).view = .list ds from rfl, show (O.mu b' (.lst ds)).view = .list ds from rfl, hd, if_pos (by simp), PySem.SeqAt.eqv_refl _ hc]
  rfl
theorem hNe_b {B : Bool} : hNe (.fz (.bool B)) (.fz (.bool B)) = some (.fz (.bool false)) := by cases B <;> rfl
theorem hNe_s {w : Str} : hNe (.fz (.str w)) (.fz (.str w)) = some (.fz (.bool false)) := by
  show some (O.fz (.bool (!(w == w)))) = _
  rw [beq_self_eq_true]; rfl
theorem optD_int {g : Gm} (G : GmOk g) {s : Str} {k : List Str} : ∃ is : List Int, optD g s k = is.map .int ∧ is.length ≤ 40 ∧ ∀ i ∈ is, 0 ≤ i ∧ i < 40 := by
  cases k with
  | nil => exact ⟨[], rfl, by simp, (fun _ h => absurd h List.not_mem_nil)⟩
  | cons l k =>
    have ho : optD g s (l :: k) = if goalB g s (l :: k) = true then [] else stepsD g s l := rfl
    rw [ho]
    by_cases h : goalB g s (l :: k) = true
    · rw [if_pos h]
      exact ⟨[], rfl, by simp, (fun _ h => absurd h List.not_mem_nil)⟩
    · rw [if_neg h]
      refine ⟨(stepsI g s l).map fun p => (p.2 : Int), by unfold stepsD; rw [List.map_map]; rfl, ?_, fun i hi => ?_⟩
      · rw [List.length_map]
        have := List.length_filter_le (fun p : Mv × Nat => decide (p.1.1 = s ∧ p.1.2.1 = l)) g.mv.zipIdx
        rw [List.length_zipIdx] at this
        have := G.ml
        unfold stepsI
        omega
      · obtain ⟨p, hp, rfl⟩ := List.mem_map.mp hi
        have hp := (List.mem_filter.mp hp).1
        have := (List.getElem?_eq_some_iff.mp (List.mem_zipIdx_iff_getElem?.mp hp)).1
        have := G.ml
        omega
theorem w_tgTe {n : Nat} {hs : List PyData → M Fl} {ds : List PyData} {d : PyData} {ρ : Rho} {QF : Fl → Rho → Prop} {E : Px} (ed : d = .tuple ds) (e : ds.length = n) (w : Wp (hs ds) ρ QF E) : Wp (tgTup n hs d) ρ QF E := by
  subst ed; exact w_tgT e w
theorem slT_to {ds : List PyData} {k : Nat} : hSl (.fz (.tuple ds)) none (some (k : Int)) = some (.fz (.tuple (ds.take k))) := by
  show some (O.fz (.tuple (cutL ds none (some (k : Int))))) = _
  rw [cutL_to]
theorem slT_from {ds : List PyData} {k : Nat} (h : k ≤ ds.length) : hSl (.fz (.tuple ds)) (some (k : Int)) none = some (.fz (.tuple (ds.drop k))) := by
  show some (O.fz (.tuple (cutL ds (some (k : Int)) none))) = _
  rw [cutL_from h]
theorem posB_of {g : Gm} {k : List Str} (h : k.length ≤ 99) (h2 : ∀ l ∈ k, l ∈ g.le) : posB g k = true := by
  unfold posB
  rw [decide_eq_true h, Bool.true_and, List.all_eq_true]
  exact fun l hl => decide_eq_true (h2 l hl)
theorem posB_long {g : Gm} {k : List Str} (h : 99 < k.length) : posB g k = false := by
  unfold posB
  rw [decide_eq_false (by omega)]; rfl
theorem posB_bad {g : Gm} {k : List Str} {x : Str} (h : x ∈ k) (h2 : x ∉ g.le) : posB g k = false := by
  unfold posB
  rw [Bool.and_eq_false_iff]
  right
  rw [← Bool.not_eq_true, List.all_eq_true]
  intro z
  exact h2 (of_decide_eq_true (z x h))
abbrev lw (sc : PyData) (mm : Mu) (GG STs LEs MVs GOs : PyData) (sh : Str) (y8 y9 y10 y11 y12 y13 y14 y15 y16 y17 : Option O) : Rho :=
  [some (.fz sc), some (.mu false mm), some (.fz GG), some (.fz STs), some (.fz LEs), some (.fz MVs), some (.fz GOs), some (.fz (.str sh)), y8, y9, y10, y11, y12, y13, y14, y15, y16, y17, none]
theorem law_ok (cB cM cN cP cL cT : Nat) (hne : cN ≠ cM) (xs : List Int) (hx : xs.length ≤ 63) : ∃ ρ', g_law cB cM cN cP cL cT [some (.fz (.list (xs.map .int)))] = some (.ok (.fz (.bool true)) ρ') := by
  obtain ⟨ns, G0, e1⟩ := stream_ok xs hx
  generalize hsc : PyData.list (xs.map .int) = sc at e1
  obtain ⟨k0, hk0, S0⟩ : ∃ k0, 2 ^ 100 ≤ k0 ∧ Stt (stD ns 0) k0 := ⟨2 ^ 199, by decide, ns, 0, rfl, G0, by decide, by decide⟩
  have W : Wp (g_law cB cM cN cP cL cT) [some (.fz sc)] (fun x _ => x = .fz (.bool true)) nx := by
    unfold g_law
    done
    unfold f_law
    repeat done
    refine .eq e1 ?_
    repeat done
    with_reducible refine game_w S0 (by omega) (by decide) (by decide) ?_
    intro g m1 G S1
    have hrep := nd_repr (d := .fz (gmD g)) (gm_nd G) (by omega) (by omega)
    generalize hsh : PyData.shown (gmD g) = sh at *
    have hrep : hRepr [.fz (gmD g)] = some (.fz (.str sh)) := by rw [hrep]; exact congrArg (fun z => some (O.fz (.str z))) hsh
    have hes : hEq (.fz (.str sh)) (.fz (.str sh)) = some (.fz (.bool true)) := by
      rw [hEq_s, decide_eq_true rfl]
    obtain ⟨l0, lt, hl0⟩ : ∃ l0 lt, g.le = l0 :: lt := by
      cases h : g.le with
      | nil => have := G.l1; rw [h] at this; cases this
      | cons a b => exact ⟨a, b, rfl⟩
    have hl0m : l0 ∈ g.le := by rw [hl0]; exact List.mem_cons_self
    have hle0 : hIx (.fz (.tuple (g.le.map .str))) (.fz (.int 0)) = some (.fz (.str l0)) := by rw [hl0]; exact hIx_t0
    have disj : ∀ w, w ∈ nmG g → w ∈ g.le → False := fun w h1 h2 => by
      have := (List.nodup_append.mp G.nd).2.2 w h1 w h2
      exact this rfl
    have qqn : ∀ w, Nq w → w ≠ "qq" := fun w h e => by rw [e] at h; exact h rfl
    have btn : ∀ w, Vw w → w ≠ "bottom" := fun w h e => h.nr (by rw [e]; decide)
    have emn : ∀ w, Vw w → w ≠ "" := fun w h e => by have := h.lo; rw [e] at this; cases this
    obtain ⟨NS, hNS, hlS⟩ : ∃ n : Int, (g.st.length : Int) = n ∧ hLen [.fz (.tuple (sgD g.st))] = some (.fz (.int n)) := ⟨_, rfl, by show some (O.fz (.int ((sgD g.st).length : Int))) = _; rw [List.length_map]⟩
    obtain ⟨NL, hNL, hlL⟩ : ∃ n : Int, (g.le.length : Int) = n ∧ hLen [.fz (.tuple (g.le.map .str))] = some (.fz (.int n)) := ⟨_, rfl, by show some (O.fz (.int ((g.le.map PyData.str).length : Int))) = _; rw [List.length_map]⟩
    have s1 := G.s1
    have l1 := G.l1
    have ixS : ∀ {r : Int}, 0 ≤ r → r < NS → ∃ p ∈ g.st, hIx (.fz (.tuple (sgD g.st))) (.fz (.int r)) = some (.fz (.tuple [.str p.1, .int p.2])) := fun {r} h0 h1 => by
      obtain ⟨d, e, hd⟩ := hIx_lt (a := .fz (.tuple (sgD g.st))) (ds := sgD g.st) (.inr rfl) h0 (by rw [List.length_map]; omega)
      obtain ⟨p, hp, rfl⟩ := List.mem_map.mp hd
      exact ⟨p, hp, e⟩
    have ixL : ∀ {r : Int}, 0 ≤ r → r < NL → ∃ p ∈ g.le, hIx (.fz (.tuple (g.le.map .str))) (.fz (.int r)) = some (.fz (.str p)) := fun {r} h0 h1 => by
      obtain ⟨d, e, hd⟩ := hIx_lt (a := .fz (.tuple (g.le.map .str))) (ds := g.le.map .str) (.inr rfl) h0 (by rw [List.length_map]; omega)
      obtain ⟨p, hp, rfl⟩ := List.mem_map.mp hd
      exact ⟨p, hp, e⟩
    have opt : ∀ {s : Str} {k : List Str} {E : Px} {Q : O → Rho → Prop}, s ∈ nmG g → posB g k = true → k.length ≤ 1000 → Q (.mu false (.lst (optD g s k))) [some (.fz (gmD g)), some (.fz (.str s)), some (.fz (stk k))] →
      Wp (g_options cB cM cN cP cL cT) [some (.fz (gmD g)), some (.fz (.str s)), some (.fz (stk k))] Q E := fun hs hp hk q => options_w G hk (fun _ _ => q) (fun h => absurd hs h) (fun _ h => by rw [hp] at h; cases h)
    have atg : ∀ {s : Str} {k : List Str} {E : Px} {Q : O → Rho → Prop}, s ∈ nmG g → posB g k = true → k.length ≤ 1000 → Q (.fz (.bool (goalB g s k))) [some (.fz (gmD g)), some (.fz (.str s)), some (.fz (stk k))] →
      Wp (g_at_goal cB cM cN cP cL cT) [some (.fz (gmD g)), some (.fz (.str s)), some (.fz (stk k))] Q E := fun hs hp hk q => atgoal_w G hk (fun _ _ => q) (fun h => absurd hs h) (fun _ h => by rw [hp] at h; cases h)
    have lop : ∀ {s : Str} {k : List Str} {E : Px} {Q : O → Rho → Prop}, s ∈ nmG g → posB g k = true → k.length ≤ 1000 → Q (.mu false (.lst (optD g s k))) [some (.fz (gmD g)), some (.fz (.str s)), some (.fz (stk k))] →
      Wp g__law_options [some (.fz (gmD g)), some (.fz (.str s)), some (.fz (stk k))] Q E := fun hs hp hk q => loptions_w G hs hp hk q
    have lgo : ∀ {s : Str} {k : List Str} {E : Px} {Q : O → Rho → Prop}, s ∈ nmG g → k.length ≤ 1000 → Q (.fz (.bool (goalB g s k))) [some (.fz (gmD g)), some (.fz (.str s)), some (.fz (stk k))] →
      Wp g__law_at_goal [some (.fz (gmD g)), some (.fz (.str s)), some (.fz (stk k))] Q E := fun hs hk q => lgoal_w G hs hk q
    have cls : ∀ {s : Str} {k : List Str} {E : Px} {Q : O → Rho → Prop} {j : Int}, k.length ≤ 1000 → 0 ≤ j → j < 4 → (s ∈ nmG g → posB g k = true → j < 2) → Q (.fz (.str (clsT g s k))) [some (.fz (gmD g)), some (.fz (.str s)), some (.fz (stk k)), some (.fz (.int j))] →
      Wp (g__law_class cB cM cN cP cL cT) [some (.fz (gmD g)), some (.fz (.str s)), some (.fz (stk k)), some (.fz (.int j))] Q E := fun hk j0 j1 hj q => class_w G hk hne j0 j1 hj q
    have cl4 : ∀ {s : Str} {K : PyData} {E : Px} {Q : O → Rho → Prop}, s ∉ nmG g → Q (.fz (.str "missing")) [some (.fz (gmD g)), some (.fz (.str s)), some (.fz K), some (.fz (.int 4))] →
      Wp (g__law_class cB cM cN cP cL cT) [some (.fz (gmD g)), some (.fz (.str s)), some (.fz K), some (.fz (.int 4))] Q E := fun hs q => class4_w hs q
    have hGG : gmD g = .tuple [.tuple (sgD g.st), .tuple (g.le.map .str), .tuple (g.mv.map mvD), .tuple (g.go.map goD)] := rfl
    have hsN : ∀ {s : Str} {k : List Str}, s ∉ nmG g → clsT g s k = "missing" := fun h => if_neg h
    have hsA : ∀ {s : Str} {k : List Str}, s ∈ nmG g → posB g k = false → clsT g s k = "allowed" := fun h h2 => by unfold clsT; rw [if_pos h, h2]; rfl
    have hsO : ∀ {s : Str} {k : List Str}, s ∈ nmG g → posB g k = true → clsT g s k = "none" := fun h h2 => by unfold clsT; rw [if_pos h, if_pos h2]
    have hoi := fun (s : Str) (k : List Str) => @optD_int g G s k
    have vwS : ∀ w, w ∈ nmG g → Vw w := fun w h => st_vw G h
    have vwL : ∀ w, w ∈ g.le → Vw w := fun w h => le_vw G h
    have nqS : ∀ w, w ∈ nmG g → Nq w := fun w h => G.nq w (List.mem_append.mpr (.inl h))
    have nqL : ∀ w, w ∈ g.le → Nq w := fun w h => G.nq w (List.mem_append.mpr (.inr h))
    have pS : ∀ p ∈ g.st, p.1 ∈ nmG g := fun p hp => List.mem_map.mpr ⟨p, hp, rfl⟩
    have stl : ∀ {k : List Str}, (k.map PyData.str).length = k.length := fun {k} => List.length_map ..
    generalize gmD g = GG at *
    repeat done
    with_reducible refine w_tgTe hGG rfl ?_
    repeat done
    generalize hSTs : PyData.tuple (sgD g.st) = STs at *
    generalize hLEs : PyData.tuple (g.le.map .str) = LEs at *
    generalize PyData.tuple (g.mv.map mvD) = MVs at *
    generalize PyData.tuple (g.go.map goD) = GOs at *
    refine w_for (fun rest ρ => ∃ (mm : Mu) (y8 y9 y10 y11 y12 y13 y14 y15 y16 y17 : Option O), ρ = lw sc mm GG STs LEs MVs GOs sh y8 y9 y10 y11 y12 y13 y14 y15 y16 y17 ∧ Free y8 ∧ Free y9 ∧ Free y10 ∧ Free y11 ∧ Free y12 ∧ Free y13 ∧ Free y14 ∧ Free y15 ∧ Free y16 ∧ Free y17 ∧ Stt mm (1000 * rest.length)) ?_
      ⟨m1, none, none, none, none, none, none, none, none, none, none, rfl, free_n, free_n, free_n, free_n, free_n, free_n, free_n, free_n, free_n, free_n, S1.le (by rw [rangeD_len]; omega)⟩ ?_
    · rintro d rest _ ⟨mm, y8, y9, y10, y11, y12, y13, y14, y15, y16, y17, rfl, f8, f9, f10, f11, f12, f13, f14, f15, f16, f17, S2⟩
      rw [List.length_cons] at S2
      repeat done
      with_reducible refine next_w S2 (by omega) (by omega) ?_
      intro c m2 c0 c1 S3
      obtain ⟨p, hp, i1⟩ := ixS c0 c1
      have hpn := pS p hp
      repeat done
      with_reducible refine next_w S3 (by omega) (by decide) ?_
      intro a1 m3 a10 a11 S4
      repeat done
      with_reducible refine next_w S4 (by omega) (by decide) ?_
      intro a2 m4 a20 a21 S5
      repeat done
      with_reducible refine next_w S5 (by omega) (by decide) ?_
      intro a3 m5 a30 a31 S6
      repeat done
      with_reducible refine next_w S6 (by omega) (by decide) ?_
      intro a4 m6 a40 a41 S7
      obtain ⟨N, N0, N1, i2⟩ : ∃ N : Int, 0 ≤ N ∧ N ≤ 100 ∧ hIx (.mu false (.lst [.int a1, .int (98 + a2), .int a3])) (.fz (.int a4)) = some (.fz (.int N)) := by
        have : a4 = 0 ∨ a4 = 1 ∨ a4 = 2 := by omega
        rcases this with rfl | rfl | rfl
        · exact ⟨a1, by omega, by omega, rfl⟩
        · exact ⟨98 + a2, by omega, by omega, rfl⟩
        · exact ⟨a3, by omega, by omega, rfl⟩
      repeat done
      have hS0 : Stt m6 (1000 * rest.length + 500 + (rangeD 0 N.toNat).length) := S7.le (by rw [rangeD_len]; omega)
      have hN0 : ((([] : List Str).length : Int) + ((rangeD 0 N.toNat).length : Int)) = N := by rw [rangeD_len, List.length_nil]; omega
      with_reducible refine w_lc (fun rs acc ρ => ∃ (us : List Str) (mm : Mu), ρ = lw sc mm GG STs LEs MVs GOs sh (some (.fz d)) (some (.fz (.str p.1))) (some (.fz (.int N))) y11 y12 y13 y14 y15 y16 y17 ∧ acc = us.map .str ∧ (∀ u ∈ us, u ∈ g.le) ∧ (us.length + rs.length : Int) = N ∧ Stt mm (1000 * rest.length + 500 + rs.length)) rfl rfl ⟨[], m6, rfl, rfl, (fun _ h => absurd h List.not_mem_nil), hN0, hS0⟩ ?_ ?_
      · rintro d2 rs acc _ ⟨us, mm, rfl, rfl, hus, hn5, S13⟩
        rw [List.length_cons] at hn5 S13
        repeat done
        refine ⟨rfl, ?_⟩
        repeat done
        refine lcK_T ?_
        repeat done
        with_reducible refine next_w S13 (by omega) (by omega) ?_
        intro g m12 g0 g1 S14
        obtain ⟨u, hu, i4⟩ := ixL g0 g1
        repeat done
        refine ⟨by rw [List.length_map]; omega, rfl, us ++ [u], m12, rfl, by simp, fun x hx => ?_, by rw [List.length_append, List.length_singleton]; omega, S14.le (by omega)⟩
        rcases List.mem_append.mp hx with h | h
        · exact hus x h
        · rw [List.mem_singleton.mp h]; exact hu
      rintro ys _ ⟨us, mm, rfl, rfl, hus, hn5, S13⟩
      rw [List.length_nil] at hn5 S13
      show Wp _ (lw sc mm GG STs LEs MVs GOs sh (some (.fz d)) (some (.fz (.str p.1))) (some (.fz (.int N))) y11 y12 y13 y14 y15 y16 y17) _ _
      have htu : hTuple [.mu false (.lst (us.map .str))] = some (.fz (stk us)) := rfl
      have hul : us.length ≤ 100 := by omega
      have hsl1 : ∀ {n : Nat}, hSl (.fz (stk us)) none (some (n : Int)) = some (.fz (stk (us.take n))) := fun {n} => by
        show hSl (.fz (.tuple (us.map .str))) none (some (n : Int)) = some (.fz (.tuple ((us.take n).map .str)))
        rw [slT_to, List.map_take]
      have hsl2 : ∀ {n : Nat}, n ≤ us.length → hSl (.fz (stk us)) (some (n : Int)) none = some (.fz (stk (us.drop n))) := fun {n} h => by
        show hSl (.fz (.tuple (us.map .str))) (some (n : Int)) none = some (.fz (.tuple ((us.drop n).map .str)))
        rw [slT_from (by rw [List.length_map]; exact h), List.map_drop]
      have had : ∀ {n : Nat} {x : Str}, ∃ z, hAdd (.fz (stk (us.take n))) (.fz (.tuple [.str x])) = some (.fz z) ∧ hAdd (.fz z) (.fz (stk (us.drop n))) = some (.fz (stk (us.take n ++ [x] ++ us.drop n))) := fun {n x} => by
        refine ⟨stk (us.take n ++ [x]), ?_, ?_⟩
        · rw [hAddT (by rw [List.length_map, List.length_take, List.length_singleton]; omega)]
          simp
        · rw [hAddT (by rw [List.length_map, List.length_map, List.length_append, List.length_take, List.length_singleton, List.length_drop]; omega)]
          simp
      have hpos : N < 100 → posB g us = true := fun h => posB_of (by omega) hus
      have hneg : N > 99 → posB g us = false := fun h => posB_long (by omega)
      obtain ⟨is, hoD, his1, his2⟩ := hoi p.1 us
      have mid : ∀ {f g : M Fl} {QF : Fl → Rho → Prop} {EE : Px}, (N < 100 → Wp f (lw sc mm GG STs LEs MVs GOs sh (some (.fz d)) (some (.fz (.str p.1))) (some (.fz (.int N))) (some (.fz (stk us))) y12 y13 y14 y15 y16 y17) (fun fl ρ => fl = .nx ∧ ∃ y12 y13, ρ = lw sc mm GG STs LEs MVs GOs sh (some (.fz d)) (some (.fz (.str p.1))) (some (.fz (.int N))) (some (.fz (stk us))) y12 y13 y14 y15 y16 y17 ∧ Free y12 ∧ Free y13) nx) →
        (¬ N < 100 → Wp g (lw sc mm GG STs LEs MVs GOs sh (some (.fz d)) (some (.fz (.str p.1))) (some (.fz (.int N))) (some (.fz (stk us))) y12 y13 y14 y15 y16 y17) (fun fl ρ => fl = .nx ∧ ∃ y12 y13, ρ = lw sc mm GG STs LEs MVs GOs sh (some (.fz d)) (some (.fz (.str p.1))) (some (.fz (.int N))) (some (.fz (stk us))) y12 y13 y14 y15 y16 y17 ∧ Free y12 ∧ Free y13) nx) →
        (∀ y12 y13, Free y12 → Free y13 → QF .nx (lw sc mm GG STs LEs MVs GOs sh (some (.fz d)) (some (.fz (.str p.1))) (some (.fz (.int N))) (some (.fz (stk us))) y12 y13 y14 y15 y16 y17)) →
        Wp (ifK f g (decide (N < 100))) (lw sc mm GG STs LEs MVs GOs sh (some (.fz d)) (some (.fz (.str p.1))) (some (.fz (.int N))) (some (.fz (stk us))) y12 y13 y14 y15 y16 y17) QF EE := fun {f g QF EE} h1 h0 q => by
        refine Wp.mono (E := nx) (Q := fun fl ρ => fl = .nx ∧ ∃ y12 y13, ρ = lw sc mm GG STs LEs MVs GOs sh (some (.fz d)) (some (.fz (.str p.1))) (some (.fz (.int N))) (some (.fz (stk us))) y12 y13 y14 y15 y16 y17 ∧ Free y12 ∧ Free y13) ?_ ?_ (fun _ _ z => z.elim)
        · exact w_ifD h1 h0
        · rintro _ _ ⟨rfl, y12, y13, rfl, g1, g2⟩
          exact q y12 y13 g1 g2
      repeat (first | (with_reducible refine mid ?_ ?_ ?_) | done)
      · intro hN
        have hp := hpos hN
        have i7 : ∀ d ∈ is.map PyData.int, Nd d 8 0 := fun d hd => by
          obtain ⟨i, hi, rfl⟩ := List.mem_map.mp hd
          exact nd_int (by have := his2 i hi; omega) (by have := his2 i hi; omega)
        have n1 : hNe (.mu false (.lst (is.map .int))) (.mu false (.lst (is.map .int))) = some (.fz (.bool false)) := list_ndE i7 (by rw [List.length_map]; omega)
        have n2 : hIsi "list" (.mu false (.lst (is.map .int))) = some (.fz (.bool true)) := rfl
        have n3 : hAny [.mu false (.lst (is.map fun _ => .bool false))] = some (.fz (.bool false)) := by
          have := hAny_F (xs := is) (G := PyData.int) (b := false) (F := fun _ => .bool false) (p := fun _ => false) fun _ _ => rfl
          rw [List.map_map] at this
          rw [show (is.any fun _ => false) = false by simp] at this
          exact this
        have n4 : hIsi "bool" (.fz (.bool (goalB g p.1 us))) = some (.fz (.bool true)) := rfl
        have n5 := @hNe_b (goalB g p.1 us)
        have n6 : hSl (.mu false (.lst (is.map .int ++ [.int 7]))) none (some (-1)) = some (.mu false (.lst (is.map .int))) := by
          show some (O.mu false (.lst (cutL (is.map .int ++ [.int 7]) none (some (-1))))) = _
          rw [cutL_m1, List.dropLast_concat]
        have n8 : hNeg (.fz (.int 1)) = some (.fz (.int (-1))) := rfl
        have n9 : (is.map PyData.int).length < 16777216 := by rw [List.length_map]; omega
        generalize hB : goalB g p.1 us = B at n4 n5
        repeat done
        refine opt hpn hp (by omega) ?_
        rw [hoD]
        repeat done
        refine atg hpn hp (by omega) ?_
        rw [show goalB g p.1 us = B from hB]
        repeat done
        refine lop hpn hp (by omega) ?_
        rw [hoD]
        repeat done
        with_reducible refine w_lcLT (xs := is) (G := PyData.int) (fun _ => true) (fun _ => .bool false) rfl rfl rfl rfl rfl rfl (by omega) ?_ ?_
        · intro i hi
          have n10 : hIsi "bool" (.fz (.int i)) = some (.fz (.bool false)) := rfl
          repeat done
          refine ⟨rfl, ?_⟩
          repeat done
          refine ⟨rfl, fun _ => ?_, fun z => nomatch z⟩
          repeat done
          exact ⟨rfl, rfl, rfl⟩
        rw [List.filter_eq_self.mpr (fun _ _ => rfl)]
        repeat done
        refine lgo hpn (by omega) ?_
        rw [show goalB g p.1 us = B from hB]
        repeat done
        refine opt hpn hp (by omega) ?_
        rw [hoD]
        repeat done
        exact ⟨rfl, _, _, rfl, free_m, free_f⟩
      · intro hN
        repeat done
        exact ⟨rfl, _, _, rfl, f12, f13⟩
      intro y12 y13 f12 f13
      repeat done
      with_reducible refine next_w S13 (by omega) (by decide) ?_
      intro b1 m13 b10 b11 S14
      obtain ⟨z, hzn, i3⟩ : ∃ z : Str, z ∉ nmG g ∧ hIx (.mu false (.lst [.str (Str.ofString "qq"), .str l0, .str (Str.ofString "bottom"), .str (Str.ofString "")])) (.fz (.int b1)) = some (.fz (.str z)) := by
        have : b1 = 0 ∨ b1 = 1 ∨ b1 = 2 ∨ b1 = 3 := by omega
        rcases this with rfl | rfl | rfl | rfl
        · exact ⟨"qq", fun h => qqn _ (nqS _ h) rfl, rfl⟩
        · exact ⟨l0, fun h => disj _ h hl0m, rfl⟩
        · exact ⟨"bottom", fun h => btn _ (vwS _ h) rfl, rfl⟩
        · exact ⟨"", fun h => emn _ (vwS _ h) rfl, rfl⟩
      repeat done
      with_reducible refine next_w S14 (by omega) (by omega) ?_
      intro at_ m14 at0 at1 S15
      obtain ⟨A, hA⟩ : ∃ A : Nat, at_ = (A : Int) := ⟨at_.toNat, by omega⟩
      subst hA
      have hs1 := @hsl1 A
      have hs2 := @hsl2 A (by omega)
      repeat done
      with_reducible refine next_w S15 (by omega) (by decide) ?_
      intro b2 m15 b20 b21 S16
      obtain ⟨x, hxn, i4⟩ : ∃ x : Str, x ∉ g.le ∧ hIx (.mu false (.lst [.str (Str.ofString "qq"), .str p.1, .str (Str.ofString "bottom")])) (.fz (.int b2)) = some (.fz (.str x)) := by
        have : b2 = 0 ∨ b2 = 1 ∨ b2 = 2 := by omega
        rcases this with rfl | rfl | rfl
        · exact ⟨"qq", fun h => qqn _ (nqL _ h) rfl, rfl⟩
        · exact ⟨p.1, fun h => disj _ hpn h, rfl⟩
        · exact ⟨"bottom", fun h => btn _ (vwL _ h) rfl, rfl⟩
      obtain ⟨zz, hd1, hd2⟩ := @had A x
      have hwl : (us.take A ++ [x] ++ us.drop A).length ≤ 1000 := by
        rw [List.length_append, List.length_append, List.length_take, List.length_drop, List.length_singleton]; omega
      have hwb : posB g (us.take A ++ [x] ++ us.drop A) = false := posB_bad (x := x) (by simp) hxn
      generalize us.take A ++ [x] ++ us.drop A = ws at *
      generalize (A : Int) = A at *
      repeat done
      refine w_for (fun rest2 ρ => ∃ (mm : Mu) (y17 : Option O) (j : Nat), ρ = lw sc mm GG STs LEs MVs GOs sh (some (.fz d)) (some (.fz (.str p.1))) (some (.fz (.int N))) (some (.fz (stk us))) y12 y13 (some (.fz (.str z))) (some (.fz (.int A))) (some (.fz (stk ws))) y17 ∧ Free y17 ∧ rest2 = (rangeD 0 4).drop j ∧ Stt mm (1000 * rest.length + 10 * rest2.length)) ?_
        ⟨m15, y17, 0, rfl, f17, rfl, S16.le (by rw [rangeD_len]; omega)⟩ ?_
      · rintro d2 rest2 _ ⟨mm, y17, j, rfl, f17, er, S17⟩
        rw [List.length_cons] at S17
        have hj : j < 4 := by
          have := congrArg List.length er
          rw [List.length_drop, rangeD_len, List.length_cons] at this
          omega
        have hd : d2 = .int (0 + (j : Int)) ∧ rest2 = (rangeD 0 4).drop (j + 1) := by
          have h1 : (rangeD 0 4)[j]? = some (.int (0 + (j : Int))) := rangeD_at hj
          have h2 : ((rangeD 0 4).drop j)[0]? = some d2 := by rw [← er]; rfl
          rw [List.getElem?_drop, Nat.add_zero, h1] at h2
          refine ⟨by injection h2 with h2; exact h2.symm, ?_⟩
          have h3 : rest2 = ((rangeD 0 4).drop j).tail := by rw [← er]; rfl
          rw [h3, List.tail_drop]
        obtain ⟨rfl, er2⟩ := hd
        have j0 : 0 ≤ 0 + (j : Int) := by omega
        have j4 : 0 + (j : Int) < 4 := by omega
        have hjj : 0 + (j : Int) = j := by omega
        generalize 0 + (j : Int) = J at *
        repeat done
        with_reducible refine next_w S17 (by omega) (by decide) ?_
        intro b3 m16 b30 b31 S18
        obtain ⟨v, hvl, i5⟩ : ∃ v : List Str, v.length ≤ 1000 ∧ hIx (.mu false (.lst [stk us, stk ws])) (.fz (.int b3)) = some (.fz (stk v)) := by
          have : b3 = 0 ∨ b3 = 1 := by omega
          rcases this with rfl | rfl
          · exact ⟨us, by omega, rfl⟩
          · exact ⟨ws, hwl, rfl⟩
        have c1 : clsT g z v = "missing" := hsN hzn
        have c2 : clsT g p.1 ws = "allowed" := hsA hpn hwb
        have e1 := @hNe_s (Str.ofString "missing")
        have e2 := @hNe_s (Str.ofString "allowed")
        have e3 := @hNe_s (Str.ofString "none")
        repeat done
        refine cls hvl j0 j4 (fun h => absurd h hzn) ?_
        rw [c1]
        repeat done
        refine cls hwl j0 j4 (fun _ h => by rw [hwb] at h; cases h) ?_
        rw [c2]
        have done_ : ∃ (mm : Mu) (y17 : Option O) (j : Nat), lw sc m16 GG STs LEs MVs GOs sh (some (.fz d)) (some (.fz (.str p.1))) (some (.fz (.int N))) (some (.fz (stk us))) y12 y13 (some (.fz (.str z))) (some (.fz (.int A))) (some (.fz (stk ws))) (some (.fz (.int J))) = lw sc mm GG STs LEs MVs GOs sh (some (.fz d)) (some (.fz (.str p.1))) (some (.fz (.int N))) (some (.fz (stk us))) y12 y13 (some (.fz (.str z))) (some (.fz (.int A))) (some (.fz (stk ws))) y17 ∧ Free y17 ∧ rest2 = (rangeD 0 4).drop j ∧ Stt mm (1000 * rest.length + 10 * rest2.length) :=
          ⟨m16, _, j + 1, rfl, free_f, er2, S18.le (by omega)⟩
        repeat done
        · intro hN
          have c3 : clsT g p.1 us = "allowed" := hsA hpn (hneg hN)
          repeat done
          refine cls (by omega) j0 j4 (fun _ h => by rw [hneg hN] at h; cases h) ?_
          rw [c3]
          repeat done
          · intro _
            repeat done
            · intro h; omega
            · intro _
              repeat done
              exact done_
          · intro _
            repeat done
            exact done_
        · intro hN
          repeat done
          · intro h2
            repeat done
            · intro hN2
              have c3 : clsT g p.1 us = "none" := hsO hpn (hpos hN2)
              repeat done
              refine cls (by omega) j0 j4 (fun _ _ => h2) ?_
              rw [c3]
              repeat done
              exact done_
            · intro h; omega
          · intro _
            repeat done
            exact done_
      · rintro _ ⟨mm, y17, j, rfl, f17, er, S17⟩
        repeat done
        refine cl4 hzn ?_
        have e1 := @hNe_s (Str.ofString "missing")
        repeat done
        exact ⟨mm, _, _, _, _, _, _, _, _, _, _, rfl, free_f, free_f, free_f, free_f, f12, f13, free_f, free_f, free_f, f17, S17.le (by omega)⟩
    · rintro _ ⟨mm, y8, y9, y10, y11, y12, y13, y14, y15, y16, y17, rfl, f8, f9, f10, f11, f12, f13, f14, f15, f16, f17, S2⟩
      repeat done
      · intro _
        repeat done
        show O.fz (.bool (decide (sh = sh))) = _
        rw [decide_eq_true rfl]
      · intro h
        exact absurd rfl h
  obtain ⟨x, ρ', e, rfl⟩ := W.get
  exact ⟨ρ', e⟩
end VsG
namespace VsG
open PySem PySem.Spec PyProof.Rows L2 Vs
section
variable {P : Program} {w : World} {K : PySem.W.Frag} {mg : Str → Option Value}
theorem all_mk (n_cls_BadPaper : Nat) (n_cls_Missing : Nat) (n_cls_NotAllowed : Nat) (n_cls_PergolaError : Nat) (n_cls_Plan : Nat) (n_cls_TooLarge : Nat) {h : Heap} {fa : Addr} (X : K.In h) (G : h.Ns mainGlobals mg) (hfa : mg "law" = some (.ref fa))
    {f0 : Addr} {oc0 kV0 dc0 pm0 cd0 ct0 : Value} {od0 an0 : Option Addr} {sl0 : Array (Option Value)} (a0 : PySem.W.nsIn K mainGlobals "_law_at_goal" = some (some (.ref f0))) (l0 : K.lookup f0 = some ⟨oc0, od0, .func (PySem.W.fnOf "_law_at_goal" "_law_at_goal" (defArgs s__law_at_goal) (defBody s__law_at_goal) (defScope s__law_at_goal) .none kV0 dc0 pm0 an0 cd0 ct0), sl0⟩) (c0 : PySem.W.codeIn K cd0 "_law_at_goal" = true) (k0 : PySem.W.keepIn K (.ref f0) = true)
    {f1 : Addr} {oc1 kV1 dc1 pm1 cd1 ct1 : Value} {od1 an1 : Option Addr} {sl1 : Array (Option Value)} (a1 : PySem.W.nsIn K mainGlobals "player_of" = some (some (.ref f1))) (l1 : K.lookup f1 = some ⟨oc1, od1, .func (PySem.W.fnOf "player_of" "player_of" (defArgs s_player_of) (defBody s_player_of) (defScope s_player_of) .none kV1 dc1 pm1 an1 cd1 ct1), sl1⟩) (c1 : PySem.W.codeIn K cd1 "player_of" = true) (k1 : PySem.W.keepIn K (.ref f1) = true)
    {f2 : Addr} {oc2 kV2 dc2 pm2 cd2 ct2 : Value} {od2 an2 : Option Addr} {sl2 : Array (Option Value)} (a2 : PySem.W.nsIn K mainGlobals "check_position" = some (some (.ref f2))) (l2 : K.lookup f2 = some ⟨oc2, od2, .func (PySem.W.fnOf "check_position" "check_position" (defArgs s_check_position) (defBody s_check_position) (defScope s_check_position) .none kV2 dc2 pm2 an2 cd2 ct2), sl2⟩) (c2 : PySem.W.codeIn K cd2 "check_position" = true) (k2 : PySem.W.keepIn K (.ref f2) = true)
    {f4 : Addr} {oc4 kV4 dc4 pm4 cd4 ct4 : Value} {od4 an4 : Option Addr} {sl4 : Array (Option Value)} (a4 : PySem.W.nsIn K mainGlobals "is_goal" = some (some (.ref f4))) (l4 : K.lookup f4 = some ⟨oc4, od4, .func (PySem.W.fnOf "is_goal" "is_goal" (defArgs s_is_goal) (defBody s_is_goal) (defScope s_is_goal) .none kV4 dc4 pm4 an4 cd4 ct4), sl4⟩) (c4 : PySem.W.codeIn K cd4 "is_goal" = true) (k4 : PySem.W.keepIn K (.ref f4) = true)
    {f5 : Addr} {oc5 kV5 dc5 pm5 cd5 ct5 : Value} {od5 an5 : Option Addr} {sl5 : Array (Option Value)} (a5 : PySem.W.nsIn K mainGlobals "at_goal" = some (some (.ref f5))) (l5 : K.lookup f5 = some ⟨oc5, od5, .func (PySem.W.fnOf "at_goal" "at_goal" (defArgs s_at_goal) (defBody s_at_goal) (defScope s_at_goal) .none kV5 dc5 pm5 an5 cd5 ct5), sl5⟩) (c5 : PySem.W.codeIn K cd5 "at_goal" = true) (k5 : PySem.W.keepIn K (.ref f5) = true)
    {f6 : Addr} {oc6 kV6 dc6 pm6 cd6 ct6 : Value} {od6 an6 : Option Addr} {sl6 : Array (Option Value)} (a6 : PySem.W.nsIn K mainGlobals "steps_of" = some (some (.ref f6))) (l6 : K.lookup f6 = some ⟨oc6, od6, .func (PySem.W.fnOf "steps_of" "steps_of" (defArgs s_steps_of) (defBody s_steps_of) (defScope s_steps_of) .none kV6 dc6 pm6 an6 cd6 ct6), sl6⟩) (c6 : PySem.W.codeIn K cd6 "steps_of" = true) (k6 : PySem.W.keepIn K (.ref f6) = true)
    {f7 : Addr} {oc7 kV7 dc7 pm7 cd7 ct7 : Value} {od7 an7 : Option Addr} {sl7 : Array (Option Value)} (a7 : PySem.W.nsIn K mainGlobals "possible" = some (some (.ref f7))) (l7 : K.lookup f7 = some ⟨oc7, od7, .func (PySem.W.fnOf "possible" "possible" (defArgs s_possible) (defBody s_possible) (defScope s_possible) .none kV7 dc7 pm7 an7 cd7 ct7), sl7⟩) (c7 : PySem.W.codeIn K cd7 "possible" = true) (k7 : PySem.W.keepIn K (.ref f7) = true)
    {f8 : Addr} {oc8 kV8 dc8 pm8 cd8 ct8 : Value} {od8 an8 : Option Addr} {sl8 : Array (Option Value)} (a8 : PySem.W.nsIn K mainGlobals "options" = some (some (.ref f8))) (l8 : K.lookup f8 = some ⟨oc8, od8, .func (PySem.W.fnOf "options" "options" (defArgs s_options) (defBody s_options) (defScope s_options) .none kV8 dc8 pm8 an8 cd8 ct8), sl8⟩) (c8 : PySem.W.codeIn K cd8 "options" = true) (k8 : PySem.W.keepIn K (.ref f8) = true)
    {f9 : Addr} {oc9 kV9 dc9 pm9 cd9 ct9 : Value} {od9 an9 : Option Addr} {sl9 : Array (Option Value)} (a9 : PySem.W.nsIn K mainGlobals "winner" = some (some (.ref f9))) (l9 : K.lookup f9 = some ⟨oc9, od9, .func (PySem.W.fnOf "winner" "winner" (defArgs s_winner) (defBody s_winner) (defScope s_winner) .none kV9 dc9 pm9 an9 cd9 ct9), sl9⟩) (c9 : PySem.W.codeIn K cd9 "winner" = true) (k9 : PySem.W.keepIn K (.ref f9) = true)
    {f10 : Addr} {oc10 kV10 dc10 pm10 cd10 ct10 : Value} {od10 an10 : Option Addr} {sl10 : Array (Option Value)} (a10 : PySem.W.nsIn K mainGlobals "winning" = some (some (.ref f10))) (l10 : K.lookup f10 = some ⟨oc10, od10, .func (PySem.W.fnOf "winning" "winning" (defArgs s_winning) (defBody s_winning) (defScope s_winning) .none kV10 dc10 pm10 an10 cd10 ct10), sl10⟩) (c10 : PySem.W.codeIn K cd10 "winning" = true) (k10 : PySem.W.keepIn K (.ref f10) = true)
    {f11 : Addr} {oc11 kV11 dc11 pm11 cd11 ct11 : Value} {od11 an11 : Option Addr} {sl11 : Array (Option Value)} (a11 : PySem.W.nsIn K mainGlobals "_law_class" = some (some (.ref f11))) (l11 : K.lookup f11 = some ⟨oc11, od11, .func (PySem.W.fnOf "_law_class" "_law_class" (defArgs s__law_class) (defBody s__law_class) (defScope s__law_class) .none kV11 dc11 pm11 an11 cd11 ct11), sl11⟩) (c11 : PySem.W.codeIn K cd11 "_law_class" = true) (k11 : PySem.W.keepIn K (.ref f11) = true)
    {f12 : Addr} {oc12 kV12 dc12 pm12 cd12 ct12 : Value} {od12 an12 : Option Addr} {sl12 : Array (Option Value)} (a12 : PySem.W.nsIn K mainGlobals "_law_next" = some (some (.ref f12))) (l12 : K.lookup f12 = some ⟨oc12, od12, .func (PySem.W.fnOf "_law_next" "_law_next" (defArgs s__law_next) (defBody s__law_next) (defScope s__law_next) .none kV12 dc12 pm12 an12 cd12 ct12), sl12⟩) (c12 : PySem.W.codeIn K cd12 "_law_next" = true) (k12 : PySem.W.keepIn K (.ref f12) = true)
    {f13 : Addr} {oc13 kV13 dc13 pm13 cd13 ct13 : Value} {od13 an13 : Option Addr} {sl13 : Array (Option Value)} (a13 : PySem.W.nsIn K mainGlobals "_law_word" = some (some (.ref f13))) (l13 : K.lookup f13 = some ⟨oc13, od13, .func (PySem.W.fnOf "_law_word" "_law_word" (defArgs s__law_word) (defBody s__law_word) (defScope s__law_word) .none kV13 dc13 pm13 an13 cd13 ct13), sl13⟩) (c13 : PySem.W.codeIn K cd13 "_law_word" = true) (k13 : PySem.W.keepIn K (.ref f13) = true)
    {f14 : Addr} {oc14 kV14 dc14 pm14 cd14 ct14 : Value} {od14 an14 : Option Addr} {sl14 : Array (Option Value)} (a14 : PySem.W.nsIn K mainGlobals "_law_game" = some (some (.ref f14))) (l14 : K.lookup f14 = some ⟨oc14, od14, .func (PySem.W.fnOf "_law_game" "_law_game" (defArgs s__law_game) (defBody s__law_game) (defScope s__law_game) .none kV14 dc14 pm14 an14 cd14 ct14), sl14⟩) (c14 : PySem.W.codeIn K cd14 "_law_game" = true) (k14 : PySem.W.keepIn K (.ref f14) = true)
    {f15 : Addr} {oc15 kV15 dc15 pm15 cd15 ct15 : Value} {od15 an15 : Option Addr} {sl15 : Array (Option Value)} (a15 : PySem.W.nsIn K mainGlobals "_law_options" = some (some (.ref f15))) (l15 : K.lookup f15 = some ⟨oc15, od15, .func (PySem.W.fnOf "_law_options" "_law_options" (defArgs s__law_options) (defBody s__law_options) (defScope s__law_options) .none kV15 dc15 pm15 an15 cd15 ct15), sl15⟩) (c15 : PySem.W.codeIn K cd15 "_law_options" = true) (k15 : PySem.W.keepIn K (.ref f15) = true)
    {f16 : Addr} {oc16 kV16 dc16 pm16 cd16 ct16 : Value} {od16 an16 : Option Addr} {sl16 : Array (Option Value)} (a16 : PySem.W.nsIn K mainGlobals "_law_stream" = some (some (.ref f16))) (l16 : K.lookup f16 = some ⟨oc16, od16, .func (PySem.W.fnOf "_law_stream" "_law_stream" (defArgs s__law_stream) (defBody s__law_stream) (defScope s__law_stream) .none kV16 dc16 pm16 an16 cd16 ct16), sl16⟩) (c16 : PySem.W.codeIn K cd16 "_law_stream" = true) (k16 : PySem.W.keepIn K (.ref f16) = true)
    {f17 : Addr} {oc17 kV17 dc17 pm17 cd17 ct17 : Value} {od17 an17 : Option Addr} {sl17 : Array (Option Value)} (a17 : PySem.W.nsIn K mainGlobals "law" = some (some (.ref f17))) (l17 : K.lookup f17 = some ⟨oc17, od17, .func (PySem.W.fnOf "law" "law" (defArgs s_law) (defBody s_law) (defScope s_law) .none kV17 dc17 pm17 an17 cd17 ct17), sl17⟩) (c17 : PySem.W.codeIn K cd17 "law" = true) (k17 : PySem.W.keepIn K (.ref f17) = true)
    (z0 : PySem.W.nsIn K mainGlobals "abs" = some none) (z1 : PySem.W.nsIn K mainGlobals "all" = some none) (z2 : PySem.W.nsIn K mainGlobals "any" = some none) (z3 : PySem.W.nsIn K mainGlobals "bool" = some none) (z4 : PySem.W.nsIn K mainGlobals "enumerate" = some none) (z5 : PySem.W.nsIn K mainGlobals "int" = some none) (z6 : PySem.W.nsIn K mainGlobals "isinstance" = some none) (z7 : PySem.W.nsIn K mainGlobals "len" = some none) (z8 : PySem.W.nsIn K mainGlobals "list" = some none) (z9 : PySem.W.nsIn K mainGlobals "range" = some none) (z10 : PySem.W.nsIn K mainGlobals "repr" = some none) (z11 : PySem.W.nsIn K mainGlobals "tuple" = some none) {qt_MAX_STACK : Tok} (q_MAX_STACK : PySem.W.nsIn K mainGlobals "MAX_STACK" = some (some (.int 99 qt_MAX_STACK))) (qa_BadPaper : PySem.W.nsIn K mainGlobals "BadPaper" = some (some (.ref n_cls_BadPaper))) (qa_Missing : PySem.W.nsIn K mainGlobals "Missing" = some (some (.ref n_cls_Missing))) (qa_NotAllowed : PySem.W.nsIn K mainGlobals "NotAllowed" = some (some (.ref n_cls_NotAllowed))) (qa_PergolaError : PySem.W.nsIn K mainGlobals "PergolaError" = some (some (.ref n_cls_PergolaError))) (qa_Plan : PySem.W.nsIn K mainGlobals "Plan" = some (some (.ref n_cls_Plan))) (qa_TooLarge : PySem.W.nsIn K mainGlobals "TooLarge" = some (some (.ref n_cls_TooLarge))) (qty_BadPaper : PySem.W.typeIn K (.ref n_cls_BadPaper) = some (.type "type")) (qty_Missing : PySem.W.typeIn K (.ref n_cls_Missing) = some (.type "type")) (qty_NotAllowed : PySem.W.typeIn K (.ref n_cls_NotAllowed) = some (.type "type")) (qty_PergolaError : PySem.W.typeIn K (.ref n_cls_PergolaError) = some (.type "type")) (qty_TooLarge : PySem.W.typeIn K (.ref n_cls_TooLarge) = some (.type "type")) (qb_Missing : PySem.W.subIn K (.ref n_cls_Missing) (.type "BaseException") = some true) (qb_NotAllowed : PySem.W.subIn K (.ref n_cls_NotAllowed) (.type "BaseException") = some true) (qx_Missing : PySem.W.excIn K n_cls_Missing [.type "ValueError", .type "Exception", .type "BaseException", .type "object"] "ValueError.__new__" = true) (qk_Missing : PySem.W.keepIn K (.ref n_cls_Missing) = true) (qx_NotAllowed : PySem.W.excIn K n_cls_NotAllowed [.type "ValueError", .type "Exception", .type "BaseException", .type "object"] "ValueError.__new__" = true) (qk_NotAllowed : PySem.W.keepIn K (.ref n_cls_NotAllowed) = true) (q1_Missing : PySem.W.findIn K (.ref n_cls_Missing) "__getattribute__" = some (some (.builtin "BaseException.__getattribute__"))) (q2_Missing : PySem.W.findIn K (.ref n_cls_Missing) "__getattr__" = some none) (q4_Missing : PySem.W.hasDictIn K n_cls_Missing = true) (q5_Missing : PySem.W.findIn K (.ref n_cls_Missing) "__class__" = some (some (.builtin "object.__class__"))) (q6_Missing : PySem.W.specialIn K (.builtin "object.__class__") "__get__" = some (some (.builtin "getset_descriptor.__get__"))) (q7_Missing : PySem.W.takesIn K (.builtin "object.__class__") = some true) (q8_Missing : PySem.W.mroIn K n_cls_Missing (.type "object") = some true) (qs_Missing : PySem.W.subIn K (.ref n_cls_Missing) (.ref n_cls_Missing) = some true) (q1_NotAllowed : PySem.W.findIn K (.ref n_cls_NotAllowed) "__getattribute__" = some (some (.builtin "BaseException.__getattribute__"))) (q2_NotAllowed : PySem.W.findIn K (.ref n_cls_NotAllowed) "__getattr__" = some none) (q4_NotAllowed : PySem.W.hasDictIn K n_cls_NotAllowed = true) (q5_NotAllowed : PySem.W.findIn K (.ref n_cls_NotAllowed) "__class__" = some (some (.builtin "object.__class__"))) (q6_NotAllowed : PySem.W.specialIn K (.builtin "object.__class__") "__get__" = some (some (.builtin "getset_descriptor.__get__"))) (q7_NotAllowed : PySem.W.takesIn K (.builtin "object.__class__") = some true) (q8_NotAllowed : PySem.W.mroIn K n_cls_NotAllowed (.type "object") = some true) (qs_NotAllowed : PySem.W.subIn K (.ref n_cls_NotAllowed) (.ref n_cls_NotAllowed) = some true) (qi_BadPaper : PySem.W.isClsIn K n_cls_BadPaper = true) (qi_Missing : PySem.W.isClsIn K n_cls_Missing = true) (qi_NotAllowed : PySem.W.isClsIn K n_cls_NotAllowed = true) (qi_PergolaError : PySem.W.isClsIn K n_cls_PergolaError = true) (qi_TooLarge : PySem.W.isClsIn K n_cls_TooLarge = true) (qp_Missing_BadPaper : PySem.W.subIn K (.ref n_cls_Missing) (.ref n_cls_BadPaper) = some false) (qp_Missing_NotAllowed : PySem.W.subIn K (.ref n_cls_Missing) (.ref n_cls_NotAllowed) = some false) (qp_Missing_PergolaError : PySem.W.subIn K (.ref n_cls_Missing) (.ref n_cls_PergolaError) = some true) (qp_Missing_TooLarge : PySem.W.subIn K (.ref n_cls_Missing) (.ref n_cls_TooLarge) = some false) (qp_NotAllowed_BadPaper : PySem.W.subIn K (.ref n_cls_NotAllowed) (.ref n_cls_BadPaper) = some false) (qp_NotAllowed_Missing : PySem.W.subIn K (.ref n_cls_NotAllowed) (.ref n_cls_Missing) = some false) (qp_NotAllowed_PergolaError : PySem.W.subIn K (.ref n_cls_NotAllowed) (.ref n_cls_PergolaError) = some true) (qp_NotAllowed_TooLarge : PySem.W.subIn K (.ref n_cls_NotAllowed) (.ref n_cls_TooLarge) = some false) (o1_Plan : PySem.W.plainGet K n_cls_Plan Str.empty = true) (o2_Plan : PySem.W.hasDictIn K n_cls_Plan = true) (o3_Plan : PySem.W.plainOver K n_cls_Plan = true) (o4_Plan : PySem.W.findIn K (.ref n_cls_Plan) "__setattr__" = some (some (.builtin "object.__setattr__"))) (o5_Plan : PySem.W.makesIn K n_cls_Plan = true) (o6_Plan : PySem.W.keepIn K (.ref n_cls_Plan) = true)
    {f3 : Addr} {oc3 kV3 dc3 pm3 cd3 ct3 : Value} {od3 an3 : Option Addr} {sl3 : Array (Option Value)} (a3 : PySem.W.findIn K (.ref n_cls_Plan) "__init__" = some (some (.ref f3))) (l3 : K.lookup f3 = some ⟨oc3, od3, .func (PySem.W.fnOf "__init__" "Plan.__init__" (defArgs s_Plan___init__) (defBody s_Plan___init__) (defScope s_Plan___init__) .none kV3 dc3 pm3 an3 cd3 ct3), sl3⟩) (c3 : PySem.W.codeIn K cd3 "Plan.__init__" = true) (k3 : PySem.W.keepIn K (.ref f3) = true) (t3 : PySem.W.isFn K (.ref f3) = true)
    :
    ∃ fd : FuncData, (∀ (s : Shared) (u : Value), BindsTo s fd ⟨[u], []⟩ [("script", u)]) ∧ ∀ base : Heap, K.In base → base.Ns mainGlobals mg → FnG P w K mg base ((max (max (max (max (max (max (max (0 + 1) ((max (max (max (max (((0 + 1) + 1) + 1 + 1) ((max ((0 + 1) + 1) (0 + 1)) + 1)) ((max ((0 + 1) + 1) ((max (0 + 1) (0 + 1)) + 1)) + 1)) (((0 + 1) + 1) + 1)) ((0 + 1) + 1)) + 1)) ((max (0 + 1) ((0 + 1) + 1)) + 1)) (0 + 1)) ((0 + 1) + 1)) (0 + 1)) ((max ((0 + 1) + 1) (0 + 1)) + 1)) ((max ((0 + 1) + 1) ((max (0 + 1) (0 + 1)) + 1)) + 1)) + 1) fa fd ["script"] (g_law n_cls_BadPaper n_cls_Missing n_cls_NotAllowed n_cls_PergolaError n_cls_Plan n_cls_TooLarge) := by
  have e := hfa.symm.trans (PySem.W.mg_of X G a17)
  cases e
  have Z : Zs K mg := ⟨PySem.W.mg_none_of X G z0, PySem.W.mg_none_of X G z1, PySem.W.mg_none_of X G z2, PySem.W.mg_none_of X G z3, PySem.W.mg_none_of X G z4, PySem.W.mg_none_of X G z5, PySem.W.mg_none_of X G z6, PySem.W.mg_none_of X G z7, PySem.W.mg_none_of X G z8, PySem.W.mg_none_of X G z9, PySem.W.mg_none_of X G z10, PySem.W.mg_none_of X G z11, con_v (PySem.W.mg_of X G q_MAX_STACK) rfl⟩
  have Γ : Ks K mg n_cls_BadPaper n_cls_Missing n_cls_NotAllowed n_cls_PergolaError n_cls_Plan n_cls_TooLarge := ⟨PySem.W.mg_of X G qa_BadPaper, PySem.W.mg_of X G qa_Missing, PySem.W.mg_of X G qa_NotAllowed, PySem.W.mg_of X G qa_PergolaError, PySem.W.mg_of X G qa_Plan, PySem.W.mg_of X G qa_TooLarge, ⟨o1_Plan, o2_Plan, o3_Plan, o4_Plan⟩, ⟨PySem.W.mg_of X G qa_Missing, qx_Missing, qk_Missing, qb_Missing, qty_Missing⟩, ⟨PySem.W.mg_of X G qa_NotAllowed, qx_NotAllowed, qk_NotAllowed, qb_NotAllowed, qty_NotAllowed⟩, ⟨q1_Missing, q2_Missing, qb_Missing, q4_Missing, q5_Missing, q6_Missing, q7_Missing, q8_Missing⟩, ⟨q1_NotAllowed, q2_NotAllowed, qb_NotAllowed, q4_NotAllowed, q5_NotAllowed, q6_NotAllowed, q7_NotAllowed, q8_NotAllowed⟩, PySem.W.exm_ref qb_Missing q4_Missing qty_Missing qs_Missing, PySem.W.exm_ref qb_Missing q4_Missing qty_Missing qp_NotAllowed_Missing, PySem.W.exm_ref qb_NotAllowed q4_NotAllowed qty_NotAllowed qs_NotAllowed, kit_sub2 qi_BadPaper qty_BadPaper qp_Missing_BadPaper qs_Missing, kit_sub2 qi_NotAllowed qty_NotAllowed qp_Missing_NotAllowed qs_Missing, kit_sub2 qi_PergolaError qty_PergolaError qp_Missing_PergolaError qs_Missing, kit_sub2 qi_TooLarge qty_TooLarge qp_Missing_TooLarge qs_Missing, kit_sub2 qi_BadPaper qty_BadPaper qp_NotAllowed_BadPaper qs_NotAllowed, kit_sub2 qi_Missing qty_Missing qp_NotAllowed_Missing qs_NotAllowed, kit_sub2 qi_PergolaError qty_PergolaError qp_NotAllowed_PergolaError qs_NotAllowed, kit_sub2 qi_TooLarge qty_TooLarge qp_NotAllowed_TooLarge qs_NotAllowed⟩
  have F0 := fun_mk (st := s__law_at_goal) l0 c0 k0
  have d0 : Def K mg "_law_at_goal" s__law_at_goal ["game", "name", "stack"] _ _ := ⟨F0, PySem.W.mg_of X G a0, F0.binds (ps := ["game", "name", "stack"]) fun _ _ _ _ _ _ us hl => match us, hl with | [_, _, _], _ => rfl⟩
  have F1 := fun_mk (st := s_player_of) l1 c1 k1
  have d1 : Def K mg "player_of" s_player_of ["game", "state"] _ _ := ⟨F1, PySem.W.mg_of X G a1, F1.binds (ps := ["game", "state"]) fun _ _ _ _ _ _ us hl => match us, hl with | [_, _], _ => rfl⟩
  have F2 := fun_mk (st := s_check_position) l2 c2 k2
  have d2 : Def K mg "check_position" s_check_position ["game", "state", "stack"] _ _ := ⟨F2, PySem.W.mg_of X G a2, F2.binds (ps := ["game", "state", "stack"]) fun _ _ _ _ _ _ us hl => match us, hl with | [_, _, _], _ => rfl⟩
  have F3 := fun_mk (st := s_Plan___init__) l3 c3 k3
  have d3 : IDef K n_cls_Plan "Plan.__init__" s_Plan___init__ ["self", "game", "state", "stack"] _ _ := ⟨F3, ⟨o5_Plan, a3, t3, o6_Plan⟩, F3.binds (ps := ["self", "game", "state", "stack"]) fun _ _ _ _ _ _ us hl => match us, hl with | [_, _, _, _], _ => rfl⟩
  have F4 := fun_mk (st := s_is_goal) l4 c4 k4
  have d4 : Def K mg "is_goal" s_is_goal ["game", "state", "stack"] _ _ := ⟨F4, PySem.W.mg_of X G a4, F4.binds (ps := ["game", "state", "stack"]) fun _ _ _ _ _ _ us hl => match us, hl with | [_, _, _], _ => rfl⟩
  have F5 := fun_mk (st := s_at_goal) l5 c5 k5
  have d5 : Def K mg "at_goal" s_at_goal ["game", "state", "stack"] _ _ := ⟨F5, PySem.W.mg_of X G a5, F5.binds (ps := ["game", "state", "stack"]) fun _ _ _ _ _ _ us hl => match us, hl with | [_, _, _], _ => rfl⟩
  have F6 := fun_mk (st := s_steps_of) l6 c6 k6
  have d6 : Def K mg "steps_of" s_steps_of ["game", "state", "letter"] _ _ := ⟨F6, PySem.W.mg_of X G a6, F6.binds (ps := ["game", "state", "letter"]) fun _ _ _ _ _ _ us hl => match us, hl with | [_, _, _], _ => rfl⟩
  have F7 := fun_mk (st := s_possible) l7 c7 k7
  have d7 : Def K mg "possible" s_possible ["game", "state", "stack"] _ _ := ⟨F7, PySem.W.mg_of X G a7, F7.binds (ps := ["game", "state", "stack"]) fun _ _ _ _ _ _ us hl => match us, hl with | [_, _, _], _ => rfl⟩
  have F8 := fun_mk (st := s_options) l8 c8 k8
  have d8 : Def K mg "options" s_options ["game", "state", "stack"] _ _ := ⟨F8, PySem.W.mg_of X G a8, F8.binds (ps := ["game", "state", "stack"]) fun _ _ _ _ _ _ us hl => match us, hl with | [_, _, _], _ => rfl⟩
  have F9 := fun_mk (st := s_winner) l9 c9 k9
  have d9 : Def K mg "winner" s_winner ["game", "state", "stack"] _ _ := ⟨F9, PySem.W.mg_of X G a9, F9.binds (ps := ["game", "state", "stack"]) fun _ _ _ _ _ _ us hl => match us, hl with | [_, _, _], _ => rfl⟩
  have F10 := fun_mk (st := s_winning) l10 c10 k10
  have d10 : Def K mg "winning" s_winning ["game", "state"] _ _ := ⟨F10, PySem.W.mg_of X G a10, F10.binds (ps := ["game", "state"]) fun _ _ _ _ _ _ us hl => match us, hl with | [_, _], _ => rfl⟩
  have F11 := fun_mk (st := s__law_class) l11 c11 k11
  have d11 : Def K mg "_law_class" s__law_class ["game", "name", "stack", "kind"] _ _ := ⟨F11, PySem.W.mg_of X G a11, F11.binds (ps := ["game", "name", "stack", "kind"]) fun _ _ _ _ _ _ us hl => match us, hl with | [_, _, _, _], _ => rfl⟩
  have F12 := fun_mk (st := s__law_next) l12 c12 k12
  have d12 : Def K mg "_law_next" s__law_next ["state", "many"] _ _ := ⟨F12, PySem.W.mg_of X G a12, F12.binds (ps := ["state", "many"]) fun _ _ _ _ _ _ us hl => match us, hl with | [_, _], _ => rfl⟩
  have F13 := fun_mk (st := s__law_word) l13 c13 k13
  have d13 : Def K mg "_law_word" s__law_word ["state", "taken"] _ _ := ⟨F13, PySem.W.mg_of X G a13, F13.binds (ps := ["state", "taken"]) fun _ _ _ _ _ _ us hl => match us, hl with | [_, _], _ => rfl⟩
  have F14 := fun_mk (st := s__law_game) l14 c14 k14
  have d14 : Def K mg "_law_game" s__law_game ["state", "most"] _ _ := ⟨F14, PySem.W.mg_of X G a14, F14.binds (ps := ["state", "most"]) fun _ _ _ _ _ _ us hl => match us, hl with | [_, _], _ => rfl⟩
  have F15 := fun_mk (st := s__law_options) l15 c15 k15
  have d15 : Def K mg "_law_options" s__law_options ["game", "name", "stack"] _ _ := ⟨F15, PySem.W.mg_of X G a15, F15.binds (ps := ["game", "name", "stack"]) fun _ _ _ _ _ _ us hl => match us, hl with | [_, _, _], _ => rfl⟩
  have F16 := fun_mk (st := s__law_stream) l16 c16 k16
  have d16 : Def K mg "_law_stream" s__law_stream ["script"] _ _ := ⟨F16, PySem.W.mg_of X G a16, F16.binds (ps := ["script"]) fun _ _ _ _ _ _ us hl => match us, hl with | [_], _ => rfl⟩
  have F17 := fun_mk (st := s_law) l17 c17 k17
  have d17 : Def K mg "law" s_law ["script"] _ _ := ⟨F17, PySem.W.mg_of X G a17, F17.binds (ps := ["script"]) fun _ _ _ _ _ _ us hl => match us, hl with | [_], _ => rfl⟩
  refine ⟨PySem.W.fnOf "law" "law" (defArgs s_law) (defBody s_law) (defScope s_law) .none kV17 dc17 pm17 an17 cd17 ct17, fun s v => .of_eq rfl, fun base _ _ => ?_⟩
  have o0 := ok__law_at_goal (P := P) (w := w) (base := base) Z d0
  have c__law_at_goal := d0.cal o0
  have o1 := ok_player_of (P := P) (w := w) (base := base) Z n_cls_BadPaper n_cls_Missing n_cls_NotAllowed n_cls_PergolaError n_cls_Plan n_cls_TooLarge Γ d1
  have c_player_of := d1.cal o1
  have o2 := ok_check_position (P := P) (w := w) (base := base) Z n_cls_BadPaper n_cls_Missing n_cls_NotAllowed n_cls_PergolaError n_cls_Plan n_cls_TooLarge Γ d2 c_player_of
  have c_check_position := d2.cal o2
  have o3 := ok_Plan___init__ (P := P) (w := w) (base := base) Z n_cls_BadPaper n_cls_Missing n_cls_NotAllowed n_cls_PergolaError n_cls_Plan n_cls_TooLarge Γ d3 c_check_position
  have c_Plan___init__ := d3.cal o3
  have o4 := ok_is_goal (P := P) (w := w) (base := base) Z d4
  have c_is_goal := d4.cal o4
  have o5 := ok_at_goal (P := P) (w := w) (base := base) Z n_cls_BadPaper n_cls_Missing n_cls_NotAllowed n_cls_PergolaError n_cls_Plan n_cls_TooLarge Γ d5 c_check_position c_is_goal
  have c_at_goal := d5.cal o5
  have o6 := ok_steps_of (P := P) (w := w) (base := base) Z d6
  have c_steps_of := d6.cal o6
  have o7 := ok_possible (P := P) (w := w) (base := base) Z d7 c_is_goal c_steps_of
  have c_possible := d7.cal o7
  have o8 := ok_options (P := P) (w := w) (base := base) Z n_cls_BadPaper n_cls_Missing n_cls_NotAllowed n_cls_PergolaError n_cls_Plan n_cls_TooLarge Γ d8 c_check_position c_possible
  have c_options := d8.cal o8
  have o9 := ok_winner (P := P) (w := w) (base := base) Z n_cls_BadPaper n_cls_Missing n_cls_NotAllowed n_cls_PergolaError n_cls_Plan n_cls_TooLarge Γ d9 c_check_position
  have c_winner := d9.cal o9
  have o10 := ok_winning (P := P) (w := w) (base := base) Z n_cls_BadPaper n_cls_Missing n_cls_NotAllowed n_cls_PergolaError n_cls_Plan n_cls_TooLarge Γ d10 c_player_of
  have c_winning := d10.cal o10
  have o11 := ok__law_class (P := P) (w := w) (base := base) Z n_cls_BadPaper n_cls_Missing n_cls_NotAllowed n_cls_PergolaError n_cls_Plan n_cls_TooLarge Γ d11 c_Plan___init__ c_at_goal c_options c_winner c_winning
  have c__law_class := d11.cal o11
  have o12 := ok__law_next (P := P) (w := w) (base := base) Z d12
  have c__law_next := d12.cal o12
  have o13 := ok__law_word (P := P) (w := w) (base := base) Z d13 c__law_next
  have c__law_word := d13.cal o13
  have o14 := ok__law_game (P := P) (w := w) (base := base) Z d14 c__law_next c__law_word
  have c__law_game := d14.cal o14
  have o15 := ok__law_options (P := P) (w := w) (base := base) Z d15 c__law_at_goal
  have c__law_options := d15.cal o15
  have o16 := ok__law_stream (P := P) (w := w) (base := base) Z d16
  have c__law_stream := d16.cal o16
  have o17 := ok_law (P := P) (w := w) (base := base) Z n_cls_BadPaper n_cls_Missing n_cls_NotAllowed n_cls_PergolaError n_cls_Plan n_cls_TooLarge Γ d17 c__law_at_goal c__law_class c__law_game c__law_next c__law_options c__law_stream c_at_goal c_options
  exact o17
end
end VsG


open PySem PySem.W PyProof.Rows Vs
set_option maxHeartbeats 0 in
theorem PySem.Challenge.cw_pergola_k62_positions_of_games_holds : PySem.Challenge.rw_pergola_k62_positions_of_games.Holds := by
  w_on; o_law; k_head; (case hw => w_witness2)
  k_fill
  refine Vs.walkG2 (l := PySem.Challenge.rw_pergola_k62_positions_of_games) (n := 63) (k := 6) (x := "script") rfl (by decide) rfl ⟨rfl, by decide, by decide⟩ (fun w h Y => PySem.W.kIn_of Y) ?F
  case F =>
    intro w mg fa h KX G hmg
    refine' ⟨_, VsG.law_ok _ _ _ _ _ _ ?hne, VsG.all_mk _ _ _ _ _ _ KX G hmg ?a0 ?l0 ?c0 ?k0 ?a1 ?l1 ?c1 ?k1 ?a2 ?l2 ?c2 ?k2 ?a4 ?l4 ?c4 ?k4 ?a5 ?l5 ?c5 ?k5 ?a6 ?l6 ?c6 ?k6 ?a7 ?l7 ?c7 ?k7 ?a8 ?l8 ?c8 ?k8 ?a9 ?l9 ?c9 ?k9 ?a10 ?l10 ?c10 ?k10 ?a11 ?l11 ?c11 ?k11 ?a12 ?l12 ?c12 ?k12 ?a13 ?l13 ?c13 ?k13 ?a14 ?l14 ?c14 ?k14 ?a15 ?l15 ?c15 ?k15 ?a16 ?l16 ?c16 ?k16 ?a17 ?l17 ?c17 ?k17 ?z0 ?z1 ?z2 ?z3 ?z4 ?z5 ?z6 ?z7 ?z8 ?z9 ?z10 ?z11 ?q_MAX_STACK ?qa_BadPaper ?qa_Missing ?qa_NotAllowed ?qa_PergolaError ?qa_Plan ?qa_TooLarge ?qty_BadPaper ?qty_Missing ?qty_NotAllowed ?qty_PergolaError ?qty_TooLarge ?qb_Missing ?qb_NotAllowed ?qx_Missing ?qk_Missing ?qx_NotAllowed ?qk_NotAllowed ?q1_Missing ?q2_Missing ?q4_Missing ?q5_Missing ?q6_Missing ?q7_Missing ?q8_Missing ?qs_Missing ?q1_NotAllowed ?q2_NotAllowed ?q4_NotAllowed ?q5_NotAllowed ?q6_NotAllowed ?q7_NotAllowed ?q8_NotAllowed ?qs_NotAllowed ?qi_BadPaper ?qi_Missing ?qi_NotAllowed ?qi_PergolaError ?qi_TooLarge ?qp_Missing_BadPaper ?qp_Missing_NotAllowed ?qp_Missing_PergolaError ?qp_Missing_TooLarge ?qp_NotAllowed_BadPaper ?qp_NotAllowed_Missing ?qp_NotAllowed_PergolaError ?qp_NotAllowed_TooLarge ?o1_Plan ?o2_Plan ?o3_Plan ?o4_Plan ?o5_Plan ?o6_Plan ?a3 ?l3 ?c3 ?k3 ?t3⟩
    (case a0 => k_is); (case l0 => k_is); (case c0 => k_is); (case k0 => k_is)
    (case a1 => k_is); (case l1 => k_is); (case c1 => k_is); (case k1 => k_is)
    (case a2 => k_is); (case l2 => k_is); (case c2 => k_is); (case k2 => k_is)
    (case a4 => k_is); (case l4 => k_is); (case c4 => k_is); (case k4 => k_is)
    (case a5 => k_is); (case l5 => k_is); (case c5 => k_is); (case k5 => k_is)
    (case a6 => k_is); (case l6 => k_is); (case c6 => k_is); (case k6 => k_is)
    (case a7 => k_is); (case l7 => k_is); (case c7 => k_is); (case k7 => k_is)
    (case a8 => k_is); (case l8 => k_is); (case c8 => k_is); (case k8 => k_is)
    (case a9 => k_is); (case l9 => k_is); (case c9 => k_is); (case k9 => k_is)
    (case a10 => k_is); (case l10 => k_is); (case c10 => k_is); (case k10 => k_is)
    (case a11 => k_is); (case l11 => k_is); (case c11 => k_is); (case k11 => k_is)
    (case a12 => k_is); (case l12 => k_is); (case c12 => k_is); (case k12 => k_is)
    (case a13 => k_is); (case l13 => k_is); (case c13 => k_is); (case k13 => k_is)
    (case a14 => k_is); (case l14 => k_is); (case c14 => k_is); (case k14 => k_is)
    (case a15 => k_is); (case l15 => k_is); (case c15 => k_is); (case k15 => k_is)
    (case a16 => k_is); (case l16 => k_is); (case c16 => k_is); (case k16 => k_is)
    (case a17 => k_is); (case l17 => k_is); (case c17 => k_is); (case k17 => k_is)
    (case z0 => k_is); (case z1 => k_is); (case z2 => k_is); (case z3 => k_is)
    (case z4 => k_is); (case z5 => k_is); (case z6 => k_is); (case z7 => k_is)
    (case z8 => k_is); (case z9 => k_is); (case z10 => k_is); (case z11 => k_is)
    (case q_MAX_STACK => k_is); (case qa_BadPaper => (refine' Eq.trans ?u ?v; rotate_left; (case u => k_is); (case v => exact rfl))); (case qa_Missing => (refine' Eq.trans ?u ?v; rotate_left; (case u => k_is); (case v => exact rfl))); (case qa_NotAllowed => (refine' Eq.trans ?u ?v; rotate_left; (case u => k_is); (case v => exact rfl)))
    (case qa_PergolaError => (refine' Eq.trans ?u ?v; rotate_left; (case u => k_is); (case v => exact rfl))); (case qa_Plan => (refine' Eq.trans ?u ?v; rotate_left; (case u => k_is); (case v => exact rfl))); (case qa_TooLarge => (refine' Eq.trans ?u ?v; rotate_left; (case u => k_is); (case v => exact rfl))); (case qty_BadPaper => k_is)
    (case qty_Missing => k_is); (case qty_NotAllowed => k_is); (case qty_PergolaError => k_is); (case qty_TooLarge => k_is)
    (case qb_Missing => k_is); (case qb_NotAllowed => k_is); (case qx_Missing => k_exc); (case qk_Missing => k_is)
    (case qx_NotAllowed => k_exc); (case qk_NotAllowed => k_is); (case q1_Missing => k_is); (case q2_Missing => k_is)
    (case q4_Missing => k_is); (case q5_Missing => k_is); (case q6_Missing => k_is); (case q7_Missing => k_is)
    (case q8_Missing => k_is); (case qs_Missing => k_is); (case q1_NotAllowed => k_is); (case q2_NotAllowed => k_is)
    (case q4_NotAllowed => k_is); (case q5_NotAllowed => k_is); (case q6_NotAllowed => k_is); (case q7_NotAllowed => k_is)
    (case q8_NotAllowed => k_is); (case qs_NotAllowed => k_is); (case qi_BadPaper => k_is); (case qi_Missing => k_is)
    (case qi_NotAllowed => k_is); (case qi_PergolaError => k_is); (case qi_TooLarge => k_is); (case qp_Missing_BadPaper => k_is)
    (case qp_Missing_NotAllowed => k_is); (case qp_Missing_PergolaError => k_is); (case qp_Missing_TooLarge => k_is); (case qp_NotAllowed_BadPaper => k_is)
    (case qp_NotAllowed_Missing => k_is); (case qp_NotAllowed_PergolaError => k_is); (case qp_NotAllowed_TooLarge => k_is); (case o1_Plan => k_is)
    (case o2_Plan => k_is); (case o3_Plan => k_is); (case o4_Plan => k_is); (case o5_Plan => k_is)
    (case o6_Plan => k_is); (case a3 => (refine' Eq.trans ?u ?v; rotate_left; (case u => k_is); (case v => exact rfl))); (case l3 => k_is); (case c3 => k_is)
    (case k3 => k_is); (case t3 => k_is)
    (case hne => decide)

#print axioms PySem.Challenge.cw_pergola_k62_positions_of_games_holds

