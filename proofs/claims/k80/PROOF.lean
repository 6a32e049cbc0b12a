import PyProof.Rows.All
import Wide.All
import OpenK.AllK
import Wide.FinOn
import PyProof.EqAt
import PyProof.EqKinds
import PyProof.TupleCall
import KE.KDictKeyed
import KE.KDictWalk
import HandS.ForMost
import HandS.ForExc
import HandS.Deep
import HandS.Flow
import HandS.StrMore
import HandS.TupSets
import HandS.TupAny
import HandS.TupLe
import HandS.RevTup
import HandS.Rev
import HandS.IsInst
import HandS.Zip
import HandS.SetKeys
import HandS.Walk
import KE.GoesEnum
import KE.GoesMore
import HandS.Conv
import HandS.More
import KE.KDictDisplayH
import PySem.Challenge.RW_lilt_k80_what_tells_metres_apart
set_option Elab.async false
set_option linter.all false
set_option maxRecDepth 100000
set_option maxHeartbeats 2000000
set_option autoImplicit false
namespace Lilt
open PySem L2

/-! ## the results of the mirror -/
structure Exc where
  c : Str
  f : Option (Str × Int)
inductive R (A : Type) where
  | stuck
  | ok (a : A)
  | exc (x : Exc)
def R.bind {A B : Type} : R A → (A → R B) → R B
  | .stuck, _ => .stuck
  | .ok a, f => f a
  | .exc x, _ => .exc x
instance : Monad R where
  pure := .ok
  bind := R.bind
@[simp] theorem R.bind_ok {A B : Type} (a : A) (f : A → R B) : (R.ok a >>= f) = f a := rfl
@[simp] theorem R.bind_stuck {A B : Type} (f : A → R B) : ((R.stuck : R A) >>= f) = .stuck := rfl
@[simp] theorem R.bind_exc {A B : Type} (x : Exc) (f : A → R B) : ((R.exc x : R A) >>= f) = .exc x := rfl
@[simp] theorem R.pure_ok {A : Type} (a : A) : (pure a : R A) = .ok a := rfl
theorem R.bind_assoc {A B C : Type} (r : R A) (f : A → R B) (g : B → R C) : ((r >>= f) >>= g) = (r >>= fun a => f a >>= g) := by
  cases r <;> rfl

/-! ## data and how it lies in the abstract heap -/
abbrev PD := PyData
structure Gm where
  prog : Program
  w : World
  K : PySem.W.Frag
  cl : Str → Addr

def NV : List (NestedKey × Addr × V) → List (NestedKey × Addr × Value) → Prop :=
  Paired fun x y => x.1 = y.1 ∧ x.2.1 = y.2.1 ∧ RelV x.2.2 y.2.2
/-- a dict whose keys are (nested) tuples -/
def DNp (P : Program) (w : World) (a : Addr) (xs : List (NestedKey × Addr × V)) (h : Heap) : Prop :=
  xs.length ≤ sizeLine ∧ (a == sysModules) = false ∧ ∃ vs, NV xs vs ∧
    ∃ o es ep, h.get? a = some o ∧ o.ExactDict ∧ o.data = .dict es ep ∧ es.toList = vs.map (entryOfKey (nestedKind P w)) ∧ (vs.map (·.1)).Nodup
def DNo (Γ : Gm) (a : Addr) (xs : List (NestedKey × Addr × V)) : HO := .ext (DNp Γ.prog Γ.w a xs)

def keyD : Key → PD
  | .inl i => .int i
  | .inr x => .str x

mutual
inductive Rp (Γ : Gm) (F : Hp) : V → PD → Prop
  | non : Rp Γ F .non .none
  | bl (b : Bool) : Rp Γ F (.bl b) (.bool b)
  | int (i : Int) : Rp Γ F (.int i) (.int i)
  | str (x : Str) : Rp Γ F (.str x) (.str x)
  | lst {a : Addr} {xs : List V} {ds : List PD} : SqL Γ.K F a xs → RpA Γ F xs ds → Rp Γ F (.ref a) (.list ds)
  | tup {a : Addr} {xs : List V} {ds : List PD} : SqT Γ.K F a xs → RpA Γ F xs ds → Rp Γ F (.ref a) (.tuple ds)
  | dik {a : Addr} {kvs : List (Key × V)} {ds : List (PD × PD)} : Rd F a (.dK kvs) → RpK Γ F kvs ds → Rp Γ F (.ref a) (.dict ds)
  | din {a : Addr} {xs : List (NestedKey × Addr × V)} {ds : List (PD × PD)} : Rd F a (DNo Γ a xs) → RpN Γ F xs ds → Rp Γ F (.ref a) (.dict ((.bool true, .none) :: ds))
  | obj {a dx : Addr} {c : Str} {fs : List (Str × V)} {ds : List (PD × PD)} : F a = some (.ins (Γ.cl c) dx fs) → RpF Γ F fs ds → Rp Γ F (.ref a) (.dict ((.none, .str c) :: ds))
inductive RpA (Γ : Gm) (F : Hp) : List V → List PD → Prop
  | nil : RpA Γ F [] []
  | cons {v : V} {d : PD} {vs : List V} {ds : List PD} : Rp Γ F v d → RpA Γ F vs ds → RpA Γ F (v :: vs) (d :: ds)
inductive RpK (Γ : Gm) (F : Hp) : List (Key × V) → List (PD × PD) → Prop
  | nil : RpK Γ F [] []
  | cons {k : Key} {v : V} {d : PD} {vs : List (Key × V)} {ds : List (PD × PD)} : Rp Γ F v d → RpK Γ F vs ds → RpK Γ F ((k, v) :: vs) ((keyD k, d) :: ds)
inductive RpN (Γ : Gm) (F : Hp) : List (NestedKey × Addr × V) → List (PD × PD) → Prop
  | nil : RpN Γ F [] []
  | cons {k : NestedKey} {a : Addr} {v : V} {d : PD} {vs : List (NestedKey × Addr × V)} {ds : List (PD × PD)} : Rp Γ F (.ref a) k.data → k.depth ≤ 8 → Rp Γ F v d → RpN Γ F vs ds → RpN Γ F ((k, a, v) :: vs) ((k.data, d) :: ds)
inductive RpF (Γ : Gm) (F : Hp) : List (Str × V) → List (PD × PD) → Prop
  | nil : RpF Γ F [] []
  | cons {k : Str} {v : V} {d : PD} {vs : List (Str × V)} {ds : List (PD × PD)} : Rp Γ F v d → RpF Γ F vs ds → RpF Γ F ((k, v) :: vs) ((.str k, d) :: ds)
end

theorem rd_same {H H' : Hp} {a : Addr} {u : HO} (e : Same H H') (h : Rd H a u) : Rd H' a u := by
  rcases h with h | ⟨o, h⟩
  · exact .inl (e a _ h)
  · exact .inr ⟨o, e a _ h⟩
theorem sqL_same {K : PySem.W.Frag} {H H' : Hp} {a : Addr} {xs : List V} (e : Same H H') (h : SqL K H a xs) : SqL K H' a xs := e.seq h
theorem sqT_same {K : PySem.W.Frag} {H H' : Hp} {a : Addr} {xs : List V} (e : Same H H') (h : SqT K H a xs) : SqT K H' a xs := by
  rcases h with h | h
  · exact .inl (rd_same e h)
  · exact .inr h

mutual
theorem Rp.mono {Γ : Gm} {F F' : Hp} (e : Same F F') : ∀ {v : V} {d : PD}, Rp Γ F v d → Rp Γ F' v d
  | _, _, .non => .non
  | _, _, .bl b => .bl b
  | _, _, .int i => .int i
  | _, _, .str x => .str x
  | _, _, .lst h r => .lst (sqL_same e h) (RpA.mono e r)
  | _, _, .tup h r => .tup (sqT_same e h) (RpA.mono e r)
  | _, _, .dik h r => .dik (rd_same e h) (RpK.mono e r)
  | _, _, .din h r => .din (rd_same e h) (RpN.mono e r)
  | _, _, .obj h r => .obj (e _ _ h) (RpF.mono e r)
theorem RpA.mono {Γ : Gm} {F F' : Hp} (e : Same F F') : ∀ {v : List V} {d : List PD}, RpA Γ F v d → RpA Γ F' v d
  | _, _, .nil => .nil
  | _, _, .cons h r => .cons (Rp.mono e h) (RpA.mono e r)
theorem RpK.mono {Γ : Gm} {F F' : Hp} (e : Same F F') : ∀ {v : List (Key × V)} {d : List (PD × PD)}, RpK Γ F v d → RpK Γ F' v d
  | _, _, .nil => .nil
  | _, _, .cons h r => .cons (Rp.mono e h) (RpK.mono e r)
theorem RpN.mono {Γ : Gm} {F F' : Hp} (e : Same F F') : ∀ {v : List (NestedKey × Addr × V)} {d : List (PD × PD)}, RpN Γ F v d → RpN Γ F' v d
  | _, _, .nil => .nil
  | _, _, .cons h1 h2 h3 r => .cons (Rp.mono e h1) h2 (Rp.mono e h3) (RpN.mono e r)
theorem RpF.mono {Γ : Gm} {F F' : Hp} (e : Same F F') : ∀ {v : List (Str × V)} {d : List (PD × PD)}, RpF Γ F v d → RpF Γ F' v d
  | _, _, .nil => .nil
  | _, _, .cons h r => .cons (Rp.mono e h) (RpF.mono e r)
end

theorem RpA.length {Γ : Gm} {F : Hp} : ∀ {vs : List V} {ds : List PD}, RpA Γ F vs ds → vs.length = ds.length
  | _, _, .nil => rfl
  | _, _, .cons _ r => by rw [List.length_cons, List.length_cons, RpA.length r]
theorem RpA.get {Γ : Gm} {F : Hp} : ∀ {vs : List V} {ds : List PD} {i : Nat} {d : PD}, RpA Γ F vs ds → ds[i]? = some d → ∃ v, vs[i]? = some v ∧ Rp Γ F v d
  | _, _, _, _, .nil, h => by simp at h
  | _, _, 0, _, .cons h r, e => by simp at e; subst e; exact ⟨_, rfl, h⟩
  | _, _, i + 1, _, .cons h r, e => by
    obtain ⟨v, h1, h2⟩ := RpA.get (i := i) r (by simpa using e)
    exact ⟨v, by simpa using h1, h2⟩
theorem RpA.get' {Γ : Gm} {F : Hp} : ∀ {vs : List V} {ds : List PD} {i : Nat} {v : V}, RpA Γ F vs ds → vs[i]? = some v → ∃ d, ds[i]? = some d ∧ Rp Γ F v d
  | _, _, _, _, .nil, h => by simp at h
  | _, _, 0, _, .cons h r, e => by simp at e; subst e; exact ⟨_, rfl, h⟩
  | _, _, i + 1, _, .cons h r, e => by
    obtain ⟨v, h1, h2⟩ := RpA.get' (i := i) r (by simpa using e)
    exact ⟨v, by simpa using h1, h2⟩
theorem RpA.append {Γ : Gm} {F : Hp} : ∀ {vs ws : List V} {ds es : List PD}, RpA Γ F vs ds → RpA Γ F ws es → RpA Γ F (vs ++ ws) (ds ++ es)
  | _, _, _, _, .nil, s => s
  | _, _, _, _, .cons h r, s => .cons h (RpA.append r s)
theorem RpA.take {Γ : Gm} {F : Hp} : ∀ {vs : List V} {ds : List PD} (n : Nat), RpA Γ F vs ds → RpA Γ F (vs.take n) (ds.take n)
  | _, _, 0, _ => .nil
  | _, _, _ + 1, .nil => .nil
  | _, _, n + 1, .cons h r => .cons h (RpA.take n r)
theorem RpA.drop {Γ : Gm} {F : Hp} : ∀ {vs : List V} {ds : List PD} (n : Nat), RpA Γ F vs ds → RpA Γ F (vs.drop n) (ds.drop n)
  | _, _, 0, r => r
  | _, _, _ + 1, .nil => .nil
  | _, _, n + 1, .cons h r => RpA.drop n r
theorem RpA.reverse {Γ : Gm} {F : Hp} : ∀ {vs : List V} {ds : List PD}, RpA Γ F vs ds → RpA Γ F vs.reverse ds.reverse
  | _, _, .nil => .nil
  | _, _, .cons h r => by
    rw [List.reverse_cons, List.reverse_cons]
    exact RpA.append (RpA.reverse r) (.cons h .nil)
theorem RpA.set {Γ : Gm} {F : Hp} {v : V} {d : PD} (h : Rp Γ F v d) : ∀ {vs : List V} {ds : List PD} (i : Nat), RpA Γ F vs ds → RpA Γ F (vs.set i v) (ds.set i d)
  | _, _, _, .nil => .nil
  | _, _, 0, .cons _ r => .cons h r
  | _, _, i + 1, .cons h2 r => .cons h2 (RpA.set h i r)
theorem RpA.ints {Γ : Gm} {F : Hp} : ∀ ns : List Int, RpA Γ F (ns.map V.int) (ns.map PyData.int)
  | [] => .nil
  | n :: r => .cons (.int n) (RpA.ints r)

/-! data proper, for == -/
mutual
def plain : PD → Bool
  | .none => true | .bool _ => true | .int _ => true | .str _ => true
  | .list xs => plainA xs
  | .tuple xs => plainA xs
  | .dict _ => false
def plainA : List PD → Bool
  | [] => true
  | x :: xs => plain x && plainA xs
end
mutual
theorem Rp.dp {Γ : Gm} {F : Hp} : ∀ {v : V} {d : PD}, Rp Γ F v d → plain d = true → Dp Γ.K F v d
  | _, _, .non, _ => .non
  | _, _, .bl b, _ => .bl b
  | _, _, .int i, _ => .int i
  | _, _, .str x, _ => .str x
  | _, _, .lst h r, p => .lst h (RpA.dp r (by simpa [plain] using p))
  | _, _, .tup h r, p => .tup h (RpA.dp r (by simpa [plain] using p))
  | _, _, .dik h r, p => by simp [plain] at p
  | _, _, .din h r, p => by simp [plain] at p
  | _, _, .obj h r, p => by simp [plain] at p
theorem RpA.dp {Γ : Gm} {F : Hp} : ∀ {v : List V} {d : List PD}, RpA Γ F v d → plainA d = true → DpAll Γ.K F v d
  | _, _, .nil, _ => .nil
  | _, _, .cons h r, p => by
    simp only [plainA, Bool.and_eq_true] at p
    exact .cons (Rp.dp h p.1) (RpA.dp r p.2)
end

/-! ## hidden (owned) addresses -/
open Classical in
noncomputable def hid (M : Addr → Prop) (H : Hp) : Hp := fun a => if M a then none else H a
theorem hid_some {M : Addr → Prop} {H : Hp} {a : Addr} {o : HO} (h : hid M H a = some o) : ¬ M a ∧ H a = some o := by
  unfold hid at h
  split at h
  · cases h
  · exact ⟨by assumption, h⟩
theorem hid_of {M : Addr → Prop} {H : Hp} {a : Addr} {o : HO} (n : ¬ M a) (h : H a = some o) : hid M H a = some o := by
  unfold hid
  rw [if_neg n]
  exact h
theorem hid_same {M : Addr → Prop} {H H' : Hp} (e : Same H H') : Same (hid M H) (hid M H') := fun a o h => by
  obtain ⟨n, h⟩ := hid_some h
  exact hid_of n (e _ _ h)
theorem hid_le (M : Addr → Prop) (H : Hp) : Same (hid M H) H := fun _ _ h => (hid_some h).2
/-- one more address hidden, that was free before -/
def insM (M : Addr → Prop) (p : Addr) : Addr → Prop := fun a => M a ∨ a = p
theorem hid_ins {M : Addr → Prop} {H H' : Hp} {p : Addr} (e : Same H H') (hp : H p = none) : Same (hid M H) (hid (insM M p) H') := fun a o h => by
  obtain ⟨n, h⟩ := hid_some h
  refine hid_of (fun m => ?_) (e _ _ h)
  rcases m with m | m
  · exact n m
  · subst m
    rw [hp] at h
    cases h
/-- a hidden object is changed -/
theorem hid_upd {M : Addr → Prop} {H : Hp} {p : Addr} {o : HO} (m : M p) : Same (hid M H) (hid M (upd H p o)) := fun a u h => by
  obtain ⟨n, h⟩ := hid_some h
  refine hid_of n ?_
  rw [upd_ne (fun e : a = p => n (by rw [e]; exact m))]
  exact h
theorem hid_weak {M M' : Addr → Prop} {H : Hp} (h : ∀ a, M' a → M a) : Same (hid M H) (hid M' H) := fun a o e => by
  obtain ⟨n, e⟩ := hid_some e
  exact hid_of (fun m => n (h a m)) e

/-! ## slots -/
inductive Sl where
  | un
  | d (x : PD)
  | ov (x : PD)
abbrev Sto := List Sl
def ownD : PD → Bool
  | .list _ => true
  | .dict _ => true
  | _ => false
def Sl.own : Sl → Bool
  | .ov x => ownD x
  | _ => false
/-- the owned value x stands at a -/
def RpO (Γ : Gm) (M : Addr → Prop) (H : Hp) (a : Addr) (v : V) : PD → Prop
  | .list ds => v = .ref a ∧ M a ∧ ∃ vs, H a = some (.lst vs) ∧ RpA Γ (hid M H) vs ds
  | .dict ds => v = .ref a ∧ M a ∧ ((∃ kvs, H a = some (.dK kvs) ∧ RpK Γ (hid M H) kvs ds) ∨ ∃ xs es, ds = (.bool true, .none) :: es ∧ H a = some (DNo Γ a xs) ∧ RpN Γ (hid M H) xs es)
  | x => Rp Γ (hid M H) v x
def SlOk (Γ : Gm) (M : Addr → Prop) (H : Hp) (a : Addr) (o : Option (Option V)) : Sl → Prop
  | .un => True
  | .d x => ∃ v, o = some (some v) ∧ Rp Γ (hid M H) v x
  | .ov x => ∃ v, o = some (some v) ∧ RpO Γ M H a v x
structure Ste (Γ : Gm) (M : Addr → Prop) (ad : Nat → Addr) (ρ : Sto) (σ : L2.St) (H : Hp) : Prop where
  in_ : ∀ a, M a → ∃ o, H a = some o
  len : ρ.length = σ.length
  sl : ∀ (i : Nat) (s : Sl), ρ[i]? = some s → SlOk Γ M H (ad i) σ[i]? s
  dj : ∀ (i j : Nat) (s s' : Sl), ρ[i]? = some s → ρ[j]? = some s' → s.own = true → s'.own = true → ad i = ad j → i = j

theorem RpO.mono {Γ : Gm} {M : Addr → Prop} {H H' : Hp} {a : Addr} {v : V} (e : Same H H') : ∀ {x : PD}, RpO Γ M H a v x → RpO Γ M H' a v x
  | .none, h => Rp.mono (hid_same e) h
  | .bool _, h => Rp.mono (hid_same e) h
  | .int _, h => Rp.mono (hid_same e) h
  | .str _, h => Rp.mono (hid_same e) h
  | .tuple _, h => Rp.mono (hid_same e) h
  | .list _, ⟨h1, h2, vs, h3, h4⟩ => ⟨h1, h2, vs, e _ _ h3, RpA.mono (hid_same e) h4⟩
  | .dict _, ⟨h1, h2, .inl ⟨vs, h3, h4⟩⟩ => ⟨h1, h2, .inl ⟨vs, e _ _ h3, RpK.mono (hid_same e) h4⟩⟩
  | .dict _, ⟨h1, h2, .inr ⟨vs, es, h5, h3, h4⟩⟩ => ⟨h1, h2, .inr ⟨vs, es, h5, e _ _ h3, RpN.mono (hid_same e) h4⟩⟩
/-- another hidden set: all that was seen is seen, the owned object is the same -/
theorem RpO.move {Γ : Gm} {M M' : Addr → Prop} {H H' : Hp} {a : Addr} {v : V} (e : Same (hid M H) (hid M' H')) : ∀ {x : PD}, RpO Γ M H a v x → (ownD x = true → M' a ∧ ∀ o, H a = some o → H' a = some o) → RpO Γ M' H' a v x
  | .none, h, _ => Rp.mono e h
  | .bool _, h, _ => Rp.mono e h
  | .int _, h, _ => Rp.mono e h
  | .str _, h, _ => Rp.mono e h
  | .tuple _, h, _ => Rp.mono e h
  | .list _, ⟨h1, h2, vs, h3, h4⟩, k => ⟨h1, (k rfl).1, vs, (k rfl).2 _ h3, RpA.mono e h4⟩
  | .dict _, ⟨h1, h2, .inl ⟨vs, h3, h4⟩⟩, k => ⟨h1, (k rfl).1, .inl ⟨vs, (k rfl).2 _ h3, RpK.mono e h4⟩⟩
  | .dict _, ⟨h1, h2, .inr ⟨vs, es, h5, h3, h4⟩⟩, k => ⟨h1, (k rfl).1, .inr ⟨vs, es, h5, (k rfl).2 _ h3, RpN.mono e h4⟩⟩
theorem RpO.ownM {Γ : Gm} {M : Addr → Prop} {H : Hp} {a : Addr} {v : V} {x : PD} (h : RpO Γ M H a v x) (o : ownD x = true) : M a ∧ v = .ref a ∧ ∃ u, H a = some u := by
  cases x with
  | list ds => obtain ⟨h1, h2, vs, h3, _⟩ := h; exact ⟨h2, h1, _, h3⟩
  | dict ds =>
    obtain ⟨h1, h2, h⟩ := h
    rcases h with ⟨_, h3, _⟩ | ⟨_, _, _, h3, _⟩
    · exact ⟨h2, h1, _, h3⟩
    · exact ⟨h2, h1, _, h3⟩
  | _ => cases o
theorem SlOk.mono {Γ : Gm} {M : Addr → Prop} {H H' : Hp} {a : Addr} {o : Option (Option V)} (e : Same H H') : ∀ {s : Sl}, SlOk Γ M H a o s → SlOk Γ M H' a o s
  | .un, _ => trivial
  | .d _, ⟨v, h, r⟩ => ⟨v, h, r.mono (hid_same e)⟩
  | .ov _, ⟨v, h, r⟩ => ⟨v, h, r.mono e⟩
theorem SlOk.move {Γ : Gm} {M M' : Addr → Prop} {H H' : Hp} {a : Addr} {o : Option (Option V)} (e : Same (hid M H) (hid M' H')) : ∀ {s : Sl}, SlOk Γ M H a o s → (s.own = true → M' a ∧ ∀ o, H a = some o → H' a = some o) → SlOk Γ M' H' a o s
  | .un, _, _ => trivial
  | .d _, ⟨v, h, r⟩, _ => ⟨v, h, r.mono e⟩
  | .ov _, ⟨v, h, r⟩, k => ⟨v, h, r.move e k⟩
theorem SlOk.ownM {Γ : Gm} {M : Addr → Prop} {H : Hp} {a : Addr} {o : Option (Option V)} {s : Sl} (h : SlOk Γ M H a o s) (k : s.own = true) : M a ∧ o = some (some (.ref a)) ∧ ∃ u, H a = some u := by
  cases s with
  | un => cases k
  | d x => cases k
  | ov x =>
    obtain ⟨v, e, r⟩ := h
    obtain ⟨h1, h2, h3⟩ := r.ownM k
    subst h2
    exact ⟨h1, e, h3⟩
variable {Γ : Gm} {M M' : Addr → Prop} {ad : Nat → Addr} {ρ : Sto} {σ : L2.St} {H H' : Hp}
theorem Ste.mono (s : Ste Γ M ad ρ σ H) (e : Same H H') : Ste Γ M ad ρ σ H' :=
  ⟨fun a m => let ⟨o, h⟩ := s.in_ a m; ⟨o, e _ _ h⟩, s.len, fun i x h => (s.sl i x h).mono e, s.dj⟩
/-- a value owned is data where it is no list and no dict -/
theorem RpO.scal {a : Addr} {v : V} {x : PD} (h : RpO Γ M H a v x) (o : ownD x = false) : Rp Γ (hid M H) v x := by
  cases x with
  | list ds => cases o
  | dict ds => cases o
  | _ => exact h

/-! ## exceptions -/
def ExOk (Γ : Gm) (x : Exc) (cls : Value) (dx : Option Addr) (H : Hp) : Prop :=
  cls = .ref (Γ.cl x.c) ∧ match x.f with
    | none => dx = none
    | some (n, i) => ∃ a, dx = some a ∧ H a = some (.xd [(n, .int i)])
theorem ExOk.mono {x : Exc} {cls : Value} {dx : Option Addr} (h : ExOk Γ x cls dx H) (e : Same H H') : ExOk Γ x cls dx H' := by
  obtain ⟨h1, h2⟩ := h
  refine ⟨h1, ?_⟩
  revert h2
  cases x.f with
  | none => exact id
  | some p => exact fun ⟨a, h3, h4⟩ => ⟨a, h3, e _ _ h4⟩

/-- what is wanted behind a reckoning -/
def Pst (Γ : Gm) {A : Type} (W : WX) (σ : L2.St) (H : Hp) (ok : A → Hp → Prop) : R A → Prop
  | .stuck => False
  | .ok a => ∀ H', Same H H' → ok a H'
  | .exc x => ∀ cls dx H', Same H H' → ExOk Γ x cls dx H' → W cls dx σ H'
variable {A B : Type} {W : WX}
theorem Pst.mono {ok : A → Hp → Prop} {r : R A} (h : Pst Γ W σ H ok r) (e : Same H H') : Pst Γ W σ H' ok r := by
  cases r with
  | stuck => exact h
  | ok a => exact fun H2 e2 => h H2 (e.trans e2)
  | exc x => exact fun cls dx H2 e2 => h cls dx H2 (e.trans e2)
theorem Pst.imp {ok ok' : A → Hp → Prop} {r : R A} (h : Pst Γ W σ H ok r) (k : ∀ a H', Same H H' → ok a H' → ok' a H') : Pst Γ W σ H ok' r := by
  cases r with
  | stuck => exact h
  | ok a => exact fun H2 e2 => k a H2 e2 (h H2 e2)
  | exc x => exact h
theorem Pst.bind {ok : B → Hp → Prop} {r : R A} {f : A → R B} (h : Pst Γ W σ H ok (r >>= f)) : Pst Γ W σ H (fun a H1 => Pst Γ W σ H1 ok (f a)) r := by
  cases r with
  | stuck => exact h
  | ok a => exact fun H2 e2 => Pst.mono h e2
  | exc x => exact h
theorem Pst.now {ok : A → Hp → Prop} {a : A} (h : Pst Γ W σ H ok (.ok a)) : ok a H := h H (Same.refl H)

def TEo (Γ : Gm) (W : WX) (m : Sto → R PD) : TE := fun σ H Q => ∃ M ad ρ, Ste Γ M ad ρ σ H ∧ Pst Γ W σ H (fun d H' => ∀ v, Rp Γ (hid M H') v d → Q v H') (m ρ)
/-- a fresh list (or dict, or a value that is none) -/
def FrO (Γ : Gm) (M : Addr → Prop) (H H' : Hp) (v : V) (d : PD) : Prop := (ownD d = false ∧ Rp Γ (hid M H') v d) ∨ (ownD d = true ∧ ∃ p, H p = none ∧ RpO Γ (insM M p) H' p v d)
def TFo (Γ : Gm) (W : WX) (m : Sto → R PD) : TE := fun σ H Q => ∃ M ad ρ, Ste Γ M ad ρ σ H ∧ Pst Γ W σ H (fun d H' => ∀ v, FrO Γ M H H' v d → Q v H') (m ρ)
def TTo (Γ : Gm) (W : WX) (m : Sto → R Bool) : TT := fun σ H Q => ∃ M ad ρ, Ste Γ M ad ρ σ H ∧ Pst Γ W σ H (fun b H' => Q b H') (m ρ)
def TAo (Γ : Gm) (W : WX) (m : Sto → R (List PD)) : TA := fun σ H Q => ∃ M ad ρ, Ste Γ M ad ρ σ H ∧ Pst Γ W σ H (fun ds H' => ∀ vs, RpA Γ (hid M H') vs ds → Q vs H') (m ρ)
end Lilt

set_option Elab.async false
set_option linter.all false
set_option maxRecDepth 100000
set_option maxHeartbeats 2000000
set_option autoImplicit false
namespace Lilt
open PySem L2

section
variable {X : Cx} {Γ : Gm} {W : WX} {M : Addr → Prop} {σ : L2.St} {H H' : Hp}

theorem pe_mono {e : Expr} {t t' : TE} (h : PE X e t) (k : ∀ σ H Q, t' σ H Q → t σ H Q) : PE X e t' := ⟨fun pins s σ H Q I x => h.run pins s σ H Q I (k σ H Q x)⟩
theorem pt_mono {e : Expr} {t t' : TT} (h : PT X e t) (k : ∀ σ H Q, t' σ H Q → t σ H Q) : PT X e t' := ⟨fun pins s σ H Q I x => h.run pins s σ H Q I (k σ H Q x)⟩
theorem pw_mono {e : Expr} {t t' : TT} (h : PW X e t) (k : ∀ σ H Q, t' σ H Q → t σ H Q) : PW X e t' := ⟨fun wh pins s σ H Q I x => h.run wh pins s σ H Q I (k σ H Q x)⟩
theorem pa_mono {es : List Expr} {t t' : TA} (h : PA X es t) (k : ∀ σ H Q, t' σ H Q → t σ H Q) : PA X es t' := ⟨fun pos pins s σ H Q I x => h.run pos pins s σ H Q I (k σ H Q x)⟩
theorem ps_mono {st : Stmt} {t t' : TS} (h : PS X st t) (k : ∀ D σ H, t' D σ H → t D σ H) : PS X st t' := ⟨fun pins s σ H D I x => h.run pins s σ H D I (k D σ H x)⟩
theorem pss_mono {st : List Stmt} {t t' : TS} (h : PSs X st t) (k : ∀ D σ H, t' D σ H → t D σ H) : PSs X st t' := ⟨fun pins s σ H D I x => h.run pins s σ H D I (k D σ H x)⟩

theorem same_new {p : Addr} {o : HO} (hp : H p = none) : Same H (upd H p o) := fun a u e => by
  rw [upd_ne (ne_of_none e hp)]
  exact e
theorem notM {p : Addr} (hi : ∀ a, M a → ∃ o, H a = some o) (hp : H p = none) : ¬ M p := fun m => by
  obtain ⟨o, e⟩ := hi p m
  rw [hp] at e
  cases e
theorem hid_new {p : Addr} {o : HO} (hi : ∀ a, M a → ∃ o, H a = some o) (hp : H p = none) : hid M (upd H p o) p = some o := hid_of (notM hi hp) upd_same

/-! ## operations on values -/
abbrev InM (M : Addr → Prop) (H : Hp) : Prop := ∀ a, M a → ∃ o, H a = some o
theorem InM.mono {M : Addr → Prop} (h : InM M H) (e : Same H H') : InM M H' := fun a m => let ⟨o, q⟩ := h a m; ⟨o, e _ _ q⟩
/-- the rule r tells the mirror f -/
def OpS (Γ : Gm) (W : WX) (r : R2) (f : PD → PD → R PD) : Prop := ∀ (M : Addr → Prop) (σ : L2.St) (H : Hp) (Q : VK) (v w : V) (x y : PD), InM M H → Rp Γ (hid M H) v x → Rp Γ (hid M H) w y →
  Pst Γ W σ H (fun d H' => ∀ u, Rp Γ (hid M H') u d → Q u H') (f x y) → r v w H Q
theorem te_op {ma mb : Sto → R PD} {r : R2} {f : PD → PD → R PD} (h : OpS Γ W r f) (Q : VK) (x : TEo Γ W (fun ρ => do let a ← ma ρ; let b ← mb ρ; f a b) σ H Q) : tOp r (TEo Γ W ma) (TEo Γ W mb) σ H Q := by
  obtain ⟨M, ad, ρ, S, x⟩ := x
  refine ⟨M, ad, ρ, S, x.bind.imp fun a H1 e1 x1 v rv => ⟨M, ad, ρ, S.mono e1, x1.bind.imp fun b H2 e2 x2 u ru => ?_⟩⟩
  exact h M σ H2 Q v u a b (S.mono (e1.trans e2)).in_ (rv.mono (hid_same e2)) ru x2
theorem ee_bin {a b : Expr} {op : Operator} {pos : Pos} {ma mb : Sto → R PD} {r : R2} {f : PD → PD → R PD} (ho : OpR X (binaryOp op) r) (h : OpS Γ W r f) (ha : PE X a (TEo Γ W ma)) (hb : PE X b (TEo Γ W mb)) :
    PE X (.BinOp a op b pos) (TEo Γ W (fun ρ => do let x ← ma ρ; let y ← mb ρ; f x y)) := pe_mono (pe_op ho ha hb) fun _ _ Q x => te_op h Q x
theorem ee_cmp {a b : Expr} {op : CmpOp} {pos : Pos} {ma mb : Sto → R PD} {r : R2} {f : PD → PD → R PD} (ho : OpR X (compareOp op) r) (h : OpS Γ W r f) (ha : PE X a (TEo Γ W ma)) (hb : PE X b (TEo Γ W mb)) (hm : behindInMarks op b = false := by rfl) :
    PE X (.Compare a [op] [b] pos) (TEo Γ W (fun ρ => do let x ← ma ρ; let y ← mb ρ; f x y)) := pe_mono (pe_cmpR ho ha hb hm) fun _ _ Q x => te_op h Q x
theorem ee_ix {a b : Expr} {pos : Pos} {ma mb : Sto → R PD} {r : R2} {f : PD → PD → R PD} (ho : IxR X r) (h : OpS Γ W r f) (ha : PE X a (TEo Γ W ma)) (hb : PE X b (TEo Γ W mb)) (hs : PlainIx b := by exact fun _ _ => rfl) :
    PE X (.Subscript a b pos) (TEo Γ W (fun ρ => do let x ← ma ρ; let y ← mb ρ; f x y)) := pe_mono (pe_ix ho ha hb hs) fun _ _ Q x => te_op h Q x
def R.or {A : Type} : R A → R A → R A
  | .stuck, r => r
  | .ok a, _ => .ok a
  | .exc x, _ => .exc x
theorem OpS.or {r r' : R2} {f f' : PD → PD → R PD} (h : OpS Γ W r f) (h' : OpS Γ W r' f') : OpS Γ W (fun x y H Q => r x y H Q ∨ r' x y H Q) (fun x y => (f x y).or (f' x y)) := by
  intro M σ H Q v w x y i rv rw_ p
  have h1 := h M σ H Q v w x y i rv rw_
  have h2 := h' M σ H Q v w x y i rv rw_
  have p : Pst Γ W σ H _ ((f x y).or (f' x y)) := p
  cases e : f x y with
  | stuck => rw [e] at p; exact .inr (h2 p)
  | ok a => rw [e] at p h1; exact .inl (h1 p)
  | exc e' => rw [e] at p h1; exact .inl (h1 p)

/-! ints -/
theorem Rp.int_of {F : Hp} {v : V} {i : Int} (h : Rp Γ F v (.int i)) : v = .int i := by cases h; rfl
theorem Rp.str_of {F : Hp} {v : V} {i : Str} (h : Rp Γ F v (.str i)) : v = .str i := by cases h; rfl
theorem Rp.bl_of {F : Hp} {v : V} {i : Bool} (h : Rp Γ F v (.bool i)) : v = .bl i := by cases h; rfl
theorem Rp.non_of {F : Hp} {v : V} (h : Rp Γ F v .none) : v = .non := by cases h; rfl
theorem Rp.lst_of {F : Hp} {v : V} {ds : List PD} (h : Rp Γ F v (.list ds)) : ∃ a xs, v = .ref a ∧ SqL Γ.K F a xs ∧ RpA Γ F xs ds := by cases h; exact ⟨_, _, rfl, by assumption, by assumption⟩
theorem Rp.tup_of {F : Hp} {v : V} {ds : List PD} (h : Rp Γ F v (.tuple ds)) : ∃ a xs, v = .ref a ∧ SqT Γ.K F a xs ∧ RpA Γ F xs ds := by cases h; exact ⟨_, _, rfl, by assumption, by assumption⟩

def int2 (f : Int → Int → R PD) : PD → PD → R PD
  | .int i, .int j => f i j
  | _, _ => .stuck
def addI : PD → PD → R PD := int2 fun i j => .ok (.int (i + j))
def subI : PD → PD → R PD := int2 fun i j => .ok (.int (i - j))
instance (i j : Int) : Decidable (CMul i j) := by unfold CMul; infer_instance
instance (i j : Int) : Decidable (CDivN i j) := by unfold CDivN; infer_instance
instance (i j : Int) : Decidable (CPow i j) := by unfold CPow; infer_instance
def mulI : PD → PD → R PD := int2 fun i j => if CMul i j then .ok (.int (i * j)) else .stuck
def divI : PD → PD → R PD := int2 fun i j => if CDivN i j then .ok (.int (i.fdiv j)) else .stuck
def modI : PD → PD → R PD := int2 fun i j => if j ≠ 0 then .ok (.int (i.fmod j)) else .stuck
def powI : PD → PD → R PD := int2 fun i j => if CPow i j then .ok (.int (i ^ j.toNat)) else .stuck
def ltI : PD → PD → R PD := int2 fun i j => .ok (.bool (decide (i < j)))
def leI : PD → PD → R PD := int2 fun i j => .ok (.bool (decide (i ≤ j)))
def gtI : PD → PD → R PD := int2 fun i j => .ok (.bool (decide (j < i)))
def geI : PD → PD → R PD := int2 fun i j => .ok (.bool (decide (j ≤ i)))
theorem ops_int {r : R2} {f : Int → Int → R PD} (h : ∀ (i j : Int) (σ : L2.St) (M : Addr → Prop) (H : Hp) (Q : VK), Pst Γ W σ H (fun d H' => ∀ u, Rp Γ (hid M H') u d → Q u H') (f i j) → r (.int i) (.int j) H Q) : OpS Γ W r (int2 f) := by
  intro M σ H Q v w x y i rv rw_ p
  cases x with
  | int i =>
    cases y with
    | int j =>
      rw [rv.int_of, rw_.int_of]
      exact h i j σ M H Q p
    | _ => exact p.elim
  | _ => exact p.elim
theorem s_add : OpS Γ W (rI0 fun i j => .int (i + j)) addI := ops_int fun i j _ _ H _ p => ⟨i, j, rfl, rfl, p.now _ (.int _)⟩
theorem s_sub : OpS Γ W (rI0 fun i j => .int (i - j)) subI := ops_int fun i j _ _ H _ p => ⟨i, j, rfl, rfl, p.now _ (.int _)⟩
theorem s_lt : OpS Γ W (rI0 fun i j => .bl (decide (i < j))) ltI := ops_int fun i j _ _ H _ p => ⟨i, j, rfl, rfl, p.now _ (.bl _)⟩
theorem s_le : OpS Γ W (rI0 fun i j => .bl (decide (i ≤ j))) leI := ops_int fun i j _ _ H _ p => ⟨i, j, rfl, rfl, p.now _ (.bl _)⟩
theorem s_gt : OpS Γ W (rI0 fun i j => .bl (decide (j < i))) gtI := ops_int fun i j _ _ H _ p => ⟨i, j, rfl, rfl, p.now _ (.bl _)⟩
theorem s_ge : OpS Γ W (rI0 fun i j => .bl (decide (j ≤ i))) geI := ops_int fun i j _ _ H _ p => ⟨i, j, rfl, rfl, p.now _ (.bl _)⟩
theorem s_mul : OpS Γ W (rI CMul fun i j => .int (i * j)) mulI := ops_int fun i j _ _ H _ p => by
  split at p
  · exact ⟨i, j, rfl, rfl, by assumption, p.now _ (.int _)⟩
  · exact p.elim
theorem s_div : OpS Γ W (rI CDivN fun i j => .int (i.fdiv j)) divI := ops_int fun i j _ _ H _ p => by
  split at p
  · exact ⟨i, j, rfl, rfl, by assumption, p.now _ (.int _)⟩
  · exact p.elim
theorem s_mod : OpS Γ W (rI (fun _ j => j ≠ 0) fun i j => .int (i.fmod j)) modI := ops_int fun i j _ _ H _ p => by
  split at p
  · exact ⟨i, j, rfl, rfl, by assumption, p.now _ (.int _)⟩
  · exact p.elim
theorem s_pow : OpS Γ W (rI CPow fun i j => .int (i ^ j.toNat)) powI := ops_int fun i j _ _ H _ p => by
  split at p
  · exact ⟨i, j, rfl, rfl, by assumption, p.now _ (.int _)⟩
  · exact p.elim

/-! texts -/
def addS : PD → PD → R PD
  | .str x, .str y => if x.length + y.length ≤ sizeLine then .ok (.str (x ++ y)) else .stuck
  | _, _ => .stuck
theorem s_addS : OpS Γ W (fun x y H Q => ∃ i j, x = .str i ∧ y = .str j ∧ i.length + j.length ≤ sizeLine ∧ Q (.str (i ++ j)) H) addS := by
  intro M σ H Q v w x y i rv rw_ p
  cases x with
  | str i =>
    cases y with
    | str j =>
      rw [rv.str_of, rw_.str_of]
      simp only [addS] at p
      split at p
      · exact ⟨i, j, rfl, rfl, by assumption, p.now _ (.str _)⟩
      · exact p.elim
    | _ => exact p.elim
  | _ => exact p.elim
def inS : PD → PD → R PD
  | .str x, .str y => .ok (.bool (!(Builtin.Str.occurrences y x 0 y.length 1).isEmpty))
  | _, _ => .stuck
def notR (r : R PD) : R PD := match r with
  | .ok (.bool b) => .ok (.bool (!b))
  | .exc x => .exc x
  | _ => .stuck
theorem s_inS : OpS Γ W (fun x y H Q => ∃ i j, x = .str i ∧ y = .str j ∧ Q (.bl (!(Builtin.Str.occurrences j i 0 j.length 1).isEmpty)) H) inS := by
  intro M σ H Q v w x y i rv rw_ p
  cases x with
  | str i =>
    cases y with
    | str j =>
      rw [rv.str_of, rw_.str_of]
      exact ⟨i, j, rfl, rfl, p.now _ (.bl _)⟩
    | _ => exact p.elim
  | _ => exact p.elim
theorem s_ninS : OpS Γ W (fun x y H Q => ∃ i j, x = .str i ∧ y = .str j ∧ Q (.bl (!(!(Builtin.Str.occurrences j i 0 j.length 1).isEmpty))) H) (fun x y => notR (inS x y)) := by
  intro M σ H Q v w x y i rv rw_ p
  cases x with
  | str i =>
    cases y with
    | str j =>
      rw [rv.str_of, rw_.str_of]
      exact ⟨i, j, rfl, rfl, p.now _ (.bl _)⟩
    | _ => exact p.elim
  | _ => exact p.elim

/-! lists and tuples put together -/
def addT : PD → PD → R PD
  | .tuple x, .tuple y => if x.length + y.length ≤ sizeLine then .ok (.tuple (x ++ y)) else .stuck
  | _, _ => .stuck
theorem s_addT : OpS Γ W (rCatA Γ.K) addT := by
  intro M σ H Q v w x y i rv rw_ p
  cases x with
  | tuple xs =>
    cases y with
    | tuple ys =>
      obtain ⟨a, vs, rfl, ha, ra⟩ := rv.tup_of
      obtain ⟨b, ws, rfl, hb, rb⟩ := rw_.tup_of
      simp only [addT] at p
      have la := ra.length
      have lb := rb.length
      split at p
      · refine ⟨a, b, vs, ws, rfl, rfl, sqT_same (hid_le M H) ha, sqT_same (hid_le M H) hb, by omega, ?_, ?_, ?_⟩
        · rintro rfl
          cases ra
          exact p.now _ rw_
        · rintro _ rfl
          cases rb
          have p := p.now
          rw [List.append_nil] at p
          exact p _ rv
        · intro _ _ q hq
          exact p _ (same_new hq) _ (.tup (SqT.of (hid_new i hq)) ((ra.append rb).mono (hid_same (same_new hq))))
      · exact p.elim
    | _ => exact p.elim
  | _ => exact p.elim

/-! == and != of data; in -/
mutual
theorem plain_of : ∀ d : PD, PyData.canLay0 d = true → plain d = true
  | .none, _ => rfl
  | .bool _, _ => rfl
  | .int _, _ => rfl
  | .str _, _ => rfl
  | .list xs, h => by simp only [PyData.canLay0] at h; simp only [plain]; exact plainA_of xs h
  | .tuple xs, h => by simp only [PyData.canLay0] at h; simp only [plain]; exact plainA_of xs h
  | .dict _, h => by simp [PyData.canLay0] at h
theorem plainA_of : ∀ d : List PD, PyData.canLayAll0 d = true → plainA d = true
  | [], _ => rfl
  | x :: xs, h => by
    simp only [PyData.canLayAll0, Bool.and_eq_true] at h
    simp only [plainA, Bool.and_eq_true]
    exact ⟨plain_of x h.1, plainA_of xs h.2⟩
end
theorem shaped_plain {d : PD} (h : SeqAt.shaped d = true) : plain d = true := plain_of d (SeqAt.canLay_of_shaped h)
def eqD (x y : PD) : R PD := if SeqAt.shaped x && SeqAt.shaped y then .ok (.bool (PyData.eqv x y)) else .stuck
def neD (x y : PD) : R PD := if SeqAt.shaped x && SeqAt.shaped y then .ok (.bool (!PyData.eqv x y)) else .stuck
theorem dp_same {K : PySem.W.Frag} {F F' : Hp} (e : Same F F') : ∀ (d : PD) (v : V), Dp K F v d → Dp K F' v d := by
  intro d v h
  exact Dp.rec (motive_1 := fun v d _ => Dp K F' v d) (motive_2 := fun v d _ => DpAll K F' v d) .non (fun b => .bl b) (fun i => .int i) (fun x => .str x) (fun s _ ih => .lst (sqL_same e s) ih) (fun s _ ih => .tup (sqT_same e s) ih) .nil (fun _ _ a b => .cons a b) h
theorem s_eq : OpS Γ W (rEqD Γ.K) eqD := by
  intro M σ H Q v w x y i rv rw_ p
  simp only [eqD] at p
  split at p
  · rename_i h
    rw [Bool.and_eq_true] at h
    exact ⟨x, y, dp_same (hid_le M H) _ _ (rv.dp (shaped_plain h.1)), dp_same (hid_le M H) _ _ (rw_.dp (shaped_plain h.2)), h.1, h.2, p.now _ (.bl _)⟩
  · exact p.elim
theorem s_ne : OpS Γ W (rNeD Γ.K) neD := by
  intro M σ H Q v w x y i rv rw_ p
  simp only [neD] at p
  split at p
  · rename_i h
    rw [Bool.and_eq_true] at h
    exact ⟨x, y, dp_same (hid_le M H) _ _ (rv.dp (shaped_plain h.1)), dp_same (hid_le M H) _ _ (rw_.dp (shaped_plain h.2)), h.1, h.2, p.now _ (.bl _)⟩
  · exact p.elim
def inL : PD → PD → R PD
  | x, .list ys => if SeqAt.shaped x && SeqAt.shaped (.list ys) then .ok (.bool (ys.any fun z => PyData.eqv z x)) else .stuck
  | _, _ => .stuck
theorem s_inL : OpS Γ W (rInD Γ.K) inL := by
  intro M σ H Q v w x y i rv rw_ p
  cases y with
  | list ys =>
    simp only [inL] at p
    split at p
    · rename_i h
      rw [Bool.and_eq_true] at h
      exact ⟨x, ys, dp_same (hid_le M H) _ _ (rv.dp (shaped_plain h.1)), dp_same (hid_le M H) _ _ (rw_.dp (shaped_plain h.2)), h.1, h.2, p.now _ (.bl _)⟩
    · exact p.elim
  | _ => exact p.elim
theorem s_ninL : OpS Γ W (rNotInD Γ.K) (fun x y => notR (inL x y)) := by
  intro M σ H Q v w x y i rv rw_ p
  cases y with
  | list ys =>
    simp only [inL] at p
    split at p
    · rename_i h
      rw [Bool.and_eq_true] at h
      exact ⟨x, ys, dp_same (hid_le M H) _ _ (rv.dp (shaped_plain h.1)), dp_same (hid_le M H) _ _ (rw_.dp (shaped_plain h.2)), h.1, h.2, p.now _ (.bl _)⟩
    · exact p.elim
  | _ => exact p.elim
/-- in a tuple of data -/
def rInU (K : PySem.W.Frag) : R2 := fun x y H Q => ∃ d ds, Dp K H x d ∧ Dp K H y (.tuple ds) ∧ SeqAt.shaped d = true ∧ SeqAt.shaped (.tuple ds) = true ∧ Q (.bl (ds.any fun z => PyData.eqv z d)) H
def rNotInU (K : PySem.W.Frag) : R2 := fun x y H Q => ∃ d ds, Dp K H x d ∧ Dp K H y (.tuple ds) ∧ SeqAt.shaped d = true ∧ SeqAt.shaped (.tuple ds) = true ∧ Q (.bl (!ds.any fun z => PyData.eqv z d)) H
theorem room_tup {A : Around} {d : PD} {ds : List PD} (sd : SeqAt.shaped d = true) (hu : A.units + 65 < cLine) : A.units + 1 + min (PyData.depthAll ds) d.depth < cLine := by
  have h : d.depth ≤ 64 := by
    unfold SeqAt.shaped at sd
    simp only [Bool.and_eq_true, decide_eq_true_eq] at sd
    exact sd.2
  have h2 : min (PyData.depthAll ds) d.depth ≤ d.depth := Nat.min_le_right _ _
  omega
theorem op_inU (hu : X.A.units + 65 < cLine) : OpR X (compareOp .In) (rInU X.K) := by
  intro pins s σ H x y v u Q I rx ry h
  obtain ⟨d, ds, hd, he, sd, se, q⟩ := h
  obtain ⟨as, r1⟩ := Dp.reads I d x v hd rx
  obtain ⟨bs, r2⟩ := Dp.reads I (.tuple ds) y u he ry
  exact SeqAt.in_tuple_reads r2 r1 (SeqAt.canLay_of_shaped se) (SeqAt.canLay_of_shaped sd) (room_tup sd hu) ⟨.bl _, H, I, rfl, q⟩
theorem op_notInU (hu : X.A.units + 65 < cLine) : OpR X (compareOp .NotIn) (rNotInU X.K) := by
  intro pins s σ H x y v u Q I rx ry h
  obtain ⟨d, ds, hd, he, sd, se, q⟩ := h
  obtain ⟨as, r1⟩ := Dp.reads I d x v hd rx
  obtain ⟨bs, r2⟩ := Dp.reads I (.tuple ds) y u he ry
  exact SeqAt.notIn_tuple_reads r2 r1 (SeqAt.canLay_of_shaped se) (SeqAt.canLay_of_shaped sd) (room_tup sd hu) ⟨.bl _, H, I, rfl, q⟩
def inU : PD → PD → R PD
  | x, .tuple ys => if SeqAt.shaped x && SeqAt.shaped (.tuple ys) then .ok (.bool (ys.any fun z => PyData.eqv z x)) else .stuck
  | _, _ => .stuck
theorem s_inU : OpS Γ W (rInU Γ.K) inU := by
  intro M σ H Q v w x y i rv rw_ p
  cases y with
  | tuple ys =>
    simp only [inU] at p
    split at p
    · rename_i h
      rw [Bool.and_eq_true] at h
      exact ⟨x, ys, dp_same (hid_le M H) _ _ (rv.dp (shaped_plain h.1)), dp_same (hid_le M H) _ _ (rw_.dp (shaped_plain h.2)), h.1, h.2, p.now _ (.bl _)⟩
    · exact p.elim
  | _ => exact p.elim
theorem s_ninU : OpS Γ W (rNotInU Γ.K) (fun x y => notR (inU x y)) := by
  intro M σ H Q v w x y i rv rw_ p
  cases y with
  | tuple ys =>
    simp only [inU] at p
    split at p
    · rename_i h
      rw [Bool.and_eq_true] at h
      exact ⟨x, ys, dp_same (hid_le M H) _ _ (rv.dp (shaped_plain h.1)), dp_same (hid_le M H) _ _ (rw_.dp (shaped_plain h.2)), h.1, h.2, p.now _ (.bl _)⟩
    · exact p.elim
  | _ => exact p.elim
/-! is None -/
def isNoneD : PD → Bool
  | .none => true
  | _ => false
def isN (x y : PD) : R PD := match y with
  | .none => .ok (.bool (isNoneD x))
  | _ => .stuck
def isNN (x y : PD) : R PD := match y with
  | .none => .ok (.bool (!isNoneD x))
  | _ => .stuck
theorem Rp.isN {F : Hp} {v : V} {x : PD} (h : Rp Γ F v x) : decide (v = .non) = isNoneD x := by
  cases h <;> simp [isNoneD]
theorem s_isN : OpS Γ W (fun x y H Q => y = .non ∧ Q (.bl (decide (x = .non))) H) isN := by
  intro M σ H Q v w x y i rv rw_ p
  cases y with
  | none => exact ⟨rw_.non_of, by rw [rv.isN]; exact p.now _ (.bl _)⟩
  | _ => exact p.elim
theorem s_isNN : OpS Γ W (fun x y H Q => y = .non ∧ Q (.bl (!decide (x = .non))) H) isNN := by
  intro M σ H Q v w x y i rv rw_ p
  cases y with
  | none =>
    refine ⟨rw_.non_of, ?_⟩
    rw [rv.isN]
    exact p.now _ (.bl _)
  | _ => exact p.elim
/-! subscripts -/
def ixL : PD → PD → R PD
  | .list xs, .int i => match atI xs i with | some d => .ok d | none => .stuck
  | _, _ => .stuck
def ixT : PD → PD → R PD
  | .tuple xs, .int i => match atI xs i with | some d => .ok d | none => .stuck
  | _, _ => .stuck
def ixS : PD → PD → R PD
  | .str x, .int i => if x.length ≤ sizeLine then (match atI x.cps.toList i with | some c => .ok (.str ⟨#[c]⟩) | none => .stuck) else .stuck
  | _, _ => .stuck
theorem RpA.at {F : Hp} {vs : List V} {ds : List PD} {i : Int} {d : PD} (h : RpA Γ F vs ds) (e : atI ds i = some d) : ∃ v, atI vs i = some v ∧ Rp Γ F v d := by
  unfold atI at e ⊢
  rw [h.length]
  cases q : ixN ds.length i with
  | none => rw [q] at e; cases e
  | some j =>
    rw [q] at e
    obtain ⟨v, h1, h2⟩ := h.get (i := j) e
    exact ⟨v, h1, h2⟩
theorem s_ixL : OpS Γ W (rIxL Γ.K) ixL := by
  intro M σ H Q v w x y i rv rw_ p
  cases x with
  | list xs =>
    cases y with
    | int k =>
      obtain ⟨a, vs, rfl, ha, ra⟩ := rv.lst_of
      rw [rw_.int_of]
      simp only [ixL] at p
      split at p
      · rename_i d e
        obtain ⟨u, h1, h2⟩ := ra.at e
        exact ⟨a, vs, k, u, rfl, rfl, sqL_same (hid_le M H) ha, h1, p.now _ h2⟩
      · exact p.elim
    | _ => exact p.elim
  | _ => exact p.elim
theorem s_ixT : OpS Γ W (rIxT Γ.K) ixT := by
  intro M σ H Q v w x y i rv rw_ p
  cases x with
  | tuple xs =>
    cases y with
    | int k =>
      obtain ⟨a, vs, rfl, ha, ra⟩ := rv.tup_of
      rw [rw_.int_of]
      simp only [ixT] at p
      split at p
      · rename_i d e
        obtain ⟨u, h1, h2⟩ := ra.at e
        exact ⟨a, vs, k, u, rfl, rfl, sqT_same (hid_le M H) ha, h1, p.now _ h2⟩
      · exact p.elim
    | _ => exact p.elim
  | _ => exact p.elim
theorem s_ixS : OpS Γ W rIxS ixS := by
  intro M σ H Q v w x y i rv rw_ p
  cases x with
  | str z =>
    cases y with
    | int k =>
      rw [rv.str_of, rw_.int_of]
      simp only [ixS] at p
      split at p
      · split at p
        · rename_i c e
          exact ⟨z, k, c, rfl, rfl, by assumption, e, p.now _ (.str _)⟩
        · exact p.elim
      · exact p.elim
    | _ => exact p.elim
  | _ => exact p.elim
/-- a list, a tuple or a text, at a place -/
def ixD (x y : PD) : R PD := match x with
  | .list _ => ixL x y
  | .tuple _ => ixT x y
  | .str _ => ixS x y
  | _ => .stuck
theorem s_ix : OpS Γ W (rIx Γ.K) ixD := by
  intro M σ H Q v w x y i rv rw_ p
  cases x with
  | list xs => exact .inl (s_ixL M σ H Q v w _ y i rv rw_ p)
  | tuple xs => exact .inr (.inl (s_ixT M σ H Q v w _ y i rv rw_ p))
  | str xs => exact .inr (.inr (s_ixS M σ H Q v w _ y i rv rw_ p))
  | _ => exact p.elim
end
end Lilt

set_option Elab.async false
set_option linter.all false
set_option maxRecDepth 100000
set_option maxHeartbeats 2000000
set_option autoImplicit false
namespace Lilt
open PySem L2

section
variable {X : Cx} {Γ : Gm} {W : WX} {M : Addr → Prop} {σ : L2.St} {H H' : Hp}

def frz (i : Nat) (ρ : Sto) : Sto := match ρ[i]? with
  | some (.ov x) => ρ.set i (.d x)
  | _ => ρ
def scalD : PD → Bool
  | .none => true | .bool _ => true | .int _ => true | .str _ => true
  | _ => false
def onlyScal (d : PD) : R PD := if scalD d then .ok d else .stuck
@[reducible] def mBin (f : PD → PD → R PD) (ma mb : Sto → R PD) : Sto → R PD := fun ρ => do let x ← ma ρ; let y ← mb ρ; f x y
@[reducible] def mAp (f : List PD → R PD) (ms : Sto → R (List PD)) : Sto → R PD := fun ρ => do f (← ms ρ)
@[reducible] def mBor (i : Nat) (m : Sto → R PD) : Sto → R PD := fun ρ => do let x ← m (frz i ρ); onlyScal x
@[reducible] def mBorT (i : Nat) (m : Sto → R Bool) : Sto → R Bool := fun ρ => m (frz i ρ)
@[reducible] def mIt (f : PD → R (List PD)) (m : Sto → R PD) : Sto → R (List PD) := fun ρ => do f (← m ρ)
@[reducible] def mItA (f : List PD → R (List PD)) (m : Sto → R (List PD)) : Sto → R (List PD) := fun ρ => do f (← m ρ)
/-! ## names and constants -/
def mVar (i : Nat) : Sto → R PD := fun ρ => match ρ[i]? with
  | some (.d x) => .ok x
  | some (.ov x) => if ownD x then .stuck else .ok x
  | _ => .stuck
theorem te_var {i : Nat} {Q : VK} (h : TEo Γ W (mVar i) σ H Q) : tVar i σ H Q := by
  obtain ⟨M, ad, ρ, S, p⟩ := h
  unfold mVar at p
  split at p
  · rename_i x e
    obtain ⟨v, h1, h2⟩ := S.sl i _ e
    exact ⟨v, h1, p.now v h2⟩
  · rename_i x e
    split at p
    · exact p.elim
    · rename_i n
      obtain ⟨v, h1, h2⟩ := S.sl i _ e
      exact ⟨v, h1, p.now v (h2.scal (by simpa using n))⟩
  · exact p.elim
theorem ee_var (i : Nat) {x : Str} {pos : Pos} (h : PE X (.Name x pos) (tVar i)) : PE X (.Name x pos) (TEo Γ W (mVar i)) := pe_mono h fun _ _ _ k => te_var k
def mC (d : PD) : Sto → R PD := fun _ => .ok d
theorem ee_int {j : Nat} {i : Int} {pos : Pos} : PE X (.Constant (.int i) j pos) (TEo Γ W (mC (.int i))) := pe_mono pe_int fun _ _ _ ⟨_, _, _, S, p⟩ => p.now _ (.int _)
theorem ee_str {j : Nat} {i : Str} {pos : Pos} : PE X (.Constant (.str i) j pos) (TEo Γ W (mC (.str i))) := pe_mono pe_str fun _ _ _ ⟨_, _, _, S, p⟩ => p.now _ (.str _)
theorem ee_bl {j : Nat} {i : Bool} {pos : Pos} : PE X (.Constant (.bool i) j pos) (TEo Γ W (mC (.bool i))) := pe_mono pe_bl fun _ _ _ ⟨_, _, _, S, p⟩ => p.now _ (.bl _)
theorem ee_non {j : Nat} {pos : Pos} : PE X (.Constant .none j pos) (TEo Γ W (mC .none)) := pe_mono pe_non fun _ _ _ ⟨_, _, _, S, p⟩ => p.now _ .non
/-- a constant of the module -/
theorem ee_glob {x : Str} {v : V} {u : Value} {d : PD} {pos : Pos} (hg : Gl X x) (hm : X.mg x = some u) (r : RelV v u) (hd : Rp Γ (fun _ => none) v d) (hdb : (x == ("__debug__" : Str)) = false := by decide) : PE X (.Name x pos) (TEo Γ W (mC d)) :=
  pe_mono (pe_glob hg hm r hdb) fun _ _ _ ⟨_, _, _, S, p⟩ => p.now _ (hd.mono fun _ _ e => by cases e)

/-! ## lending an owned slot -/
def delM (M : Addr → Prop) (p : Addr) : Addr → Prop := fun a => M a ∧ a ≠ p
theorem RpO.frz {a : Addr} {v : V} {x : PD} (h : RpO Γ M H a v x) (o : ownD x = true) : Rp Γ (hid (delM M a) H) v x := by
  have w : ∀ b, delM M a b → M b := fun b m => m.1
  have n : ¬ delM M a a := fun m => m.2 rfl
  cases x with
  | list ds =>
    obtain ⟨rfl, h2, vs, h3, h4⟩ := h
    exact .lst (SqL.of (hid_of n h3)) (h4.mono (hid_weak w))
  | dict ds =>
    obtain ⟨rfl, h2, h⟩ := h
    rcases h with ⟨kvs, h3, h4⟩ | ⟨xs, es, rfl, h3, h4⟩
    · exact .dik (.inl (hid_of n h3)) (h4.mono (hid_weak w))
    · exact .din (.inl (hid_of n h3)) (h4.mono (hid_weak w))
  | _ => cases o
theorem Ste.lend {ad : Nat → Addr} {ρ : Sto} (S : Ste Γ M ad ρ σ H) (i : Nat) {x : PD} (e : ρ[i]? = some (.ov x)) (o : ownD x = true) : Ste Γ (delM M (ad i)) ad (ρ.set i (.d x)) σ H := by
  have w : ∀ b, delM M (ad i) b → M b := fun b m => m.1
  refine ⟨fun a m => S.in_ a m.1, by rw [List.length_set]; exact S.len, fun j s h => ?_, fun j k s s' h1 h2 o1 o2 q => ?_⟩
  · by_cases hj : j = i
    · subst hj
      rw [List.getElem?_set_self (by have := (List.getElem?_eq_some_iff.mp e).1; exact this)] at h
      obtain rfl := Option.some.inj h
      obtain ⟨v, h1, h2⟩ := S.sl j _ e
      exact ⟨v, h1, h2.frz o⟩
    · rw [List.getElem?_set_ne (fun q => hj q.symm)] at h
      refine (S.sl j s h).move (hid_weak w) fun os => ?_
      obtain ⟨m, _, _⟩ := (S.sl j s h).ownM os
      exact ⟨⟨m, fun q => hj (S.dj j i s _ h e os o q)⟩, fun _ z => z⟩
  · have f : ∀ (j : Nat) (s : Sl), (ρ.set i (.d x))[j]? = some s → s.own = true → ρ[j]? = some s := fun j s h o1 => by
      by_cases hj : j = i
      · subst hj
        rw [List.getElem?_set_self (by have := (List.getElem?_eq_some_iff.mp e).1; exact this)] at h
        obtain rfl := Option.some.inj h
        cases o1
      · rw [List.getElem?_set_ne (fun q => hj q.symm)] at h
        exact h
    exact S.dj j k s s' (f j s h1 o1) (f k s' h2 o2) o1 o2 q
/-- a value that is none of the kinds that are owned is data in a slot -/
theorem Ste.plainSl {ad : Nat → Addr} {ρ : Sto} (S : Ste Γ M ad ρ σ H) (i : Nat) {x : PD} (e : ρ[i]? = some (.ov x)) (o : ownD x = false) : Ste Γ M ad (ρ.set i (.d x)) σ H := by
  refine ⟨S.in_, by rw [List.length_set]; exact S.len, fun j s h => ?_, fun j k s s' h1 h2 o1 o2 q => ?_⟩
  · by_cases hj : j = i
    · subst hj
      rw [List.getElem?_set_self (by have := (List.getElem?_eq_some_iff.mp e).1; exact this)] at h
      obtain rfl := Option.some.inj h
      obtain ⟨v, h1, h2⟩ := S.sl j _ e
      exact ⟨v, h1, h2.scal o⟩
    · rw [List.getElem?_set_ne (fun q => hj q.symm)] at h
      exact S.sl j s h
  · have f : ∀ (j : Nat) (s : Sl), (ρ.set i (.d x))[j]? = some s → s.own = true → ρ[j]? = some s := fun j s h o1 => by
      by_cases hj : j = i
      · subst hj
        rw [List.getElem?_set_self (by have := (List.getElem?_eq_some_iff.mp e).1; exact this)] at h
        obtain rfl := Option.some.inj h
        cases o1
      · rw [List.getElem?_set_ne (fun q => hj q.symm)] at h
        exact h
    exact S.dj j k s s' (f j s h1 o1) (f k s' h2 o2) o1 o2 q
theorem Ste.frzAny {ad : Nat → Addr} {ρ : Sto} (S : Ste Γ M ad ρ σ H) (i : Nat) : ∃ M', (∀ a, M' a → M a) ∧ Ste Γ M' ad (frz i ρ) σ H := by
  unfold Lilt.frz
  split
  · rename_i x e
    cases o : ownD x with
    | true => exact ⟨_, fun a m => m.1, S.lend i e o⟩
    | false => exact ⟨_, fun a m => m, S.plainSl i e o⟩
  · exact ⟨M, fun a m => m, S⟩
theorem Rp.scalAny {F F' : Hp} {v : V} {d : PD} (h : Rp Γ F v d) (s : scalD d = true) : Rp Γ F' v d := by
  cases h with
  | non => exact .non
  | bl b => exact .bl b
  | int i => exact .int i
  | str i => exact .str i
  | _ => cases s
theorem ee_bor (i : Nat) {e : Expr} {m : Sto → R PD} (h : PE X e (TEo Γ W m)) : PE X e (TEo Γ W (fun ρ => do let x ← m (frz i ρ); onlyScal x)) := pe_mono h fun σ H Q ⟨M, ad, ρ, S, p⟩ => by
  obtain ⟨M', w, S'⟩ := S.frzAny i
  refine ⟨M', ad, _, S', p.bind.imp fun a H1 e1 x1 v rv => ?_⟩
  unfold onlyScal at x1
  split at x1
  · rename_i s
    exact x1.now v (rv.scalAny s)
  · exact x1.elim
theorem et_bor (i : Nat) {e : Expr} {m : Sto → R Bool} (h : PT X e (TTo Γ W m)) : PT X e (TTo Γ W (fun ρ => m (frz i ρ))) := pt_mono h fun σ H Q ⟨M, ad, ρ, S, p⟩ => by
  obtain ⟨M', w, S'⟩ := S.frzAny i
  exact ⟨M', ad, _, S', p⟩
theorem ew_bor (i : Nat) {e : Expr} {m : Sto → R Bool} (h : PW X e (TTo Γ W m)) : PW X e (TTo Γ W (fun ρ => m (frz i ρ))) := pw_mono h fun σ H Q ⟨M, ad, ρ, S, p⟩ => by
  obtain ⟨M', w, S'⟩ := S.frzAny i
  exact ⟨M', ad, _, S', p⟩

/-! ## arguments, displays -/
def mNil : Sto → R (List PD) := fun _ => .ok []
def mCons (m : Sto → R PD) (ms : Sto → R (List PD)) : Sto → R (List PD) := fun ρ => do let x ← m ρ; let xs ← ms ρ; pure (x :: xs)
theorem ea_nil : PA X [] (TAo Γ W mNil) := pa_mono pa_nil fun _ _ _ ⟨_, _, _, S, p⟩ => p.now _ .nil
theorem ea_cons {e : Expr} {es : List Expr} {m : Sto → R PD} {ms : Sto → R (List PD)} (ha : PE X e (TEo Γ W m)) (hr : PA X es (TAo Γ W ms)) (hs : starEach (e :: es) X.env = (false, eval e X.env) :: starEach es X.env := by rfl) :
    PA X (e :: es) (TAo Γ W (mCons m ms)) := pa_mono (pa_cons ha hr hs) fun σ H Q ⟨M, ad, ρ, S, p⟩ =>
  ⟨M, ad, ρ, S, p.bind.imp fun a H1 e1 x1 v rv => ⟨M, ad, ρ, S.mono e1, x1.bind.imp fun b H2 e2 x2 vs rvs => x2.now _ (.cons (rv.mono (hid_same e2)) rvs)⟩⟩
def szT (xs : List PD) : R PD := if xs.length ≤ sizeLine then .ok (.tuple xs) else .stuck
def szL (xs : List PD) : R PD := if xs.length ≤ sizeLine then .ok (.list xs) else .stuck
def mTup (ms : Sto → R (List PD)) : Sto → R PD := fun ρ => do let xs ← ms ρ; szT xs
def mLst (ms : Sto → R (List PD)) : Sto → R PD := fun ρ => do let xs ← ms ρ; szL xs
theorem ee_tup {es : List Expr} {k : Nat} {pos : Pos} {ms : Sto → R (List PD)} (h : PA X es (TAo Γ W ms)) : PE X (.Tuple es k pos) (TEo Γ W (mTup ms)) := pe_mono (pe_tup h) fun σ H Q ⟨M, ad, ρ, S, p⟩ =>
  ⟨M, ad, ρ, S, p.bind.imp fun xs H1 e1 x1 vs rv => by
    simp only [szT] at x1
    split at x1
    · exact ⟨by rw [rv.length]; assumption, fun q hq => x1 _ (same_new hq) _ (.tup (SqT.of (hid_new (S.mono e1).in_ hq)) (rv.mono (hid_same (same_new hq))))⟩
    · exact x1.elim⟩
theorem insM_hid {p : Addr} {vs : List V} {ds : List PD} {H1 : Hp} (hp : H1 p = none) (e : Same H H1) (rv : RpA Γ (hid M H1) vs ds) : RpO Γ (insM M p) (upd H1 p (.lst vs)) p (.ref p) (.list ds) :=
  ⟨rfl, .inr rfl, vs, upd_same, rv.mono (hid_ins (same_new hp) hp)⟩
theorem ef_lst {es : List Expr} {pos : Pos} {ms : Sto → R (List PD)} (h : PA X es (TAo Γ W ms)) : PE X (.List es pos) (TFo Γ W (mLst ms)) := pe_mono (pe_lst h) fun σ H Q ⟨M, ad, ρ, S, p⟩ =>
  ⟨M, ad, ρ, S, p.bind.imp fun xs H1 e1 x1 vs rv => by
    simp only [szL] at x1
    split at x1
    · exact ⟨by rw [rv.length]; assumption, fun q hq => x1 _ (same_new hq) _ (.inr ⟨rfl, q, e1.free hq, insM_hid hq e1 rv⟩)⟩
    · exact x1.elim⟩
/-- what is fresh is data -/
theorem FrO.rp {H1 : Hp} {v : V} {d : PD} (h : FrO Γ M H H1 v d) (i : InM M H) : Rp Γ (hid M H1) v d := by
  rcases h with ⟨_, h⟩ | ⟨o, p, hp, h⟩
  · exact h
  · have n : ¬ M p := notM i hp
    exact (h.frz o).mono (hid_weak fun a m => ⟨.inl m, fun q => n (q ▸ m)⟩)
theorem ee_of {e : Expr} {m : Sto → R PD} (h : PE X e (TFo Γ W m)) : PE X e (TEo Γ W m) := pe_mono h fun σ H Q ⟨M, ad, ρ, S, p⟩ => ⟨M, ad, ρ, S, p.imp fun a H1 e1 k v r => k v (r.rp S.in_)⟩
theorem ef_pl {e : Expr} {m : Sto → R PD} (h : PE X e (TEo Γ W m)) : PE X e (TFo Γ W (fun ρ => do let x ← m ρ; if ownD x then .stuck else .ok x)) := pe_mono h fun σ H Q ⟨M, ad, ρ, S, p⟩ =>
  ⟨M, ad, ρ, S, p.bind.imp fun a H1 e1 k v r => by
    split at k
    · exact k.elim
    · exact k.now v (.inl ⟨by simpa using ‹¬ ownD a = true›, r⟩)⟩

/-! ## lists put together: fresh -/
def rCatL (K : PySem.W.Frag) : R2 := fun x y H Q => ∃ l b xs zs, x = .ref l ∧ y = .ref b ∧ SqL K H l xs ∧ SqL K H b zs ∧ xs.length + zs.length ≤ sizeLine ∧ ∀ p, H p = none → Q (.ref p) (upd H p (.lst (xs ++ zs)))
/-! ## tests -/
def mBool (m : Sto → R PD) : Sto → R Bool := fun ρ => do
  match ← m ρ with
  | .bool b => pure b
  | _ => .stuck
theorem et_val {e : Expr} {m : Sto → R PD} (h : PE X e (TEo Γ W m)) (he : ∀ whole, isTrue e X.env whole = (do let v ← whole; standAt e.pos; holding [v] (truthy v)) := by intro _; rfl) : PT X e (TTo Γ W (mBool m)) :=
  pt_mono (pt_val h he) fun σ H Q ⟨M, ad, ρ, S, p⟩ => ⟨M, ad, ρ, S, p.bind.imp fun a H1 e1 x1 v rv => by
    cases a with
    | bool b => exact ⟨b, rv.bl_of, x1.now⟩
    | _ => exact x1.elim⟩
theorem et_cmp {a b : Expr} {op : CmpOp} {pos : Pos} {ma mb : Sto → R PD} {r : R2} {f : PD → PD → R PD} (ho : OpR X (compareOp op) r) (h : OpS Γ W r f) (ha : PE X a (TEo Γ W ma)) (hb : PE X b (TEo Γ W mb)) (hm : behindInMarks op b = false := by rfl) :
    PT X (.Compare a [op] [b] pos) (TTo Γ W (mBool fun ρ => do let x ← ma ρ; let y ← mb ρ; f x y)) :=
  pt_mono (pt_cmpR ho ha hb hm) fun σ H Q ⟨M, ad, ρ, S, p⟩ => te_op h _ ⟨M, ad, ρ, S, p.bind.imp fun a H1 e1 x1 v rv => by
    cases a with
    | bool b => exact ⟨b, rv.bl_of, x1.now⟩
    | _ => exact x1.elim⟩
def mAnd (m n : Sto → R Bool) : Sto → R Bool := fun ρ => do if ← m ρ then n ρ else pure false
def mOr (m n : Sto → R Bool) : Sto → R Bool := fun ρ => do if ← m ρ then pure true else n ρ
def mNot (m : Sto → R Bool) : Sto → R Bool := fun ρ => do pure (!(← m ρ))
variable {a b c : Expr} {rest : List Expr} {pos : Pos} {ma mb : Sto → R PD} {m n : Sto → R Bool}
theorem ew_and1 (ha : PT X a (TTo Γ W m)) : PW X (.BoolOp .And [a] pos) (TTo Γ W m) := pw_and1 ha
theorem ew_or1 (ha : PT X a (TTo Γ W m)) : PW X (.BoolOp .Or [a] pos) (TTo Γ W m) := pw_or1 ha
theorem ew_and (ha : PT X a (TTo Γ W m)) (hb : PW X (.BoolOp .And (b :: rest) pos) (TTo Γ W n)) : PW X (.BoolOp .And (a :: b :: rest) pos) (TTo Γ W (mAnd m n)) := pw_mono (pw_and ha hb) fun σ H Q ⟨M, ad, ρ, S, p⟩ =>
  ⟨M, ad, ρ, S, p.bind.imp fun k H1 e1 x1 => by
    cases k with
    | true => exact iteT ⟨M, ad, ρ, S.mono e1, x1⟩
    | false => exact iteF x1.now⟩
theorem ew_or (ha : PT X a (TTo Γ W m)) (hb : PW X (.BoolOp .Or (b :: rest) pos) (TTo Γ W n)) : PW X (.BoolOp .Or (a :: b :: rest) pos) (TTo Γ W (mOr m n)) := pw_mono (pw_or ha hb) fun σ H Q ⟨M, ad, ρ, S, p⟩ =>
  ⟨M, ad, ρ, S, p.bind.imp fun k H1 e1 x1 => by
    cases k with
    | true => exact iteT x1.now
    | false => exact iteF ⟨M, ad, ρ, S.mono e1, x1⟩⟩
theorem et_w (h : PW X a (TTo Γ W m)) : PT X a (TTo Γ W m) := h.pt
theorem et_not (ha : PT X a (TTo Γ W m)) : PT X (.UnaryOp .Not a pos) (TTo Γ W (mNot m)) := pt_mono (pt_not ha) fun σ H Q ⟨M, ad, ρ, S, p⟩ =>
  ⟨M, ad, ρ, S, p.bind.imp fun k H1 e1 x1 => x1.now⟩
/-! as values (bools) -/
def mAndV (m n : Sto → R PD) : Sto → R PD := fun ρ => do
  match ← m ρ with
  | .bool true => n ρ
  | .bool false => pure (.bool false)
  | _ => .stuck
def mOrV (m n : Sto → R PD) : Sto → R PD := fun ρ => do
  match ← m ρ with
  | .bool true => pure (.bool true)
  | .bool false => n ρ
  | _ => .stuck
def mNotV (m : Sto → R PD) : Sto → R PD := fun ρ => do
  match ← m ρ with
  | .bool b => pure (.bool (!b))
  | _ => .stuck
theorem ee_one {op : BoolOp} (ha : PE X a (TEo Γ W ma)) : PE X (.BoolOp op [a] pos) (TEo Γ W ma) := pe_one ha
theorem ee_and (ha : PE X a (TEo Γ W ma)) (hb : PE X (.BoolOp .And (b :: rest) pos) (TEo Γ W mb)) : PE X (.BoolOp .And (a :: b :: rest) pos) (TEo Γ W (mAndV ma mb)) := pe_mono (pe_and ha hb) fun σ H Q ⟨M, ad, ρ, S, p⟩ =>
  ⟨M, ad, ρ, S, p.bind.imp fun k H1 e1 x1 v rv => by
    cases k with
    | bool k =>
      cases k with
      | true => exact ⟨true, rv.bl_of, iteT ⟨M, ad, ρ, S.mono e1, x1⟩⟩
      | false => exact ⟨false, rv.bl_of, iteF (x1.now _ (.bl _))⟩
    | _ => exact x1.elim⟩
theorem ee_or (ha : PE X a (TEo Γ W ma)) (hb : PE X (.BoolOp .Or (b :: rest) pos) (TEo Γ W mb)) : PE X (.BoolOp .Or (a :: b :: rest) pos) (TEo Γ W (mOrV ma mb)) := pe_mono (pe_or ha hb) fun σ H Q ⟨M, ad, ρ, S, p⟩ =>
  ⟨M, ad, ρ, S, p.bind.imp fun k H1 e1 x1 v rv => by
    cases k with
    | bool k =>
      cases k with
      | true => exact ⟨true, rv.bl_of, iteT (x1.now _ (.bl _))⟩
      | false => exact ⟨false, rv.bl_of, iteF ⟨M, ad, ρ, S.mono e1, x1⟩⟩
    | _ => exact x1.elim⟩
theorem ee_not (ha : PE X a (TEo Γ W ma)) : PE X (.UnaryOp .Not a pos) (TEo Γ W (mNotV ma)) := pe_mono (pe_not ha) fun σ H Q ⟨M, ad, ρ, S, p⟩ =>
  ⟨M, ad, ρ, S, p.bind.imp fun k H1 e1 x1 v rv => by
    cases k with
    | bool k => exact ⟨k, rv.bl_of, x1.now _ (.bl _)⟩
    | _ => exact x1.elim⟩
def mIf (m : Sto → R Bool) (ma mb : Sto → R PD) : Sto → R PD := fun ρ => do if ← m ρ then ma ρ else mb ρ
theorem ee_if (hc : PT X c (TTo Γ W m)) (ha : PE X a (TEo Γ W ma)) (hb : PE X b (TEo Γ W mb)) : PE X (.IfExp c a b pos) (TEo Γ W (mIf m ma mb)) := pe_mono (pe_ifExp hc ha hb) fun σ H Q ⟨M, ad, ρ, S, p⟩ =>
  ⟨M, ad, ρ, S, p.bind.imp fun k H1 e1 x1 => by
    cases k with
    | true => exact iteT ⟨M, ad, ρ, S.mono e1, x1⟩
    | false => exact iteF ⟨M, ad, ρ, S.mono e1, x1⟩⟩
/-- -i -/
def negI : PD → R PD
  | .int i => .ok (.int (-i))
  | _ => .stuck
theorem ee_neg (ha : PE X a (TEo Γ W ma)) : PE X (.UnaryOp .USub a pos) (TEo Γ W (fun ρ => do negI (← ma ρ))) := pe_mono (pe_un un_neg ha) fun σ H Q ⟨M, ad, ρ, S, p⟩ =>
  ⟨M, ad, ρ, S, p.bind.imp fun k H1 e1 x1 v rv => by
    cases k with
    | int k => exact ⟨k, rv.int_of, x1.now _ (.int _)⟩
    | _ => exact x1.elim⟩

/-! ## calls of built-ins: by values -/
def CalS (Γ : Gm) (W : WX) (r : List V → Hp → VK → Prop) (f : List PD → R PD) : Prop := ∀ (M : Addr → Prop) (σ : L2.St) (H : Hp) (Q : VK) (vs : List V) (xs : List PD), InM M H → RpA Γ (hid M H) vs xs →
  Pst Γ W σ H (fun d H' => ∀ u, Rp Γ (hid M H') u d → Q u H') (f xs) → r vs H Q
/-- .. that make a fresh thing -/
def CalF (Γ : Gm) (W : WX) (r : List V → Hp → VK → Prop) (f : List PD → R PD) : Prop := ∀ (M : Addr → Prop) (σ : L2.St) (H : Hp) (Q : VK) (vs : List V) (xs : List PD), InM M H → RpA Γ (hid M H) vs xs →
  Pst Γ W σ H (fun d H' => ∀ u, FrO Γ M H H' u d → Q u H') (f xs) → r vs H Q
theorem FrO.back {H1 H2 : Hp} {v : V} {d : PD} (e : Same H H1) (h : FrO Γ M H1 H2 v d) : FrO Γ M H H2 v d := by
  rcases h with h | ⟨o, p, hp, h⟩
  · exact .inl h
  · exact .inr ⟨o, p, e.free hp, h⟩
section
variable {x : Str} {id T : String} {p : Pos} {e : Expr} {es : List Expr} {ms : Sto → R (List PD)} {r : List V → Hp → VK → Prop} {f : List PD → R PD}
theorem te_cal {Q : VK} (h : CalS Γ W r f) (k : TEo Γ W (fun ρ => do f (← ms ρ)) σ H Q) : tCB r (TAo Γ W ms) σ H Q := by
  obtain ⟨M, ad, ρ, S, p⟩ := k
  exact ⟨M, ad, ρ, S, p.bind.imp fun xs H1 e1 x1 vs rv => h M σ H1 Q vs xs (S.mono e1).in_ rv x1⟩
theorem tf_cal {Q : VK} (h : CalF Γ W r f) (k : TFo Γ W (fun ρ => do f (← ms ρ)) σ H Q) : tCB r (TAo Γ W ms) σ H Q := by
  obtain ⟨M, ad, ρ, S, p⟩ := k
  exact ⟨M, ad, ρ, S, p.bind.imp fun xs H1 e1 x1 vs rv => h M σ H1 Q vs xs (S.mono e1).in_ rv (x1.imp fun a H2 e2 k u ru => k u (ru.back e1))⟩
theorem ee_callB (hc : CallR X (.builtin id) r) (h : CalS Γ W r f) (hm : X.mg x = none) (ha : PA X (e :: es) (TAo Γ W ms)) (hv : bootBuiltins x = some (.builtin id) := by decide +kernel) (hg : Gl X x := by rfl) (hn : x ≠ "__name__" := by decide) (hdb : (x == ("__debug__" : Str)) = false := by decide)
    (he : starEach (e :: es) X.env = (false, eval e X.env) :: starEach es X.env := by rfl) (hpl : (backTo pos (starEach es X.env)).any (·.1) = false := by rfl) : PE X (.Call (.Name x p) (e :: es) [] pos) (TEo Γ W (fun ρ => do f (← ms ρ))) :=
  pe_mono (pe_callB hc hg hm hv ha hn hdb he hpl) fun σ H Q k => te_cal h k
theorem ee_callT (hc : CallR X (.type T) r) (h : CalS Γ W r f) (hm : X.mg x = none) (ha : PA X (e :: es) (TAo Γ W ms)) (hv : bootBuiltins x = some (.type T) := by decide +kernel) (hg : Gl X x := by rfl) (hn : x ≠ "__name__" := by decide) (hdb : (x == ("__debug__" : Str)) = false := by decide)
    (he : starEach (e :: es) X.env = (false, eval e X.env) :: starEach es X.env := by rfl) (hpl : (backTo pos (starEach es X.env)).any (·.1) = false := by rfl) : PE X (.Call (.Name x p) (e :: es) [] pos) (TEo Γ W (fun ρ => do f (← ms ρ))) :=
  pe_mono (pe_callTy hc hg hm hv ha hn hdb he hpl) fun σ H Q k => te_cal h k
theorem ef_callB (hc : CallR X (.builtin id) r) (h : CalF Γ W r f) (hm : X.mg x = none) (ha : PA X (e :: es) (TAo Γ W ms)) (hv : bootBuiltins x = some (.builtin id) := by decide +kernel) (hg : Gl X x := by rfl) (hn : x ≠ "__name__" := by decide) (hdb : (x == ("__debug__" : Str)) = false := by decide)
    (he : starEach (e :: es) X.env = (false, eval e X.env) :: starEach es X.env := by rfl) (hpl : (backTo pos (starEach es X.env)).any (·.1) = false := by rfl) : PE X (.Call (.Name x p) (e :: es) [] pos) (TFo Γ W (fun ρ => do f (← ms ρ))) :=
  pe_mono (pe_callB hc hg hm hv ha hn hdb he hpl) fun σ H Q k => tf_cal h k
theorem ef_callT (hc : CallR X (.type T) r) (h : CalF Γ W r f) (hm : X.mg x = none) (ha : PA X (e :: es) (TAo Γ W ms)) (hv : bootBuiltins x = some (.type T) := by decide +kernel) (hg : Gl X x := by rfl) (hn : x ≠ "__name__" := by decide) (hdb : (x == ("__debug__" : Str)) = false := by decide)
    (he : starEach (e :: es) X.env = (false, eval e X.env) :: starEach es X.env := by rfl) (hpl : (backTo pos (starEach es X.env)).any (·.1) = false := by rfl) : PE X (.Call (.Name x p) (e :: es) [] pos) (TFo Γ W (fun ρ => do f (← ms ρ))) :=
  pe_mono (pe_callTy hc hg hm hv ha hn hdb he hpl) fun σ H Q k => tf_cal h k
end
theorem RpA.one {F : Hp} {vs : List V} {x : PD} (h : RpA Γ F vs [x]) : ∃ v, vs = [v] ∧ Rp Γ F v x := by
  cases h with
  | cons h r => cases r; exact ⟨_, rfl, h⟩
theorem RpA.two {F : Hp} {vs : List V} {x y : PD} (h : RpA Γ F vs [x, y]) : ∃ v w, vs = [v, w] ∧ Rp Γ F v x ∧ Rp Γ F w y := by
  cases h with
  | cons h r => obtain ⟨w, rfl, h2⟩ := r.one; exact ⟨_, w, rfl, h, h2⟩
/-- len of a text, a list, a tuple -/
def lenD : List PD → R PD
  | [.str x] => if x.length ≤ sizeLine then .ok (.int x.length) else .stuck
  | [.list xs] => .ok (.int xs.length)
  | [.tuple xs] => .ok (.int xs.length)
  | _ => .stuck
theorem s_len : CalS Γ W (fun xs H Q => ∃ x n, xs = [x] ∧ LenV Γ.K x H n ∧ Q (.int n) H) lenD := by
  intro M σ H Q vs xs i rv p
  unfold lenD at p
  split at p
  · obtain ⟨v, rfl, r⟩ := rv.one
    split at p
    · rw [r.str_of]
      exact ⟨_, _, rfl, ⟨by assumption, rfl⟩, p.now _ (.int _)⟩
    · exact p.elim
  · obtain ⟨v, rfl, r⟩ := rv.one
    obtain ⟨a, ws, rfl, h1, h2⟩ := r.lst_of
    exact ⟨_, _, rfl, .inl ⟨ws, sqL_same (hid_le M H) h1, h2.length.symm⟩, p.now _ (.int _)⟩
  · obtain ⟨v, rfl, r⟩ := rv.one
    obtain ⟨a, ws, rfl, h1, h2⟩ := r.tup_of
    exact ⟨_, _, rfl, .inr ⟨ws, sqT_same (hid_le M H) h1, h2.length.symm⟩, p.now _ (.int _)⟩
  · exact p.elim
/-- int(i), int(b) -/
def intD : List PD → R PD
  | [.int i] => .ok (.int i)
  | [.bool b] => .ok (.int (if b then 1 else 0))
  | _ => .stuck
theorem s_intc : CalS Γ W (fun xs H Q => (∃ i, xs = [.int i] ∧ Q (.int i) H) ∨ ∃ k, xs = [.bl k] ∧ Q (.int (if k then 1 else 0)) H) intD := by
  intro M σ H Q vs xs i rv p
  unfold intD at p
  split at p
  · obtain ⟨v, rfl, r⟩ := rv.one
    rw [r.int_of]
    exact .inl ⟨_, rfl, p.now _ (.int _)⟩
  · obtain ⟨v, rfl, r⟩ := rv.one
    rw [r.bl_of]
    exact .inr ⟨_, rfl, p.now _ (.int _)⟩
  · exact p.elim
/-- max, min of two ints -/
def maxD : List PD → R PD
  | [.int i, .int j] => .ok (.int (if j > i then j else i))
  | _ => .stuck
def minD : List PD → R PD
  | [.int i, .int j] => .ok (.int (if j < i then j else i))
  | _ => .stuck
theorem s_max : CalS Γ W (fun xs H Q => ∃ i j, xs = [.int i, .int j] ∧ Q (.int (if j > i then j else i)) H) maxD := by
  intro M σ H Q vs xs i rv p
  unfold maxD at p
  split at p
  · obtain ⟨v, w, rfl, r1, r2⟩ := rv.two
    rw [r1.int_of, r2.int_of]
    exact ⟨_, _, rfl, p.now _ (.int _)⟩
  · exact p.elim
theorem s_min : CalS Γ W (fun xs H Q => ∃ i j, xs = [.int i, .int j] ∧ Q (.int (if j < i then j else i)) H) minD := by
  intro M σ H Q vs xs i rv p
  unfold minD at p
  split at p
  · obtain ⟨v, w, rfl, r1, r2⟩ := rv.two
    rw [r1.int_of, r2.int_of]
    exact ⟨_, _, rfl, p.now _ (.int _)⟩
  · exact p.elim
/-- list(x), tuple(x) -/
def listD : List PD → R PD
  | [.list xs] => .ok (.list xs)
  | [.tuple xs] => .ok (.list xs)
  | _ => .stuck
def tupleD : List PD → R PD
  | [.list xs] => .ok (.tuple xs)
  | [.tuple xs] => .ok (.tuple xs)
  | _ => .stuck
theorem s_list : CalF Γ W (fun xs H Q => ∃ p ys, xs = [.ref p] ∧ (SqL Γ.K H p ys ∨ SqT Γ.K H p ys) ∧ ∀ l, H l = none → Q (.ref l) (upd H l (.lst ys))) listD := by
  intro M σ H Q vs xs i rv p
  unfold listD at p
  split at p
  · obtain ⟨v, rfl, r⟩ := rv.one
    obtain ⟨a, ws, rfl, h1, h2⟩ := r.lst_of
    exact ⟨a, ws, rfl, .inl (sqL_same (hid_le M H) h1), fun l hl => p _ (same_new hl) _ (.inr ⟨rfl, l, hl, insM_hid hl (Same.refl H) h2⟩)⟩
  · obtain ⟨v, rfl, r⟩ := rv.one
    obtain ⟨a, ws, rfl, h1, h2⟩ := r.tup_of
    exact ⟨a, ws, rfl, .inr (sqT_same (hid_le M H) h1), fun l hl => p _ (same_new hl) _ (.inr ⟨rfl, l, hl, insM_hid hl (Same.refl H) h2⟩)⟩
  · exact p.elim
theorem s_tuple : CalS Γ W (fun xs H Q => ∃ p ys, xs = [.ref p] ∧ ((SqL Γ.K H p ys ∧ ∀ l, H l = none → Q (.ref l) (upd H l (.tup ys))) ∨ (SqT Γ.K H p ys ∧ Q (.ref p) H))) tupleD := by
  intro M σ H Q vs xs i rv p
  unfold tupleD at p
  split at p
  · obtain ⟨v, rfl, r⟩ := rv.one
    obtain ⟨a, ws, rfl, h1, h2⟩ := r.lst_of
    exact ⟨a, ws, rfl, .inl ⟨sqL_same (hid_le M H) h1, fun l hl => p _ (same_new hl) _ (.tup (SqT.of (hid_new i hl)) (h2.mono (hid_same (same_new hl))))⟩⟩
  · obtain ⟨v, rfl, r⟩ := rv.one
    obtain ⟨a, ws, rfl, h1, h2⟩ := id r.tup_of
    exact ⟨a, ws, rfl, .inr ⟨sqT_same (hid_le M H) h1, p.now _ r⟩⟩
  · exact p.elim
end
end Lilt

set_option Elab.async false
set_option linter.all false
set_option maxRecDepth 100000
set_option maxHeartbeats 2000000
set_option autoImplicit false
namespace Lilt
open PySem L2

/-! ## list + list, lists of any origin -/
open PySem.AutoSeq1 in
theorem list_addG (l : Addr) (items : Array Value) (n : Nat) (b : Addr) (items2 : Array Value) (n2 : Nat) (sl sl2 : Array (Option Value)) (hc0 : items.size + items2.size ≤ sizeLine) :
    Meets (Builtin.«list.__add__» ⟨[.ref l, .ref b], []⟩) (fun _ R s => s.heap.get? l = some { cls := .type "list", dict := none, data := .seq items n, slots := sl } ∧ s.heap.get? b = some { cls := .type "list", dict := none, data := .seq items2 n2, slots := sl2 } ∧ R (.ok (.ret (Value.ref s.heap.objs.size))) { s with heap := s.heap.push { cls := Value.type "list", data := Data.seq (items ++ items2) }, toks := s.toks }) :=
  .of_wp fun prog w A R s h => by
    obtain ⟨hp, g, d, tk, os⟩ := s; obtain ⟨hl, hb, h⟩ := h
    have f1 := idx_int; have f2 := sub_tuple_tuple; have f3 := sub_list_list; have f4 := sub_tuple_list; have f5 := sub_list_tuple
    wp_walk using wpAny_loadPart' hl, wpAny_loadPart' hb
    exact ⟨_, rfl, h⟩
section
variable {X : Cx} {Γ : Gm} {W : WX} {M : Addr → Prop} {σ : L2.St} {H H' : Hp}
theorem op_catL : OpR X (binaryOp .Add) (rCatL X.K) := by
  intro pins s σ H x y v u Q I rx ry h
  obtain ⟨l, b, xs, zs, rfl, rfl, hH, hB, hz, q⟩ := h
  cases rx
  cases ry
  obtain ⟨its, r, ⟨⟨cls, dd, data, sl⟩, n, e, hc, hdn, hd⟩, z⟩ := I.list hH
  obtain ⟨its2, r2, ⟨⟨cls2, dd2, data2, sl2⟩, n2, e2, hc2, hdn2, hd2⟩, z2⟩ := I.list hB
  simp only at hc hdn hd hc2 hdn2 hd2
  subst hc hdn hd hc2 hdn2 hd2
  have hl := r.length
  have hl2 := r2.length
  have ea : its.toArray ++ its2.toArray = (its ++ its2).toArray := by simp
  refine concat_meets ⟨_, e, rfl⟩ ⟨_, e2, rfl⟩ noFill_list_add seq_list_add F.slot_list_add F.entry_list_add (F.args_list_add_2 _ _) (list_addG l _ n b _ n2 sl sl2 (by rw [List.size_toArray, List.size_toArray]; omega)) ⟨e, e2, ?_⟩
  rw [ea]
  exact ⟨.ref _, _, I.lnew (t' := s.toks) (r.append r2) (by rw [List.length_append]; omega), rfl, q _ I.fresh⟩
/-- .. that make a fresh thing -/
def OpF (Γ : Gm) (W : WX) (r : R2) (f : PD → PD → R PD) : Prop := ∀ (M : Addr → Prop) (σ : L2.St) (H : Hp) (Q : VK) (v w : V) (x y : PD), InM M H → Rp Γ (hid M H) v x → Rp Γ (hid M H) w y →
  Pst Γ W σ H (fun d H' => ∀ u, FrO Γ M H H' u d → Q u H') (f x y) → r v w H Q
theorem tf_op {ma mb : Sto → R PD} {r : R2} {f : PD → PD → R PD} (h : OpF Γ W r f) (Q : VK) (x : TFo Γ W (fun ρ => do let a ← ma ρ; let b ← mb ρ; f a b) σ H Q) : tOp r (TEo Γ W ma) (TEo Γ W mb) σ H Q := by
  obtain ⟨M, ad, ρ, S, x⟩ := x
  refine ⟨M, ad, ρ, S, x.bind.imp fun a H1 e1 x1 v rv => ⟨M, ad, ρ, S.mono e1, x1.bind.imp fun b H2 e2 x2 u ru => ?_⟩⟩
  exact h M σ H2 Q v u a b (S.mono (e1.trans e2)).in_ (rv.mono (hid_same e2)) ru (x2.imp fun a H3 e3 k u ru => k u (ru.back (e1.trans e2)))
/-- the general + -/
def addD : PD → PD → R PD
  | .int i, .int j => .ok (.int (i + j))
  | .str x, .str y => if x.length + y.length ≤ sizeLine then .ok (.str (x ++ y)) else .stuck
  | .tuple x, .tuple y => if x.length + y.length ≤ sizeLine then .ok (.tuple (x ++ y)) else .stuck
  | .list x, .list y => if x.length + y.length ≤ sizeLine then .ok (.list (x ++ y)) else .stuck
  | _, _ => .stuck
def rAddD (K : PySem.W.Frag) : R2 := fun x y H Q => rI0 (fun i j => .int (i + j)) x y H Q ∨ (∃ i j, x = .str i ∧ y = .str j ∧ i.length + j.length ≤ sizeLine ∧ Q (.str (i ++ j)) H) ∨ rCatA K x y H Q ∨ rCatL K x y H Q
theorem op_addD : OpR X (binaryOp .Add) (rAddD X.K) := op_add.or (op_add_str.or (op_catA.or op_catL))
theorem OpS.toF {r : R2} {f : PD → PD → R PD} (h : OpS Γ W r f) (n : ∀ x y d, f x y = .ok d → ownD d = false) : OpF Γ W r f := fun M σ H Q v w x y i rv rw_ p => h M σ H Q v w x y i rv rw_ (by
  have n := n x y
  revert p n
  cases f x y with
  | stuck => exact fun p _ => p
  | exc e => exact fun p _ => p
  | ok d => exact fun p n H' e u ru => p H' e u (.inl ⟨n d rfl, ru⟩))
theorem s_addD : OpF Γ W (rAddD Γ.K) addD := by
  intro M σ H Q v w x y i rv rw_ p
  cases x with
  | int a =>
    cases y with
    | int b => rw [rv.int_of, rw_.int_of]; exact .inl ⟨a, b, rfl, rfl, p.now _ (.inl ⟨rfl, .int _⟩)⟩
    | _ => exact p.elim
  | str a =>
    cases y with
    | str b =>
      rw [rv.str_of, rw_.str_of]
      simp only [addD] at p
      split at p
      · exact .inr (.inl ⟨a, b, rfl, rfl, by assumption, p.now _ (.inl ⟨rfl, .str _⟩)⟩)
      · exact p.elim
    | _ => exact p.elim
  | tuple xs =>
    cases y with
    | tuple ys =>
      refine .inr (.inr (.inl ?_))
      refine s_addT.toF (Γ := Γ) (W := W) ?_ M σ H Q v w _ _ i rv rw_ ?_
      · intro x y d e
        unfold addT at e
        split at e
        · split at e
          · cases e; rfl
          · cases e
        · cases e
      · simp only [addD] at p
        simp only [addT]
        exact p
    | _ => exact p.elim
  | list xs =>
    cases y with
    | list ys =>
      obtain ⟨a, vs, rfl, ha, ra⟩ := rv.lst_of
      obtain ⟨b, ws, rfl, hb, rb⟩ := rw_.lst_of
      simp only [addD] at p
      have la := ra.length
      have lb := rb.length
      split at p
      · exact .inr (.inr (.inr ⟨a, b, vs, ws, rfl, rfl, sqL_same (hid_le M H) ha, sqL_same (hid_le M H) hb, by omega, fun q hq => p _ (same_new hq) _ (.inr ⟨rfl, q, hq, insM_hid hq (Same.refl H) (ra.append rb)⟩)⟩))
      · exact p.elim
    | _ => exact p.elim
  | _ => exact p.elim
theorem ef_add {a b : Expr} {pos : Pos} {ma mb : Sto → R PD} (hK : X.K = Γ.K) (ha : PE X a (TEo Γ W ma)) (hb : PE X b (TEo Γ W mb)) : PE X (.BinOp a .Add b pos) (TFo Γ W (fun ρ => do let x ← ma ρ; let y ← mb ρ; addD x y)) :=
  pe_mono (pe_op op_addD ha hb) fun _ _ Q x => by rw [hK]; exact tf_op s_addD Q x
/-! text * int -/
def rMulS : R2 := fun x y H Q => ∃ z n, x = .str z ∧ y = .int n ∧ 0 ≤ n ∧ n ≤ 100000 ∧ z.length * n.toNat ≤ 100000 ∧ Q (.str ⟨(List.replicate n.toNat z.cps.toList).flatten.toArray⟩) H
theorem flat_rep (xs : Array Nat) : ∀ (k : Nat) (acc : Array Nat), (List.replicate k xs).foldl (· ++ ·) acc = acc ++ (List.replicate k xs.toList).flatten.toArray
  | 0, acc => by simp
  | k + 1, acc => by
    rw [List.replicate_succ, List.foldl_cons, flat_rep xs k, List.replicate_succ, List.flatten_cons]
    apply Array.ext'
    simp
theorem op_mulS : OpR X (binaryOp .Mult) rMulS := by
  intro pins s σ H x y v u Q I rx ry h
  obtain ⟨z, n, rfl, rfl, h0, h1, h2, q⟩ := h
  obtain ⟨t, rfl⟩ := rx
  obtain ⟨t2, rfl⟩ := ry
  have e1 : (decide (n < -(2 ^ 63 : Int)) || decide (n ≥ 2 ^ 63)) = false := by
    rw [decide_eq_false (by omega), decide_eq_false (by omega)]; rfl
  have fl := flat_rep z.cps n.toNat #[]
  rw [Array.empty_append] at fl
  refine PySem.P.mul_str e1 (fun h3 h4 => ?_) (fun h3 h4 => ?_) ?_
  · have h5 : (z.length : Int) ≤ 100000 := by
      have : z.length * 1 ≤ z.length * n.toNat := Nat.mul_le_mul_left _ (by omega)
      omega
    have h6 : (100000 : Int) ≤ (2 ^ 63 - 1) / n := by
      refine Int.le_ediv_of_mul_le (by omega) ?_
      omega
    omega
  · unfold Builtin.Str.tooLong
    have : z.length * n.toNat ≤ 100000 := h2
    simp only [decide_eq_false_iff_not]
    rw [sizeLine_eq]
    omega
  · by_cases c1 : n < 1
    · rw [if_pos c1]
      have e0 : n.toNat = 0 := by omega
      rw [e0] at q
      exact ⟨by decide, .str _, H, I.tok _, ⟨_, rfl⟩, q⟩
    · rw [if_neg c1]
      by_cases c2 : (n == 1 || z.length == 0) = true
      · rw [if_pos c2]
        refine ⟨.str z, H, I, ⟨t, rfl⟩, ?_⟩
        have : (⟨(List.replicate n.toNat z.cps.toList).flatten.toArray⟩ : Str) = z := by
          rw [Bool.or_eq_true, beq_iff_eq, beq_iff_eq] at c2
          rcases c2 with c | c
          · subst c; simp
          · have hz : z.cps.toList = [] := List.eq_nil_of_length_eq_zero (by rw [Array.length_toList]; exact c)
            have hz2 : z.cps = #[] := by apply Array.ext'; rw [hz]
            cases z
            simp only at hz hz2
            subst hz2
            simp
        rw [this] at q
        exact q
      · rw [if_neg c2, fl]
        refine ⟨?_, .str _, H, I.tok _, ⟨_, rfl⟩, q⟩
        show (List.replicate n.toNat z.cps.toList).flatten.toArray.size ≤ _
        rw [List.size_toArray, PyProof.Rows.lm_len_rep_flat, Array.length_toList, sizeLine_eq]
        have : n.toNat * z.cps.size = z.length * n.toNat := Nat.mul_comm _ _
        omega
end
end Lilt

set_option Elab.async false
set_option linter.all false
set_option maxRecDepth 100000
set_option maxHeartbeats 2000000
set_option autoImplicit false
namespace Lilt
open PySem L2

section
variable {X : Cx} {Γ : Gm} {W : WX} {M : Addr → Prop} {ad : Nat → Addr} {ρ ρ' : Sto} {σ : L2.St} {H H' : Hp}

/-! ## slots set -/
theorem Ste.set (S : Ste Γ M ad ρ σ H) (i : Nat) {v : V} {x : PD} (r : Rp Γ (hid M H) v x) : Ste Γ M ad (ρ.set i (.d x)) (σ.set i (some v)) H := by
  refine ⟨S.in_, by rw [List.length_set, List.length_set]; exact S.len, fun j s h => ?_, fun j k s s' h1 h2 o1 o2 q => ?_⟩
  · by_cases hj : j = i
    · subst hj
      have hl : j < ρ.length := by
        have := (List.getElem?_eq_some_iff.mp h).1
        rwa [List.length_set] at this
      rw [List.getElem?_set_self hl] at h
      obtain rfl := Option.some.inj h
      exact ⟨v, List.getElem?_set_self (by rw [← S.len]; exact hl), r⟩
    · rw [List.getElem?_set_ne (fun q => hj q.symm)] at h
      rw [List.getElem?_set_ne (fun q => hj q.symm)]
      exact S.sl j s h
  · have f : ∀ (j : Nat) (s : Sl), (ρ.set i (.d x))[j]? = some s → s.own = true → ρ[j]? = some s := fun j s h o1 => by
      by_cases hj : j = i
      · subst hj
        have hl : j < ρ.length := by
          have := (List.getElem?_eq_some_iff.mp h).1
          rwa [List.length_set] at this
        rw [List.getElem?_set_self hl] at h
        obtain rfl := Option.some.inj h
        cases o1
      · rw [List.getElem?_set_ne (fun q => hj q.symm)] at h
        exact h
    exact S.dj j k s s' (f j s h1 o1) (f k s' h2 o2) o1 o2 q
/-- a slot forgotten -/
theorem Ste.un (S : Ste Γ M ad ρ σ H) (i : Nat) (o : Option V) : Ste Γ M ad (ρ.set i .un) (σ.set i o) H := by
  have f : ∀ (j : Nat) (s : Sl), (ρ.set i .un)[j]? = some s → s = .un ∨ (j ≠ i ∧ ρ[j]? = some s) := fun j s h => by
    by_cases hj : j = i
    · subst hj
      have hl : j < ρ.length := by
        have := (List.getElem?_eq_some_iff.mp h).1
        rwa [List.length_set] at this
      rw [List.getElem?_set_self hl] at h
      exact .inl (Option.some.inj h).symm
    · rw [List.getElem?_set_ne (fun q => hj q.symm)] at h
      exact .inr ⟨hj, h⟩
  refine ⟨S.in_, by rw [List.length_set, List.length_set]; exact S.len, fun j s h => ?_, fun j k s s' h1 h2 o1 o2 q => ?_⟩
  · rcases f j s h with rfl | ⟨hj, h⟩
    · trivial
    · rw [List.getElem?_set_ne (fun q => hj q.symm)]
      exact S.sl j s h
  · rcases f j s h1 with rfl | ⟨_, h1⟩
    · cases o1
    · rcases f k s' h2 with rfl | ⟨_, h2⟩
      · cases o2
      · exact S.dj j k s s' h1 h2 o1 o2 q
/-- more is hidden: an address that was free -/
theorem Ste.more {p : Addr} {o : HO} (S : Ste Γ M ad ρ σ H) (hp : H p = none) (e : Same H H') (ho : H' p = some o) : Ste Γ (insM M p) ad ρ σ H' := by
  refine ⟨fun a m => ?_, S.len, fun i s h => ?_, S.dj⟩
  · rcases m with m | rfl
    · obtain ⟨o, q⟩ := S.in_ a m
      exact ⟨o, e _ _ q⟩
    · exact ⟨o, ho⟩
  · exact (S.sl i s h).move (hid_ins e hp) fun os => ⟨.inl ((S.sl i s h).ownM os).1, fun o q => e _ _ q⟩

/-! ## targets -/
inductive Tg where
  | nm (i : Nat)
  | tp (l : List Tg)
mutual
def setT : Tg → PD → Sto → R Sto
  | .nm i, d, ρ => .ok (ρ.set i (.d d))
  | .tp l, d, ρ => match d with
    | .tuple xs => setTs l xs ρ
    | _ => .stuck
def setTs : List Tg → List PD → Sto → R Sto
  | [], xs, ρ => match xs with
    | [] => .ok ρ
    | _ => .stuck
  | t :: ts, xs, ρ => match xs with
    | x :: xs => do let ρ' ← setT t x ρ; setTs ts xs ρ'
    | [] => .stuck
end
mutual
def gT (K : PySem.W.Frag) : Tg → TG
  | .nm i => gName i
  | .tp l => gTup K l.length (gTs K l)
def gTs (K : PySem.W.Frag) : List Tg → TGs
  | [] => gNil
  | t :: ts => gCons (gT K t) (gTs K ts)
end
mutual
def Tg.idx : Tg → List Nat
  | .nm i => [i]
  | .tp l => Tg.idxs l
def Tg.idxs : List Tg → List Nat
  | [] => []
  | t :: ts => t.idx ++ Tg.idxs ts
end
/-- two rows of slots that differ at the places is alone -/
def Agree (is : List Nat) (σ σ' : L2.St) : Prop := σ'.length = σ.length ∧ ∀ i, i ∉ is → σ'[i]? = σ[i]?
theorem Agree.refl (σ : L2.St) (is : List Nat) : Agree is σ σ := ⟨rfl, fun _ _ => rfl⟩
theorem Agree.trans {is : List Nat} {a b c : L2.St} (h : Agree is a b) (k : Agree is b c) : Agree is a c := ⟨k.1.trans h.1, fun i n => (k.2 i n).trans (h.2 i n)⟩
theorem Agree.mono {is js : List Nat} {a b : L2.St} (h : Agree is a b) (k : ∀ i, i ∈ is → i ∈ js) : Agree js a b := ⟨h.1, fun i n => h.2 i fun m => n (k i m)⟩
mutual
theorem setT_ok : ∀ (t : Tg) {v : V} {d : PD} {ρ ρ' : Sto} {σ : L2.St} {Q : L2.St → Hp → Prop}, Ste Γ M ad ρ σ H → Rp Γ (hid M H) v d → setT t d ρ = .ok ρ' → (∀ σ', Ste Γ M ad ρ' σ' H → Agree t.idx σ σ' → Q σ' H) → gT Γ.K t v σ H Q
  | .nm i, v, d, ρ, ρ', σ, Q, S, r, e, k => by
    simp only [setT] at e
    cases e
    simp only [gT]
    refine k _ (S.set i r) ⟨List.length_set, fun j n => ?_⟩
    simp only [Tg.idx, List.mem_singleton] at n
    exact List.getElem?_set_ne fun q => n q.symm
  | .tp l, v, d, ρ, ρ', σ, Q, S, r, e, k => by
    cases d with
    | tuple xs =>
      simp only [setT] at e
      obtain ⟨a, vs, rfl, h1, h2⟩ := r.tup_of
      simp only [gT]
      obtain ⟨hl, hq⟩ := setTs_ok l S h2 e k
      exact ⟨a, vs, rfl, sqT_same (hid_le M H) h1, hl, hq⟩
    | _ => simp only [setT] at e; cases e
theorem setTs_ok : ∀ (ts : List Tg) {vs : List V} {ds : List PD} {ρ ρ' : Sto} {σ : L2.St} {Q : L2.St → Hp → Prop}, Ste Γ M ad ρ σ H → RpA Γ (hid M H) vs ds → setTs ts ds ρ = .ok ρ' → (∀ σ', Ste Γ M ad ρ' σ' H → Agree (Tg.idxs ts) σ σ' → Q σ' H) → vs.length = ts.length ∧ gTs Γ.K ts vs σ H Q
  | [], vs, ds, ρ, ρ', σ, Q, S, r, e, k => by
    cases r with
    | nil =>
      simp only [setTs] at e
      cases e
      exact ⟨rfl, rfl, k _ S (Agree.refl _ _)⟩
    | cons h r => simp only [setTs] at e; cases e
  | t :: ts, vs, ds, ρ, ρ', σ, Q, S, r, e, k => by
    cases r with
    | nil => simp only [setTs] at e; cases e
    | @cons v d vs ds h r =>
      simp only [setTs] at e
      cases e1 : setT t d ρ with
      | stuck => rw [e1] at e; cases e
      | exc x => rw [e1] at e; cases e
      | ok ρ1 =>
        rw [e1] at e
        have e : setTs ts ds ρ1 = .ok ρ' := e
        have key : ∀ σ1, Ste Γ M ad ρ1 σ1 H → Agree t.idx σ σ1 → vs.length = ts.length ∧ gTs Γ.K ts vs σ1 H Q := fun σ1 S1 a1 =>
          setTs_ok ts S1 r e fun σ2 S2 a2 => k σ2 S2 ((a1.mono fun i m => by simp only [Tg.idxs, List.mem_append]; exact .inl m).trans (a2.mono fun i m => by simp only [Tg.idxs, List.mem_append]; exact .inr m))
        refine ⟨?_, v, vs, rfl, setT_ok t S h e1 fun σ1 S1 a1 => (key σ1 S1 a1).2⟩
        have hl : ∃ σ1, vs.length = ts.length ∧ True ∧ σ1 = σ := by
          exact ⟨σ, setTs_len ts r e, trivial, rfl⟩
        obtain ⟨_, hl, _⟩ := hl
        rw [List.length_cons, List.length_cons, hl]
theorem setTs_len : ∀ (ts : List Tg) {vs : List V} {ds : List PD} {ρ ρ' : Sto} {F : Hp}, RpA Γ F vs ds → setTs ts ds ρ = .ok ρ' → vs.length = ts.length
  | [], vs, ds, ρ, ρ', F, r, e => by
    cases r with
    | nil => rfl
    | cons h r => simp only [setTs] at e; cases e
  | t :: ts, vs, ds, ρ, ρ', F, r, e => by
    cases r with
    | nil => simp only [setTs] at e; cases e
    | @cons v d vs ds h r =>
      simp only [setTs] at e
      cases e1 : setT t d ρ with
      | stuck => rw [e1] at e; cases e
      | exc x => rw [e1] at e; cases e
      | ok ρ1 =>
        rw [e1] at e
        rw [List.length_cons, List.length_cons, setTs_len ts r e]
end
theorem wipe_get {σ : L2.St} : ∀ (vs : List Nat) (i : Nat), (wipe σ vs)[i]? = if i ∈ vs ∧ i < σ.length then some none else σ[i]?
  | [], i => by simp [wipe]
  | v :: vs, i => by
    show ((wipe σ vs).set v none)[i]? = _
    by_cases h : i = v
    · subst h
      by_cases hl : i < σ.length
      · rw [List.getElem?_set_self (by rw [wipe_length]; exact hl), if_pos ⟨List.mem_cons_self, hl⟩]
      · rw [if_neg (fun q => hl q.2)]
        rw [List.getElem?_eq_none (by rw [List.length_set, wipe_length]; omega), List.getElem?_eq_none (by omega)]
    · rw [List.getElem?_set_ne (fun q => h q.symm), wipe_get vs i]
      by_cases hm : i ∈ vs ∧ i < σ.length
      · rw [if_pos hm, if_pos ⟨List.mem_cons_of_mem _ hm.1, hm.2⟩]
      · rw [if_neg hm, if_neg (fun q => hm ⟨(List.mem_cons.mp q.1).resolve_left h, q.2⟩)]
theorem wipe_agree {σ σ' : L2.St} {vs : List Nat} (h : Agree vs σ σ') : wipe σ' vs = wipe σ vs := by
  apply List.ext_getElem?
  intro i
  rw [wipe_get, wipe_get, h.1]
  split
  · rfl
  · rename_i n
    by_cases hl : i < σ.length
    · exact h.2 i fun m => n ⟨m, hl⟩
    · rw [List.getElem?_eq_none (by rw [h.1]; omega), List.getElem?_eq_none (by omega)]
theorem wipe_wipe {σ : L2.St} {vs : List Nat} : wipe (wipe σ vs) vs = wipe σ vs := by
  apply List.ext_getElem?
  intro i
  rw [wipe_get, wipe_get, wipe_length]
  split <;> rfl
def wipeS (ρ : Sto) : List Nat → Sto
  | [] => ρ
  | v :: vs => (wipeS ρ vs).set v .un
theorem Ste.wipe (S : Ste Γ M ad ρ σ H) : ∀ vs : List Nat, Ste Γ M ad (wipeS ρ vs) (L2.wipe σ vs) H
  | [] => S
  | v :: vs => (Ste.wipe S vs).un v none

/-! ## what is walked -/
structure ItD (Γ : Gm) (F : Hp) (J : It) (ds : List PD) : Prop where
  ex : ∃ (G : Hp → Prop) (Y : Nat → Hp → V → Hp → Prop), Walk J ds.length G Y ∧ (∀ H', Same F H' → G H') ∧
    ∀ (i : Nat) (H : Hp) (x : V) (H' : Hp) (M : Addr → Prop) (d : PD), Y i H x H' → InM M H → Same F (hid M H) → ds[i]? = some d → Same H H' ∧ Rp Γ (hid M H') x d
def TIo (Γ : Gm) (W : WX) (m : Sto → R (List PD)) : TI := fun σ H Rr => ∃ M ad ρ, Ste Γ M ad ρ σ H ∧ Pst Γ W σ H (fun ds H' => ∀ J, ItD Γ (hid M H') J ds → Rr J H') (m ρ)
theorem pi_mono {tg e : Expr} {t t' : TI} (h : PI X tg e t) (k : ∀ σ H Rr, t' σ H Rr → t σ H Rr) : PI X tg e t' := ⟨fun pins s σ H Rr I x => h.run pins s σ H Rr I (k σ H Rr x)⟩
theorem pi_or {tg e : Expr} {t t' : TI} (h : PI X tg e t) (h' : PI X tg e t') : PI X tg e (fun σ H Rr => t σ H Rr ∨ t' σ H Rr) := ⟨fun pins s σ H Rr I x => x.elim (h.run pins s σ H Rr I) (h'.run pins s σ H Rr I)⟩
theorem itd_list {F : Hp} {a : Addr} {vs : List V} {ds : List PD} (h : SqL Γ.K F a vs) (r : RpA Γ F vs ds) : ItD Γ F (Itl Γ.K a) ds := by
  refine ⟨_, _, by rw [← r.length]; exact walk_list (xs := vs), fun H' e => sqL_same e h, fun i H x H' M d y im e q => ?_⟩
  obtain ⟨rfl, hx⟩ := y
  obtain ⟨d', h1, h2⟩ := r.get' hx
  rw [q] at h1
  obtain rfl := Option.some.inj h1
  exact ⟨Same.refl _, h2.mono e⟩
theorem itd_tup {F : Hp} {a : Addr} {vs : List V} {ds : List PD} (h : SqT Γ.K F a vs) (r : RpA Γ F vs ds) : ItD Γ F (Itt Γ.K a) ds := by
  refine ⟨_, _, by rw [← r.length]; exact walk_tup (xs := vs), fun H' e => sqT_same e h, fun i H x H' M d y im e q => ?_⟩
  obtain ⟨rfl, hx⟩ := y
  obtain ⟨d', h1, h2⟩ := r.get' hx
  rw [q] at h1
  obtain rfl := Option.some.inj h1
  exact ⟨Same.refl _, h2.mono e⟩
theorem itd_range {F : Hp} {lo : Int} {n : Nat} : ItD Γ F (Itr lo n) ((List.range n).map fun (k : Nat) => PyData.int (lo + k)) := by
  have hl : ((List.range n).map fun (k : Nat) => PyData.int (lo + k)).length = n := by simp
  refine ⟨fun _ => True, _, by rw [hl]; exact walk_range, fun _ _ => trivial, fun i H x H' M d y im e q => ?_⟩
  obtain ⟨rfl, rfl⟩ := y
  rw [List.getElem?_map] at q
  cases hi : (List.range n)[i]? with
  | none => rw [hi] at q; cases q
  | some j =>
    rw [hi] at q
    have hj : j = i := by
      obtain ⟨h1, h2⟩ := List.getElem?_eq_some_iff.mp hi
      rw [List.getElem_range] at h2
      exact h2.symm
    subst hj
    obtain rfl := Option.some.inj q
    exact ⟨Same.refl _, .int _⟩
theorem itd_str {F : Hp} {z : Str} : ItD Γ F (Its z) (z.cps.toList.map fun c => PyData.str ⟨#[c]⟩) := by
  have hl : (z.cps.toList.map fun c => PyData.str ⟨#[c]⟩).length = z.cps.size := by simp
  refine ⟨fun _ => True, _, by rw [hl]; exact walk_str, fun _ _ => trivial, fun i H x H' M d y im e q => ?_⟩
  obtain ⟨rfl, c, hc, rfl⟩ := y
  rw [List.getElem?_map, Array.getElem?_toList, hc] at q
  obtain rfl := Option.some.inj q
  exact ⟨Same.refl _, .str _⟩
theorem itd_pair {F : Hp} {J : It} {n : Nat} {G : Hp → Prop} {fx fy : Nat → Option V} {ds : List PD} {dx dy : Nat → Option PD} (w : Walk J n G (YPair fx fy)) (hn : ds.length = n) (hG : ∀ H', Same F H' → G H')
    (hd : ∀ i d, ds[i]? = some d → ∃ a b, dx i = some a ∧ dy i = some b ∧ d = .tuple [a, b])
    (hx : ∀ i v d, fx i = some v → dx i = some d → Rp Γ F v d) (hy : ∀ i v d, fy i = some v → dy i = some d → Rp Γ F v d) : ItD Γ F J ds := by
  refine ⟨G, _, by rw [hn]; exact w, hG, fun i H x H' M d y im e q => ?_⟩
  obtain ⟨T, v, u, rfl, hT, rfl, h1, h2⟩ := y
  obtain ⟨a, b, ha, hb, rfl⟩ := hd i d q
  refine ⟨same_new hT, .tup (SqT.of (hid_new im hT)) (.cons (((hx i v a h1 ha).mono e).mono (hid_same (same_new hT))) (.cons (((hy i u b h2 hb).mono e).mono (hid_same (same_new hT))) .nil))⟩
/-- a list, a tuple, a text -/
def itemsD : PD → R (List PD)
  | .list xs => .ok xs
  | .tuple xs => .ok xs
  | .str z => .ok (z.cps.toList.map fun c => PyData.str ⟨#[c]⟩)
  | _ => .stuck
theorem ei_seq {tg e : Expr} {m : Sto → R PD} (hK : X.K = Γ.K) (h : PE X e (TEo Γ W m)) : PI X tg e (TIo Γ W (fun ρ => do itemsD (← m ρ))) :=
  pi_mono (pi_or (pi_list h) (pi_or (pi_tup h) (pi_str h))) fun σ H Rr ⟨M, ad, ρ, S, p⟩ => by
    rw [hK]
    have p := p.bind
    cases e1 : m ρ with
    | stuck => rw [e1] at p; exact p.elim
    | exc x => exact .inl ⟨M, ad, ρ, S, by rw [e1] at p ⊢; exact p⟩
    | ok d =>
      rw [e1] at p
      cases d with
      | list xs =>
        refine .inl ⟨M, ad, ρ, S, ?_⟩
        rw [e1]
        intro H1 e2 v rv
        obtain ⟨a, vs, rfl, h1, h2⟩ := rv.lst_of
        exact ⟨a, rfl, ⟨vs, sqL_same (hid_le M H1) h1⟩, (p H1 e2).now _ (itd_list h1 h2)⟩
      | tuple xs =>
        refine .inr (.inl ⟨M, ad, ρ, S, ?_⟩)
        rw [e1]
        intro H1 e2 v rv
        obtain ⟨a, vs, rfl, h1, h2⟩ := rv.tup_of
        exact ⟨a, rfl, ⟨vs, sqT_same (hid_le M H1) h1⟩, (p H1 e2).now _ (itd_tup h1 h2)⟩
      | str z =>
        refine .inr (.inr ⟨M, ad, ρ, S, ?_⟩)
        rw [e1]
        intro H1 e2 v rv
        exact ⟨z, rv.str_of, (p H1 e2).now _ itd_str⟩
      | _ => exact (p H (Same.refl H)).elim
def smallI (i : Int) : Bool := decide (-(2 ^ 62) ≤ i) && decide (i < 2 ^ 62)
def rng1 : List PD → R (List PD)
  | [.int j] => if smallI j then .ok ((List.range j.toNat).map fun (k : Nat) => PyData.int (0 + k)) else .stuck
  | _ => .stuck
def rng2 : List PD → R (List PD)
  | [.int i, .int j] => if smallI i && smallI j then .ok ((List.range (j - i).toNat).map fun (k : Nat) => PyData.int (i + k)) else .stuck
  | _ => .stuck
theorem ei_range1 {tg a : Expr} {p pos : Pos} {ms : Sto → R (List PD)} (hm : X.mg "range" = none) (ha : PA X [a] (TAo Γ W ms)) (hg : Gl X "range" := by rfl) (hs : starEach [a] X.env = [(false, eval a X.env)] := by rfl) :
    PI X tg (.Call (.Name "range" p) [a] [] pos) (TIo Γ W (fun ρ => do rng1 (← ms ρ))) := pi_mono (pi_range1 hg hm ha hs) fun σ H Rr ⟨M, ad, ρ, S, p⟩ =>
  ⟨M, ad, ρ, S, p.bind.imp fun xs H1 e1 x1 vs rv => by
    unfold rng1 at x1
    split at x1
    · obtain ⟨v, rfl, r⟩ := rv.one
      rw [r.int_of]
      split at x1
      · rename_i j hj
        unfold smallI at hj
        rw [Bool.and_eq_true, decide_eq_true_eq, decide_eq_true_eq] at hj
        exact ⟨_, rfl, hj.1, hj.2, x1.now _ itd_range⟩
      · exact x1.elim
    · exact x1.elim⟩
theorem ei_range2 {tg a b : Expr} {p pos : Pos} {ms : Sto → R (List PD)} (hm : X.mg "range" = none) (ha : PA X [a, b] (TAo Γ W ms)) (hg : Gl X "range" := by rfl) (hs : starEach [a, b] X.env = [(false, eval a X.env), (false, eval b X.env)] := by rfl) (hs2 : starEach [b] X.env = [(false, eval b X.env)] := by rfl) :
    PI X tg (.Call (.Name "range" p) [a, b] [] pos) (TIo Γ W (fun ρ => do rng2 (← ms ρ))) := pi_mono (pi_range2 hg hm ha hs hs2) fun σ H Rr ⟨M, ad, ρ, S, p⟩ =>
  ⟨M, ad, ρ, S, p.bind.imp fun xs H1 e1 x1 vs rv => by
    unfold rng2 at x1
    split at x1
    · obtain ⟨v, w, rfl, r1, r2⟩ := rv.two
      rw [r1.int_of, r2.int_of]
      split at x1
      · rename_i j hj
        unfold smallI at hj
        rw [Bool.and_eq_true, Bool.and_eq_true, Bool.and_eq_true, decide_eq_true_eq, decide_eq_true_eq, decide_eq_true_eq, decide_eq_true_eq] at hj
        exact ⟨_, _, rfl, ⟨hj.1.1, hj.1.2, hj.2.1, hj.2.2⟩, x1.now _ itd_range⟩
      · exact x1.elim
    · exact x1.elim⟩
/-- enumerate -/
def enumD : List PD → R (List PD)
  | [.list xs] => .ok ((List.range xs.length).map fun (k : Nat) => .tuple [.int (k : Nat), xs.getD k .none])
  | _ => .stuck
def zipD : List PD → R (List PD)
  | [.list xs, .list ys] => .ok ((List.range (min xs.length ys.length)).map fun (k : Nat) => .tuple [xs.getD k .none, ys.getD k .none])
  | _ => .stuck
theorem range_get {f : Nat → PD} {n i : Nat} {d : PD} (q : ((List.range n).map f)[i]? = some d) : i < n ∧ d = f i := by
  rw [List.getElem?_map] at q
  cases hi : (List.range n)[i]? with
  | none => rw [hi] at q; cases q
  | some j =>
    rw [hi] at q
    obtain ⟨h1, h2⟩ := List.getElem?_eq_some_iff.mp hi
    rw [List.getElem_range] at h2
    subst h2
    exact ⟨by simpa using h1, (Option.some.inj q).symm⟩
theorem getD_some {xs : List PD} {i : Nat} (h : i < xs.length) : xs[i]? = some (xs.getD i .none) := by
  rw [List.getElem?_eq_getElem h, List.getD_eq_getElem?_getD, List.getElem?_eq_getElem h]
  rfl
theorem ei_enum {e : Expr} {p pos tpos : Pos} {elts : List Expr} {kk : Nat} {ms : Sto → R (List PD)} (hK : X.K = Γ.K) (hm : X.mg "enumerate" = none) (ha : PA X [e] (TAo Γ W ms)) (hg : Gl X "enumerate" := by rfl) (hs : starEach [e] X.env = [(false, eval e X.env)] := by rfl) :
    PI X (.Tuple elts kk tpos) (.Call (.Name "enumerate" p) [e] [] pos) (TIo Γ W (fun ρ => do enumD (← ms ρ))) := pi_mono (pi_enum hg hm ha hs) fun σ H Rr ⟨M, ad, ρ, S, p⟩ =>
  ⟨M, ad, ρ, S, p.bind.imp fun xs H1 e1 x1 vs rv => by
    rw [hK]
    unfold enumD at x1
    split at x1
    · rename_i ds
      obtain ⟨v, rfl, r⟩ := rv.one
      obtain ⟨a, ws, rfl, h1, h2⟩ := r.lst_of
      refine ⟨a, ws, rfl, sqL_same (hid_le M H1) h1, x1.now _ (itd_pair (dx := fun i => some (.int (i : Nat))) (dy := fun i => ds[i]?) walk_enum (by simp [h2.length]) (fun H' e => sqL_same e h1) ?_ ?_ ?_)⟩
      · intro i d q
        obtain ⟨hi, rfl⟩ := range_get q
        exact ⟨_, _, rfl, getD_some hi, rfl⟩
      · intro i v d q1 q2
        cases q1
        cases q2
        exact .int _
      · intro i v d q1 q2
        obtain ⟨d', q3, q4⟩ := h2.get' q1
        rw [q2] at q3
        obtain rfl := Option.some.inj q3
        exact q4
    · exact x1.elim⟩
theorem ei_zip {e e2 : Expr} {p pos tpos : Pos} {elts : List Expr} {kk : Nat} {ms : Sto → R (List PD)} (hK : X.K = Γ.K) (hm : X.mg "zip" = none) (ha : PA X [e, e2] (TAo Γ W ms)) (hg : Gl X "zip" := by rfl) (hs : starEach [e, e2] X.env = (false, eval e X.env) :: starEach [e2] X.env := by rfl) (hpl : (backTo pos (starEach [e2] X.env)).any (·.1) = false := by rfl) :
    PI X (.Tuple elts kk tpos) (.Call (.Name "zip" p) [e, e2] [] pos) (TIo Γ W (fun ρ => do zipD (← ms ρ))) := pi_mono (pi_zip hg hm ha hs hpl) fun σ H Rr ⟨M, ad, ρ, S, p⟩ =>
  ⟨M, ad, ρ, S, p.bind.imp fun xs H1 e1 x1 vs rv => by
    rw [hK]
    unfold zipD at x1
    split at x1
    · rename_i ds es
      obtain ⟨v, w, rfl, r, r'⟩ := rv.two
      obtain ⟨a, ws, rfl, h1, h2⟩ := r.lst_of
      obtain ⟨b, us, rfl, h3, h4⟩ := r'.lst_of
      refine ⟨a, b, ws, us, rfl, sqL_same (hid_le M H1) h1, sqL_same (hid_le M H1) h3, x1.now _ (itd_pair (dx := fun i => ds[i]?) (dy := fun i => es[i]?) (walk_zip (xs := ws) (ys := us) rfl) (by simp [h2.length, h4.length]) (fun H' e => ⟨sqL_same e h1, sqL_same e h3⟩) ?_ ?_ ?_)⟩
      · intro i d q
        obtain ⟨hi, rfl⟩ := range_get q
        exact ⟨_, _, getD_some (by omega), getD_some (by omega), rfl⟩
      · intro i v d q1 q2
        obtain ⟨d', q3, q4⟩ := h2.get' q1
        rw [q2] at q3
        obtain rfl := Option.some.inj q3
        exact q4
      · intro i v d q1 q2
        obtain ⟨d', q3, q4⟩ := h4.get' q1
        rw [q2] at q3
        obtain rfl := Option.some.inj q3
        exact q4
    · exact x1.elim⟩
end
end Lilt

set_option Elab.async false
set_option linter.all false
set_option maxRecDepth 100000
set_option maxHeartbeats 2000000
set_option autoImplicit false
/-! enumerate(t), t a tuple -/
namespace PySem
open AutoSeq1 (wpAny_loadPart')
theorem liltMeets_enum_newU (l : Addr) (items : Array Value) (n : Nat) (dct : Option Addr) (sl : Array (Option Value)) :
    Meets (Builtin.«enumerate.__new__» ⟨[.type "enumerate", .ref l], []⟩) (fun _ R s => s.heap.get? l = some { cls := .type "tuple", dict := dct, data := .seq items n, slots := sl } ∧
      R (.ok (.ret (.ref (s.heap.push { cls := .type "tuple_iterator", data := .fields #[.ref l, .int 0 0] }).objs.size)))
        { s with heap := (s.heap.push { cls := .type "tuple_iterator", data := .fields #[.ref l, .int 0 0] }).push { cls := .type "enumerate", data := .fields #[.none, .bool false, .ref s.heap.objs.size, rawInt 0, .none, .none] } }) :=
  .of_wp fun prog w A R s h => by
    obtain ⟨hp, g, d, tk, os⟩ := s; obtain ⟨hl, h⟩ := h
    have hsub := sub_enumerate
    have hL : Heap.IsTuple (Shared.heap ⟨hp, g, d, tk, os⟩) l items := ⟨_, hl, rfl, n, rfl⟩
    wp_walk using wpAny_loadPart' hl
    refine wpAny_stack_any fun st => wpAny_pure ?_
    split
    · rename_i c _ _ _ _ _
      cases (c == Value.type "enumerate")
      · wp_walk using wpAny_loadPart' hl, wpAny_pyIter_tuple hL
        exact ⟨_, rfl, h⟩
      · wp_walk using wpAny_loadPart' hl, wpAny_pyIter_tuple hL
        exact ⟨_, rfl, h⟩
    · wp_walk using wpAny_loadPart' hl, wpAny_pyIter_tuple hL
      exact ⟨_, rfl, h⟩
theorem lilt_call_enum_tuple {prog : Program} {w : World} {A : Around} {E : Value → Shared → Prop} {s : Shared} {l : Addr} {items : Array Value} {Q : Value → Shared → Prop} (hL : s.heap.IsTuple l items)
    (h : ∀ h', IsEnum h' (s.heap.objs.size + 1) s.heap.objs.size 0 .none → h'.IsTupleIter s.heap.objs.size l 0 → h'.objs.size = s.heap.objs.size + 2 →
      (∀ b o, s.heap.get? b = some o → h'.get? b = some o) → Q (.ref (s.heap.objs.size + 1)) { s with heap := h' }) :
    wpAny (model prog w) A (call (.type "enumerate") [.ref l]) Q E s := by
  obtain ⟨⟨c, dct, dt, sl⟩, hl, hc, n, hd⟩ := hL
  replace hc : c = .type "tuple" := hc
  replace hd : dt = .seq items n := hd
  subst hc hd
  refine callType_new F.called_enumerate (by decide) (F.typeCall_enumerate_1 _) (F.newCall_enumerate_1 _) (fun obj => F.args_object_init_2 obj _) F.entry_enumerate_new
    (liltMeets_enum_newU l items n dct sl) ⟨hl, ?_⟩
  have hz : (s.heap.push { cls := .type "tuple_iterator", data := .fields #[.ref l, .int 0 0] }).objs.size = s.heap.objs.size + 1 := Heap.size_push ..
  show _ ∧ _
  rw [hz]
  have he : IsEnum ((s.heap.push { cls := .type "tuple_iterator", data := .fields #[.ref l, .int 0 0] }).push
      { cls := .type "enumerate", data := .fields #[.none, .bool false, .ref s.heap.objs.size, rawInt 0, .none, .none] }) (s.heap.objs.size + 1) s.heap.objs.size 0 .none := by
    have := Heap.get?_push_size (s.heap.push { cls := .type "tuple_iterator", data := .fields #[.ref l, .int 0 0] })
      (o := { cls := .type "enumerate", data := .fields #[.none, .bool false, .ref s.heap.objs.size, rawInt 0, .none, .none] }) rfl
    rw [hz] at this; exact this
  refine ⟨⟨_, he, rfl⟩, h _ he ⟨_, Heap.get?_push_of_some _ (Heap.get?_push_size _ rfl), rfl, rfl⟩ (by rw [Heap.size_push, hz]) fun b o x => Heap.get?_push_of_some _ (Heap.get?_push_of_some _ x)⟩
end PySem
namespace Lilt
open PySem L2
def IteU (K : PySem.W.Frag) (a : Addr) : It :=
  ⟨fun i H => ∃ (xs : List V) (x : V), SqT K H a xs ∧ xs[i]? = some x, fun i H v H' => ∃ T x, v = .ref T ∧ H T = none ∧ H' = upd H T (.tup [.int (i : Nat), x]) ∧ ∀ xs, SqT K H a xs → xs[i]? = some x, fun i H => ∃ xs : List V, SqT K H a xs ∧ xs.length ≤ i⟩
theorem turn_enumU {P : Program} {w : World} {K : PySem.W.Frag} {elts : List Expr} {kk : Nat} {tpos : Pos} (a e it : Addr) :
    Turn P w K (.Tuple elts kk tpos) (IteU K a) [e, it] e (fun i h => (∃ old, IsEnum h e it ((i : Nat) : Int) old) ∧ h.IsTupleIter it a i ∧ e ≠ it) where
  mem := by simp
  obj := fun i h st b hb => by
    obtain ⟨⟨old, he⟩, ⟨o, ho, hc, hd⟩, _⟩ := st
    have e' : b = e ∨ b = it := by simpa using hb
    rcases e' with z | z
    · rw [z]; exact ⟨_, he, fun v q => nomatch q⟩
    · rw [z]; exact ⟨o, ho, fun v q => by rw [hd] at q; cases q⟩
  keep := fun i h h' st k => let ⟨⟨old, he⟩, hi, hne⟩ := st; ⟨⟨old, k e (by simp) _ he⟩, hi.at fun o q => k it (by simp) o q, hne⟩
  item := by
    intro X hP hw hK hc i pins s σ H E I hf st hg
    subst hP hw hK
    obtain ⟨⟨old, he⟩, hit, hne⟩ := st
    obtain ⟨xs, x, hq, hx⟩ := hg
    obtain ⟨its, rv, p, hz⟩ := I.tuple hq
    obtain ⟨u, hu, ru⟩ := rv.get hx
    have hel : e < s.heap.objs.size := Heap.lt_size he
    have hil : it < s.heap.objs.size := by obtain ⟨_, q, _⟩ := hit; exact Heap.lt_size q
    have p' : s.heap.IsTuple a its.toArray := p
    have hae : a ≠ e := by
      rintro rfl
      obtain ⟨o, q1, q2, _⟩ := p'
      have he : s.heap.get? a = some _ := he
      rw [q1] at he
      obtain rfl := Option.some.inj he
      exact absurd q2 (by simp)
    have hai : a ≠ it := by
      rintro rfl
      obtain ⟨o, q1, q2, _⟩ := p'
      obtain ⟨o', q3, q4, _⟩ := hit
      rw [q1] at q3
      obtain rfl := Option.some.inj q3
      rw [q2] at q4
      exact absurd q4 (by simp)
    have hlt : i < its.toArray.size := by
      obtain ⟨h, _⟩ := List.getElem?_eq_some_iff.mp hu
      simpa using h
    refine wpAny_pyNext_enum_itemD (Draws.tuple (A := X.A.in1) (show X.A.in1.handled = none from I.ok.hd hc) it a hai its.toArray) he ⟨hit, p'⟩ hlt hne (by simp [Ne.symm hae, hne]) fun y h' tk hy ho hst hT hsz hk => ?_
    obtain rfl : u = y := by
      have q : its.toArray[i]? = some u := by simpa using hu
      rw [q] at hy
      exact Option.some.inj hy
    obtain ⟨hit', _⟩ := hst
    refine ⟨_, rfl, wpAny_letOwnedTupleGo_enum (s := { s with heap := h', toks := tk + 1 }) ho fun h'' he' sb => ?_⟩
    have hT2 : h''.get? s.heap.objs.size = some { cls := .type "tuple", data := .seq #[.int i tk, u] } := (sb.2 _ (Nat.ne_of_gt hel)).trans hT
    have new : ObjOk X.prog X.w (upd H s.heap.objs.size (.tup [.int (i : Nat), x])) h'' s.heap.objs.size (.tup [.int (i : Nat), x]) :=
      ⟨by show 2 ≤ sizeLine; decide, [.int i tk, u], .cons ⟨_, rfl⟩ (.cons ru .nil), ⟨_, hT2, rfl, _, rfl⟩⟩
    have I1 : Inv X pins σ (upd H s.heap.objs.size (.tup [.int (i : Nat), x])) { s with heap := h'', toks := tk + 1 } :=
      I.turnedNew (ch := [e, it]) (fun b ob hb q => (sb.2 b (fun z => hb (by simp [z]))).trans (hk b ob (fun z => hb (by simp [z])) (fun z => hb (by simp [z])) q)) hf (Nat.le_refl _) new
    refine ⟨.ref s.heap.objs.size, _, I1, rfl, ⟨_, x, rfl, I.hok.fresh (Nat.le_refl _), rfl, fun ys hy => by rw [I.tuple_inj hy hq]; exact hx⟩, ⟨⟨u, ?_⟩, hit'.at fun o q => (sb.2 it (Ne.symm hne)).trans q, hne⟩, fun b hb => ?_⟩
    · have e1 : ((i + 1 : Nat) : Int) = (i : Int) + 1 := by omega
      rw [e1]; exact he'
    · have hb' : b < s.heap.objs.size := by
        have e' : b = e ∨ b = it := by simpa using hb
        rcases e' with z | z
        · rw [z]; exact hel
        · rw [z]; exact hil
      rw [upd_ne (Nat.ne_of_lt hb')]
      exact (hf b hb).1
  done := by
    intro X hP hw hK hc i pins s σ H E I hf st hg
    subst hP hw hK
    obtain ⟨⟨old, he⟩, hit, hne⟩ := st
    obtain ⟨xs, hq, hx⟩ := hg
    obtain ⟨its, rv, p, hz⟩ := I.tuple hq
    obtain ⟨f0, f1, f2, f3, f4, f5⟩ := hf it (by simp)
    have hl := rv.length
    have p' : s.heap.IsTuple a its.toArray := p
    have hai : a ≠ it := by
      rintro rfl
      obtain ⟨o, q1, q2, _⟩ := p'
      obtain ⟨o', q3, q4, _⟩ := hit
      rw [q1] at q3
      obtain rfl := Option.some.inj q3
      rw [q2] at q4
      exact absurd q4 (by simp)
    have hi : i = i := rfl
    unfold pyNext
    have hT : s.TypeIs (.ref e) "enumerate" := ⟨_, he, rfl⟩
    refine wpAny_bind (wpAny_attempt (wpAny_callSpecial?_slot (name := Str.ofString "__next__") hT F.slot_enumerate_next
      (wpAny_call_entry F.slot_enumerate_next hT F.entry_enumerate_next ?_ (F.args_enumerate_next_1 _))))
    show wpAny _ _ (field (.ref e) 2 >>= _) _ _ _
    refine wpAny_bind (wpAny_field he rfl (x := .ref it) rfl ?_)
    refine wpAny_bind (wpAny_nextOf_tuple_end (I.ok.hd hc) hit p' (by simp; omega) fun h' x he' hx' => ?_)
    obtain ⟨o, ho, hcc⟩ := hx'
    refine wpAny_bind (wpAny_isInstance (T := "StopIteration") (b := true) ⟨o, ho, hcc⟩ isSubtype_stop ?_)
    exact wpAny_pure ⟨rfl, I.turned (t' := s.toks) (fun b o hb e => he' b o hb e) f0 f1 f3 f4 f5⟩
  self := fun A i s Q E st h => let ⟨⟨_, he⟩, _⟩ := st; wpAny_pyIter_enum he h
def iEnumU (K : PySem.W.Frag) (ta : TA) : TI := fun σ H R => ta σ H fun vs H1 => ∃ a xs, vs = [.ref a] ∧ SqT K H1 a xs ∧ R (IteU K a) H1
theorem pi_enumU {X : Cx} {e : Expr} {ta : TA} {p pos tpos : Pos} {elts : List Expr} {kk : Nat} (hg : Gl X "enumerate") (hm : X.mg "enumerate" = none) (ha : PA X [e] ta) (hs : starEach [e] X.env = [(false, eval e X.env)] := by rfl) :
    PI X (.Tuple elts kk tpos) (.Call (.Name "enumerate" p) [e] [] pos) (iEnumU X.K ta) := by
  refine ⟨fun pins s σ H R I h => ?_⟩
  refine PyProof.Rows.Call_ (ld_blt I hg hm PyProof.Rows.boot_enumerate (PyProof.Rows.callWith_type1 (thn (ha.run pos pins s σ H _ I h) fun us s1 ⟨vs, H1, I1, r1, q1⟩ => ?_) hs rfl))
  obtain ⟨a, xs, ex, hq, q⟩ := q1
  subst ex
  cases r1 with
  | cons r rr =>
    cases rr
    cases r
    obtain ⟨its, rv, p', hz⟩ := I1.tuple hq
    refine lilt_call_enum_tuple (show s1.heap.IsTuple a its.toArray from p') fun h' he hit hsz hk => wpAny_pyIter_enum he ?_
    have I2 : Inv X pins σ H1 { s1 with heap := h' } := I1.kept (t' := s1.toks) hk
    refine ⟨s1.heap.objs.size + 1, [s1.heap.objs.size + 1, s1.heap.objs.size], _, _, H1, rfl, I2, turn_enumU a (s1.heap.objs.size + 1) s1.heap.objs.size, ⟨⟨.none, he⟩, hit, Nat.succ_ne_self _⟩, fun b hb => ?_, q⟩
    have e' : b = s1.heap.objs.size + 1 ∨ b = s1.heap.objs.size := by simpa using hb
    have hle : s1.heap.objs.size ≤ b := by
      rcases e' with z | z
      · rw [z]; exact Nat.le_add_right _ _
      · rw [z]; exact Nat.le_refl _
    exact I1.fpOk hle (I1.hok.fresh hle)
theorem walk_enumU {K : PySem.W.Frag} {a : Addr} {xs : List V} : Walk (IteU K a) xs.length (fun H => SqT K H a xs) (YPair (fun i => some (.int (i : Nat))) (fun i => xs[i]?)) := by
  refine ⟨fun i _ hi q => ⟨xs, xs[i], q, by simp [hi]⟩, fun _ q => ⟨xs, q, Nat.le_refl _⟩, fun i H v H' _ q y => ?_⟩
  obtain ⟨T, x, h1, h2, h3, h4⟩ := y
  exact ⟨T, .int (i : Nat), x, h1, h2, h3, rfl, h4 xs q⟩
/-- enumerate of a list or a tuple -/
def enumA : List PD → R (List PD)
  | [.list xs] => .ok ((List.range xs.length).map fun (k : Nat) => .tuple [.int (k : Nat), xs.getD k .none])
  | [.tuple xs] => .ok ((List.range xs.length).map fun (k : Nat) => .tuple [.int (k : Nat), xs.getD k .none])
  | _ => .stuck
theorem ei_enumA {X : Cx} {Γ : Gm} {W : WX} {e : Expr} {p pos tpos : Pos} {elts : List Expr} {kk : Nat} {ms : Sto → R (List PD)} (hK : X.K = Γ.K) (hm : X.mg "enumerate" = none) (ha : PA X [e] (TAo Γ W ms)) (hg : Gl X "enumerate" := by rfl) (hs : starEach [e] X.env = [(false, eval e X.env)] := by rfl) :
    PI X (.Tuple elts kk tpos) (.Call (.Name "enumerate" p) [e] [] pos) (TIo Γ W (fun ρ => do enumA (← ms ρ))) := pi_mono (pi_or (pi_enum hg hm ha hs) (pi_enumU hg hm ha hs)) fun σ H Rr ⟨M, ad, ρ, S, p⟩ => by
  rw [hK]
  have p := p.bind
  cases e1 : ms ρ with
  | stuck => rw [e1] at p; exact p.elim
  | exc x => exact .inl ⟨M, ad, ρ, S, by rw [e1] at p ⊢; exact p⟩
  | ok xs =>
    have p0 := p
    rw [e1] at p0
    have p1 : Pst Γ W σ H (fun ds H' => ∀ (J : It), ItD Γ (hid M H') J ds → Rr J H') (enumA xs) := p0 H (Same.refl H)
    unfold enumA at p1
    split at p1
    · rename_i ds
      refine .inl ⟨M, ad, ρ, S, ?_⟩
      rw [e1]
      intro H1 e2 vs rv
      have x1 := p0 H1 e2
      obtain ⟨v, rfl, r⟩ := rv.one
      obtain ⟨a, ws, rfl, h1, h2⟩ := r.lst_of
      refine ⟨a, ws, rfl, sqL_same (hid_le M H1) h1, x1.now _ (itd_pair (dx := fun i => some (.int (i : Nat))) (dy := fun i => ds[i]?) walk_enum (by simp [h2.length]) (fun H' e => sqL_same e h1) ?_ ?_ ?_)⟩
      · intro i d q
        obtain ⟨hi, rfl⟩ := range_get q
        exact ⟨_, _, rfl, getD_some hi, rfl⟩
      · intro i v d q1 q2
        cases q1
        cases q2
        exact .int _
      · intro i v d q1 q2
        obtain ⟨d', q3, q4⟩ := h2.get' q1
        rw [q2] at q3
        obtain rfl := Option.some.inj q3
        exact q4
    · rename_i ds
      refine .inr ⟨M, ad, ρ, S, ?_⟩
      rw [e1]
      intro H1 e2 vs rv
      have x1 := p0 H1 e2
      obtain ⟨v, rfl, r⟩ := rv.one
      obtain ⟨a, ws, rfl, h1, h2⟩ := r.tup_of
      refine ⟨a, ws, rfl, sqT_same (hid_le M H1) h1, x1.now _ (itd_pair (dx := fun i => some (.int (i : Nat))) (dy := fun i => ds[i]?) walk_enumU (by simp [h2.length]) (fun H' e => sqT_same e h1) ?_ ?_ ?_)⟩
      · intro i d q
        obtain ⟨hi, rfl⟩ := range_get q
        exact ⟨_, _, rfl, getD_some hi, rfl⟩
      · intro i v d q1 q2
        cases q1
        cases q2
        exact .int _
      · intro i v d q1 q2
        obtain ⟨d', q3, q4⟩ := h2.get' q1
        rw [q2] at q3
        obtain rfl := Option.some.inj q3
        exact q4
    · exact p1.elim
end Lilt

set_option Elab.async false
set_option linter.all false
set_option maxRecDepth 100000
set_option maxHeartbeats 2000000
set_option autoImplicit false
namespace Lilt
open PySem L2

section
variable {X : Cx} {Γ : Gm} {W : WX} {M M' M0 : Addr → Prop} {ad : Nat → Addr} {ρ ρ' : Sto} {σ : L2.St} {H H' H0 : Hp}

/-! ## list comprehensions -/
abbrev WF : WX := fun _ _ _ _ => False
def R.opt {A : Type} : R A → Option A
  | .ok a => some a
  | _ => none
theorem R.opt_some {A : Type} {r : R A} {a : A} (h : r.opt = some a) : r = .ok a := by
  cases r with
  | ok b => exact congrArg R.ok (Option.some.inj h)
  | _ => cases h
def compD (t : Tg) (mt : Sto → R Bool) (me : Sto → R PD) (ρ : Sto) : List PD → Option (List PD)
  | [] => some []
  | d :: ds => do
    let ρ1 ← (setT t d ρ).opt
    let b ← (mt ρ1).opt
    if b then do
      let x ← (me ρ1).opt
      let r ← compD t mt me ρ ds
      pure (x :: r)
    else compD t mt me ρ ds
def mLc (mi : Sto → R (List PD)) (t : Tg) (vs : List Nat) (mt : Sto → R Bool) (me : Sto → R PD) : Sto → R PD := fun ρ => do
  let ds ← mi ρ
  match compD t mt me (wipeS ρ vs) ds with
  | some out => szL out
  | none => .stuck
def mYes : Sto → R Bool := fun _ => .ok true
theorem et_yes : PTs X [] (TTo Γ W mYes) := ⟨fun pins s σ H Q I ⟨_, _, _, _, p⟩ => (pts_nil (X := X)).run pins s σ H Q I p.now⟩
theorem ets_one {c : Expr} {m : Sto → R Bool} (h : PT X c (TTo Γ W m)) : PTs X [c] (TTo Γ W m) := pts_one h
/-- .. of two tests: [.. if a if b] never stands here -/
theorem tf_lc {mi : Sto → R (List PD)} {t : Tg} {vs : List Nat} {mt : Sto → R Bool} {me : Sto → R PD} {Q : VK} (ht : ∀ i, i ∈ t.idx → i ∈ vs) (h : TFo Γ W (mLc mi t vs mt me) σ H Q) :
    tLc (TIo Γ W mi) (gT Γ.K t) (TTo Γ WF mt) (TEo Γ WF me) vs σ H Q := by
  obtain ⟨M, ad, ρ, S, p⟩ := h
  refine ⟨M, ad, ρ, S, p.bind.imp fun ds H1 e1 x1 J hJ => ?_⟩
  intro Dl hD
  obtain ⟨G, Y, w, hG, hY⟩ := hJ.ex
  have S1 := S.mono e1
  cases ec : compD t mt me (wipeS ρ vs) ds with
  | none => rw [ec] at x1; exact x1.elim
  | some out =>
    rw [ec] at x1
    have x1 : Pst Γ W σ H1 (fun d H' => ∀ v, FrO Γ M H H' v d → Q v H') (szL out) := x1
    simp only [szL] at x1
    split at x1
    · rename_i hsz
      have nD : ¬ M Dl := notM S1.in_ hD
      have F1 : Same (hid M H1) (hid (insM M Dl) (upd H1 Dl (.lst []))) := hid_ins (same_new hD) hD
      refine lc_it w (fun i H2 => ∃ accV accD rest, H2 Dl = some (.lst accV) ∧ RpA Γ (hid (insM M Dl) H2) accV accD ∧ compD t mt me (wipeS ρ vs) (ds.drop i) = some rest ∧ accD ++ rest = out ∧ Same H1 H2) ?_ ?_ ?_ ?_
      · exact ⟨[], [], out, upd_same, .nil, by rw [List.drop_zero]; exact ec, rfl, same_new hD⟩
      · rintro i H2 _ ⟨accV, accD, rest, h1, h2, h3, h4, h5⟩
        exact hG H2 fun a o q => h5 a o (hid_some q).2
      · rintro i x H2 H3 hi ⟨accV, accD, rest, h1, h2, h3, h4, h5⟩ y
        have S2 : Ste Γ (insM M Dl) ad (wipeS ρ vs) (L2.wipe σ vs) H2 := (S1.more hD h5 h1).wipe vs
        have hdi : ds[i]? = some ds[i] := List.getElem?_eq_getElem hi
        have sF : Same (hid M H1) (hid (insM M Dl) H2) := hid_ins h5 hD
        obtain ⟨e3, rx⟩ := hY i H2 x H3 (insM M Dl) _ y S2.in_ sF hdi
        rw [List.drop_eq_getElem_cons hi] at h3
        simp only [compD] at h3
        cases e4 : (setT t ds[i] (wipeS ρ vs)).opt with
        | none => rw [e4] at h3; cases h3
        | some ρ1 =>
          rw [e4] at h3
          cases e5 : (mt ρ1).opt with
          | none => simp only [Option.bind_eq_bind, Option.bind_some] at h3; rw [e5] at h3; cases h3
          | some b =>
            simp only [Option.bind_eq_bind, Option.bind_some] at h3
            rw [e5] at h3
            have h3 : (if b = true then ((me ρ1).opt.bind fun x => (compD t mt me (wipeS ρ vs) (ds.drop (i + 1))).bind fun r => pure (x :: r)) else compD t mt me (wipeS ρ vs) (ds.drop (i + 1))) = some rest := h3
            refine setT_ok t (S2.mono e3) rx (R.opt_some e4) fun σ2 S3 ag => ⟨?_, insM M Dl, ad, ρ1, S3, ?_⟩
            · have a2 := wipe_agree (ag.mono ht)
              rw [wipe_wipe] at a2
              exact a2
            · rw [R.opt_some e5]
              intro H4 e6
              cases b with
              | false =>
                rw [if_neg Bool.false_ne_true] at h3
                exact iteF ⟨accV, accD, rest, e6 _ _ (e3 _ _ h1), h2.mono (hid_same (e3.trans e6)), h3, h4, (h5.trans e3).trans e6⟩
              | true =>
                rw [if_pos rfl] at h3
                cases e7 : (me ρ1).opt with
                | none => rw [e7] at h3; cases h3
                | some z =>
                  rw [e7] at h3
                  cases e8 : compD t mt me (wipeS ρ vs) (ds.drop (i + 1)) with
                  | none => rw [e8] at h3; cases h3
                  | some rest' =>
                    rw [e8] at h3
                    obtain rfl : z :: rest' = rest := Option.some.inj h3
                    refine iteT ⟨insM M Dl, ad, ρ1, S3.mono e6, ?_⟩
                    rw [R.opt_some e7]
                    intro H5 e9 yv ry
                    have hD5 : H5 Dl = some (.lst accV) := e9 _ _ (e6 _ _ (e3 _ _ h1))
                    have hl : accV.length < sizeLine := by
                      rw [h2.length]
                      rw [← h4, List.length_append, List.length_cons] at hsz
                      omega
                    refine ⟨accV, hD5, hl, accV ++ [yv], accD ++ [z], rest', upd_same, ?_, rfl, by rw [List.append_assoc]; exact h4, ?_⟩
                    · exact ((h2.mono (hid_same ((e3.trans e6).trans e9))).append (.cons ry .nil)).mono (hid_upd (.inr rfl))
                    · intro a o q
                      rw [upd_ne (ne_of_none q hD)]
                      exact ((((h5.trans e3).trans e6).trans e9)) a o q
      · rintro H2 ⟨accV, accD, rest, h1, h2, h3, h4, h5⟩
        rw [List.drop_eq_nil_of_le (Nat.le_refl _)] at h3
        simp only [compD] at h3
        obtain rfl := Option.some.inj h3
        rw [List.append_nil] at h4
        subst h4
        exact x1 H2 h5 _ (.inr ⟨rfl, Dl, e1.free hD, rfl, .inr rfl, accV, h1, h2⟩)
    · exact x1.elim
theorem ef_lc {elt tg iter : Expr} {ifs : List Expr} {scope : Scope} {own : List (Str × Nat)} {pos : Pos} {mi : Sto → R (List PD)} {t : Tg} {mt : Sto → R Bool} {me : Sto → R PD} (hc : X.calm = true) (hN : X.N.Nodup) (hi : PI X tg iter (TIo Γ W mi)) (ok : BlkOk X.N X.env.scope scope own)
    (hg : ∀ (s : Shared) (H : Hp) (C : Addr) (cl : List (Str × Addr)) (fp : List Addr), PG (X.blk s H scope (compEnvC scope cl C X.env) fp) tg (gT Γ.K t)) (hts : ∀ (s : Shared) (H : Hp) (C : Addr) (cl : List (Str × Addr)) (fp : List Addr), PTs (X.blk s H scope (compEnvC scope cl C X.env) fp) ifs (TTo Γ WF mt))
    (he : ∀ (s : Shared) (H : Hp) (C : Addr) (cl : List (Str × Addr)) (fp : List Addr), PE (X.blk s H scope (compEnvC scope cl C X.env) fp) elt (TEo Γ WF me)) (ht : ∀ i, i ∈ t.idx → i ∈ own.map (·.2)) (hs : ∀ x, foldedSetIterable iter X.env x = pure x := by intro _; rfl) :
    PE X (.ListComp elt [⟨tg, iter, ifs, 0⟩] scope pos) (TFo Γ W (mLc mi t (own.map (·.2)) mt me)) := pe_mono (pe_lc hc hN hi ok hg hts he hs) fun σ H Q h => tf_lc ht h

/-! ## functions -/
def spOf (Γ : Gm) (n : Nat) (g : List PD → R PD) : Sp := fun vs H Q E => vs.length = n ∧ ∃ M ds, InM M H ∧ RpA Γ (hid M H) vs ds ∧ match g ds with
  | .stuck => False
  | .ok x => ∀ v H', Same H H' → Rp Γ (hid M H') v x → Q v H'
  | .exc e => ∀ cls dx H', Same H H' → ExOk Γ e cls dx H' → E cls dx H'
/-- .. whose value is fresh -/
def spFr (Γ : Gm) (n : Nat) (g : List PD → R PD) : Sp := fun vs H Q E => vs.length = n ∧ ∃ M ds, InM M H ∧ RpA Γ (hid M H) vs ds ∧ match g ds with
  | .stuck => False
  | .ok x => ∀ v H', Same H H' → FrO Γ M H H' v x → Q v H'
  | .exc e => ∀ cls dx H', Same H H' → ExOk Γ e cls dx H' → E cls dx H'
/-- what may be let out by a callee -/
def OkX (X : Cx) (W : WX) : Prop := ∀ σ, PassesAt (L2.CX X.prog X.w) X σ fun cls d H => W cls d σ H
theorem okx_def {W : WX} (tk : Takes X W) : OkX X W := fun σ => passAt tk σ
theorem okx_blk {s : Shared} {scope : Scope} {cenv : Env} {fp : List Addr} : OkX (X.blk s H scope cenv fp) WF := fun σ pins H1 s1 e s2 I c => by
  obtain ⟨_, _, _, _, _, _, _, _, _, _, _, _, z⟩ := c
  exact z.elim
section
variable {k : Nat} {f : Addr} {fd : FuncData} {ps : List Str} {x : Str} {p pos : Pos} {e : Expr} {es : List Expr} {ms : Sto → R (List PD)} {g : List PD → R PD} {n : Nat}
theorem ta_len {Q : List V → Hp → Prop} (h : TAo Γ W ms σ H Q) : True := trivial
theorem ee_call (F : FnOk X.prog X.w X.K X.mg X.base (L2.CX X.prog X.w) k f fd ps (spOf Γ n g)) (hr : Room k X.A) (ok : OkX X W) (hm : X.mg x = some (.ref f)) (hk : PySem.W.keepIn X.K (.ref f) = true) (hb : Binds X.K fd ps []) (ha : PA X (e :: es) (TAo Γ W ms)) (hn : ∀ ρ xs, ms ρ = .ok xs → xs.length = n)
    (hg : Gl X x := by rfl) (hdb : (x == ("__debug__" : Str)) = false := by decide) (he : starEach (e :: es) X.env = (false, eval e X.env) :: starEach es X.env := by rfl) (hpl : (backTo pos (starEach es X.env)).any (·.1) = false := by rfl) :
    PE X (.Call (.Name x p) (e :: es) [] pos) (TEo Γ W (fun ρ => do g (← ms ρ))) :=
  pe_mono (pe_callS F hr hg hm hk hb ok ha hdb he hpl) fun σ H Q ⟨M, ad, ρ, S, p⟩ => by
    refine ⟨M, ad, ρ, S, ?_⟩
    have p := p.bind
    cases e1 : ms ρ with
    | stuck => rw [e1] at p; exact p.elim
    | exc x => rw [e1] at p; exact p
    | ok xs =>
      rw [e1] at p
      intro H1 e2 vs rv
      have p1 : Pst Γ W σ H1 (fun d H' => ∀ v, Rp Γ (hid M H') v d → Q v H') (g xs) := p H1 e2
      refine ⟨by rw [rv.length]; exact hn ρ xs e1, M, xs, (S.mono e2).in_, rv, ?_⟩
      cases eg : g xs with
      | stuck => rw [eg] at p1; exact p1.elim
      | exc x => rw [eg] at p1; exact p1
      | ok z => rw [eg] at p1; exact fun v H' e3 r => p1 H' e3 v r
theorem ef_call (F : FnOk X.prog X.w X.K X.mg X.base (L2.CX X.prog X.w) k f fd ps (spFr Γ n g)) (hr : Room k X.A) (ok : OkX X W) (hm : X.mg x = some (.ref f)) (hk : PySem.W.keepIn X.K (.ref f) = true) (hb : Binds X.K fd ps []) (ha : PA X (e :: es) (TAo Γ W ms)) (hn : ∀ ρ xs, ms ρ = .ok xs → xs.length = n)
    (hg : Gl X x := by rfl) (hdb : (x == ("__debug__" : Str)) = false := by decide) (he : starEach (e :: es) X.env = (false, eval e X.env) :: starEach es X.env := by rfl) (hpl : (backTo pos (starEach es X.env)).any (·.1) = false := by rfl) :
    PE X (.Call (.Name x p) (e :: es) [] pos) (TFo Γ W (fun ρ => do g (← ms ρ))) :=
  pe_mono (pe_callS F hr hg hm hk hb ok ha hdb he hpl) fun σ H Q ⟨M, ad, ρ, S, p⟩ => by
    refine ⟨M, ad, ρ, S, ?_⟩
    have p := p.bind
    cases e1 : ms ρ with
    | stuck => rw [e1] at p; exact p.elim
    | exc x => rw [e1] at p; exact p
    | ok xs =>
      rw [e1] at p
      intro H1 e2 vs rv
      have p1 : Pst Γ W σ H1 (fun d H' => ∀ v, FrO Γ M H H' v d → Q v H') (g xs) := p H1 e2
      refine ⟨by rw [rv.length]; exact hn ρ xs e1, M, xs, (S.mono e2).in_, rv, ?_⟩
      cases eg : g xs with
      | stuck => rw [eg] at p1; exact p1.elim
      | exc x => rw [eg] at p1; exact p1
      | ok z => rw [eg] at p1; exact fun v H' e3 r => p1 H' e3 v (r.back e2)
theorem mn_nil : ∀ (ρ : Sto) (xs : List PD), mNil ρ = .ok xs → xs.length = 0 := fun _ _ h => by cases h; rfl
theorem mn_cons {m : Sto → R PD} {ms : Sto → R (List PD)} {n : Nat} (h : ∀ ρ xs, ms ρ = .ok xs → xs.length = n) : ∀ ρ xs, mCons m ms ρ = .ok xs → xs.length = n + 1 := fun ρ xs e => by
  unfold mCons at e
  cases e1 : m ρ with
  | stuck => rw [e1] at e; cases e
  | exc x => rw [e1] at e; cases e
  | ok a =>
    rw [e1] at e
    cases e2 : ms ρ with
    | stuck => simp only [R.bind_ok] at e; rw [e2] at e; cases e
    | exc x => simp only [R.bind_ok] at e; rw [e2] at e; cases e
    | ok b =>
      simp only [R.bind_ok] at e
      rw [e2] at e
      cases e
      rw [List.length_cons, h ρ b e2]
end

/-! ## statements -/
inductive Out where
  | nx (ρ : Sto)
  | rt (x : PD) (o : Bool)
  | bk (ρ : Sto)
  | ct (ρ : Sto)
  | ex (x : Exc) (ρ : Sto)
structure StS (Γ : Gm) (H0 : Hp) (M0 M : Addr → Prop) (ad : Nat → Addr) (ρ : Sto) (σ : L2.St) (H : Hp) : Prop where
  st : Ste Γ M ad ρ σ H
  ex : Same H0 H
  sub : ∀ a, M0 a → M a
  m0 : ∀ a, M0 a → ∃ o, H0 a = some o
  old : ∀ a o, M a → H0 a = some o → M0 a
  own : ∀ (i : Nat) (s : Sl), ρ[i]? = some s → s.own = true → H0 (ad i) = none
theorem StS.mono (s : StS Γ H0 M0 M ad ρ σ H) (e : Same H H') : StS Γ H0 M0 M ad ρ σ H' := ⟨s.st.mono e, s.ex.trans e, s.sub, s.m0, s.old, s.own⟩
/-- what stood ahead is to be seen -/
theorem StS.base (s : StS Γ H0 M0 M ad ρ σ H) : Same (hid M0 H0) (hid M H) := fun a o h => by
  obtain ⟨n, h⟩ := hid_some h
  exact hid_of (fun m => n (s.old a o m h)) (s.ex a o h)
def RetOk (Γ : Gm) (M0 : Addr → Prop) (H0 H : Hp) (v : V) (x : PD) (o : Bool) : Prop := if o = true then FrO Γ M0 H0 H v x else Rp Γ (hid M0 H) v x
def PstO (Γ : Gm) (W : WX) (H0 : Hp) (M0 : Addr → Prop) (D : Ends) : Out → Prop
  | .nx ρ => ∀ M ad σ H, StS Γ H0 M0 M ad ρ σ H → D.nx σ H
  | .bk ρ => ∀ M ad σ H, StS Γ H0 M0 M ad ρ σ H → D.bk σ H
  | .ct ρ => ∀ M ad σ H, StS Γ H0 M0 M ad ρ σ H → D.ct σ H
  | .rt x o => ∀ v H, Same H0 H → RetOk Γ M0 H0 H v x o → D.rt v H
  | .ex x ρ => ∀ M ad σ H cls dx, StS Γ H0 M0 M ad ρ σ H → ExOk Γ x cls dx H → W cls dx σ H
def PstS (Γ : Gm) (W : WX) (H0 : Hp) (M0 : Addr → Prop) (D : Ends) : R Out → Prop
  | .ok o => PstO Γ W H0 M0 D o
  | _ => False
def TSo (Γ : Gm) (W : WX) (m : Sto → R Out) : TS := fun D σ H => ∃ H0 M0 M ad ρ, StS Γ H0 M0 M ad ρ σ H ∧ PstS Γ W H0 M0 D (m ρ)
/-- a reckoning, then the statement's end -/
def lift {A : Type} (r : R A) (ρ : Sto) (k : A → R Out) : R Out := match r with
  | .stuck => .stuck
  | .exc x => .ok (.ex x ρ)
  | .ok a => k a
theorem PstS.lift {A : Type} {r : R A} {k : A → R Out} {D : Ends} (S : StS Γ H0 M0 M ad ρ σ H) (p : PstS Γ W H0 M0 D (Lilt.lift r ρ k)) : Pst Γ W σ H (fun a H' => StS Γ H0 M0 M ad ρ σ H' ∧ PstS Γ W H0 M0 D (k a)) r := by
  cases r with
  | stuck => exact p.elim
  | exc x => exact fun cls dx H' e q => p M ad σ H' cls dx (S.mono e) q
  | ok a => exact fun H' e => ⟨S.mono e, p⟩
def mSeq (m n : Sto → R Out) : Sto → R Out := fun ρ => match m ρ with
  | .ok (.nx ρ') => n ρ'
  | r => r
def mNx : Sto → R Out := fun ρ => .ok (.nx ρ)
variable {st : Stmt} {rest : List Stmt} {m n : Sto → R Out} {pos : Pos} {e : Expr} {me : Sto → R PD}
theorem ss_nil : PSs X [] (TSo Γ W mNx) := pss_mono pss_nil fun D σ H ⟨H0, M0, M, ad, ρ, S, p⟩ => p M ad σ H S
theorem ss_cons (h1 : PS X st (TSo Γ W m)) (h2 : PSs X rest (TSo Γ W n)) : PSs X (st :: rest) (TSo Γ W (mSeq m n)) := pss_mono (pss_cons h1 h2) fun D σ H ⟨H0, M0, M, ad, ρ, S, p⟩ => by
  refine ⟨H0, M0, M, ad, ρ, S, ?_⟩
  unfold mSeq at p
  cases e : m ρ with
  | stuck => rw [e] at p; exact p.elim
  | exc x => rw [e] at p; exact p.elim
  | ok o =>
    rw [e] at p
    cases o with
    | nx ρ' => exact fun M' ad' σ' H' S' => ⟨H0, M0, M', ad', ρ', S', p⟩
    | rt x o => exact p
    | bk ρ' => exact p
    | ct ρ' => exact p
    | ex x ρ' => exact p
theorem ss_one (h1 : PS X st (TSo Γ W m)) : PSs X [st] (TSo Γ W m) := pss_one h1
/-- an owned slot is given away -/
def mFrz (i : Nat) (m : Sto → R Out) : Sto → R Out := fun ρ => m (frz i ρ)
theorem frz_own {i j : Nat} {s : Sl} (h : (frz i ρ)[j]? = some s) (o : s.own = true) : ρ[j]? = some s := by
  unfold frz at h
  split at h
  · rename_i x e
    by_cases hj : j = i
    · subst hj
      rw [List.getElem?_set_self (by have := (List.getElem?_eq_some_iff.mp e).1; exact this)] at h
      obtain rfl := Option.some.inj h
      cases o
    · rw [List.getElem?_set_ne (fun q => hj q.symm)] at h
      exact h
  · exact h
theorem StS.frz (S : StS Γ H0 M0 M ad ρ σ H) (i : Nat) : ∃ M', StS Γ H0 M0 M' ad (Lilt.frz i ρ) σ H := by
  unfold Lilt.frz
  split
  · rename_i x e
    cases o : ownD x with
    | true =>
      refine ⟨_, S.st.lend i e o, S.ex, fun a m => ⟨S.sub a m, fun q => ?_⟩, S.m0, fun a u m h => S.old a u m.1 h, fun j s h os => ?_⟩
      · obtain ⟨u, hu⟩ := S.m0 a m
        rw [q, S.own i _ e o] at hu
        cases hu
      · exact S.own j s (frz_own (i := i) (by unfold Lilt.frz; rw [e]; exact h) os) os
    | false =>
      refine ⟨M, S.st.plainSl i e o, S.ex, S.sub, S.m0, S.old, fun j s h os => ?_⟩
      exact S.own j s (frz_own (i := i) (by unfold Lilt.frz; rw [e]; exact h) os) os
  · exact ⟨M, S⟩
theorem ss_frz (i : Nat) {sts : List Stmt} (h : PSs X sts (TSo Γ W m)) : PSs X sts (TSo Γ W (mFrz i m)) := pss_mono h fun D σ H ⟨H0, M0, M, ad, ρ, S, p⟩ => by
  obtain ⟨M', S'⟩ := S.frz i
  exact ⟨H0, M0, M', ad, _, S', p⟩
theorem s_frz (i : Nat) (h : PS X st (TSo Γ W m)) : PS X st (TSo Γ W (mFrz i m)) := ps_mono h fun D σ H ⟨H0, M0, M, ad, ρ, S, p⟩ => by
  obtain ⟨M', S'⟩ := S.frz i
  exact ⟨H0, M0, M', ad, _, S', p⟩
/-! x = e -/
theorem StS.set (S : StS Γ H0 M0 M ad ρ σ H) (i : Nat) {v : V} {x : PD} (r : Rp Γ (hid M H) v x) : StS Γ H0 M0 M ad (ρ.set i (.d x)) (σ.set i (some v)) H := by
  refine ⟨S.st.set i r, S.ex, S.sub, S.m0, S.old, fun j s h os => ?_⟩
  by_cases hj : j = i
  · subst hj
    have hl : j < ρ.length := by
      have := (List.getElem?_eq_some_iff.mp h).1
      rwa [List.length_set] at this
    rw [List.getElem?_set_self hl] at h
    obtain rfl := Option.some.inj h
    cases os
  · rw [List.getElem?_set_ne (fun q => hj q.symm)] at h
    exact S.own j s h os
def mSet (i : Nat) (me : Sto → R PD) : Sto → R Out := fun ρ => lift (me ρ) ρ fun x => .ok (.nx (ρ.set i (.d x)))
theorem ts_set {i : Nat} {D : Ends} (h : TSo Γ W (mSet i me) D σ H) : tAsg (TEo Γ W me) (gName i) D σ H := by
  obtain ⟨H0, M0, M, ad, ρ, S, p⟩ := h
  exact ⟨M, ad, ρ, S.st, (PstS.lift S p).imp fun x H1 e1 ⟨S1, p1⟩ v r => p1 M ad _ H1 (S1.set i r)⟩
theorem s_set {i : Nat} {x : Str} {pos' : Pos} (hN : X.N.Nodup) (hi : X.N[i]? = some x) (hx : Loc X.env.scope x) (he : PE X e (TEo Γ W me)) (hs : swapsWith e (some (.Name x pos')) pos.line X.env = pure false := by rfl) (hf : X.fn x = true ∨ X.env.scope.names.lookup x = some .local := by first | exact .inl rfl | exact .inr rfl | assumption) :
    PS X (.Assign [.Name x pos'] e pos) (TSo Γ W (mSet i me)) := ps_mono (ps_set hN hi hx he hs hf) fun D σ H h => ts_set h
/-- .. a fresh one, owned -/
theorem Ste.setO (S : Ste Γ M ad ρ σ H) (i : Nat) {v : V} {x : PD} {p : Addr} (hp : H p = none) (e : Same H H') (o : ownD x = true) (r : RpO Γ (insM M p) H' p v x) : Ste Γ (insM M p) (fun j => if j = i then p else ad j) (ρ.set i (.ov x)) (σ.set i (some v)) H' := by
  obtain ⟨_, hv, u, hu⟩ := r.ownM o
  have S1 := S.more hp e hu
  have nM : ¬ M p := notM S.in_ hp
  have f : ∀ (j : Nat) (s : Sl), (ρ.set i (.ov x))[j]? = some s → (j = i ∧ s = .ov x ∧ j < ρ.length) ∨ (j ≠ i ∧ ρ[j]? = some s) := fun j s h => by
    by_cases hj : j = i
    · subst hj
      have hl : j < ρ.length := by
        have := (List.getElem?_eq_some_iff.mp h).1
        rwa [List.length_set] at this
      rw [List.getElem?_set_self hl] at h
      exact .inl ⟨rfl, (Option.some.inj h).symm, hl⟩
    · rw [List.getElem?_set_ne (fun q => hj q.symm)] at h
      exact .inr ⟨hj, h⟩
  refine ⟨S1.in_, by rw [List.length_set, List.length_set]; exact S.len, fun j s h => ?_, fun j k s s' h1 h2 o1 o2 q => ?_⟩
  · rcases f j s h with ⟨rfl, rfl, hl⟩ | ⟨hj, h⟩
    · rw [if_pos rfl]
      exact ⟨v, List.getElem?_set_self (by rw [← S.len]; exact hl), r⟩
    · rw [if_neg hj, List.getElem?_set_ne (fun q => hj q.symm)]
      exact S1.sl j s h
  · have g : ∀ (j : Nat) (s : Sl), ρ[j]? = some s → s.own = true → ad j ≠ p := fun j s h os q => nM (q ▸ ((S.sl j s h).ownM os).1)
    rcases f j s h1 with ⟨rfl, rfl, _⟩ | ⟨hj, h1'⟩
    · rcases f k s' h2 with ⟨rfl, rfl, _⟩ | ⟨hk, h2⟩
      · rfl
      · rw [if_pos rfl, if_neg hk] at q
        exact absurd q.symm (g k s' h2 o2)
    · rcases f k s' h2 with ⟨rfl, rfl, _⟩ | ⟨hk, h2'⟩
      · rw [if_pos rfl, if_neg hj] at q
        exact absurd q (g j s h1' o1)
      · rw [if_neg hj, if_neg hk] at q
        exact S.dj j k s s' h1' h2' o1 o2 q
def setOv (i : Nat) (x : PD) (ρ : Sto) : Sto := if ownD x then ρ.set i (.ov x) else ρ.set i (.d x)
theorem StS.setF (S : StS Γ H0 M0 M ad ρ σ H) (e : Same H H') (i : Nat) {v : V} {x : PD} (r : FrO Γ M H H' v x) : ∃ M' ad', StS Γ H0 M0 M' ad' (setOv i x ρ) (σ.set i (some v)) H' := by
  unfold setOv
  rcases r with ⟨o, r⟩ | ⟨o, p, hp, r⟩
  · rw [if_neg (by rw [o]; exact Bool.false_ne_true)]
    exact ⟨M, ad, (S.mono e).set i r⟩
  · rw [if_pos o]
    refine ⟨_, _, S.st.setO i hp e o r, S.ex.trans e, fun a m => .inl (S.sub a m), S.m0, fun a u m h => ?_, fun j s h os => ?_⟩
    · rcases m with m | rfl
      · exact S.old a u m h
      · have := S.ex _ _ h
        rw [hp] at this
        cases this
    · by_cases hj : j = i
      · subst hj
        rw [if_pos rfl]
        exact S.ex.free hp
      · rw [if_neg hj]
        rw [List.getElem?_set_ne (fun q => hj q.symm)] at h
        exact S.own j s h os
def mSetF (i : Nat) (me : Sto → R PD) : Sto → R Out := fun ρ => lift (me ρ) ρ fun x => .ok (.nx (setOv i x ρ))
theorem ts_setF {i : Nat} {D : Ends} (h : TSo Γ W (mSetF i me) D σ H) : tAsg (TFo Γ W me) (gName i) D σ H := by
  obtain ⟨H0, M0, M, ad, ρ, S, p⟩ := h
  exact ⟨M, ad, ρ, S.st, (PstS.lift S p).imp fun x H1 e1 ⟨S1, p1⟩ v r => by
    obtain ⟨M', ad', S2⟩ := S.setF e1 i r
    exact p1 M' ad' _ H1 S2⟩
theorem s_setF {i : Nat} {x : Str} {pos' : Pos} (hN : X.N.Nodup) (hi : X.N[i]? = some x) (hx : Loc X.env.scope x) (he : PE X e (TFo Γ W me)) (hs : swapsWith e (some (.Name x pos')) pos.line X.env = pure false := by rfl) (hf : X.fn x = true ∨ X.env.scope.names.lookup x = some .local := by first | exact .inl rfl | exact .inr rfl | assumption) :
    PS X (.Assign [.Name x pos'] e pos) (TSo Γ W (mSetF i me)) := ps_mono (ps_set hN hi hx he hs hf) fun D σ H h => ts_setF h
/-- x = [.. for ..] on one row, x a local -/
theorem s_setLc {i : Nat} {y : Str} {py : Pos} {elt tg iter : Expr} {ifs : List Expr} {scope : Scope} {own : List (Str × Nat)} {pos spos : Pos} {mi : Sto → R (List PD)} {t : Tg} {mt : Sto → R Bool} {me : Sto → R PD} (hc : X.calm = true) (hN : X.N.Nodup) (hy : X.N[i]? = some y) (hyl : X.env.scope.names.lookup y = some .local)
    (hsw : swapsWith (.ListComp elt [⟨tg, iter, ifs, 0⟩] scope pos) (some (.Name y py)) spos.line X.env = pure true) (hi : PI X tg iter (TIo Γ W mi)) (ok : BlkOk X.N X.env.scope scope own)
    (hg : ∀ (s : Shared) (H : Hp) (C : Addr) (cl : List (Str × Addr)) (fp : List Addr), PG (X.blk s H scope (compEnvC scope cl C X.env) fp) tg (gT Γ.K t)) (hts : ∀ (s : Shared) (H : Hp) (C : Addr) (cl : List (Str × Addr)) (fp : List Addr), PTs (X.blk s H scope (compEnvC scope cl C X.env) fp) ifs (TTo Γ WF mt))
    (he : ∀ (s : Shared) (H : Hp) (C : Addr) (cl : List (Str × Addr)) (fp : List Addr), PE (X.blk s H scope (compEnvC scope cl C X.env) fp) elt (TEo Γ WF me)) (ht : ∀ i, i ∈ t.idx → i ∈ own.map (·.2)) (hs : ∀ x, foldedSetIterable iter X.env x = pure x := by intro _; rfl) :
    PS X (.Assign [.Name y py] (.ListComp elt [⟨tg, iter, ifs, 0⟩] scope pos) spos) (TSo Γ W (mSetF i (mLc mi t (own.map (·.2)) mt me))) := ps_mono (ps_setLc hc hN hy hyl hsw hi ok hg hts he hs) fun D σ H h => by
  obtain ⟨H0, M0, M, ad, ρ, S, p⟩ := h
  exact tf_lc ht ⟨M, ad, ρ, S.st, (PstS.lift S p).imp fun x H1 e1 ⟨S1, p1⟩ v r => by
    obtain ⟨M', ad', S2⟩ := S.setF e1 i r
    exact p1 M' ad' _ H1 S2⟩
/-! return -/
theorem RetOk.pl (S : StS Γ H0 M0 M ad ρ σ H) {v : V} {x : PD} (r : Rp Γ (hid M H) v x) : RetOk Γ M0 H0 H v x false := by
  unfold RetOk
  rw [if_neg Bool.false_ne_true]
  exact r.mono (hid_weak S.sub)
def mRet (me : Sto → R PD) : Sto → R Out := fun ρ => lift (me ρ) ρ fun x => .ok (.rt x false)
theorem s_ret (he : PE X e (TEo Γ W me)) : PS X (.Return (some e) pos) (TSo Γ W (mRet me)) := ps_mono (ps_ret he) fun D σ H ⟨H0, M0, M, ad, ρ, S, p⟩ =>
  ⟨M, ad, ρ, S.st, (PstS.lift S p).imp fun x H1 e1 ⟨S1, p1⟩ v r => p1 v H1 S1.ex (RetOk.pl S1 r)⟩
def mRetN : Sto → R Out := fun _ => .ok (.rt .none false)
theorem s_retN : PS X (.Return none pos) (TSo Γ W mRetN) := ps_mono ps_retN fun D σ H ⟨H0, M0, M, ad, ρ, S, p⟩ => p _ H S.ex (RetOk.pl S .non)
/-- a fresh one -/
def mRetF (me : Sto → R PD) : Sto → R Out := fun ρ => lift (me ρ) ρ fun x => .ok (.rt x true)
theorem s_retF (he : PE X e (TFo Γ W me)) : PS X (.Return (some e) pos) (TSo Γ W (mRetF me)) := ps_mono (ps_ret he) fun D σ H ⟨H0, M0, M, ad, ρ, S, p⟩ =>
  ⟨M, ad, ρ, S.st, (PstS.lift S p).imp fun x H1 e1 ⟨S1, p1⟩ v r => p1 v H1 S1.ex (by
    unfold RetOk
    rw [if_pos rfl]
    rcases r with ⟨o, r⟩ | ⟨o, q, hq, r⟩
    · exact .inl ⟨o, r.mono (hid_weak S.sub)⟩
    · refine .inr ⟨o, q, S.ex.free hq, r.move (hid_weak fun a m => m.imp (S.sub a) id) fun _ => ⟨.inr rfl, fun _ z => z⟩⟩)⟩
/-- an owned slot handed back -/
def mRetO (i : Nat) : Sto → R Out := fun ρ => match ρ[i]? with
  | some (.ov x) => .ok (.rt x true)
  | some (.d x) => if ownD x then .stuck else .ok (.rt x true)
  | _ => .stuck
theorem s_retO (i : Nat) (he : PE X e (tVar i)) : PS X (.Return (some e) pos) (TSo Γ W (mRetO i)) := ps_mono (ps_ret he) fun D σ H ⟨H0, M0, M, ad, ρ, S, p⟩ => by
  unfold mRetO at p
  split at p
  · rename_i x e1
    obtain ⟨v, h1, h2⟩ := S.st.sl i _ e1
    refine ⟨v, h1, p v H S.ex ?_⟩
    unfold RetOk
    rw [if_pos rfl]
    cases o : ownD x with
    | false => exact .inl ⟨o, (h2.scal o).mono (hid_weak S.sub)⟩
    | true =>
      have hM := (h2.ownM o).1
      refine .inr ⟨o, ad i, S.own i _ e1 o, h2.move (hid_weak fun a m => ?_) fun _ => ⟨.inr rfl, fun _ z => z⟩⟩
      rcases m with m | rfl
      · exact S.sub a m
      · exact hM
  · rename_i x e1
    split at p
    · exact p.elim
    · rename_i o
      obtain ⟨v, h1, h2⟩ := S.st.sl i _ e1
      refine ⟨v, h1, p v H S.ex ?_⟩
      unfold RetOk
      rw [if_pos rfl]
      exact .inl ⟨by simpa using o, h2.mono (hid_weak S.sub)⟩
  · exact p.elim
/-! if -/
def mIfS (mt : Sto → R Bool) (m n : Sto → R Out) : Sto → R Out := fun ρ => lift (mt ρ) ρ fun b => if b then m ρ else n ρ
theorem s_if {c : Expr} {a b : List Stmt} {mt : Sto → R Bool} (hc : PT X c (TTo Γ W mt)) (ha : PSs X a (TSo Γ W m)) (hb : PSs X b (TSo Γ W n)) : PS X (.If c a b pos) (TSo Γ W (mIfS mt m n)) := ps_mono (ps_if hc ha hb) fun D σ H ⟨H0, M0, M, ad, ρ, S, p⟩ =>
  ⟨M, ad, ρ, S.st, (PstS.lift S p).imp fun x H1 e1 ⟨S1, p1⟩ => by
    cases x with
    | true => exact iteT ⟨H0, M0, M, ad, ρ, S1, p1⟩
    | false => exact iteF ⟨H0, M0, M, ad, ρ, S1, p1⟩⟩
/-! e alone; break, continue, pass -/
def mDrop (me : Sto → R PD) : Sto → R Out := fun ρ => lift (me ρ) ρ fun _ => .ok (.nx ρ)
theorem s_expr (he : PE X e (TEo Γ W me)) (hs : swapsWith e none pos.line X.env = pure false := by rfl) : PS X (.Expr e pos) (TSo Γ W (mDrop me)) := ps_mono (ps_expr he hs) fun D σ H ⟨H0, M0, M, ad, ρ, S, p⟩ =>
  ⟨M, ad, ρ, S.st, (PstS.lift S p).imp fun x H1 e1 ⟨S1, p1⟩ v r => p1 M ad σ H1 S1⟩
def mBk : Sto → R Out := fun ρ => .ok (.bk ρ)
def mCt : Sto → R Out := fun ρ => .ok (.ct ρ)
theorem s_break : PS X (.Break pos) (TSo Γ W mBk) := ps_mono ps_break fun D σ H ⟨H0, M0, M, ad, ρ, S, p⟩ => p M ad σ H S
theorem s_continue : PS X (.Continue pos) (TSo Γ W mCt) := ps_mono ps_continue fun D σ H ⟨H0, M0, M, ad, ρ, S, p⟩ => p M ad σ H S
theorem s_pass : PS X (.Pass pos) (TSo Γ W mNx) := ps_mono ps_pass fun D σ H ⟨H0, M0, M, ad, ρ, S, p⟩ => p M ad σ H S
def mNever : Sto → R Out := fun _ => .stuck
theorem s_never : PS X st (TSo Γ W mNever) := ps_mono ps_never fun D σ H ⟨H0, M0, M, ad, ρ, S, p⟩ => p.elim
/-! a, b = e -/
theorem StS.setTg (S : StS Γ H0 M0 M ad ρ σ H) {σ' : L2.St} (S' : Ste Γ M ad ρ' σ' H) (h : ∀ (i : Nat) (s : Sl), ρ'[i]? = some s → s.own = true → ρ[i]? = some s) : StS Γ H0 M0 M ad ρ' σ' H :=
  ⟨S', S.ex, S.sub, S.m0, S.old, fun i s e o => S.own i s (h i s e o) o⟩
mutual
theorem setT_own : ∀ (t : Tg) {d : PD} {ρ ρ' : Sto}, setT t d ρ = .ok ρ' → ∀ (i : Nat) (s : Sl), ρ'[i]? = some s → s.own = true → ρ[i]? = some s
  | .nm j, d, ρ, ρ', e, i, s, h, o => by
    simp only [setT] at e
    cases e
    by_cases hj : i = j
    · subst hj
      have hl : i < ρ.length := by
        have := (List.getElem?_eq_some_iff.mp h).1
        rwa [List.length_set] at this
      rw [List.getElem?_set_self hl] at h
      obtain rfl := Option.some.inj h
      cases o
    · rw [List.getElem?_set_ne (fun q => hj q.symm)] at h
      exact h
  | .tp l, d, ρ, ρ', e, i, s, h, o => by
    cases d with
    | tuple xs => simp only [setT] at e; exact setTs_own l e i s h o
    | _ => simp only [setT] at e; cases e
theorem setTs_own : ∀ (ts : List Tg) {ds : List PD} {ρ ρ' : Sto}, setTs ts ds ρ = .ok ρ' → ∀ (i : Nat) (s : Sl), ρ'[i]? = some s → s.own = true → ρ[i]? = some s
  | [], ds, ρ, ρ', e, i, s, h, o => by
    cases ds with
    | nil => simp only [setTs] at e; cases e; exact h
    | cons d r => simp only [setTs] at e; cases e
  | t :: ts, ds, ρ, ρ', e, i, s, h, o => by
    cases ds with
    | nil => simp only [setTs] at e; cases e
    | cons d r =>
      simp only [setTs] at e
      cases e1 : setT t d ρ with
      | stuck => rw [e1] at e; cases e
      | exc x => rw [e1] at e; cases e
      | ok ρ1 =>
        rw [e1] at e
        exact setT_own t e1 i s (setTs_own ts e i s h o) o
end
def mUnp (t : Tg) (me : Sto → R PD) : Sto → R Out := fun ρ => lift (me ρ) ρ fun x => match setT t x ρ with
  | .ok ρ' => .ok (.nx ρ')
  | _ => .stuck
theorem s_unp {tg : Expr} {t : Tg} (he : PE X e (TEo Γ W me)) (hg : PG X tg (gT Γ.K t)) (hs : swapsWithSole [tg] e pos.line X.env = pure false := by rfl) (hw : swappedStores [tg] e X.env = pure none := by rfl)
    (h1 : (assignEach [tg] X.env).map (·.2) = [assign tg X.env] := by rfl) : PS X (.Assign [tg] e pos) (TSo Γ W (mUnp t me)) := ps_mono (ps_asg he hg hs hw h1) fun D σ H ⟨H0, M0, M, ad, ρ, S, p⟩ =>
  ⟨M, ad, ρ, S.st, (PstS.lift S p).imp fun x H1 e1 ⟨S1, p1⟩ v r => by
    cases e2 : setT t x ρ with
    | stuck => rw [e2] at p1; exact p1.elim
    | exc z => rw [e2] at p1; exact p1.elim
    | ok ρ' =>
      rw [e2] at p1
      exact setT_ok t S1.st r e2 fun σ' S' ag => p1 M ad σ' H1 (S1.setTg S' (setT_own t e2))⟩
end
end Lilt

set_option Elab.async false
set_option linter.all false
set_option maxRecDepth 100000
set_option maxHeartbeats 2000000
set_option autoImplicit false
namespace Lilt
open PySem L2

section
variable {X : Cx} {Γ : Gm} {W : WX} {M M' M0 : Addr → Prop} {ad : Nat → Addr} {ρ ρ' : Sto} {σ : L2.St} {H H' H0 : Hp}
variable {st : Stmt} {rest : List Stmt} {m n : Sto → R Out} {pos : Pos} {e : Expr} {me : Sto → R PD}

/-! ## an owned thing changed -/
theorem Ste.mut (S : Ste Γ M ad ρ σ H) {i : Nat} {x y : PD} {o : HO} (e : ρ[i]? = some (.ov x)) (ox : ownD x = true) (r : RpO Γ M (upd H (ad i) o) (ad i) (.ref (ad i)) y) : Ste Γ M ad (ρ.set i (.ov y)) σ (upd H (ad i) o) := by
  have s0 := S.sl i _ e
  obtain ⟨mi, e0, u, hu⟩ := s0.ownM (show (Sl.ov x).own = true from ox)
  have hl : i < ρ.length := (List.getElem?_eq_some_iff.mp e).1
  have f : ∀ (j : Nat) (s : Sl), (ρ.set i (.ov y))[j]? = some s → (j = i ∧ s = .ov y) ∨ (j ≠ i ∧ ρ[j]? = some s) := fun j s h => by
    by_cases hj : j = i
    · subst hj
      rw [List.getElem?_set_self hl] at h
      exact .inl ⟨rfl, (Option.some.inj h).symm⟩
    · rw [List.getElem?_set_ne (fun q => hj q.symm)] at h
      exact .inr ⟨hj, h⟩
  have g : ∀ (j : Nat) (s : Sl), j ≠ i → ρ[j]? = some s → s.own = true → ad j ≠ ad i := fun j s hj h os q => hj (S.dj j i s _ h e os ox q)
  refine ⟨fun a m => ?_, by rw [List.length_set]; exact S.len, fun j s h => ?_, fun j k s s' h1 h2 o1 o2 q => ?_⟩
  · by_cases ha : a = ad i
    · subst ha; exact ⟨o, upd_same⟩
    · rw [upd_ne ha]; exact S.in_ a m
  · rcases f j s h with ⟨rfl, rfl⟩ | ⟨hj, h⟩
    · exact ⟨_, e0, r⟩
    · exact (S.sl j s h).move (hid_upd mi) fun os => ⟨((S.sl j s h).ownM os).1, fun u q => by rw [upd_ne (g j s hj h os)]; exact q⟩
  · rcases f j s h1 with ⟨rfl, rfl⟩ | ⟨hj, h1'⟩
    · rcases f k s' h2 with ⟨rfl, rfl⟩ | ⟨hk, h2'⟩
      · rfl
      · exact absurd q.symm (g k s' hk h2' o2)
    · rcases f k s' h2 with ⟨rfl, rfl⟩ | ⟨hk, h2'⟩
      · exact absurd q (g j s hj h1' o1)
      · exact S.dj j k s s' h1' h2' o1 o2 q
theorem StS.mut (S : StS Γ H0 M0 M ad ρ σ H) {i : Nat} {x y : PD} {o : HO} (e : ρ[i]? = some (.ov x)) (ox : ownD x = true) (r : RpO Γ M (upd H (ad i) o) (ad i) (.ref (ad i)) y) : StS Γ H0 M0 M ad (ρ.set i (.ov y)) σ (upd H (ad i) o) := by
  refine ⟨S.st.mut e ox r, fun a u h => ?_, S.sub, S.m0, S.old, fun j s h os => ?_⟩
  · have : a ≠ ad i := fun q => by rw [q, S.own i _ e ox] at h; cases h
    rw [upd_ne this]
    exact S.ex a u h
  · by_cases hj : j = i
    · subst hj
      exact S.own j _ e ox
    · rw [List.getElem?_set_ne (fun q => hj q.symm)] at h
      exact S.own j s h os
def mApp (i : Nat) (me : Sto → R PD) : Sto → R Out := fun ρ => match ρ[i]? with
  | some (.ov (.list ds)) => lift (me ρ) ρ fun x => if ds.length < sizeLine then .ok (.nx (ρ.set i (.ov (.list (ds ++ [x]))))) else .stuck
  | _ => .stuck
theorem s_app (i : Nat) {o : Expr} {apos cpos : Pos} (hK : X.K = Γ.K) (ho : PE X o (tVar i)) (he : PE X e (TEo Γ W me)) (hs : swapsWith (.Call (.Attribute o "append" apos) [e] [] cpos) none pos.line X.env = pure false := by rfl)
    (hbase : attributeBase o "append" X.env (eval o X.env) = eval o X.env := by rfl)
    (hfew : ((backTo cpos (starEach [e] X.env)).all (fun x => !x.1) && (backToKw cpos (keywordEach [] X.env)).all (fun x => x.1.isSome)
      && decide (([e] : List Expr).length + ([] : List Keyword).length + (if ([] : List Keyword).isEmpty then 0 else 1) < 30)) = true := by rfl)
    (hline : (apos.endLine == cpos.line) = true := by rfl) (hst : starEach [e] X.env = (false, eval e X.env) :: starEach [] X.env := by rfl) (hplain : (backTo cpos (starEach [] X.env)).any (·.1) = false := by rfl) :
    PS X (.Expr (.Call (.Attribute o "append" apos) [e] [] cpos) pos) (TSo Γ W (mApp i me)) :=
  ps_mono (ps_expr (pe_bm PySem.F.plainAttrs_list PySem.F.slot_list_append PySem.F.type_list_append mt_append ho (ea_cons (Γ := Γ) (W := W) he ea_nil hst) hbase hfew hline hst hplain) hs) fun D σ H ⟨H0, M0, M, ad, ρ, S, p⟩ => by
    unfold mApp at p
    split at p
    · rename_i ds e1
      obtain ⟨v, h1, h2⟩ := S.st.sl i _ e1
      obtain ⟨rfl, hM, vs, h3, h4⟩ := h2
      refine ⟨_, h1, .inl ⟨rfl, vs, SqL.of h3⟩, M, ad, ρ, S.st, ?_⟩
      have p1 := PstS.lift S p
      cases e2 : me ρ with
      | stuck => rw [e2] at p1; exact p1.elim
      | exc z => rw [e2] at p1; simp only [mCons, e2]; exact p1
      | ok x =>
        rw [e2] at p1
        simp only [mCons, mNil, e2]
        intro H1 e3 ws rw_
        obtain ⟨v, rfl, r⟩ := rw_.one
        obtain ⟨S1, p1⟩ := p1 H1 e3
        split at p1
        · refine ⟨ad i, vs, v, rfl, rfl, e3 _ _ h3, by rw [h4.length]; assumption, p1 M ad σ _ (S1.mut e1 rfl ⟨rfl, hM, _, upd_same, ?_⟩)⟩
          exact ((h4.mono (hid_same e3)).append (.cons r .nil)).mono (hid_upd hM)
        · exact p1.elim
    · exact p.elim

/-! ## loops -/
open Classical in
noncomputable def reb (ρ : Sto) (ad : Nat → Addr) (H : Hp) : Hp := fun a => if ∃ (i : Nat) (s : Sl), ρ[i]? = some s ∧ s.own = true ∧ ad i = a then none else H a
def rebM (ρ : Sto) (ad : Nat → Addr) (M : Addr → Prop) : Addr → Prop := fun a => M a ∧ ¬ ∃ (i : Nat) (s : Sl), ρ[i]? = some s ∧ s.own = true ∧ ad i = a
theorem reb_some {a : Addr} {o : HO} (h : reb ρ ad H a = some o) : (¬ ∃ (i : Nat) (s : Sl), ρ[i]? = some s ∧ s.own = true ∧ ad i = a) ∧ H a = some o := by
  unfold reb at h
  split at h
  · cases h
  · exact ⟨by assumption, h⟩
theorem reb_of {a : Addr} {o : HO} (n : ¬ ∃ (i : Nat) (s : Sl), ρ[i]? = some s ∧ s.own = true ∧ ad i = a) (h : H a = some o) : reb ρ ad H a = some o := by
  unfold reb
  rw [if_neg n]
  exact h
theorem StS.rebase (S : StS Γ H0 M0 M ad ρ σ H) : StS Γ (reb ρ ad H) (rebM ρ ad M) M ad ρ σ H := by
  refine ⟨S.st, fun a o h => (reb_some h).2, fun a m => m.1, fun a m => ?_, fun a o m h => ⟨m, (reb_some h).1⟩, fun i s h os => ?_⟩
  · obtain ⟨o, h⟩ := S.st.in_ a m.1
    exact ⟨o, reb_of m.2 h⟩
  · unfold reb
    rw [if_pos ⟨i, s, h, os, rfl⟩]
theorem StS.rebF (S : StS Γ H0 M0 M ad ρ σ H) : Same (hid M H) (hid (rebM ρ ad M) (reb ρ ad H)) := fun a o h => by
  obtain ⟨n, h⟩ := hid_some h
  refine hid_of (fun m => n m.1) (reb_of ?_ h)
  rintro ⟨i, s, h1, h2, rfl⟩
  exact n ((S.st.sl i s h1).ownM h2).1
theorem StS.reb0 (S : StS Γ H0 M0 M ad ρ σ H) : Same H0 (reb ρ ad H) ∧ ∀ a, M0 a → rebM ρ ad M a := by
  have k : ∀ a o, H0 a = some o → ¬ ∃ (i : Nat) (s : Sl), ρ[i]? = some s ∧ s.own = true ∧ ad i = a := by
    rintro a o h ⟨i, s, h1, h2, rfl⟩
    rw [S.own i s h1 h2] at h
    cases h
  refine ⟨fun a o h => reb_of (k a o h) (S.ex a o h), fun a m => ⟨S.sub a m, ?_⟩⟩
  obtain ⟨o, h⟩ := S.m0 a m
  exact k a o h
theorem StS.unreb (S : StS Γ H0 M0 M ad ρ σ H) {M2 : Addr → Prop} {ad2 : Nat → Addr} {ρ2 : Sto} {σ2 : L2.St} {H2 : Hp} (T : StS Γ (reb ρ ad H) (rebM ρ ad M) M2 ad2 ρ2 σ2 H2) : StS Γ H0 M0 M2 ad2 ρ2 σ2 H2 := by
  obtain ⟨k1, k2⟩ := S.reb0
  refine ⟨T.st, k1.trans T.ex, fun a m => T.sub a (k2 a m), S.m0, fun a o m h => S.old a o (T.old a o m (k1 a o h)).1 h, fun i s h os => ?_⟩
  exact k1.free (T.own i s h os)
theorem PstO.reb (S : StS Γ H0 M0 M ad ρ σ H) {D : Ends} {o : Out} (p : PstO Γ W H0 M0 D o) : PstO Γ W (Lilt.reb ρ ad H) (rebM ρ ad M) D o := by
  obtain ⟨k1, k2⟩ := S.reb0
  cases o with
  | nx ρ' => exact fun M' ad' σ' H' T => p M' ad' σ' H' (S.unreb T)
  | bk ρ' => exact fun M' ad' σ' H' T => p M' ad' σ' H' (S.unreb T)
  | ct ρ' => exact fun M' ad' σ' H' T => p M' ad' σ' H' (S.unreb T)
  | ex x ρ' => exact fun M' ad' σ' H' cls dx T q => p M' ad' σ' H' cls dx (S.unreb T) q
  | rt x b =>
    refine fun v H' e r => p v H' (k1.trans e) ?_
    unfold RetOk at r ⊢
    cases b with
    | false =>
      rw [if_neg Bool.false_ne_true] at r ⊢
      exact r.mono (hid_weak k2)
    | true =>
      rw [if_pos rfl] at r ⊢
      rcases r with ⟨o, r⟩ | ⟨o, q, hq, r⟩
      · exact .inl ⟨o, r.mono (hid_weak k2)⟩
      · exact .inr ⟨o, q, k1.free hq, r.move (hid_weak fun a m => m.imp (k2 a) id) fun _ => ⟨.inr rfl, fun _ z => z⟩⟩
theorem PstS.reb (S : StS Γ H0 M0 M ad ρ σ H) {D : Ends} {r : R Out} (p : PstS Γ W H0 M0 D r) : PstS Γ W (Lilt.reb ρ ad H) (rebM ρ ad M) D r := by
  cases r with
  | ok o => exact PstO.reb S p
  | _ => exact p.elim
def forD (t : Tg) (mb : Sto → R Out) : List PD → Sto → R Out
  | [], ρ => .ok (.nx ρ)
  | d :: ds, ρ => match setT t d ρ with
    | .ok ρ1 => match mb ρ1 with
      | .ok (.nx ρ2) => forD t mb ds ρ2
      | .ok (.ct ρ2) => forD t mb ds ρ2
      | .ok (.bk ρ2) => .ok (.nx ρ2)
      | r => r
    | _ => .stuck
def mFor (mi : Sto → R (List PD)) (t : Tg) (mb : Sto → R Out) : Sto → R Out := fun ρ => lift (mi ρ) ρ fun ds => forD t mb ds ρ
theorem s_for {tg iter : Expr} {body : List Stmt} {mi : Sto → R (List PD)} {t : Tg} {mb : Sto → R Out} (hp : PassesOwn (model X.prog X.w) X.A X.env X.xe) (hc : X.calm = true) (hi : PI X tg iter (TIo Γ W mi)) (hg : PG X tg (gT Γ.K t)) (hb : PSs X body (TSo Γ W mb))
    (hs : ∀ x, foldedSetIterable iter X.env x = pure x := by intro _; rfl) : PS X (.For tg iter body [] pos) (TSo Γ W (mFor mi t mb)) := ps_mono (ps_for hp hc hi hg hb hs) fun D σ H ⟨H0, M0, M, ad, ρ, S, p⟩ => by
  refine ⟨M, ad, ρ, S.st, (PstS.lift S p).imp fun ds H1 e1 ⟨S1, p1⟩ J hJ => ?_⟩
  obtain ⟨G, Y, w, hG, hY⟩ := hJ.ex
  have R1 := S1.rebase
  have p2 : PstS Γ W _ _ D (forD t mb ds ρ) := PstS.reb S1 p1
  have F1 := S1.rebF
  refine for_it w (fun i σ' H' => ∃ M' ad' ρ', StS Γ (reb ρ ad H1) (rebM ρ ad M) M' ad' ρ' σ' H' ∧ PstS Γ W (reb ρ ad H1) (rebM ρ ad M) D (forD t mb (ds.drop i) ρ')) ?_ ?_ ?_ ?_
  · exact ⟨M, ad, ρ, R1, by rw [List.drop_zero]; exact p2⟩
  · rintro i σ' H' _ ⟨M', ad', ρ', T, _⟩
    exact hG H' fun a o q => hid_le _ _ a o (T.base a o (F1 a o q))
  · rintro i x σ' H2 H3 hi ⟨M', ad', ρ', T, q⟩ y
    have hdi : ds[i]? = some ds[i] := List.getElem?_eq_getElem hi
    obtain ⟨e3, rx⟩ := hY i H2 x H3 M' _ y T.st.in_ (F1.trans T.base) hdi
    rw [List.drop_eq_getElem_cons hi] at q
    simp only [forD] at q
    cases e4 : setT t ds[i] ρ' with
    | stuck => rw [e4] at q; exact q.elim
    | exc z => rw [e4] at q; exact q.elim
    | ok ρ1 =>
      rw [e4] at q
      have T3 := T.mono e3
      refine setT_ok t T3.st rx e4 fun σ2 S2 _ => ⟨_, _, M', ad', ρ1, T3.setTg S2 (setT_own t e4), ?_⟩
      cases e5 : mb ρ1 with
      | stuck => simp only [e5] at q; exact q.elim
      | exc z => simp only [e5] at q; exact q.elim
      | ok o =>
        cases o with
        | nx ρ2 => simp only [e5] at q; exact fun M4 ad4 σ4 H4 T4 => ⟨M4, ad4, ρ2, T4, q⟩
        | ct ρ2 => simp only [e5] at q; exact fun M4 ad4 σ4 H4 T4 => ⟨M4, ad4, ρ2, T4, q⟩
        | bk ρ2 => simp only [e5] at q; exact q
        | rt x b => simp only [e5] at q; exact q
        | ex x ρ2 => simp only [e5] at q; exact q
  · rintro σ' H' ⟨M', ad', ρ', T, q⟩
    rw [List.drop_eq_nil_of_le (Nat.le_refl _)] at q
    exact q M' ad' σ' H' T
def whD (mt : Sto → R Bool) (mb : Sto → R Out) : Nat → Sto → R Out
  | 0, _ => .stuck
  | n + 1, ρ => lift (mt ρ) ρ fun b => if b then
      match mb ρ with
      | .ok (.nx ρ2) => whD mt mb n ρ2
      | .ok (.ct ρ2) => whD mt mb n ρ2
      | .ok (.bk ρ2) => .ok (.nx ρ2)
      | r => r
    else .ok (.nx ρ)
theorem s_while {c : Expr} {body : List Stmt} {mt : Sto → R Bool} {mb : Sto → R Out} (fuel : Nat) (hp : PassesOwn (model X.prog X.w) X.A X.env X.xe) (hc : PT X c (TTo Γ W mt)) (hb : PSs X body (TSo Γ W mb)) : PS X (.While c body [] pos) (TSo Γ W (whD mt mb fuel)) :=
  ps_mono (ps_while hp hc hb) fun D σ H ⟨H0, M0, M, ad, ρ, S, p⟩ => by
    refine ⟨fun k σ' H' => ∃ M' ad' ρ', StS Γ H0 M0 M' ad' ρ' σ' H' ∧ PstS Γ W H0 M0 D (whD mt mb k ρ'), ⟨fuel, M, ad, ρ, S, p⟩, ?_⟩
    rintro k σ' H' ⟨M', ad', ρ', T, q⟩
    cases k with
    | zero => exact q.elim
    | succ k =>
      simp only [whD] at q
      refine ⟨M', ad', ρ', T.st, (PstS.lift T q).imp fun b H1 e1 ⟨T1, q1⟩ => ?_⟩
      cases b with
      | false =>
        rw [if_neg Bool.false_ne_true] at q1
        exact iteF (q1 M' ad' σ' H1 T1)
      | true =>
        rw [if_pos rfl] at q1
        refine iteT ⟨fun σ2 H2 => ∃ M' ad' ρ', StS Γ H0 M0 M' ad' ρ' σ2 H2 ∧ PstS Γ W H0 M0 D (whD mt mb k ρ'), fun σ2 H2 h => ⟨k, Nat.lt_succ_self k, h⟩, H0, M0, M', ad', ρ', T1, ?_⟩
        cases e5 : mb ρ' with
        | stuck => simp only [e5] at q1; exact q1.elim
        | exc z => simp only [e5] at q1; exact q1.elim
        | ok o =>
          cases o with
          | nx ρ2 => simp only [e5] at q1; exact fun M4 ad4 σ4 H4 T4 => ⟨M4, ad4, ρ2, T4, q1⟩
          | ct ρ2 => simp only [e5] at q1; exact fun M4 ad4 σ4 H4 T4 => ⟨M4, ad4, ρ2, T4, q1⟩
          | bk ρ2 => simp only [e5] at q1; exact q1
          | rt x b => simp only [e5] at q1; exact q1
          | ex x ρ2 => simp only [e5] at q1; exact q1
end

/-! ## a def -/
def args0 (n : Nat) (ds : List PD) : Sto := ds.map Sl.d ++ List.replicate (n - ds.length) Sl.un
def endF : R Out → R PD
  | .ok (.nx _) => .ok .none
  | .ok (.rt x _) => .ok x
  | .ok (.ex x _) => .exc x
  | _ => .stuck
def endFr : R Out → R PD
  | .ok (.nx _) => .ok .none
  | .ok (.rt x true) => .ok x
  | .ok (.rt x false) => if ownD x then .stuck else .ok x
  | .ok (.ex x _) => .exc x
  | _ => .stuck
def runF (n : Nat) (m : Sto → R Out) (ds : List PD) : R PD := endF (m (args0 n ds))
def runFr (n : Nat) (m : Sto → R Out) (ds : List PD) : R PD := endFr (m (args0 n ds))
section
variable {Γ : Gm} {P : Program} {w : World} {K : PySem.W.Frag} {mg : Str → Option Value} {base : Heap}
theorem start_ok {M : Addr → Prop} {H : Hp} {N : List Str} {vs : List V} {ds : List PD} (i : InM M H) (r : RpA Γ (hid M H) vs ds) (hl : vs.length ≤ N.length) : StS Γ H M M (fun _ => 0) (args0 N.length ds) (L2.start N vs) H := by
  have hn : ∀ (j : Nat) (s : Sl), (args0 N.length ds)[j]? = some s → s = .un ∨ ∃ d, s = .d d ∧ ds[j]? = some d := fun j s h => by
    unfold args0 at h
    by_cases hj : j < ds.length
    · rw [List.getElem?_append_left (by rw [List.length_map]; exact hj), List.getElem?_map] at h
      cases e : ds[j]? with
      | none => rw [e] at h; cases h
      | some d => rw [e] at h; exact .inr ⟨d, (Option.some.inj h).symm, rfl⟩
    · rw [List.getElem?_append_right (by rw [List.length_map]; omega)] at h
      obtain ⟨h1, h2⟩ := List.getElem?_eq_some_iff.mp h
      rw [List.getElem_replicate] at h2
      exact .inl h2.symm
  refine ⟨⟨i, ?_, fun j s h => ?_, fun j k s s' h1 h2 o1 o2 q => ?_⟩, Same.refl H, fun a m => m, i, fun a o m h => m, fun j s h o => ?_⟩
  · unfold args0 L2.start
    rw [List.length_append, List.length_append, List.length_map, List.length_map, List.length_replicate, List.length_replicate, r.length]
  · rcases hn j s h with rfl | ⟨d, rfl, e⟩
    · trivial
    · obtain ⟨v, h1, h2⟩ := r.get e
      have hj : j < vs.length := (List.getElem?_eq_some_iff.mp h1).1
      refine ⟨v, ?_, h2⟩
      unfold L2.start
      rw [List.getElem?_append_left (by rw [List.length_map]; exact hj), List.getElem?_map, h1]
      rfl
  · rcases hn j s h1 with rfl | ⟨d, rfl, e⟩ <;> cases o1
  · rcases hn j s h with rfl | ⟨d, rfl, e⟩ <;> cases o
theorem fn_ok {x qual : Str} {st : Stmt} {f : Addr} {fd : FuncData} {N ps : List Str} {k : Nat} {m : Sto → R Out} {n np : Nat} {g : List PD → R PD} (hg : g = runF n m) (hn : N.length = n) (hp : ps.length = np) (F : Fun K x qual st f fd) (S : FnScope N ps (defScope st)) (hl : ps.length ≤ N.length)
    (body : ∀ (cdv : Value) (A : Around) (outer : List Env) (s : Shared) (H : Hp) (E : XK), Room k (A.deeper (PyProof.Rows.envOfC qual (defScope st) s.heap.objs.size f cdv)) → PSs (cxOf (L2.CX P w) P w K mg base N qual (defScope st) f cdv A outer s H E) (defBody st) (TSo Γ (fun cls d _ H => E cls d H) m)) :
    FnOk P w K mg base (L2.CX P w) (k + 1) f fd ps (spOf Γ np g) := by
  subst hg hn hp
  refine F.okX S (fun vs H Q E h => h.1) fun cdv A outer s H vs Q E hr h => ?_
  obtain ⟨hv, M, ds, i, r, h⟩ := h
  refine ⟨_, body cdv A outer s H E hr, H, M, M, _, _, start_ok i r (by omega), ?_⟩
  unfold runF at h
  cases e : m (args0 N.length ds) with
  | stuck => rw [e] at h; exact h.elim
  | exc z => rw [e] at h; exact h.elim
  | ok o =>
    rw [e] at h
    cases o with
    | nx ρ => exact fun M' ad' σ' H' T => h .non H' T.ex .non
    | rt x b =>
      refine fun v H' e2 q => h v H' e2 ?_
      unfold RetOk at q
      cases b with
      | false => rwa [if_neg Bool.false_ne_true] at q
      | true => rw [if_pos rfl] at q; exact q.rp i
    | bk ρ => exact h.elim
    | ct ρ => exact h.elim
    | ex x ρ => exact fun M' ad' σ' H' cls dx T q => h cls dx H' T.ex q
theorem fn_okFr {x qual : Str} {st : Stmt} {f : Addr} {fd : FuncData} {N ps : List Str} {k : Nat} {m : Sto → R Out} {n np : Nat} {g : List PD → R PD} (hg : g = runFr n m) (hn : N.length = n) (hp : ps.length = np) (F : Fun K x qual st f fd) (S : FnScope N ps (defScope st)) (hl : ps.length ≤ N.length)
    (body : ∀ (cdv : Value) (A : Around) (outer : List Env) (s : Shared) (H : Hp) (E : XK), Room k (A.deeper (PyProof.Rows.envOfC qual (defScope st) s.heap.objs.size f cdv)) → PSs (cxOf (L2.CX P w) P w K mg base N qual (defScope st) f cdv A outer s H E) (defBody st) (TSo Γ (fun cls d _ H => E cls d H) m)) :
    FnOk P w K mg base (L2.CX P w) (k + 1) f fd ps (spFr Γ np g) := by
  subst hg hn hp
  refine F.okX S (fun vs H Q E h => h.1) fun cdv A outer s H vs Q E hr h => ?_
  obtain ⟨hv, M, ds, i, r, h⟩ := h
  refine ⟨_, body cdv A outer s H E hr, H, M, M, _, _, start_ok i r (by omega), ?_⟩
  unfold runFr at h
  cases e : m (args0 N.length ds) with
  | stuck => rw [e] at h; exact h.elim
  | exc z => rw [e] at h; exact h.elim
  | ok o =>
    rw [e] at h
    cases o with
    | nx ρ => exact fun M' ad' σ' H' T => h .non H' T.ex (.inl ⟨rfl, .non⟩)
    | rt x b =>
      refine fun v H' e2 q => ?_
      unfold RetOk at q
      cases b with
      | false =>
        rw [if_neg Bool.false_ne_true] at q
        simp only [endFr] at h
        cases ox : ownD x with
        | true => rw [if_pos ox] at h; exact h.elim
        | false => rw [if_neg (by rw [ox]; exact Bool.false_ne_true)] at h; exact h v H' e2 (.inl ⟨ox, q⟩)
      | true => rw [if_pos rfl] at q; exact h v H' e2 q
    | bk ρ => exact h.elim
    | ct ρ => exact h.elim
    | ex x ρ => exact fun M' ad' σ' H' cls dx T q => h cls dx H' T.ex q
/-- where a def of the text stands -/
structure DefAt (K : PySem.W.Frag) (mg : Str → Option Value) (x : Str) (st : Stmt) (ps : List Str) (f : Addr) (fd : FuncData) : Prop where
  fn : Fun K x x st f fd
  bi : Binds K fd ps []
  at_ : mg x = some (.ref f)
/-- the law's def: from its mirror's answer -/
theorem law_imp {k : Nat} {f : Addr} {fd : FuncData} {ps : List Str} {g : List PD → R PD} (F : FnOk P w K mg base (L2.CX P w) k f fd ps (spOf Γ 1 g)) (hK : K = Γ.K) (h : ∀ ns : List Int, ns.length ≤ 63 → g [.list (ns.map PyData.int)] = .ok (.bool true)) :
    FnOk P w K mg base (L2.CX P w) k f fd ps (fun vs H Q _ => ∃ (a : Addr) (ns : List Int), vs = [.ref a] ∧ SqL K H a (ns.map V.int) ∧ ns.length ≤ 63 ∧ ∀ H', Q (.bl true) H') := F.imp fun vs H Q E ⟨a, ns, e, hS, hl, q⟩ => by
  subst e
  refine ⟨rfl, fun _ => False, [.list (ns.map PyData.int)], fun _ z => z.elim, .cons (.lst (xs := ns.map V.int) ?_ (RpA.ints ns)) .nil, ?_⟩
  · rw [← hK]
    refine sqL_same (fun b o z => hid_of (fun z => z) z) hS
  · rw [h ns hl]
    exact fun v H' _ r => by rw [r.bl_of]; exact q H'
end
end Lilt

set_option Elab.async false
set_option linter.all false
set_option maxRecDepth 100000
set_option maxHeartbeats 2000000
set_option autoImplicit false
namespace Lilt
open PySem L2
section
variable {X : Cx} {Γ : Gm} {W : WX} {M M' M0 : Addr → Prop} {ad : Nat → Addr} {ρ ρ' : Sto} {σ : L2.St} {H H' H0 : Hp}
theorem hu65 {k : Nat} (hr : Room k X.A) : X.A.units + 65 < cLine := by have := hr.un; omega
theorem hu1 {k : Nat} (hr : Room k X.A) : X.A.units + 1 < cLine := by have := hr.un; omega
theorem hu9 {k : Nat} (hr : Room k X.A) : X.A.units + 9 < cLine := by have := hr.un; omega
/-! in: a list, a tuple, a text -/
def inA (x y : PD) : R PD := match y with
  | .list _ => inL x y
  | .tuple _ => inU x y
  | .str _ => inS x y
  | _ => .stuck
def notinA (x y : PD) : R PD := notR (inA x y)
def rInA (K : PySem.W.Frag) : R2 := fun x y H Q => rInD K x y H Q ∨ rInU K x y H Q ∨ ∃ i j, x = .str i ∧ y = .str j ∧ Q (.bl (!(Builtin.Str.occurrences j i 0 j.length 1).isEmpty)) H
def rNotinA (K : PySem.W.Frag) : R2 := fun x y H Q => rNotInD K x y H Q ∨ rNotInU K x y H Q ∨ ∃ i j, x = .str i ∧ y = .str j ∧ Q (.bl (!(!(Builtin.Str.occurrences j i 0 j.length 1).isEmpty))) H
theorem op_inA (hu : X.A.units + 65 < cLine) : OpR X (compareOp .In) (rInA X.K) := (op_inD hu).or ((op_inU hu).or op_in_str)
theorem op_notinA (hu : X.A.units + 65 < cLine) : OpR X (compareOp .NotIn) (rNotinA X.K) := (op_notInD hu).or ((op_notInU hu).or op_notin_str)
theorem s_inA : OpS Γ W (rInA Γ.K) inA := by
  intro M σ H Q v w x y i rv rw_ p
  cases y with
  | list ys => exact .inl (s_inL M σ H Q v w x _ i rv rw_ p)
  | tuple ys => exact .inr (.inl (s_inU M σ H Q v w x _ i rv rw_ p))
  | str ys => exact .inr (.inr (s_inS M σ H Q v w x _ i rv rw_ p))
  | _ => exact p.elim
theorem s_notinA : OpS Γ W (rNotinA Γ.K) notinA := by
  intro M σ H Q v w x y i rv rw_ p
  cases y with
  | list ys => exact .inl (s_ninL M σ H Q v w x _ i rv rw_ p)
  | tuple ys => exact .inr (.inl (s_ninU M σ H Q v w x _ i rv rw_ p))
  | str ys => exact .inr (.inr (s_ninS M σ H Q v w x _ i rv rw_ p))
  | _ => exact p.elim
/-! slices -/
def cutD {A : Type} (xs : List A) (lo hi : Option Int) : List A := (xs.drop (HT.sIx xs.length 0 lo)).take (HT.sIx xs.length xs.length hi - HT.sIx xs.length 0 lo)
theorem RpA.cut {F : Hp} {vs : List V} {ds : List PD} (r : RpA Γ F vs ds) (lo hi : Option Int) : RpA Γ F (cutV vs lo hi) (cutD ds lo hi) := by
  unfold cutV cutD
  rw [r.length]
  exact (r.drop _).take _
def TPo (Γ : Gm) (W : WX) (m : Sto → R (Option Int)) : TO := fun σ H Q => ∃ M ad ρ, Ste Γ M ad ρ σ H ∧ Pst Γ W σ H (fun o H' => Q o H') (m ρ)
theorem po_mono {e : Option Expr} {t t' : TO} (h : PO X e t) (k : ∀ σ H Q, t' σ H Q → t σ H Q) : PO X e t' := ⟨fun pins s σ H Q I x => h.run pins s σ H Q I (k σ H Q x)⟩
def mNoPart : Sto → R (Option Int) := fun _ => .ok none
def mPart (m : Sto → R PD) : Sto → R (Option Int) := fun ρ => do
  match ← m ρ with
  | .int i => pure (some i)
  | _ => .stuck
theorem eo_none : PO X none (TPo Γ W mNoPart) := po_mono po_none fun σ H Q ⟨_, _, _, _, p⟩ => p.now
theorem eo_some {e : Expr} {m : Sto → R PD} (h : PE X e (TEo Γ W m)) : PO X (some e) (TPo Γ W (mPart m)) := po_mono (po_some h) fun σ H Q ⟨M, ad, ρ, S, p⟩ => ⟨M, ad, ρ, S, p.bind.imp fun a H1 e1 x1 v rv => by
  cases a with
  | int i => exact ⟨i, rv.int_of, x1.now⟩
  | _ => exact x1.elim⟩
def sliceD (x : PD) (lo hi : Option Int) : R PD := match x with
  | .list xs => .ok (.list (cutD xs lo hi))
  | .tuple xs => .ok (.tuple (cutD xs lo hi))
  | .str z => if z.length ≤ sizeLine then .ok (.str (cutS z lo hi)) else .stuck
  | _ => .stuck
def mSlice (m : Sto → R PD) (lo hi : Sto → R (Option Int)) : Sto → R PD := fun ρ => do
  let x ← m ρ
  let l ← lo ρ
  let h ← hi ρ
  sliceD x l h
def rSlice (K : PySem.W.Frag) : V → Option Int → Option Int → Hp → VK → Prop := fun x lo hi H Q => rSlL K x lo hi H Q ∨ rSlA K x lo hi H Q ∨ rSlS x lo hi H Q
theorem sl_any : SlR X (rSlice X.K) := sl_list.or (sl_tupA.or sl_str)
theorem cut_whole {A : Type} {xs : List A} {lo hi : Option Int} (h : HT.sIx xs.length 0 lo = 0 ∧ HT.sIx xs.length xs.length hi = xs.length) : cutD xs lo hi = xs := by
  unfold cutD
  rw [h.1, h.2, List.drop_zero, Nat.sub_zero, List.take_length]
theorem ef_slice {e : Expr} {lo hi : Option Expr} {p2 pos : Pos} {m : Sto → R PD} {ml mh : Sto → R (Option Int)} (hK : X.K = Γ.K) (he : PE X e (TEo Γ W m)) (hl : PO X lo (TPo Γ W ml)) (hu : PO X hi (TPo Γ W mh)) :
    PE X (.Subscript e (.Slice lo hi none p2) pos) (TFo Γ W (mSlice m ml mh)) := pe_mono (pe_slice sl_any he hl hu) fun σ H Q ⟨M, ad, ρ, S, p⟩ => by
  rw [hK]
  refine ⟨M, ad, ρ, S, p.bind.imp fun x H1 e1 x1 v rv => ⟨M, ad, ρ, S.mono e1, x1.bind.imp fun l H2 e2 x2 => ⟨M, ad, ρ, (S.mono e1).mono e2, x2.bind.imp fun h H3 e3 x3 => ?_⟩⟩⟩
  have e4 := (e1.trans e2).trans e3
  have i := (S.mono e4).in_
  have rv := rv.mono (hid_same (e2.trans e3))
  cases x with
  | list xs =>
    obtain ⟨a, vs, rfl, h1, h2⟩ := rv.lst_of
    exact .inl ⟨a, vs, rfl, sqL_same (hid_le M H3) h1, fun q hq => x3 _ (same_new hq) _ (.inr ⟨rfl, q, e4.free hq, insM_hid hq (Same.refl H3) (h2.cut l h)⟩)⟩
  | tuple xs =>
    obtain ⟨a, vs, rfl, h1, h2⟩ := id rv.tup_of
    refine .inr (.inl ⟨a, vs, rfl, sqT_same (hid_le M H3) h1, fun hw => ?_, fun _ q hq => ?_⟩)
    · have x4 := x3.now
      rw [h2.length] at hw
      rw [cut_whole hw] at x4
      exact x4 _ (.inl ⟨rfl, rv⟩)
    · exact x3 _ (same_new hq) _ (.inl ⟨rfl, .tup (SqT.of (hid_new i hq)) ((h2.cut l h).mono (hid_same (same_new hq)))⟩)
  | str z =>
    simp only [sliceD] at x3
    split at x3
    · exact .inr (.inr ⟨z, rv.str_of, by assumption, x3.now _ (.inl ⟨rfl, .str _⟩)⟩)
    · exact x3.elim
  | _ => exact x3.elim
/-! join -/
def strsD : List PD → Option (List Str)
  | [] => some []
  | .str x :: xs => (strsD xs).map (x :: ·)
  | _ :: _ => none
def joinD (x y : PD) : R PD := match x, y with
  | .str a, .list xs => match strsD xs with
    | some ys => if (ys.map (·.length)).sum + ys.length * a.length ≤ 16777216 then .ok (.str (Txt.join a ys)) else .stuck
    | none => .stuck
  | .str a, .tuple xs => match strsD xs with
    | some ys => if (ys.map (·.length)).sum + ys.length * a.length ≤ 16777216 then .ok (.str (Txt.join a ys)) else .stuck
    | none => .stuck
  | _, _ => .stuck
theorem RpA.strs {F : Hp} : ∀ {vs : List V} {ds : List PD} {ys : List Str}, RpA Γ F vs ds → strsD ds = some ys → vs = ys.map V.str
  | _, _, _, .nil, e => by cases e; rfl
  | _, _, ys, .cons (d := d) (ds := ds) h r, e => by
    cases d with
    | str x =>
      simp only [strsD] at e
      cases e2 : strsD ds with
      | none => rw [e2] at e; cases e
      | some zs =>
        rw [e2] at e
        obtain rfl : x :: zs = ys := Option.some.inj e
        rw [h.str_of, RpA.strs r e2]
        rfl
    | _ => simp only [strsD] at e; cases e
def mJoin (mo me : Sto → R PD) : Sto → R PD := fun ρ => do
  match ← mo ρ with
  | .str a => do joinD (.str a) (← me ρ)
  | _ => .stuck
theorem ee_join {o e : Expr} {apos pos : Pos} {mo me : Sto → R PD} (hK : X.K = Γ.K) (ho : PE X o (TEo Γ W mo)) (he : PE X e (TEo Γ W me)) (hs : starEach [e] X.env = [(false, eval e X.env)] := by rfl) (hbase : attributeBase o "join" X.env (eval o X.env) = eval o X.env := by rfl) (hline : (apos.endLine == pos.line) = true := by rfl) :
    PE X (.Call (.Attribute o "join" apos) [e] [] pos) (TEo Γ W (mJoin mo me)) := pe_mono (pe_join ho he hs hbase hline) fun σ H Q ⟨M, ad, ρ, S, p⟩ => by
  rw [hK]
  refine ⟨M, ad, ρ, S, p.bind.imp fun x H1 e1 x1 v rv => ?_⟩
  cases x with
  | str a =>
    have x1 : Pst Γ W σ H1 (fun d H' => ∀ v, Rp Γ (hid M H') v d → Q v H') (me ρ >>= fun y => joinD (.str a) y) := x1
    rw [rv.str_of]
    refine ⟨⟨a, rfl⟩, M, ad, ρ, S.mono e1, x1.bind.imp fun y H2 e2 x2 w rw_ => ?_⟩
    cases y with
    | list xs =>
      simp only [joinD] at x2
      split at x2
      · rename_i ys e3
        split at x2
        · obtain ⟨q, vs, rfl, h1, h2⟩ := rw_.lst_of
          rw [h2.strs e3] at h1
          exact ⟨a, q, ys, rfl, rfl, .inl (sqL_same (hid_le M H2) h1), by assumption, x2.now _ (.str _)⟩
        · exact x2.elim
      · exact x2.elim
    | tuple xs =>
      simp only [joinD] at x2
      split at x2
      · rename_i ys e3
        split at x2
        · obtain ⟨q, vs, rfl, h1, h2⟩ := rw_.tup_of
          rw [h2.strs e3] at h1
          exact ⟨a, q, ys, rfl, rfl, .inr (sqT_same (hid_le M H2) h1), by assumption, x2.now _ (.str _)⟩
        · exact x2.elim
      · exact x2.elim
    | _ => exact x2.elim
  | _ => exact x1.elim
/-! text * int -/
def mulS (x y : PD) : R PD := match x, y with
  | .str z, .int n => if 0 ≤ n ∧ n ≤ 100000 ∧ z.length * n.toNat ≤ 100000 then .ok (.str ⟨(List.replicate n.toNat z.cps.toList).flatten.toArray⟩) else .stuck
  | _, _ => .stuck
theorem s_mulS : OpS Γ W rMulS mulS := by
  intro M σ H Q v w x y i rv rw_ p
  cases x with
  | str z =>
    cases y with
    | int n =>
      rw [rv.str_of, rw_.int_of]
      simp only [mulS] at p
      split at p
      · rename_i h
        exact ⟨z, n, rfl, rfl, h.1, h.2.1, h.2.2, p.now _ (.str _)⟩
      · exact p.elim
    | _ => exact p.elim
  | _ => exact p.elim
/-! is, is not: None, or two truths -/
def isA (x y : PD) : R PD := match x, y with
  | .bool a, .bool b => .ok (.bool (decide (a = b)))
  | _, _ => .stuck
def isnotA (x y : PD) : R PD := match x, y with
  | .bool a, .bool b => .ok (.bool (!decide (a = b)))
  | _, _ => .stuck
theorem s_isA : OpS Γ W (fun x y H Q => ∃ a b, x = .bl a ∧ y = .bl b ∧ Q (.bl (decide (a = b))) H) isA := by
  intro M σ H Q v w x y i rv rw_ p
  cases x with
  | bool a =>
    cases y with
    | bool b => exact ⟨a, b, rv.bl_of, rw_.bl_of, p.now _ (.bl _)⟩
    | _ => exact p.elim
  | _ => exact p.elim
theorem s_isnotA : OpS Γ W (fun x y H Q => ∃ a b, x = .bl a ∧ y = .bl b ∧ Q (.bl (!decide (a = b))) H) isnotA := by
  intro M σ H Q v w x y i rv rw_ p
  cases x with
  | bool a =>
    cases y with
    | bool b => exact ⟨a, b, rv.bl_of, rw_.bl_of, p.now _ (.bl _)⟩
    | _ => exact p.elim
  | _ => exact p.elim
/-! two comparisons in a row -/
def mChain (f g : PD → PD → R PD) (ma mb mc : Sto → R PD) : Sto → R PD := fun ρ => do
  let x ← ma ρ
  let y ← mb ρ
  match ← f x y with
  | .bool true => do let z ← mc ρ; g y z
  | .bool false => pure (.bool false)
  | _ => .stuck
theorem te_chain {r r' : R2} {f g : PD → PD → R PD} {ma mb mc : Sto → R PD} (h : OpS Γ W r f) (h' : OpS Γ W r' g) {Q : VK} (p : TEo Γ W (mChain f g ma mb mc) σ H Q) : tChain r r' (TEo Γ W ma) (TEo Γ W mb) (TEo Γ W mc) σ H Q := by
  obtain ⟨M, ad, ρ, S, p⟩ := p
  refine ⟨M, ad, ρ, S, p.bind.imp fun x H1 e1 x1 v rv => ⟨M, ad, ρ, S.mono e1, x1.bind.imp fun y H2 e2 x2 w rw_ => ?_⟩⟩
  have S2 := S.mono (e1.trans e2)
  refine h M σ H2 _ v w x y S2.in_ (rv.mono (hid_same e2)) rw_ (x2.bind.imp fun b H3 e3 x3 u ru => ?_)
  cases b with
  | bool b =>
    cases b with
    | false => exact ⟨false, ru.bl_of, iteF (x3.now _ (.bl _))⟩
    | true => exact ⟨true, ru.bl_of, iteT ⟨M, ad, ρ, S2.mono e3, x3.bind.imp fun z H4 e4 x4 s rs => h' M σ H4 Q w s y z ((S2.mono e3).mono e4).in_ (rw_.mono (hid_same (e3.trans e4))) rs x4⟩⟩
  | _ => exact x3.elim
theorem ee_chain {a b c : Expr} {op op' : CmpOp} {pos : Pos} {r r' : R2} {f g : PD → PD → R PD} {ma mb mc : Sto → R PD} (ho : OpR X (compareOp op) r) (h : OpS Γ W r f) (ho' : OpR X (compareOp op') r') (h' : OpS Γ W r' g) (ha : PE X a (TEo Γ W ma)) (hb : PE X b (TEo Γ W mb)) (hc : PE X c (TEo Γ W mc)) (hm : lastMarks [op, op'] [b, c] = false := by rfl) :
    PE X (.Compare a [op, op'] [b, c] pos) (TEo Γ W (mChain f g ma mb mc)) := pe_mono (pe_chain ho ho' ha hb hc hm) fun _ _ Q x => te_chain h h' x
theorem et_chain {a b c : Expr} {op op' : CmpOp} {pos : Pos} {r r' : R2} {f g : PD → PD → R PD} {ma mb mc : Sto → R PD} (ho : OpR X (compareOp op) r) (h : OpS Γ W r f) (ho' : OpR X (compareOp op') r') (h' : OpS Γ W r' g) (ha : PE X a (TEo Γ W ma)) (hb : PE X b (TEo Γ W mb)) (hc : PE X c (TEo Γ W mc)) (hm : lastMarks [op, op'] [b, c] = false := by rfl) :
    PT X (.Compare a [op, op'] [b, c] pos) (TTo Γ W (mBool (mChain f g ma mb mc))) := pt_mono (pt_chain ho ho' ha hb hc hm) fun σ H Q ⟨M, ad, ρ, S, p⟩ => te_chain h h' ⟨M, ad, ρ, S, p.bind.imp fun b H1 e1 x1 v rv => by
  cases b with
  | bool b => exact ⟨b, rv.bl_of, x1.now⟩
  | _ => exact x1.elim⟩
/-! list(v), v owned and still needed -/
def mListO (i : Nat) : Sto → R PD := fun ρ => match ρ[i]? with
  | some (.ov (.list xs)) => .ok (.list xs)
  | _ => .stuck
theorem ef_listO (i : Nat) {p : Pos} {e : Expr} {pos : Pos} (hK : X.K = Γ.K) (hm : X.mg "list" = none) (he : PE X e (tVar i)) (hg : Gl X "list" := by rfl)
    (hs : starEach (e :: []) X.env = (false, eval e X.env) :: starEach [] X.env := by rfl) (hpl : (backTo pos (starEach [] X.env)).any (·.1) = false := by rfl) : PE X (.Call (.Name "list" p) [e] [] pos) (TFo Γ W (mListO i)) :=
  pe_mono (pe_callTy call_list_of hg hm (by decide +kernel) (pa_cons he pa_nil hs) (by decide) (by decide) hs hpl) fun σ H Q ⟨M, ad, ρ, S, p⟩ => by
    rw [hK]
    unfold mListO at p
    split at p
    · rename_i ds e1
      obtain ⟨v, h1, h2⟩ := S.sl i _ e1
      obtain ⟨rfl, hM, vs, h3, h4⟩ := h2
      exact ⟨_, h1, ad i, vs, rfl, .inl (SqL.of h3), fun l hl => p _ (same_new hl) _ (.inr ⟨rfl, l, hl, insM_hid hl (Same.refl H) h4⟩)⟩
    · exact p.elim
/-! a fresh value kept as data in a local that a comprehension is given to -/
def mSetFd (i : Nat) (me : Sto → R PD) : Sto → R Out := fun ρ => lift (me ρ) ρ fun x => .ok (.nx (ρ.set i (.d x)))
theorem s_setFd {i : Nat} {st : Stmt} {me : Sto → R PD} (h : PS X st (TSo Γ W (mSetF i me))) : PS X st (TSo Γ W (mSetFd i me)) := ps_mono h fun D σ H ⟨H0, M0, M, ad, ρ, S, p⟩ => by
  refine ⟨H0, M0, M, ad, ρ, S, ?_⟩
  unfold mSetFd at p
  unfold mSetF
  cases e : me ρ with
  | stuck => rw [e] at p; exact p.elim
  | exc x => rw [e] at p; exact p
  | ok x =>
    rw [e] at p
    intro M' ad' σ' H' T
    have T' := T
    unfold setOv at T
    split at T
    · rename_i o
      obtain ⟨M2, T2⟩ := T.frz i
      by_cases hl : i < ρ.length
      · have e1 : frz i (ρ.set i (.ov x)) = ρ.set i (.d x) := by
          unfold frz
          rw [List.getElem?_set_self hl]
          show (ρ.set i (.ov x)).set i (.d x) = _
          rw [List.set_set]
        rw [e1] at T2
        exact p M2 ad' σ' H' T2
      · have e1 : ∀ s : Sl, ρ.set i s = ρ := fun s => List.set_eq_of_length_le (by omega)
        rw [e1] at T
        have p := p M' ad' σ' H'
        rw [e1] at p
        exact p T
    · exact p M' ad' σ' H' T
/-! tuple(reversed(t)) -/
end
end Lilt

set_option Elab.async false
set_option linter.all false
set_option maxRecDepth 100000
set_option maxHeartbeats 2000000
set_option autoImplicit false
namespace Lilt
open PySem L2
section
variable {X : Cx} {Γ : Gm} {W : WX} {M M' M0 : Addr → Prop} {ad : Nat → Addr} {ρ ρ' : Sto} {σ : L2.St} {H H' H0 : Hp}

/-! ## dicts as data -/
def isTag : List (PD × PD) → Bool
  | (.none, _) :: _ => true
  | (.bool _, _) :: _ => true
  | _ => false
def keyOf : PD → Option Key
  | .int i => some (.inl i)
  | .str x => some (.inr x)
  | _ => none
theorem keyOf_some {d : PD} {k : Key} (h : keyOf d = some k) : d = keyD k := by
  cases d with
  | int i => cases h; rfl
  | str i => cases h; rfl
  | _ => cases h
def lookD (ds : List (PD × PD)) (k : PD) : Option PD := (ds.find? fun p => PyData.eqv p.1 k).map (·.2)
def putD (ds : List (PD × PD)) (k v : PD) : List (PD × PD) := if (lookD ds k).isSome then ds.map fun p => if PyData.eqv p.1 k then (p.1, v) else p else ds ++ [(k, v)]
def dropD (ds : List (PD × PD)) (k : PD) : List (PD × PD) := ds.filter fun p => !PyData.eqv p.1 k
theorem eqv_keyD (a b : Key) : PyData.eqv (keyD a) (keyD b) = decide (a = b) := by
  cases a <;> cases b <;> simp [keyD, PyData.eqv, Bool.beq_eq_decide_eq]
theorem Rp.dik_of {F : Hp} {v : V} {ds : List (PD × PD)} (h : Rp Γ F v (.dict ds)) (n : isTag ds = false) : ∃ a kvs, v = .ref a ∧ Rd F a (.dK kvs) ∧ RpK Γ F kvs ds := by
  cases h with
  | dik h r => exact ⟨_, _, rfl, h, r⟩
  | din h r => cases n
  | obj h r => cases n
theorem RpK.tag {F : Hp} {kvs : List (Key × V)} {ds : List (PD × PD)} (h : RpK Γ F kvs ds) : isTag ds = false := by
  cases h with
  | nil => rfl
  | @cons k v d vs ds h r => cases k <;> rfl
theorem RpK.length {F : Hp} : ∀ {kvs : List (Key × V)} {ds : List (PD × PD)}, RpK Γ F kvs ds → kvs.length = ds.length
  | _, _, .nil => rfl
  | _, _, .cons _ r => by rw [List.length_cons, List.length_cons, RpK.length r]
theorem RpK.look {F : Hp} (k : Key) : ∀ {kvs : List (Key × V)} {ds : List (PD × PD)}, RpK Γ F kvs ds → (valV kvs k = none ∧ lookD ds (keyD k) = none) ∨ ∃ v d, valV kvs k = some v ∧ lookD ds (keyD k) = some d ∧ Rp Γ F v d
  | _, _, .nil => .inl ⟨rfl, rfl⟩
  | _, _, .cons (k := j) (v := v) (d := d) (vs := vs) (ds := ds) h r => by
    by_cases e : j = k
    · subst e
      refine .inr ⟨v, d, valV_pos rfl, ?_, h⟩
      unfold lookD
      rw [List.find?_cons_of_pos (by simp [eqv_keyD])]
      rfl
    · have e1 : valV ((j, v) :: vs) k = valV vs k := valV_neg e
      have e2 : lookD ((keyD j, d) :: ds) (keyD k) = lookD ds (keyD k) := by
        unfold lookD
        rw [List.find?_cons_of_neg (by simp [eqv_keyD, e])]
      rw [e1, e2]
      exact RpK.look k r
theorem RpK.put {F : Hp} (k : Key) {v : V} {d : PD} (hv : Rp Γ F v d) {kvs : List (Key × V)} {ds : List (PD × PD)} (r : RpK Γ F kvs ds) : RpK Γ F (putK kvs k v) (putD ds (keyD k) d) := by
  have hm : ∀ {kvs : List (Key × V)} {ds : List (PD × PD)}, RpK Γ F kvs ds → RpK Γ F (kvs.map fun kv => if kv.1 = k then (kv.1, v) else kv) (ds.map fun p => if PyData.eqv p.1 (keyD k) then (p.1, d) else p) := by
    intro kvs
    induction kvs with
    | nil => intro ds r; cases r; exact .nil
    | cons kv kvs ih =>
      intro ds r
      cases r with
      | @cons j u e vs es h r =>
        rw [List.map_cons, List.map_cons]
        by_cases q : j = k
        · rw [if_pos q, if_pos (by simp [eqv_keyD, q])]
          exact .cons hv (ih r)
        · rw [if_neg q, if_neg (by simp [eqv_keyD, q])]
          exact .cons h (ih r)
  have ha : ∀ {kvs : List (Key × V)} {ds : List (PD × PD)}, RpK Γ F kvs ds → RpK Γ F (kvs ++ [(k, v)]) (ds ++ [(keyD k, d)]) := by
    intro kvs
    induction kvs with
    | nil => intro ds r; cases r; exact .cons hv .nil
    | cons kv kvs ih =>
      intro ds r
      cases r with
      | cons h r => exact .cons h (ih r)
  unfold putK putD
  rw [valV_any]
  rcases r.look k with ⟨h1, h2⟩ | ⟨u, e, h1, h2, _⟩
  · rw [h1, h2]
    exact ha r
  · rw [h1, h2]
    exact hm r
theorem RpK.drop {F : Hp} (k : Key) : ∀ {kvs : List (Key × V)} {ds : List (PD × PD)}, RpK Γ F kvs ds → RpK Γ F (dropK kvs k) (dropD ds (keyD k))
  | _, _, .nil => .nil
  | _, _, .cons (k := j) (v := v) (d := d) (vs := vs) (ds := ds) h r => by
    unfold dropK dropD
    by_cases e : j = k
    · rw [List.filter_cons_of_neg (by simp [e]), List.filter_cons_of_neg (by simp [eqv_keyD, e])]
      exact RpK.drop k r
    · rw [List.filter_cons_of_pos (by simp [e]), List.filter_cons_of_pos (by simp [eqv_keyD, e])]
      exact .cons h (RpK.drop k r)
theorem RpK.keys {F : Hp} : ∀ {kvs : List (Key × V)} {ds : List (PD × PD)}, RpK Γ F kvs ds → ds.map (·.1) = kvs.map fun kv => keyD kv.1
  | _, _, .nil => rfl
  | _, _, .cons _ r => by rw [List.map_cons, List.map_cons, RpK.keys r]
theorem rp_kV {F : Hp} (k : Key) : Rp Γ F (kV k) (keyD k) := by cases k <;> first | exact .int _ | exact .str _
theorem Rp.kV_of {F : Hp} {v : V} {k : Key} (h : Rp Γ F v (keyD k)) : v = kV k := by
  cases k with
  | inl i => exact h.int_of
  | inr x => exact h.str_of

/-! d[k], k in d -/
def dgetK (x y : PD) : R PD := match x with
  | .dict ds => if isTag ds then .stuck else match keyOf y with
    | some _ => match lookD ds y with
      | some d => .ok d
      | none => .stuck
    | none => .stuck
  | _ => .stuck
def dinK (y x : PD) : R PD := match x with
  | .dict ds => if isTag ds then .stuck else match keyOf y with
    | some _ => .ok (.bool (lookD ds y).isSome)
    | none => .stuck
  | _ => .stuck
def dnotinK (y x : PD) : R PD := notR (dinK y x)
theorem rd_le {F F' : Hp} {a : Addr} {u : HO} (e : Same F F') (h : Rd F a u) : Rd F' a u := rd_same e h
variable {a b c : Expr} {pos : Pos} {ma mb mc : Sto → R PD}
theorem ee_dgetK (hu : X.A.units + 1 < cLine) (ha : PE X a (TEo Γ W ma)) (hb : PE X b (TEo Γ W mb)) (hs : NoSl b := by exact fun _ _ => rfl) : PE X (.Subscript a b pos) (TEo Γ W (mBin dgetK ma mb)) := pe_mono (pe_dget hu ha hb hs) fun σ H Q ⟨M, ad, ρ, S, p⟩ =>
  ⟨M, ad, ρ, S, p.bind.imp fun x H1 e1 x1 v rv => ⟨M, ad, ρ, S.mono e1, x1.bind.imp fun y H2 e2 x2 w rw_ => by
    cases x with
    | dict ds =>
      simp only [dgetK] at x2
      split at x2
      · exact x2.elim
      · rename_i nt
        split at x2
        · rename_i k hk
          obtain ⟨q, kvs, rfl, h1, h2⟩ := rv.dik_of (by simpa using nt)
          obtain rfl := keyOf_some hk
          rw [rw_.kV_of]
          rcases h2.look k with ⟨h3, h4⟩ | ⟨u, e, h3, h4, h5⟩
          · rw [h4] at x2; exact x2.elim
          · rw [h4] at x2
            exact ⟨q, u, rfl, .inl ⟨kvs, k, rd_same (e2) (rd_same (hid_le M H1) h1), rfl, h3.symm⟩, x2.now _ (h5.mono (hid_same e2))⟩
        · exact x2.elim
    | _ => exact x2.elim⟩⟩
theorem tdin {neg : Bool} {Q : VK} (p : TEo Γ W (mBin (if neg then dnotinK else dinK) mb ma) σ H Q) : (if neg then tDNotIn else tDIn) (TEo Γ W mb) (TEo Γ W ma) σ H Q := by
  obtain ⟨M, ad, ρ, S, p⟩ := p
  have key : ∀ (f : PD → PD → R PD) (g : Bool → Bool), (f = fun y x => match dinK y x with | .ok (.bool t) => .ok (.bool (g t)) | .exc z => .exc z | _ => .stuck) → Pst Γ W σ H (fun d H' => ∀ v, Rp Γ (hid M H') v d → Q v H') (mBin f mb ma ρ) →
      TEo Γ W mb σ H fun y H1 => TEo Γ W ma σ H1 fun x H2 => ∃ a o, x = .ref a ∧ DGet H2 a y o ∧ Q (.bl (g o.isSome)) H2 := by
    intro f g hf p
    subst hf
    refine ⟨M, ad, ρ, S, p.bind.imp fun y H1 e1 x1 w rw_ => ⟨M, ad, ρ, S.mono e1, x1.bind.imp fun x H2 e2 x2 v rv => ?_⟩⟩
    cases x with
    | dict ds =>
      simp only [dinK] at x2
      by_cases nt : isTag ds = true
      · rw [if_pos nt] at x2; exact x2.elim
      · rw [if_neg nt] at x2
        cases hk : keyOf y with
        | none => rw [hk] at x2; exact x2.elim
        | some k =>
          rw [hk] at x2
          obtain ⟨q, kvs, rfl, h1, h2⟩ := rv.dik_of (by simpa using nt)
          obtain rfl := keyOf_some hk
          rw [rw_.kV_of]
          refine ⟨q, valV kvs k, rfl, .inl ⟨kvs, k, rd_same (hid_le M H2) h1, rfl, rfl⟩, ?_⟩
          have e3 : (lookD ds (keyD k)).isSome = (valV kvs k).isSome := by
            rcases h2.look k with ⟨h3, h4⟩ | ⟨u, e, h3, h4, h5⟩ <;> rw [h3, h4] <;> rfl
          have x3 := x2.now
          have x3 := x3 (.bl (g (lookD ds (keyD k)).isSome)) (.bl _)
          rw [e3] at x3
          exact x3
    | _ => exact x2.elim
  cases neg with
  | false =>
    refine key dinK id ?_ p
    funext y x
    cases h : dinK y x with
    | ok d => cases d <;> first | rfl | (simp only [dinK] at h; split at h; (split at h; cases h; (split at h <;> cases h)); cases h)
    | _ => rfl
  | true =>
    refine key dnotinK (fun t => !t) ?_ p
    funext y x
    unfold dnotinK notR
    cases h : dinK y x with
    | ok d => cases d <;> rfl
    | _ => rfl
theorem ee_dinK (hu : X.A.units + 1 < cLine) (hb : PE X b (TEo Γ W mb)) (ha : PE X a (TEo Γ W ma)) (h1 : behindInMarks .In a = false := by rfl) : PE X (.Compare b [.In] [a] pos) (TEo Γ W (mBin dinK mb ma)) := pe_mono (pe_cmp (pc_din hu hb ha) h1) fun σ H Q p => tdin (neg := false) p
theorem ee_dnotinK (hu : X.A.units + 1 < cLine) (hb : PE X b (TEo Γ W mb)) (ha : PE X a (TEo Γ W ma)) (h1 : behindInMarks .NotIn a = false := by rfl) : PE X (.Compare b [.NotIn] [a] pos) (TEo Γ W (mBin dnotinK mb ma)) := pe_mono (pe_cmp (pc_dnotin hu hb ha) h1) fun σ H Q p => tdin (neg := true) p
theorem toB {m : Sto → R PD} {Q : Bool → Hp → Prop} (p : TTo Γ W (mBool m) σ H Q) : TEo Γ W m σ H fun x H1 => ∃ c, x = .bl c ∧ Q c H1 := by
  obtain ⟨M, ad, ρ, S, p⟩ := p
  exact ⟨M, ad, ρ, S, p.bind.imp fun d H1 e1 x1 v rv => by
    cases d with
    | bool b => exact ⟨b, rv.bl_of, x1.now⟩
    | _ => exact x1.elim⟩
theorem et_dinK (hu : X.A.units + 1 < cLine) (hb : PE X b (TEo Γ W mb)) (ha : PE X a (TEo Γ W ma)) (h1 : behindInMarks .In a = false := by rfl) : PT X (.Compare b [.In] [a] pos) (TTo Γ W (mBool (mBin dinK mb ma))) := pt_mono (pt_cmp (pc_din hu hb ha) h1) fun σ H Q p => tdin (neg := false) (toB p)
theorem et_dnotinK (hu : X.A.units + 1 < cLine) (hb : PE X b (TEo Γ W mb)) (ha : PE X a (TEo Γ W ma)) (h1 : behindInMarks .NotIn a = false := by rfl) : PT X (.Compare b [.NotIn] [a] pos) (TTo Γ W (mBool (mBin dnotinK mb ma))) := pt_mono (pt_cmp (pc_dnotin hu hb ha) h1) fun σ H Q p => tdin (neg := true) (toB p)
/-! d.get(k, x) -/
def isDK : PD → Bool
  | .dict ds => !isTag ds
  | _ => false
def getdK (x y z : PD) : R PD := match x with
  | .dict ds => match keyOf y with
    | some _ => .ok ((lookD ds y).getD z)
    | none => .stuck
  | _ => .stuck
def mGetdK (ma mb mc : Sto → R PD) : Sto → R PD := fun ρ => do
  let x ← ma ρ
  if isDK x then do
    let y ← mb ρ
    let z ← mc ρ
    getdK x y z
  else .stuck
theorem ee_dgetdK {apos cpos : Pos} (hu : X.A.units + 1 < cLine) (ha : PE X a (TEo Γ W ma)) (hb : PE X b (TEo Γ W mb)) (hc : PE X c (TEo Γ W mc)) (m : M2 X a "get" apos b c cpos := by exact ⟨rfl, rfl, rfl, rfl⟩) :
    PE X (.Call (.Attribute a "get" apos) [b, c] [] cpos) (TEo Γ W (mGetdK ma mb mc)) := pe_mono (pe_dget2 hu ha hb hc m) fun σ H Q ⟨M, ad, ρ, S, p⟩ =>
  ⟨M, ad, ρ, S, p.bind.imp fun x H1 e1 x1 v rv => by
    by_cases hx : isDK x = true
    · rw [if_pos hx] at x1
      cases x with
      | dict ds =>
        obtain ⟨q, kvs, rfl, h1, h2⟩ := rv.dik_of (by simpa [isDK] using hx)
        refine ⟨q, rfl, .inl ⟨kvs, rd_same (hid_le M H1) h1⟩, M, ad, ρ, S.mono e1, x1.bind.imp fun y H2 e2 x2 w rw_ => ⟨M, ad, ρ, (S.mono e1).mono e2, x2.bind.imp fun z H3 e3 x3 u ru => ?_⟩⟩
        simp only [getdK] at x3
        cases hk : keyOf y with
        | none => rw [hk] at x3; exact x3.elim
        | some k =>
          rw [hk] at x3
          obtain rfl := keyOf_some hk
          rw [rw_.kV_of]
          refine ⟨valV kvs k, .inl ⟨kvs, k, rd_same (e2.trans e3) (rd_same (hid_le M H1) h1), rfl, rfl⟩, ?_⟩
          rcases h2.look k with ⟨h3, h4⟩ | ⟨u', e, h3, h4, h5⟩
          · rw [h4] at x3; rw [h3]; exact x3.now _ ru
          · rw [h4] at x3; rw [h3]; exact x3.now _ (h5.mono (hid_same (e2.trans e3)))
      | _ => cases hx
    · rw [if_neg hx] at x1; exact x1.elim⟩
/-! {} and {k: v} -/
theorem ef_dnewK : PE X (.Dict [] [] pos) (TFo Γ W (mC (.dict []))) := pe_mono pe_dnewK fun σ H Q ⟨M, ad, ρ, S, p⟩ q hq => p _ (same_new hq) _ (.inr ⟨rfl, q, hq, rfl, .inr rfl, .inl ⟨[], upd_same, .nil⟩⟩)
def ddisp1K (k v : PD) : R PD := match keyOf k with
  | some _ => .ok (.dict [(k, v)])
  | none => .stuck
theorem ef_ddisp1K {k v : Expr} {mk mv : Sto → R PD} (hk : PE X k (TEo Γ W mk)) (hv : PE X v (TEo Γ W mv)) : PE X (.Dict [some k] [v] pos) (TFo Γ W (mBin ddisp1K mk mv)) :=
  pe_mono (pe_disp (pps_cons hk hv pps_nil) (by rfl) (by rfl) (by intro z; cases z) (show 1 ≤ 15 by decide)) fun σ H Q ⟨M, ad, ρ, S, p⟩ q hq => by
    have S1 : Ste Γ (insM M q) ad ρ σ (upd H q (.dK [])) := S.more hq (same_new hq) upd_same
    cases e1 : mk ρ with
    | stuck => simp only [mBin, e1] at p; exact p.elim
    | exc z =>
      simp only [mBin, e1] at p
      refine ⟨insM M q, ad, ρ, S1, ?_⟩
      rw [e1]
      exact fun cls dx H' e => p cls dx H' ((same_new hq).trans e)
    | ok x =>
      simp only [mBin, e1, R.bind_ok] at p
      refine ⟨insM M q, ad, ρ, S1, ?_⟩
      rw [e1]
      intro H1 e2 v rv
      refine ⟨insM M q, ad, ρ, S1.mono e2, ?_⟩
      cases e3 : mv ρ with
      | stuck => rw [e3] at p; exact p.elim
      | exc z =>
        rw [e3] at p
        exact fun cls dx H' e => p cls dx H' (((same_new hq).trans e2).trans e)
      | ok y =>
        rw [e3] at p
        have p : Pst Γ W σ H (fun d H' => ∀ v, FrO Γ M H H' v d → Q v H') (ddisp1K x y) := p
        intro H2 e4 w rw_
        unfold ddisp1K at p
        cases hk : keyOf x with
        | none => rw [hk] at p; exact p.elim
        | some k =>
          rw [hk] at p
          obtain rfl := keyOf_some hk
          have eq1 : H2 q = some (.dK []) := e4 _ _ (e2 _ _ upd_same)
          refine ⟨eq1, [(k, w)], by rw [rv.kV_of]; rfl, (show 1 ≤ 15 by decide), ?_⟩
          refine p _ (fun a o h => ?_) _ (.inr ⟨rfl, q, hq, rfl, .inr rfl, .inl ⟨[(k, w)], upd_same, .cons (rw_.mono (hid_upd (.inr rfl))) .nil⟩⟩)
          rw [upd_ne (ne_of_none h hq)]
          exact e4 _ _ (e2 _ _ (same_new hq _ _ h))
/-! d[k] = v, d an owned local -/
def mDputK (i : Nat) (mx mv : Sto → R PD) : Sto → R Out := fun ρ => match ρ[i]? with
  | some (.ov (.dict ds)) => lift (mv ρ) ρ fun v => lift (mx ρ) ρ fun k => match keyOf k with
    | some _ => if isTag ds then .stuck else if ds.length < sizeLine then .ok (.nx (ρ.set i (.ov (.dict (putD ds k v))))) else .stuck
    | none => .stuck
  | _ => .stuck
theorem putD_own {ds : List (PD × PD)} {k v : PD} : ownD (.dict (putD ds k v)) = true := rfl
theorem s_dputK (i : Nat) {o x value : Expr} {pos' : Pos} {mx mv : Sto → R PD} (hu : X.A.units + 1 < cLine) (ho : PE X o (tVar i)) (hx : PE X x (TEo Γ W mx)) (hv : PE X value (TEo Γ W mv)) (hs : swapsWith value (some (.Subscript o x pos')) pos.line X.env = pure false := by rfl) :
    PS X (.Assign [.Subscript o x pos'] value pos) (TSo Γ W (mDputK i mx mv)) := ps_mono (ps_dput hu ho hx hv hs) fun D σ H ⟨H0, M0, M, ad, ρ, S, p⟩ => by
  unfold mDputK at p
  split at p
  · rename_i ds e0
    refine ⟨M, ad, ρ, S.st, (PstS.lift S p).imp fun v H1 e1 ⟨S1, p1⟩ vv rv => ?_⟩
    obtain ⟨v0, h1, h2⟩ := S1.st.sl i _ e0
    obtain ⟨rfl, hM, h3⟩ := id h2
    refine ⟨_, h1, M, ad, ρ, S1.st, (PstS.lift S1 p1).imp fun k H2 e2 ⟨S2, p2⟩ kv rk => ?_⟩
    cases hk : keyOf k with
    | none => rw [hk] at p2; exact p2.elim
    | some kk =>
      rw [hk] at p2
      obtain rfl := keyOf_some hk
      rw [rk.kV_of]
      by_cases nt : isTag ds = true
      · simp only [nt, if_true] at p2; exact p2.elim
      · simp only [nt, Bool.false_eq_true, if_false] at p2
        by_cases hl : ds.length < sizeLine
        · rw [if_pos hl] at p2
          rcases h3 with ⟨kvs, h3, h4⟩ | ⟨xs, es, rfl, h3, h4⟩
          · refine ⟨ad i, _, rfl, .inl ⟨kvs, kk, e2 _ _ h3, rfl, by rw [h4.length]; exact hl, rfl⟩, p2 M ad σ _ (S2.mut (x := .dict ds) e0 rfl ⟨rfl, hM, .inl ⟨_, upd_same, ?_⟩⟩)⟩
            exact RpK.put kk (rv.mono ((hid_same e2).trans (hid_upd hM))) (h4.mono ((hid_same e2).trans (hid_upd hM)))
          · exact absurd rfl nt
        · rw [if_neg hl] at p2; exact p2.elim
  · exact p.elim
end
end Lilt

set_option Elab.async false
set_option linter.all false
set_option maxRecDepth 100000
set_option maxHeartbeats 2000000
set_option autoImplicit false
namespace Lilt
open PySem L2

/-! ## nested keys -/
mutual
def nk : PD → Option NestedKey
  | .none => some .none
  | .int i => some (.num i)
  | .str x => some (.text x)
  | .tuple ds => match nkA ds with
    | some ks => some (.tup ks)
    | none => Option.none
  | .bool _ => Option.none
  | .list _ => Option.none
  | .dict _ => Option.none
def nkA : List PD → Option (List NestedKey)
  | [] => some []
  | d :: ds => match nk d with
    | some k => match nkA ds with
      | some ks => some (k :: ks)
      | none => Option.none
    | none => Option.none
end
mutual
theorem nk_data : ∀ (d : PD) (k : NestedKey), nk d = some k → d = k.data
  | .none, k, h => by simp only [nk, Option.some.injEq] at h; subst h; rfl
  | .int i, k, h => by simp only [nk, Option.some.injEq] at h; subst h; rfl
  | .str x, k, h => by simp only [nk, Option.some.injEq] at h; subst h; rfl
  | .tuple ds, k, h => by
    simp only [nk] at h
    cases e : nkA ds with
    | none => rw [e] at h; cases h
    | some ks =>
      rw [e] at h
      obtain rfl := Option.some.inj h
      rw [NestedKey.data, nkA_data ds ks e]
  | .bool _, k, h => by simp only [nk] at h; cases h
  | .list _, k, h => by simp only [nk] at h; cases h
  | .dict _, k, h => by simp only [nk] at h; cases h
theorem nkA_data : ∀ (ds : List PD) (ks : List NestedKey), nkA ds = some ks → ds = NestedKey.datas ks
  | [], ks, h => by simp only [nkA, Option.some.injEq] at h; subst h; rfl
  | d :: ds, ks, h => by
    simp only [nkA] at h
    cases e : nk d with
    | none => rw [e] at h; cases h
    | some k =>
      rw [e] at h
      cases e2 : nkA ds with
      | none => rw [e2] at h; cases h
      | some ks' =>
        rw [e2] at h
        obtain rfl := Option.some.inj h
        rw [NestedKey.datas, nk_data d k e, nkA_data ds ks' e2]
end
/-- a key of a dict of tuples -/
def keyN : PD → Option NestedKey
  | .tuple ds => match nk (.tuple ds) with
    | some k => if k.depth ≤ 8 then some k else none
    | none => none
  | _ => none
theorem keyN_some {d : PD} {k : NestedKey} (h : keyN d = some k) : d = k.data ∧ k.depth ≤ 8 ∧ ∃ ks, k = .tup ks := by
  cases d with
  | tuple ds =>
    simp only [keyN] at h
    cases e : nk (.tuple ds) with
    | none => rw [e] at h; cases h
    | some k' =>
      rw [e] at h
      simp only at h
      split at h
      · obtain rfl := Option.some.inj h
        refine ⟨nk_data _ _ e, by assumption, ?_⟩
        simp only [nk] at e
        cases e2 : nkA ds with
        | none => rw [e2] at e; cases e
        | some ks => rw [e2] at e; exact ⟨ks, (Option.some.inj e).symm⟩
      · cases h
  | _ => cases h
mutual
theorem data_plain : ∀ k : NestedKey, plain k.data = true
  | .none => rfl
  | .num _ => rfl
  | .text _ => rfl
  | .tup ks => by simp only [NestedKey.data, plain]; exact datas_plain ks
theorem datas_plain : ∀ ks : List NestedKey, plainA (NestedKey.datas ks) = true
  | [] => rfl
  | k :: ks => by simp only [NestedKey.datas, plainA, data_plain k, datas_plain ks, Bool.and_self]
end
mutual
theorem eqv_beq : ∀ a b : NestedKey, PyData.eqv a.data b.data = NestedKey.beq a b
  | .none, .none => rfl
  | .none, .num _ => rfl
  | .none, .text _ => rfl
  | .none, .tup _ => rfl
  | .num _, .none => rfl
  | .num a, .num b => by simp only [NestedKey.data, PyData.eqv, NestedKey.beq]; exact Bool.beq_eq_decide_eq a b
  | .num _, .text _ => rfl
  | .num _, .tup _ => rfl
  | .text _, .none => rfl
  | .text _, .num _ => rfl
  | .text a, .text b => by simp only [NestedKey.data, PyData.eqv, NestedKey.beq]; exact Bool.beq_eq_decide_eq a b
  | .text _, .tup _ => rfl
  | .tup _, .none => rfl
  | .tup _, .num _ => rfl
  | .tup _, .text _ => rfl
  | .tup a, .tup b => by simp only [NestedKey.data, PyData.eqv, NestedKey.beq]; exact eqv_beqAll a b
theorem eqv_beqAll : ∀ a b : List NestedKey, PyData.eqvAll (NestedKey.datas a) (NestedKey.datas b) = NestedKey.beqAll a b
  | [], [] => rfl
  | [], _ :: _ => rfl
  | _ :: _, [] => rfl
  | a :: as, b :: bs => by simp only [NestedKey.datas, PyData.eqvAll, NestedKey.beqAll, eqv_beq a b, eqv_beqAll as bs]
end
theorem eqv_data (a b : NestedKey) : PyData.eqv a.data b.data = decide (a = b) := by rw [eqv_beq, NestedKey.decide_eq]
mutual
theorem nis_reads {h : Heap} : ∀ (k : NestedKey) (u : Value) (as : List Addr), Reads h u k.data as → NestedIs h k u
  | .none, u, as, r => by simp only [NestedKey.data] at r; cases r; exact .none
  | .num i, u, as, r => by simp only [NestedKey.data] at r; cases r; exact .int _ _
  | .text x, u, as, r => by simp only [NestedKey.data] at r; cases r; exact .text _ _
  | .tup ks, u, as, r => by
    simp only [NestedKey.data] at r
    cases r with
    | tuple h1 h2 h3 h4 => exact .tup h1 h2 h3 (nis_readsAll ks _ _ h4)
theorem nis_readsAll {h : Heap} : ∀ (ks : List NestedKey) (us : List Value) (as : List Addr), ReadsAll h us (NestedKey.datas ks) as → NestedAll h ks us
  | [], us, as, r => by simp only [NestedKey.datas] at r; cases r; exact .nil
  | k :: ks, us, as, r => by
    simp only [NestedKey.datas] at r
    cases r with
    | cons h1 h2 => exact .cons (nis_reads k _ _ h1) (nis_readsAll ks _ _ h2)
end
/-- one program, one world, one written part -/
structure GX (X : Cx) (Γ : Gm) : Prop where
  prog : X.prog = Γ.prog
  w : X.w = Γ.w
  K : X.K = Γ.K
section
variable {X : Cx} {Γ : Gm} {W : WX} {M M' M0 : Addr → Prop} {ad : Nat → Addr} {ρ ρ' : Sto} {σ : L2.St} {H H' H0 F : Hp} {pins : List (Addr × Obj)} {s : Shared}
theorem Rp.nis (I : Inv X pins σ H s) (hK : X.K = Γ.K) {k : NestedKey} {v : V} {u : Value} (h : Rp Γ H v k.data) (r : RelV v u) : NestedIs s.heap k u := by
  have hd := h.dp (data_plain k)
  rw [← hK] at hd
  obtain ⟨as, hr⟩ := Dp.reads I _ _ _ hd r
  exact nis_reads k u as hr

/-! ## the dict's entries -/
theorem NV.length {xs : List (NestedKey × Addr × V)} {vs : List (NestedKey × Addr × Value)} (h : NV xs vs) : xs.length = vs.length := Paired.length h
theorem RpN.length {F : Hp} : ∀ {xs : List (NestedKey × Addr × V)} {ds : List (PD × PD)}, RpN Γ F xs ds → xs.length = ds.length
  | _, _, .nil => rfl
  | _, _, .cons _ _ _ r => by rw [List.length_cons, List.length_cons, RpN.length r]
theorem RpN.mem {F : Hp} : ∀ {xs : List (NestedKey × Addr × V)} {ds : List (PD × PD)}, RpN Γ F xs ds → ∀ x ∈ xs, Rp Γ F (.ref x.2.1) x.1.data ∧ x.1.depth ≤ 8
  | _, _, .nil, x, h => nomatch h
  | _, _, .cons h1 h2 h3 r, x, h => by
    rcases List.mem_cons.mp h with rfl | h
    · exact ⟨h1, h2⟩
    · exact RpN.mem r x h
theorem NV.mem {vs : List (NestedKey × Addr × Value)} : ∀ {xs : List (NestedKey × Addr × V)}, NV xs vs → ∀ y ∈ vs, ∃ x ∈ xs, x.1 = y.1 ∧ x.2.1 = y.2.1 := by
  intro xs h
  unfold NV at h
  induction h with
  | nil => intro y hy; exact nomatch hy
  | @cons a b l₁ l₂ r t ih =>
    intro y hy
    rcases List.mem_cons.mp hy with rfl | hy
    · exact ⟨a, List.mem_cons_self, r.1, r.2.1⟩
    · obtain ⟨x, hx, q⟩ := ih y hy
      exact ⟨x, List.mem_cons_of_mem _ hx, q⟩
theorem dn_rd {a : Addr} {xs : List (NestedKey × Addr × V)} {ds : List (PD × PD)} (I : Inv X pins σ H s) (hG : GX X Γ) (r : Rd H a (DNo Γ a xs)) (rn : RpN Γ H xs ds) :
    xs.length ≤ sizeLine ∧ (a == sysModules) = false ∧ ∃ vs, NV xs vs ∧ s.heap.DictOfH (nestedKind X.prog X.w) a vs := by
  obtain ⟨p, _, _⟩ := (show ObjOk X.prog X.w H s.heap a (.ext (DNp Γ.prog Γ.w a xs)) from r.ok I.hok)
  obtain ⟨h1, h2, vs, nv, o, es, ep, h3, h4, h5, h6, h7⟩ := p
  refine ⟨h1, h2, vs, nv, o, es, ep, h3, h4, h5, ?_, fun y hy => ?_, h7⟩
  · rw [hG.prog, hG.w]; exact h6
  · obtain ⟨x, hx, e1, e2⟩ := nv.mem y hy
    obtain ⟨q1, q2⟩ := rn.mem x hx
    rw [e1] at q1 q2
    rw [e2] at q1
    exact ⟨q1.nis I hG.K rfl, q2⟩
theorem nv_look {F : Hp} (k : NestedKey) {vs : List (NestedKey × Addr × Value)} : ∀ {xs : List (NestedKey × Addr × V)} {ds : List (PD × PD)}, NV xs vs → RpN Γ F xs ds →
    (atKey vs k = none ∧ lookD ds k.data = none) ∨ ∃ a v u d, atKey vs k = some (a, u) ∧ lookD ds k.data = some d ∧ RelV v u ∧ Rp Γ F v d := by
  intro xs ds h
  unfold NV at h
  induction h generalizing ds with
  | nil => intro r; cases r; exact .inl ⟨rfl, rfl⟩
  | @cons x y l₁ l₂ p t ih =>
    intro r
    obtain ⟨x1, x2, x3⟩ := x
    obtain ⟨y1, y2, y3⟩ := y
    obtain ⟨p1, p2, p3⟩ := p
    simp only at p1 p2 p3
    subst p1 p2
    cases r with
    | @cons _ _ _ d _ es h1 h2 h3 r =>
      by_cases e : x1 = k
      · subst e
        refine .inr ⟨x2, x3, y3, d, by simp [atKey], ?_, p3, h3⟩
        unfold lookD
        rw [List.find?_cons_of_pos (by simp [eqv_data])]
        rfl
      · have e1 : atKey ((x1, x2, y3) :: l₂) k = atKey l₂ k := by simp [atKey, e]
        have e2 : lookD ((x1.data, d) :: es) k.data = lookD es k.data := by
          unfold lookD
          rw [List.find?_cons_of_neg (by simp [eqv_data, e])]
        rw [e1, e2]
        exact ih r
/-- the entries behind d[k] = v -/
def putN (xs : List (NestedKey × Addr × V)) (k : NestedKey) (b : Addr) (v : V) : List (NestedKey × Addr × V) :=
  if xs.any fun x => decide (x.1 = k) then xs.map fun x => if x.1 = k then (x.1, x.2.1, v) else x else xs ++ [(k, b, v)]
theorem putN_length (xs : List (NestedKey × Addr × V)) (k : NestedKey) (b : Addr) (v : V) : (putN xs k b v).length ≤ xs.length + 1 := by
  unfold putN
  split
  · simp
  · simp
theorem nv_any (k : NestedKey) {vs : List (NestedKey × Addr × Value)} : ∀ {xs : List (NestedKey × Addr × V)}, NV xs vs → (xs.any fun x => decide (x.1 = k)) = (atKey vs k).isSome := by
  intro xs h
  unfold NV at h
  induction h with
  | nil => rfl
  | @cons x y l₁ l₂ p t ih =>
    obtain ⟨y1, y2, y3⟩ := y
    obtain ⟨p1, p2, p3⟩ := p
    simp only at p1
    rw [List.any_cons, ih, p1]
    by_cases e : y1 = k
    · subst e; simp [atKey]
    · simp [atKey, e]
theorem nv_map {k : NestedKey} {v : V} {u : Value} (ru : RelV v u) {vs : List (NestedKey × Addr × Value)} : ∀ {xs : List (NestedKey × Addr × V)}, NV xs vs → NV (xs.map fun x => if x.1 = k then (x.1, x.2.1, v) else x) (vs.map (putAt k u)) := by
  intro xs h
  unfold NV at h ⊢
  induction h with
  | nil => exact .nil
  | @cons x y l₁ l₂ p t ih =>
    rw [List.map_cons, List.map_cons]
    refine .cons ?_ ih
    unfold putAt
    rw [← p.1]
    by_cases e : x.1 = k
    · rw [if_pos e, if_pos e]; exact ⟨rfl, p.2.1, ru⟩
    · rw [if_neg e, if_neg e]; exact p
theorem nv_put {k : NestedKey} {b : Addr} {v : V} {u : Value} (ru : RelV v u) {xs : List (NestedKey × Addr × V)} {vs : List (NestedKey × Addr × Value)} (h : NV xs vs) : NV (putN xs k b v) (storedH vs k b u) := by
  unfold putN storedH
  rw [nv_any k h]
  split
  · exact nv_map ru h
  · unfold NV at h ⊢
    exact Paired.snoc h ⟨rfl, rfl, ru⟩
theorem RpN.any {F : Hp} (k : NestedKey) : ∀ {xs : List (NestedKey × Addr × V)} {ds : List (PD × PD)}, RpN Γ F xs ds → (xs.any fun x => decide (x.1 = k)) = (lookD ds k.data).isSome
  | _, _, .nil => rfl
  | _, _, .cons (k := j) (d := d) (ds := ds) h1 h2 h3 r => by
    rw [List.any_cons, RpN.any k r]
    unfold lookD
    by_cases e : j = k
    · subst e
      rw [List.find?_cons_of_pos (by simp [eqv_data])]
      simp
    · rw [List.find?_cons_of_neg (by simp [eqv_data, e])]
      simp [e]
theorem RpN.put {F : Hp} {k : NestedKey} {b : Addr} {v : V} {d : PD} (hb : Rp Γ F (.ref b) k.data) (hk : k.depth ≤ 8) (hv : Rp Γ F v d) {xs : List (NestedKey × Addr × V)} {ds : List (PD × PD)} (r : RpN Γ F xs ds) : RpN Γ F (putN xs k b v) (putD ds k.data d) := by
  have hm : ∀ {xs : List (NestedKey × Addr × V)} {ds : List (PD × PD)}, RpN Γ F xs ds → RpN Γ F (xs.map fun x => if x.1 = k then (x.1, x.2.1, v) else x) (ds.map fun p => if PyData.eqv p.1 k.data then (p.1, d) else p) := by
    intro xs
    induction xs with
    | nil => intro ds r; cases r; exact .nil
    | cons x xs ih =>
      intro ds r
      cases r with
      | @cons j a u e vs es h1 h2 h3 r =>
        rw [List.map_cons, List.map_cons]
        by_cases q : j = k
        · rw [if_pos q, if_pos (by simp [eqv_data, q])]
          exact .cons h1 h2 hv (ih r)
        · rw [if_neg q, if_neg (by simp [eqv_data, q])]
          exact .cons h1 h2 h3 (ih r)
  have ha : ∀ {xs : List (NestedKey × Addr × V)} {ds : List (PD × PD)}, RpN Γ F xs ds → RpN Γ F (xs ++ [(k, b, v)]) (ds ++ [(k.data, d)]) := by
    intro xs
    induction xs with
    | nil => intro ds r; cases r; exact .cons hb hk hv .nil
    | cons x xs ih =>
      intro ds r
      cases r with
      | cons h1 h2 h3 r => exact .cons h1 h2 h3 (ih r)
  unfold putN putD
  rw [r.any k]
  split
  · exact hm r
  · exact ha r
theorem dn_obj {P : Program} {w : World} {Hx : Hp} {h : Heap} {a : Addr} {xs : List (NestedKey × Addr × V)} (hp : Γ.prog = P) (hw : Γ.w = w) (p : DNp P w a xs h) : ObjOk P w Hx h a (DNo Γ a xs) := by
  subst hp hw
  obtain ⟨h1, h2, vs, nv, o, es, ep, h3, h4⟩ := id p
  refine ⟨p, ⟨o, h3⟩, fun g1 g2 q k => ?_⟩
  obtain ⟨k1, k2, vs', nv', o', es', ep', k3, k4⟩ := q
  exact ⟨k1, k2, vs', nv', o', es', ep', k _ k3, k4⟩

/-! ## the operations -/
variable {a b : Addr} {k : NestedKey} {xs : List (NestedKey × Addr × V)} {ds : List (PD × PD)} {v : V} {r : Value} {A : Around} {E : Value → Shared → Prop}
/-- b is the key k -/
def NKy (Γ : Gm) (H : Hp) (b : Addr) (k : NestedKey) : Prop := Rp Γ H (.ref b) k.data ∧ k.depth ≤ 8
theorem NKy.is (h : NKy Γ H b k) (I : Inv X pins σ H s) (hK : X.K = Γ.K) : (nestedKind X.prog X.w).is s.heap k b := ⟨h.1.nis I hK rfl, h.2⟩
theorem dn_getItem {d : PD} {Q : Value → Shared → Prop} (hu : A.units + 9 < cLine) (I : Inv X pins σ H s) (hG : GX X Γ) (hd : Rd H a (DNo Γ a xs)) (e : Same F H) (rn : RpN Γ F xs ds) (hk : NKy Γ H b k) (hl : lookD ds k.data = some d)
    (h : ∀ v w' s', Inv X pins σ H s' → RelV v w' → Rp Γ F v d → Q w' s') : wpAny (model X.prog X.w) A (getItem (.ref a) (.ref b)) Q E s := by
  obtain ⟨z, hm, vs, nv, dd⟩ := dn_rd I hG hd (rn.mono e)
  rcases nv_look k nv rn with ⟨_, h2⟩ | ⟨c, v, u, d', h1, h2, h3, h4⟩
  · rw [hl] at h2; cases h2
  · rw [hl] at h2
    obtain rfl := Option.some.inj h2
    exact wpAny_getItem_heap (show A.in1.units + 8 < cLine by simp only [Around.in1_units]; omega) (hk.is I hG.K) dd h1 (h v u _ (I.tok _) h3 h4)
theorem dn_setItem {Q : Unit → Shared → Prop} (hu : A.units + 9 < cLine) (I : Inv X pins σ H s) (hG : GX X Γ) (hd : H a = some (DNo Γ a xs)) (rn : RpN Γ H xs ds) (hk : NKy Γ H b k) (rv : RelV v r) (hz : xs.length < sizeLine)
    (h : ∀ s', Inv X pins σ (upd H a (DNo Γ a (putN xs k b v))) s' → Q () s') : wpAny (model X.prog X.w) A (setItem (.ref a) (.ref b) r) Q E s := by
  obtain ⟨z, hm, vs, nv, dd⟩ := dn_rd I hG (.inl hd) rn
  refine wpAny_setItem_heap (hsz := by rw [← nv.length]; exact z) (show A.in1.units + 8 < cLine by simp only [Around.in1_units]; omega) (hk.is I hG.K) dd fun h' dd' hs => h _ ?_
  obtain ⟨q, es, ep, hq, h2, h3, h4, _, h5⟩ := dd'
  refine d_write I (by rw [hd]; exact True.intro) hs ⟨q, hq⟩ (dn_obj hG.prog.symm hG.w.symm ⟨?_, hm, _, nv_put rv nv, q, es, ep, hq, h2, h3, h4, h5⟩)
  have := putN_length xs k b v
  omega
theorem dn_typeIs (I : Inv X pins σ H s) (hd : Rd H a (DNo Γ a xs)) : s.TypeIs (.ref a) "dict" ∧ (∀ b, Value.ref a = .ref b → ∃ ob, s.heap.get? b = some ob ∧ ob.dict = none) ∧ (a == sysModules) = false := by
  obtain ⟨p, _, _⟩ := (show ObjOk X.prog X.w H s.heap a (.ext (DNp Γ.prog Γ.w a xs)) from hd.ok I.hok)
  obtain ⟨h1, h2, vs, nv, o, es, ep, h3, h4, h5, h6, h7⟩ := p
  refine ⟨⟨o, h3, h4.1⟩, fun b e => ?_, h2⟩
  cases e
  exact ⟨o, h3, h4.2.1⟩
/-- d.setdefault(k, x) -/
theorem dn_setd {Q : Value → Shared → Prop} (hu : A.units + 9 < cLine) (I : Inv X pins σ H s) (hG : GX X Γ) (hd : H a = some (DNo Γ a xs)) (e : Same F H) (rn : RpN Γ F xs ds) (hk : NKy Γ H b k) (rv : RelV v r) (hz : xs.length < sizeLine)
    (h1 : ∀ d, lookD ds k.data = some d → ∀ v w' s', Inv X pins σ H s' → RelV v w' → Rp Γ F v d → Q w' s')
    (h2 : lookD ds k.data = none → ∀ s', Inv X pins σ (upd H a (DNo Γ a (putN xs k b v))) s' → Q r s') : wpAny (model X.prog X.w) A (call (.builtin "dict.setdefault") [.ref a, .ref b, r]) Q E s := by
  obtain ⟨z, hm, vs, nv, dd⟩ := dn_rd I hG (.inl hd) (rn.mono e)
  refine call_setdefault_heap (hsz := by rw [← nv.length]; exact z) (show A.in1.units + 8 < cLine by simp only [Around.in1_units]; omega) (hk.is I hG.K) hm dd (fun p hp => ?_) fun hn h' dd' hs => ?_
  · rcases nv_look k nv rn with ⟨g1, _⟩ | ⟨c, v, u, d', g1, g2, g3, g4⟩
    · rw [hp] at g1; cases g1
    · rw [hp] at g1
      obtain rfl := Option.some.inj g1
      exact h1 d' g2 v u _ (I.tok _) g3 g4
  · have hl : lookD ds k.data = none := by
      rcases nv_look k nv rn with ⟨_, g2⟩ | ⟨c, v, u, d', g1, g2, g3, g4⟩
      · exact g2
      · rw [hn] at g1; cases g1
    refine h2 hl _ ?_
    obtain ⟨q, es, ep, hq, h2, h3, h4, _, h5⟩ := dd'
    refine d_write I (by rw [hd]; exact True.intro) hs ⟨q, hq⟩ (dn_obj hG.prog.symm hG.w.symm ⟨?_, hm, _, nv_put rv nv, q, es, ep, hq, h2, h3, h4, h5⟩)
    have := putN_length xs k b v
    omega
theorem dn_in {Q : Value → Shared → Prop} (hu : A.units + 9 < cLine) (I : Inv X pins σ H s) (hG : GX X Γ) (hd : Rd H a (DNo Γ a xs)) (rn : RpN Γ H xs ds) (hk : NKy Γ H b k)
    (h : ∀ s', Inv X pins σ H s' → Q (.bool (lookD ds k.data).isSome) s') : wpAny (model X.prog X.w) A (compareOp .In (.ref b) (.ref a)) Q E s := by
  obtain ⟨z, hm, vs, nv, dd⟩ := dn_rd I hG hd rn
  refine wpAny_in_heap (show A.in1.units + 8 < cLine by simp only [Around.in1_units]; omega) (hk.is I hG.K) hm dd ?_
  rw [← nv_any k nv, rn.any k]
  exact h _ (I.tok _)
theorem dn_notIn {Q : Value → Shared → Prop} (hu : A.units + 9 < cLine) (I : Inv X pins σ H s) (hG : GX X Γ) (hd : Rd H a (DNo Γ a xs)) (rn : RpN Γ H xs ds) (hk : NKy Γ H b k)
    (h : ∀ s', Inv X pins σ H s' → Q (.bool (!(lookD ds k.data).isSome)) s') : wpAny (model X.prog X.w) A (compareOp .NotIn (.ref b) (.ref a)) Q E s := by
  obtain ⟨z, hm, vs, nv, dd⟩ := dn_rd I hG hd rn
  refine PyProof.Rows.wpAny_notIn_heap (show A.in1.units + 8 < cLine by simp only [Around.in1_units]; omega) (hk.is I hG.K) hm dd ?_
  rw [← nv_any k nv, rn.any k]
  exact h _ (I.tok _)
/-- d.get(k, x) -/
theorem dn_get2 {d : PD} {Q : Value → Shared → Prop} (hu : A.units + 9 < cLine) (I : Inv X pins σ H s) (hG : GX X Γ) (hd : Rd H a (DNo Γ a xs)) (e : Same F H) (rn : RpN Γ F xs ds) (hk : NKy Γ H b k) (rv : RelV v r) (hv : Rp Γ F v d)
    (h : ∀ v w' s', Inv X pins σ H s' → RelV v w' → Rp Γ F v ((lookD ds k.data).getD d) → Q w' s') : wpAny (model X.prog X.w) A (call (.builtin "dict.get") [.ref a, .ref b, r]) Q E s := by
  obtain ⟨z, hm, vs, nv, dd⟩ := dn_rd I hG hd (rn.mono e)
  refine call_meetsIn PySem.F.slot_dict_get dd.typeIs PySem.F.entry_dict_get (PySem.F.args_dict_get_3 _ _ _) (meetsH_dict_get_default (nestedKind X.prog X.w) a b hm r) ⟨show A.in1.units + 8 < cLine by simp only [Around.in1_units]; omega, k, vs, hk.is I hG.K, dd, ?_⟩
  rcases nv_look k nv rn with ⟨g1, g2⟩ | ⟨c, v', u, d', g1, g2, g3, g4⟩
  · rw [g1]
    exact h v r _ (I.tok _) rv (by rw [g2]; exact hv)
  · rw [g1]
    exact h v' u _ (I.tok _) g3 (by rw [g2]; exact g4)
end
end Lilt

set_option Elab.async false
set_option linter.all false
set_option maxRecDepth 100000
set_option maxHeartbeats 2000000
set_option autoImplicit false
namespace Lilt
open PySem L2 PySem.Spec PyProof.Rows
/-- the entries of a dict of nested keys -/
def unN : PD → Option (List (PD × PD))
  | .dict ((.bool true, .none) :: ds) => some ds
  | _ => none
def mkN (ds : List (PD × PD)) : PD := .dict ((.bool true, .none) :: ds)
theorem unN_some {x : PD} {ds : List (PD × PD)} (h : unN x = some ds) : x = mkN ds := by
  unfold unN at h
  split at h
  · rw [Option.some.inj h]; rfl
  · cases h
section
variable {X : Cx} {Γ : Gm} {W : WX} {M M' M0 : Addr → Prop} {ad : Nat → Addr} {ρ ρ' : Sto} {σ : L2.St} {H H' H0 F : Hp} {pins : List (Addr × Obj)} {s : Shared}
theorem Rp.din_of {v : V} {ds : List (PD × PD)} (h : Rp Γ F v (mkN ds)) : ∃ a xs, v = .ref a ∧ Rd F a (DNo Γ a xs) ∧ RpN Γ F xs ds := by
  unfold mkN at h
  cases h with
  | dik h r => have := r.tag; cases this
  | din h r => exact ⟨_, _, rfl, h, r⟩
theorem RpO.din_of {a : Addr} {v : V} {ds : List (PD × PD)} (h : RpO Γ M H a v (mkN ds)) : v = .ref a ∧ M a ∧ ∃ xs, H a = some (DNo Γ a xs) ∧ RpN Γ (hid M H) xs ds := by
  unfold mkN at h
  obtain ⟨h1, h2, h⟩ := h
  rcases h with ⟨kvs, _, h3⟩ | ⟨xs, es, e, h3, h4⟩
  · have := h3.tag; cases this
  · cases e; exact ⟨h1, h2, xs, h3, h4⟩
theorem Rp.key_of {v : V} {d : PD} {k : NestedKey} (h : Rp Γ F v d) (hk : keyN d = some k) : ∃ b, v = .ref b ∧ NKy Γ F b k ∧ d = k.data := by
  obtain ⟨rfl, hd, ks, rfl⟩ := keyN_some hk
  obtain ⟨b, vs, rfl, _⟩ := (show Rp Γ F v (.tuple (NestedKey.datas ks)) from h).tup_of
  exact ⟨b, rfl, ⟨h, hd⟩, rfl⟩
theorem NKy.mono {b : Addr} {k : NestedKey} (h : NKy Γ F b k) (e : Same F H) : NKy Γ H b k := ⟨h.1.mono e, h.2⟩

/-! ## readings -/
def tDGetN (Γ : Gm) (td ty : TE) : TE := fun σ H Q => td σ H fun x H1 => ty σ H1 fun y H2 => ∃ a b xs ds k d F, x = .ref a ∧ y = .ref b ∧ Same F H2 ∧ Rd H2 a (DNo Γ a xs) ∧ RpN Γ F xs ds ∧ NKy Γ H2 b k ∧ lookD ds k.data = some d ∧ ∀ v, Rp Γ F v d → Q v H2
def tDInN (Γ : Gm) (neg : Bool) (ty td : TE) : TE := fun σ H Q => ty σ H fun y H1 => td σ H1 fun x H2 => ∃ a b xs ds k, x = .ref a ∧ y = .ref b ∧ Rd H2 a (DNo Γ a xs) ∧ RpN Γ H2 xs ds ∧ NKy Γ H2 b k ∧ Q (.bl (if neg then !(lookD ds k.data).isSome else (lookD ds k.data).isSome)) H2
def sDPutN (Γ : Gm) (td ty tv : TE) : TS := fun D σ H => tv σ H fun v H1 => td σ H1 fun x H2 => ty σ H2 fun y H3 => ∃ a b xs ds k, x = .ref a ∧ y = .ref b ∧ H3 a = some (DNo Γ a xs) ∧ RpN Γ H3 xs ds ∧ NKy Γ H3 b k ∧ xs.length < sizeLine ∧ D.nx σ (upd H3 a (DNo Γ a (putN xs k b v)))
def tDSetdN (Γ : Gm) (td ty tx : TE) : TE := fun σ H Q => td σ H fun x H1 => ∃ a xs0, x = .ref a ∧ Rd H1 a (DNo Γ a xs0) ∧ ty σ H1 fun y H2 => tx σ H2 fun z H3 => ∃ b xs ds k F, y = .ref b ∧ H3 a = some (DNo Γ a xs) ∧ Same F H3 ∧ RpN Γ F xs ds ∧ NKy Γ H3 b k ∧ xs.length < sizeLine ∧
  (∀ d, lookD ds k.data = some d → ∀ v, Rp Γ F v d → Q v H3) ∧ (lookD ds k.data = none → Q z (upd H3 a (DNo Γ a (putN xs k b z))))
def tDGet2N (Γ : Gm) (td ty tx : TE) : TE := fun σ H Q => td σ H fun x H1 => ∃ a xs, x = .ref a ∧ Rd H1 a (DNo Γ a xs) ∧ ty σ H1 fun y H2 => tx σ H2 fun z H3 => ∃ b ds k F d, y = .ref b ∧ Rd H3 a (DNo Γ a xs) ∧ Same F H3 ∧ RpN Γ F xs ds ∧ NKy Γ H3 b k ∧ Rp Γ F z d ∧
  ∀ v, Rp Γ F v ((lookD ds k.data).getD d) → Q v H3
variable {o i e f value : Expr} {pos pos' apos cpos : Pos} {td ty tv tx : TE}
theorem pe_dgetN (hu : X.A.units + 9 < cLine) (hG : GX X Γ) (ho : PE X o td) (hi : PE X i ty) (hs : NoSl i) : PE X (.Subscript o i pos) (tDGetN Γ td ty) := by
  refine ⟨fun pins s σ H Q I h => ?_⟩
  refine subD_of PySem.F.slot_dict_getitem.lookup hs (thn (ho.run pins s σ H _ I h) fun u s1 ⟨x, H1, I1, rx, q1⟩ => thn (hi.run pins s1 σ H1 _ I1 q1) fun iv s2 ⟨y, H2, I2, ry, a, b, xs, ds, k, d, F, ex, ey, eF, hd, rn, hk, hl, q2⟩ => ?_)
  subst ex ey
  obtain rfl : u = Value.ref a := rx
  obtain rfl : iv = Value.ref b := ry
  exact ⟨(dn_typeIs I2 hd).1, dn_getItem hu I2 hG hd eF rn hk hl fun v w' s3 I3 rw' rd => ⟨v, H2, I3, rw', q2 v rd⟩⟩
theorem pc_dinN (hu : X.A.units + 9 < cLine) (hG : GX X Γ) (hi : PE X i ty) (ho : PE X o td) : PC X .In i o (tDInN Γ false ty td) := by
  refine ⟨fun pins s σ H Q I h => ?_⟩
  refine thn (hi.run pins s σ H _ I h) fun iv s1 ⟨y, H1, I1, ry, q1⟩ => thn (ho.run pins s1 σ H1 _ I1 q1) fun u s2 ⟨x, H2, I2, rx, a, b, xs, ds, k, ex, ey, hd, rn, hk, q2⟩ => ?_
  subst ex ey
  obtain rfl : u = Value.ref a := rx
  obtain rfl : iv = Value.ref b := ry
  exact dn_in hu I2 hG hd rn hk fun s3 I3 => ⟨.bl _, H2, I3, rfl, q2⟩
theorem pc_dnotinN (hu : X.A.units + 9 < cLine) (hG : GX X Γ) (hi : PE X i ty) (ho : PE X o td) : PC X .NotIn i o (tDInN Γ true ty td) := by
  refine ⟨fun pins s σ H Q I h => ?_⟩
  refine thn (hi.run pins s σ H _ I h) fun iv s1 ⟨y, H1, I1, ry, q1⟩ => thn (ho.run pins s1 σ H1 _ I1 q1) fun u s2 ⟨x, H2, I2, rx, a, b, xs, ds, k, ex, ey, hd, rn, hk, q2⟩ => ?_
  subst ex ey
  obtain rfl : u = Value.ref a := rx
  obtain rfl : iv = Value.ref b := ry
  exact dn_notIn hu I2 hG hd rn hk fun s3 I3 => ⟨.bl _, H2, I3, rfl, q2⟩
theorem ps_dputN (hu : X.A.units + 9 < cLine) (hG : GX X Γ) (ho : PE X o td) (hi : PE X i ty) (hv : PE X value tv) (hs : swapsWith value (some (.Subscript o i pos')) pos.line X.env = pure false) :
    PS X (.Assign [.Subscript o i pos'] value pos) (sDPutN Γ td ty tv) := by
  refine ⟨fun pins s σ H D I h => ?_⟩
  refine wpAny_Assign_Subscript (thn (hv.run pins s σ H _ I h) fun r s1 ⟨v, H1, I1, rv, q1⟩ => thn (ho.run pins s1 σ H1 _ I1 q1) fun u s2 ⟨x, H2, I2, rx, q2⟩ => thn (hi.run pins s2 σ H2 _ I2 q2) fun iv s3 ⟨y, H3, I3, ry, a, b, xs, ds, k, ex, ey, hd, rn, hk, hz, q3⟩ => ?_) hs
  subst ex ey
  obtain rfl : u = Value.ref a := rx
  obtain rfl : iv = Value.ref b := ry
  exact dn_setItem hu I3 hG hd rn hk rv hz fun s4 I4 => ⟨σ, _, I4, q3⟩
theorem pe_dsetdN (hu : X.A.units + 9 < cLine) (hG : GX X Γ) (ho : PE X o td) (he : PE X e ty) (hf : PE X f tx) (m : M2 X o "setdefault" apos e f cpos) : PE X (.Call (.Attribute o "setdefault" apos) [e, f] [] cpos) (tDSetdN Γ td ty tx) := by
  refine ⟨fun pins s σ H Q I h => ?_⟩
  refine wpAny_Call_method m.base m.few m.line PySem.F.plainAttrs_dict PySem.F.slot_dict_setdefault PySem.F.type_dict_setdefault (thn (ho.run pins s σ H _ I h) fun u s1 ⟨x, H1, I1, rx, a, xs0, ex, hd0, q1⟩ => ?_)
  subst ex
  obtain rfl : u = Value.ref a := rx
  obtain ⟨t1, t2, _⟩ := dn_typeIs I1 hd0
  refine ⟨t1, t2, ?_⟩
  rw [m.trees]
  refine Calls.callWith_builtin rfl (Calls.evalArgs_plain (Calls.spliced_cons (thn (he.run pins s1 σ H1 _ I1 q1) fun iv s2 ⟨y, H2, I2, ry, q2⟩ =>
    Calls.spliced_cons (thn (hf.run pins s2 σ H2 _ I2 q2) fun fv s3 ⟨z, H3, I3, rz, b, xs, ds, k, F, ey, hd, eF, rn, hk, hz, q3, q4⟩ => Calls.spliced_nil ?_))))
  subst ey
  obtain rfl : iv = Value.ref b := ry
  exact dn_setd hu I3 hG hd eF rn hk rz hz (fun d hl v w' s4 I4 rw' rd => ⟨v, H3, I4, rw', q3 d hl v rd⟩) fun hl s4 I4 => ⟨z, _, I4, rz, q4 hl⟩
theorem pe_dget2N (hu : X.A.units + 9 < cLine) (hG : GX X Γ) (ho : PE X o td) (he : PE X e ty) (hf : PE X f tx) (m : M2 X o "get" apos e f cpos) : PE X (.Call (.Attribute o "get" apos) [e, f] [] cpos) (tDGet2N Γ td ty tx) := by
  refine ⟨fun pins s σ H Q I h => ?_⟩
  refine wpAny_Call_method m.base m.few m.line PySem.F.plainAttrs_dict PySem.F.slot_dict_get PySem.F.type_dict_get (thn (ho.run pins s σ H _ I h) fun u s1 ⟨x, H1, I1, rx, a, xs0, ex, hd0, q1⟩ => ?_)
  subst ex
  obtain rfl : u = Value.ref a := rx
  obtain ⟨t1, t2, _⟩ := dn_typeIs I1 hd0
  refine ⟨t1, t2, ?_⟩
  rw [m.trees]
  refine Calls.callWith_builtin rfl (Calls.evalArgs_plain (Calls.spliced_cons (thn (he.run pins s1 σ H1 _ I1 q1) fun iv s2 ⟨y, H2, I2, ry, q2⟩ =>
    Calls.spliced_cons (thn (hf.run pins s2 σ H2 _ I2 q2) fun fv s3 ⟨z, H3, I3, rz, b, ds, k, F, d, ey, hd, eF, rn, hk, rd, q3⟩ => Calls.spliced_nil ?_))))
  subst ey
  obtain rfl : iv = Value.ref b := ry
  exact dn_get2 hu I3 hG hd eF rn hk rz rd fun v w' s4 I4 rw' rv => ⟨v, H3, I4, rw', q3 v rv⟩

/-! ## the rules -/
variable {a b c : Expr} {ma mb mc : Sto → R PD}
def dgetN (x y : PD) : R PD := match unN x with
  | some ds => match keyN y with
    | some _ => match lookD ds y with
      | some d => .ok d
      | none => .stuck
    | none => .stuck
  | none => .stuck
def dinN (y x : PD) : R PD := match unN x with
  | some ds => match keyN y with
    | some _ => .ok (.bool (lookD ds y).isSome)
    | none => .stuck
  | none => .stuck
def dnotinN (y x : PD) : R PD := match unN x with
  | some ds => match keyN y with
    | some _ => .ok (.bool (!(lookD ds y).isSome))
    | none => .stuck
  | none => .stuck
theorem ee_dgetN (hu : X.A.units + 9 < cLine) (hG : GX X Γ) (ha : PE X a (TEo Γ W ma)) (hb : PE X b (TEo Γ W mb)) (hs : NoSl b := by exact fun _ _ => rfl) : PE X (.Subscript a b pos) (TEo Γ W (mBin dgetN ma mb)) := pe_mono (pe_dgetN hu hG ha hb hs) fun σ H Q ⟨M, ad, ρ, S, p⟩ =>
  ⟨M, ad, ρ, S, p.bind.imp fun x H1 e1 x1 v rv => ⟨M, ad, ρ, S.mono e1, x1.bind.imp fun y H2 e2 x2 w rw_ => by
    unfold dgetN at x2
    cases e3 : unN x with
    | none => rw [e3] at x2; exact x2.elim
    | some ds =>
      rw [e3] at x2
      obtain rfl := unN_some e3
      cases e4 : keyN y with
      | none => rw [e4] at x2; exact x2.elim
      | some k =>
        rw [e4] at x2
        obtain ⟨q, xs, rfl, h1, h2⟩ := rv.din_of
        obtain ⟨bb, rfl, hk, rfl⟩ := rw_.key_of e4
        cases e5 : lookD ds k.data with
        | none => simp only [e5] at x2; exact x2.elim
        | some d =>
          simp only [e5] at x2
          exact ⟨q, bb, xs, ds, k, d, hid M H2, rfl, rfl, hid_le M H2, rd_same e2 (rd_same (hid_le M H1) h1), h2.mono (hid_same e2), hk.mono (hid_le M H2), e5, fun v rv => x2.now v rv⟩⟩⟩
theorem tdinN {neg : Bool} {g : PD → PD → R PD} (hg : g = if neg then dnotinN else dinN) {Q : VK} (p : TEo Γ W (mBin g mb ma) σ H Q) : tDInN Γ neg (TEo Γ W mb) (TEo Γ W ma) σ H Q := by
  obtain ⟨M, ad, ρ, S, p⟩ := p
  refine ⟨M, ad, ρ, S, p.bind.imp fun y H1 e1 x1 w rw_ => ⟨M, ad, ρ, S.mono e1, x1.bind.imp fun x H2 e2 x2 v rv => ?_⟩⟩
  have hg2 : g y x = match unN x with
    | some ds => match keyN y with
      | some _ => .ok (.bool (if neg then !(lookD ds y).isSome else (lookD ds y).isSome))
      | none => .stuck
    | none => .stuck := by subst hg; cases neg <;> rfl
  rw [hg2] at x2
  cases e3 : unN x with
  | none => rw [e3] at x2; exact x2.elim
  | some ds =>
    rw [e3] at x2
    obtain rfl := unN_some e3
    cases e4 : keyN y with
    | none => rw [e4] at x2; exact x2.elim
    | some k =>
      rw [e4] at x2
      obtain ⟨q, xs, rfl, h1, h2⟩ := rv.din_of
      obtain ⟨bb, rfl, hk, rfl⟩ := rw_.key_of e4
      exact ⟨q, bb, xs, ds, k, rfl, rfl, rd_same (hid_le M H2) h1, h2.mono (hid_le M H2), (hk.mono (hid_same e2)).mono (hid_le M H2), x2.now _ (.bl _)⟩
theorem ee_dinN (hu : X.A.units + 9 < cLine) (hG : GX X Γ) (hb : PE X b (TEo Γ W mb)) (ha : PE X a (TEo Γ W ma)) (h1 : behindInMarks .In a = false := by rfl) : PE X (.Compare b [.In] [a] pos) (TEo Γ W (mBin dinN mb ma)) := pe_mono (pe_cmp (pc_dinN hu hG hb ha) h1) fun σ H Q p => tdinN rfl p
theorem ee_dnotinN (hu : X.A.units + 9 < cLine) (hG : GX X Γ) (hb : PE X b (TEo Γ W mb)) (ha : PE X a (TEo Γ W ma)) (h1 : behindInMarks .NotIn a = false := by rfl) : PE X (.Compare b [.NotIn] [a] pos) (TEo Γ W (mBin dnotinN mb ma)) := pe_mono (pe_cmp (pc_dnotinN hu hG hb ha) h1) fun σ H Q p => tdinN rfl p
theorem et_dinN (hu : X.A.units + 9 < cLine) (hG : GX X Γ) (hb : PE X b (TEo Γ W mb)) (ha : PE X a (TEo Γ W ma)) (h1 : behindInMarks .In a = false := by rfl) : PT X (.Compare b [.In] [a] pos) (TTo Γ W (mBool (mBin dinN mb ma))) := pt_mono (pt_cmp (pc_dinN hu hG hb ha) h1) fun σ H Q p => tdinN rfl (toB p)
theorem et_dnotinN (hu : X.A.units + 9 < cLine) (hG : GX X Γ) (hb : PE X b (TEo Γ W mb)) (ha : PE X a (TEo Γ W ma)) (h1 : behindInMarks .NotIn a = false := by rfl) : PT X (.Compare b [.NotIn] [a] pos) (TTo Γ W (mBool (mBin dnotinN mb ma))) := pt_mono (pt_cmp (pc_dnotinN hu hG hb ha) h1) fun σ H Q p => tdinN rfl (toB p)
def mGetdN (ma mb mc : Sto → R PD) : Sto → R PD := fun ρ => do
  let x ← ma ρ
  match unN x with
  | some ds => do
    let y ← mb ρ
    let z ← mc ρ
    match keyN y with
    | some _ => .ok ((lookD ds y).getD z)
    | none => .stuck
  | none => .stuck
theorem ee_dgetdN (hu : X.A.units + 9 < cLine) (hG : GX X Γ) (ha : PE X a (TEo Γ W ma)) (hb : PE X b (TEo Γ W mb)) (hc : PE X c (TEo Γ W mc)) (m : M2 X a "get" apos b c cpos := by exact ⟨rfl, rfl, rfl, rfl⟩) :
    PE X (.Call (.Attribute a "get" apos) [b, c] [] cpos) (TEo Γ W (mGetdN ma mb mc)) := pe_mono (pe_dget2N hu hG ha hb hc m) fun σ H Q ⟨M, ad, ρ, S, p⟩ =>
  ⟨M, ad, ρ, S, p.bind.imp fun x H1 e1 x1 v rv => by
    cases e3 : unN x with
    | none => rw [e3] at x1; exact x1.elim
    | some ds =>
      rw [e3] at x1
      obtain rfl := unN_some e3
      obtain ⟨q, xs, rfl, h1, h2⟩ := rv.din_of
      refine ⟨q, xs, rfl, rd_same (hid_le M H1) h1, M, ad, ρ, S.mono e1, x1.bind.imp fun y H2 e2 x2 w rw_ => ⟨M, ad, ρ, (S.mono e1).mono e2, x2.bind.imp fun z H3 e3 x3 u ru => ?_⟩⟩
      cases e4 : keyN y with
      | none => rw [e4] at x3; exact x3.elim
      | some k =>
        rw [e4] at x3
        obtain ⟨bb, rfl, hk, rfl⟩ := rw_.key_of e4
        exact ⟨bb, ds, k, hid M H3, z, rfl, rd_same (e2.trans e3) (rd_same (hid_le M H1) h1), hid_le M H3, h2.mono (hid_same (e2.trans e3)), (hk.mono (hid_same e3)).mono (hid_le M H3), ru, fun v rv => x3.now v rv⟩⟩
def mDputN (i : Nat) (mx mv : Sto → R PD) : Sto → R Out := fun ρ => match ρ[i]? with
  | some (.ov z) => match unN z with
    | some ds => lift (mv ρ) ρ fun v => lift (mx ρ) ρ fun k => match keyN k with
      | some _ => if ds.length < sizeLine then .ok (.nx (ρ.set i (.ov (mkN (putD ds k v))))) else .stuck
      | none => .stuck
    | none => .stuck
  | _ => .stuck
theorem s_dputN (i : Nat) {o x value : Expr} {pos' : Pos} {mx mv : Sto → R PD} (hu : X.A.units + 9 < cLine) (hG : GX X Γ) (ho : PE X o (tVar i)) (hx : PE X x (TEo Γ W mx)) (hv : PE X value (TEo Γ W mv)) (hs : swapsWith value (some (.Subscript o x pos')) pos.line X.env = pure false := by rfl) :
    PS X (.Assign [.Subscript o x pos'] value pos) (TSo Γ W (mDputN i mx mv)) := ps_mono (ps_dputN hu hG ho hx hv hs) fun D σ H ⟨H0, M0, M, ad, ρ, S, p⟩ => by
  unfold mDputN at p
  split at p
  · rename_i z e0
    cases e3 : unN z with
    | none => simp only [e3] at p; exact p.elim
    | some ds =>
      simp only [e3] at p
      obtain rfl := unN_some e3
      refine ⟨M, ad, ρ, S.st, (PstS.lift S p).imp fun v H1 e1 ⟨S1, p1⟩ vv rv => ?_⟩
      obtain ⟨v0, h1, h2⟩ := S1.st.sl i _ e0
      obtain ⟨rfl, hM, xs, h3, h4⟩ := h2.din_of
      refine ⟨_, h1, M, ad, ρ, S1.st, (PstS.lift S1 p1).imp fun k H2 e2 ⟨S2, p2⟩ kv rk => ?_⟩
      cases e4 : keyN k with
      | none => rw [e4] at p2; exact p2.elim
      | some kk =>
        rw [e4] at p2
        simp only at p2
        obtain ⟨bb, rfl, hk, rfl⟩ := rk.key_of e4
        by_cases hl : ds.length < sizeLine
        · rw [if_pos hl] at p2
          refine ⟨ad i, bb, xs, ds, kk, rfl, rfl, e2 _ _ h3, h4.mono ((hid_same e2).trans (hid_le M H2)), hk.mono (hid_le M H2), by rw [h4.length]; exact hl, p2 M ad σ _ (S2.mut (x := mkN ds) e0 rfl ⟨rfl, hM, .inr ⟨_, _, rfl, upd_same, ?_⟩⟩)⟩
          exact RpN.put (hk.1.mono (hid_upd hM)) hk.2 (rv.mono ((hid_same e2).trans (hid_upd hM))) (h4.mono ((hid_same e2).trans (hid_upd hM)))
        · rw [if_neg hl] at p2; exact p2.elim
  · exact p.elim
def mDsetdN (i : Nat) (mx mv : Sto → R PD) : Sto → R Out := fun ρ => match ρ[i]? with
  | some (.ov z) => match unN z with
    | some ds => lift (mx ρ) ρ fun k => lift (mv ρ) ρ fun v => match keyN k with
      | some _ => if ds.length < sizeLine then .ok (.nx (if (lookD ds k).isSome then ρ else ρ.set i (.ov (mkN (putD ds k v))))) else .stuck
      | none => .stuck
    | none => .stuck
  | _ => .stuck
theorem s_dsetdN (i : Nat) {o e f : Expr} {mx mv : Sto → R PD} (hu : X.A.units + 9 < cLine) (hG : GX X Γ) (ho : PE X o (tVar i)) (hx : PE X e (TEo Γ W mx)) (hv : PE X f (TEo Γ W mv)) (m : M2 X o "setdefault" apos e f cpos := by exact ⟨rfl, rfl, rfl, rfl⟩) (hs : swapsWith (.Call (.Attribute o "setdefault" apos) [e, f] [] cpos) none pos.line X.env = pure false := by rfl) :
    PS X (.Expr (.Call (.Attribute o "setdefault" apos) [e, f] [] cpos) pos) (TSo Γ W (mDsetdN i mx mv)) := ps_mono (ps_expr (pe_dsetdN hu hG ho hx hv m) hs) fun D σ H ⟨H0, M0, M, ad, ρ, S, p⟩ => by
  unfold mDsetdN at p
  split at p
  · rename_i z e0
    cases e3 : unN z with
    | none => simp only [e3] at p; exact p.elim
    | some ds =>
      simp only [e3] at p
      obtain rfl := unN_some e3
      obtain ⟨v0, h1, h2⟩ := S.st.sl i _ e0
      obtain ⟨rfl, hM, xs, h3, h4⟩ := h2.din_of
      refine ⟨_, h1, ad i, xs, rfl, .inl h3, M, ad, ρ, S.st, (PstS.lift S p).imp fun k H1 e1 ⟨S1, p1⟩ kv rk => ⟨M, ad, ρ, S1.st, (PstS.lift S1 p1).imp fun v H2 e2 ⟨S2, p2⟩ vv rv => ?_⟩⟩
      cases e4 : keyN k with
      | none => rw [e4] at p2; exact p2.elim
      | some kk =>
        rw [e4] at p2
        simp only at p2
        obtain ⟨bb, rfl, hk, rfl⟩ := rk.key_of e4
        by_cases hl : ds.length < sizeLine
        · rw [if_pos hl] at p2
          refine ⟨bb, xs, ds, kk, hid M H2, rfl, e2 _ _ (e1 _ _ h3), hid_le M H2, h4.mono ((hid_same e1).trans (hid_same e2)), hk.mono (Same.trans (hid_same e2) (hid_le M H2)), by rw [h4.length]; exact hl, fun d h v _ => ?_, fun h => ?_⟩
          · rw [h] at p2
            exact p2 M ad σ _ S2
          · rw [h] at p2
            refine p2 M ad σ _ (S2.mut (x := mkN ds) e0 rfl ⟨rfl, hM, .inr ⟨_, _, rfl, upd_same, ?_⟩⟩)
            exact RpN.put (hk.1.mono ((hid_same e2).trans (hid_upd hM))) hk.2 (rv.mono (hid_upd hM)) (h4.mono ((hid_same e1).trans ((hid_same e2).trans (hid_upd hM))))
        · rw [if_neg hl] at p2; exact p2.elim
  · exact p.elim
end
end Lilt

set_option Elab.async false
set_option linter.all false
set_option maxRecDepth 100000
set_option maxHeartbeats 2000000
set_option autoImplicit false
namespace Lilt
open PySem L2 PySem.Spec PyProof.Rows
section
variable {X : Cx} {Γ : Gm} {W : WX} {M M' M0 : Addr → Prop} {ad : Nat → Addr} {ρ ρ' : Sto} {σ : L2.St} {H H' H0 F : Hp} {pins : List (Addr × Obj)} {s : Shared}
variable {o i e f value : Expr} {pos pos' apos cpos : Pos} {td ty tv tx : TE} {ma mb mc mk mv : Sto → R PD}

/-! ## {} and {k: v} -/
theorem dnp_empty {P : Program} {w : World} (h : Heap) (hb : sysModules < h.objs.size) : DNp P w h.objs.size [] (h.push { cls := .type "dict", data := .dict #[] }) :=
  ⟨Nat.zero_le _, beq_eq_false_iff_ne.mpr (Ne.symm (Nat.ne_of_lt hb)), [], .nil, _, #[], 0, Heap.get?_push_size _ rfl, ⟨rfl, rfl, rfl⟩, rfl, rfl, List.nodup_nil⟩
theorem ef_dnewN (hG : GX X Γ) : PE X (.Dict [] [] pos) (TFo Γ W (mC (mkN []))) := ⟨fun pins s σ H Q I ⟨M, ad, ρ, S, p⟩ =>
  wpAny_Dict_empty ⟨.ref s.heap.objs.size, _, I.laid (a := s.heap.objs.size) (o := DNo Γ s.heap.objs.size []) (t' := s.toks) (fun _ _ q => Heap.get?_push_of_some _ q) (Nat.le_refl _) (dn_obj hG.prog.symm hG.w.symm (dnp_empty s.heap I.big)), rfl,
    p _ (same_new (I.hok.fresh (Nat.le_refl _))) _ (.inr ⟨rfl, _, I.hok.fresh (Nat.le_refl _), rfl, .inr rfl, .inr ⟨[], [], rfl, upd_same, .nil⟩⟩)⟩⟩
def tDispN (Γ : Gm) (tk tv : TE) : TE := fun σ H Q => ∀ p, H p = none → tk σ (upd H p (DNo Γ p [])) fun x H1 => tv σ H1 fun y H2 => ∃ b k, x = .ref b ∧ NKy Γ H2 b k ∧ H2 p = some (DNo Γ p []) ∧ Q (.ref p) (upd H2 p (DNo Γ p [(k, b, y)]))
theorem pe_dispN {k v : Expr} {tk tv : TE} (hu : X.A.units + 9 < cLine) (hG : GX X Γ) (hk : PE X k tk) (hv : PE X v tv) : PE X (.Dict [some k] [v] pos) (tDispN Γ tk tv) := by
  refine ⟨fun pins s σ H Q I q => ?_⟩
  have hn := I.hok.fresh (Nat.le_refl s.heap.objs.size)
  have I1 := I.laid (a := s.heap.objs.size) (o := DNo Γ s.heap.objs.size []) (h' := s.heap.push { cls := .type "dict", data := .dict #[] }) (t' := s.toks) (fun _ _ q => Heap.get?_push_of_some _ q) (Nat.le_refl _) (dn_obj hG.prog.symm hG.w.symm (dnp_empty s.heap I.big))
  rw [arm_eval_Dict, zip_pairTrees [some k] [v] X.env pos rfl rfl, dictDisplay_pairs (pairTrees [some k] [v] X.env pos) (by simp [pairTrees]) (by simp [pairTrees])]
  refine wpAny_bind (wpAny_standAt (wpAny_bind (wpAny_subDictH (knd := nestedKind X.prog X.w) (Q := fun d s' => wpAny (model X.prog X.w) X.A (pure (Value.ref d)) _ _ s') (show X.A.units + 8 < cLine by omega) (by simp [pairTrees]) ?_)))
  refine pairTrees_cons_walk (thn (hk.run pins _ σ _ _ I1 (q _ hn)) fun u s1 ⟨x, H1, I2, rx, q1⟩ => thn (hv.run pins s1 σ H1 _ I2 q1) fun w2 s2 ⟨y, H2, I3, ry, b, kk, ex, hb, hp, q2⟩ => pairTrees_nil_walk ?_)
  subst ex
  obtain rfl : u = Value.ref b := rx
  obtain ⟨z, hm, vs, nv, dd⟩ := dn_rd (Γ := Γ) (ds := []) I3 hG (.inl hp) .nil
  cases nv
  refine ⟨[(kk, b, w2)], ⟨rfl, rfl, hb.is I3 hG.K, trivial⟩, dd, fun h' tk dd' hs => wpAny_pure ⟨.ref s.heap.objs.size, _, ?_, rfl, q2⟩⟩
  obtain ⟨ob, es, ep, h1, h2, h3, h4, _, h5⟩ := dd'
  exact d_write I3 (by rw [hp]; exact True.intro) hs ⟨ob, h1⟩ (dn_obj hG.prog.symm hG.w.symm ⟨by show 1 ≤ sizeLine; decide, hm, [(kk, b, w2)], .cons ⟨rfl, rfl, ry⟩ .nil, ob, es, ep, h1, h2, h3, h4, h5⟩)
def ddisp1N (k v : PD) : R PD := match keyN k with
  | some _ => .ok (mkN [(k, v)])
  | none => .stuck
theorem ef_ddisp1N {k v : Expr} {mk mv : Sto → R PD} (hu : X.A.units + 9 < cLine) (hG : GX X Γ) (hk : PE X k (TEo Γ W mk)) (hv : PE X v (TEo Γ W mv)) : PE X (.Dict [some k] [v] pos) (TFo Γ W (mBin ddisp1N mk mv)) :=
  pe_mono (pe_dispN hu hG hk hv) fun σ H Q ⟨M, ad, ρ, S, p⟩ q hq => by
    have S1 : Ste Γ (insM M q) ad ρ σ (upd H q (DNo Γ q [])) := S.more hq (same_new hq) upd_same
    cases e1 : mk ρ with
    | stuck => simp only [mBin, e1] at p; exact p.elim
    | exc z =>
      simp only [mBin, e1] at p
      refine ⟨insM M q, ad, ρ, S1, ?_⟩
      rw [e1]
      exact fun cls dx H' e => p cls dx H' ((same_new hq).trans e)
    | ok x =>
      simp only [mBin, e1, R.bind_ok] at p
      refine ⟨insM M q, ad, ρ, S1, ?_⟩
      rw [e1]
      intro H1 e2 v rv
      refine ⟨insM M q, ad, ρ, S1.mono e2, ?_⟩
      cases e3 : mv ρ with
      | stuck => rw [e3] at p; exact p.elim
      | exc z =>
        rw [e3] at p
        exact fun cls dx H' e => p cls dx H' (((same_new hq).trans e2).trans e)
      | ok y =>
        rw [e3] at p
        have p : Pst Γ W σ H (fun d H' => ∀ v, FrO Γ M H H' v d → Q v H') (ddisp1N x y) := p
        intro H2 e4 w rw_
        unfold ddisp1N at p
        cases hk : keyN x with
        | none => rw [hk] at p; exact p.elim
        | some k =>
          rw [hk] at p
          obtain ⟨bb, rfl, hb, rfl⟩ := rv.key_of hk
          have eq1 : H2 q = some (DNo Γ q []) := e4 _ _ (e2 _ _ upd_same)
          refine ⟨bb, k, rfl, (hb.mono (hid_same e4)).mono (hid_le _ _), eq1, ?_⟩
          refine p _ (fun a o h => ?_) _ (.inr ⟨rfl, q, hq, rfl, .inr rfl, .inr ⟨[(k, bb, w)], [(k.data, y)], rfl, upd_same, .cons ((hb.1.mono (hid_same e4)).mono (hid_upd (.inr rfl))) hb.2 (rw_.mono (hid_upd (.inr rfl))) .nil⟩⟩)
          rw [upd_ne (ne_of_none h hq)]
          exact e4 _ _ (e2 _ _ (same_new hq _ _ h))

/-! ## list(d) -/
def listDN : List PD → R PD
  | [x] => match unN x with
    | some ds => .ok (.list (ds.map (·.1)))
    | none => .stuck
  | _ => .stuck
def rListDN (Γ : Gm) : List V → Hp → VK → Prop := fun xs H Q => ∃ d ks, xs = [V.ref d] ∧ Rd H d (DNo Γ d ks) ∧ ∀ p, H p = none → Q (.ref p) (upd H p (.lst (ks.map fun k => V.ref k.2.1)))
theorem nv_keys {vs : List (NestedKey × Addr × Value)} : ∀ {xs : List (NestedKey × Addr × V)}, NV xs vs → (vs.map fun x => x.2.1) = xs.map fun x => x.2.1 := by
  intro xs h
  unfold NV at h
  induction h with
  | nil => rfl
  | cons p t ih => rw [List.map_cons, List.map_cons, ih, p.2.1]
theorem call_list_dN (hc : X.calm = true) (hG : GX X Γ) : CallR X (.type "list") (rListDN Γ) := by
  intro pins s σ H xs us Q I r h
  obtain ⟨d, kvs, rfl, hd, q⟩ := h
  obtain ⟨u, rfl, rx⟩ := r.one
  cases rx
  obtain ⟨p, _, _⟩ := (show ObjOk X.prog X.w H s.heap d (.ext (DNp Γ.prog Γ.w d kvs)) from hd.ok I.hok)
  obtain ⟨z, hs, ks, pr, o, es, ep, ho, hx, hdt, he, hn⟩ := p
  have l1 : es.size = ks.length := size_of_entries he
  have l2 : kvs.length = ks.length := pr.length
  refine PySem.W.kdl_call (kdl_raw hs hx hdt) (I.ok.hd hc) ho (by omega) fun h' tk acc' c' kp e it => ?_
  have ea : acc'.toList = ks.map fun x => Value.ref x.2.1 := by
    have hl : acc'.toList.length = ks.length := by rw [Array.length_toList, it.1]; exact l1
    apply List.ext_getElem?
    intro j
    rw [List.getElem?_map]
    cases hj : acc'.toList[j]? with
    | none =>
      have h1 := List.getElem?_eq_none_iff.mp hj
      rw [List.getElem?_eq_none (by omega)]
      all_goals rfl
    | some v =>
      obtain ⟨en, hen, hv⟩ := it.2 j v (by rw [← Array.getElem?_toList]; exact hj)
      have qe := entry_at he j
      rw [hen] at qe
      cases hb : ks[j]? with
      | none =>
        rw [hb] at qe
        exact nomatch (show some en = none from qe)
      | some b =>
        rw [hb] at qe
        have e2 : en = entryOfKey (nestedKind Γ.prog Γ.w) b := Option.some.inj qe
        rw [hv, e2]
        all_goals rfl
  have eb : acc'.toList = (ks.map fun x => x.2.1).map Value.ref := by rw [ea, List.map_map]; all_goals rfl
  have rv : Vals ((ks.map fun x => x.2.1).map V.ref) acc'.toList := by rw [eb]; exact vals_refs _
  have hz : ((ks.map fun x => x.2.1).map V.ref).length ≤ sizeLine := by rw [List.length_map, List.length_map]; omega
  have ek : (ks.map fun x => x.2.1).map V.ref = kvs.map fun k => V.ref k.2.1 := by rw [nv_keys pr, List.map_map]; rfl
  refine ⟨.ref s.heap.objs.size, _, I.laid (t' := tk) (o := .lst ((ks.map fun x => x.2.1).map V.ref)) kp (Nat.le_refl _) ?_, rfl, ?_⟩
  · exact ⟨hz, acc'.toList, c', rv, by rw [Array.toArray_toList]; exact e⟩
  · rw [ek]; exact q _ (I.hok.fresh (Nat.le_refl _))
theorem RpN.keys {F : Hp} : ∀ {xs : List (NestedKey × Addr × V)} {ds : List (PD × PD)}, RpN Γ F xs ds → RpA Γ F (xs.map fun k => V.ref k.2.1) (ds.map (·.1))
  | _, _, .nil => .nil
  | _, _, .cons h1 _ _ r => .cons h1 (RpN.keys r)
theorem s_listDN : CalF Γ W (rListDN Γ) listDN := by
  intro M σ H Q vs xs i rv p
  unfold listDN at p
  split at p
  · obtain ⟨v, rfl, r⟩ := rv.one
    split at p
    · rename_i e
      obtain rfl := unN_some e
      obtain ⟨a, ks, rfl, h1, h2⟩ := r.din_of
      exact ⟨a, ks, rfl, rd_same (hid_le M H) h1, fun l hl => p _ (same_new hl) _ (.inr ⟨rfl, l, hl, insM_hid hl (Same.refl H) h2.keys⟩)⟩
    · exact p.elim
  · exact p.elim
/-- .. of a dict of ints and texts -/
def listDK : List PD → R PD
  | [.dict ds] => if isTag ds then .stuck else .ok (.list (ds.map (·.1)))
  | _ => .stuck
theorem RpK.keysA {F : Hp} : ∀ {xs : List (Key × V)} {ds : List (PD × PD)}, RpK Γ F xs ds → RpA Γ F (xs.map fun kv => kV kv.1) (ds.map (·.1))
  | _, _, .nil => .nil
  | _, _, .cons h r => .cons (rp_kV _) (RpK.keysA r)
theorem s_listDK : CalF Γ W (fun xs H Q => ∃ (a : Addr) (kvs : List (L2.Key × V)), xs = [V.ref a] ∧ Rd H a (.dK kvs) ∧ ∀ p, H p = none → Q (.ref p) (upd H p (.lst (kvs.map fun kv => kV kv.1)))) listDK := by
  intro M σ H Q vs xs i rv p
  unfold listDK at p
  split at p
  · obtain ⟨v, rfl, r⟩ := rv.one
    split at p
    · exact p.elim
    · rename_i nt
      obtain ⟨a, ks, rfl, h1, h2⟩ := r.dik_of (by simpa using nt)
      exact ⟨a, ks, rfl, rd_same (hid_le M H) h1, fun l hl => p _ (same_new hl) _ (.inr ⟨rfl, l, hl, insM_hid hl (Same.refl H) h2.keysA⟩)⟩
  · exact p.elim

/-! ## d != {}, d == {} -/
theorem raw_same_empty {P : Program} {w : World} {A : Around} {E : Value → Shared → Prop} {nm : String} {a b : Addr} {oa ob : Obj} {es es' : Array DictEntry} {ep ep' : Nat} {Q : Bool → Shared → Prop} (ha : (a == sysModules) = false) (hb : (b == sysModules) = false)
    (hoa : s.heap.get? a = some oa) (hda : oa.data = .dict es ep) (hob : s.heap.get? b = some ob) (hdb : ob.data = .dict es' ep') (h0 : es'.size = 0) (h : Q (es.size == 0) s) : wpAny (model P w) A (Builtin.Dict.samePairs nm a b) Q E s := by
  unfold Builtin.Dict.samePairs Builtin.Dict.showsAll
  rw [if_neg (show ¬ (a == sysModules) = true by rw [ha]; exact Bool.false_ne_true), if_neg (show ¬ (b == sysModules) = true by rw [hb]; exact Bool.false_ne_true)]
  refine wpAny_bind (wpAny_pure (wpAny_bind (wpAny_pure ?_)))
  refine wpAny_bind (wpAny_dictEntries hoa hda ?_)
  dsimp only
  refine wpAny_bind (wpAny_dictEntries hob hdb ?_)
  by_cases hsz : es.size = es'.size
  case neg =>
    rw [if_pos (by simpa using hsz)]
    have hbf : (es.size == 0) = false := by rw [h0] at hsz; simpa using hsz
    rw [hbf] at h
    exact wpAny_bind (wpAny_rule (wpAny_pure h))
  case pos =>
    have hbt : (es.size == 0) = true := by rw [h0] at hsz; simpa using hsz
    rw [hbt] at h
    rw [if_neg (by rw [hsz]; simp)]
    refine wpAny_bind (wpAny_dictEpoch hoa hda ?_)
    refine wpAny_bind ?_
    rw [Std.Legacy.Range.forIn_eq_forIn_range']
    simp only [Std.Legacy.Range.size, Nat.sub_zero, Nat.add_sub_cancel, Nat.div_one]
    have e0 : es.size = 0 := by rw [hsz]; exact h0
    rw [e0]
    simp only [List.range'_zero, List.forIn_nil]
    exact wpAny_pure (wpAny_pure h)
theorem raw_ne_empty {P : Program} {w : World} {A : Around} {E : Value → Shared → Prop} {a b : Addr} {oa ob : Obj} {es es' : Array DictEntry} {ep ep' : Nat} {Q : Value → Shared → Prop} (ha : (a == sysModules) = false) (hb : (b == sysModules) = false)
    (hoa : s.heap.get? a = some oa) (hxa : oa.ExactDict) (hda : oa.data = .dict es ep) (hob : s.heap.get? b = some ob) (hxb : ob.ExactDict) (hdb : ob.data = .dict es' ep') (h0 : es'.size = 0) (hu : A.units < cLine) (h : Q (.bool (!(es.size == 0))) s) :
    wpAny (model P w) A (compareOp .NotEq (.ref a) (.ref b)) Q E s := by
  have ta : s.TypeIs (.ref a) "dict" := ⟨oa, hoa, hxa.1⟩
  have tb : s.TypeIs (.ref b) "dict" := ⟨ob, hob, hxb.1⟩
  refine wpAny_richCompare_same_room (op := .NotEq) ta tb PySem.F.slot_dict_ne (wpAny_call_entry PySem.F.slot_dict_ne ta PySem.F.entry_dict_ne ?_ (PySem.F.args_dict_ne_2 _ _)) hu
  show wpAny _ _ (Builtin.Dict.dictSlotArgs "__ne__" ⟨[.ref a, .ref b], []⟩ >>= _) _ _ s
  refine wpAny_bind ?_
  unfold Builtin.Dict.dictSlotArgs
  refine wpAny_bind (wpAny_notOrdered_dict ta ?_)
  show wpAny _ _ (pure (Value.ref a, Value.ref b)) _ _ s
  refine wpAny_pure ?_
  refine wpAny_bind (wpAny_isInstance (T := "dict") tb PySem.F.sub_dict_dict ?_)
  simp only [Bool.not_true, Bool.false_eq_true, if_false]
  refine wpAny_bind (wpAny_pure (wpAny_bind (wpAny_pure ?_)))
  refine wpAny_bind (raw_same_empty ha hb hoa hda hob hdb h0 ?_)
  refine wpAny_pure ⟨_, rfl, ?_, ?_⟩
  · exact fun x => nomatch x
  · simpa using h
def rNeDN (Γ : Gm) : R2 := fun x y H Q => ∃ a b xs, x = .ref a ∧ y = .ref b ∧ Rd H a (DNo Γ a xs) ∧ Rd H b (DNo Γ b []) ∧ Q (.bl (!xs.isEmpty)) H
theorem op_neDictN (hu : X.A.units < cLine) (hG : GX X Γ) : OpR X (compareOp .NotEq) (rNeDN Γ) := by
  intro pins s σ H x y v u Q I rx ry h
  obtain ⟨a, b, xs, rfl, rfl, ea, eb, q⟩ := h
  obtain rfl : v = Value.ref a := rx
  obtain rfl : u = Value.ref b := ry
  obtain ⟨p, _, _⟩ := (show ObjOk X.prog X.w H s.heap a (.ext (DNp Γ.prog Γ.w a xs)) from ea.ok I.hok)
  obtain ⟨p', _, _⟩ := (show ObjOk X.prog X.w H s.heap b (.ext (DNp Γ.prog Γ.w b [])) from eb.ok I.hok)
  obtain ⟨_, h2, vs, nv, o, es, ep, h3, h4, h5, h6, _⟩ := p
  obtain ⟨_, g2, vs', nv', o', es', ep', g3, g4, g5, g6, _⟩ := p'
  have l1 : es.size = vs.length := size_of_entries h6
  have l2 : es'.size = vs'.length := size_of_entries g6
  have l3 := nv'.length
  have l4 := nv.length
  refine raw_ne_empty h2 g2 h3 h4 h5 g3 g4 g5 (by rw [l2, ← l3]; rfl) hu ⟨.bl _, H, I, rfl, ?_⟩
  have e : (!(es.size == 0)) = !xs.isEmpty := by
    rw [l1, ← l4]
    cases xs <;> rfl
  rw [e]
  exact q
def neDictN (x y : PD) : R PD := match unN x, unN y with
  | some ds, some [] => .ok (.bool (!ds.isEmpty))
  | _, _ => .stuck
theorem s_neDictN : OpS Γ W (rNeDN Γ) neDictN := by
  intro M σ H Q v w x y i rv rw_ p
  unfold neDictN at p
  split at p
  · rename_i ds e1 e2
    obtain rfl := unN_some e1
    obtain rfl := unN_some e2
    obtain ⟨a, xs, rfl, h1, h2⟩ := rv.din_of
    obtain ⟨b, ys, rfl, g1, g2⟩ := rw_.din_of
    cases g2
    refine ⟨a, b, xs, rfl, rfl, rd_same (hid_le M H) h1, rd_same (hid_le M H) g1, ?_⟩
    have e : xs.isEmpty = ds.isEmpty := by cases h2 <;> rfl
    rw [e]
    exact p.now _ (.bl _)
  · exact p.elim
end
end Lilt

set_option Elab.async false
set_option linter.all false
set_option maxRecDepth 100000
set_option maxHeartbeats 2000000
set_option autoImplicit false
namespace Lilt
open PySem L2 PySem.Spec PyProof.Rows
/-! ## locking keeps what is read -/
structure RdLe (F F' : Hp) : Prop where
  rd : ∀ (a : Addr) (u : HO), (∀ o u', u ≠ .frz o u') → Rd F a u → Rd F' a u
  ins : ∀ (a C dx : Addr) (fs : List (Str × V)), F a = some (.ins C dx fs) → F' a = some (.ins C dx fs)
theorem RdLe.same {F F' : Hp} (e : Same F F') : RdLe F F' := ⟨fun _ _ _ h => rd_same e h, fun _ _ _ _ h => e _ _ h⟩
theorem RdLe.trans {F F' F'' : Hp} (h : RdLe F F') (k : RdLe F' F'') : RdLe F F'' := ⟨fun a u n r => k.rd a u n (h.rd a u n r), fun a C dx fs r => k.ins _ _ _ _ (h.ins _ _ _ _ r)⟩
theorem RdLe.dk {F F' : Hp} {a : Addr} {kvs : List (Key × V)} (e : RdLe F F') (h : Rd F a (.dK kvs)) : Rd F' a (.dK kvs) := e.rd _ _ (fun _ _ z => nomatch z) h
theorem RdLe.dn {Γ : Gm} {F F' : Hp} {a : Addr} {xs : List (NestedKey × Addr × V)} (e : RdLe F F') (h : Rd F a (DNo Γ a xs)) : Rd F' a (DNo Γ a xs) := e.rd _ _ (fun _ _ z => nomatch z) h
theorem RdLe.in_ {F F' : Hp} {a C dx : Addr} {fs : List (Str × V)} (e : RdLe F F') (h : F a = some (.ins C dx fs)) : F' a = some (.ins C dx fs) := e.ins _ _ _ _ h
theorem sqL_rdLe {K : PySem.W.Frag} {F F' : Hp} {a : Addr} {xs : List V} (e : RdLe F F') (h : SqL K F a xs) : SqL K F' a xs := h.imp (e.rd _ _ fun _ _ z => nomatch z) id
theorem sqT_rdLe {K : PySem.W.Frag} {F F' : Hp} {a : Addr} {xs : List V} (e : RdLe F F') (h : SqT K F a xs) : SqT K F' a xs := h.imp (e.rd _ _ fun _ _ z => nomatch z) id
mutual
theorem Rp.monoR {Γ : Gm} {F F' : Hp} (e : RdLe F F') : ∀ {v : V} {d : PD}, Rp Γ F v d → Rp Γ F' v d
  | _, _, .non => .non
  | _, _, .bl b => .bl b
  | _, _, .int i => .int i
  | _, _, .str x => .str x
  | _, _, .lst h r => .lst (sqL_rdLe e h) (RpA.monoR e r)
  | _, _, .tup h r => .tup (sqT_rdLe e h) (RpA.monoR e r)
  | _, _, .dik h r => .dik (RdLe.dk e h) (RpK.monoR e r)
  | _, _, .din h r => .din (RdLe.dn e h) (RpN.monoR e r)
  | _, _, .obj h r => .obj (RdLe.in_ e h) (RpF.monoR e r)
theorem RpA.monoR {Γ : Gm} {F F' : Hp} (e : RdLe F F') : ∀ {v : List V} {d : List PD}, RpA Γ F v d → RpA Γ F' v d
  | _, _, .nil => .nil
  | _, _, .cons h r => .cons (Rp.monoR e h) (RpA.monoR e r)
theorem RpK.monoR {Γ : Gm} {F F' : Hp} (e : RdLe F F') : ∀ {v : List (Key × V)} {d : List (PD × PD)}, RpK Γ F v d → RpK Γ F' v d
  | _, _, .nil => .nil
  | _, _, .cons h r => .cons (Rp.monoR e h) (RpK.monoR e r)
theorem RpN.monoR {Γ : Gm} {F F' : Hp} (e : RdLe F F') : ∀ {v : List (NestedKey × Addr × V)} {d : List (PD × PD)}, RpN Γ F v d → RpN Γ F' v d
  | _, _, .nil => .nil
  | _, _, .cons h1 h2 h3 r => .cons (Rp.monoR e h1) h2 (Rp.monoR e h3) (RpN.monoR e r)
theorem RpF.monoR {Γ : Gm} {F F' : Hp} (e : RdLe F F') : ∀ {v : List (Str × V)} {d : List (PD × PD)}, RpF Γ F v d → RpF Γ F' v d
  | _, _, .nil => .nil
  | _, _, .cons h r => .cons (Rp.monoR e h) (RpF.monoR e r)
end
section
variable {X : Cx} {Γ : Gm} {W : WX} {M M' M0 : Addr → Prop} {ad : Nat → Addr} {ρ ρ' : Sto} {σ : L2.St} {H H' H0 F : Hp} {pins : List (Addr × Obj)} {s : Shared}
theorem RpO.moveR {a : Addr} {v : V} (e : RdLe (hid M H) (hid M' H')) : ∀ {x : PD}, RpO Γ M H a v x → (ownD x = true → M' a ∧ ∀ o, H a = some o → H' a = some o) → RpO Γ M' H' a v x
  | .none, h, _ => Rp.monoR e h
  | .bool _, h, _ => Rp.monoR e h
  | .int _, h, _ => Rp.monoR e h
  | .str _, h, _ => Rp.monoR e h
  | .tuple _, h, _ => Rp.monoR e h
  | .list _, ⟨h1, h2, vs, h3, h4⟩, k => ⟨h1, (k rfl).1, vs, (k rfl).2 _ h3, RpA.monoR e h4⟩
  | .dict _, ⟨h1, h2, .inl ⟨vs, h3, h4⟩⟩, k => ⟨h1, (k rfl).1, .inl ⟨vs, (k rfl).2 _ h3, RpK.monoR e h4⟩⟩
  | .dict _, ⟨h1, h2, .inr ⟨vs, es, h5, h3, h4⟩⟩, k => ⟨h1, (k rfl).1, .inr ⟨vs, es, h5, (k rfl).2 _ h3, RpN.monoR e h4⟩⟩
theorem SlOk.moveR {a : Addr} {o : Option (Option V)} (e : RdLe (hid M H) (hid M' H')) : ∀ {s : Sl}, SlOk Γ M H a o s → (s.own = true → M' a ∧ ∀ o, H a = some o → H' a = some o) → SlOk Γ M' H' a o s
  | .un, _, _ => trivial
  | .d _, ⟨v, h, r⟩, _ => ⟨v, h, r.monoR e⟩
  | .ov _, ⟨v, h, r⟩, k => ⟨v, h, r.moveR e k⟩
/-- the thing at a is changed to o, which is read as it was -/
theorem Ste.moveR {a : Addr} {o : HO} (S : Ste Γ M ad ρ σ H) (e : RdLe (hid M H) (hid M (upd H a o))) (hn : ∀ (i : Nat) (s : Sl), ρ[i]? = some s → s.own = true → ad i ≠ a) : Ste Γ M ad ρ σ (upd H a o) :=
  ⟨fun b m => by
    by_cases hb : b = a
    · subst hb; exact ⟨o, upd_same⟩
    · rw [upd_ne hb]; exact S.in_ b m, S.len, fun i s h => (S.sl i s h).moveR e fun os => ⟨((S.sl i s h).ownM os).1, fun u q => by rw [upd_ne (hn i s h os)]; exact q⟩, S.dj⟩
/-- what may be locked by a walk -/
def Lk (u : HO) : Prop := (∀ o u', u ≠ .frz o u') ∧ (∀ C dx fs, u ≠ .ins C dx fs)
theorem rdLe_lock {a : Addr} {u : HO} {od : Obj} (h : H a = some u) (k : Lk u) : RdLe (hid M H) (hid M (upd H a (.frz od u))) := by
  refine ⟨fun b v n r => ?_, fun b C dx fs r => ?_⟩
  · rcases r with r | ⟨o, r⟩
    · obtain ⟨nm, r⟩ := hid_some r
      by_cases hb : b = a
      · subst hb
        rw [h] at r
        obtain rfl := Option.some.inj r
        exact .inr ⟨od, hid_of nm upd_same⟩
      · exact .inl (hid_of nm (by rw [upd_ne hb]; exact r))
    · obtain ⟨nm, r⟩ := hid_some r
      by_cases hb : b = a
      · subst hb
        rw [h] at r
        exact absurd (Option.some.inj r) (k.1 _ _)
      · exact .inr ⟨o, hid_of nm (by rw [upd_ne hb]; exact r)⟩
  · obtain ⟨nm, r⟩ := hid_some r
    by_cases hb : b = a
    · subst hb
      rw [h] at r
      exact absurd (Option.some.inj r) (k.2 _ _ _)
    · exact hid_of nm (by rw [upd_ne hb]; exact r)
theorem rdLe_unlock {a : Addr} {u : HO} {od : Obj} (h : H a = some (.frz od u)) (sub : ∀ b, M' b → M b) : RdLe (hid M H) (hid M' (upd H a u)) := by
  refine ⟨fun b v n r => ?_, fun b C dx fs r => ?_⟩
  · rcases r with r | ⟨o, r⟩
    · obtain ⟨nm, r⟩ := hid_some r
      by_cases hb : b = a
      · subst hb
        rw [h] at r
        exact absurd (Option.some.inj r).symm (n _ _)
      · exact .inl (hid_of (fun m => nm (sub _ m)) (by rw [upd_ne hb]; exact r))
    · obtain ⟨nm, r⟩ := hid_some r
      by_cases hb : b = a
      · subst hb
        rw [h] at r
        cases r
        exact .inl (hid_of (fun m => nm (sub _ m)) upd_same)
      · exact .inr ⟨o, hid_of (fun m => nm (sub _ m)) (by rw [upd_ne hb]; exact r)⟩
  · obtain ⟨nm, r⟩ := hid_some r
    by_cases hb : b = a
    · subst hb; rw [h] at r; cases r
    · exact hid_of (fun m => nm (sub _ m)) (by rw [upd_ne hb]; exact r)
theorem Ste.rebase (S : Ste Γ M ad ρ σ H) : StS Γ (reb ρ ad H) (rebM ρ ad M) M ad ρ σ H := by
  refine ⟨S, fun a o h => (reb_some h).2, fun a m => m.1, fun a m => ?_, fun a o m h => ⟨m, (reb_some h).1⟩, fun i s h os => ?_⟩
  · obtain ⟨o, h⟩ := S.in_ a m.1
    exact ⟨o, reb_of m.2 h⟩
  · unfold reb
    rw [if_pos ⟨i, s, h, os, rfl⟩]
theorem Ste.rebF (S : Ste Γ M ad ρ σ H) : Same (hid M H) (hid (rebM ρ ad M) (reb ρ ad H)) := fun a o h => by
  obtain ⟨n, h⟩ := hid_some h
  refine hid_of (fun m => n m.1) (reb_of ?_ h)
  rintro ⟨i, s, h1, h2, rfl⟩
  exact n ((S.sl i s h1).ownM h2).1
/-- the locked state, unlocked -/
theorem StS.unlk {a : Addr} {u : HO} {od : Obj} {ad' : Nat → Addr} {σ' : L2.St} (S : StS Γ H0 M0 M ad ρ σ H) (ha : H a = some u) (na : ¬ M a) (T : StS Γ (reb ρ ad (upd H a (.frz od u))) (rebM ρ ad M) M' ad' ρ' σ' H') :
    H' a = some (.frz od u) ∧ StS Γ H0 M0 M' ad' ρ' σ' (upd H' a u) := by
  have hs : ∀ b o, H b = some o → (¬ ∃ (i : Nat) (s : Sl), ρ[i]? = some s ∧ s.own = true ∧ ad i = b) → ∃ o', reb ρ ad (upd H a (.frz od u)) b = some o' ∧ (b ≠ a → o' = o) := fun b o h n => by
    by_cases hb : b = a
    · subst hb; exact ⟨_, reb_of n upd_same, fun z => absurd rfl z⟩
    · exact ⟨o, reb_of n (by rw [upd_ne hb]; exact h), fun _ => rfl⟩
  have k0 : ∀ b o, H0 b = some o → ¬ ∃ (i : Nat) (s : Sl), ρ[i]? = some s ∧ s.own = true ∧ ad i = b := by
    rintro b o h ⟨i, s, h1, h2, rfl⟩
    rw [S.own i s h1 h2] at h
    cases h
  have nown : ¬ ∃ (i : Nat) (s : Sl), ρ[i]? = some s ∧ s.own = true ∧ ad i = a := by
    rintro ⟨i, s, h1, h2, rfl⟩
    exact na ((S.st.sl i s h1).ownM h2).1
  have ba : reb ρ ad (upd H a (.frz od u)) a = some (.frz od u) := reb_of nown upd_same
  have e1 : H' a = some (.frz od u) := T.ex _ _ ba
  refine ⟨e1, T.st.moveR (rdLe_unlock e1 fun _ m => m) (fun i s h os q => ?_), fun b o h => ?_, fun b m => T.sub b (S.reb0.2 b m), S.m0, fun b o m h => ?_, fun i s h os => ?_⟩
  · have := T.own i s h os
    rw [q, ba] at this
    cases this
  · obtain ⟨o', h1, h2⟩ := hs b o (S.ex b o h) (k0 b o h)
    by_cases hb : b = a
    · subst hb
      rw [upd_same]
      rw [S.ex b o h] at ha
      exact ha.symm
    · rw [upd_ne hb, ← h2 hb]
      exact T.ex _ _ h1
  · obtain ⟨o', h1, _⟩ := hs b o (S.ex b o h) (k0 b o h)
    exact S.old b o (T.old b o' m h1).1 h
  · cases e : H0 (ad' i) with
    | none => rfl
    | some o =>
      obtain ⟨o', h1, _⟩ := hs _ o (S.ex _ o e) (k0 _ o e)
      rw [T.own i s h os] at h1
      cases h1
/-- a value given back from the locked state -/
theorem StS.unlkR {a : Addr} {u : HO} {od : Obj} {v : V} {x : PD} {b : Bool} (S : StS Γ H0 M0 M ad ρ σ H) (ha : H a = some u) (na : ¬ M a) (e : Same (reb ρ ad (upd H a (.frz od u))) H') (r : RetOk Γ (rebM ρ ad M) (reb ρ ad (upd H a (.frz od u))) H' v x b) :
    H' a = some (.frz od u) ∧ Same H0 (upd H' a u) ∧ RetOk Γ M0 H0 (upd H' a u) v x b := by
  have nown : ¬ ∃ (i : Nat) (s : Sl), ρ[i]? = some s ∧ s.own = true ∧ ad i = a := by
    rintro ⟨i, s, h1, h2, rfl⟩
    exact na ((S.st.sl i s h1).ownM h2).1
  have k0 : ∀ b o, H0 b = some o → ¬ ∃ (i : Nat) (s : Sl), ρ[i]? = some s ∧ s.own = true ∧ ad i = b := by
    rintro b o h ⟨i, s, h1, h2, rfl⟩
    rw [S.own i s h1 h2] at h
    cases h
  have ba : reb ρ ad (upd H a (.frz od u)) a = some (.frz od u) := reb_of nown upd_same
  have e1 : H' a = some (.frz od u) := e _ _ ba
  have k2 := S.reb0.2
  have hs : ∀ b o, H0 b = some o → ∃ o', reb ρ ad (upd H a (.frz od u)) b = some o' ∧ (b ≠ a → o' = o) := fun b o h => by
    by_cases hb : b = a
    · subst hb; exact ⟨_, ba, fun z => absurd rfl z⟩
    · exact ⟨o, reb_of (k0 b o h) (by rw [upd_ne hb]; exact S.ex b o h), fun _ => rfl⟩
  refine ⟨e1, fun b o h => ?_, ?_⟩
  · obtain ⟨o', h1, h2⟩ := hs b o h
    by_cases hb : b = a
    · subst hb
      rw [upd_same]
      rw [S.ex b o h] at ha
      exact ha.symm
    · rw [upd_ne hb, ← h2 hb]
      exact e _ _ h1
  · unfold RetOk at r ⊢
    cases b with
    | false =>
      rw [if_neg Bool.false_ne_true] at r ⊢
      exact r.monoR (rdLe_unlock e1 k2)
    | true =>
      rw [if_pos rfl] at r ⊢
      rcases r with ⟨o, r⟩ | ⟨o, q, hq, r⟩
      · exact .inl ⟨o, r.monoR (rdLe_unlock e1 k2)⟩
      · have hqa : q ≠ a := fun z => by rw [z, ba] at hq; cases hq
        refine .inr ⟨o, q, ?_, r.moveR (rdLe_unlock e1 fun b m => m.imp (k2 b) id) fun _ => ⟨.inr rfl, fun _ z => by rw [upd_ne hqa]; exact z⟩⟩
        cases e2 : H0 q with
        | none => rfl
        | some o =>
          obtain ⟨o', h1, _⟩ := hs q o e2
          rw [hq] at h1
          cases h1

/-! ## the walk over a locked dict of nested keys -/
theorem Inv.frzN {d : Addr} {o : Obj} {xs : List (NestedKey × Addr × V)} (I : Inv X pins σ H s) (h : H d = some (.frz o (DNo Γ d xs))) :
    (d == sysModules) = false ∧ s.heap.get? d = some o ∧ o.ExactDict ∧ ∃ (es : Array DictEntry) (ep : Nat), o.data = .dict es ep ∧ es.size = xs.length ∧
      ∀ (i : Nat) (k : NestedKey) (q : Addr) (v : V), xs[i]? = some (k, q, v) → ∃ (en : DictEntry), es[i]? = some en ∧ en.key = .ref q := by
  obtain ⟨hd, p, _, _⟩ := I.hok d _ h
  obtain ⟨h1, h2, vs, nv, o', es, ep, h3, h4, h5, h6, _⟩ := p
  rw [hd] at h3
  cases h3
  have l1 : es.size = vs.length := size_of_entries h6
  refine ⟨h2, hd, h4, es, ep, h5, by rw [l1, nv.length], fun i k q v e => ?_⟩
  obtain ⟨b, hb, e1, e2, _⟩ := paired_get nv e
  have z := entry_at h6 i
  rw [hb] at z
  exact ⟨_, z, by show Value.ref b.2.1 = .ref q; rw [← e2]⟩
def Itkn (Γ : Gm) (d : Addr) (o : Obj) (xs : List (NestedKey × Addr × V)) : It :=
  ⟨fun i H => H d = some (.frz o (DNo Γ d xs)) ∧ i < xs.length, fun i H x H' => H' = H ∧ ∃ (k : NestedKey) (q : Addr) (v : V), xs[i]? = some (k, q, v) ∧ x = .ref q, fun i H => H d = some (.frz o (DNo Γ d xs)) ∧ xs.length ≤ i⟩
theorem turn_keysN {P : Program} {w : World} {K : PySem.W.Frag} {tg : Expr} {d : Addr} {o : Obj} {es : Array DictEntry} {ep : Nat} {xs : List (NestedKey × Addr × V)} (it : Addr) (hod : o.data = .dict es ep) :
    Turn P w K tg (Itkn Γ d o xs) [it] it (fun i h => h.IsKeyIter it d i xs.length ep) where
  mem := by simp
  obj := fun i h st b hb => by
    have e : b = it := by simpa using hb
    subst e
    obtain ⟨oi, e, c, dd⟩ := st
    exact ⟨oi, e, fun v z => by rw [dd] at z; cases z⟩
  keep := fun i h h' st k => st.at fun oi e => k it (by simp) oi e
  item := by
    intro X hP hw hK hc i pins s σ H E I hf st hg
    subst hP hw hK
    obtain ⟨hd, hi⟩ := hg
    obtain ⟨f0, f1, f2, f3, f4, f5⟩ := hf it (by simp)
    obtain ⟨hs, hgd, hx, es', ep', hdt, hsz, ent⟩ := Inv.frzN I hd
    obtain ⟨rfl, rfl⟩ := dict_ep hod hdt
    obtain ⟨⟨k, q, v⟩, hkv⟩ : ∃ p, xs[i]? = some p := ⟨xs[i], List.getElem?_eq_getElem hi⟩
    obtain ⟨en, hen, hkey⟩ := ent i k q v hkv
    refine next_key_item st hgd hdt hsz hen fun h' st' sb => ?_
    have I1 : Inv X pins σ H { s with heap := h' } := I.turned (t' := s.toks) (fun b ob hb e => (sb.2 b hb).trans e) f0 f1 f3 f4 f5
    obtain ⟨oi, e, c, dd⟩ := id st'
    exact ⟨en.key, rfl, go_of (s := { s with heap := h' }) e c dd (by decide) ⟨.ref q, H, I1, hkey, ⟨rfl, k, q, v, hkv, rfl⟩, st', fun b hb => (hf b hb).1⟩⟩
  done := by
    intro X hP hw hK hc i pins s σ H E I hf st hg
    subst hP hw hK
    obtain ⟨hd, hi⟩ := hg
    obtain ⟨f0, f1, f2, f3, f4, f5⟩ := hf it (by simp)
    obtain ⟨hs, hgd, hx, es', ep', hdt, hsz, ent⟩ := Inv.frzN I hd
    obtain ⟨rfl, rfl⟩ := dict_ep hod hdt
    exact next_key_end (I.ok.hd hc) st hgd hdt hsz hi fun h' eb => ⟨rfl, I.turned (t' := s.toks) (fun b ob hb e => eb b ob hb e) f0 f1 f3 f4 f5⟩
  self := fun A i s Q E st h => by
    refine wpAny_pyIter_slot st.typeIs F.slot_dict_keyiterator_iter (wpAny_call_entry F.slot_dict_keyiterator_iter st.typeIs F.entry_dict_keyiterator_iter ?_ (F.args_dict_keyiterator_iter_1 _))
    show wpAny _ _ (ret (.ref it)) _ _ s
    exact wpAny_pure ⟨_, rfl, "dict_keyiterator", _, st.typeIs, F.slot_dict_keyiterator_next.lookup, h⟩
def iKeysN (Γ : Gm) (td : TE) : TI := fun σ H R => td σ H fun x H1 => ∃ d o xs, x = .ref d ∧ H1 d = some (.frz o (DNo Γ d xs)) ∧ R (Itkn Γ d o xs) H1
theorem pi_keysN {tg e : Expr} {td : TE} (he : PE X e td) : PI X tg e (iKeysN Γ td) := by
  refine ⟨fun pins s σ H R I h => ?_⟩
  refine thn (he.run pins s σ H _ I h) fun u s1 ⟨x, H1, I1, rx, d, o, xs, ex, hd, q⟩ => ?_
  subst ex
  obtain rfl : u = Value.ref d := rx
  obtain ⟨hs, hgd, hx, es, ep, hdt, hsz, ent⟩ := Inv.frzN I1 hd
  refine iter_keys hs hgd hx hdt (pi_one (tk := s1.toks) I1 _ (turn_keysN _ hdt) ⟨_, Heap.get?_push_size _ rfl, rfl, ?_⟩ q)
  rw [hsz] <;> rfl
theorem itd_keysK {d : Addr} {o : Obj} {kvs : List (Key × V)} {ds : List (PD × PD)} (h : F d = some (.frz o (.dK kvs))) (r : RpK Γ F kvs ds) : ItD Γ F (Itk d o kvs) (ds.map (·.1)) := by
  have hl : (ds.map (·.1)).length = kvs.length := by rw [List.length_map, r.length]
  refine ⟨_, _, by rw [hl]; exact walk_keys, fun H' e => e _ _ h, fun i H x H' M dd y im e q => ?_⟩
  obtain ⟨rfl, k, v, hx, rfl⟩ := y
  rw [r.keys, List.getElem?_map, hx] at q
  obtain rfl := Option.some.inj q
  exact ⟨Same.refl _, rp_kV k⟩
theorem itd_keysN {d : Addr} {o : Obj} {xs : List (NestedKey × Addr × V)} {ds : List (PD × PD)} (h : F d = some (.frz o (DNo Γ d xs))) (r : RpN Γ F xs ds) : ItD Γ F (Itkn Γ d o xs) (ds.map (·.1)) := by
  have hl : (ds.map (·.1)).length = xs.length := by rw [List.length_map, r.length]
  refine ⟨fun H => H d = some (.frz o (DNo Γ d xs)), fun i H x H' => H' = H ∧ ∃ (k : NestedKey) (q : Addr) (v : V), xs[i]? = some (k, q, v) ∧ x = .ref q, by rw [hl]; exact ⟨fun i H hi h => ⟨h, hi⟩, fun H h => ⟨h, Nat.le_refl _⟩, fun i H x H' hi h y => y⟩, fun H' e => e _ _ h, fun i H x H' M dd y im e q => ?_⟩
  obtain ⟨rfl, k, q', v, hx, rfl⟩ := y
  obtain ⟨d', h1, h2⟩ := r.keys.get' (i := i) (v := .ref q') (by rw [List.getElem?_map, hx]; rfl)
  rw [q] at h1
  obtain rfl := Option.some.inj h1
  exact ⟨Same.refl _, h2.mono e⟩

/-! ## for k in d -/
theorem for_core {D : Ends} {B0 : Hp} {N0 : Addr → Prop} {J : It} {ds : List PD} {t : Tg} {mb : Sto → R Out} (hJ : ItD Γ (hid M H) J ds) (R1 : StS Γ B0 N0 M ad ρ σ H) (F1 : Same (hid M H) (hid N0 B0)) (p2 : PstS Γ W B0 N0 D (forD t mb ds ρ)) :
    ∃ V : Nat → Nat → L2.St → Hp → Prop, (∃ m, V 0 m σ H) ∧ ∀ i m σ H, V i m σ H →
      (J.stop i H ∧ D.nx σ H) ∨ (J.go i H ∧ ∃ N : L2.St → Hp → Prop, (∀ σ' H', N σ' H' → ∃ m', m' < m ∧ V (i + 1) m' σ' H') ∧ ∀ x H', J.yld i H x H' → gT Γ.K t x σ H' fun σ2 H2 => TSo Γ W mb { D with nx := N, ct := N, bk := D.nx } σ2 H2) := by
  obtain ⟨G, Y, w, hG, hY⟩ := hJ.ex
  refine for_it w (fun i σ' H' => ∃ M' ad' ρ', StS Γ B0 N0 M' ad' ρ' σ' H' ∧ PstS Γ W B0 N0 D (forD t mb (ds.drop i) ρ')) ?_ ?_ ?_ ?_
  · exact ⟨M, ad, ρ, R1, by rw [List.drop_zero]; exact p2⟩
  · rintro i σ' H' _ ⟨M', ad', ρ', T, _⟩
    exact hG H' fun a o q => hid_le _ _ a o (T.base a o (F1 a o q))
  · rintro i x σ' H2 H3 hi ⟨M', ad', ρ', T, q⟩ y
    have hdi : ds[i]? = some ds[i] := List.getElem?_eq_getElem hi
    obtain ⟨e3, rx⟩ := hY i H2 x H3 M' _ y T.st.in_ (F1.trans T.base) hdi
    rw [List.drop_eq_getElem_cons hi] at q
    simp only [forD] at q
    cases e4 : setT t ds[i] ρ' with
    | stuck => rw [e4] at q; exact q.elim
    | exc z => rw [e4] at q; exact q.elim
    | ok ρ1 =>
      rw [e4] at q
      have T3 := T.mono e3
      refine setT_ok t T3.st rx e4 fun σ2 S2 _ => ⟨_, _, M', ad', ρ1, T3.setTg S2 (setT_own t e4), ?_⟩
      cases e5 : mb ρ1 with
      | stuck => simp only [e5] at q; exact q.elim
      | exc z => simp only [e5] at q; exact q.elim
      | ok o =>
        cases o with
        | nx ρ2 => simp only [e5] at q; exact fun M4 ad4 σ4 H4 T4 => ⟨M4, ad4, ρ2, T4, q⟩
        | ct ρ2 => simp only [e5] at q; exact fun M4 ad4 σ4 H4 T4 => ⟨M4, ad4, ρ2, T4, q⟩
        | bk ρ2 => simp only [e5] at q; exact q
        | rt x b => simp only [e5] at q; exact q
        | ex x ρ2 => simp only [e5] at q; exact q
  · rintro σ' H' ⟨M', ad', ρ', T, q⟩
    rw [List.drop_eq_nil_of_le (Nat.le_refl _)] at q
    exact q M' ad' σ' H' T
def forDK (t : Tg) (mb : Sto → R Out) : List PD → Sto → R Out
  | [], ρ => .ok (.nx ρ)
  | d :: ds, ρ => match setT t d ρ with
    | .ok ρ1 => match mb ρ1 with
      | .ok (.nx ρ2) => forDK t mb ds ρ2
      | .ok (.ct ρ2) => forDK t mb ds ρ2
      | .ok (.bk ρ2) => .ok (.nx ρ2)
      | .ok (.rt x b) => .ok (.rt x b)
      | _ => .stuck
    | _ => .stuck
theorem forDK_ok {t : Tg} {mb : Sto → R Out} : ∀ {ds : List PD} {ρ : Sto} {o : Out}, forDK t mb ds ρ = .ok o → forD t mb ds ρ = .ok o ∧ ((∃ ρ', o = .nx ρ') ∨ ∃ x b, o = .rt x b)
  | [], ρ, o, h => by simp only [forDK] at h; cases h; exact ⟨rfl, .inl ⟨_, rfl⟩⟩
  | d :: ds, ρ, o, h => by
    simp only [forDK] at h
    simp only [forD]
    cases e4 : setT t d ρ with
    | stuck => rw [e4] at h; cases h
    | exc z => rw [e4] at h; cases h
    | ok ρ1 =>
      simp only [e4] at h ⊢
      cases e5 : mb ρ1 with
      | stuck => simp only [e5] at h; cases h
      | exc z => simp only [e5] at h; cases h
      | ok o1 =>
        cases o1 with
        | nx ρ2 => simp only [e5] at h ⊢; exact forDK_ok h
        | ct ρ2 => simp only [e5] at h ⊢; exact forDK_ok h
        | bk ρ2 => simp only [e5] at h ⊢; cases h; exact ⟨rfl, .inl ⟨_, rfl⟩⟩
        | rt x b => simp only [e5] at h ⊢; cases h; exact ⟨rfl, .inr ⟨_, _, rfl⟩⟩
        | ex x ρ2 => simp only [e5] at h; cases h
/-- the keys of a dict -/
def keysD (x : PD) : Option (List PD) := match x with
  | .dict ((.none, _) :: _) => none
  | .dict ((.bool true, .none) :: ds) => some (ds.map (·.1))
  | .dict ((.bool _, _) :: _) => none
  | .dict ds => some (ds.map (·.1))
  | _ => none
def mForDK (j : Nat) (t : Tg) (mb : Sto → R Out) : Sto → R Out := fun ρ => match ρ[j]? with
  | some (.d x) => match keysD x with
    | some ks => forDK t mb ks ρ
    | none => .stuck
  | _ => .stuck
theorem ps_or2 {st : Stmt} {t t' : TS} (h : PS X st t) (h' : PS X st t') : PS X st (fun D σ H => t D σ H ∨ t' D σ H) := ⟨fun pins s σ H D I x => x.elim (h.run pins s σ H D I) (h'.run pins s σ H D I)⟩
/-- the dict that a value stands for: where, what, its keys' walk -/
theorem keysD_rp {v : V} {x : PD} {ks : List PD} (h : Rp Γ (hid M H) v x) (e : keysD x = some ks) : ∃ a u, v = .ref a ∧ ¬ M a ∧ Lk u ∧ Mut (some u) ∧ (H a = some u ∨ ∃ o, H a = some (.frz o u)) ∧
    ∀ (M' : Addr → Prop) (H' : Hp) (od : Obj), RdLe (hid M H) (hid M' H') → ¬ M' a → H' a = some (.frz od u) → ∃ J, ItD Γ (hid M' H') J ks ∧ ∀ (j : Nat) (σ : L2.St) (Rr : It → Hp → Prop), σ[j]? = some (some v) → Rr J H' → iKeys (tVar j) σ H' Rr ∨ iKeysN Γ (tVar j) σ H' Rr := by
  have dk : ∀ ds, x = .dict ds → isTag ds = false → ks = ds.map (·.1) → ∃ a u, v = .ref a ∧ ¬ M a ∧ Lk u ∧ Mut (some u) ∧ (H a = some u ∨ ∃ o, H a = some (.frz o u)) ∧
    ∀ (M' : Addr → Prop) (H' : Hp) (od : Obj), RdLe (hid M H) (hid M' H') → ¬ M' a → H' a = some (.frz od u) → ∃ J, ItD Γ (hid M' H') J ks ∧ ∀ (j : Nat) (σ : L2.St) (Rr : It → Hp → Prop), σ[j]? = some (some v) → Rr J H' → iKeys (tVar j) σ H' Rr ∨ iKeysN Γ (tVar j) σ H' Rr := by
    intro ds ex nt ek
    subst ex ek
    obtain ⟨a, kvs, rfl, h1, h2⟩ := h.dik_of nt
    refine ⟨a, .dK kvs, rfl, ?_, ⟨fun _ _ z => (nomatch z), fun _ _ _ z => (nomatch z)⟩, trivial, ?_, fun M' H' od e nm hf => ⟨_, itd_keysK (hid_of nm hf) (h2.monoR e), fun j σ Rr hj r => .inl ⟨_, hj, a, od, rfl, .inl ⟨kvs, hf, r⟩⟩⟩⟩
    · rcases h1 with h1 | ⟨o, h1⟩ <;> exact (hid_some h1).1
    · rcases h1 with h1 | ⟨o, h1⟩
      · exact .inl (hid_some h1).2
      · exact .inr ⟨o, (hid_some h1).2⟩
  unfold keysD at e
  split at e
  · cases e
  · rename_i ds
    obtain rfl := Option.some.inj e
    obtain ⟨a, xs, rfl, h1, h2⟩ := (show Rp Γ (hid M H) v (mkN ds) from h).din_of
    refine ⟨a, DNo Γ a xs, rfl, ?_, ⟨fun _ _ z => (nomatch z), fun _ _ _ z => (nomatch z)⟩, trivial, ?_, fun M' H' od e nm hf => ⟨_, itd_keysN (hid_of nm hf) (h2.monoR e), fun j σ Rr hj r => .inr ⟨_, hj, a, od, xs, rfl, hf, r⟩⟩⟩
    · rcases h1 with h1 | ⟨o, h1⟩ <;> exact (hid_some h1).1
    · rcases h1 with h1 | ⟨o, h1⟩
      · exact .inl (hid_some h1).2
      · exact .inr ⟨o, (hid_some h1).2⟩
  · cases e
  · rename_i ds n1 n2 n3
    refine dk ds rfl ?_ (Option.some.inj e).symm
    cases ds with
    | nil => rfl
    | cons p ds =>
      obtain ⟨p1, p2⟩ := p
      cases p1 with
      | none => exact absurd rfl (n1 _ _)
      | bool b => exact absurd rfl (n3 _ _ _)
      | _ => rfl
  · cases e
theorem s_forDK (j : Nat) {tg iter : Expr} {body : List Stmt} {t : Tg} {mb : Sto → R Out} {pos : Pos} (hp : PassesOwn (model X.prog X.w) X.A X.env X.xe) (hc : X.calm = true) (hi : PE X iter (tVar j)) (hg : PG X tg (gT Γ.K t)) (hb : PSs X body (TSo Γ W mb))
    (hs : ∀ x, foldedSetIterable iter X.env x = pure x := by intro _; rfl) : PS X (.For tg iter body [] pos) (TSo Γ W (mForDK j t mb)) :=
  have h0 : PS X (.For tg iter body [] pos) (tFor (fun σ H Rr => iKeys (tVar j) σ H Rr ∨ iKeysN Γ (tVar j) σ H Rr) (gT Γ.K t) (TSo Γ W mb)) := ps_for hp hc (pi_or (pi_keys hi) (pi_keysN hi)) hg hb hs
  ps_mono (ps_or2 h0 (ps_lock h0)) fun D σ H ⟨H0, M0, M, ad, ρ, S, p⟩ => by
  unfold mForDK at p
  split at p
  · rename_i x e0
    cases e1 : keysD x with
    | none => rw [e1] at p; exact p.elim
    | some ks =>
      rw [e1] at p
      simp only at p
      obtain ⟨v, hv, rv⟩ := S.st.sl j _ e0
      obtain ⟨a, u, rfl, na, lk, mu, hh, hJ⟩ := keysD_rp rv e1
      cases e2 : forDK t mb ks ρ with
      | stuck => rw [e2] at p; exact p.elim
      | exc z => rw [e2] at p; exact p.elim
      | ok o =>
        rw [e2] at p
        obtain ⟨e3, ho⟩ := forDK_ok e2
        rcases hh with ha | ⟨od, ha⟩
        · refine .inr ⟨a, u, ha, mu, fun od => ?_⟩
          have nown : ∀ (i : Nat) (s : Sl), ρ[i]? = some s → s.own = true → ad i ≠ a := fun i s h os q => na (by rw [← q]; exact ((S.st.sl i s h).ownM os).1)
          have S1 : Ste Γ M ad ρ σ (upd H a (.frz od u)) := S.st.moveR (rdLe_lock ha lk) nown
          obtain ⟨J, hJ1, hJ2⟩ := hJ M _ od (rdLe_lock ha lk) na upd_same
          refine hJ2 j σ _ hv (for_core hJ1 S1.rebase S1.rebF ?_)
          rw [e3]
          rcases ho with ⟨ρ', rfl⟩ | ⟨x', b, rfl⟩
          · intro M' ad' σ' H' T
            obtain ⟨q1, q2⟩ := S.unlk ha na T
            exact ⟨q1, p M' ad' σ' _ q2⟩
          · intro v H' e r
            obtain ⟨q1, q2, q3⟩ := S.unlkR ha na e r
            exact ⟨q1, p v _ q2 q3⟩
        · obtain ⟨J, hJ1, hJ2⟩ := hJ M H od (RdLe.same (Same.refl _)) na ha
          refine .inl (hJ2 j σ _ hv (for_core hJ1 S.rebase S.rebF (PstS.reb S ?_)))
          rw [e3]
          exact p
  · exact p.elim
end
end Lilt

set_option Elab.async false
set_option linter.all false
set_option maxRecDepth 100000
set_option maxHeartbeats 2000000
set_option autoImplicit false
namespace Lilt
open PySem L2 PySem.Spec PyProof.Rows
/-! ## sorted, of tuples of ints of one length -/
def intsD : List PD → Option (List Int)
  | [] => some []
  | .int i :: r => match intsD r with
    | some is => some (i :: is)
    | none => none
  | _ :: _ => none
def tupInts : PD → Option (List Int)
  | .tuple ds => intsD ds
  | _ => none
def allInts : List PD → Option (List (List Int))
  | [] => some []
  | d :: r => match tupInts d with
    | some ns => match allInts r with
      | some l => some (ns :: l)
      | none => none
    | none => none
def tupD (ns : List Int) : PD := .tuple (ns.map PyData.int)
theorem intsD_some : ∀ {ds : List PD} {ns : List Int}, intsD ds = some ns → ds = ns.map PyData.int
  | [], ns, h => by simp only [intsD, Option.some.injEq] at h; subst h; rfl
  | d :: r, ns, h => by
    cases d with
    | int i =>
      simp only [intsD] at h
      cases e : intsD r with
      | none => rw [e] at h; cases h
      | some is =>
        rw [e] at h
        obtain rfl := Option.some.inj h
        rw [intsD_some e]; rfl
    | _ => simp only [intsD] at h; cases h
theorem allInts_some : ∀ {ds : List PD} {l : List (List Int)}, allInts ds = some l → ds = l.map tupD
  | [], l, h => by simp only [allInts, Option.some.injEq] at h; subst h; rfl
  | d :: r, l, h => by
    simp only [allInts] at h
    cases e : tupInts d with
    | none => rw [e] at h; cases h
    | some ns =>
      rw [e] at h
      simp only at h
      cases e2 : allInts r with
      | none => rw [e2] at h; cases h
      | some l' =>
        rw [e2] at h
        obtain rfl := Option.some.inj h
        cases d with
        | tuple ds =>
          simp only [tupInts] at e
          rw [intsD_some e, allInts_some e2]; rfl
        | _ => cases e
theorem intsD_map : ∀ ns : List Int, intsD (ns.map PyData.int) = some ns
  | [] => rfl
  | n :: ns => by simp only [List.map_cons, intsD, intsD_map ns]
theorem allInts_map : ∀ l : List (List Int), allInts (l.map tupD) = some l
  | [] => rfl
  | n :: ns => by simp only [List.map_cons, allInts, tupD, tupInts, intsD_map, allInts_map ns]
def maxB (l : List (List Int)) : Int := 1 + (l.flatten).foldl (fun a b => if b > a then b else a) 0
def lenHd : List (List Int) → Nat
  | [] => 1
  | n :: _ => n.length
def okT (B : Int) (d : Nat) (ns : List Int) : Bool := ns.length == d && ns.all fun n => decide (0 ≤ n) && decide (n < B)
def sortTs (l : List (List Int)) : List (List Int) := l.mergeSort fun a b => decide (TS.code (maxB l) a ≤ TS.code (maxB l) b)
def sortedD : List PD → R PD
  | [.list ds] => match allInts ds with
    | some l => if decide (l.length < 64) && decide (1 ≤ lenHd l) && l.all (okT (maxB l) (lenHd l)) then .ok (.list ((sortTs l).map tupD)) else .stuck
    | none => .stuck
  | _ => .stuck
theorem okT_bd {B : Int} {d : Nat} {ns : List Int} (h : okT B d ns = true) : ns.length = d ∧ TS.Bd B ns := by
  unfold okT at h
  simp only [Bool.and_eq_true, beq_iff_eq, List.all_eq_true, decide_eq_true_eq] at h
  exact ⟨h.1, fun m hm => h.2 m hm⟩
theorem code_inj {B : Int} : ∀ {r q : List Int}, r.length = q.length → TS.Bd B r → TS.Bd B q → TS.code B r = TS.code B q → r = q
  | [], [], _, _, _, _ => rfl
  | [], _ :: _, h, _, _, _ => by cases h
  | _ :: _, [], h, _, _, _ => by cases h
  | d :: r, e :: q, h, hr, hq, hc => by
    have hl : r.length = q.length := by simpa using h
    rcases Int.lt_trichotomy d e with g | g | g
    · have := TS.code_lt hl hr.tail hq.tail g; omega
    · subst g
      have : TS.code B r = TS.code B q := by
        simp only [TS.code, hl] at hc
        omega
      rw [code_inj hl hr.tail hq.tail this]
    · have := TS.code_lt hl.symm hq.tail hr.tail g; omega
section
variable {X : Cx} {Γ : Gm} {W : WX} {M M' M0 : Addr → Prop} {ad : Nat → Addr} {ρ ρ' : Sto} {σ : L2.St} {H H' H0 F : Hp} {pins : List (Addr × Obj)} {s : Shared}
theorem RpA.ints_of : ∀ {vs : List V} {ns : List Int}, RpA Γ F vs (ns.map PyData.int) → vs = ns.map V.int
  | _, [], h => by cases h; rfl
  | _, n :: ns, h => by
    rw [List.map_cons] at h
    cases h with
    | cons h r => rw [h.int_of, RpA.ints_of r]; rfl
theorem Rp.tupI {v : V} {ns : List Int} (h : Rp Γ F v (tupD ns)) : TupI Γ.K F v ns := by
  obtain ⟨a, xs, rfl, h1, h2⟩ := (show Rp Γ F v (.tuple (ns.map PyData.int)) from h).tup_of
  rw [h2.ints_of] at h1
  exact ⟨a, rfl, h1⟩
theorem tupI_mono {K : PySem.W.Frag} {v : V} {ns : List Int} (h : TupI K F v ns) (e : Same F H) : TupI K H v ns := let ⟨a, q, r⟩ := h; ⟨a, q, sqT_same e r⟩
theorem rpA_perm {vs ys : List V} (p : vs.Perm ys) : ∀ {l : List (List Int)}, RpA Γ F vs (l.map tupD) → ∃ m : List (List Int), m.Perm l ∧ RpA Γ F ys (m.map tupD) := by
  induction p with
  | nil => intro l r; exact ⟨l, .refl _, r⟩
  | cons x p ih =>
    intro l r
    cases l with
    | nil => cases r
    | cons n l =>
      cases r with
      | cons h r =>
        obtain ⟨m, q, r2⟩ := ih r
        exact ⟨n :: m, q.cons n, .cons h r2⟩
  | swap x y l' =>
    intro l r
    cases l with
    | nil => cases r
    | cons n l =>
      cases r with
      | cons h r =>
        cases l with
        | nil => cases r
        | cons n2 l =>
          cases r with
          | cons h2 r => exact ⟨n2 :: n :: l, .swap n n2 l, .cons h2 (.cons h r)⟩
  | trans p q ih1 ih2 =>
    intro l r
    obtain ⟨m, q1, r1⟩ := ih1 r
    obtain ⟨m2, q2, r2⟩ := ih2 r1
    exact ⟨m2, q2.trans q1, r2⟩
theorem rpA_memT {l : List (List Int)} : ∀ {vs : List V}, RpA Γ F vs (l.map tupD) → ∀ x ∈ vs, ∃ ns ∈ l, TupI Γ.K F x ns := by
  induction l with
  | nil => intro vs r x hx; cases r; exact nomatch hx
  | cons n l ih =>
    intro vs r x hx
    cases r with
    | cons h r =>
      rcases List.mem_cons.mp hx with rfl | hx
      · exact ⟨n, List.mem_cons_self, h.tupI⟩
      · obtain ⟨ns, h1, h2⟩ := ih r x hx
        exact ⟨ns, List.mem_cons_of_mem _ h1, h2⟩
theorem rpA_pair {B : Int} {K : PySem.W.Frag} (e : Same F H) (hK : Γ.K = K) {l : List (List Int)} : ∀ {vs : List V}, RpA Γ F vs (l.map tupD) → vs.Pairwise (fun x y => ∀ n m, TupI K H x n → TupI K H y m → TS.code B n ≤ TS.code B m) → l.Pairwise (fun a b => TS.code B a ≤ TS.code B b) := by
  subst hK
  induction l with
  | nil => intro vs r p; exact .nil
  | cons n l ih =>
    intro vs r p
    cases r with
    | @cons v _ vs _ h r =>
      obtain ⟨p1, p2⟩ := List.pairwise_cons.mp p
      refine List.pairwise_cons.mpr ⟨fun b hb => ?_, ih r p2⟩
      have hq : ∀ {l : List (List Int)} {vs : List V}, RpA Γ F vs (l.map tupD) → b ∈ l → ∃ y ∈ vs, TupI Γ.K F y b := by
        intro l
        induction l with
        | nil => intro vs r hb; exact nomatch hb
        | cons c l ih =>
          intro vs r hb
          cases r with
          | cons h r =>
            rcases List.mem_cons.mp hb with rfl | hb
            · exact ⟨_, List.mem_cons_self, h.tupI⟩
            · obtain ⟨y, h1, h2⟩ := ih r hb
              exact ⟨y, List.mem_cons_of_mem _ h1, h2⟩
      obtain ⟨y, hy, ty⟩ := hq r hb
      exact p1 y hy n b (tupI_mono h.tupI e) (tupI_mono ty e)
def rSortA (K : PySem.W.Frag) : List V → Hp → VK → Prop := fun vs H Q => ∃ d B, 1 ≤ d ∧ rSortU K d B vs H Q
theorem call_sortedU : CallR X (.builtin "sorted") (rSortA X.K) := by
  intro pins s σ H vs us Q I r ⟨d, B, hd, h⟩
  exact cr_sortT hd pins s σ H vs us Q I r h
theorem s_sortedU : CalF Γ W (rSortA Γ.K) sortedD := by
  intro M σ H Q vs xs i rv p
  unfold sortedD at p
  split at p
  · rename_i ds
    obtain ⟨v, rfl, r⟩ := rv.one
    cases e : allInts ds with
    | none => rw [e] at p; exact p.elim
    | some l =>
      simp only [e] at p
      split at p
      · rename_i hc
        simp only [Bool.and_eq_true, decide_eq_true_eq, List.all_eq_true] at hc
        obtain ⟨⟨h64, hd⟩, hok⟩ := hc
        obtain rfl := allInts_some e
        obtain ⟨a, ws, rfl, h1, h2⟩ := r.lst_of
        have hl : ws.length = l.length := by rw [h2.length, List.length_map]
        refine ⟨lenHd l, maxB l, hd, a, ws, rfl, sqL_same (hid_le M H) h1, by rw [hl]; exact h64, fun x hx => ?_, fun ys q hp hs hq => ?_⟩
        · obtain ⟨ns, hn, ht⟩ := rpA_memT h2 x hx
          obtain ⟨b1, b2⟩ := okT_bd (hok ns hn)
          exact ⟨ns, tupI_mono ht (hid_le M H), b1, b2⟩
        · obtain ⟨m, hm, hr⟩ := rpA_perm hp.symm h2
          have hpw := rpA_pair (K := Γ.K) (hid_le M H) rfl hr hs
          have em : m = sortTs l := by
            refine List.Perm.eq_of_pairwise (le := fun a b => TS.code (maxB l) a ≤ TS.code (maxB l) b) (fun a b ha hb h1 h2 => ?_) hpw ?_ (hm.trans (List.mergeSort_perm l _).symm)
            · obtain ⟨c1, c2⟩ := okT_bd (hok a (hm.mem_iff.mp ha))
              obtain ⟨d1, d2⟩ := okT_bd (hok b ((List.mergeSort_perm l _).mem_iff.mp hb))
              exact code_inj (c1.trans d1.symm) c2 d2 (by omega)
            · have := List.pairwise_mergeSort (le := fun a b => decide (TS.code (maxB l) a ≤ TS.code (maxB l) b)) (fun a b c h1 h2 => by simp only [decide_eq_true_eq] at h1 h2 ⊢; omega) (fun a b => by simp only [Bool.or_eq_true, decide_eq_true_eq]; omega) l
              exact this.imp fun h => by simpa using h
          rw [← em] at p
          exact p _ (same_new hq) _ (.inr ⟨rfl, q, hq, rfl, .inr rfl, ys, upd_same, hr.mono ((hid_ins (Same.refl H) hq).trans (hid_upd (.inr rfl)))⟩)
      · exact p.elim
  · exact p.elim

/-! ## tuple(reversed(x)) -/
end
end Lilt

set_option Elab.async false
set_option linter.all false
set_option maxRecDepth 100000
set_option maxHeartbeats 2000000
set_option autoImplicit false
namespace Lilt
open PySem L2 PySem.Spec PyProof.Rows
/-! ## tuple(reversed(t)), t a tuple -/
namespace RTT
open RT
theorem nolen_rt : typeLookup (.type "reversed") "__len__" = pure none := by rw [typeLookup_type, builtinLookup_eq_fast]; kernel_rfl
theorem hint_rt : typeLookup (.type "reversed") "__length_hint__" = pure (some (.builtin "reversed.__length_hint__")) := by rw [typeLookup_type, builtinLookup_eq_fast]; kernel_rfl
section
variable {prog : Program} {w : World} {A : Around} {E : Value → Shared → Prop} {s : Shared}
theorem slot_rt_hint : Slot "reversed" "__length_hint__" "reversed.__length_hint__" :=
  .of (owner := "reversed") (n := "__length_hint__") (by rw [typeLookup_type, builtinLookup_eq_fast]; kernel_rfl) (by decide +kernel) (by decide +kernel) (by decide +kernel)
    (by first | exact .inl (by decide +kernel) | exact .inr (by decide +kernel)) (by rw [isSubtype_type]; kernel_rfl)
theorem entry_rt_hint : entryFor table "reversed.__length_hint__" = some Builtin.«reversed.__length_hint__» := entryFor_of_tree (by kernel_rfl)
theorem args_rt_hint (a : Value) : argsOk "reversed.__length_hint__" ⟨[a], []⟩ := by
  unfold argsOk; rw [signature?_of (id := "reversed.__length_hint__") (n := ['_', '_', 't', 'n', 'i', 'h', '_', 'h', 't', 'g', 'n', 'e', 'l', '_', '_']) (o := ['d', 'e', 's', 'r', 'e', 'v', 'e', 'r']) (by kernel_rfl) owner_rt]; kernel_rfl
theorem type_rt_hint : typeOf (.builtin "reversed.__length_hint__") = pure (.type "method_descriptor") := by
  first | rfl | kernel_rfl
theorem call_rt_hint {it t : Addr} {items : Array Value} {Q : Value → Shared → Prop} (hit : IsRt s.heap it t ((items.size : Int) - 1)) (ht : IsTup s.heap t items) (hn : items.size ≤ sizeLine)
    (hlen : ∀ (A : Around) (E : Value → Shared → Prop) (Q : Value → Shared → Prop), Q (.int items.size (s.toks + 1)) { s with toks := s.toks + 1 + 1 } → wpAny (model prog w) A (call (.builtin "len") [.ref t]) Q E s)
    (h : ∀ tk tk', Q (.int items.size tk) { s with toks := tk' }) : wpAny (model prog w) A (call (.builtin "reversed.__length_hint__") [.ref it]) Q E s := by
  obtain ⟨o, ho, hc, hd⟩ := id hit
  refine wpAny_call_entry slot_rt_hint hit.typeIs entry_rt_hint ?_ (args_rt_hint _)
  unfold Builtin.«reversed.__length_hint__»
  refine wpAny_bind (wpAny_of_eq (a := (Value.ref it)) rfl ?_)
  try dsimp only
  refine wpAny_bind (wpAny_field ho hd (x := .ref t) rfl ?_)
  try dsimp only
  rw [if_neg (show ¬ (Value.ref t == Value.none) = true from Bool.false_ne_true)]
  refine wpAny_bind ?_
  refine hlen _ _ _ ?_
  refine wpAny_bind (m := asInt? _) (wpAny_pure ?_)
  try dsimp only
  refine wpAny_bind (wpAny_field (s := { s with toks := s.toks + 1 + 1 }) ho hd (x := rawInt ((items.size : Int) - 1)) rfl ?_)
  show wpAny _ _ (if ((items.size : Nat) : Int) < ((items.size : Int) - 1) + 1 then _ else retInt (((items.size : Int) - 1) + 1)) _ _ _
  rw [if_neg (by omega)]
  have e : ((items.size : Int) - 1) + 1 = (items.size : Int) := by omega
  rw [e]
  show wpAny _ _ (do ret (← mkInt ((items.size : Nat) : Int))) _ _ _
  exact wpAny_bind (wpAny_mkInt (wpAny_pure ⟨_, rfl, h _ _⟩))
theorem hint_rt_run {it t : Addr} {items : Array Value} {Q : Bool → Shared → Prop} (hit : IsRt s.heap it t ((items.size : Int) - 1)) (ht : IsTup s.heap t items) (hn : items.size ≤ sizeLine)
    (hlen : ∀ (A : Around) (E : Value → Shared → Prop) (Q : Value → Shared → Prop), Q (.int items.size (s.toks + 1)) { s with toks := s.toks + 1 + 1 } → wpAny (model prog w) A (call (.builtin "len") [.ref t]) Q E s)
    (h : ∀ b tk', Q b { s with toks := tk' }) : wpAny (model prog w) A (Builtin.List.listLengthHint (.ref it)) Q E s := by
  have hT := hit.typeIs
  unfold Builtin.List.listLengthHint
  refine wpAny_bind (wpAny_specialOf hT nolen_rt ?_)
  show wpAny _ A (specialOf (Value.ref it) (Str.ofString "__length_hint__") >>= _) _ _ _
  refine wpAny_bind (wpAny_specialOf hT hint_rt ?_)
  generalize hid : ("reversed.__length_hint__" : String) = id0
  wp_delta
  rw [show splitId id0 = some ("reversed", "__length_hint__") from by subst hid; decide +kernel]
  subst hid
  refine wpAny_bind (wpAny_isInstance (b := true) hT (by rw [isSubtype_type]; kernel_rfl) ?_)
  refine wpAny_ite_split (fun hab => absurd hab (by decide)) (fun _ => ?_)
  refine wpAny_ite_split (fun hab => absurd hab (by decide +kernel)) (fun _ => ?_)
  refine wpAny_bind (wpAny_rule ?_)
  have hb : wpAny (model prog w) A (bindSpecial (.builtin "reversed.__length_hint__") (.ref it)) (fun r s' => r = (.builtin "reversed.__length_hint__", [.ref it]) ∧ s' = s) E s := by
    unfold bindSpecial
    rw [type_rt_hint]
    refine wpAny_bind (wpAny_pure ?_)
    rw [if_pos (by decide +kernel)]
    exact wpAny_pure ⟨rfl, rfl⟩
  refine wpAny_bind (wpAny_mono hb (fun r s' hr => ?_) fun _ _ x => x)
  obtain ⟨rfl, rfl⟩ := hr
  try dsimp only
  refine wpAny_bind (wpAny_attempt (call_rt_hint hit ht hn hlen fun tk tk' => ?_))
  show wpAny _ _ (asInt? (Value.int (items.size : Int) tk) >>= _) _ _ _
  refine wpAny_bind ?_
  show wpAny _ _ (pure (some (items.size : Int))) _ _ _
  refine wpAny_pure ?_
  try dsimp only
  have l63 := line63
  have h1 : Builtin.List.listFitsIndex ((items.size : Nat) : Int) = true := by
    unfold Builtin.List.listFitsIndex
    rw [sizeLine_eq] at hn
    simp only [Bool.and_eq_true, decide_eq_true_eq]
    omega
  have h2 : Builtin.List.listTooLong ((items.size : Int).toNat) = false := by simp [Builtin.List.listTooLong]; omega
  have h3 : ¬ ((items.size : Nat) : Int) < 0 := by omega
  simp only [h1, h2, h3, Bool.not_true, Bool.false_eq_true, if_false]
  exact wpAny_pure (h _ _)
theorem walks_rt (hh : A.handled = none) (I t : Addr) (hne : t ≠ I) (items : Array Value) (hz : items.size ≤ sizeLine) :
    Walks prog w A I [I, t] [I] items.size (fun i v => items[items.size - 1 - i]? = some v) (fun i h => i ≤ items.size ∧ IsRt h I t ((items.size : Int) - 1 - (i : Int)) ∧ IsTup h t items) where
  sub := fun b hb => by simp at hb; simp [hb]
  frame := fun _ _ _ x hk => ⟨x.1, x.2.1.at fun o e => hk I (by simp) o e, let ⟨o, ho, r⟩ := x.2.2; ⟨o, hk t (by simp) o ho, r⟩⟩
  item := fun i s Q E hi x hQ => by
    have e : (items.size : Int) - 1 - (i : Int) = ((items.size - 1 - i : Nat) : Int) := by omega
    have hit := x.2.1
    rw [e] at hit
    have hx : items[items.size - 1 - i]? = some (items[items.size - 1 - i]'(by omega)) := Array.getElem?_eq_getElem (by omega)
    refine next_rt_item hit x.2.2 hx hz fun h' hit' hs' => ?_
    have e2 : ((items.size - 1 - i : Nat) : Int) - 1 = (items.size : Int) - 1 - ((i + 1 : Nat) : Int) := by omega
    rw [e2] at hit'
    exact hQ _ h' (s.toks + 1) hx ⟨hi, hit', let ⟨o, ho, r⟩ := x.2.2; ⟨o, (hs'.2 t hne).trans ho, r⟩⟩ fun b o hb eo => hs'.extBut b o (fun h => hb (by simp [h])) eo
  done := fun s Q E x hQ => by
    have e : (items.size : Int) - 1 - (items.size : Int) = -1 := by omega
    have hit := x.2.1
    rw [e] at hit
    exact next_rt_end hh hit fun h' he' => hQ h' s.toks fun b o hb eo => he' b o (fun h => hb (by simp [h])) eo
  self := fun _ _ _ _ x hQ => iter_rt x.2.1 hQ
theorem collect_rt {it t : Addr} {items : Array Value} {Q : List Value → Shared → Prop} (hh : A.handled = none) (hit : IsRt s.heap it t ((items.size : Int) - 1)) (hl : IsTup s.heap t items) (hne : t ≠ it) (hn : items.size ≤ sizeLine) (hlen : ∀ (s : Shared), IsTup s.heap t items → ∀ (A : Around) (E : Value → Shared → Prop) (Q : Value → Shared → Prop), Q (.int items.size (s.toks + 1)) { s with toks := s.toks + 1 + 1 } → wpAny (model prog w) A (call (.builtin "len") [.ref t]) Q E s)
    (hQ : ∀ (h' : Heap) (tk : Nat) (acc : Array Value), (∀ b o, b ≠ it → s.heap.get? b = some o → h'.get? b = some o) → ItemsOf (fun i v => items[items.size - 1 - i]? = some v) acc items.size → Q acc.toList { s with heap := h', toks := tk }) :
    wpAny (model prog w) A (collect (.ref it)) Q E s := by
  have W := (walks_rt (prog := prog) (w := w) (A := A.in1) hh it t hne items hn).toS
  obtain ⟨oi, hoi, _⟩ := id hit
  obtain ⟨ol, hol, _⟩ := id hl
  have hSi : s.heap.objs.size ≠ it := Nat.ne_of_gt (Heap.lt_size hoi)
  have hSl : s.heap.objs.size ≠ t := Nat.ne_of_gt (Heap.lt_size hol)
  have hSf : s.heap.objs.size ∉ [it, t] := by simp only [List.mem_cons, List.not_mem_nil, or_false, not_or]; exact ⟨hSi, hSl⟩
  unfold collect
  refine wpAny_bind (wpAny_runValue (codeAny_builtin F.entry_proto_collect ?_))
  rw [Around.under_plainId F.plain_proto_collect _]
  show wpAny _ A.in1 (newList [] >>= fun l' => again (.builtin "list.__iadd__" ⟨[l', .ref it], []⟩)) _ _ s
  refine wpAny_bind (wpAny_newObj_type ?_)
  refine wpAny_pure ⟨plainId_quiet F.plain_list_iadd _, codeAny_builtin F.entry_list_iadd ?_⟩
  rw [Around.under_plainId F.plain_list_iadd _]
  have hS₁ : (s.heap.push { cls := .type "list", data := .seq ([] : List Value).toArray }).get? s.heap.objs.size = some { cls := .type "list", data := .seq ([] : List Value).toArray } := Heap.get?_push_size _ rfl
  have hit1 : IsRt (s.heap.push { cls := .type "list", data := .seq ([] : List Value).toArray }) it t ((items.size : Int) - 1) := hit.at fun o e => Heap.get?_push_of_some _ e
  have hl1 : IsTup (s.heap.push { cls := .type "list", data := .seq ([] : List Value).toArray }) t items := let ⟨o, ho, r⟩ := hl; ⟨o, Heap.get?_push_of_some _ ho, r⟩
  have hT : ({ s with heap := s.heap.push { cls := .type "list", data := .seq ([] : List Value).toArray } } : Shared).TypeIs (.ref it) "reversed" := IsRt.typeIs (s := { s with heap := s.heap.push { cls := .type "list", data := .seq ([] : List Value).toArray } }) hit1
  have h1 : Builtin.List.listSameRef (.ref s.heap.objs.size) (.ref it) = false := by simp [Builtin.List.listSameRef, hSi]
  show wpAny _ A.in1 (Builtin.List.listExtendWith (.ref s.heap.objs.size) (.ref it) (.ref s.heap.objs.size)) _ _ _
  unfold Builtin.List.listExtendWith
  refine wpAny_bind (wpAny_typeOf hT ?_)
  rw [if_neg (by rw [h1]; decide)]
  refine wpAny_bind (iter_rt (s := { s with heap := s.heap.push { cls := .type "list", data := .seq ([] : List Value).toArray } }) hit1 ?_)
  refine wpAny_bind (wpAny_holding ?_)
  refine hint_rt_run (s := { s with heap := s.heap.push { cls := .type "list", data := .seq ([] : List Value).toArray } }) hit1 hl1 hn (hlen _ hl1) fun b tk' => ?_
  have e0 : ((items.size : Nat) : Int) - 1 - ((0 : Nat) : Int) = (items.size : Int) - 1 := by omega
  have key : ∀ (hp : Heap) (c₁ : Nat), IsRt hp it t ((items.size : Int) - 1) → IsTup hp t items → (∀ b o, b ≠ it → s.heap.get? b = some o → hp.get? b = some o) → hp.get? s.heap.objs.size = some { cls := .type "list", data := .seq #[] c₁ } →
      codeAny (model prog w) A (.builtin "list.extend.loop" ⟨[.ref s.heap.objs.size, .ref it, .ref s.heap.objs.size], []⟩) (fun r s' => match r with
        | Except.ok (Flow.ret v) => wpAny (model prog w) A (match v with
          | Value.ref a => do
            let __do_lift ← load a
            match __do_lift.data with
              | Data.seq xs epoch => pure xs.toList
              | x => unsupported "internal:collect"
          | x => unsupported "internal:collect") Q E s'
        | Except.ok a => False
        | Except.error e => E e s') { s with heap := hp, toks := tk' } := by
    intro hp c₁ g1 g2 g3 g4
    refine codeAny_extend_loopS W hn _ hSf _ items.size 0 { s with heap := hp, toks := tk' } #[] c₁ rfl (Nat.zero_le _) ⟨Nat.zero_le _, by rw [e0]; exact g1, g2⟩ g4 (ItemsOf.nil _) fun s' acc' c' hm hS' hacc => ?_
    show wpAny _ A (load s.heap.objs.size >>= _) _ _ s'
    refine wpAny_bind (wpAny_load hS' ?_)
    refine wpAny_pure ?_
    rw [Moved.eq_with hm]
    refine hQ s'.heap s'.toks acc' (fun b o hb e => hm.heap b o (fun hmem => ?_) (g3 b o hb e)) hacc
    rcases List.mem_cons.mp hmem with e' | hmem
    · exact absurd (Heap.lt_size e) (by rw [e']; exact Nat.lt_irrefl _)
    · exact hb (List.mem_singleton.mp hmem)
  refine wpAny_ite_split (fun _ => ?_) (fun _ => wpAny_pure ⟨plainId_quiet F.plain_extend_loop _, key _ _ hit1 hl1 (fun b o _ e => Heap.get?_push_of_some _ e) hS₁⟩)
  refine wpAny_bind (wpAny_rule ?_)
  refine wpAny_bind ?_
  show wpAny _ _ (updateSeq s.heap.objs.size (·.push .none) >>= fun _ => updateSeq s.heap.objs.size (·.pop)) _ _ _
  refine wpAny_bind (wpAny_updateSeq hS₁ rfl ?_)
  have hS₂ := Heap.get?_update_self (Obj.mapSeq (·.push Value.none)) hS₁ rfl
  refine wpAny_updateSeq (hz := by seq_fits) hS₂ rfl ?_
  have hS₃ := Heap.get?_update_self (Obj.mapSeq (·.pop)) hS₂ rfl
  refine wpAny_pure ⟨plainId_quiet F.plain_extend_loop _, key _ _ ?_ ?_ (fun b o hb e => ?_) hS₃⟩
  · exact hit1.at fun o e => (Heap.get?_update_other _ _ hSi).trans ((Heap.get?_update_other _ _ hSi).trans e)
  · obtain ⟨o, ho, r⟩ := hl1
    exact ⟨o, (Heap.get?_update_other _ _ hSl).trans ((Heap.get?_update_other _ _ hSl).trans ho), r⟩
  · have hb' : s.heap.objs.size ≠ b := Nat.ne_of_gt (Heap.lt_size e)
    exact (Heap.get?_update_other _ _ hb').trans ((Heap.get?_update_other _ _ hb').trans (Heap.get?_push_of_some _ e))
theorem code_tuple_new_rt {it t : Addr} {items : Array Value} {Q₁ : Value → Shared → Prop} (hh : A.handled = none) (hit : IsRt s.heap it t ((items.size : Int) - 1)) (hl : IsTup s.heap t items) (hne : t ≠ it) (hn : items.size ≤ sizeLine) (hlen : ∀ (s : Shared), IsTup s.heap t items → ∀ (A : Around) (E : Value → Shared → Prop) (Q : Value → Shared → Prop), Q (.int items.size (s.toks + 1)) { s with toks := s.toks + 1 + 1 } → wpAny (model prog w) A (call (.builtin "len") [.ref t]) Q E s)
    (h : ∀ (h' : Heap) (tk : Nat) (acc : Array Value), (∀ b o, b ≠ it → s.heap.get? b = some o → h'.get? b = some o) → ItemsOf (fun i v => items[items.size - 1 - i]? = some v) acc items.size →
      Q₁ (.ref h'.objs.size) { s with heap := h'.push { cls := .type "tuple", data := .seq acc }, toks := tk }) :
    codeAny (model prog w) A (.call (.builtin "tuple.__new__") ⟨[.type "tuple", .ref it], []⟩) (wants Q₁ E) s := by
  refine codeAny_of_tree ?_
  show wpAny _ A.in1 (do checkBuiltinCall "tuple.__new__" ⟨[.type "tuple", .ref it], []⟩; again (.builtin "tuple.__new__" ⟨[.type "tuple", .ref it], []⟩)) _ _ s
  refine wpAny_bind (wpAny_of_eq (F.newCall_tuple_1 _) (wpAny_pure ⟨plainId_quiet F.plain_tuple_new _, codeAny_builtin F.entry_tuple_new ?_⟩))
  rw [Around.under_plainId F.plain_tuple_new _]
  have hsub := sub_tuple_self
  have hinit := init_tuple_lookup
  have hmh := madeHere_tuple
  have hTI : s.TypeIs (.ref it) "reversed" := hit.typeIs
  have hh1 : A.in1.handled = none := hh
  wp_walk using wpAny_typeOf hTI, collect_rt (A := A.in1) hh1 hit hl hne hn hlen
  intro h' tk acc hk hacc
  show wpAny _ _ (Builtin.Tuple.tupleExact acc.toList.toArray >>= fun v => ret v) _ _ _
  unfold Builtin.Tuple.tupleExact
  refine wpAny_bind (wpAny_newObj_type ?_ (by show acc.toList.toArray.size ≤ sizeLine; simp only [Array.toArray_toList]; rw [hacc.1]; exact hn))
  refine wpAny_pure ?_
  have e : acc.toList.toArray = acc := by simp
  rw [e]
  exact h h' tk acc hk hacc
theorem call_tuple_rt {it t : Addr} {items : Array Value} {Q : Value → Shared → Prop} (hh : A.handled = none) (hit : IsRt s.heap it t ((items.size : Int) - 1)) (hl : IsTup s.heap t items) (hne : t ≠ it) (hn : items.size ≤ sizeLine) (hlen : ∀ (s : Shared), IsTup s.heap t items → ∀ (A : Around) (E : Value → Shared → Prop) (Q : Value → Shared → Prop), Q (.int items.size (s.toks + 1)) { s with toks := s.toks + 1 + 1 } → wpAny (model prog w) A (call (.builtin "len") [.ref t]) Q E s)
    (hQ : ∀ (h' : Heap) (tk : Nat) (acc : Array Value), (∀ b o, b ≠ it → s.heap.get? b = some o → h'.get? b = some o) → ItemsOf (fun i v => items[items.size - 1 - i]? = some v) acc items.size →
      Q (.ref h'.objs.size) { s with heap := h'.push { cls := .type "tuple", data := .seq acc }, toks := tk }) :
    wpAny (model prog w) A (call (.type "tuple") [.ref it]) Q E s := by
  refine callType_codes (Q₁ := fun obj s₁ => s₁.TypeIs obj "tuple" ∧ Q obj s₁) F.called_tuple (F.typeCall_tuple_1 _) F.entry_object_init
    (code_tuple_new_rt (A := A.in1) hh hit hl hne hn hlen fun h' tk acc hk hacc => ⟨⟨_, Heap.get?_push_size _ rfl, rfl⟩, hQ h' tk acc hk hacc⟩) fun obj s₁ h₁ => ?_
  exact ⟨h₁.1, F.args_object_init_2 obj _, object_init_meets F.called_tuple.init.lookup F.called_tuple.made (by decide) prog w A.in1 _ s₁ ⟨h₁.1, rfl, h₁.2⟩⟩
end
end RTT
section
variable {X : Cx} {Γ : Gm} {W : WX} {M M' M0 : Addr → Prop} {ad : Nat → Addr} {ρ ρ' : Sto} {σ : L2.St} {H H' H0 F : Hp} {pins : List (Addr × Obj)} {s : Shared}
def tTupRevA (K : PySem.W.Frag) (te : TE) : TE := fun σ H Q => te σ H fun v H1 => ∃ (a : Addr) (xs : List V), v = .ref a ∧ (SqL K H1 a xs ∨ SqT K H1 a xs) ∧ ∀ q, H1 q = none → Q (.ref q) (upd H1 q (.tup xs.reverse))
theorem pe_tupRevA {e : Expr} {te : TE} {p p2 pos pos2 : Pos} (hc : X.calm = true) (hg : Gl X "tuple") (hm : X.mg "tuple" = none) (hg2 : Gl X "reversed") (hm2 : X.mg "reversed" = none) (he : PE X e te)
    (hs : starEach [e] X.env = (false, eval e X.env) :: starEach [] X.env := by rfl)
    (hs2 : starEach [.Call (.Name "reversed" p2) [e] [] pos2] X.env = (false, eval (.Call (.Name "reversed" p2) [e] [] pos2) X.env) :: starEach [] X.env := by rfl) :
    PE X (.Call (.Name "tuple" p) [.Call (.Name "reversed" p2) [e] [] pos2] [] pos) (tTupRevA X.K te) := by
  refine ⟨fun pins s σ H Q I h => ?_⟩
  refine Call_ (ld_blt I hg hm boot_tuple (PyProof.Rows.callWith_type1 (args_cons (Call_ (ld_blt I hg2 hm2 PyProof.Rows.boot_reversed (PyProof.Rows.callWith_type1 (args_cons (thn (he.run pins s σ H _ I h) fun u s1 ⟨v, H1, I1, r1, q1⟩ => args_nil ?_) hs) hs rfl))) hs2) hs2 rfl))
  obtain ⟨a, xs, ev, hq, q⟩ := q1
  subst ev
  obtain rfl : u = Value.ref a := r1
  rcases hq with hq | hq
  · obtain ⟨its, rv, p', hz⟩ := I1.list hq
    refine call_reversed_list p'.isList (args_nil ?_)
    have k0 : ∀ b o, s1.heap.get? b = some o → (s1.heap.push (revObj a ((its.toArray.size : Int) - 1))).get? b = some o := fun b o e => Heap.get?_push_of_some _ e
    have I2 : L2.Inv X pins σ H1 { s1 with heap := s1.heap.push (revObj a ((its.toArray.size : Int) - 1)) } := I1.kept (t' := s1.toks) k0
    obtain ⟨f0, f1, f2, f3, f4, f5⟩ := I1.fpOk (H' := H1) (b := s1.heap.objs.size) (Nat.le_refl _) (I1.hok.fresh (Nat.le_refl _))
    have hl := p'.isList
    obtain ⟨ol, hol, _⟩ := id hl
    have hne : a ≠ s1.heap.objs.size := Nat.ne_of_lt (Heap.lt_size hol)
    have hn : its.toArray.size ≤ sizeLine := by rw [List.size_toArray, ← rv.length]; exact hz
    refine RT.call_tuple_rev (s := { s1 with heap := s1.heap.push (revObj a ((its.toArray.size : Int) - 1)) }) (I1.ok.hd hc) ⟨_, Heap.get?_push_size _ rfl, rfl, rfl⟩ (hl.push _) hne hn fun h' tk acc hk hi => ?_
    have I3 : L2.Inv X pins σ H1 { s1 with heap := h', toks := tk } := I2.turned (t' := tk) (fun b o hb e => hk b o hb e) f0 f1 f3 f4 f5
    refine ⟨.ref h'.objs.size, upd H1 h'.objs.size (.tup xs.reverse), I3.laid (t' := tk) (fun c o e => Heap.get?_push_of_some _ e) (Nat.le_refl _) (show ObjOk X.prog X.w _ _ _ (.tup xs.reverse) from ⟨by rw [List.length_reverse]; exact hz, acc.toList, RT.vals_rev rv hi, ?_⟩), rfl, q _ (I3.hok.fresh (Nat.le_refl _))⟩
    rw [Array.toArray_toList]
    exact IsTup.new _ _
  · obtain ⟨its, rv, p', hz⟩ := I1.tuple hq
    have hn : its.toArray.size ≤ sizeLine := by rw [List.size_toArray, ← rv.length]; exact hz
    have l63 := line63
    have hlen := rv.length
    refine RT.call_reversed_tup p' (fun A E Q k => len_tuple p' (by simp only [List.size_toArray] at hn ⊢ <;> omega) k) (args_nil ?_)
    have k0 : ∀ b o, s1.heap.get? b = some o → (s1.heap.push (RT.rtObj a ((its.toArray.size : Int) - 1))).get? b = some o := fun b o e => Heap.get?_push_of_some _ e
    have I2 : L2.Inv X pins σ H1 { s1 with heap := s1.heap.push (RT.rtObj a ((its.toArray.size : Int) - 1)), toks := s1.toks + 1 + 1 } := I1.kept (t' := s1.toks + 1 + 1) k0
    obtain ⟨f0, f1, f2, f3, f4, f5⟩ := I1.fpOk (H' := H1) (b := s1.heap.objs.size) (Nat.le_refl _) (I1.hok.fresh (Nat.le_refl _))
    obtain ⟨ol, hol, hol2⟩ := id p'
    have hne : a ≠ s1.heap.objs.size := Nat.ne_of_lt (Heap.lt_size hol)
    refine RTT.call_tuple_rt (s := { s1 with heap := s1.heap.push (RT.rtObj a ((its.toArray.size : Int) - 1)), toks := s1.toks + 1 + 1 }) (I1.ok.hd hc) ⟨_, Heap.get?_push_size _ rfl, rfl, rfl⟩ ⟨ol, k0 _ _ hol, hol2⟩ hne hn (fun s ht A E Q k => len_tuple ht (by simp only [List.size_toArray] at hn ⊢ <;> omega) k) fun h' tk acc hk hi => ?_
    have I3 : L2.Inv X pins σ H1 { s1 with heap := h', toks := tk } := I2.turned (t' := tk) (fun b o hb e => hk b o hb e) f0 f1 f3 f4 f5
    refine ⟨.ref h'.objs.size, upd H1 h'.objs.size (.tup xs.reverse), I3.laid (t' := tk) (fun c o e => Heap.get?_push_of_some _ e) (Nat.le_refl _) (show ObjOk X.prog X.w _ _ _ (.tup xs.reverse) from ⟨by rw [List.length_reverse]; exact hz, acc.toList, RT.vals_rev rv hi, ?_⟩), rfl, q _ (I3.hok.fresh (Nat.le_refl _))⟩
    rw [Array.toArray_toList]
    exact IsTup.new _ _
def tuprevD : PD → R PD
  | .list xs => .ok (.tuple xs.reverse)
  | .tuple xs => .ok (.tuple xs.reverse)
  | _ => .stuck
theorem ee_tuprev {e : Expr} {m : Sto → R PD} {p p2 pos pos2 : Pos} (hK : X.K = Γ.K) (hc : X.calm = true) (hm : X.mg "tuple" = none) (hm2 : X.mg "reversed" = none) (he : PE X e (TEo Γ W m)) (hg : Gl X "tuple" := by rfl) (hg2 : Gl X "reversed" := by rfl)
    (hs : starEach [e] X.env = (false, eval e X.env) :: starEach [] X.env := by rfl)
    (hs2 : starEach [.Call (.Name "reversed" p2) [e] [] pos2] X.env = (false, eval (.Call (.Name "reversed" p2) [e] [] pos2) X.env) :: starEach [] X.env := by rfl) :
    PE X (.Call (.Name "tuple" p) [.Call (.Name "reversed" p2) [e] [] pos2] [] pos) (TEo Γ W (fun ρ => do tuprevD (← m ρ))) := pe_mono (pe_tupRevA hc hg hm hg2 hm2 he hs hs2) fun σ H Q ⟨M, ad, ρ, S, p⟩ =>
  ⟨M, ad, ρ, S, p.bind.imp fun x H1 e1 x1 v rv => by
    rw [hK]
    cases x with
    | list ds =>
      obtain ⟨a, ws, rfl, h1, h2⟩ := rv.lst_of
      exact ⟨a, ws, rfl, .inl (sqL_same (hid_le M H1) h1), fun q hq => x1 _ (same_new hq) _ (.tup (SqT.of (hid_new (fun a m => (S.mono e1).in_ a m) hq)) (h2.reverse.mono (hid_same (same_new hq))))⟩
    | tuple ds =>
      obtain ⟨a, ws, rfl, h1, h2⟩ := rv.tup_of
      exact ⟨a, ws, rfl, .inr (sqT_same (hid_le M H1) h1), fun q hq => x1 _ (same_new hq) _ (.tup (SqT.of (hid_new (fun a m => (S.mono e1).in_ a m) hq)) (h2.reverse.mono (hid_same (same_new hq))))⟩
    | _ => exact x1.elim⟩

/-! ## isinstance(x, T), T a built-in type -/
def tyNm : PD → String
  | .none => "NoneType"
  | .bool _ => "bool"
  | .int _ => "int"
  | .str _ => "str"
  | .list _ => "list"
  | .tuple _ => "tuple"
  | .dict _ => "dict"
def isiD (T : String) : PD → R PD
  | .dict _ => .stuck
  | x => .ok (.bool (tyNm x == T || (T == "int" && tyNm x == "bool")))
/-- what isinstance says of these built-in types -/
def IsiT (T : String) : Prop := ∀ x : PD, (∀ ds, x ≠ .dict ds) → kitB (tyNm x) T = some (tyNm x == T || (T == "int" && tyNm x == "bool"))
theorem isiT_of {T : String} (h : (["NoneType", "bool", "int", "str", "list", "tuple"].all fun a => kitB a T == some (a == T || (T == "int" && a == "bool"))) = true) : IsiT T := fun x n => by
  simp only [List.all_eq_true, beq_iff_eq] at h
  cases x with
  | dict ds => exact absurd rfl (n ds)
  | _ => exact h _ (by simp [tyNm])
theorem isi_list : IsiT "list" := isiT_of (by decide +kernel)
theorem isi_tuple : IsiT "tuple" := isiT_of (by decide +kernel)
theorem isi_bool : IsiT "bool" := isiT_of (by decide +kernel)
theorem isi_int : IsiT "int" := isiT_of (by decide +kernel)
theorem isi_str : IsiT "str" := isiT_of (by decide +kernel)
theorem Rp.tyx {v : V} {d : PD} (h : Rp Γ F v d) (n : ∀ ds, d ≠ .dict ds) (e : Same F H) : TyX Γ.K H v (.type (tyNm d)) := by
  cases h with
  | non => exact .base .non
  | bl b => exact .base (.bl b)
  | int i => exact .base (.int i)
  | str x => exact .base (.str x)
  | lst h r =>
    rcases h with (h | ⟨o, h⟩) | ⟨o, its, n, h1, h2, _⟩
    · exact .base (.lst (e _ _ h))
    · exact .base (.frz (e _ _ h))
    · exact .kList h1 h2
  | tup h r =>
    rcases h with (h | ⟨o, h⟩) | ⟨o, its, n, h1, h2, _⟩
    · exact .base (.tup (e _ _ h))
    · exact .fTuple (e _ _ h)
    · exact .kTuple h1 h2
  | dik h r => exact absurd rfl (n _)
  | din h r => exact absurd rfl (n _)
  | obj h r => exact absurd rfl (n _)
end
end Lilt

set_option Elab.async false
set_option linter.all false
set_option maxRecDepth 100000
set_option maxHeartbeats 2000000
set_option autoImplicit false
namespace Lilt
open PySem L2 PySem.Spec PyProof.Rows
section
variable {X : Cx} {Γ : Gm} {W : WX} {M M' M0 : Addr → Prop} {ad : Nat → Addr} {ρ ρ' : Sto} {σ : L2.St} {H H' H0 F : Hp} {pins : List (Addr × Obj)} {s : Shared}
theorem hu0 {k : Nat} (hr : Room k X.A) : X.A.units < cLine := by have := hr.un; omega
/-- a built-in's name as a value -/
theorem pe_blt {x : Str} {v : V} {u : Value} {pos : Pos} (hg : Gl X x) (hm : X.mg x = none) (hv : bootBuiltins x = some u) (r : RelV v u) (hn : x ≠ "__name__" := by decide) (hd : (x == ("__debug__" : Str)) = false := by decide) : PE X (.Name x pos) (tC v) :=
  ⟨fun pins s σ H Q I h => ld_blt I hg hm hv ⟨v, H, I, r, h⟩ hn hd⟩
theorem ee_isi {T : String} (hT : IsiT T) {x : Str} {e : Expr} {m : Sto → R PD} {p p2 pos : Pos} (hK : X.K = Γ.K) (hm : X.mg "isinstance" = none) (hx : X.mg x = none) (he : PE X e (TEo Γ W m)) (hv : bootBuiltins x = some (.type T)) (hn : x ≠ "__name__") (hdb : (x == ("__debug__" : Str)) = false) (hg : Gl X "isinstance" := by rfl) (hgx : Gl X x := by rfl)
    (h1 : starEach [e, .Name x p2] X.env = (false, eval e X.env) :: starEach [.Name x p2] X.env := by rfl) (h2 : starEach [.Name x p2] X.env = (false, eval (.Name x p2) X.env) :: starEach [] X.env := by rfl) (hpl : (backTo pos (starEach [.Name x p2] X.env)).any (·.1) = false := by rfl) :
    PE X (.Call (.Name "isinstance" p) [e, .Name x p2] [] pos) (TEo Γ W (fun ρ => do isiD T (← m ρ))) :=
  pe_mono (pe_callB call_isi hg hm (by decide +kernel) (pa_cons he (pa_cons (pe_blt hgx hx hv (v := .ty T) rfl hn hdb) pa_nil h2) h1) (by decide) (by decide) h1 hpl) fun σ H Q ⟨M, ad, ρ, S, p⟩ =>
  ⟨M, ad, ρ, S, p.bind.imp fun x H1 e1 x1 v rv => by
    have hd : ∀ ds, x ≠ .dict ds := fun ds q => by subst q; exact x1.elim
    have ed : isiD T x = .ok (.bool (tyNm x == T || (T == "int" && tyNm x == "bool"))) := by cases x <;> first | rfl | exact absurd rfl (hd _)
    rw [ed] at x1
    rw [hK]
    exact ⟨v, .ty T, _, _, _, rfl, .ty T, rv.tyx hd (hid_le M H1), kit_ty (hT x hd), x1.now _ (.bl _)⟩⟩

/-! ## reversed -/
def revD : List PD → R (List PD)
  | [.list xs] => .ok xs.reverse
  | [.tuple xs] => .ok xs.reverse
  | _ => .stuck
theorem rev_get {A : Type} {xs : List A} {i : Nat} {d : A} (q : xs.reverse[i]? = some d) : xs[xs.length - 1 - i]? = some d := by
  have hi : i < xs.length := by simpa using (List.getElem?_eq_some_iff.mp q).1
  rw [List.getElem?_reverse hi] at q
  exact q
theorem itd_rev {a : Addr} {vs : List V} {ds : List PD} (h : SqL Γ.K F a vs) (r : RpA Γ F vs ds) : ItD Γ F (Itv Γ.K a vs.length) ds.reverse := by
  refine ⟨_, _, by rw [List.length_reverse, ← r.length]; exact walk_rev (xs := vs), fun H' e => sqL_same e h, fun i H x H' M d y im e q => ?_⟩
  obtain ⟨rfl, hx⟩ := y
  obtain ⟨d', h1, h2⟩ := r.get' hx
  have q' := rev_get q
  rw [← r.length, h1] at q'
  obtain rfl := Option.some.inj q'
  exact ⟨Same.refl _, h2.mono e⟩
theorem walk_revT {K : PySem.W.Frag} {a : Addr} {xs : List V} : Walk (RT.ItvT K a xs.length) xs.length (fun H => SqT K H a xs) (fun i H x H' => H' = H ∧ xs[xs.length - 1 - i]? = some x) :=
  ⟨fun i H hi h => ⟨hi, xs, xs[xs.length - 1 - i]'(by omega), h, List.getElem?_eq_getElem (by omega)⟩, fun H h => Nat.le_refl _, fun i H x H' hi h y => ⟨y.1, y.2 xs h⟩⟩
theorem itd_revT {a : Addr} {vs : List V} {ds : List PD} (h : SqT Γ.K F a vs) (r : RpA Γ F vs ds) : ItD Γ F (RT.ItvT Γ.K a vs.length) ds.reverse := by
  refine ⟨_, _, by rw [List.length_reverse, ← r.length]; exact walk_revT (xs := vs), fun H' e => sqT_same e h, fun i H x H' M d y im e q => ?_⟩
  obtain ⟨rfl, hx⟩ := y
  obtain ⟨d', h1, h2⟩ := r.get' hx
  have q' := rev_get q
  rw [← r.length, h1] at q'
  obtain rfl := Option.some.inj q'
  exact ⟨Same.refl _, h2.mono e⟩
theorem ei_rev {tg e : Expr} {p pos : Pos} {m : Sto → R PD} (hK : X.K = Γ.K) (hm : X.mg "reversed" = none) (h : PE X e (TEo Γ W m)) (hg : Gl X "reversed" := by rfl) (hs : starEach [e] X.env = (false, eval e X.env) :: starEach [] X.env := by rfl) :
    PI X tg (.Call (.Name "reversed" p) [e] [] pos) (TIo Γ W (fun ρ => do revD [← m ρ])) := pi_mono (RT.pi_revA hg hm h hs) fun σ H Rr ⟨M, ad, ρ, S, p⟩ =>
  ⟨M, ad, ρ, S, p.bind.imp fun x H1 e1 x1 v rv => by
    rw [hK]
    cases x with
    | list ds =>
      obtain ⟨a, ws, rfl, h1, h2⟩ := rv.lst_of
      exact ⟨a, ws, rfl, .inl ⟨sqL_same (hid_le M H1) h1, x1.now _ (itd_rev h1 h2)⟩⟩
    | tuple ds =>
      obtain ⟨a, ws, rfl, h1, h2⟩ := rv.tup_of
      exact ⟨a, ws, rfl, .inr ⟨sqT_same (hid_le M H1) h1, x1.now _ (itd_revT h1 h2)⟩⟩
    | _ => exact x1.elim⟩

/-! ## constants of the module -/
def GlobAt (K : PySem.W.Frag) (mg : Str → Option Value) (x : Str) (d : PD) : Prop := ∃ (v : V) (u : Value), mg x = some u ∧ RelV v u ∧ ∀ (P : Program) (w : World) (cl : Str → Addr), Rp ⟨P, w, K, cl⟩ (fun _ => none) v d
theorem ee_const {P : Program} {w : World} {K : PySem.W.Frag} {cl : Str → Addr} {x : Str} {d : PD} {pos : Pos} (h : GlobAt K X.mg x d) (hg : Gl X x := by rfl) (hdb : (x == ("__debug__" : Str)) = false := by decide) : PE X (.Name x pos) (TEo ⟨P, w, K, cl⟩ W (mC d)) :=
  let ⟨_, _, hm, r, hd⟩ := h
  ee_glob hg hm r (hd P w cl) hdb
end
end Lilt

set_option Elab.async false
set_option linter.all false
set_option maxRecDepth 100000
set_option maxHeartbeats 2000000
set_option autoImplicit false
namespace Lilt
open PySem L2
/-! ## the mirrors' parts, run -/
@[simp] theorem run_seq (m n : Sto → R Out) (ρ : Sto) : mSeq m n ρ = (match m ρ with | .ok (.nx ρ') => n ρ' | r => r) := by
  unfold mSeq; cases m ρ with
  | ok o => cases o <;> rfl
  | _ => rfl
@[simp] theorem run_nx (ρ : Sto) : mNx ρ = .ok (.nx ρ) := rfl
@[simp] theorem run_ret (m : Sto → R PD) (ρ : Sto) : mRet m ρ = lift (m ρ) ρ fun x => .ok (.rt x false) := rfl
@[simp] theorem run_retF (m : Sto → R PD) (ρ : Sto) : mRetF m ρ = lift (m ρ) ρ fun x => .ok (.rt x true) := rfl
@[simp] theorem run_retO (i : Nat) (ρ : Sto) : mRetO i ρ = (match ρ[i]? with
  | some (.ov x) => .ok (.rt x true)
  | some (.d x) => if ownD x then .stuck else .ok (.rt x true)
  | _ => .stuck) := rfl
@[simp] theorem run_set (i : Nat) (m : Sto → R PD) (ρ : Sto) : mSet i m ρ = lift (m ρ) ρ fun x => .ok (.nx (ρ.set i (.d x))) := rfl
@[simp] theorem run_setF (i : Nat) (m : Sto → R PD) (ρ : Sto) : mSetF i m ρ = lift (m ρ) ρ fun x => .ok (.nx (setOv i x ρ)) := rfl
@[simp] theorem run_setFd (i : Nat) (m : Sto → R PD) (ρ : Sto) : mSetFd i m ρ = lift (m ρ) ρ fun x => .ok (.nx (ρ.set i (.d x))) := rfl
@[simp] theorem run_if (c : Sto → R Bool) (m n : Sto → R Out) (ρ : Sto) : mIfS c m n ρ = lift (c ρ) ρ fun b => if b then m ρ else n ρ := rfl
@[simp] theorem run_unp (t : Tg) (m : Sto → R PD) (ρ : Sto) : mUnp t m ρ = lift (m ρ) ρ fun x => match setT t x ρ with
  | .ok ρ' => .ok (.nx ρ')
  | _ => .stuck := rfl
@[simp] theorem run_frz (i : Nat) (m : Sto → R Out) (ρ : Sto) : mFrz i m ρ = m (frz i ρ) := rfl
@[simp] theorem run_for (mi : Sto → R (List PD)) (t : Tg) (mb : Sto → R Out) (ρ : Sto) : mFor mi t mb ρ = lift (mi ρ) ρ fun ds => forD t mb ds ρ := rfl
@[simp] theorem run_forDK (j : Nat) (t : Tg) (mb : Sto → R Out) (ρ : Sto) : mForDK j t mb ρ = (match ρ[j]? with
  | some (.d x) => match keysD x with
    | some ks => forDK t mb ks ρ
    | none => .stuck
  | _ => .stuck) := rfl
@[simp] theorem run_app (i : Nat) (me : Sto → R PD) (ρ : Sto) : mApp i me ρ = (match ρ[i]? with
  | some (.ov (.list ds)) => lift (me ρ) ρ fun x => if ds.length < sizeLine then .ok (.nx (ρ.set i (.ov (.list (ds ++ [x]))))) else .stuck
  | _ => .stuck) := rfl
@[simp] theorem lift_ok {A : Type} (a : A) (ρ : Sto) (k : A → R Out) : lift (.ok a) ρ k = k a := rfl
@[simp] theorem run_var_d (i : Nat) (ρ : Sto) : mVar i ρ = (match ρ[i]? with
  | some (.d x) => .ok x
  | some (.ov x) => if ownD x then .stuck else .ok x
  | _ => .stuck) := rfl
@[simp] theorem run_c (d : PD) (ρ : Sto) : mC d ρ = .ok d := rfl
@[simp] theorem run_nil (ρ : Sto) : mNil ρ = .ok [] := rfl
@[simp] theorem run_cons (m : Sto → R PD) (ms : Sto → R (List PD)) (ρ : Sto) : mCons m ms ρ = (m ρ >>= fun x => ms ρ >>= fun xs => .ok (x :: xs)) := rfl
@[simp] theorem run_tup (ms : Sto → R (List PD)) (ρ : Sto) : mTup ms ρ = (ms ρ >>= fun xs => szT xs) := rfl
@[simp] theorem run_lst (ms : Sto → R (List PD)) (ρ : Sto) : mLst ms ρ = (ms ρ >>= fun xs => szL xs) := rfl
@[simp] theorem run_bool (m : Sto → R PD) (ρ : Sto) : mBool m ρ = (m ρ >>= fun x => match x with
  | .bool b => .ok b
  | _ => .stuck) := rfl
@[simp] theorem run_and (m n : Sto → R Bool) (ρ : Sto) : mAnd m n ρ = (m ρ >>= fun b => if b then n ρ else .ok false) := rfl
@[simp] theorem run_or (m n : Sto → R Bool) (ρ : Sto) : mOr m n ρ = (m ρ >>= fun b => if b then .ok true else n ρ) := rfl
@[simp] theorem run_not (m : Sto → R Bool) (ρ : Sto) : mNot m ρ = (m ρ >>= fun b => .ok (!b)) := rfl
@[simp] theorem run_andV (m n : Sto → R PD) (ρ : Sto) : mAndV m n ρ = (m ρ >>= fun x => match x with
  | .bool true => n ρ
  | .bool false => .ok (.bool false)
  | _ => .stuck) := rfl
@[simp] theorem run_orV (m n : Sto → R PD) (ρ : Sto) : mOrV m n ρ = (m ρ >>= fun x => match x with
  | .bool true => .ok (.bool true)
  | .bool false => n ρ
  | _ => .stuck) := rfl
@[simp] theorem run_notV (m : Sto → R PD) (ρ : Sto) : mNotV m ρ = (m ρ >>= fun x => match x with
  | .bool b => .ok (.bool (!b))
  | _ => .stuck) := rfl
@[simp] theorem run_ifE (c : Sto → R Bool) (m n : Sto → R PD) (ρ : Sto) : mIf c m n ρ = (c ρ >>= fun b => if b then m ρ else n ρ) := rfl
@[simp] theorem run_noPart (ρ : Sto) : mNoPart ρ = .ok none := rfl
@[simp] theorem run_part (m : Sto → R PD) (ρ : Sto) : mPart m ρ = (m ρ >>= fun x => match x with
  | .int i => .ok (some i)
  | _ => .stuck) := rfl
@[simp] theorem run_slice (m : Sto → R PD) (lo hi : Sto → R (Option Int)) (ρ : Sto) : mSlice m lo hi ρ = (m ρ >>= fun x => lo ρ >>= fun l => hi ρ >>= fun h => sliceD x l h) := rfl
@[simp] theorem run_lc (mi : Sto → R (List PD)) (t : Tg) (vs : List Nat) (mt : Sto → R Bool) (me : Sto → R PD) (ρ : Sto) : mLc mi t vs mt me ρ = (mi ρ >>= fun ds => match compD t mt me (wipeS ρ vs) ds with
  | some out => szL out
  | none => .stuck) := rfl
@[simp] theorem run_yes (ρ : Sto) : mYes ρ = .ok true := rfl
@[simp] theorem run_chain (f g : PD → PD → R PD) (ma mb mc : Sto → R PD) (ρ : Sto) : mChain f g ma mb mc ρ = (ma ρ >>= fun x => mb ρ >>= fun y => f x y >>= fun b => match b with
  | .bool true => mc ρ >>= fun z => g y z
  | .bool false => .ok (.bool false)
  | _ => .stuck) := rfl
@[simp] theorem run_join (mo me : Sto → R PD) (ρ : Sto) : mJoin mo me ρ = (mo ρ >>= fun x => match x with
  | .str a => me ρ >>= fun y => joinD (.str a) y
  | _ => .stuck) := rfl
@[simp] theorem run_listO (i : Nat) (ρ : Sto) : mListO i ρ = (match ρ[i]? with
  | some (.ov (.list xs)) => .ok (.list xs)
  | _ => .stuck) := rfl
@[simp] theorem run_getdK (ma mb mc : Sto → R PD) (ρ : Sto) : mGetdK ma mb mc ρ = (ma ρ >>= fun x => if isDK x then mb ρ >>= fun y => mc ρ >>= fun z => getdK x y z else .stuck) := rfl
@[simp] theorem run_dputK (i : Nat) (mx mv : Sto → R PD) (ρ : Sto) : mDputK i mx mv ρ = (match ρ[i]? with
  | some (.ov (.dict ds)) => lift (mv ρ) ρ fun v => lift (mx ρ) ρ fun k => match keyOf k with
    | some _ => if isTag ds then .stuck else if ds.length < sizeLine then .ok (.nx (ρ.set i (.ov (.dict (putD ds k v))))) else .stuck
    | none => .stuck
  | _ => .stuck) := rfl
@[simp] theorem run_dputN (i : Nat) (mx mv : Sto → R PD) (ρ : Sto) : mDputN i mx mv ρ = (match ρ[i]? with
  | some (.ov z) => match unN z with
    | some ds => lift (mv ρ) ρ fun v => lift (mx ρ) ρ fun k => match keyN k with
      | some _ => if ds.length < sizeLine then .ok (.nx (ρ.set i (.ov (mkN (putD ds k v))))) else .stuck
      | none => .stuck
    | none => .stuck
  | _ => .stuck) := rfl
@[simp] theorem run_dsetdN (i : Nat) (mx mv : Sto → R PD) (ρ : Sto) : mDsetdN i mx mv ρ = (match ρ[i]? with
  | some (.ov z) => match unN z with
    | some ds => lift (mx ρ) ρ fun k => lift (mv ρ) ρ fun v => match keyN k with
      | some _ => if ds.length < sizeLine then .ok (.nx (if (lookD ds k).isSome then ρ else ρ.set i (.ov (mkN (putD ds k v))))) else .stuck
      | none => .stuck
    | none => .stuck
  | _ => .stuck) := rfl
@[simp] theorem set_nm (i : Nat) (d : PD) (ρ : Sto) : setT (.nm i) d ρ = .ok (ρ.set i (.d d)) := by simp only [setT]
@[simp] theorem set_tp (l : List Tg) (xs : List PD) (ρ : Sto) : setT (.tp l) (.tuple xs) ρ = setTs l xs ρ := by simp only [setT]
@[simp] theorem set_tsn (ρ : Sto) : setTs [] [] ρ = .ok ρ := by simp only [setTs]
@[simp] theorem set_tsc (t : Tg) (ts : List Tg) (x : PD) (xs : List PD) (ρ : Sto) : setTs (t :: ts) (x :: xs) ρ = (setT t x ρ >>= fun ρ' => setTs ts xs ρ') := by simp only [setTs]

/-! ## loops -/
theorem forD_inv {t : Tg} {mb : Sto → R Out} (Iv : Nat → Sto → Prop) (Rt : PD → Bool → Prop) : ∀ (ds : List PD) (k : Nat) (ρ : Sto), Iv k ρ →
    (∀ (i : Nat) (d : PD) (ρ : Sto), ds[i]? = some d → Iv (k + i) ρ → ∃ ρ1, setT t d ρ = .ok ρ1 ∧ ((∃ ρ2, mb ρ1 = .ok (.nx ρ2) ∧ Iv (k + i + 1) ρ2) ∨ ∃ x b, mb ρ1 = .ok (.rt x b) ∧ Rt x b)) →
    (∃ ρ', forD t mb ds ρ = .ok (.nx ρ') ∧ Iv (k + ds.length) ρ') ∨ ∃ x b, forD t mb ds ρ = .ok (.rt x b) ∧ Rt x b
  | [], k, ρ, h0, _ => .inl ⟨ρ, rfl, h0⟩
  | d :: ds, k, ρ, h0, hs => by
    obtain ⟨ρ1, e1, h⟩ := hs 0 d ρ rfl h0
    rcases h with ⟨ρ2, e2, h2⟩ | ⟨x, b, e2, h2⟩
    · have := forD_inv Iv Rt ds (k + 1) ρ2 (by simpa using h2) fun i d ρ hd hi => by
        have := hs (i + 1) d ρ (by simpa using hd) (by rw [show k + (i + 1) = k + 1 + i by omega]; exact hi)
        rw [show k + (i + 1) = k + 1 + i by omega] at this
        exact this
      simp only [forD, e1, e2]
      rw [List.length_cons, show k + (ds.length + 1) = k + 1 + ds.length by omega]
      exact this
    · refine .inr ⟨x, b, ?_, h2⟩
      simp only [forD, e1, e2]
theorem forDK_inv {t : Tg} {mb : Sto → R Out} (Iv : Nat → Sto → Prop) (Rt : PD → Bool → Prop) : ∀ (ds : List PD) (k : Nat) (ρ : Sto), Iv k ρ →
    (∀ (i : Nat) (d : PD) (ρ : Sto), ds[i]? = some d → Iv (k + i) ρ → ∃ ρ1, setT t d ρ = .ok ρ1 ∧ ((∃ ρ2, mb ρ1 = .ok (.nx ρ2) ∧ Iv (k + i + 1) ρ2) ∨ ∃ x b, mb ρ1 = .ok (.rt x b) ∧ Rt x b)) →
    (∃ ρ', forDK t mb ds ρ = .ok (.nx ρ') ∧ Iv (k + ds.length) ρ') ∨ ∃ x b, forDK t mb ds ρ = .ok (.rt x b) ∧ Rt x b
  | [], k, ρ, h0, _ => .inl ⟨ρ, rfl, h0⟩
  | d :: ds, k, ρ, h0, hs => by
    obtain ⟨ρ1, e1, h⟩ := hs 0 d ρ rfl h0
    rcases h with ⟨ρ2, e2, h2⟩ | ⟨x, b, e2, h2⟩
    · have := forDK_inv Iv Rt ds (k + 1) ρ2 (by simpa using h2) fun i d ρ hd hi => by
        have := hs (i + 1) d ρ (by simpa using hd) (by rw [show k + (i + 1) = k + 1 + i by omega]; exact hi)
        rw [show k + (i + 1) = k + 1 + i by omega] at this
        exact this
      simp only [forDK, e1, e2]
      rw [List.length_cons, show k + (ds.length + 1) = k + 1 + ds.length by omega]
      exact this
    · refine .inr ⟨x, b, ?_, h2⟩
      simp only [forDK, e1, e2]
theorem comp_ok {t : Tg} {mt : Sto → R Bool} {me : Sto → R PD} {ρ : Sto} (p : PD → Bool) (f : PD → PD) : ∀ {ds : List PD}, (∀ d ∈ ds, ∃ ρ1, setT t d ρ = .ok ρ1 ∧ mt ρ1 = .ok (p d) ∧ (p d = true → me ρ1 = .ok (f d))) →
    compD t mt me ρ ds = some ((ds.filter p).map f)
  | [], _ => rfl
  | d :: ds, h => by
    obtain ⟨ρ1, e1, e2, e3⟩ := h d List.mem_cons_self
    have ih := comp_ok p f (ds := ds) fun d hd => h d (List.mem_cons_of_mem _ hd)
    cases hp : p d with
    | true => simp [compD, e1, R.opt, e2, hp, e3 hp, ih]
    | false => simp [compD, e1, R.opt, e2, hp, ih]

/-! ## operations -/
theorem sl_big : (1000000 : Nat) < sizeLine := by rw [sizeLine_eq]; decide
theorem atI_nat {A : Type} {xs : List A} {i : Nat} {a : A} (h : xs[i]? = some a) : atI xs (i : Int) = some a := by
  have hi := (List.getElem?_eq_some_iff.mp h).1
  unfold atI ixN
  rw [if_pos (by omega), if_pos (by omega)]
  simpa using h
theorem atI_last {A : Type} {xs : List A} {a : A} : atI (xs ++ [a]) (-1) = some a := by
  unfold atI ixN
  have hl : (xs ++ [a]).length = xs.length + 1 := by simp
  rw [if_neg (by omega), if_pos (by omega), hl]
  have e : (-1 + ((xs.length + 1 : Nat) : Int)).toNat = xs.length := by omega
  simp only [Option.bind_some]
  rw [e]
  simp
theorem ix_tup {xs : List PD} {i : Nat} {a : PD} (h : xs[i]? = some a) : ixD (.tuple xs) (.int (i : Int)) = .ok a := by simp only [ixD, ixT, atI_nat h]
theorem ix_lst {xs : List PD} {i : Nat} {a : PD} (h : xs[i]? = some a) : ixD (.list xs) (.int (i : Int)) = .ok a := by simp only [ixD, ixL, atI_nat h]
theorem ix_str {x : Str} {i c : Nat} (h : x.cps.toList[i]? = some c) (hl : x.length ≤ 1000000) : ixD (.str x) (.int (i : Int)) = .ok (.str ⟨#[c]⟩) := by
  have := sl_big
  simp only [ixD, ixS, atI_nat h]
  rw [if_pos (by omega)]
/-- good data: of a depth -/
def Sd (n : Nat) (d : PD) : Prop := d.canLay0 = true ∧ d.depth ≤ n
theorem Sd.mono {n m : Nat} {d : PD} (h : Sd n d) (e : n ≤ m) : Sd m d := ⟨h.1, Nat.le_trans h.2 e⟩
theorem Sd.shaped {n : Nat} {d : PD} (h : Sd n d) (e : n ≤ 64 := by decide) : SeqAt.shaped d = true := by
  unfold SeqAt.shaped
  rw [h.1, Bool.true_and]
  exact decide_eq_true (Nat.le_trans h.2 e)
theorem Sd.none {n : Nat} : Sd n .none := ⟨by simp [PyData.canLay0], by simp [PyData.depth]⟩
theorem Sd.bool {n : Nat} (b : Bool) : Sd n (.bool b) := ⟨by simp [PyData.canLay0], by simp [PyData.depth]⟩
theorem Sd.int {n : Nat} (b : Int) : Sd n (.int b) := ⟨by simp [PyData.canLay0], by simp [PyData.depth]⟩
theorem Sd.str {n : Nat} {x : Str} (h : PyData.strOk x = true) : Sd n (.str x) := ⟨by simpa [PyData.canLay0] using h, by simp [PyData.depth]⟩
theorem sdA : ∀ {n : Nat} {ds : List PD}, (∀ d ∈ ds, Sd n d) → PyData.canLayAll0 ds = true ∧ PyData.depthAll ds ≤ n
  | n, [], _ => ⟨by simp [PyData.canLayAll0], by simp [PyData.depthAll]⟩
  | n, d :: ds, h => by
    obtain ⟨h1, h2⟩ := h d List.mem_cons_self
    obtain ⟨h3, h4⟩ := sdA (n := n) (ds := ds) fun x hx => h x (List.mem_cons_of_mem _ hx)
    refine ⟨by simp [PyData.canLayAll0, h1, h3], ?_⟩
    simp only [PyData.depthAll]
    omega
theorem Sd.tup {n : Nat} {ds : List PD} (h : ∀ d ∈ ds, Sd n d) : Sd (n + 1) (.tuple ds) := by
  obtain ⟨h1, h2⟩ := sdA h
  refine ⟨by simpa [PyData.canLay0] using h1, ?_⟩
  simp only [PyData.depth]
  omega
theorem Sd.lst {n : Nat} {ds : List PD} (h : ∀ d ∈ ds, Sd n d) : Sd (n + 1) (.list ds) := by
  obtain ⟨h1, h2⟩ := sdA h
  refine ⟨by simpa [PyData.canLay0] using h1, ?_⟩
  simp only [PyData.depth]
  omega
theorem eq_ok {x y : PD} (hx : Sd 64 x) (hy : Sd 64 y) : eqD x y = .ok (.bool (PyData.eqv x y)) := by unfold eqD; rw [hx.shaped, hy.shaped]; rfl
theorem ne_ok {x y : PD} (hx : Sd 64 x) (hy : Sd 64 y) : neD x y = .ok (.bool (!PyData.eqv x y)) := by unfold neD; rw [hx.shaped, hy.shaped]; rfl
theorem inT_ok {x : PD} {ys : List PD} (hx : Sd 64 x) (hy : Sd 64 (.tuple ys)) : inA x (.tuple ys) = .ok (.bool (ys.any fun z => PyData.eqv z x)) := by unfold inA inU; simp only; rw [hx.shaped, hy.shaped]; rfl
theorem inL_ok {x : PD} {ys : List PD} (hx : Sd 64 x) (hy : Sd 64 (.list ys)) : inA x (.list ys) = .ok (.bool (ys.any fun z => PyData.eqv z x)) := by unfold inA inL; simp only; rw [hx.shaped, hy.shaped]; rfl
@[simp] theorem lt_ok (i j : Int) : ltI (.int i) (.int j) = .ok (.bool (decide (i < j))) := rfl
@[simp] theorem gt_ok (i j : Int) : gtI (.int i) (.int j) = .ok (.bool (decide (j < i))) := rfl
@[simp] theorem le_ok (i j : Int) : leI (.int i) (.int j) = .ok (.bool (decide (i ≤ j))) := rfl
@[simp] theorem ge_ok (i j : Int) : geI (.int i) (.int j) = .ok (.bool (decide (j ≤ i))) := rfl
@[simp] theorem sub_ok (i j : Int) : subI (.int i) (.int j) = .ok (.int (i - j)) := rfl
@[simp] theorem add_ok (i j : Int) : addD (.int i) (.int j) = .ok (.int (i + j)) := rfl
@[simp] theorem addi_ok (i j : Int) : addI (.int i) (.int j) = .ok (.int (i + j)) := rfl
theorem addT_ok {x y : List PD} (h : x.length + y.length ≤ 1000000) : addD (.tuple x) (.tuple y) = .ok (.tuple (x ++ y)) := by
  have := sl_big; simp only [addD]; rw [if_pos (by omega)]
theorem addL_ok {x y : List PD} (h : x.length + y.length ≤ 1000000) : addD (.list x) (.list y) = .ok (.list (x ++ y)) := by
  have := sl_big; simp only [addD]; rw [if_pos (by omega)]
theorem szT_ok {x : List PD} (h : x.length ≤ 1000000) : szT x = .ok (.tuple x) := by
  have := sl_big; unfold szT; rw [if_pos (by omega)]
theorem szL_ok {x : List PD} (h : x.length ≤ 1000000) : szL x = .ok (.list x) := by
  have := sl_big; unfold szL; rw [if_pos (by omega)]
@[simp] theorem len_tup (xs : List PD) : lenD [.tuple xs] = .ok (.int xs.length) := rfl
@[simp] theorem len_lst (xs : List PD) : lenD [.list xs] = .ok (.int xs.length) := rfl
theorem len_str {x : Str} (h : x.length ≤ 1000000) : lenD [.str x] = .ok (.int x.length) := by
  have := sl_big; simp only [lenD]; rw [if_pos (by omega)]
end Lilt

set_option Elab.async false
set_option linter.all false
set_option maxRecDepth 100000
set_option maxHeartbeats 4000000
set_option autoImplicit false
namespace Lilt.K80
open PySem L2 Lilt
def b_fits : Sto → R Out :=
  (mRet (mOrV (mBin eqD (mBin ixD (mVar 1) (mVar 2)) (mVar 0)) (mBin eqD (mBin ixD (mVar 1) (mVar 2)) (mC (.str "x")))))
def m_fits : List PD → R PD := runF 3 b_fits
def b_behind : Sto → R Out :=
  (mSeq (mUnp (.tp [.nm 5, .nm 6]) (mBin ixD (mVar 0) (mVar 1))) (mSeq (mIfS (mBool (mBin ltI (mVar 3) (mAp lenD (mCons (mBin ixD (mVar 5) (mVar 2)) mNil)))) (mRet (mLst (mCons (mTup (mCons (mVar 2) (mCons (mTup (mCons (mVar 1) (mCons (mVar 2) (mCons (mVar 3) mNil)))) mNil))) mNil))) mNx) (mSeq (mIfS (mAnd (mBool (mVar 6)) (mNot (mBool (mVar 4)))) (mRet (mLst mNil)) mNx) (mRet (mLst (mCons (mTup (mCons (mVar 2) (mCons (mTup (mCons (mBin addD (mVar 1) (mC (.int 1))) (mCons (mC (.int 0)) (mCons (mC (.int 0)) mNil)))) mNil))) mNil))))))
def m_behind : List PD → R PD := runF 7 b_behind
def b_is_through : Sto → R Out :=
  (mRet (mBin inA (mTup (mCons (mAp lenD (mCons (mVar 0) mNil)) (mCons (mC (.int 0)) (mCons (mC (.int 0)) mNil)))) (mVar 1)))
def m_is_through : List PD → R PD := runF 2 b_is_through
def b__law_cell_at : Sto → R Out :=
  (mSeq (mIfS (mBool (mBin ltI (mVar 1) (mAp lenD (mCons (mVar 0) mNil)))) (mRet (mBin ixD (mVar 0) (mVar 1))) mNx) (mRet (mC (.int 0))))
def m__law_cell_at : List PD → R PD := runF 2 b__law_cell_at
def b__law_mix : Sto → R Out :=
  (mRet (mBin modI (mBin addD (mBin mulI (mBin modI (mVar 0) (mC (.int 1000003))) (mBin addD (mC (.int 48271)) (mBin mulI (mBin mulI (mC (.int 15838)) (mVar 1)) (mVar 1)))) (mBin mulI (mC (.int 69621)) (mVar 1))) (mC (.int 2147483647))))
def m__law_mix : List PD → R PD := runF 2 b__law_mix
def b__law_pattern : Sto → R Out :=
  (mRet (mJoin (mC (.str "")) (mLc (mItA rng1 (mCons (mBin addD (mC (.int 1)) (mBin modI (mBin modI (mVar 0) (mC (.int 4))) (mC (.int 3)))) mNil)) (.nm 1) [1] mYes (mBin ixD (mC (.str "u-x")) (mBin modI (mBin divI (mVar 0) (mBin ixD (mLst (mCons (mC (.int 4)) (mCons (mC (.int 12)) (mCons (mC (.int 36)) (mCons (mC (.int 108)) mNil))))) (mVar 1))) (mC (.int 3)))))))
def m__law_pattern : List PD → R PD := runF 2 b__law_pattern
def b__law_fits : Sto → R Out :=
  (mSeq (mIfS (mOr (mBool (mBin gtI (mBin addD (mVar 1) (mAp lenD (mCons (mVar 2) mNil))) (mAp lenD (mCons (mVar 0) mNil)))) (mAnd (mBool (mVar 3)) (mNot (mBool (mBin ixD (mBin ixD (mVar 0) (mBin subI (mBin addD (mVar 1) (mAp lenD (mCons (mVar 2) mNil))) (mC (.int 1)))) (mC (.int 1))))))) (mRet (mC (.bool false))) mNx) (mRet (mBin eqD (mLc (mItA rng1 (mCons (mAp lenD (mCons (mVar 2) mNil)) mNil)) (.nm 4) [4] (mBool (mBin notinA (mBin ixD (mVar 2) (mVar 4)) (mTup (mCons (mC (.str "x")) (mCons (mBin ixD (mBin ixD (mVar 0) (mBin addD (mVar 1) (mVar 4))) (mC (.int 0))) mNil))))) (mVar 4)) (mLst mNil))))
def m__law_fits : List PD → R PD := runF 5 b__law_fits
def b__law_is_row : Sto → R Out :=
  (mSeq (mIfS (mOr (mNot (mBool (fun ρ => do isiD "list" (← (mVar 0) ρ)))) (mOr (mBool (mBin eqD (mVar 0) (mLst mNil))) (mBool (mBin isnotA (mBin ixD (mBin ixD (mVar 0) (fun ρ => do negI (← (mC (.int 1)) ρ))) (mC (.int 1))) (mC (.bool true)))))) (mRet (mC (.bool false))) mNx) (mSeq (mFor (mIt itemsD (mVar 0)) (.nm 1) (mIfS (mOr (mNot (mBool (fun ρ => do isiD "tuple" (← (mVar 1) ρ)))) (mOr (mBool (mBin neD (mAp lenD (mCons (mVar 1) mNil)) (mC (.int 2)))) (mOr (mBool (mBin notinA (mBin ixD (mVar 1) (mC (.int 0))) (mTup (mCons (mC (.str "u")) (mCons (mC (.str "-")) mNil))))) (mNot (mBool (fun ρ => do isiD "bool" (← (mBin ixD (mVar 1) (mC (.int 1))) ρ))))))) (mRet (mC (.bool false))) mNx)) (mRet (mC (.bool true)))))
def m__law_is_row : List PD → R PD := runF 2 b__law_is_row
def b_moves_of : Sto → R Out :=
  (mSeq (mUnp (.tp [.nm 4, .nm 5, .nm 6]) (mVar 1)) (mSeq (mIfS (mBool (mBin eqD (mVar 4) (mAp lenD (mCons (mVar 0) mNil)))) (mRet (mLst mNil)) mNx) (mSeq (mSet 7 (mBin ixD (mBin ixD (mVar 0) (mVar 4)) (mC (.int 0)))) (mSeq (mIfS (mBool (mBin gtI (mVar 6) (mC (.int 0)))) (mSeq (mIfS (mNot (mBool (mAp m_fits (mCons (mVar 2) (mCons (mBin ixD (mVar 7) (mVar 5)) (mCons (mVar 6) mNil)))))) (mRet (mLst mNil)) mNx) (mRet (mAp m_behind (mCons (mVar 0) (mCons (mVar 4) (mCons (mVar 5) (mCons (mBin addD (mVar 6) (mC (.int 1))) (mCons (mVar 3) mNil)))))))) mNx) (mSeq (mSet 8 (mLst mNil)) (mSeq (mFor (mItA enumA (mCons (mVar 7) mNil)) (.tp [.nm 9, .nm 10]) (mIfS (mBool (mAp m_fits (mCons (mVar 2) (mCons (mVar 10) (mCons (mC (.int 0)) mNil))))) (mSet 8 (mBin addD (mVar 8) (mAp m_behind (mCons (mVar 0) (mCons (mVar 4) (mCons (mVar 9) (mCons (mC (.int 1)) (mCons (mVar 3) mNil)))))))) mNx)) (mRet (mVar 8))))))))
def m_moves_of : List PD → R PD := runF 11 b_moves_of
def b__law_slot : Sto → R Out :=
  (mSeq (mSetF 1 (mLst mNil)) (mSeq (mFor (mItA rng1 (mCons (mBin addD (mC (.int 1)) (mBin modI (mVar 0) (mC (.int 3)))) mNil)) (.nm 2) (mSeq (mSet 3 (mAp m__law_pattern (mCons (mAp m__law_mix (mCons (mBin divI (mVar 0) (mC (.int 3))) (mCons (mVar 2) mNil))) mNil))) (mIfS (mBorT 1 (mBool (mBin notinA (mVar 3) (mVar 1)))) (mApp 1 (mVar 3)) mNx))) (mFrz 1 (mRet (mTup (mCons (mAp tupleD (mCons (mVar 1) mNil)) (mCons (mBin eqD (mBin modI (mBin divI (mVar 0) (mC (.int 3))) (mC (.int 5))) (mC (.int 4))) mNil)))))))
def m__law_slot : List PD → R PD := runF 4 b__law_slot
def b__law_changed : Sto → R Out :=
  (mSeq (mSet 2 (mBin modI (mVar 1) (mAp lenD (mCons (mVar 0) mNil)))) (mSeq (mUnp (.tp [.nm 3, .nm 4]) (mBin ixD (mVar 0) (mVar 2))) (mSeq (mSet 5 (mBin divI (mVar 1) (mAp lenD (mCons (mVar 0) mNil)))) (mSeq (mSet 6 (mAp m__law_pattern (mCons (mBin divI (mVar 5) (mC (.int 5))) mNil))) (mSeq (mIfS (mAnd (mBool (mBin eqD (mBin modI (mVar 5) (mC (.int 5))) (mC (.int 0)))) (mAnd (mBool (mBin notinA (mVar 6) (mVar 3))) (mBool (mBin ltI (mAp lenD (mCons (mVar 3) mNil)) (mC (.int 4)))))) (mSet 3 (mBin addD (mVar 3) (mTup (mCons (mVar 6) mNil)))) mNx) (mSeq (mIfS (mAnd (mBool (mBin eqD (mBin modI (mVar 5) (mC (.int 5))) (mC (.int 1)))) (mBool (mBin gtI (mAp lenD (mCons (mVar 3) mNil)) (mC (.int 1))))) (mSet 3 (mSlice (mVar 3) (mPart (mC (.int 1))) mNoPart)) mNx) (mSeq (mIfS (mBool (mBin eqD (mBin modI (mVar 5) (mC (.int 5))) (mC (.int 2)))) (mSet 4 (mNotV (mVar 4))) mNx) (mSeq (mIfS (mBool (mBin eqD (mBin modI (mVar 5) (mC (.int 5))) (mC (.int 3)))) (mSet 3 (mTup (mCons (mBin mulS (mC (.str "x")) (mAp lenD (mCons (mBin ixD (mVar 3) (mC (.int 0))) mNil))) mNil))) mNx) (mSeq (mIfS (mBool (mBin eqD (mBin modI (mVar 5) (mC (.int 5))) (mC (.int 4)))) (mSet 3 (fun ρ => do tuprevD (← (mVar 3) ρ))) mNx) (mRet (mBin addD (mBin addD (mSlice (mVar 0) mNoPart (mPart (mVar 2))) (mTup (mCons (mTup (mCons (mVar 3) (mCons (mVar 4) mNil))) mNil))) (mSlice (mVar 0) (mPart (mBin addD (mVar 2) (mC (.int 1)))) mNoPart))))))))))))
def m__law_changed : List PD → R PD := runF 7 b__law_changed
def b__law_many_feet : Sto → R Out :=
  (mSeq (mSet 2 (mBin ddisp1K (mC (.int 0)) (mC (.int 1)))) (mSeq (mFor (mIt itemsD (mVar 0)) (.tp [.nm 3, .nm 4]) (mSeq (mSetF 5 (mC (.dict []))) (mSeq (mForDK 2 (.nm 6) (mFor (mIt itemsD (mVar 3)) (.nm 7) (mIfS (mBool (mAp m__law_fits (mCons (mVar 1) (mCons (mVar 6) (mCons (mVar 7) (mCons (mVar 4) mNil)))))) (mDputK 5 (mBin addD (mVar 6) (mAp lenD (mCons (mVar 7) mNil))) (mBin addD (mBor 5 (mGetdK (mVar 5) (mBin addD (mVar 6) (mAp lenD (mCons (mVar 7) mNil))) (mC (.int 0)))) (mBin dgetK (mVar 2) (mVar 6)))) mNx))) (mFrz 5 (mSet 2 (mVar 5)))))) (mRet (mGetdK (mVar 2) (mAp lenD (mCons (mVar 1) mNil)) (mC (.int 0))))))
def m__law_many_feet : List PD → R PD := runF 8 b__law_many_feet
def b_reached_all : Sto → R Out :=
  (mSeq (mSetF 3 (mC (mkN []))) (mSeq (mFor (mIt itemsD (mVar 1)) (.nm 4) (mFor (mIt itemsD (mAp m_moves_of (mCons (mVar 0) (mCons (mVar 4) (mCons (mBin ixD (mVar 2) (mC (.int 0))) (mCons (mBin ixD (mVar 2) (mC (.int 1))) mNil)))))) (.tp [.nm 5, .nm 6]) (mDputN 3 (mVar 6) (mC (.bool true))))) (mFrz 3 (mRet (mAp tupleD (mCons (mAp sortedD (mCons (mAp listDN (mCons (mVar 3) mNil)) mNil)) mNil))))))
def m_reached_all : List PD → R PD := runF 7 b_reached_all
def b__law_metre : Sto → R Out :=
  (mRet (mAp tupleD (mCons (mLc (mItA rng1 (mCons (mBin addD (mC (.int 1)) (mBin modI (mVar 0) (mVar 1))) mNil)) (.nm 2) [2] mYes (mAp m__law_slot (mCons (mAp m__law_mix (mCons (mBin divI (mVar 0) (mVar 1)) (mCons (mVar 2) mNil))) mNil))) mNil)))
def m__law_metre : List PD → R PD := runF 3 b__law_metre
def b_metre_within : Sto → R Out :=
  (mSeq (mSet 2 (mBin ddisp1N (mTup (mCons (mTup (mCons (mTup (mCons (mC (.int 0)) (mCons (mC (.int 0)) (mCons (mC (.int 0)) mNil)))) mNil)) (mCons (mTup (mCons (mTup (mCons (mC (.int 0)) (mCons (mC (.int 0)) (mCons (mC (.int 0)) mNil)))) mNil)) mNil))) (mLst mNil))) (mSeq (whD (mBool (mBin neDictN (mVar 2) (mC (mkN [])))) (mSeq (mSetF 3 (mC (mkN []))) (mSeq (mForDK 2 (.nm 4) (mFor (mIt itemsD (mC (.tuple [.tuple [.str "u", .bool false], .tuple [.str "u", .bool true], .tuple [.str "-", .bool false], .tuple [.str "-", .bool true]]))) (.nm 5) (mSeq (mSet 6 (mAp m_reached_all (mCons (mVar 0) (mCons (mBin ixD (mVar 4) (mC (.int 0))) (mCons (mVar 5) mNil))))) (mSeq (mSet 7 (mAp m_reached_all (mCons (mVar 1) (mCons (mBin ixD (mVar 4) (mC (.int 1))) (mCons (mVar 5) mNil))))) (mSeq (mSetF 8 (mBin addD (mBin dgetN (mVar 2) (mVar 4)) (mLst (mCons (mVar 5) mNil)))) (mSeq (mIfS (mAnd (mBool (mBin ixD (mVar 5) (mC (.int 1)))) (mAnd (mBool (mAp m_is_through (mCons (mVar 0) (mCons (mVar 6) mNil)))) (mNot (mBool (mAp m_is_through (mCons (mVar 1) (mCons (mVar 7) mNil))))))) (mRetO 8) mNx) (mIfS (mBool (mBin neD (mVar 6) (mTup mNil))) (mFrz 8 (mDsetdN 3 (mTup (mCons (mVar 6) (mCons (mVar 7) mNil))) (mVar 8))) mNx))))))) (mFrz 3 (mSet 2 (mVar 3))))) 12) (mRet (mC .none))))
def m_metre_within : List PD → R PD := runFr 9 b_metre_within
def b_law : Sto → R Out :=
  (mSeq (mSet 1 (mAp m__law_metre (mCons (mAp m__law_cell_at (mCons (mVar 0) (mCons (mC (.int 0)) mNil))) (mCons (mC (.int 3)) mNil)))) (mSeq (mSet 2 (mVar 1)) (mSeq (mIfS (mBool (mBin eqD (mBin modI (mAp m__law_cell_at (mCons (mVar 0) (mCons (mC (.int 1)) mNil))) (mC (.int 4))) (mC (.int 0)))) (mSet 2 (mAp m__law_metre (mCons (mBin divI (mAp m__law_cell_at (mCons (mVar 0) (mCons (mC (.int 1)) mNil))) (mC (.int 4))) (mCons (mC (.int 3)) mNil)))) mNx) (mSeq (mFor (mIt itemsD (mSlice (mVar 0) (mPart (mC (.int 2))) (mPart (mC (.int 8))))) (.nm 3) (mSet 2 (mAp m__law_changed (mCons (mVar 2) (mCons (mVar 3) mNil))))) (mSeq (mSetF 4 (mAp m_metre_within (mCons (mVar 1) (mCons (mVar 2) mNil)))) (mSeq (mIfS (mBorT 4 (mBool (mBin isNN (mVar 4) (mC .none)))) (mSeq (mIfS (mBorT 4 (mOr (mNot (mBool (mAp m__law_is_row (mCons (mVar 4) mNil)))) (mOr (mBool (mBin eqD (mAp m__law_many_feet (mCons (mVar 1) (mCons (mVar 4) mNil))) (mC (.int 0)))) (mBool (mBin gtI (mAp m__law_many_feet (mCons (mVar 2) (mCons (mVar 4) mNil))) (mC (.int 0))))))) (mRet (mC (.bool false))) mNx) (mSeq (mSet 8 (mListO 4)) (mSeq (mApp 4 (mTup (mCons (mC (.str "u")) (mCons (mC (.bool true)) mNil)))) (mRet (mBin eqD (mAp m_metre_within (mCons (mVar 1) (mCons (mVar 2) mNil))) (mVar 8)))))) mNx) (mSeq (mSet 5 (mAp tupleD (mCons (mLc (mIt itemsD (mVar 1)) (.nm 9) [9] mYes (mTup (mCons (fun ρ => do tuprevD (← (mBin ixD (mVar 9) (mC (.int 0))) ρ)) (mCons (mBin ixD (mVar 9) (mC (.int 1))) mNil)))) mNil))) (mSeq (mSet 6 (mAp tupleD (mCons (mLc (mIt itemsD (mVar 1)) (.nm 9) [9] mYes (mTup (mCons (mBin ixD (mVar 9) (mC (.int 0))) (mCons (mC (.bool false)) mNil)))) mNil))) (mSeq (mSet 7 (mBin ixD (mLst (mCons (mVar 1) (mCons (mVar 5) (mCons (mVar 6) mNil)))) (mBin modI (mAp m__law_cell_at (mCons (mVar 0) (mCons (mC (.int 8)) mNil))) (mC (.int 3))))) (mRet (mBin isN (mAp m_metre_within (mCons (mVar 1) (mCons (mVar 7) mNil))) (mC .none))))))))))))
def m_law : List PD → R PD := runF 10 b_law
end Lilt.K80

set_option Elab.async false
set_option linter.all false
set_option maxRecDepth 100000
set_option maxHeartbeats 2000000
set_option autoImplicit false
namespace Lilt.K80
open PySem L2 Lilt
/-! ## metres -/
def isMk (c : Nat) : Bool := c == 117 || c == 45 || c == 120
abbrev Pat := List Nat
structure Slot where
  pats : List Pat
  cut : Bool
abbrev Metre := List Slot
def encP (p : Pat) : PD := .str ⟨p.toArray⟩
def encSl (s : Slot) : PD := .tuple [.tuple (s.pats.map encP), .bool s.cut]
def encM (m : Metre) : PD := .tuple (m.map encSl)
def OkP (p : Pat) : Prop := 1 ≤ p.length ∧ p.length ≤ 3 ∧ ∀ c ∈ p, isMk c = true
structure OkSl (s : Slot) : Prop where
  ne : 1 ≤ s.pats.length
  le : s.pats.length ≤ 4
  ok : ∀ p ∈ s.pats, OkP p
structure OkM (m : Metre) : Prop where
  ne : 1 ≤ m.length
  le : m.length ≤ 3
  ok : ∀ s ∈ m, OkSl s
abbrev State := Nat × Nat × Nat
def encS (x : State) : PD := tupD [(x.1 : Int), (x.2.1 : Int), (x.2.2 : Int)]
def one (c : Nat) : PD := .str ⟨#[c]⟩
theorem isMk_lt {c : Nat} (h : isMk c = true) : c < 0x110000 := by
  simp only [isMk, Bool.or_eq_true, beq_iff_eq] at h
  omega
theorem sd_one {n c : Nat} (h : isMk c = true) : Sd n (one c) := Sd.str (by simp [PyData.strOk, isMk_lt h])
theorem eqv_one (a b : Nat) : PyData.eqv (one a) (one b) = decide (a = b) := by
  simp only [one, PyData.eqv]
  by_cases e : a = b
  · subst e; simp
  · simp [e]
/-! ## moves -/
def fitsF (mk : Nat) (p : Pat) (i : Nat) : Bool := decide (p[i]? = some mk) || decide (p[i]? = some 120)
def behindF (sl : Slot) (p : Pat) (s n t : Nat) (ends : Bool) : List (Nat × State) :=
  if t < p.length then [(n, (s, n, t))] else if sl.cut && !ends then [] else [(n, (s + 1, 0, 0))]
def firstF (sl : Slot) (s mk : Nat) (ends : Bool) (q : Pat × Nat) : List (Nat × State) := if fitsF mk q.1 0 then behindF sl q.1 s q.2 1 ends else []
def movesF (m : Metre) (x : State) (mk : Nat) (ends : Bool) : List (Nat × State) := match m[x.1]? with
  | none => []
  | some sl => if 0 < x.2.2 then (match sl.pats[x.2.1]? with
    | some p => if fitsF mk p x.2.2 then behindF sl p x.1 x.2.1 (x.2.2 + 1) ends else []
    | none => []) else sl.pats.zipIdx.flatMap (firstF sl x.1 mk ends)
/-- a state of the metre -/
def OkS (m : Metre) (x : State) : Prop := (x = (m.length, 0, 0)) ∨ ∃ sl, m[x.1]? = some sl ∧ ((x.2.1 = 0 ∧ x.2.2 = 0) ∨ ∃ p, sl.pats[x.2.1]? = some p ∧ 0 < x.2.2 ∧ x.2.2 < p.length)
def encMv (x : Nat × State) : PD := .tuple [.int (x.1 : Int), encS x.2]
theorem m_fits_ok {mk i c : Nat} {p : Pat} (hp : OkP p) (hk : isMk mk = true) (hi : p[i]? = some c) : m_fits [one mk, encP p, .int (i : Int)] = .ok (.bool (fitsF mk p i)) := by
  have hc : isMk c = true := hp.2.2 c (List.mem_of_getElem? hi)
  have h1 : ixD (encP p) (.int (i : Int)) = .ok (one c) := ix_str (by simpa using hi) (by show p.toArray.size ≤ _; simp; have := hp.2.1; omega)
  have h2 : eqD (one c) (one mk) = .ok (.bool (decide (c = mk))) := by rw [eq_ok (sd_one hc) (sd_one hk), eqv_one]
  have h3 : eqD (one c) (.str "x") = .ok (.bool (decide (c = 120))) := by
    have : (PyData.str "x") = one 120 := rfl
    rw [this, eq_ok (sd_one hc) (sd_one (by decide)), eqv_one]
  have hf : fitsF mk p i = (decide (c = mk) || decide (c = 120)) := by simp [fitsF, hi]
  rw [hf]
  simp [m_fits, runF, b_fits, args0, mBin, h1, h2, h3, endF]
  by_cases e : c = mk <;> simp [e, endF]

@[simp] theorem szT2 {a b : PD} : szT [a, b] = .ok (.tuple [a, b]) := szT_ok (by simp)
@[simp] theorem szT3 {a b c : PD} : szT [a, b, c] = .ok (.tuple [a, b, c]) := szT_ok (by simp)
@[simp] theorem szT1 {a : PD} : szT [a] = .ok (.tuple [a]) := szT_ok (by simp)
@[simp] theorem szT0 : szT [] = .ok (.tuple []) := szT_ok (by simp)
@[simp] theorem szL0 : szL [] = .ok (.list []) := szL_ok (by simp)
@[simp] theorem szL1 {a : PD} : szL [a] = .ok (.list [a]) := szL_ok (by simp)
theorem m_behind_ok {m : Metre} {s n t : Nat} {sl : Slot} {p : Pat} {ends : Bool} (hs : m[s]? = some sl) (hn : sl.pats[n]? = some p) (hp : OkP p) :
    m_behind [encM m, .int (s : Int), .int (n : Int), .int (t : Int), .bool ends] = .ok (.list ((behindF sl p s n t ends).map encMv)) := by
  have h1 : ixD (encM m) (.int (s : Int)) = .ok (encSl sl) := ix_tup (by simp [hs])
  have h2 : ixD (.tuple (sl.pats.map encP)) (.int (n : Int)) = .ok (encP p) := ix_tup (by simp [hn])
  have h3 : lenD [encP p] = .ok (.int p.length) := by
    have := hp.2.1
    have := len_str (x := ⟨p.toArray⟩) (by show p.toArray.size ≤ _; simp; omega)
    simpa [encP, Str.length] using this
  simp [m_behind, runF, b_behind, args0, mBin, mAp, h1, encSl, h2, h3]
  unfold behindF
  by_cases ht : t < p.length
  · simp [ht, endF, encMv, encS, tupD]
  · cases hc : sl.cut <;> cases ends <;> simp [ht, endF, encMv, encS, tupD]
theorem behindF_len {sl : Slot} {p : Pat} {s n t : Nat} {ends : Bool} : (behindF sl p s n t ends).length ≤ 1 := by
  unfold behindF
  split
  · simp
  · split <;> simp
theorem firstF_len {sl : Slot} {s mk : Nat} {ends : Bool} (q : Pat × Nat) : (firstF sl s mk ends q).length ≤ 1 := by
  unfold firstF
  split
  · exact behindF_len
  · simp
theorem flat_len {A B : Type} {f : A → List B} (h : ∀ a, (f a).length ≤ 1) : ∀ l : List A, (l.flatMap f).length ≤ l.length
  | [] => by simp
  | a :: l => by
    have h1 := h a
    have h2 := flat_len h l
    rw [List.flatMap_cons, List.length_append, List.length_cons]
    omega
theorem m_moves_ok {m : Metre} {x : State} {mk : Nat} {ends : Bool} (hm : ∀ s ∈ m, OkSl s) (hx : OkS m x) (hk : isMk mk = true) (hl : m.length ≤ 1000) :
    m_moves_of [encM m, encS x, one mk, .bool ends] = .ok (.list ((movesF m x mk ends).map encMv)) := by
  obtain ⟨s, n, t⟩ := x
  have e2 : eqD (.int (m.length : Int)) (.int (m.length : Int)) = .ok (.bool true) := by rw [eq_ok (Sd.int _) (Sd.int _)]; simp [PyData.eqv]
  have e1 : eqD (.int (s : Int)) (.int (m.length : Int)) = .ok (.bool (decide (s = m.length))) := by
    rw [eq_ok (Sd.int _) (Sd.int _)]
    simp only [PyData.eqv]
    congr 2
    by_cases e : s = m.length <;> simp [e] <;> omega
  have e0 : lenD [encM m] = .ok (.int m.length) := by simp [encM]
  by_cases hs : s = m.length
  · have : movesF m (s, n, t) mk ends = [] := by
      unfold movesF
      rw [List.getElem?_eq_none (by simp only; omega)]
    rw [this]
    simp [m_moves_of, runF, b_moves_of, args0, mBin, mAp, encS, tupD, e0, e1, e2, hs, endF]
  · obtain ⟨sl, h1, h2⟩ : ∃ sl, m[s]? = some sl ∧ ((n = 0 ∧ t = 0) ∨ ∃ p, sl.pats[n]? = some p ∧ 0 < t ∧ t < p.length) := by
      rcases hx with hx | hx
      · exact absurd (congrArg Prod.fst hx) hs
      · exact hx
    have okl : OkSl sl := hm sl (List.mem_of_getElem? h1)
    have h3 : ixD (encM m) (.int (s : Int)) = .ok (encSl sl) := ix_tup (by simp [h1])
    have h4 : ixD (encSl sl) (.int 0) = .ok (.tuple (sl.pats.map encP)) := ix_tup (i := 0) (by rfl)
    rcases h2 with ⟨rfl, rfl⟩ | ⟨p, hp, ht, htl⟩
    · have e3 : enumA [.tuple (sl.pats.map encP)] = .ok ((List.range sl.pats.length).map fun (k : Nat) => .tuple [.int (k : Nat), (sl.pats.map encP).getD k .none]) := by simp [enumA]
      have lp : ∀ (ρ : Sto), ρ = [.d (encM m), .d (encS (s, 0, 0)), .d (one mk), .d (.bool ends), .d (.int s), .d (.int 0), .d (.int 0), .d (.tuple (sl.pats.map encP)), .d (.list []), .un, .un] →
          ∃ ρ', forD (Tg.tp [Tg.nm 9, Tg.nm 10]) (mIfS (mBool (mAp m_fits (mCons (mVar 2) (mCons (mVar 10) (mCons (mC (PyData.int 0)) mNil)))))
            (mSet 8 (mBin addD (mVar 8) (mAp m_behind (mCons (mVar 0) (mCons (mVar 4) (mCons (mVar 9) (mCons (mC (PyData.int 1)) (mCons (mVar 3) mNil)))))))) mNx)
            ((List.range sl.pats.length).map fun (k : Nat) => .tuple [.int (k : Nat), (sl.pats.map encP).getD k .none]) ρ = .ok (.nx ρ') ∧ ρ'[8]? = some (.d (.list ((sl.pats.zipIdx.flatMap (firstF sl s mk ends)).map encMv))) := by
        intro ρ hρ
        have := forD_inv (t := Tg.tp [Tg.nm 9, Tg.nm 10]) (mb := mIfS (mBool (mAp m_fits (mCons (mVar 2) (mCons (mVar 10) (mCons (mC (PyData.int 0)) mNil)))))
            (mSet 8 (mBin addD (mVar 8) (mAp m_behind (mCons (mVar 0) (mCons (mVar 4) (mCons (mVar 9) (mCons (mC (PyData.int 1)) (mCons (mVar 3) mNil)))))))) mNx)
          (fun i ρ => ∃ a b, ρ = [.d (encM m), .d (encS (s, 0, 0)), .d (one mk), .d (.bool ends), .d (.int s), .d (.int 0), .d (.int 0), .d (.tuple (sl.pats.map encP)), .d (.list (((sl.pats.zipIdx.take i).flatMap (firstF sl s mk ends)).map encMv)), a, b]) (fun _ _ => False)
          ((List.range sl.pats.length).map fun (k : Nat) => .tuple [.int (k : Nat), (sl.pats.map encP).getD k .none]) 0 ρ ⟨_, _, by simpa using hρ⟩ (fun i d ρ hd hi => ?_)
        · rcases this with ⟨ρ', q1, a, b, q2⟩ | ⟨x, b, _, q⟩
          · refine ⟨ρ', q1, ?_⟩
            rw [q2]
            simp only [List.length_map, List.length_range, Nat.zero_add]
            rw [List.take_of_length_le (by simp)]
            rfl
          · exact q.elim
        · obtain ⟨a, b, rfl⟩ := hi
          obtain ⟨hi, rfl⟩ := range_get hd
          have hpi : sl.pats[i]? = some sl.pats[i] := List.getElem?_eq_getElem hi
          have okp : OkP sl.pats[i] := okl.ok _ (List.getElem_mem hi)
          obtain ⟨c, hc⟩ : ∃ c, sl.pats[i][0]? = some c := ⟨sl.pats[i][0]'(by have := okp.1; omega), List.getElem?_eq_getElem _⟩
          have h6 := m_fits_ok (mk := mk) okp hk hc
          have h7 := m_behind_ok (t := 1) (ends := ends) h1 hpi okp
          have hg : (sl.pats.map encP).getD i .none = encP sl.pats[i] := by simp [List.getD_eq_getElem?_getD, hpi]
          have htk : sl.pats.zipIdx.take (i + 1) = sl.pats.zipIdx.take i ++ [(sl.pats[i], i)] := by
            rw [List.take_succ]
            simp [hpi]
          refine ⟨_, by simp only [hg, set_tp, set_tsc, set_nm, set_tsn, R.bind_ok]; rfl, .inl ?_⟩
          have hf : firstF sl s mk ends (sl.pats[i], i) = if fitsF mk sl.pats[i] 0 then behindF sl sl.pats[i] s i 1 ends else [] := rfl
          have hlen : (((sl.pats.zipIdx.take i).flatMap (firstF sl s mk ends)).map encMv).length + ((behindF sl sl.pats[i] s i 1 ends).map encMv).length ≤ 1000000 := by
            have a1 := flat_len (firstF_len (sl := sl) (s := s) (mk := mk) (ends := ends)) (sl.pats.zipIdx.take i)
            have a2 := behindF_len (sl := sl) (p := sl.pats[i]) (s := s) (n := i) (t := 1) (ends := ends)
            rw [List.length_take] at a1
            have a3 := okl.le
            simp only [List.length_map]
            omega
          have h8 := addL_ok hlen
          cases hfi : fitsF mk sl.pats[i] 0 with
          | true =>
            rw [hfi] at h6
            refine ⟨_, by simp [mBin, mAp] at h6 h7 h8 ⊢; simp [h6, h7, h8]; rfl, ?_⟩
            simp [htk, hf, hfi]
          | false =>
            rw [hfi] at h6
            refine ⟨_, by simp [mBin, mAp] at h6 ⊢; simp [h6]; rfl, ?_⟩
            simp [htk, hf, hfi]
      obtain ⟨ρ', q1, q2⟩ := lp _ rfl
      have : movesF m (s, 0, 0) mk ends = sl.pats.zipIdx.flatMap (firstF sl s mk ends) := by simp only [movesF, h1]; rfl
      rw [this]
      simp [encS, tupD] at q1
      simp [m_moves_of, runF, b_moves_of, args0, mBin, mAp, mItA, encS, tupD, e0, e1, hs, endF, h3, h4, e3]
      rw [q1]
      simp [q2, endF]
    · have h5 : ixD (.tuple (sl.pats.map encP)) (.int (n : Int)) = .ok (encP p) := ix_tup (by simp [hp])
      have okp : OkP p := okl.ok p (List.mem_of_getElem? hp)
      obtain ⟨c, hc⟩ : ∃ c, p[t]? = some c := ⟨p[t], List.getElem?_eq_getElem htl⟩
      have h6 := m_fits_ok (mk := mk) okp hk hc
      have h7 := m_behind_ok (t := t + 1) (ends := ends) h1 hp okp
      rw [show ((t + 1 : Nat) : Int) = (t : Int) + 1 by omega] at h7
      have ht' : (0 : Int) < (t : Int) := by omega
      have hcast : ((t : Int) + 1) = ((t + 1 : Nat) : Int) := by omega
      have : movesF m (s, n, t) mk ends = if fitsF mk p t then behindF sl p s n (t + 1) ends else [] := by
        simp only [movesF, h1, ht, if_true, hp]
      rw [this]
      simp [m_moves_of, runF, b_moves_of, args0, mBin, mAp, encS, tupD, e0, e1, hs, endF, h3, h4, h5, h6, ht, h7]
      cases fitsF mk p t <;> simp [endF, h7]
end Lilt.K80

set_option Elab.async false
set_option linter.all false
set_option maxRecDepth 100000
set_option maxHeartbeats 2000000
set_option autoImplicit false
namespace Lilt.K80
open PySem L2 Lilt
/-! ## states reached -/
theorem nodup_le : ∀ (n : Nat) (l : List Nat), l.Nodup → (∀ x ∈ l, x < n) → l.length ≤ n
  | 0, l, _, h => by
    cases l with
    | nil => simp
    | cons a l => exact absurd (h a List.mem_cons_self) (by omega)
  | n + 1, l, nd, h => by
    by_cases hm : n ∈ l
    · have h1 := List.length_erase_of_mem hm
      have h2 := nodup_le n (l.erase n) (nd.erase n) fun x hx => by
        have h3 := h x (List.mem_of_mem_erase hx)
        have h4 : x ≠ n := fun e => by
          subst e
          exact (List.Nodup.mem_erase_iff nd).mp hx |>.1 rfl
        omega
      have : 0 < l.length := List.length_pos_of_mem hm
      omega
    · have := nodup_le n l nd fun x hx => by
        have h3 := h x hx
        have h4 : x ≠ n := fun e => hm (e ▸ hx)
        omega
      omega
def toI (x : State) : List Int := [(x.1 : Int), (x.2.1 : Int), (x.2.2 : Int)]
def ofI (l : List Int) : State := ((l.getD 0 0).toNat, (l.getD 1 0).toNat, (l.getD 2 0).toNat)
theorem ofI_toI (x : State) : ofI (toI x) = x := by obtain ⟨a, b, c⟩ := x; simp [ofI, toI]
theorem encS_toI (x : State) : encS x = tupD (toI x) := rfl
theorem eqv_encS (x y : State) : PyData.eqv (encS x) (encS y) = decide (x = y) := by
  obtain ⟨a, b, c⟩ := x
  obtain ⟨a', b', c'⟩ := y
  simp only [encS, tupD, List.map_cons, List.map_nil, PyData.eqv, PyData.eqvAll, Bool.and_true]
  rw [Bool.eq_iff_iff]
  simp only [Bool.and_eq_true, beq_iff_eq, decide_eq_true_eq, Prod.mk.injEq]
  omega
theorem keyN_encS (x : State) : ∃ k, keyN (encS x) = some k := by
  refine ⟨.tup [.num x.1, .num x.2.1, .num x.2.2], ?_⟩
  simp [keyN, encS, tupD, nk, nkA, NestedKey.depth, NestedKey.depthAll]
def insS (ks : List State) (x : State) : List State := if x ∈ ks then ks else ks ++ [x]
def entS (x : State) : PD × PD := (encS x, .bool true)
theorem look_ent (ks : List State) (x : State) : (lookD (ks.map entS) (encS x)).isSome = decide (x ∈ ks) := by
  induction ks with
  | nil => simp [lookD]
  | cons k ks ih =>
    unfold lookD at ih ⊢
    rw [List.map_cons]
    by_cases e : k = x
    · rw [List.find?_cons_of_pos (by simp [entS, eqv_encS, e])]
      simp [e]
    · rw [List.find?_cons_of_neg (by simp [entS, eqv_encS, e]), ih]
      simp [Ne.symm e]
theorem put_ent (ks : List State) (x : State) : putD (ks.map entS) (encS x) (.bool true) = (insS ks x).map entS := by
  unfold putD insS
  rw [look_ent]
  by_cases h : x ∈ ks
  · rw [if_pos (by simpa using h), if_pos h, List.map_map]
    refine List.map_congr_left fun y _ => ?_
    show (if PyData.eqv (entS y).1 (encS x) = true then ((entS y).1, .bool true) else entS y) = entS y
    split <;> rfl
  · rw [if_neg (by simpa using h), if_neg h, List.map_append]
    rfl
theorem insS_mem {ks : List State} {x y : State} : y ∈ insS ks x ↔ y ∈ ks ∨ y = x := by
  unfold insS
  split
  · rename_i h
    exact ⟨.inl, fun q => q.elim id fun e => e ▸ h⟩
  · simp
theorem insS_nodup {ks : List State} {x : State} (h : ks.Nodup) : (insS ks x).Nodup := by
  unfold insS
  split
  · exact h
  · rename_i hx
    rw [List.nodup_append]
    refine ⟨h, by simp, fun a ha b hb e => ?_⟩
    simp only [List.mem_singleton] at hb
    subst hb e
    exact hx ha
theorem insS_len {ks : List State} {x : State} : (insS ks x).length ≤ ks.length + 1 := by
  unfold insS
  split <;> simp
theorem fold_mem : ∀ {xs ks : List State} {y : State}, y ∈ xs.foldl insS ks ↔ y ∈ ks ∨ y ∈ xs
  | [], ks, y => by simp
  | x :: xs, ks, y => by
    rw [List.foldl_cons, fold_mem, insS_mem, List.mem_cons, or_assoc]
theorem fold_nodup : ∀ {xs ks : List State}, ks.Nodup → (xs.foldl insS ks).Nodup
  | [], ks, h => h
  | x :: xs, ks, h => fold_nodup (xs := xs) (ks := insS ks x) (insS_nodup h)
theorem fold_len : ∀ {xs ks : List State}, (xs.foldl insS ks).length ≤ ks.length + xs.length
  | [], ks => by simp
  | x :: xs, ks => by
    have h1 := fold_len (xs := xs) (ks := insS ks x)
    have h2 := insS_len (ks := ks) (x := x)
    rw [List.foldl_cons, List.length_cons]
    omega
def nextF (m : Metre) (mk : Nat) (e : Bool) (s : State) : List State := (movesF m s mk e).map (·.2)
def keysF (m : Metre) (ss : List State) (mk : Nat) (e : Bool) : List State := (ss.flatMap (nextF m mk e)).foldl insS []
def srt (ks : List State) : List State := (sortTs (ks.map toI)).map ofI
def reachF (m : Metre) (ss : List State) (mk : Nat) (e : Bool) : List State := srt (keysF m ss mk e)
theorem srt_enc (ks : List State) : (sortTs (ks.map toI)).map tupD = (srt ks).map encS := by
  unfold srt
  rw [List.map_map]
  refine List.map_congr_left fun l hl => ?_
  have : l ∈ ks.map toI := (List.mergeSort_perm _ _).mem_iff.mp hl
  obtain ⟨x, _, rfl⟩ := List.mem_map.mp this
  simp [ofI_toI, encS_toI]
theorem srt_mem {ks : List State} {x : State} : x ∈ srt ks ↔ x ∈ ks := by
  unfold srt
  rw [List.mem_map]
  constructor
  · rintro ⟨l, hl, rfl⟩
    have : l ∈ ks.map toI := (List.mergeSort_perm _ _).mem_iff.mp hl
    obtain ⟨x, hx, rfl⟩ := List.mem_map.mp this
    rw [ofI_toI]; exact hx
  · intro h
    exact ⟨toI x, (List.mergeSort_perm _ _).mem_iff.mpr (List.mem_map.mpr ⟨x, h, rfl⟩), ofI_toI x⟩
theorem srt_len (ks : List State) : (srt ks).length = ks.length := by
  unfold srt sortTs
  rw [List.length_map, List.length_mergeSort, List.length_map]
theorem fold_ge : ∀ (l : List Int) (a : Int), a ≤ l.foldl (fun a b => if b > a then b else a) a ∧ ∀ x ∈ l, x ≤ l.foldl (fun a b => if b > a then b else a) a
  | [], a => ⟨Int.le_refl _, fun x h => nomatch h⟩
  | y :: l, a => by
    obtain ⟨h1, h2⟩ := fold_ge l (if y > a then y else a)
    rw [List.foldl_cons]
    have h3 : a ≤ (if y > a then y else a) ∧ y ≤ (if y > a then y else a) := by split <;> omega
    refine ⟨by omega, fun x hx => ?_⟩
    rcases List.mem_cons.mp hx with rfl | hx
    · omega
    · exact h2 x hx
theorem sorted_ok {ks : List State} (h : ks.length < 64) : sortedD [.list (ks.map encS)] = .ok (.list ((srt ks).map encS)) := by
  have e : ks.map encS = (ks.map toI).map tupD := by rw [List.map_map]; rfl
  unfold sortedD
  rw [e]
  simp only [allInts_map]
  have hl : lenHd (ks.map toI) = 3 ∨ ks = [] := by
    cases ks with
    | nil => exact .inr rfl
    | cons k ks => exact .inl rfl
  have hall : (ks.map toI).all (okT (maxB (ks.map toI)) (lenHd (ks.map toI))) = true := by
    rcases hl with hl | rfl
    · rw [List.all_eq_true]
      intro l hm
      obtain ⟨x, hx, rfl⟩ := List.mem_map.mp hm
      rw [hl]
      unfold okT
      have hB : ∀ n ∈ toI x, n ≤ maxB (ks.map toI) - 1 := fun n hn => by
        have := (fold_ge ((ks.map toI).flatten) 0).2 n (List.mem_flatten.mpr ⟨toI x, hm, hn⟩)
        unfold maxB
        omega
      rw [Bool.and_eq_true]
      refine ⟨rfl, List.all_eq_true.mpr fun n hn => ?_⟩
      have h1 := hB n hn
      have h2 : 0 ≤ n := by
        simp only [toI, List.mem_cons, List.not_mem_nil, or_false] at hn
        omega
      simp only [Bool.and_eq_true, decide_eq_true_eq]
      omega
    · rfl
  have h1 : 1 ≤ lenHd (ks.map toI) := by
    rcases hl with hl | rfl
    · omega
    · decide
  rw [if_pos (by simp only [Bool.and_eq_true, decide_eq_true_eq, List.length_map]; exact ⟨⟨h, h1⟩, hall⟩), srt_enc]

theorem behind_ok {m : Metre} {s n t : Nat} {sl : Slot} {p : Pat} {e : Bool} (hs : m[s]? = some sl) (hp : sl.pats[n]? = some p) (ht : 0 < t) : ∀ x ∈ behindF sl p s n t e, OkS m x.2 := by
  have hsl := (List.getElem?_eq_some_iff.mp hs).1
  intro x hx
  unfold behindF at hx
  split at hx
  · simp only [List.mem_singleton] at hx
    subst hx
    exact .inr ⟨sl, hs, .inr ⟨p, hp, ht, by assumption⟩⟩
  · split at hx
    · exact nomatch hx
    · simp only [List.mem_singleton] at hx
      subst hx
      by_cases e : s + 1 = m.length
      · exact .inl (by simp [e])
      · exact .inr ⟨m[s+1]'(by omega), (List.getElem?_eq_getElem (by omega) : m[s+1]? = some _), .inl ⟨rfl, rfl⟩⟩
theorem moves_okS {m : Metre} {s : State} {mk : Nat} {e : Bool} (hx : OkS m s) : ∀ x ∈ movesF m s mk e, OkS m x.2 := by
  obtain ⟨s, n, t⟩ := s
  intro x h
  unfold movesF at h
  cases h1 : m[s]? with
  | none => simp only [h1] at h; exact nomatch h
  | some sl =>
    simp only [h1] at h
    split at h
    · cases h2 : sl.pats[n]? with
      | none => simp only [h2] at h; exact nomatch h
      | some p =>
        simp only [h2] at h
        split at h
        · exact behind_ok h1 h2 (by omega) x h
        · exact nomatch h
    · obtain ⟨⟨p, k⟩, hq, hx⟩ := List.mem_flatMap.mp h
      have hk : sl.pats[k]? = some p := List.mk_mem_zipIdx_iff_getElem?.mp hq
      unfold firstF at hx
      simp only at hx
      split at hx
      · exact behind_ok h1 hk (by omega) x hx
      · exact nomatch hx
theorem okS_bd {m : Metre} (hm : OkM m) {x : State} (h : OkS m x) : x.1 < 4 ∧ x.2.1 < 4 ∧ x.2.2 < 3 := by
  have := hm.le
  rcases h with rfl | ⟨sl, h1, h2⟩
  · simp only; omega
  · have h3 := (List.getElem?_eq_some_iff.mp h1).1
    have okl := hm.ok sl (List.mem_of_getElem? h1)
    rcases h2 with ⟨h4, h5⟩ | ⟨p, h4, h5, h6⟩
    · omega
    · have h7 := (List.getElem?_eq_some_iff.mp h4).1
      have okp := okl.ok p (List.mem_of_getElem? h4)
      have := okl.le
      have := okp.2.1
      omega
theorem okS_len {m : Metre} (hm : OkM m) {ks : List State} (nd : ks.Nodup) (h : ∀ x ∈ ks, OkS m x) : ks.length ≤ 48 := by
  have := nodup_le 48 (ks.map fun x => x.1 * 12 + x.2.1 * 3 + x.2.2) ?_ ?_
  · simpa using this
  · rw [List.nodup_iff_pairwise_ne] at nd ⊢
    rw [List.pairwise_map]
    refine (List.Pairwise.and_mem.mp nd).imp ?_
    rintro x y ⟨hx, hy, hn⟩ e
    have a := okS_bd hm (h x hx)
    have b := okS_bd hm (h y hy)
    apply hn
    obtain ⟨x1, x2, x3⟩ := x
    obtain ⟨y1, y2, y3⟩ := y
    simp only [Prod.mk.injEq] at e a b ⊢
    omega
  · intro z hz
    obtain ⟨x, hx, rfl⟩ := List.mem_map.mp hz
    have a := okS_bd hm (h x hx)
    omega
theorem keysF_ok {m : Metre} {ss : List State} {mk : Nat} {e : Bool} (h : ∀ x ∈ ss, OkS m x) : ∀ x ∈ keysF m ss mk e, OkS m x := by
  intro x hx
  unfold keysF at hx
  rw [fold_mem] at hx
  rcases hx with hx | hx
  · exact nomatch hx
  · obtain ⟨s, hs, hx⟩ := List.mem_flatMap.mp hx
    obtain ⟨y, hy, rfl⟩ := List.mem_map.mp hx
    exact moves_okS (h s hs) y hy
theorem keysF_nodup {m : Metre} {ss : List State} {mk : Nat} {e : Bool} : (keysF m ss mk e).Nodup := fold_nodup List.nodup_nil
theorem reach_mem {m : Metre} {ss : List State} {mk : Nat} {e : Bool} {x : State} : x ∈ reachF m ss mk e ↔ ∃ s ∈ ss, x ∈ nextF m mk e s := by
  unfold reachF keysF
  rw [srt_mem, fold_mem]
  simp
theorem reach_ok {m : Metre} {ss : List State} {mk : Nat} {e : Bool} (h : ∀ x ∈ ss, OkS m x) : ∀ x ∈ reachF m ss mk e, OkS m x := fun x hx => keysF_ok h x (srt_mem.mp hx)
theorem moves_len {m : Metre} (hm : OkM m) {s : State} {mk : Nat} {e : Bool} : (movesF m s mk e).length ≤ 4 := by
  unfold movesF
  split
  · simp
  · rename_i sl h1
    split
    · split
      · split
        · exact Nat.le_trans behindF_len (by omega)
        · simp
      · simp
    · have h2 := flat_len (firstF_len (sl := sl) (s := s.1) (mk := mk) (ends := e)) sl.pats.zipIdx
      have h3 := (hm.ok sl (List.mem_of_getElem? h1)).le
      simp only [List.length_zipIdx] at h2
      omega
end Lilt.K80

set_option Elab.async false
set_option linter.all false
set_option maxRecDepth 100000
set_option maxHeartbeats 2000000
set_option autoImplicit false
namespace Lilt.K80
open PySem L2 Lilt
def encSt (mk : Nat) (e : Bool) : PD := .tuple [one mk, .bool e]
def dN (ks : List State) : PD := mkN (ks.map entS)
@[simp] theorem unN_mkN (ds : List (PD × PD)) : unN (mkN ds) = some ds := rfl
theorem inner_ok {ρ0 : Sto} {m : Metre} {ss : List State} {st sv : PD} : ∀ (mv : List (Nat × State)) (ks : List State) (a b : Sl), ks.length + mv.length ≤ 1000000 →
    ∃ a' b', forD (.tp [.nm 5, .nm 6]) (mDputN 3 (mVar 6) (mC (.bool true))) (mv.map encMv) [.d (encM m), .d (.tuple (ss.map encS)), .d st, .ov (dN ks), .d sv, a, b]
      = .ok (.nx [.d (encM m), .d (.tuple (ss.map encS)), .d st, .ov (dN ((mv.map (·.2)).foldl insS ks)), .d sv, a', b'])
  | [], ks, a, b, _ => ⟨a, b, rfl⟩
  | x :: mv, ks, a, b, h => by
    obtain ⟨k, hk⟩ := keyN_encS x.2
    have hl := sl_big
    rw [List.length_cons] at h
    obtain ⟨a', b', ih⟩ := inner_ok (ρ0 := ρ0) (m := m) (ss := ss) (st := st) (sv := sv) mv (insS ks x.2) (.d (.int x.1)) (.d (encS x.2)) (by have := insS_len (ks := ks) (x := x.2); omega)
    refine ⟨a', b', ?_⟩
    rw [List.map_cons, List.map_cons, List.foldl_cons, ← ih]
    have hlt : (ks.map entS).length < sizeLine := by rw [List.length_map]; omega
    simp [forD, encMv, dN, hk, put_ent]
    rw [if_pos (by omega)]
theorem outer_ok {m : Metre} (hm : OkM m) {ss : List State} {mk : Nat} (hk : isMk mk = true) {e : Bool} : ∀ (rs : List State) (ks : List State) (a b c : Sl), (∀ x ∈ rs, OkS m x) → ks.length + 4 * rs.length ≤ 1000000 →
    ∃ a' b' c', forD (.nm 4) (mFor (mIt itemsD (mAp m_moves_of (mCons (mVar 0) (mCons (mVar 4) (mCons (mBin ixD (mVar 2) (mC (.int 0))) (mCons (mBin ixD (mVar 2) (mC (.int 1))) mNil)))))) (.tp [.nm 5, .nm 6]) (mDputN 3 (mVar 6) (mC (.bool true)))) (rs.map encS)
      [.d (encM m), .d (.tuple (ss.map encS)), .d (encSt mk e), .ov (dN ks), a, b, c]
      = .ok (.nx [.d (encM m), .d (.tuple (ss.map encS)), .d (encSt mk e), .ov (dN ((rs.flatMap (nextF m mk e)).foldl insS ks)), a', b', c'])
  | [], ks, a, b, c, _, _ => ⟨a, b, c, rfl⟩
  | x :: rs, ks, a, b, c, h, hl => by
    rw [List.length_cons] at hl
    have h1 := m_moves_ok (mk := mk) (ends := e) hm.ok (h x List.mem_cons_self) hk (by have := hm.le; omega)
    have h2 := moves_len hm (s := x) (mk := mk) (e := e)
    obtain ⟨b1, c1, i1⟩ := inner_ok (ρ0 := []) (m := m) (ss := ss) (st := encSt mk e) (sv := encS x) (movesF m x mk e) ks b c (by omega)
    have h3 := fold_len (xs := (movesF m x mk e).map (·.2)) (ks := ks)
    rw [List.length_map] at h3
    obtain ⟨a', b', c', ih⟩ := outer_ok hm hk (ss := ss) (e := e) rs (((movesF m x mk e).map (·.2)).foldl insS ks) (.d (encS x)) b1 c1 (fun y hy => h y (List.mem_cons_of_mem _ hy)) (by omega)
    refine ⟨a', b', c', ?_⟩
    rw [List.map_cons, List.flatMap_cons, List.foldl_append]
    show _ = R.ok (Out.nx [_, _, _, .ov (dN ((rs.flatMap (nextF m mk e)).foldl insS (((movesF m x mk e).map (·.2)).foldl insS ks))), _, _, _])
    rw [← ih]
    have e0 : ixD (encSt mk e) (.int 0) = .ok (one mk) := ix_tup (i := 0) rfl
    have e1 : ixD (encSt mk e) (.int 1) = .ok (.bool e) := ix_tup (i := 1) rfl
    rw [forD]
    simp [mBin, mAp, mIt, e0, e1, h1, itemsD]
    rw [i1]
theorem reached_ok {m : Metre} (hm : OkM m) {ss : List State} {mk : Nat} (hk : isMk mk = true) {e : Bool} (h : ∀ x ∈ ss, OkS m x) (hl : ss.length ≤ 1000) :
    m_reached_all [encM m, .tuple (ss.map encS), encSt mk e] = .ok (.tuple ((reachF m ss mk e).map encS)) := by
  obtain ⟨a, b, c, h1⟩ := outer_ok hm hk (ss := ss) (e := e) ss [] .un .un .un h (by simp; omega)
  have h2 : (keysF m ss mk e).length < 64 := by
    have := okS_len hm (ks := keysF m ss mk e) keysF_nodup (keysF_ok h)
    omega
  have h3 := sorted_ok h2
  have h4 : listDN [dN (keysF m ss mk e)] = .ok (.list ((keysF m ss mk e).map encS)) := by
    simp only [listDN, dN, unN_mkN, List.map_map]
    rfl
  have e0 : ∀ ρ : Sto, setOv 3 (mkN []) ρ = ρ.set 3 (.ov (dN [])) := fun _ => rfl
  have ek : ((ss.flatMap (nextF m mk e)).foldl insS []) = keysF m ss mk e := rfl
  have e2 : ownD (dN (keysF m ss mk e)) = true := rfl
  rw [ek] at h1
  simp [m_reached_all, runF, b_reached_all, args0, mAp, mIt, itemsD, e0]
  rw [h1]
  simp [frz, h4, h3, tupleD, endF, reachF]
end Lilt.K80

set_option Elab.async false
set_option linter.all false
set_option maxRecDepth 100000
set_option maxHeartbeats 2000000
set_option autoImplicit false
namespace Lilt.K80
open PySem L2 Lilt
/-! ## the search, in plain words -/
abbrev Stp := Nat × Bool
abbrev Row := List Stp
abbrev Key := List State × List State
abbrev Lay := List (Key × Row)
def steps : List Stp := [(117, false), (117, true), (45, false), (45, true)]
def fin (m : Metre) : State := (m.length, 0, 0)
def addL (B : Lay) (k : Key) (r : Row) : Lay := if k ∈ B.map (·.1) then B else B ++ [(k, r)]
def reachS (m : Metre) (ss : List State) (st : Stp) : List State := reachF m ss st.1 st.2
def hit (o t : Metre) (k : Key) (st : Stp) : Bool := st.2 && (decide (fin o ∈ reachS o k.1 st) && !decide (fin t ∈ reachS t k.2 st))
def visit (o t : Metre) (k : Key) (row : Row) (B : Lay) (st : Stp) : Row ⊕ Lay :=
  if hit o t k st then .inl (row ++ [st]) else if reachS o k.1 st = [] then .inr B else .inr (addL B (reachS o k.1 st, reachS t k.2 st) (row ++ [st]))
def foldE {A B : Type} (f : B → A → Row ⊕ B) : List A → B → Row ⊕ B
  | [], b => .inr b
  | a :: as, b => match f b a with
    | .inl r => .inl r
    | .inr b' => foldE f as b'
def visitK (o t : Metre) (B : Lay) (q : Key × Row) : Row ⊕ Lay := foldE (visit o t q.1 q.2) steps B
def visitL (o t : Metre) (L : Lay) : Row ⊕ Lay := foldE (visitK o t) L []
def bfs (o t : Metre) : Nat → Lay → Option Row
  | 0, _ => none
  | n + 1, L => if L = [] then none else match visitL o t L with
    | .inl r => some r
    | .inr B => bfs o t n B
def lay0 : Lay := [(([(0, 0, 0)], [(0, 0, 0)]), [])]
def run (m : Metre) (r : Row) : List State := r.foldl (reachS m) [(0, 0, 0)]

/-! ## its data -/
def encSs (ss : List State) : PD := .tuple (ss.map encS)
def encK (k : Key) : PD := .tuple [encSs k.1, encSs k.2]
def encStp (st : Stp) : PD := encSt st.1 st.2
def encRow (r : Row) : PD := .list (r.map encStp)
def entL (q : Key × Row) : PD × PD := (encK q.1, encRow q.2)
def dL (L : Lay) : PD := mkN (L.map entL)
theorem eqvA_encS : ∀ (a b : List State), PyData.eqvAll (a.map encS) (b.map encS) = decide (a = b)
  | [], [] => rfl
  | [], _ :: _ => rfl
  | _ :: _, [] => rfl
  | x :: a, y :: b => by
    simp only [List.map_cons, PyData.eqvAll, eqv_encS, eqvA_encS a b]
    by_cases e1 : x = y <;> by_cases e2 : a = b <;> simp [e1, e2]
theorem eqv_encSs (a b : List State) : PyData.eqv (encSs a) (encSs b) = decide (a = b) := by simp only [encSs, PyData.eqv, eqvA_encS]
theorem eqv_encK (a b : Key) : PyData.eqv (encK a) (encK b) = decide (a = b) := by
  obtain ⟨a1, a2⟩ := a
  obtain ⟨b1, b2⟩ := b
  simp only [encK, PyData.eqv, PyData.eqvAll, eqv_encSs, Bool.and_true]
  by_cases e1 : a1 = b1 <;> by_cases e2 : a2 = b2 <;> simp [e1, e2]
def kS (x : State) : NestedKey := .tup [.num x.1, .num x.2.1, .num x.2.2]
theorem nk_encS (x : State) : nk (encS x) = some (kS x) := by simp [encS, tupD, nk, nkA, kS]
theorem nkA_encS : ∀ ss : List State, nkA (ss.map encS) = some (ss.map kS)
  | [] => rfl
  | x :: ss => by simp [nkA, nk_encS, nkA_encS ss]
theorem dep_kS : ∀ ss : List State, NestedKey.depthAll (ss.map kS) ≤ 1
  | [] => by simp [NestedKey.depthAll]
  | x :: ss => by
    have := dep_kS ss
    simp only [List.map_cons, NestedKey.depthAll, kS, NestedKey.depth]
    omega
theorem keyN_encK (k : Key) : ∃ q, keyN (encK k) = some q := by
  have h1 := dep_kS k.1
  have h2 := dep_kS k.2
  refine ⟨.tup [.tup (k.1.map kS), .tup (k.2.map kS)], ?_⟩
  have e : nk (encK k) = some (.tup [.tup (k.1.map kS), .tup (k.2.map kS)]) := by simp [encK, encSs, nk, nkA, nkA_encS]
  unfold encK at e ⊢
  simp only [keyN, e]
  rw [if_pos]
  simp only [NestedKey.depth, NestedKey.depthAll]
  omega
theorem look_L (L : Lay) (k : Key) : lookD (L.map entL) (encK k) = (L.find? fun q => decide (q.1 = k)).map fun q => encRow q.2 := by
  induction L with
  | nil => rfl
  | cons q L ih =>
    unfold lookD at ih ⊢
    rw [List.map_cons]
    by_cases e : q.1 = k
    · rw [List.find?_cons_of_pos (by simp [entL, eqv_encK, e]), List.find?_cons_of_pos (by simp [e])]
      rfl
    · rw [List.find?_cons_of_neg (by simp [entL, eqv_encK, e]), List.find?_cons_of_neg (by simp [e]), ih]
theorem look_mem {L : Lay} {k : Key} : (lookD (L.map entL) (encK k)).isSome = decide (k ∈ L.map (·.1)) := by
  rw [look_L]
  induction L with
  | nil => rfl
  | cons q L ih =>
    by_cases e : q.1 = k
    · rw [List.find?_cons_of_pos (by simp [e])]
      simp [e]
    · rw [List.find?_cons_of_neg (by simp [e]), ih]
      simp [Ne.symm e]
theorem look_at {L : Lay} {k : Key} {r : Row} (nd : (L.map (·.1)).Nodup) (h : (k, r) ∈ L) : lookD (L.map entL) (encK k) = some (encRow r) := by
  rw [look_L]
  induction L with
  | nil => exact nomatch h
  | cons q L ih =>
    rw [List.map_cons, List.nodup_cons] at nd
    rcases List.mem_cons.mp h with rfl | h
    · rw [List.find?_cons_of_pos (by simp)]
      rfl
    · have : q.1 ≠ k := fun e => nd.1 (e ▸ List.mem_map.mpr ⟨_, h, rfl⟩)
      rw [List.find?_cons_of_neg (by simp [this])]
      exact ih nd.2 h
theorem put_L {B : Lay} {k : Key} {r : Row} (h : k ∉ B.map (·.1)) : putD (B.map entL) (encK k) (encRow r) = (addL B k r).map entL := by
  unfold putD addL
  rw [look_mem, if_neg (by simpa using h), if_neg h, List.map_append]
  rfl
theorem addL_len {B : Lay} {k : Key} {r : Row} : (addL B k r).length ≤ B.length + 1 := by
  unfold addL
  split <;> simp
/-! ## the parts, run -/
theorem sd_encS (x : State) : Sd 1 (encS x) := Sd.tup fun d hd => by
  obtain ⟨i, _, rfl⟩ := List.mem_map.mp hd
  exact Sd.int i
theorem sd_encSs (ss : List State) : Sd 2 (encSs ss) := Sd.tup fun d hd => by
  obtain ⟨x, _, rfl⟩ := List.mem_map.mp hd
  exact sd_encS x
theorem through_ok (m : Metre) (ss : List State) : m_is_through [encM m, encSs ss] = .ok (.bool (decide (fin m ∈ ss))) := by
  have e0 : lenD [encM m] = .ok (.int m.length) := by simp [encM]
  have e1 : inA (.tuple [.int m.length, .int 0, .int 0]) (encSs ss) = .ok (.bool (decide (fin m ∈ ss))) := by
    have : (PyData.tuple [.int m.length, .int 0, .int 0]) = encS (fin m) := rfl
    rw [this, encSs, inT_ok ((sd_encS _).mono (by decide)) ((sd_encSs ss).mono (by decide))]
    congr 2
    rw [Bool.eq_iff_iff]
    simp [eqv_encS]
  simp [m_is_through, runF, b_is_through, args0, mBin, mAp, e0, e1, endF]
def bodyW : Sto → R Out := (mSeq (mSet 6 (mAp m_reached_all (mCons (mVar 0) (mCons (mBin ixD (mVar 4) (mC (.int 0))) (mCons (mVar 5) mNil))))) (mSeq (mSet 7 (mAp m_reached_all (mCons (mVar 1) (mCons (mBin ixD (mVar 4) (mC (.int 1))) (mCons (mVar 5) mNil))))) (mSeq (mSetF 8 (mBin addD (mBin dgetN (mVar 2) (mVar 4)) (mLst (mCons (mVar 5) mNil)))) (mSeq (mIfS (mAnd (mBool (mBin ixD (mVar 5) (mC (.int 1)))) (mAnd (mBool (mAp m_is_through (mCons (mVar 0) (mCons (mVar 6) mNil)))) (mNot (mBool (mAp m_is_through (mCons (mVar 1) (mCons (mVar 7) mNil))))))) (mRetO 8) mNx) (mIfS (mBool (mBin neD (mVar 6) (mTup mNil))) (mFrz 8 (mDsetdN 3 (mTup (mCons (mVar 6) (mCons (mVar 7) mNil))) (mVar 8))) mNx)))))
def loopW : Sto → R Out := mFor (mIt itemsD (mC (.tuple [.tuple [.str "u", .bool false], .tuple [.str "u", .bool true], .tuple [.str "-", .bool false], .tuple [.str "-", .bool true]]))) (.nm 5) bodyW
def whileW : Sto → R Out := (mSeq (mSetF 3 (mC (mkN []))) (mSeq (mForDK 2 (.nm 4) loopW) (mFrz 3 (mSet 2 (mVar 3)))))
/-- a store of the search -/
def stW (o t : Metre) (L B : Lay) (p s a b z : Sl) : Sto := [.d (encM o), .d (encM t), .d (dL L), .ov (dL B), p, s, a, b, z]
theorem body_ok {o t : Metre} (ho : OkM o) (ht : OkM t) {L B : Lay} {k : Key} {row : Row} {st : Stp} {a b z : Sl} (hk : isMk st.1 = true) (nd : (L.map (·.1)).Nodup) (hm : (k, row) ∈ L)
    (h1 : ∀ x ∈ k.1, OkS o x) (h2 : ∀ x ∈ k.2, OkS t x) (l1 : k.1.length ≤ 1000) (l2 : k.2.length ≤ 1000) (lr : row.length ≤ 1000) (lB : B.length < 16777216) :
    ∃ a' b' z', bodyW (stW o t L B (.d (encK k)) (.d (encStp st)) a b z) = (match visit o t k row B st with
      | .inl r => .ok (.rt (encRow r) true)
      | .inr B' => .ok (.nx (stW o t L B' (.d (encK k)) (.d (encStp st)) a' b' z'))) := by
  have e1 : m_reached_all [encM o, encSs k.1, encStp st] = .ok (encSs (reachS o k.1 st)) := reached_ok ho hk h1 l1
  have e2 : m_reached_all [encM t, encSs k.2, encStp st] = .ok (encSs (reachS t k.2 st)) := reached_ok ht hk h2 l2
  have e3 : ixD (encK k) (.int 0) = .ok (encSs k.1) := ix_tup (i := 0) rfl
  have e4 : ixD (encK k) (.int 1) = .ok (encSs k.2) := ix_tup (i := 1) rfl
  obtain ⟨q, hq⟩ := keyN_encK k
  have e5 : dgetN (dL L) (encK k) = .ok (encRow row) := by simp only [dgetN, dL, unN_mkN, hq, look_at nd hm]
  have e6 : addD (encRow row) (.list [encStp st]) = .ok (encRow (row ++ [st])) := by
    have := addL_ok (x := row.map encStp) (y := [encStp st]) (by simp; omega)
    simpa [encRow] using this
  have e7 : ixD (encStp st) (.int 1) = .ok (.bool st.2) := ix_tup (i := 1) rfl
  have e8 := through_ok o (reachS o k.1 st)
  have e9 := through_ok t (reachS t k.2 st)
  have e10 : neD (encSs (reachS o k.1 st)) (.tuple []) = .ok (.bool (!decide (reachS o k.1 st = []))) := by
    have : (PyData.tuple []) = encSs [] := rfl
    rw [this, ne_ok ((sd_encSs _).mono (by decide)) ((sd_encSs _).mono (by decide)), eqv_encSs]
  have e11 : ownD (encRow (row ++ [st])) = true := rfl
  obtain ⟨q2, hq2⟩ := keyN_encK (reachS o k.1 st, reachS t k.2 st)
  have e12 : (PyData.tuple [encSs (reachS o k.1 st), encSs (reachS t k.2 st)]) = encK (reachS o k.1 st, reachS t k.2 st) := rfl
  have e13 : (B.map entL).length < sizeLine := by rw [List.length_map, sizeLine_eq]; exact lB
  have e14 : unN (dL B) = some (B.map entL) := rfl
  unfold visit
  by_cases hh : hit o t k st = true
  · refine ⟨a, b, z, ?_⟩
    rw [if_pos hh]
    simp only [hit, Bool.and_eq_true, Bool.not_eq_true', decide_eq_true_eq, decide_eq_false_iff_not] at hh
    obtain ⟨g1, g2, g3⟩ := hh
    simp [bodyW, stW, mBin, mAp, e1, e2, e3, e4, e5, e6, e7, e8, e9, setOv, e11, g1, g2, g3]
  · rw [if_neg hh]
    have hh2 : (st.2 && (decide (fin o ∈ reachS o k.1 st) && !decide (fin t ∈ reachS t k.2 st))) = false := by simpa [hit] using hh
    have hcond : (if st.2 = true then (if (decide (fin o ∈ reachS o k.1 st)) = true then R.ok (!decide (fin t ∈ reachS t k.2 st)) else R.ok false) else R.ok false) = R.ok false := by
      cases g1 : st.2 with
      | false => rfl
      | true =>
        rw [g1, Bool.true_and] at hh2
        cases g2 : decide (fin o ∈ reachS o k.1 st) with
        | false => rfl
        | true =>
          rw [g2, Bool.true_and] at hh2
          rw [hh2]
          rfl
    by_cases hr : reachS o k.1 st = []
    · rw [if_pos hr]
      refine ⟨.d (encSs (reachS o k.1 st)), .d (encSs (reachS t k.2 st)), .ov (encRow (row ++ [st])), ?_⟩
      simp only [decide_eq_true_eq] at hcond
      simp [bodyW, stW, mBin, mAp, e1, e2, e3, e4, e5, e6, e7, e8, e9, setOv, e11, hcond]
      simp [hr] at e10 ⊢
      simp [e10]
    · rw [if_neg hr]
      refine ⟨.d (encSs (reachS o k.1 st)), .d (encSs (reachS t k.2 st)), .d (encRow (row ++ [st])), ?_⟩
      simp only [decide_eq_true_eq] at hcond
      simp [bodyW, stW, mBin, mAp, e1, e2, e3, e4, e5, e6, e7, e8, e9, setOv, e11, hcond]
      simp [hr] at e10
      simp [e10, frz, e12, hq2, e14, e13, look_mem]
      rw [if_pos (by rw [sizeLine_eq]; exact lB), look_mem]
      by_cases hin : (reachS o k.1 st, reachS t k.2 st) ∈ B.map (·.1)
      · rw [if_pos (by simpa using hin), addL, if_pos hin]
      · rw [if_neg (by simpa using hin), put_L hin]
        rfl
/-! ## the loops -/
theorem forE {A Bt : Type} {f : Bt → A → Row ⊕ Bt} {enc : A → PD} {S : Nat → Bt → Sto → Prop} {t : Tg} {mb : Sto → R Out} : ∀ (as : List A) (i : Nat) (b : Bt) (ρ : Sto), S i b ρ →
    (∀ a ∈ as, ∀ j b ρ, j < i + as.length → S j b ρ → ∃ ρ1, setT t (enc a) ρ = .ok ρ1 ∧ (match f b a with
      | .inl r => mb ρ1 = .ok (.rt (encRow r) true)
      | .inr b' => ∃ ρ2, mb ρ1 = .ok (.nx ρ2) ∧ S (j + 1) b' ρ2)) →
    (match foldE f as b with
      | .inl r => forD t mb (as.map enc) ρ = .ok (.rt (encRow r) true)
      | .inr b' => ∃ ρ', forD t mb (as.map enc) ρ = .ok (.nx ρ') ∧ S (i + as.length) b' ρ')
  | [], i, b, ρ, h0, _ => ⟨ρ, rfl, h0⟩
  | a :: as, i, b, ρ, h0, hs => by
    obtain ⟨ρ1, e1, h1⟩ := hs a List.mem_cons_self i b ρ (by rw [List.length_cons]; omega) h0
    simp only [foldE]
    cases hf : f b a with
    | inl r =>
      rw [hf] at h1
      simp only [List.map_cons, forD, e1, h1]
    | inr b' =>
      rw [hf] at h1
      obtain ⟨ρ2, e2, h2⟩ := h1
      have ih := forE as (i + 1) b' ρ2 h2 fun x hx j b ρ hj => hs x (List.mem_cons_of_mem _ hx) j b ρ (by rw [List.length_cons]; omega)
      simp only [List.map_cons, forD, e1, e2]
      rw [List.length_cons, show i + (as.length + 1) = i + 1 + as.length by omega]
      exact ih
theorem forEK {A Bt : Type} {f : Bt → A → Row ⊕ Bt} {enc : A → PD} {S : Nat → Bt → Sto → Prop} {t : Tg} {mb : Sto → R Out} : ∀ (as : List A) (i : Nat) (b : Bt) (ρ : Sto), S i b ρ →
    (∀ a ∈ as, ∀ j b ρ, j < i + as.length → S j b ρ → ∃ ρ1, setT t (enc a) ρ = .ok ρ1 ∧ (match f b a with
      | .inl r => mb ρ1 = .ok (.rt (encRow r) true)
      | .inr b' => ∃ ρ2, mb ρ1 = .ok (.nx ρ2) ∧ S (j + 1) b' ρ2)) →
    (match foldE f as b with
      | .inl r => forDK t mb (as.map enc) ρ = .ok (.rt (encRow r) true)
      | .inr b' => ∃ ρ', forDK t mb (as.map enc) ρ = .ok (.nx ρ') ∧ S (i + as.length) b' ρ')
  | [], i, b, ρ, h0, _ => ⟨ρ, rfl, h0⟩
  | a :: as, i, b, ρ, h0, hs => by
    obtain ⟨ρ1, e1, h1⟩ := hs a List.mem_cons_self i b ρ (by rw [List.length_cons]; omega) h0
    simp only [foldE]
    cases hf : f b a with
    | inl r =>
      rw [hf] at h1
      simp only [List.map_cons, forDK, e1, h1]
    | inr b' =>
      rw [hf] at h1
      obtain ⟨ρ2, e2, h2⟩ := h1
      have ih := forEK as (i + 1) b' ρ2 h2 fun x hx j b ρ hj => hs x (List.mem_cons_of_mem _ hx) j b ρ (by rw [List.length_cons]; omega)
      simp only [List.map_cons, forDK, e1, e2]
      rw [List.length_cons, show i + (as.length + 1) = i + 1 + as.length by omega]
      exact ih
theorem visit_len {o t : Metre} {k : Key} {row : Row} {B B' : Lay} {st : Stp} (h : visit o t k row B st = .inr B') : B'.length ≤ B.length + 1 := by
  unfold visit at h
  split at h
  · cases h
  · split at h
    · cases h; omega
    · cases h; exact addL_len
theorem loop_ok {o t : Metre} (ho : OkM o) (ht : OkM t) {L B : Lay} {q : Key × Row} {s a b z : Sl} (nd : (L.map (·.1)).Nodup) (hm : q ∈ L)
    (h1 : ∀ x ∈ q.1.1, OkS o x) (h2 : ∀ x ∈ q.1.2, OkS t x) (l1 : q.1.1.length ≤ 1000) (l2 : q.1.2.length ≤ 1000) (lr : q.2.length ≤ 1000) (lB : B.length + 4 < 16777216) :
    (match visitK o t B q with
      | .inl r => loopW (stW o t L B (.d (encK q.1)) s a b z) = .ok (.rt (encRow r) true)
      | .inr B' => ∃ s' a' b' z', loopW (stW o t L B (.d (encK q.1)) s a b z) = .ok (.nx (stW o t L B' (.d (encK q.1)) s' a' b' z')) ∧ B'.length ≤ B.length + 4) := by
  have key := forE (f := visit o t q.1 q.2) (enc := encStp) (S := fun i B' ρ => B'.length ≤ B.length + i ∧ ∃ s' a' b' z', ρ = stW o t L B' (.d (encK q.1)) s' a' b' z') (t := .nm 5) (mb := bodyW) steps 0 B (stW o t L B (.d (encK q.1)) s a b z) ⟨by omega, _, _, _, _, rfl⟩ ?_
  · have e : loopW (stW o t L B (.d (encK q.1)) s a b z) = forD (.nm 5) bodyW (steps.map encStp) (stW o t L B (.d (encK q.1)) s a b z) := rfl
    rw [e]
    unfold visitK
    cases hf : foldE (visit o t q.1 q.2) steps B with
    | inl r => rw [hf] at key; exact key
    | inr B' =>
      rw [hf] at key
      obtain ⟨ρ', k1, k2, s', a', b', z', rfl⟩ := key
      exact ⟨s', a', b', z', k1, k2⟩
  · rintro st hst j B' ρ hj ⟨hl, s', a', b', z', rfl⟩
    have hj' : j < 4 := by simpa [steps] using hj
    have hk : isMk st.1 = true := by
      simp only [steps, List.mem_cons, List.not_mem_nil, or_false] at hst
      rcases hst with rfl | rfl | rfl | rfl <;> rfl
    refine ⟨stW o t L B' (.d (encK q.1)) (.d (encStp st)) a' b' z', rfl, ?_⟩
    obtain ⟨a2, b2, z2, hb⟩ := body_ok ho ht (L := L) (B := B') (k := q.1) (row := q.2) (st := st) (a := a') (b := b') (z := z') hk nd hm h1 h2 l1 l2 lr (by omega)
    cases hv : visit o t q.1 q.2 B' st with
    | inl r => rw [hv] at hb; exact hb
    | inr B2 =>
      rw [hv] at hb
      exact ⟨_, hb, by have := visit_len hv; omega, _, _, _, _, rfl⟩
/-- what a layer of the search keeps -/
structure LOk (o t : Metre) (d : Nat) (L : Lay) : Prop where
  nd : (L.map (·.1)).Nodup
  len : L.length ≤ 4 ^ d
  ne : ∀ q ∈ L, q.1.1 ≠ []
  o1 : ∀ q ∈ L, q.1.1 = run o q.2
  o2 : ∀ q ∈ L, q.1.2 = run t q.2
  row : ∀ q ∈ L, q.2.length = d
theorem run_okS {m : Metre} (hm : OkM m) : ∀ (r : Row) (ss : List State), (∀ x ∈ ss, OkS m x) → ∀ x ∈ r.foldl (reachS m) ss, OkS m x
  | [], ss, h => h
  | st :: r, ss, h => run_okS hm r _ (reach_ok h)
theorem start_okS {m : Metre} (hm : OkM m) : ∀ x ∈ [((0, 0, 0) : State)], OkS m x := by
  intro x hx
  simp only [List.mem_singleton] at hx
  subst hx
  have := hm.ne
  exact .inr ⟨m[0]'(by omega), (List.getElem?_eq_getElem (by omega) : m[0]? = some _), .inl ⟨rfl, rfl⟩⟩
theorem run_ok {m : Metre} (hm : OkM m) (r : Row) : ∀ x ∈ run m r, OkS m x := run_okS hm r _ (start_okS hm)
theorem reach_len {m : Metre} (hm : OkM m) {ss : List State} {st : Stp} (h : ∀ x ∈ ss, OkS m x) : (reachS m ss st).length ≤ 48 := by
  unfold reachS reachF
  rw [srt_len]
  exact okS_len hm keysF_nodup (keysF_ok h)
theorem run_snoc (m : Metre) (r : Row) (st : Stp) : run m (r ++ [st]) = reachS m (run m r) st := by unfold run; rw [List.foldl_append]; rfl
theorem run_len {m : Metre} (hm : OkM m) (r : Row) : (run m r).length ≤ 48 := by
  rcases List.eq_nil_or_concat r with rfl | ⟨r', st, rfl⟩
  · simp [run]
  · rw [List.concat_eq_append, run_snoc]
    exact reach_len hm (run_ok hm r')
end Lilt.K80

set_option Elab.async false
set_option linter.all false
set_option maxRecDepth 100000
set_option maxHeartbeats 2000000
set_option autoImplicit false
namespace Lilt.K80
open PySem L2 Lilt
theorem foldE_inv {A Bt : Type} {f : Bt → A → Row ⊕ Bt} {P : Bt → Prop} : ∀ {as : List A} {b b' : Bt}, P b → (∀ a ∈ as, ∀ b b', P b → f b a = .inr b' → P b') → foldE f as b = .inr b' → P b'
  | [], b, b', h, _, e => by simp only [foldE] at e; cases e; exact h
  | a :: as, b, b', h, hs, e => by
    simp only [foldE] at e
    cases hf : f b a with
    | inl r => rw [hf] at e; cases e
    | inr b1 =>
      rw [hf] at e
      exact foldE_inv (hs a List.mem_cons_self b b1 h hf) (fun x hx => hs x (List.mem_cons_of_mem _ hx)) e
theorem foldE_inl {A Bt : Type} {f : Bt → A → Row ⊕ Bt} : ∀ {as : List A} {b : Bt} {r : Row}, foldE f as b = .inl r → ∃ a ∈ as, ∃ b, f b a = .inl r
  | [], b, r, e => by simp only [foldE] at e; cases e
  | a :: as, b, r, e => by
    simp only [foldE] at e
    cases hf : f b a with
    | inl r' => rw [hf] at e; cases e; exact ⟨a, List.mem_cons_self, b, hf⟩
    | inr b1 =>
      rw [hf] at e
      obtain ⟨x, hx, b2, h2⟩ := foldE_inl e
      exact ⟨x, List.mem_cons_of_mem _ hx, b2, h2⟩
theorem addL_keys {B : Lay} {k : Key} {r : Row} (h : (B.map (·.1)).Nodup) : ((addL B k r).map (·.1)).Nodup := by
  unfold addL
  split
  · exact h
  · rename_i hk
    rw [List.map_append, List.nodup_append]
    refine ⟨h, by simp, fun a ha b hb e => ?_⟩
    simp only [List.map_cons, List.map_nil, List.mem_singleton] at hb
    subst hb e
    exact hk ha
/-- what stands below, while it is made -/
structure BOk (o t : Metre) (d : Nat) (B : Lay) : Prop where
  nd : (B.map (·.1)).Nodup
  all : ∀ q ∈ B, q.1.1 ≠ [] ∧ q.1.1 = run o q.2 ∧ q.1.2 = run t q.2 ∧ q.2.length = d + 1
theorem visit_B {o t : Metre} {d : Nat} {k : Key} {row : Row} {B B' : Lay} {st : Stp} (h1 : k.1 = run o row) (h2 : k.2 = run t row) (h3 : row.length = d) (hB : BOk o t d B) (h : visit o t k row B st = .inr B') : BOk o t d B' := by
  unfold visit at h
  split at h
  · cases h
  · split at h
    · cases h; exact hB
    · rename_i hr
      cases h
      refine ⟨addL_keys hB.nd, fun q hq => ?_⟩
      unfold addL at hq
      split at hq
      · exact hB.all q hq
      · rcases List.mem_append.mp hq with hq | hq
        · exact hB.all q hq
        · simp only [List.mem_singleton] at hq
          subst hq
          exact ⟨hr, by rw [run_snoc, ← h1], by rw [run_snoc, ← h2], by simp [h3]⟩
theorem foldE_len {A : Type} {f : Lay → A → Row ⊕ Lay} (c : Nat) : ∀ {as : List A} {b b' : Lay}, (∀ a ∈ as, ∀ b b', f b a = .inr b' → b'.length ≤ b.length + c) → foldE f as b = .inr b' → b'.length ≤ b.length + c * as.length
  | [], b, b', _, e => by simp only [foldE] at e; cases e; simp
  | a :: as, b, b', hs, e => by
    simp only [foldE] at e
    cases hf : f b a with
    | inl r => rw [hf] at e; cases e
    | inr b1 =>
      rw [hf] at e
      have h1 := hs a List.mem_cons_self b b1 hf
      have h2 := foldE_len c (fun x hx => hs x (List.mem_cons_of_mem _ hx)) e
      rw [List.length_cons, Nat.mul_add]
      omega
theorem visitK_len {o t : Metre} {B B' : Lay} {q : Key × Row} (h : visitK o t B q = .inr B') : B'.length ≤ B.length + 4 := foldE_len 1 (fun a _ b b' e => visit_len e) h
theorem visitL_ok {o t : Metre} {d : Nat} {L B : Lay} (h : LOk o t d L) (e : visitL o t L = .inr B) : LOk o t (d + 1) B := by
  have h1 : BOk o t d B := foldE_inv (P := BOk o t d) ⟨by simp, by simp⟩ (fun q hq b b' hb he => foldE_inv (P := BOk o t d) hb (fun st _ b b' hb he => visit_B (h.o1 q hq) (h.o2 q hq) (h.row q hq) hb he) he) e
  have h2 : B.length ≤ 4 * L.length := by
    have := foldE_len 4 (fun a _ b b' e => visitK_len e) e
    simpa using this
  refine ⟨h1.nd, ?_, fun q hq => (h1.all q hq).1, fun q hq => (h1.all q hq).2.1, fun q hq => (h1.all q hq).2.2.1, fun q hq => (h1.all q hq).2.2.2⟩
  have := h.len
  rw [Nat.pow_succ]
  omega
/-! ## it ends -/
def rank (x : State) : Nat := 3 * x.1 + x.2.2
theorem moves_rank {m : Metre} (hm : OkM m) {s : State} {mk : Nat} {e : Bool} (hx : OkS m s) : ∀ x ∈ movesF m s mk e, rank s + 1 ≤ rank x.2 := by
  obtain ⟨s, n, t⟩ := s
  have hb : ∀ (sl : Slot) (p : Pat) (n' t' : Nat), OkP p → t' ≤ 3 → 1 ≤ t' → t' = t + 1 → ∀ x ∈ behindF sl p s n' t' e, rank (s, n, t) + 1 ≤ rank x.2 := by
    intro sl p n' t' hp h3 h1 et x hx
    unfold behindF at hx
    split at hx
    · simp only [List.mem_singleton] at hx
      subst hx
      simp only [rank]; omega
    · split at hx
      · exact nomatch hx
      · simp only [List.mem_singleton] at hx
        subst hx
        simp only [rank]; omega
  intro x h
  unfold movesF at h
  cases h1 : m[s]? with
  | none => simp only [h1] at h; exact nomatch h
  | some sl =>
    have okl := hm.ok sl (List.mem_of_getElem? h1)
    simp only [h1] at h
    split at h
    · cases h2 : sl.pats[n]? with
      | none => simp only [h2] at h; exact nomatch h
      | some p =>
        simp only [h2] at h
        split at h
        · have h3 := okS_bd hm hx
          simp only at h3
          exact hb sl p n (t + 1) (okl.ok p (List.mem_of_getElem? h2)) (by omega) (by omega) rfl x h
        · exact nomatch h
    · rename_i ht
      obtain ⟨⟨p, k⟩, hq, hx'⟩ := List.mem_flatMap.mp h
      have hk : sl.pats[k]? = some p := List.mk_mem_zipIdx_iff_getElem?.mp hq
      unfold firstF at hx'
      simp only at hx' ht
      split at hx'
      · exact hb sl p k 1 (okl.ok p (List.mem_of_getElem? hk)) (by omega) (by omega) (by omega) x hx'
      · exact nomatch hx'
theorem run_rank {m : Metre} (hm : OkM m) : ∀ (r : Row) (c : Nat) (ss : List State), (∀ x ∈ ss, OkS m x ∧ c ≤ rank x) → ∀ x ∈ r.foldl (reachS m) ss, c + r.length ≤ rank x
  | [], c, ss, h, x, hx => (h x hx).2
  | st :: r, c, ss, h, x, hx => by
    have := run_rank hm r (c + 1) (reachS m ss st) (fun y hy => ⟨reach_ok (fun z hz => (h z hz).1) y hy, ?_⟩) x hx
    · rw [List.length_cons]; omega
    · obtain ⟨z, hz, hy⟩ := reach_mem.mp hy
      obtain ⟨w, hw, rfl⟩ := List.mem_map.mp hy
      have h1 := moves_rank hm (h z hz).1 w hw
      have h2 := (h z hz).2
      omega
theorem rank_le {m : Metre} (hm : OkM m) {x : State} (h : OkS m x) : rank x ≤ 9 := by
  have := hm.le
  rcases h with rfl | ⟨sl, h1, h2⟩
  · simp only [rank]; omega
  · have h3 := (List.getElem?_eq_some_iff.mp h1).1
    have h4 := okS_bd hm (.inr ⟨sl, h1, h2⟩ : OkS m x)
    simp only [rank]
    omega
theorem row_le {m : Metre} (hm : OkM m) {r : Row} (h : run m r ≠ []) : r.length ≤ 9 := by
  obtain ⟨x, hx⟩ := List.exists_mem_of_ne_nil _ h
  have h1 := run_rank hm r 0 [(0, 0, 0)] (fun y hy => ⟨start_okS hm y hy, Nat.zero_le _⟩) x hx
  have h2 := rank_le hm (run_ok hm r x hx)
  omega
theorem lok_le {o t : Metre} (ho : OkM o) {d : Nat} {L : Lay} (h : LOk o t d L) (n : L ≠ []) : d ≤ 9 := by
  obtain ⟨q, hq⟩ := List.exists_mem_of_ne_nil _ n
  have := row_le ho (r := q.2) (by rw [← h.o1 q hq]; exact h.ne q hq)
  rw [h.row q hq] at this
  exact this
theorem lok0 (o t : Metre) : LOk o t 0 lay0 := by
  refine ⟨by simp [lay0], by simp [lay0], ?_, ?_, ?_, ?_⟩ <;> intro q hq <;> simp only [lay0, List.mem_singleton] at hq <;> subst hq <;> simp [run]
/-! ## the search, run -/
theorem keysD_dL (L : Lay) : keysD (dL L) = some (L.map fun q => encK q.1) := by
  simp only [keysD, dL, mkN, List.map_map]
  rfl
theorem pass_ok {o t : Metre} (ho : OkM o) (ht : OkM t) {d : Nat} {L : Lay} (h : LOk o t d L) (hd : d ≤ 9) {p s a b z : Sl} (x3 : Sl) :
    (match visitL o t L with
      | .inl r => whileW [.d (encM o), .d (encM t), .d (dL L), x3, p, s, a, b, z] = .ok (.rt (encRow r) true)
      | .inr B => ∃ x' p' s' a' b' z', whileW [.d (encM o), .d (encM t), .d (dL L), x3, p, s, a, b, z] = .ok (.nx [.d (encM o), .d (encM t), .d (dL B), x', p', s', a', b', z'])) := by
  have hl : L.length ≤ 262144 := by
    have h1 := h.len
    have h2 : 4 ^ d ≤ 4 ^ 9 := Nat.pow_le_pow_right (by decide) hd
    have h3 : 4 ^ 9 = 262144 := by decide
    omega
  have key := forEK (f := visitK o t) (enc := fun q => encK q.1) (S := fun i B' ρ => B'.length ≤ 4 * i ∧ ∃ p' s' a' b' z', ρ = stW o t L B' p' s' a' b' z') (t := .nm 4) (mb := loopW) L 0 [] (stW o t L [] p s a b z) ⟨by simp, _, _, _, _, _, rfl⟩ ?_
  · have e : whileW [.d (encM o), .d (encM t), .d (dL L), x3, p, s, a, b, z] = mSeq (mForDK 2 (.nm 4) loopW) (mFrz 3 (mSet 2 (mVar 3))) (stW o t L [] p s a b z) := rfl
    rw [e]
    have e2 : mForDK 2 (.nm 4) loopW (stW o t L [] p s a b z) = forDK (.nm 4) loopW (L.map fun q => encK q.1) (stW o t L [] p s a b z) := by
      rw [run_forDK]
      show (match keysD (dL L) with
        | some ks => forDK (.nm 4) loopW ks (stW o t L [] p s a b z)
        | none => .stuck) = _
      rw [keysD_dL]
    rw [run_seq, e2]
    unfold visitL
    cases hf : foldE (visitK o t) L [] with
    | inl r => rw [hf] at key; simp only [key]
    | inr B' =>
      rw [hf] at key
      obtain ⟨ρ', k1, k2, p', s', a', b', z', rfl⟩ := key
      simp only [k1]
      exact ⟨_, _, _, _, _, _, rfl⟩
  · rintro q hq j B' ρ hj ⟨hl', p', s', a', b', z', rfl⟩
    refine ⟨stW o t L B' (.d (encK q.1)) s' a' b' z', rfl, ?_⟩
    have r1 := h.o1 q hq
    have r2 := h.o2 q hq
    have hb := loop_ok ho ht (L := L) (B := B') (q := q) (s := s') (a := a') (b := b') (z := z') h.nd hq (by rw [r1]; exact run_ok ho _) (by rw [r2]; exact run_ok ht _) (by rw [r1]; have := run_len ho q.2; omega) (by rw [r2]; have := run_len ht q.2; omega) (by rw [h.row q hq]; omega) (by omega)
    cases hv : visitK o t B' q with
    | inl r => rw [hv] at hb; exact hb
    | inr B2 =>
      rw [hv] at hb
      obtain ⟨s2, a2, b2, z2, g1, g2⟩ := hb
      exact ⟨_, g1, by omega, _, _, _, _, _, rfl⟩
theorem while_ok {o t : Metre} (ho : OkM o) (ht : OkM t) : ∀ (n d : Nat) (L : Lay), LOk o t d L → 11 ≤ n + d → 1 ≤ n → ∀ {x3 p s a b z : Sl},
    (match bfs o t n L with
      | some r => whD (mBool (mBin neDictN (mVar 2) (mC (mkN [])))) whileW n [.d (encM o), .d (encM t), .d (dL L), x3, p, s, a, b, z] = .ok (.rt (encRow r) true)
      | none => ∃ ρ', whD (mBool (mBin neDictN (mVar 2) (mC (mkN [])))) whileW n [.d (encM o), .d (encM t), .d (dL L), x3, p, s, a, b, z] = .ok (.nx ρ'))
  | 0, d, L, h, hn, h1, x3, p, s, a, b, z => absurd h1 (by decide)
  | n + 1, d, L, h, hn, h1, x3, p, s, a, b, z => by
    have et : mBool (mBin neDictN (mVar 2) (mC (mkN []))) [.d (encM o), .d (encM t), .d (dL L), x3, p, s, a, b, z] = .ok (!(L.map entL).isEmpty) := rfl
    by_cases e : L = []
    · subst e
      simp only [bfs, if_true, whD, et]
      exact ⟨_, rfl⟩
    · have hd := lok_le ho h e
      have hne : (!(L.map entL).isEmpty) = true := by cases L with
        | nil => exact absurd rfl e
        | cons => rfl
      have hp := pass_ok ho ht h hd (p := p) (s := s) (a := a) (b := b) (z := z) x3
      simp only [bfs, if_neg e, whD, et, hne, lift_ok, if_true]
      cases hv : visitL o t L with
      | inl r => rw [hv] at hp; simp only [hp]
      | inr B =>
        rw [hv] at hp
        obtain ⟨x', p', s', a', b', z', g⟩ := hp
        simp only [g]
        exact while_ok ho ht n (d + 1) B (visitL_ok h hv) (by omega) (by omega)
end Lilt.K80

set_option Elab.async false
set_option linter.all false
set_option maxRecDepth 100000
set_option maxHeartbeats 2000000
set_option autoImplicit false
namespace Lilt.K80
open PySem L2 Lilt
theorem within_ok {o t : Metre} (ho : OkM o) (ht : OkM t) : m_metre_within [encM o, encM t] = .ok (match bfs o t 12 lay0 with | some r => encRow r | none => .none) := by
  have hw := while_ok ho ht 12 0 lay0 (lok0 o t) (by decide) (by decide) (x3 := .un) (p := .un) (s := .un) (a := .un) (b := .un) (z := .un)
  have e : m_metre_within [encM o, encM t] = endFr (mSeq (whD (mBool (mBin neDictN (mVar 2) (mC (mkN [])))) whileW 12) (mRet (mC .none)) [.d (encM o), .d (encM t), .d (dL lay0), .un, .un, .un, .un, .un, .un]) := rfl
  rw [e, run_seq]
  cases hb : bfs o t 12 lay0 with
  | some r => rw [hb] at hw; simp only [hw]; rfl
  | none =>
    rw [hb] at hw
    obtain ⟨ρ', h⟩ := hw
    simp only [h]
    rfl
/-! ## what is found -/
def Acc (m : Metre) (r : Row) : Prop := fin m ∈ run m r
def OkR (r : Row) : Prop := ∀ st ∈ r, st ∈ steps
theorem bfs_sound {o t : Metre} : ∀ (n d : Nat) (L : Lay), LOk o t d L → (∀ q ∈ L, OkR q.2) → ∀ {r : Row}, bfs o t n L = some r → Acc o r ∧ ¬ Acc t r ∧ OkR r ∧ ∃ r' st, r = r' ++ [st] ∧ st.2 = true
  | 0, d, L, h, hr, r, e => by simp only [bfs] at e; cases e
  | n + 1, d, L, h, hr, r, e => by
    simp only [bfs] at e
    split at e
    · cases e
    · cases hv : visitL o t L with
      | inl r' =>
        rw [hv] at e
        obtain rfl := Option.some.inj e
        obtain ⟨q, hq, B, hb⟩ := foldE_inl hv
        obtain ⟨st, hst, B2, hb2⟩ := foldE_inl hb
        unfold visit at hb2
        split at hb2
        · rename_i hh
          cases hb2
          simp only [hit, Bool.and_eq_true, Bool.not_eq_true', decide_eq_true_eq, decide_eq_false_iff_not] at hh
          obtain ⟨g1, g2, g3⟩ := hh
          refine ⟨?_, ?_, fun x hx => ?_, _, _, rfl, g1⟩
          · unfold Acc; rw [run_snoc, ← h.o1 q hq]; exact g2
          · unfold Acc; rw [run_snoc, ← h.o2 q hq]; exact g3
          · rcases List.mem_append.mp hx with hx | hx
            · exact hr q hq x hx
            · simp only [List.mem_singleton] at hx; subst hx; exact hst
        · split at hb2 <;> cases hb2
      | inr B =>
        rw [hv] at e
        refine bfs_sound n (d + 1) B (visitL_ok h hv) ?_ e
        refine foldE_inv (P := fun B : Lay => ∀ q ∈ B, OkR q.2) (by simp) (fun q hq b b' hb he => ?_) hv
        refine foldE_inv (P := fun B : Lay => ∀ q ∈ B, OkR q.2) hb (fun st hst b b' hb he => ?_) he
        unfold visit at he
        split at he
        · cases he
        · split at he
          · cases he; exact hb
          · cases he
            intro x hx
            unfold addL at hx
            split at hx
            · exact hb x hx
            · rcases List.mem_append.mp hx with hx | hx
              · exact hb x hx
              · simp only [List.mem_singleton] at hx
                subst hx
                intro y hy
                rcases List.mem_append.mp hy with hy | hy
                · exact hr q hq y hy
                · simp only [List.mem_singleton] at hy; subst hy; exact hst
/-! ## feet -/
def matchB : Pat → Row → Bool
  | [], [] => true
  | c :: p, st :: r => (decide (c = st.1) || decide (c = 120)) && matchB p r
  | _, _ => false
def endsR : Row → Bool
  | [] => false
  | [st] => st.2
  | _ :: b :: r => endsR (b :: r)
def Seg : Metre → Row → Prop
  | [], r => r = []
  | sl :: m, r => ∃ p ∈ sl.pats, ∃ r1 r2, r = r1 ++ r2 ∧ matchB p r1 = true ∧ (sl.cut = true → endsR r1 = true) ∧ Seg m r2
def Reach (m : Metre) : State → Row → State → Prop
  | s, [], x => x = s
  | s, st :: r, x => ∃ y ∈ nextF m st.1 st.2 s, Reach m y r x
theorem fold_reach {m : Metre} : ∀ (r : Row) (ss : List State) (x : State), x ∈ r.foldl (reachS m) ss ↔ ∃ s ∈ ss, Reach m s r x
  | [], ss, x => by simp [Reach]
  | st :: r, ss, x => by
    rw [List.foldl_cons, fold_reach r]
    constructor
    · rintro ⟨y, hy, h⟩
      obtain ⟨s, hs, hy⟩ := reach_mem.mp hy
      exact ⟨s, hs, y, hy, h⟩
    · rintro ⟨s, hs, y, hy, h⟩
      exact ⟨y, reach_mem.mpr ⟨s, hs, hy⟩, h⟩
theorem matchB_len : ∀ {p : Pat} {r : Row}, matchB p r = true → p.length = r.length
  | [], [], _ => rfl
  | _ :: p, _ :: r, h => by
    simp only [matchB, Bool.and_eq_true] at h
    rw [List.length_cons, List.length_cons, matchB_len h.2]
  | [], _ :: _, h => by simp [matchB] at h
  | _ :: _, [], h => by simp [matchB] at h
theorem fits_drop {p : Pat} {t : Nat} {st : Stp} {r : Row} (ht : t < p.length) : matchB (p.drop t) (st :: r) = (fitsF st.1 p t && matchB (p.drop (t + 1)) r) := by
  rw [List.drop_eq_getElem_cons ht]
  simp only [matchB, fitsF, List.getElem?_eq_getElem ht, Option.some.injEq]
theorem ends_cons {st : Stp} {r : Row} (h : r ≠ []) : endsR (st :: r) = endsR r := by
  cases r with
  | nil => exact absurd rfl h
  | cons => rfl
/-- from behind the t-th mark of a pattern -/
theorem after_step {m : Metre} {s n : Nat} {sl : Slot} {p : Pat} (hs : m[s]? = some sl) (hn : sl.pats[n]? = some p) : ∀ (r : Row) (t : Nat) (st : Stp), t < p.length →
    ((∃ y ∈ behindF sl p s n (t + 1) st.2, Reach m y.2 r (fin m)) ↔ ∃ r1 r2, r = r1 ++ r2 ∧ matchB (p.drop (t + 1)) r1 = true ∧ (sl.cut = true → endsR (st :: r1) = true) ∧ Reach m (s + 1, 0, 0) r2 (fin m)) := by
  intro r
  induction r with
  | nil =>
    intro t st ht
    unfold behindF
    by_cases hl : t + 1 < p.length
    · rw [if_pos hl]
      constructor
      · rintro ⟨y, hy, h⟩
        simp only [List.mem_singleton] at hy
        subst hy
        simp only [Reach, fin, Prod.mk.injEq] at h
        omega
      · rintro ⟨r1, r2, e, hm, _⟩
        have := matchB_len hm
        have e1 : r1 = [] := (List.append_eq_nil_iff.mp e.symm).1
        subst e1
        simp at this
        omega
    · rw [if_neg hl]
      have hd : p.drop (t + 1) = [] := List.drop_eq_nil_of_le (by omega)
      rw [hd]
      constructor
      · rintro ⟨y, hy, h⟩
        split at hy
        · exact nomatch hy
        · rename_i hc
          simp only [List.mem_singleton] at hy
          subst hy
          exact ⟨[], [], rfl, rfl, fun c => by simpa [c, endsR] using hc, h⟩
      · rintro ⟨r1, r2, e, hm, hc, h⟩
        have e1 : r1 = [] := (List.append_eq_nil_iff.mp e.symm).1
        subst e1
        have e2 : r2 = [] := (List.append_eq_nil_iff.mp e.symm).2
        subst e2
        refine ⟨(n, (s + 1, 0, 0)), ?_, h⟩
        rw [if_neg]
        · exact List.mem_singleton.mpr rfl
        · intro q
          simp only [Bool.and_eq_true, Bool.not_eq_true'] at q
          have := hc q.1
          simp only [endsR] at this
          rw [this] at q
          exact absurd q.2 (by simp)
  | cons st' r ih =>
    intro t st ht
    unfold behindF
    by_cases hl : t + 1 < p.length
    · rw [if_pos hl]
      have ih' := ih (t + 1) st' hl
      have hnext : nextF m st'.1 st'.2 (s, n, t + 1) = if fitsF st'.1 p (t + 1) then (behindF sl p s n (t + 1 + 1) st'.2).map (·.2) else [] := by
        unfold nextF movesF
        simp only [hs, hn, Nat.zero_lt_succ, if_true]
        split <;> rfl
      constructor
      · rintro ⟨y, hy, h⟩
        simp only [List.mem_singleton] at hy
        subst hy
        obtain ⟨y, hy, h⟩ := h
        rw [hnext] at hy
        split at hy
        · rename_i hf
          obtain ⟨w, hw, rfl⟩ := List.mem_map.mp hy
          obtain ⟨r1, r2, rfl, g1, g2, g3⟩ := ih'.mp ⟨w, hw, h⟩
          refine ⟨st' :: r1, r2, rfl, ?_, fun c => ?_, g3⟩
          · rw [fits_drop hl, hf, g1]; rfl
          · rw [ends_cons (by simp)]; exact g2 c
        · exact nomatch hy
      · rintro ⟨r1, r2, e, g1, g2, g3⟩
        cases r1 with
        | nil =>
          have := matchB_len g1
          simp at this
          omega
        | cons a r1 =>
          simp only [List.cons_append, List.cons.injEq] at e
          obtain ⟨rfl, rfl⟩ := e
          rw [fits_drop hl, Bool.and_eq_true] at g1
          obtain ⟨w, hw, h⟩ := ih'.mpr ⟨r1, r2, rfl, g1.2, fun c => by rw [← ends_cons (st := st) (by simp)]; exact g2 c, g3⟩
          refine ⟨_, List.mem_singleton.mpr rfl, w.2, ?_, h⟩
          rw [hnext, if_pos g1.1]
          exact List.mem_map.mpr ⟨w, hw, rfl⟩
    · rw [if_neg hl]
      have hd : p.drop (t + 1) = [] := List.drop_eq_nil_of_le (by omega)
      rw [hd]
      constructor
      · rintro ⟨y, hy, h⟩
        split at hy
        · exact nomatch hy
        · rename_i hc
          simp only [List.mem_singleton] at hy
          subst hy
          exact ⟨[], _, rfl, rfl, fun c => by simpa [c, endsR] using hc, h⟩
      · rintro ⟨r1, r2, e, hm, hc, h⟩
        have e1 : r1 = [] := by
          have := matchB_len hm
          exact List.length_eq_zero_iff.mp (by simpa using this.symm)
        subst e1
        simp only [List.nil_append] at e
        subst e
        refine ⟨(n, (s + 1, 0, 0)), ?_, h⟩
        rw [if_neg]
        · exact List.mem_singleton.mpr rfl
        · intro q
          simp only [Bool.and_eq_true, Bool.not_eq_true'] at q
          have := hc q.1
          simp only [endsR] at this
          rw [this] at q
          exact absurd q.2 (by simp)
theorem reach_slot {m : Metre} {s : Nat} {sl : Slot} (hs : m[s]? = some sl) (hp : ∀ p ∈ sl.pats, 1 ≤ p.length) (r : Row) :
    Reach m (s, 0, 0) r (fin m) ↔ ∃ p ∈ sl.pats, ∃ r1 r2, r = r1 ++ r2 ∧ matchB p r1 = true ∧ (sl.cut = true → endsR r1 = true) ∧ Reach m (s + 1, 0, 0) r2 (fin m) := by
  have hsl := (List.getElem?_eq_some_iff.mp hs).1
  cases r with
  | nil =>
    constructor
    · intro h
      simp only [Reach, fin, Prod.mk.injEq] at h
      omega
    · rintro ⟨p, hpm, r1, r2, e, g1, _⟩
      have e1 : r1 = [] := (List.append_eq_nil_iff.mp e.symm).1
      subst e1
      have h1 := matchB_len g1
      have h2 := hp p hpm
      rw [List.length_nil] at h1
      omega
  | cons st r =>
    have hnext : ∀ y, y ∈ nextF m st.1 st.2 (s, 0, 0) ↔ ∃ k p, sl.pats[k]? = some p ∧ fitsF st.1 p 0 = true ∧ ∃ w ∈ behindF sl p s k 1 st.2, w.2 = y := by
      intro y
      unfold nextF movesF
      simp only [hs, Nat.lt_irrefl, if_false]
      rw [List.mem_map]
      constructor
      · rintro ⟨w, hw, rfl⟩
        obtain ⟨⟨p, k⟩, hq, hw⟩ := List.mem_flatMap.mp hw
        unfold firstF at hw
        simp only at hw
        split at hw
        · exact ⟨k, p, List.mk_mem_zipIdx_iff_getElem?.mp hq, by assumption, w, hw, rfl⟩
        · exact nomatch hw
      · rintro ⟨k, p, hk, hf, w, hw, rfl⟩
        refine ⟨w, List.mem_flatMap.mpr ⟨(p, k), List.mk_mem_zipIdx_iff_getElem?.mpr hk, ?_⟩, rfl⟩
        unfold firstF
        rw [if_pos hf]
        exact hw
    constructor
    · rintro ⟨y, hy, h⟩
      obtain ⟨k, p, hk, hf, w, hw, rfl⟩ := (hnext y).mp hy
      have hpm := List.mem_of_getElem? hk
      have hpl := hp p hpm
      obtain ⟨r1, r2, rfl, g1, g2, g3⟩ := (after_step hs hk r 0 st (by omega)).mp ⟨w, hw, h⟩
      refine ⟨p, hpm, st :: r1, r2, rfl, ?_, g2, g3⟩
      have := fits_drop (p := p) (t := 0) (st := st) (r := r1) (by omega)
      rw [List.drop_zero] at this
      rw [this, hf, g1]; rfl
    · rintro ⟨p, hpm, r1, r2, e, g1, g2, g3⟩
      have hpl := hp p hpm
      cases r1 with
      | nil => have h1 := matchB_len g1; rw [List.length_nil] at h1; omega
      | cons a r1 =>
        simp only [List.cons_append, List.cons.injEq] at e
        obtain ⟨rfl, rfl⟩ := e
        have hd := fits_drop (p := p) (t := 0) (st := st) (r := r1) (by omega)
        rw [List.drop_zero] at hd
        rw [hd, Bool.and_eq_true] at g1
        obtain ⟨k, hk⟩ := List.mem_iff_getElem?.mp hpm
        obtain ⟨w, hw, h⟩ := (after_step hs hk (r1 ++ r2) 0 st (by omega)).mpr ⟨r1, r2, rfl, g1.2, g2, g3⟩
        exact ⟨w.2, (hnext w.2).mpr ⟨k, p, hk, g1.1, w, hw, rfl⟩, h⟩
theorem reach_seg {m : Metre} (hm : OkM m) : ∀ (n s : Nat) (r : Row), s + n = m.length → (Reach m (s, 0, 0) r (fin m) ↔ Seg (m.drop s) r)
  | 0, s, r, h => by
    rw [List.drop_eq_nil_of_le (by omega)]
    have es : s = m.length := by omega
    subst es
    cases r with
    | nil => simp [Reach, Seg, fin]
    | cons st r =>
      simp only [Seg, Reach]
      constructor
      · rintro ⟨y, hy, _⟩
        unfold nextF movesF at hy
        rw [List.getElem?_eq_none (Nat.le_refl _)] at hy
        exact nomatch hy
      · intro h; cases h
  | n + 1, s, r, h => by
    have hs : s < m.length := by omega
    have h1 : m[s]? = some m[s] := List.getElem?_eq_getElem hs
    rw [reach_slot h1 (fun p hp => ((hm.ok _ (List.getElem_mem hs)).ok p hp).1), List.drop_eq_getElem_cons hs]
    simp only [Seg]
    constructor
    · rintro ⟨p, hp, r1, r2, e, g1, g2, g3⟩
      exact ⟨p, hp, r1, r2, e, g1, g2, (reach_seg hm n (s + 1) r2 (by omega)).mp g3⟩
    · rintro ⟨p, hp, r1, r2, e, g1, g2, g3⟩
      exact ⟨p, hp, r1, r2, e, g1, g2, (reach_seg hm n (s + 1) r2 (by omega)).mpr g3⟩
theorem acc_seg {m : Metre} (hm : OkM m) (r : Row) : Acc m r ↔ Seg m r := by
  unfold Acc run
  rw [fold_reach]
  have := reach_seg hm m.length 0 r (by omega)
  rw [List.drop_zero] at this
  simpa using this
end Lilt.K80

set_option Elab.async false
set_option linter.all false
set_option maxRecDepth 100000
set_option maxHeartbeats 2000000
set_option autoImplicit false
namespace Lilt.K80
open PySem L2 Lilt
/-! ## the law's own counting -/
def lfits (row : Row) (at_ : Nat) (p : Pat) (cut : Bool) : Bool := matchB p ((row.drop at_).take p.length) && (!cut || endsR ((row.drop at_).take p.length))
theorem endsR_last : ∀ (r : Row) (st : Stp), endsR (r ++ [st]) = st.2
  | [], st => rfl
  | [a], st => rfl
  | a :: b :: r, st => by
    show endsR ((b :: r) ++ [st]) = _
    exact endsR_last (b :: r) st
theorem matchB_all : ∀ (p : Pat) (r : Row), p.length = r.length → matchB p r = (List.range p.length).all fun k => (decide (p[k]? = (r[k]?.map (·.1))) || decide (p[k]? = some 120))
  | [], [], _ => rfl
  | [], _ :: _, h => by simp at h
  | _ :: _, [], h => by simp at h
  | c :: p, st :: r, h => by
    have ih := matchB_all p r (by simpa using h)
    rw [List.length_cons, List.range_succ_eq_map, List.all_cons, List.all_map]
    simp only [matchB, ih]
    simp [Function.comp_def]
theorem encStp_at {row : Row} {i : Nat} {st : Stp} (h : row[i]? = some st) : ixD (encRow row) (.int (i : Int)) = .ok (encStp st) := ix_lst (by simp [h])
theorem encP_len {p : Pat} (hp : OkP p) : lenD [encP p] = .ok (.int p.length) := by
  have := hp.2.1
  have := len_str (x := ⟨p.toArray⟩) (by show p.toArray.size ≤ _; simp; omega)
  simpa [encP, Str.length] using this
theorem rng1_ok (n : Nat) (h : n ≤ 1000000) : rng1 [.int (n : Int)] = .ok ((List.range n).map fun (k : Nat) => .int (k : Int)) := by
  have e : smallI (n : Int) = true := by
    unfold smallI
    simp only [Bool.and_eq_true, decide_eq_true_eq]
    omega
  simp [rng1, e]
def badK (row : Row) (at_ : Nat) (p : Pat) (k : Nat) : Bool := !(decide (p[k]? = (((row.drop at_).take p.length)[k]?.map (·.1))) || decide (p[k]? = some 120))
def intL (l : List Nat) : List PD := l.map fun (k : Nat) => (PyData.int (k : Int))
def badP (row : Row) (at_ : Nat) (p : Pat) : PD → Bool
  | .int k => badK row at_ p k.toNat
  | _ => false
theorem eqv_intL_nil (l : List Nat) : PyData.eqv (.list (intL l)) (.list []) = l.isEmpty := by
  cases l <;> simp [intL, PyData.eqv, PyData.eqvAll]
theorem sd_intL (l : List Nat) : Sd 64 (.list (intL l)) := (Sd.lst (n := 0) (fun d hd => by
  obtain ⟨k, _, rfl⟩ := List.mem_map.mp hd
  exact Sd.int _)).mono (by decide)
theorem bad_empty {row : Row} {at_ : Nat} {p : Pat} (hlen : p.length = ((row.drop at_).take p.length).length) : ((List.range p.length).filter (badK row at_ p)).isEmpty = matchB p ((row.drop at_).take p.length) := by
  rw [matchB_all p _ hlen, Bool.eq_iff_iff, List.isEmpty_iff, List.filter_eq_nil_iff, List.all_eq_true]
  refine forall_congr' fun k => forall_congr' fun _ => ?_
  unfold badK
  cases (decide (p[k]? = (((row.drop at_).take p.length)[k]?.map (·.1))) || decide (p[k]? = some 120)) <;> simp
def lcT : Sto → R Bool := mBool (mBin notinA (mBin ixD (mVar 2) (mVar 4)) (mTup (mCons (mC (.str "x")) (mCons (mBin ixD (mBin ixD (mVar 0) (mBin addD (mVar 1) (mVar 4))) (mC (.int 0))) mNil))))
theorem mk_of_steps {row : Row} (hr : OkR row) {i : Nat} {st : Stp} (h : row[i]? = some st) : isMk st.1 = true := by
  have := hr st (List.mem_of_getElem? h)
  simp only [steps, List.mem_cons, List.not_mem_nil, or_false] at this
  rcases this with rfl | rfl | rfl | rfl <;> rfl
theorem in_two {a b : Nat} (ha : isMk a = true) (hb : isMk b = true) : inA (one a) (.tuple [.str "x", one b]) = .ok (.bool (decide (a = b) || decide (a = 120))) := by
  have e120 : (PyData.str "x") = one 120 := rfl
  have hsd : Sd 64 (.tuple [one 120, one b]) := (Sd.tup (n := 0) (by
    intro d hd
    simp only [List.mem_cons, List.not_mem_nil, or_false] at hd
    rcases hd with rfl | rfl
    · exact sd_one (by decide)
    · exact sd_one hb)).mono (by decide)
  rw [e120, inT_ok (sd_one ha) hsd]
  refine congrArg (fun b => R.ok (PyData.bool b)) ?_
  simp only [List.any_cons, List.any_nil, Bool.or_false, eqv_one]
  rw [Bool.or_comm, decide_eq_decide.mpr (eq_comm (a := b) (b := a)), decide_eq_decide.mpr (eq_comm (a := 120) (b := a))]
theorem lc_ok {row : Row} {at_ : Nat} {p : Pat} (hp : OkP p) (hr : OkR row) (hl : at_ + p.length ≤ row.length) (c : Sl) :
    compD (.nm 4) lcT (mVar 4) [.d (encRow row), .d (.int at_), .d (encP p), c, .un] (intL (List.range p.length)) = some (intL ((List.range p.length).filter (badK row at_ p))) := by
  have h := comp_ok (t := .nm 4) (mt := lcT) (me := mVar 4) (ρ := [.d (encRow row), .d (.int at_), .d (encP p), c, .un]) (badP row at_ p) id (ds := intL (List.range p.length)) fun x hx => ?_
  · rw [h, List.map_id]
    unfold intL
    rw [List.filter_map]
    rfl
  · obtain ⟨k, hk, rfl⟩ := List.mem_map.mp hx
    rw [List.mem_range] at hk
    have hp2 := hp.2.1
    obtain ⟨sk, hsk⟩ : ∃ sk, row[at_ + k]? = some sk := ⟨row[at_ + k]'(by omega), List.getElem?_eq_getElem (by omega)⟩
    have g1 : ixD (encP p) (.int (k : Int)) = .ok (one p[k]) := ix_str (by simp [hk]) (by show p.toArray.size ≤ _; simp; omega)
    have g2 := encStp_at hsk
    rw [show ((at_ + k : Nat) : Int) = (at_ : Int) + (k : Int) by omega] at g2
    have g3 : ixD (encStp sk) (.int 0) = .ok (one sk.1) := ix_tup (i := 0) rfl
    have g4 := in_two (hp.2.2 _ (List.getElem_mem hk)) (mk_of_steps hr hsk)
    have hb : badK row at_ p k = !(decide (p[k] = sk.1) || decide (p[k] = 120)) := by
      have h1 : p[k]? = some p[k] := List.getElem?_eq_getElem hk
      have h2 : ((row.drop at_).take p.length)[k]? = some sk := by rw [List.getElem?_take_of_lt hk, List.getElem?_drop, hsk]
      unfold badK
      rw [h1, h2]
      simp only [Option.map_some, Option.some.injEq]
    have hpd : badP row at_ p (.int (k : Int)) = badK row at_ p k := rfl
    refine ⟨[.d (encRow row), .d (.int at_), .d (encP p), c, .d (.int k)], rfl, ?_, fun _ => rfl⟩
    rw [hpd, hb]
    simp [lcT, mBin, g1, g2, g3, notinA, g4, notR]
def lcE : Sto → R PD := mLc (mItA rng1 (mCons (mAp lenD (mCons (mVar 2) mNil)) mNil)) (.nm 4) [4] lcT (mVar 4)
theorem itA1 {f : List PD → R (List PD)} {m : Sto → R PD} {ρ : Sto} {x : PD} {l : List PD} (hm : m ρ = .ok x) (hf : f [x] = .ok l) : mItA f (mCons m mNil) ρ = .ok l := by
  show (m ρ >>= fun x => (mNil ρ >>= fun xs => .ok (x :: xs))) >>= (fun z => f z) = _
  rw [hm]
  exact hf
theorem ap1 {f : List PD → R PD} {m : Sto → R PD} {ρ : Sto} {x y : PD} (hm : m ρ = .ok x) (hf : f [x] = .ok y) : mAp f (mCons m mNil) ρ = .ok y := by
  show (m ρ >>= fun x => (mNil ρ >>= fun xs => .ok (x :: xs))) >>= (fun z => f z) = _
  rw [hm]
  exact hf
theorem rng_p {p : Pat} (hp : OkP p) : rng1 [.int (p.length : Int)] = .ok (intL (List.range p.length)) := rng1_ok p.length (by have := hp.2.1; omega)
theorem szL_p {row : Row} {at_ : Nat} {p : Pat} (hp : OkP p) : szL (intL ((List.range p.length).filter (badK row at_ p))) = .ok (.list (intL ((List.range p.length).filter (badK row at_ p)))) := szL_ok (by
    have hp2 := hp.2.1
    have := List.length_filter_le (badK row at_ p) (List.range p.length)
    rw [List.length_range] at this
    unfold intL
    rw [List.length_map]
    omega)
theorem lcE_ok {row : Row} {at_ : Nat} {p : Pat} (hp : OkP p) (hr : OkR row) (hl : at_ + p.length ≤ row.length) (c : Sl) :
    lcE [.d (encRow row), .d (.int at_), .d (encP p), c, .un] = .ok (.list (intL ((List.range p.length).filter (badK row at_ p)))) := by
  have h := lc_ok hp hr hl c
  have e5 := szL_p (row := row) (at_ := at_) hp
  have hw : wipeS [.d (encRow row), .d (.int at_), .d (encP p), c, .un] [4] = [.d (encRow row), .d (.int at_), .d (encP p), c, .un] := rfl
  unfold lcE
  rw [run_lc, itA1 (ap1 (show mVar 2 [.d (encRow row), .d (.int at_), .d (encP p), c, .un] = .ok (encP p) from rfl) (encP_len hp)) (rng_p hp), R.bind_ok, hw, h]
  exact e5
theorem lfits_ok {row : Row} {at_ : Nat} {p : Pat} {cut : Bool} (hp : OkP p) (hr : OkR row) : m__law_fits [encRow row, .int (at_ : Int), encP p, .bool cut] = .ok (.bool (lfits row at_ p cut)) := by
  have e0 : lenD [encRow row] = .ok (.int row.length) := by simp [encRow]
  have e1 := encP_len hp
  have hp1 := hp.1
  have hp2 := hp.2.1
  have hsh : m__law_fits [encRow row, .int (at_ : Int), encP p, .bool cut] = endF (mSeq (mIfS (mOr (mBool (mBin gtI (mBin addD (mVar 1) (mAp lenD (mCons (mVar 2) mNil))) (mAp lenD (mCons (mVar 0) mNil)))) (mAnd (mBool (mVar 3)) (mNot (mBool (mBin ixD (mBin ixD (mVar 0) (mBin subI (mBin addD (mVar 1) (mAp lenD (mCons (mVar 2) mNil))) (mC (.int 1)))) (mC (.int 1))))))) (mRet (mC (.bool false))) mNx)
    (mRet (mBin eqD lcE (mLst mNil))) [.d (encRow row), .d (.int at_), .d (encP p), .d (.bool cut), .un]) := rfl
  rw [hsh]
  by_cases hl : row.length < at_ + p.length
  · have hf : lfits row at_ p cut = false := by
      unfold lfits
      cases h : matchB p ((row.drop at_).take p.length) with
      | false => rfl
      | true =>
        have := matchB_len h
        rw [List.length_take, List.length_drop] at this
        omega
    have hc : (row.length : Int) < (at_ : Int) + (p.length : Int) := by omega
    rw [hf]
    simp [mBin, mAp, e0, e1, hc, endF]
  · have hc : ¬ (row.length : Int) < (at_ : Int) + (p.length : Int) := by omega
    obtain ⟨st, hst⟩ : ∃ st, row[at_ + p.length - 1]? = some st := ⟨row[at_ + p.length - 1]'(by omega), List.getElem?_eq_getElem (by omega)⟩
    have e2 := encStp_at hst
    rw [show ((at_ + p.length - 1 : Nat) : Int) = (at_ : Int) + (p.length : Int) - 1 by omega] at e2
    have e3 : ixD (encStp st) (.int 1) = .ok (.bool st.2) := ix_tup (i := 1) rfl
    have hend : endsR ((row.drop at_).take p.length) = st.2 := by
      have : (row.drop at_).take p.length = (row.drop at_).take (p.length - 1) ++ [st] := by
        have h1 : p.length = (p.length - 1) + 1 := by omega
        conv => lhs; rw [h1]
        rw [List.take_succ, List.getElem?_drop, show at_ + (p.length - 1) = at_ + p.length - 1 by omega, hst]
        rfl
      rw [this, endsR_last]
    have hlen : p.length = ((row.drop at_).take p.length).length := by rw [List.length_take, List.length_drop]; omega
    have h7 := lcE_ok (at_ := at_) hp hr (by omega) (.d (.bool cut))
    have e6 : eqD (.list (intL ((List.range p.length).filter (badK row at_ p)))) (.list []) = .ok (.bool (matchB p ((row.drop at_).take p.length))) := by
      have sdn : Sd 64 (.list ([] : List PD)) := sd_intL []
      rw [eq_ok (sd_intL _) sdn, eqv_intL_nil, bad_empty hlen]
    have hval : lfits row at_ p cut = (if (cut && !st.2) = true then false else matchB p ((row.drop at_).take p.length)) := by
      unfold lfits
      rw [hend]
      cases cut <;> cases st.2 <;> simp
    rw [hval]
    have hret : mRet (mBin eqD lcE (mLst mNil)) [.d (encRow row), .d (.int at_), .d (encP p), .d (.bool cut), .un] = .ok (.rt (.bool (matchB p ((row.drop at_).take p.length))) false) := by
      rw [run_ret]
      simp only [mBin, h7, R.bind_ok, run_lst, run_nil, szL0, e6, lift_ok]
    rw [run_seq]
    cases hcut : cut with
    | false =>
      rw [hcut] at hret
      have : mIfS (mOr (mBool (mBin gtI (mBin addD (mVar 1) (mAp lenD (mCons (mVar 2) mNil))) (mAp lenD (mCons (mVar 0) mNil)))) (mAnd (mBool (mVar 3)) (mNot (mBool (mBin ixD (mBin ixD (mVar 0) (mBin subI (mBin addD (mVar 1) (mAp lenD (mCons (mVar 2) mNil))) (mC (.int 1)))) (mC (.int 1))))))) (mRet (mC (.bool false))) mNx [.d (encRow row), .d (.int at_), .d (encP p), .d (.bool false), .un] = .ok (.nx [.d (encRow row), .d (.int at_), .d (encP p), .d (.bool false), .un]) := by
        simp [mBin, mAp, e0, e1, hc]
      rw [this]
      simp only [hret]
      rfl
    | true =>
      rw [hcut] at hret
      have : mIfS (mOr (mBool (mBin gtI (mBin addD (mVar 1) (mAp lenD (mCons (mVar 2) mNil))) (mAp lenD (mCons (mVar 0) mNil)))) (mAnd (mBool (mVar 3)) (mNot (mBool (mBin ixD (mBin ixD (mVar 0) (mBin subI (mBin addD (mVar 1) (mAp lenD (mCons (mVar 2) mNil))) (mC (.int 1)))) (mC (.int 1))))))) (mRet (mC (.bool false))) mNx [.d (encRow row), .d (.int at_), .d (encP p), .d (.bool true), .un] = if st.2 then .ok (.nx [.d (encRow row), .d (.int at_), .d (encP p), .d (.bool true), .un]) else .ok (.rt (.bool false) false) := by
        simp [mBin, mAp, e0, e1, hc, e2, e3]
        cases st.2 <;> simp
      rw [this]
      cases hst2 : st.2 with
      | false => rfl
      | true => simp only [if_true, hret]; rfl
end Lilt.K80

set_option Elab.async false
set_option linter.all false
set_option maxRecDepth 100000
set_option maxHeartbeats 2000000
set_option autoImplicit false
namespace Lilt.K80
open PySem L2 Lilt
/-! ## ways, as a dict -/
abbrev Ways := List (Nat × Nat)
def entW (q : Nat × Nat) : PD × PD := (.int (q.1 : Int), .int (q.2 : Int))
def encW (W : Ways) : PD := .dict (W.map entW)
def findW (W : Ways) (k : Nat) : Option (Nat × Nat) := W.find? fun q => decide (q.1 = k)
def getW (W : Ways) (k : Nat) : Nat := ((findW W k).map (·.2)).getD 0
def setW (W : Ways) (k n : Nat) : Ways := if k ∈ W.map (·.1) then W.map fun q => if q.1 = k then (q.1, n) else q else W ++ [(k, n)]
theorem tagW (W : Ways) : isTag (W.map entW) = false := by cases W <;> rfl
theorem eqv_nat (a b : Nat) : PyData.eqv (.int (a : Int)) (.int (b : Int)) = decide (a = b) := by
  simp only [PyData.eqv]
  rw [Bool.eq_iff_iff]
  simp only [beq_iff_eq, decide_eq_true_eq]
  omega
theorem look_W (W : Ways) (k : Nat) : lookD (W.map entW) (.int (k : Int)) = (findW W k).map fun q => .int (q.2 : Int) := by
  unfold findW lookD
  induction W with
  | nil => rfl
  | cons q W ih =>
    rw [List.map_cons]
    by_cases e : q.1 = k
    · rw [List.find?_cons_of_pos (by simp [entW, eqv_nat, e]), List.find?_cons_of_pos (by simp [e])]
      rfl
    · rw [List.find?_cons_of_neg (by simp [entW, eqv_nat, e]), List.find?_cons_of_neg (by simp [e]), ih]
theorem find_mem {W : Ways} {k : Nat} : (findW W k).isSome = decide (k ∈ W.map (·.1)) := by
  unfold findW
  induction W with
  | nil => rfl
  | cons q W ih =>
    by_cases e : q.1 = k
    · rw [List.find?_cons_of_pos (by simp [e])]
      simp [e]
    · rw [List.find?_cons_of_neg (by simp [e]), ih]
      simp [Ne.symm e]
theorem find_at {W : Ways} {q : Nat × Nat} (nd : (W.map (·.1)).Nodup) (h : q ∈ W) : findW W q.1 = some q := by
  unfold findW
  induction W with
  | nil => exact nomatch h
  | cons r W ih =>
    rw [List.map_cons, List.nodup_cons] at nd
    rcases List.mem_cons.mp h with rfl | h
    · rw [List.find?_cons_of_pos (by simp)]
    · have : r.1 ≠ q.1 := fun e => nd.1 (e ▸ List.mem_map.mpr ⟨_, h, rfl⟩)
      rw [List.find?_cons_of_neg (by simp [this])]
      exact ih nd.2 h
theorem put_W (W : Ways) (k n : Nat) : putD (W.map entW) (.int (k : Int)) (.int (n : Int)) = (setW W k n).map entW := by
  unfold putD setW
  rw [look_W, Option.isSome_map, find_mem]
  by_cases h : k ∈ W.map (·.1)
  · rw [if_pos (by simpa using h), if_pos h, List.map_map, List.map_map]
    refine List.map_congr_left fun q _ => ?_
    show (if PyData.eqv (.int (q.1 : Int)) (.int (k : Int)) = true then _ else _) = entW (if q.1 = k then (q.1, n) else q)
    rw [eqv_nat]
    by_cases e : q.1 = k <;> simp [e, entW]
  · rw [if_neg (by simpa using h), if_neg h, List.map_append]
    rfl
theorem setW_len {W : Ways} {k n : Nat} : (setW W k n).length ≤ W.length + 1 := by
  unfold setW
  split <;> simp
theorem setW_keys {W : Ways} {k n : Nat} : (setW W k n).map (·.1) = if k ∈ W.map (·.1) then W.map (·.1) else W.map (·.1) ++ [k] := by
  unfold setW
  split
  · rw [List.map_map]
    refine List.map_congr_left fun q _ => ?_
    show (if q.1 = k then (q.1, n) else q).1 = q.1
    split <;> rfl
  · simp
/-- the dict of ways is as it should be -/
structure KO (W : Ways) (S : Nat → Prop) : Prop where
  nd : (W.map (·.1)).Nodup
  pos : ∀ q ∈ W, 0 < q.2
  mem : ∀ k, k ∈ W.map (·.1) ↔ S k
theorem setW_ko {W : Ways} {S : Nat → Prop} (h : KO W S) {k n : Nat} (hn : 0 < n) : KO (setW W k n) (fun j => S j ∨ j = k) := by
  refine ⟨?_, ?_, fun j => ?_⟩
  · rw [setW_keys]
    split
    · exact h.nd
    · rename_i hk
      rw [List.nodup_append]
      refine ⟨h.nd, by simp, fun a ha b hb e => ?_⟩
      simp only [List.mem_singleton] at hb
      subst hb e
      exact hk ha
  · intro q hq
    unfold setW at hq
    split at hq
    · obtain ⟨r, hr, rfl⟩ := List.mem_map.mp hq
      split
      · exact hn
      · exact h.pos r hr
    · rcases List.mem_append.mp hq with hq | hq
      · exact h.pos q hq
      · simp only [List.mem_singleton] at hq; subst hq; exact hn
  · rw [setW_keys]
    split
    · rename_i hk
      rw [h.mem]
      exact ⟨.inl, fun z => z.elim id fun e => e ▸ (h.mem k).mp hk⟩
    · rw [List.mem_append, h.mem]; simp
def stepW (row : Row) (cut : Bool) (at_ n : Nat) (L : Ways) (p : Pat) : Ways := if lfits row at_ p cut then setW L (at_ + p.length) (getW L (at_ + p.length) + n) else L
def slotW (row : Row) (sl : Slot) (L : Ways) (q : Nat × Nat) : Ways := sl.pats.foldl (stepW row sl.cut q.1 q.2) L
def passW (row : Row) (W : Ways) (sl : Slot) : Ways := W.foldl (slotW row sl) []
theorem step_ko {row : Row} {cut : Bool} {at_ n : Nat} (hn : 0 < n) : ∀ (ps : List Pat) (L : Ways) (S : Nat → Prop), KO L S → KO (ps.foldl (stepW row cut at_ n) L) (fun j => S j ∨ ∃ p ∈ ps, lfits row at_ p cut = true ∧ j = at_ + p.length)
  | [], L, S, h => ⟨h.nd, h.pos, fun k => by rw [List.foldl_nil, h.mem]; simp⟩
  | p :: ps, L, S, h => by
    rw [List.foldl_cons]
    by_cases hf : lfits row at_ p cut = true
    · have h1 := setW_ko h (k := at_ + p.length) (n := getW L (at_ + p.length) + n) (by omega)
      have h2 := step_ko (row := row) (cut := cut) (at_ := at_) hn ps _ _ h1
      have e : stepW row cut at_ n L p = setW L (at_ + p.length) (getW L (at_ + p.length) + n) := if_pos hf
      rw [e]
      refine ⟨h2.nd, h2.pos, fun k => ?_⟩
      rw [h2.mem]
      constructor
      · rintro ((h | h) | ⟨p', hp', h⟩)
        · exact .inl h
        · exact .inr ⟨p, List.mem_cons_self, hf, h⟩
        · exact .inr ⟨p', List.mem_cons_of_mem _ hp', h⟩
      · rintro (h | ⟨p', hp', h3, h4⟩)
        · exact .inl (.inl h)
        · rcases List.mem_cons.mp hp' with rfl | hp'
          · exact .inl (.inr h4)
          · exact .inr ⟨p', hp', h3, h4⟩
    · have h2 := step_ko (row := row) (cut := cut) (at_ := at_) hn ps _ _ h
      have e : stepW row cut at_ n L p = L := if_neg hf
      rw [e]
      refine ⟨h2.nd, h2.pos, fun k => ?_⟩
      rw [h2.mem]
      constructor
      · rintro (h | ⟨p', hp', h⟩)
        · exact .inl h
        · exact .inr ⟨p', List.mem_cons_of_mem _ hp', h⟩
      · rintro (h | ⟨p', hp', h3, h4⟩)
        · exact .inl h
        · rcases List.mem_cons.mp hp' with rfl | hp'
          · exact absurd h3 hf
          · exact .inr ⟨p', hp', h3, h4⟩
theorem slots_ko {row : Row} {sl : Slot} : ∀ (W L : Ways) (S : Nat → Prop), (∀ q ∈ W, 0 < q.2) → KO L S → KO (W.foldl (slotW row sl) L) (fun j => S j ∨ ∃ a ∈ W.map (·.1), ∃ p ∈ sl.pats, lfits row a p sl.cut = true ∧ j = a + p.length)
  | [], L, S, _, h => ⟨h.nd, h.pos, fun k => by rw [List.foldl_nil, h.mem]; simp⟩
  | q :: W, L, S, hp, h => by
    rw [List.foldl_cons]
    have h1 := step_ko (row := row) (cut := sl.cut) (at_ := q.1) (hp q List.mem_cons_self) sl.pats L S h
    have h2 := slots_ko (sl := sl) (row := row) W _ _ (fun x hx => hp x (List.mem_cons_of_mem _ hx)) h1
    refine ⟨h2.nd, h2.pos, fun k => ?_⟩
    show k ∈ (W.foldl (slotW row sl) (sl.pats.foldl (stepW row sl.cut q.1 q.2) L)).map (·.1) ↔ _
    rw [h2.mem]
    constructor
    · rintro ((h | h) | ⟨a, ha, h⟩)
      · exact .inl h
      · exact .inr ⟨q.1, by simp, h⟩
      · exact .inr ⟨a, by rw [List.map_cons]; exact List.mem_cons_of_mem _ ha, h⟩
    · rintro (h | ⟨a, ha, h⟩)
      · exact .inl (.inl h)
      · rw [List.map_cons] at ha
        rcases List.mem_cons.mp ha with rfl | ha
        · exact .inl (.inr h)
        · exact .inr ⟨a, ha, h⟩
theorem pass_ko {row : Row} {sl : Slot} {W : Ways} {S : Nat → Prop} (h : KO W S) : KO (passW row W sl) (fun j => ∃ a, S a ∧ ∃ p ∈ sl.pats, lfits row a p sl.cut = true ∧ j = a + p.length) := by
  have h0 : KO [] (fun _ => False) := ⟨by simp, by simp, by simp⟩
  have h1 := slots_ko (row := row) (sl := sl) W [] _ h.pos h0
  refine ⟨h1.nd, h1.pos, fun k => ?_⟩
  show k ∈ (W.foldl (slotW row sl) []).map (·.1) ↔ _
  rw [h1.mem]
  constructor
  · rintro (h | ⟨a, ha, h2⟩)
    · exact h.elim
    · exact ⟨a, (h.mem a).mp ha, h2⟩
  · rintro ⟨a, ha, h2⟩
    exact .inr ⟨a, (h.mem a).mpr ha, h2⟩
theorem lfits_le {row : Row} {a : Nat} {p : Pat} {cut : Bool} (h : lfits row a p cut = true) (ha : a ≤ row.length) : a + p.length ≤ row.length := by
  unfold lfits at h
  rw [Bool.and_eq_true] at h
  have := matchB_len h.1
  rw [List.length_take, List.length_drop] at this
  omega
theorem ko_len {row : Row} {W : Ways} {S : Nat → Prop} (h : KO W S) (hb : ∀ k, S k → k ≤ row.length) : W.length ≤ row.length + 1 := by
  have := nodup_le (row.length + 1) (W.map (·.1)) h.nd fun x hx => by
    have := hb x ((h.mem x).mp hx)
    omega
  simpa using this
theorem seg_step {sl : Slot} {m : Metre} {row : Row} {a : Nat} : Seg (sl :: m) (row.drop a) ↔ ∃ p ∈ sl.pats, lfits row a p sl.cut = true ∧ Seg m (row.drop (a + p.length)) := by
  simp only [Seg]
  constructor
  · rintro ⟨p, hp, r1, r2, e, g1, g2, g3⟩
    have hl := matchB_len g1
    have e1 : (row.drop a).take p.length = r1 := by rw [e, hl]; simp
    have e2 : row.drop (a + p.length) = r2 := by rw [← List.drop_drop, e, hl]; simp
    refine ⟨p, hp, ?_, by rw [e2]; exact g3⟩
    unfold lfits
    rw [e1, g1]
    cases hc : sl.cut with
    | false => rfl
    | true => rw [g2 hc]; rfl
  · rintro ⟨p, hp, h, g3⟩
    unfold lfits at h
    rw [Bool.and_eq_true] at h
    refine ⟨p, hp, (row.drop a).take p.length, row.drop (a + p.length), ?_, h.1, fun c => ?_, g3⟩
    · rw [← List.drop_drop, List.take_append_drop]
    · have := h.2
      rw [c] at this
      simpa using this
theorem passes_ko {row : Row} : ∀ (m : Metre) (W : Ways) (S : Nat → Prop), KO W S → (∀ k, S k → k ≤ row.length) →
    ∃ S', KO (m.foldl (passW row) W) S' ∧ (∀ k, S' k → k ≤ row.length) ∧ (S' row.length ↔ ∃ a, S a ∧ Seg m (row.drop a))
  | [], W, S, h, hb => ⟨S, h, hb, ⟨fun h => ⟨_, h, by simp [Seg]⟩, fun ⟨a, ha, h⟩ => by
      have h1 : row.drop a = [] := h
      have h2 := hb a ha
      have h3 : row.length ≤ a := List.drop_eq_nil_iff.mp h1
      have : a = row.length := by omega
      rw [← this]; exact ha⟩⟩
  | sl :: m, W, S, h, hb => by
    obtain ⟨S', h1, h2, h3⟩ := passes_ko m _ _ (pass_ko (row := row) (sl := sl) h) (by
      rintro k ⟨a, ha, p, _, hf, rfl⟩
      exact lfits_le hf (hb a ha))
    refine ⟨S', h1, h2, h3.trans ?_⟩
    constructor
    · rintro ⟨k, ⟨a, ha, p, hp, hf, rfl⟩, hs⟩
      exact ⟨a, ha, seg_step.mpr ⟨p, hp, hf, hs⟩⟩
    · rintro ⟨a, ha, hs⟩
      obtain ⟨p, hp, hf, hs⟩ := seg_step.mp hs
      exact ⟨a + p.length, ⟨a, ha, p, hp, hf, rfl⟩, hs⟩
end Lilt.K80
namespace Lilt.K80
open PySem L2 Lilt
/-! ## the def, run -/
def bodyF : Sto → R Out := (mIfS (mBool (mAp m__law_fits (mCons (mVar 1) (mCons (mVar 6) (mCons (mVar 7) (mCons (mVar 4) mNil)))))) (mDputK 5 (mBin addD (mVar 6) (mAp lenD (mCons (mVar 7) mNil))) (mBin addD (mBor 5 (mGetdK (mVar 5) (mBin addD (mVar 6) (mAp lenD (mCons (mVar 7) mNil))) (mC (.int 0)))) (mBin dgetK (mVar 2) (mVar 6)))) mNx)
def stF (m : Metre) (row : Row) (W L : Ways) (ps : List Pat) (cut : Bool) (a b : Sl) : Sto := [.d (encM m), .d (encRow row), .d (encW W), .d (.tuple (ps.map encP)), .d (.bool cut), .ov (encW L), a, b]
theorem bodyF_ok {m : Metre} {row : Row} {W L : Ways} {ps : List Pat} {cut : Bool} {q : Nat × Nat} {p : Pat} (hr : OkR row) (hp : OkP p) (nd : (W.map (·.1)).Nodup) (hq : q ∈ W) (hl : L.length ≤ 1000000) :
    bodyF (stF m row W L ps cut (.d (.int q.1)) (.d (encP p))) = .ok (.nx (stF m row W (stepW row cut q.1 q.2 L p) ps cut (.d (.int q.1)) (.d (encP p)))) := by
  have e1 := lfits_ok (at_ := q.1) (cut := cut) hp hr
  have e2 := encP_len hp
  have e3 : dgetK (encW W) (.int (q.1 : Int)) = .ok (.int (q.2 : Int)) := by
    simp only [dgetK, encW, tagW, Bool.false_eq_true, if_false, keyOf, look_W, find_at nd hq, Option.map_some]
  have e4 : ∀ k : Nat, getdK (encW L) (.int (k : Int)) (.int 0) = .ok (.int (getW L k : Int)) := by
    intro k
    simp only [getdK, encW, keyOf, look_W, getW]
    cases findW L k <;> rfl
  have e5 : isDK (encW L) = true := by simp [isDK, encW, tagW]
  have e6 := e4 (q.1 + p.length)
  rw [show ((q.1 + p.length : Nat) : Int) = (q.1 : Int) + (p.length : Int) by omega] at e6
  have e7 : (L.map entW).length < sizeLine := by have := sl_big; rw [List.length_map]; omega
  have e8 := put_W L (q.1 + p.length) (getW L (q.1 + p.length) + q.2)
  rw [show ((q.1 + p.length : Nat) : Int) = (q.1 : Int) + (p.length : Int) by omega, show ((getW L (q.1 + p.length) + q.2 : Nat) : Int) = (getW L (q.1 + p.length) : Int) + (q.2 : Int) by omega] at e8
  have e9 : encW L = .dict (L.map entW) := rfl
  cases hf : lfits row q.1 p cut with
  | false =>
    rw [hf] at e1
    have : stepW row cut q.1 q.2 L p = L := if_neg (by rw [hf]; exact Bool.false_ne_true)
    rw [this]
    simp [bodyF, stF, mAp, e1]
  | true =>
    rw [hf] at e1
    have : stepW row cut q.1 q.2 L p = setW L (q.1 + p.length) (getW L (q.1 + p.length) + q.2) := if_pos hf
    rw [this]
    have hif : bodyF (stF m row W L ps cut (.d (.int q.1)) (.d (encP p))) = mDputK 5 (mBin addD (mVar 6) (mAp lenD (mCons (mVar 7) mNil))) (mBin addD (mBor 5 (mGetdK (mVar 5) (mBin addD (mVar 6) (mAp lenD (mCons (mVar 7) mNil))) (mC (.int 0)))) (mBin dgetK (mVar 2) (mVar 6))) (stF m row W L ps cut (.d (.int q.1)) (.d (encP p))) := by
      simp [bodyF, stF, mAp, e1]
    rw [hif]
    simp [stF, mBin, mAp, mBor, frz, e2, e3, e5, e6, onlyScal, scalD]
    simp [e9, keyOf, tagW, e8]
    rw [if_pos (by simpa using e7)]
    rfl
theorem innerF {m : Metre} {row : Row} {W : Ways} {ps0 : List Pat} {cut : Bool} {q : Nat × Nat} (hr : OkR row) (nd : (W.map (·.1)).Nodup) (hq : q ∈ W) : ∀ (ps : List Pat) (L : Ways) (b : Sl), (∀ p ∈ ps, OkP p) → L.length + ps.length ≤ 1000000 →
    ∃ b', forD (.nm 7) bodyF (ps.map encP) (stF m row W L ps0 cut (.d (.int q.1)) b) = .ok (.nx (stF m row W (ps.foldl (stepW row cut q.1 q.2) L) ps0 cut (.d (.int q.1)) b'))
  | [], L, b, _, _ => ⟨b, rfl⟩
  | p :: ps, L, b, hp, hl => by
    rw [List.length_cons] at hl
    have h1 := bodyF_ok (m := m) (ps := ps0) (cut := cut) (L := L) hr (hp p List.mem_cons_self) nd hq (by omega)
    have h2 : (stepW row cut q.1 q.2 L p).length ≤ L.length + 1 := by
      unfold stepW
      split
      · exact setW_len
      · omega
    obtain ⟨b', ih⟩ := innerF (m := m) (ps0 := ps0) (cut := cut) hr nd hq ps (stepW row cut q.1 q.2 L p) (.d (encP p)) (fun x hx => hp x (List.mem_cons_of_mem _ hx)) (by omega)
    refine ⟨b', ?_⟩
    rw [List.map_cons, List.foldl_cons, ← ih, forD]
    have hs : setT (.nm 7) (encP p) (stF m row W L ps0 cut (.d (.int q.1)) b) = .ok (stF m row W L ps0 cut (.d (.int q.1)) (.d (encP p))) := rfl
    simp only [hs, h1]
def loopF : Sto → R Out := mFor (mIt itemsD (mVar 3)) (.nm 7) bodyF
theorem foldW_len {row : Row} {cut : Bool} {a n : Nat} : ∀ (ps : List Pat) (L : Ways), (ps.foldl (stepW row cut a n) L).length ≤ L.length + ps.length
  | [], L => by simp
  | p :: ps, L => by
    have h1 := foldW_len (row := row) (cut := cut) (a := a) (n := n) ps (stepW row cut a n L p)
    have h2 : (stepW row cut a n L p).length ≤ L.length + 1 := by
      unfold stepW
      split
      · exact setW_len
      · omega
    rw [List.foldl_cons, List.length_cons]
    omega
theorem outerF {m : Metre} {row : Row} {W : Ways} {sl : Slot} (hr : OkR row) (hs : OkSl sl) (nd : (W.map (·.1)).Nodup) : ∀ (V L : Ways) (a b : Sl), (∀ q ∈ V, q ∈ W) → L.length + 4 * V.length ≤ 1000000 →
    ∃ a' b', forDK (.nm 6) loopF (V.map fun q => .int (q.1 : Int)) (stF m row W L sl.pats sl.cut a b) = .ok (.nx (stF m row W (V.foldl (slotW row sl) L) sl.pats sl.cut a' b'))
  | [], L, a, b, _, _ => ⟨a, b, rfl⟩
  | q :: V, L, a, b, hv, hl => by
    rw [List.length_cons] at hl
    have hle := hs.le
    obtain ⟨b1, h1⟩ := innerF (m := m) (ps0 := sl.pats) (cut := sl.cut) hr nd (hv q List.mem_cons_self) sl.pats L b hs.ok (by omega)
    have h2 := foldW_len (row := row) (cut := sl.cut) (a := q.1) (n := q.2) sl.pats L
    obtain ⟨a', b', ih⟩ := outerF (m := m) hr hs nd V (sl.pats.foldl (stepW row sl.cut q.1 q.2) L) (.d (.int q.1)) b1 (fun x hx => hv x (List.mem_cons_of_mem _ hx)) (by omega)
    refine ⟨a', b', ?_⟩
    rw [List.map_cons, List.foldl_cons]
    show _ = R.ok (Out.nx (stF m row W (V.foldl (slotW row sl) (sl.pats.foldl (stepW row sl.cut q.1 q.2) L)) sl.pats sl.cut a' b'))
    rw [← ih, forDK]
    have hset : setT (.nm 6) (.int (q.1 : Int)) (stF m row W L sl.pats sl.cut a b) = .ok (stF m row W L sl.pats sl.cut (.d (.int q.1)) b) := rfl
    have hloop : loopF (stF m row W L sl.pats sl.cut (.d (.int q.1)) b) = forD (.nm 7) bodyF (sl.pats.map encP) (stF m row W L sl.pats sl.cut (.d (.int q.1)) b) := rfl
    simp only [hset, hloop, h1]
def passF : Sto → R Out := (mSeq (mSetF 5 (mC (.dict []))) (mSeq (mForDK 2 (.nm 6) loopF) (mFrz 5 (mSet 2 (mVar 5)))))
theorem keysD_W (W : Ways) : keysD (encW W) = some (W.map fun q => .int (q.1 : Int)) := by
  cases W with
  | nil => rfl
  | cons q W =>
    show some (((q :: W).map entW).map (·.1)) = _
    rw [List.map_map]
    rfl
theorem passF_ok {m : Metre} {row : Row} {W : Ways} {sl : Slot} (hr : OkR row) (hs : OkSl sl) (nd : (W.map (·.1)).Nodup) (hl : 4 * W.length ≤ 1000000) (x5 a b : Sl) :
    ∃ x5' a' b', passF [.d (encM m), .d (encRow row), .d (encW W), .d (.tuple (sl.pats.map encP)), .d (.bool sl.cut), x5, a, b] = .ok (.nx [.d (encM m), .d (encRow row), .d (encW (passW row W sl)), .d (.tuple (sl.pats.map encP)), .d (.bool sl.cut), x5', a', b']) := by
  obtain ⟨a', b', h⟩ := outerF (m := m) hr hs nd W [] a b (fun q hq => hq) (by simpa using hl)
  refine ⟨.d (encW (passW row W sl)), a', b', ?_⟩
  have e1 : passF [.d (encM m), .d (encRow row), .d (encW W), .d (.tuple (sl.pats.map encP)), .d (.bool sl.cut), x5, a, b] = mSeq (mForDK 2 (.nm 6) loopF) (mFrz 5 (mSet 2 (mVar 5))) (stF m row W [] sl.pats sl.cut a b) := rfl
  have e2 : mForDK 2 (.nm 6) loopF (stF m row W [] sl.pats sl.cut a b) = forDK (.nm 6) loopF (W.map fun q => .int (q.1 : Int)) (stF m row W [] sl.pats sl.cut a b) := by
    rw [run_forDK]
    show (match keysD (encW W) with
      | some ks => forDK (.nm 6) loopF ks (stF m row W [] sl.pats sl.cut a b)
      | none => .stuck) = _
    rw [keysD_W]
  rw [e1, run_seq, e2, h]
  rfl
theorem feet_loop {m0 : Metre} {row : Row} (hr : OkR row) (hlr : row.length ≤ 1000) : ∀ (m : Metre) (W : Ways) (S : Nat → Prop), (∀ s ∈ m, OkSl s) → KO W S → (∀ k, S k → k ≤ row.length) → ∀ (p c x5 a b : Sl),
    ∃ p' c' x5' a' b', forD (.tp [.nm 3, .nm 4]) passF (m.map encSl) [.d (encM m0), .d (encRow row), .d (encW W), p, c, x5, a, b] = .ok (.nx [.d (encM m0), .d (encRow row), .d (encW (m.foldl (passW row) W)), p', c', x5', a', b'])
  | [], W, S, _, _, _, p, c, x5, a, b => ⟨p, c, x5, a, b, rfl⟩
  | sl :: m, W, S, hs, hk, hb, p, c, x5, a, b => by
    have hlen := ko_len (row := row) hk hb
    obtain ⟨x5', a', b', h⟩ := passF_ok (m := m0) hr (hs sl List.mem_cons_self) hk.nd (by omega) x5 a b
    obtain ⟨p2, c2, x2, a2, b2, ih⟩ := feet_loop (m0 := m0) hr hlr m (passW row W sl) _ (fun x hx => hs x (List.mem_cons_of_mem _ hx)) (pass_ko (row := row) (sl := sl) hk) (by
      rintro k ⟨a, ha, p, _, hf, rfl⟩
      exact lfits_le hf (hb a ha)) (.d (.tuple (sl.pats.map encP))) (.d (.bool sl.cut)) x5' a' b'
    refine ⟨p2, c2, x2, a2, b2, ?_⟩
    rw [List.map_cons, List.foldl_cons, ← ih, forD]
    have hset : setT (.tp [.nm 3, .nm 4]) (encSl sl) [.d (encM m0), .d (encRow row), .d (encW W), p, c, x5, a, b] = .ok [.d (encM m0), .d (encRow row), .d (encW W), .d (.tuple (sl.pats.map encP)), .d (.bool sl.cut), x5, a, b] := by
      simp [encSl]
    simp only [hset, h]
theorem feet_ok {m : Metre} {row : Row} (hm : OkM m) (hr : OkR row) (hlr : row.length ≤ 1000) : ∃ k : Nat, m__law_many_feet [encM m, encRow row] = .ok (.int (k : Int)) ∧ (0 < k ↔ Seg m row) := by
  have h0 : KO [(0, 1)] (fun k => k = 0) := ⟨by simp, by simp, by simp⟩
  obtain ⟨S', k1, k2, k3⟩ := passes_ko (row := row) m [(0, 1)] _ h0 (by rintro k rfl; omega)
  obtain ⟨p, c, x, a, b, h⟩ := feet_loop (m0 := m) hr hlr m [(0, 1)] _ hm.ok h0 (by rintro k rfl; omega) .un .un .un .un .un
  refine ⟨getW (m.foldl (passW row) [(0, 1)]) row.length, ?_, ?_⟩
  · have e1 : m__law_many_feet [encM m, encRow row] = endF (mSeq (mFor (mIt itemsD (mVar 0)) (.tp [.nm 3, .nm 4]) passF) (mRet (mGetdK (mVar 2) (mAp lenD (mCons (mVar 1) mNil)) (mC (.int 0)))) [.d (encM m), .d (encRow row), .d (encW [(0, 1)]), .un, .un, .un, .un, .un]) := rfl
    have e2 : mFor (mIt itemsD (mVar 0)) (.tp [.nm 3, .nm 4]) passF [.d (encM m), .d (encRow row), .d (encW [(0, 1)]), .un, .un, .un, .un, .un] = forD (.tp [.nm 3, .nm 4]) passF (m.map encSl) [.d (encM m), .d (encRow row), .d (encW [(0, 1)]), .un, .un, .un, .un, .un] := rfl
    rw [e1, run_seq, e2, h]
    have e3 : lenD [encRow row] = .ok (.int row.length) := by simp [encRow]
    have e4 : isDK (encW (m.foldl (passW row) [(0, 1)])) = true := by simp [isDK, encW, tagW]
    have e5 : getdK (encW (m.foldl (passW row) [(0, 1)])) (.int (row.length : Int)) (.int 0) = .ok (.int (getW (m.foldl (passW row) [(0, 1)]) row.length : Int)) := by
      simp only [getdK, encW, keyOf, look_W, getW]
      cases findW (m.foldl (passW row) [(0, 1)]) row.length <;> rfl
    simp [mAp, e3, e4, e5, endF]
  · have hz : 0 < getW (m.foldl (passW row) [(0, 1)]) row.length ↔ S' row.length := by
      rw [← k1.mem]
      have hf := find_mem (W := m.foldl (passW row) [(0, 1)]) (k := row.length)
      unfold getW
      cases hfw : findW (m.foldl (passW row) [(0, 1)]) row.length with
      | none =>
        rw [hfw] at hf
        simp only [Option.isSome_none] at hf
        have := of_decide_eq_false hf.symm
        simp [this]
      | some q =>
        rw [hfw] at hf
        simp only [Option.isSome_some] at hf
        have h1 := of_decide_eq_true hf.symm
        have h2 : q ∈ m.foldl (passW row) [(0, 1)] := List.mem_of_find?_eq_some hfw
        have := k1.pos q h2
        simp only [Option.map_some, Option.getD_some]
        exact ⟨fun _ => h1, fun _ => this⟩
    rw [hz, k3]
    constructor
    · rintro ⟨a, rfl, h⟩; simpa using h
    · intro h; exact ⟨0, rfl, by simpa using h⟩
end Lilt.K80

set_option Elab.async false
set_option linter.all false
set_option maxRecDepth 100000
set_option maxHeartbeats 2000000
set_option autoImplicit false
namespace Lilt.K80
open PySem L2 Lilt
theorem mod_ok {i j : Int} (h : j ≠ 0) : modI (.int i) (.int j) = .ok (.int (i.fmod j)) := by simp [modI, int2, h]
theorem mul_ok {i j : Int} (h : CMul i j) : mulI (.int i) (.int j) = .ok (.int (i * j)) := by simp [mulI, int2, h]
theorem div_ok {i j : Int} (h : CDivN i j) : divI (.int i) (.int j) = .ok (.int (i.fdiv j)) := by simp [divI, int2, h]
def ScrD (ns : List Int) : PD := .list (ns.map PyData.int)
theorem cell_ok (ns : List Int) (k : Nat) : ∃ c : Int, m__law_cell_at [ScrD ns, .int (k : Int)] = .ok (.int c) := by
  have e0 : lenD [ScrD ns] = .ok (.int ns.length) := by simp [ScrD]
  by_cases h : k < ns.length
  · have e1 : ixD (ScrD ns) (.int (k : Int)) = .ok (.int ns[k]) := ix_lst (by simp [h])
    exact ⟨ns[k], by simp [m__law_cell_at, runF, b__law_cell_at, args0, mBin, mAp, e0, e1, h, endF]⟩
  · exact ⟨0, by simp [m__law_cell_at, runF, b__law_cell_at, args0, mBin, mAp, e0, h, endF]⟩
theorem mix_run {x y a b c d e f g h : PD} (h1 : modI x (.int 1000003) = .ok a) (h2 : mulI (.int 15838) y = .ok b) (h3 : mulI b y = .ok c) (h4 : addD (.int 48271) c = .ok d) (h5 : mulI a d = .ok e) (h6 : mulI (.int 69621) y = .ok f)
    (h7 : addD e f = .ok g) (h8 : modI g (.int 2147483647) = .ok h) : m__law_mix [x, y] = .ok h := by
  simp [m__law_mix, runF, b__law_mix, args0, mBin, h1, h2, h3, h4, h5, h6, h7, h8, endF]
theorem pow64 : (2 : Int) ^ 64 = 18446744073709551616 := by decide
theorem cmul_l {i j : Int} (h1 : -1000000000 < i) (h2 : i < 1000000000) : CMul i j := .inl (by rw [pow64]; omega)
theorem cmul_r {i j : Int} (h1 : -1000000000 < j) (h2 : j < 1000000000) : CMul i j := .inr (by rw [pow64]; omega)
theorem mix_ok (c : Int) (k : Nat) (hk : k ≤ 100) : ∃ v : Int, m__law_mix [.int c, .int (k : Int)] = .ok (.int v) := by
  have h0 := Int.fmod_nonneg_of_pos c (b := 1000003) (by decide)
  have h1 := Int.fmod_lt_of_pos c (b := 1000003) (by decide)
  exact ⟨_, mix_run (mod_ok (by decide)) (mul_ok (cmul_l (by decide) (by decide))) (mul_ok (cmul_r (by omega) (by omega))) (add_ok _ _) (mul_ok (cmul_l (by omega) (by omega))) (mul_ok (cmul_l (by decide) (by decide))) (add_ok _ _) (mod_ok (by decide))⟩
def dk : Nat → Int
  | 0 => 4
  | 1 => 12
  | 2 => 36
  | _ => 108
def mkOf : Nat → Nat
  | 0 => 117
  | 1 => 45
  | _ => 120
def ch (n : Int) (k : Nat) : Nat := mkOf ((n.fdiv (dk k)).fmod 3).toNat
def cnt (n : Int) : Nat := 1 + ((n.fmod 4).fmod 3).toNat
def patF (n : Int) : Pat := (List.range (cnt n)).map (ch n)
theorem cnt_le (n : Int) : 1 ≤ cnt n ∧ cnt n ≤ 3 := by
  have h0 := Int.fmod_nonneg_of_pos (n.fmod 4) (b := 3) (by decide)
  have h1 := Int.fmod_lt_of_pos (n.fmod 4) (b := 3) (by decide)
  unfold cnt
  omega
theorem ch_mk (n : Int) (k : Nat) : isMk (ch n k) = true := by
  unfold ch mkOf
  split <;> rfl
theorem patF_ok (n : Int) : OkP (patF n) := by
  have := cnt_le n
  refine ⟨by simp [patF]; omega, by simp [patF]; omega, fun c hc => ?_⟩
  obtain ⟨k, _, rfl⟩ := List.mem_map.mp hc
  exact ch_mk n k
theorem join_one : ∀ l : Pat, l.length ≤ 3 → joinD (.str "") (.list (l.map one)) = .ok (encP l)
  | [], _ => by simp [joinD, strsD, encP]; rfl
  | [a], _ => by simp [joinD, strsD, encP, one]; rfl
  | [a, b], _ => by simp [joinD, strsD, encP, one]; rfl
  | [a, b, c], _ => by simp [joinD, strsD, encP, one]; rfl
  | _ :: _ :: _ :: _ :: _, h => by simp at h
@[simp] theorem szL4 {a b c d : PD} : szL [a, b, c, d] = .ok (.list [a, b, c, d]) := szL_ok (by simp)
@[simp] theorem szL3 {a b c : PD} : szL [a, b, c] = .ok (.list [a, b, c]) := szL_ok (by simp)
def eltP : Sto → R PD := (mBin ixD (mC (.str "u-x")) (mBin modI (mBin divI (mVar 0) (mBin ixD (mLst (mCons (mC (.int 4)) (mCons (mC (.int 12)) (mCons (mC (.int 36)) (mCons (mC (.int 108)) mNil))))) (mVar 1))) (mC (.int 3))))
theorem eltP_run {x y a b c d : PD} (h1 : ixD (.list [.int 4, .int 12, .int 36, .int 108]) y = .ok a) (h2 : divI x a = .ok b) (h3 : modI b (.int 3) = .ok c) (h4 : ixD (.str "u-x") c = .ok d) : eltP [.d x, .d y] = .ok d := by
  simp [eltP, mBin, h1, h2, h3, h4]
theorem eltP_ok (n : Int) {k : Nat} (hk : k < 3) : eltP [.d (.int n), .d (.int (k : Int))] = .ok (one (ch n k)) := by
  have h0 := Int.fmod_nonneg_of_pos (n.fdiv (dk k)) (b := 3) (by decide)
  have h1 := Int.fmod_lt_of_pos (n.fdiv (dk k)) (b := 3) (by decide)
  have e1 : ixD (.list [.int 4, .int 12, .int 36, .int 108]) (.int (k : Int)) = .ok (.int (dk k)) := ix_lst (by
    match k, hk with
    | 0, _ => rfl
    | 1, _ => rfl
    | 2, _ => rfl)
  have e2 : CDivN n (dk k) := by
    match k, hk with
    | 0, _ => exact ⟨by decide, by decide⟩
    | 1, _ => exact ⟨by decide, by decide⟩
    | 2, _ => exact ⟨by decide, by decide⟩
  refine eltP_run e1 (div_ok e2) (mod_ok (by decide)) ?_
  obtain ⟨v, hv⟩ : ∃ v : Nat, (n.fdiv (dk k)).fmod 3 = (v : Int) := ⟨((n.fdiv (dk k)).fmod 3).toNat, by omega⟩
  have hc : ch n k = mkOf v := by unfold ch; rw [hv, Int.toNat_natCast]
  rw [hc, hv]
  rw [hv] at h1
  match v, h1 with
  | 0, _ => exact ix_str (i := 0) (c := 117) rfl (by decide)
  | 1, _ => exact ix_str (i := 1) (c := 45) rfl (by decide)
  | 2, _ => exact ix_str (i := 2) (c := 120) rfl (by decide)
  | v + 3, h => exact absurd h (by omega)
def itP : Sto → R (List PD) := (mItA rng1 (mCons (mBin addD (mC (.int 1)) (mBin modI (mBin modI (mVar 0) (mC (.int 4))) (mC (.int 3)))) mNil))
theorem cntP_run {x a b c : PD} {ρ : Sto} (h0 : mVar 0 ρ = .ok x) (h1 : modI x (.int 4) = .ok a) (h2 : modI a (.int 3) = .ok b) (h3 : addD (.int 1) b = .ok c) : (mBin addD (mC (.int 1)) (mBin modI (mBin modI (mVar 0) (mC (.int 4))) (mC (.int 3)))) ρ = .ok c := by
  show (mC (.int 1) ρ >>= fun x => ((mVar 0 ρ >>= fun x => (mC (.int 4) ρ >>= fun y => modI x y)) >>= fun x => (mC (.int 3) ρ >>= fun y => modI x y)) >>= fun y => addD x y) = _
  rw [h0]
  simp only [run_c, R.bind_ok, h1, h2, h3]
theorem itP_ok (n : Int) : itP [.d (.int n), .un] = .ok ((List.range (cnt n)).map fun (k : Nat) => .int (k : Int)) := by
  have h0 := Int.fmod_nonneg_of_pos (n.fmod 4) (b := 3) (by decide)
  have hc : (1 : Int) + (n.fmod 4).fmod 3 = (cnt n : Int) := by unfold cnt; omega
  have hl := cnt_le n
  refine itA1 (x := .int (cnt n : Int)) ?_ (rng1_ok (cnt n) (by omega))
  rw [← hc]
  exact cntP_run rfl (mod_ok (by decide)) (mod_ok (by decide)) (add_ok _ _)
def oneOf (n : Int) : PD → PD
  | .int k => one (ch n k.toNat)
  | _ => .none
theorem pattern_ok (n : Int) : m__law_pattern [.int n] = .ok (encP (patF n)) := by
  have hl := cnt_le n
  have hcomp : compD (.nm 1) mYes eltP [.d (.int n), .un] ((List.range (cnt n)).map fun (k : Nat) => .int (k : Int)) = some ((patF n).map one) := by
    rw [comp_ok (fun _ => true) (oneOf n) (fun d hd => ?_)]
    · rw [show ∀ l : List PD, l.filter (fun _ => true) = l from fun l => List.filter_eq_self.mpr (fun _ _ => rfl), List.map_map]
      unfold patF
      rw [List.map_map]
      rfl
    · obtain ⟨k, hk, rfl⟩ := List.mem_map.mp hd
      rw [List.mem_range] at hk
      exact ⟨[.d (.int n), .d (.int k)], rfl, rfl, fun _ => eltP_ok n (by omega)⟩
  have hp := patF_ok n
  have e1 : szL ((patF n).map one) = .ok (.list ((patF n).map one)) := szL_ok (by rw [List.length_map]; have := hp.2.1; omega)
  have e2 := join_one (patF n) hp.2.1
  have e3 : m__law_pattern [.int n] = endF (mRet (mJoin (mC (.str "")) (mLc itP (.nm 1) [1] mYes eltP)) [.d (.int n), .un]) := rfl
  have e4 : mLc itP (.nm 1) [1] mYes eltP [.d (.int n), .un] = .ok (.list ((patF n).map one)) := by
    rw [run_lc, itP_ok, R.bind_ok]
    have hw : wipeS [.d (.int n), .un] [1] = [.d (.int n), .un] := rfl
    rw [hw, hcomp]
    exact e1
  rw [e3, run_ret, run_join, run_c, R.bind_ok]
  simp only [e4, R.bind_ok, e2]
  rfl
end Lilt.K80

set_option Elab.async false
set_option linter.all false
set_option maxRecDepth 100000
set_option maxHeartbeats 2000000
set_option autoImplicit false
namespace Lilt.K80
open PySem L2 Lilt
theorem sd_encP {p : Pat} (hp : OkP p) : Sd 64 (encP p) := Sd.str (by
  simp only [PyData.strOk]
  rw [Array.all_eq_true_iff_forall_mem]
  intro c hc
  have := hp.2.2 c (by simpa using hc)
  simpa using isMk_lt this)
theorem sd_pats {ps : List Pat} (h : ∀ p ∈ ps, OkP p) : Sd 64 (.list (ps.map encP)) ∧ Sd 64 (.tuple (ps.map encP)) := by
  have h0 : ∀ d ∈ ps.map encP, Sd 0 d := fun d hd => by
    obtain ⟨p, hp, rfl⟩ := List.mem_map.mp hd
    have := sd_encP (h p hp)
    exact ⟨this.1, by simp [encP, PyData.depth]⟩
  exact ⟨(Sd.lst h0).mono (by decide), (Sd.tup h0).mono (by decide)⟩
def PsOk (ps : List Pat) : Prop := ∀ p ∈ ps, OkP p
/-! ## a slot -/
def bodyS : Sto → R Out := (mSeq (mSet 3 (mAp m__law_pattern (mCons (mAp m__law_mix (mCons (mBin divI (mVar 0) (mC (.int 3))) (mCons (mVar 2) mNil))) mNil))) (mIfS (mBorT 1 (mBool (mBin notinA (mVar 3) (mVar 1)))) (mApp 1 (mVar 3)) mNx))
theorem bodyS_run {x y a b c : PD} {ds : List PD} {z : Sl} {t : Bool} (h1 : divI x (.int 3) = .ok a) (h2 : m__law_mix [a, y] = .ok b) (h3 : m__law_pattern [b] = .ok c) (h4 : notinA c (.list ds) = .ok (.bool t)) (h5 : ds.length < sizeLine) :
    bodyS [.d x, .ov (.list ds), .d y, z] = .ok (.nx [.d x, .ov (.list (if t then ds ++ [c] else ds)), .d y, .d c]) := by
  cases t <;> simp [bodyS, mBin, mAp, mBorT, frz, h1, h2, h3, h4, h5]
theorem notin_ok {p : Pat} {ps : List Pat} (hp : OkP p) (h : PsOk ps) : notinA (encP p) (.list (ps.map encP)) = .ok (.bool (!(ps.map encP).any fun z => PyData.eqv z (encP p))) := by
  unfold notinA
  rw [inL_ok (sd_encP hp) (sd_pats h).1]
  rfl
theorem notinT_ok {p : Pat} {ps : List Pat} (hp : OkP p) (h : PsOk ps) : notinA (encP p) (.tuple (ps.map encP)) = .ok (.bool (!(ps.map encP).any fun z => PyData.eqv z (encP p))) := by
  unfold notinA
  rw [inT_ok (sd_encP hp) (sd_pats h).2]
  rfl
theorem forD_step {t : Tg} {mb : Sto → R Out} {d : PD} {ds : List PD} {ρ ρ1 ρ2 : Sto} (h1 : setT t d ρ = .ok ρ1) (h2 : mb ρ1 = .ok (.nx ρ2)) : forD t mb (d :: ds) ρ = forD t mb ds ρ2 := by simp only [forD, h1, h2]
theorem slot_loop (n : Int) : ∀ (ks : List Nat) (ps : List Pat) (a b : Sl), (∀ k ∈ ks, k ≤ 100) → PsOk ps → ps.length + ks.length ≤ 100 →
    ∃ ps' a' b', forD (.nm 2) bodyS (ks.map fun (k : Nat) => .int (k : Int)) [.d (.int n), .ov (.list (ps.map encP)), a, b] = .ok (.nx [.d (.int n), .ov (.list (ps'.map encP)), a', b']) ∧ PsOk ps' ∧ ps'.length ≤ ps.length + ks.length ∧ (1 ≤ ps.length + ks.length → 1 ≤ ps'.length)
  | [], ps, a, b, _, h, _ => ⟨ps, a, b, rfl, h, by simp, by simp⟩
  | k :: ks, ps, a, b, hk, h, hl => by
    rw [List.length_cons] at hl
    obtain ⟨v, hv⟩ := mix_ok (n.fdiv 3) k (hk k List.mem_cons_self)
    have hs := sl_big
    have e := bodyS_run (z := b) (div_ok (i := n) (j := 3) ⟨by decide, by decide⟩) hv (pattern_ok v) (notin_ok (patF_ok v) h) (by rw [List.length_map]; omega)
    have hset : setT (.nm 2) (.int (k : Int)) [.d (.int n), .ov (.list (ps.map encP)), a, b] = .ok [.d (.int n), .ov (.list (ps.map encP)), .d (.int k), b] := rfl
    cases ht : (!(ps.map encP).any fun z => PyData.eqv z (encP (patF v))) with
    | true =>
      rw [ht] at e
      have hm : ps.map encP ++ [encP (patF v)] = (ps ++ [patF v]).map encP := by simp
      simp only [if_true, hm] at e
      obtain ⟨ps', a', b', g1, g2, g3, g4⟩ := slot_loop n ks (ps ++ [patF v]) (.d (.int k)) (.d (encP (patF v))) (fun x hx => hk x (List.mem_cons_of_mem _ hx)) (fun p hp => by
        rcases List.mem_append.mp hp with hp | hp
        · exact h p hp
        · simp only [List.mem_singleton] at hp; subst hp; exact patF_ok v) (by simp; omega)
      refine ⟨ps', a', b', ?_, g2, by rw [List.length_append, List.length_singleton] at g3; rw [List.length_cons]; omega, fun _ => g4 (by simp; omega)⟩
      rw [List.map_cons, forD_step hset e]
      exact g1
    | false =>
      rw [ht] at e
      simp only [Bool.false_eq_true, if_false] at e
      have hne : 1 ≤ ps.length := by
        cases ps with
        | nil => simp at ht
        | cons => simp
      obtain ⟨ps', a', b', g1, g2, g3, g4⟩ := slot_loop n ks ps (.d (.int k)) (.d (encP (patF v))) (fun x hx => hk x (List.mem_cons_of_mem _ hx)) h (by omega)
      refine ⟨ps', a', b', ?_, g2, by rw [List.length_cons]; omega, fun _ => g4 (by omega)⟩
      rw [List.map_cons, forD_step hset e]
      exact g1
theorem tailS_run {x a b : PD} {ds : List PD} {y z : Sl} {t : Bool} (h1 : divI x (.int 3) = .ok a) (h2 : modI a (.int 5) = .ok b) (h3 : eqD b (.int 4) = .ok (.bool t)) :
    mFrz 1 (mRet (mTup (mCons (mAp tupleD (mCons (mVar 1) mNil)) (mCons (mBin eqD (mBin modI (mBin divI (mVar 0) (mC (.int 3))) (mC (.int 5))) (mC (.int 4))) mNil)))) [.d x, .ov (.list ds), y, z] = .ok (.rt (.tuple [.tuple ds, .bool t]) false) := by
  simp [mBin, mAp, frz, tupleD, h1, h2, h3]
theorem eq_int (a b : Int) : eqD (.int a) (.int b) = .ok (.bool (PyData.eqv (.int a) (.int b))) := eq_ok (Sd.int _) (Sd.int _)
def cnt3 (n : Int) : Nat := 1 + (n.fmod 3).toNat
theorem cnt3_le (n : Int) : 1 ≤ cnt3 n ∧ cnt3 n ≤ 3 := by
  have h0 := Int.fmod_nonneg_of_pos n (b := 3) (by decide)
  have h1 := Int.fmod_lt_of_pos n (b := 3) (by decide)
  unfold cnt3
  omega
theorem cnt3_run {x a c : PD} {ρ : Sto} {m : Sto → R PD} (h0 : mVar 0 ρ = .ok x) (hm : m ρ = .ok (.int 3)) (h1 : modI x (.int 3) = .ok a) (h3 : addD (.int 1) a = .ok c) : (mBin addD (mC (.int 1)) (mBin modI (mVar 0) m)) ρ = .ok c := by
  show (mC (.int 1) ρ >>= fun x => (mVar 0 ρ >>= fun x => (m ρ >>= fun y => modI x y)) >>= fun y => addD x y) = _
  rw [h0, hm]
  simp only [run_c, R.bind_ok, h1, h3]
theorem it3_ok {n : Int} {ρ : Sto} {m : Sto → R PD} (h0 : mVar 0 ρ = .ok (.int n)) (hm : m ρ = .ok (.int 3)) : mItA rng1 (mCons (mBin addD (mC (.int 1)) (mBin modI (mVar 0) m)) mNil) ρ = .ok ((List.range (cnt3 n)).map fun (k : Nat) => .int (k : Int)) := by
  have h1 := Int.fmod_nonneg_of_pos n (b := 3) (by decide)
  have hc : (1 : Int) + n.fmod 3 = (cnt3 n : Int) := by unfold cnt3; omega
  have hl := cnt3_le n
  refine itA1 (x := .int (cnt3 n : Int)) ?_ (rng1_ok (cnt3 n) (by omega))
  rw [← hc]
  exact cnt3_run h0 hm (mod_ok (by decide)) (add_ok _ _)
theorem slot_ok (n : Int) : ∃ sl : Slot, m__law_slot [.int n] = .ok (encSl sl) ∧ OkSl sl := by
  have hl := cnt3_le n
  obtain ⟨ps, a, b, g1, g2, g3, g4⟩ := slot_loop n (List.range (cnt3 n)) [] .un .un (fun k hk => by rw [List.mem_range] at hk; omega) (fun p hp => nomatch hp) (by simp; omega)
  simp only [List.length_nil, List.length_range, Nat.zero_add] at g3 g4
  refine ⟨⟨ps, PyData.eqv (.int ((n.fdiv 3).fmod 5)) (.int 4)⟩, ?_, ⟨g4 (by omega), (show ps.length ≤ 4 by omega), g2⟩⟩
  have e1 : m__law_slot [.int n] = endF (mSeq (mFor (mItA rng1 (mCons (mBin addD (mC (.int 1)) (mBin modI (mVar 0) (mC (.int 3)))) mNil)) (.nm 2) bodyS) (mFrz 1 (mRet (mTup (mCons (mAp tupleD (mCons (mVar 1) mNil)) (mCons (mBin eqD (mBin modI (mBin divI (mVar 0) (mC (.int 3))) (mC (.int 5))) (mC (.int 4))) mNil))))) [.d (.int n), .ov (.list []), .un, .un]) := by
    simp only [m__law_slot, runF, b__law_slot, run_seq, run_setF, run_lst, run_nil, R.bind_ok, szL0, lift_ok]
    rfl
  have e2 : mFor (mItA rng1 (mCons (mBin addD (mC (.int 1)) (mBin modI (mVar 0) (mC (.int 3)))) mNil)) (.nm 2) bodyS [.d (.int n), .ov (.list []), .un, .un] = .ok (.nx [.d (.int n), .ov (.list (ps.map encP)), a, b]) := by
    rw [run_for, it3_ok (m := mC (.int 3)) (n := n) rfl rfl, lift_ok]
    exact g1
  rw [e1, run_seq, e2]
  have e3 := tailS_run (x := .int n) (ds := ps.map encP) (y := a) (z := b) (div_ok (i := n) (j := 3) ⟨by decide, by decide⟩) (mod_ok (by decide)) (eq_int _ 4)
  simp only [e3]
  rfl
/-! ## a metre -/
theorem comp_ex {t : Tg} {mt : Sto → R Bool} {me : Sto → R PD} {ρ : Sto} (P : PD → Prop) : ∀ {ds : List PD}, (∀ d ∈ ds, ∃ ρ1 x, setT t d ρ = .ok ρ1 ∧ mt ρ1 = .ok true ∧ me ρ1 = .ok x ∧ P x) →
    ∃ out, compD t mt me ρ ds = some out ∧ out.length = ds.length ∧ ∀ x ∈ out, P x
  | [], _ => ⟨[], rfl, rfl, by simp⟩
  | d :: ds, h => by
    obtain ⟨ρ1, x, e1, e2, e3, px⟩ := h d List.mem_cons_self
    obtain ⟨out, g1, g2, g3⟩ := comp_ex P (ds := ds) fun d hd => h d (List.mem_cons_of_mem _ hd)
    refine ⟨x :: out, by simp [compD, e1, R.opt, e2, e3, g1], by simp [g2], fun y hy => ?_⟩
    rcases List.mem_cons.mp hy with rfl | hy
    · exact px
    · exact g3 y hy
theorem slots_of : ∀ {out : List PD}, (∀ x ∈ out, ∃ sl : Slot, x = encSl sl ∧ OkSl sl) → ∃ m : Metre, out = m.map encSl ∧ ∀ s ∈ m, OkSl s
  | [], _ => ⟨[], rfl, by simp⟩
  | x :: out, h => by
    obtain ⟨sl, rfl, ok⟩ := h x List.mem_cons_self
    obtain ⟨m, rfl, hm⟩ := slots_of fun y hy => h y (List.mem_cons_of_mem _ hy)
    refine ⟨sl :: m, rfl, fun s hs => ?_⟩
    rcases List.mem_cons.mp hs with rfl | hs
    · exact ok
    · exact hm s hs
def eltM : Sto → R PD := (mAp m__law_slot (mCons (mAp m__law_mix (mCons (mBin divI (mVar 0) (mVar 1)) (mCons (mVar 2) mNil))) mNil))
theorem eltM_run {x y z a b c : PD} (h1 : divI x y = .ok a) (h2 : m__law_mix [a, z] = .ok b) (h3 : m__law_slot [b] = .ok c) : eltM [.d x, .d y, .d z] = .ok c := by
  simp [eltM, mBin, mAp, h1, h2, h3]
theorem metre_ok (c : Int) : ∃ m : Metre, m__law_metre [.int c, .int 3] = .ok (encM m) ∧ OkM m := by
  have hl := cnt3_le c
  obtain ⟨out, g1, g2, g3⟩ := comp_ex (t := .nm 2) (mt := mYes) (me := eltM) (ρ := [.d (.int c), .d (.int 3), .un]) (fun x => ∃ sl : Slot, x = encSl sl ∧ OkSl sl) (ds := (List.range (cnt3 c)).map fun (k : Nat) => .int (k : Int)) fun d hd => by
    obtain ⟨k, hk, rfl⟩ := List.mem_map.mp hd
    rw [List.mem_range] at hk
    obtain ⟨v, hv⟩ := mix_ok (c.fdiv 3) k (by omega)
    obtain ⟨sl, hs, ok⟩ := slot_ok v
    exact ⟨[.d (.int c), .d (.int 3), .d (.int k)], encSl sl, rfl, rfl, eltM_run (div_ok (i := c) (j := 3) ⟨by decide, by decide⟩) hv hs, sl, rfl, ok⟩
  obtain ⟨m, rfl, hm⟩ := slots_of g3
  simp only [List.length_map, List.length_range] at g2
  refine ⟨m, ?_, ⟨by omega, by omega, hm⟩⟩
  have e1 : m__law_metre [.int c, .int 3] = endF (mRet (mAp tupleD (mCons (mLc (mItA rng1 (mCons (mBin addD (mC (.int 1)) (mBin modI (mVar 0) (mVar 1))) mNil)) (.nm 2) [2] mYes eltM) mNil)) [.d (.int c), .d (.int 3), .un]) := rfl
  have e2 : mLc (mItA rng1 (mCons (mBin addD (mC (.int 1)) (mBin modI (mVar 0) (mVar 1))) mNil)) (.nm 2) [2] mYes eltM [.d (.int c), .d (.int 3), .un] = .ok (.list (m.map encSl)) := by
    rw [run_lc, it3_ok (m := mVar 1) (n := c) rfl rfl, R.bind_ok]
    have hw : wipeS [.d (.int c), .d (.int 3), .un] [2] = [.d (.int c), .d (.int 3), .un] := rfl
    rw [hw, g1]
    exact szL_ok (by rw [List.length_map]; omega)
  rw [e1, run_ret, ap1 e2 (show tupleD [.list (m.map encSl)] = .ok (.tuple (m.map encSl)) from rfl)]
  rfl
end Lilt.K80

set_option Elab.async false
set_option linter.all false
set_option maxRecDepth 100000
set_option maxHeartbeats 2000000
set_option autoImplicit false
namespace Lilt.K80
open PySem L2 Lilt
/-! ## a metre changed -/
def stC (M c i : PD) (ps : List Pat) (cut : Bool) (N mo : PD) : Sto := [.d M, .d c, .d i, .d (.tuple (ps.map encP)), .d (.bool cut), .d N, .d mo]
structure SlOk (ps : List Pat) : Prop where
  ne : 1 ≤ ps.length
  le : ps.length ≤ 4
  ok : PsOk ps
theorem five_ok (N : Int) (j : Int) : ∃ t : Bool, (∀ ρ : Sto, mVar 5 ρ = .ok (.int N) → mBool (mBin eqD (mBin modI (mVar 5) (mC (.int 5))) (mC (.int j))) ρ = .ok t) := by
  refine ⟨PyData.eqv (.int (N.fmod 5)) (.int j), fun ρ h => ?_⟩
  have e1 : modI (.int N) (.int 5) = .ok (.int (N.fmod 5)) := mod_ok (by decide)
  have e2 := eq_int (N.fmod 5) j
  show ((mVar 5 ρ >>= fun x => (mC (.int 5) ρ >>= fun y => modI x y)) >>= fun x => (mC (.int j) ρ >>= fun y => eqD x y)) >>= (fun x => match x with
    | .bool b => .ok b
    | _ => .stuck) = _
  rw [h]
  simp only [run_c, R.bind_ok, e1, e2]
theorem if_run {c : Sto → R Bool} {m n : Sto → R Out} {ρ : Sto} {b : Bool} (h : c ρ = .ok b) : mIfS c m n ρ = if b then m ρ else n ρ := by rw [run_if, h]; rfl
theorem seq_run {m n : Sto → R Out} {ρ ρ1 : Sto} (h : m ρ = .ok (.nx ρ1)) : mSeq m n ρ = n ρ1 := by rw [run_seq, h]
theorem ap1v {f : List PD → R PD} {m : Sto → R PD} {ρ : Sto} {x : PD} {r : R PD} (hm : m ρ = .ok x) (hf : f [x] = r) : mAp f (mCons m mNil) ρ = r := by
  show (m ρ >>= fun x => (mNil ρ >>= fun xs => .ok (x :: xs))) >>= (fun z => f z) = _
  rw [hm]
  exact hf
theorem s1_ok {M c i : PD} {ps : List Pat} {cut : Bool} {N : Int} {p : Pat} (h : SlOk ps) (hp : OkP p) :
    ∃ ps', (mIfS (mAnd (mBool (mBin eqD (mBin modI (mVar 5) (mC (.int 5))) (mC (.int 0)))) (mAnd (mBool (mBin notinA (mVar 6) (mVar 3))) (mBool (mBin ltI (mAp lenD (mCons (mVar 3) mNil)) (mC (.int 4)))))) (mSet 3 (mBin addD (mVar 3) (mTup (mCons (mVar 6) mNil)))) mNx) (stC M c i ps cut (.int N) (encP p)) = .ok (.nx (stC M c i ps' cut (.int N) (encP p))) ∧ SlOk ps' := by
  obtain ⟨t, ht⟩ := five_ok N 0
  have h1 := ht (stC M c i ps cut (.int N) (encP p)) rfl
  have h2 : mBool (mBin notinA (mVar 6) (mVar 3)) (stC M c i ps cut (.int N) (encP p)) = .ok (!(ps.map encP).any fun z => PyData.eqv z (encP p)) := by
    have := notinT_ok hp h.ok
    simp [stC, mBin, this]
  have h3 : mBool (mBin ltI (mAp lenD (mCons (mVar 3) mNil)) (mC (.int 4))) (stC M c i ps cut (.int N) (encP p)) = .ok (decide ((ps.length : Int) < 4)) := by simp [stC, mBin, mAp]
  have hc : ∃ b, mAnd (mBool (mBin eqD (mBin modI (mVar 5) (mC (.int 5))) (mC (.int 0)))) (mAnd (mBool (mBin notinA (mVar 6) (mVar 3))) (mBool (mBin ltI (mAp lenD (mCons (mVar 3) mNil)) (mC (.int 4))))) (stC M c i ps cut (.int N) (encP p)) = .ok b ∧ (b = true → ps.length < 4) := by
    rw [run_and, h1]
    simp only [R.bind_ok, run_and, h2, h3]
    cases t with
    | false => exact ⟨false, rfl, by simp⟩
    | true =>
      cases (!(ps.map encP).any fun z => PyData.eqv z (encP p)) with
      | false => exact ⟨false, rfl, by simp⟩
      | true => exact ⟨decide ((ps.length : Int) < 4), rfl, fun e => by have := of_decide_eq_true e; omega⟩
  obtain ⟨b, hb, hlt⟩ := hc
  rw [if_run hb]
  cases b with
  | false => exact ⟨ps, rfl, h⟩
  | true =>
    have := hlt rfl
    refine ⟨ps ++ [p], ?_, ⟨by simp, by simp; omega, fun q hq => ?_⟩⟩
    · have e := addT_ok (x := ps.map encP) (y := [encP p]) (by simp; omega)
      simp [stC, mBin, e]
    · rcases List.mem_append.mp hq with hq | hq
      · exact h.ok q hq
      · simp only [List.mem_singleton] at hq; subst hq; exact hp
theorem s2_ok {M c i mo : PD} {ps : List Pat} {cut : Bool} {N : Int} (h : SlOk ps) :
    ∃ ps', (mIfS (mAnd (mBool (mBin eqD (mBin modI (mVar 5) (mC (.int 5))) (mC (.int 1)))) (mBool (mBin gtI (mAp lenD (mCons (mVar 3) mNil)) (mC (.int 1))))) (mSet 3 (mSlice (mVar 3) (mPart (mC (.int 1))) mNoPart)) mNx) (stC M c i ps cut (.int N) mo) = .ok (.nx (stC M c i ps' cut (.int N) mo)) ∧ SlOk ps' := by
  obtain ⟨t, ht⟩ := five_ok N 1
  have h1 := ht (stC M c i ps cut (.int N) mo) rfl
  have h3 : mBool (mBin gtI (mAp lenD (mCons (mVar 3) mNil)) (mC (.int 1))) (stC M c i ps cut (.int N) mo) = .ok (decide (1 < (ps.length : Int))) := by simp [stC, mBin, mAp]
  have hc : ∃ b, mAnd (mBool (mBin eqD (mBin modI (mVar 5) (mC (.int 5))) (mC (.int 1)))) (mBool (mBin gtI (mAp lenD (mCons (mVar 3) mNil)) (mC (.int 1)))) (stC M c i ps cut (.int N) mo) = .ok b ∧ (b = true → 1 < ps.length) := by
    rw [run_and, h1]
    simp only [R.bind_ok, h3]
    cases t with
    | false => exact ⟨false, rfl, by simp⟩
    | true => exact ⟨decide (1 < (ps.length : Int)), rfl, fun e => by have := of_decide_eq_true e; omega⟩
  obtain ⟨b, hb, hlt⟩ := hc
  rw [if_run hb]
  cases b with
  | false => exact ⟨ps, rfl, h⟩
  | true =>
    have hl := hlt rfl
    refine ⟨ps.drop 1, ?_, ⟨by rw [List.length_drop]; omega, by rw [List.length_drop]; have := h.le; omega, fun q hq => h.ok q (List.mem_of_mem_drop hq)⟩⟩
    have e : cutD (ps.map encP) (some 1) none = (ps.drop 1).map encP := by
      unfold cutD
      have e1 : HT.sIx (ps.map encP).length 0 (some 1) = 1 := by
        have := HT.sIx_nat (ps.map encP).length 0 1
        rw [List.length_map] at this ⊢
        rw [show ((1 : Int)) = ((1 : Nat) : Int) from rfl, this]
        omega
      have e2 : HT.sIx (ps.map encP).length (ps.map encP).length none = (ps.map encP).length := rfl
      rw [e1, e2, List.take_of_length_le (by rw [List.length_drop]; omega), List.map_drop]
    simp [stC, sliceD, e]
theorem s3_ok {M c i mo : PD} {ps : List Pat} {cut : Bool} {N : Int} :
    ∃ cut', (mIfS (mBool (mBin eqD (mBin modI (mVar 5) (mC (.int 5))) (mC (.int 2)))) (mSet 4 (mNotV (mVar 4))) mNx) (stC M c i ps cut (.int N) mo) = .ok (.nx (stC M c i ps cut' (.int N) mo)) := by
  obtain ⟨t, ht⟩ := five_ok N 2
  rw [if_run (ht (stC M c i ps cut (.int N) mo) rfl)]
  cases t with
  | false => exact ⟨cut, rfl⟩
  | true => exact ⟨!cut, rfl⟩
theorem s4_ok {M c i mo : PD} {ps : List Pat} {cut : Bool} {N : Int} (h : SlOk ps) :
    ∃ ps', (mIfS (mBool (mBin eqD (mBin modI (mVar 5) (mC (.int 5))) (mC (.int 3)))) (mSet 3 (mTup (mCons (mBin mulS (mC (.str "x")) (mAp lenD (mCons (mBin ixD (mVar 3) (mC (.int 0))) mNil))) mNil))) mNx) (stC M c i ps cut (.int N) mo) = .ok (.nx (stC M c i ps' cut (.int N) mo)) ∧ SlOk ps' := by
  obtain ⟨t, ht⟩ := five_ok N 3
  rw [if_run (ht (stC M c i ps cut (.int N) mo) rfl)]
  cases t with
  | false => exact ⟨ps, rfl, h⟩
  | true =>
    obtain ⟨p, hp⟩ : ∃ p, ps[0]? = some p := ⟨ps[0]'(by have := h.ne; omega), List.getElem?_eq_getElem _⟩
    have okp := h.ok p (List.mem_of_getElem? hp)
    have hp1 := okp.1
    have hp2 := okp.2.1
    have e1 : ixD (.tuple (ps.map encP)) (.int 0) = .ok (encP p) := ix_tup (i := 0) (by simp [hp])
    have e2 := encP_len okp
    have e3 : mulS (.str "x") (.int (p.length : Int)) = .ok (encP (List.replicate p.length 120)) := by
      have : ∀ n : Nat, n ≤ 3 → mulS (.str "x") (.int (n : Int)) = .ok (encP (List.replicate n 120)) := by
        intro n hn
        match n, hn with
        | 0, _ => rfl
        | 1, _ => rfl
        | 2, _ => rfl
        | 3, _ => rfl
      exact this _ hp2
    refine ⟨[List.replicate p.length 120], ?_, ⟨by simp, by simp, fun q hq => ?_⟩⟩
    · simp [stC, mBin, mAp, e1, e2, e3]
    · simp only [List.mem_singleton] at hq
      subst hq
      refine ⟨by simpa using hp1, by simpa using hp2, fun c hc => ?_⟩
      rw [List.eq_of_mem_replicate hc]
      rfl
theorem s5_ok {M c i mo : PD} {ps : List Pat} {cut : Bool} {N : Int} (h : SlOk ps) :
    ∃ ps', (mIfS (mBool (mBin eqD (mBin modI (mVar 5) (mC (.int 5))) (mC (.int 4)))) (mSet 3 (fun ρ => do tuprevD (← (mVar 3) ρ))) mNx) (stC M c i ps cut (.int N) mo) = .ok (.nx (stC M c i ps' cut (.int N) mo)) ∧ SlOk ps' := by
  obtain ⟨t, ht⟩ := five_ok N 4
  rw [if_run (ht (stC M c i ps cut (.int N) mo) rfl)]
  cases t with
  | false => exact ⟨ps, rfl, h⟩
  | true =>
    refine ⟨ps.reverse, ?_, ⟨by rw [List.length_reverse]; exact h.ne, by rw [List.length_reverse]; exact h.le, fun q hq => h.ok q (List.mem_reverse.mp hq)⟩⟩
    simp [stC, tuprevD]
theorem s6_ok {m : Metre} (hm : OkM m) {i : Nat} (hi : i < m.length) {c mo : PD} {ps : List Pat} {cut : Bool} {N : Int} :
    (mRet (mBin addD (mBin addD (mSlice (mVar 0) mNoPart (mPart (mVar 2))) (mTup (mCons (mTup (mCons (mVar 3) (mCons (mVar 4) mNil))) mNil))) (mSlice (mVar 0) (mPart (mBin addD (mVar 2) (mC (.int 1)))) mNoPart))) (stC (encM m) c (.int (i : Int)) ps cut (.int N) mo) = .ok (.rt (encM (m.take i ++ [⟨ps, cut⟩] ++ m.drop (i + 1))) false) := by
  have hle := hm.le
  have e1 : cutD (m.map encSl) none (some (i : Int)) = (m.take i).map encSl := by
    unfold cutD
    have g1 : HT.sIx (m.map encSl).length 0 none = 0 := rfl
    rw [g1, HT.sIx_nat, List.length_map, Nat.sub_zero, List.drop_zero, show min i m.length = i by omega, List.map_take]
  have e2 : cutD (m.map encSl) (some ((i : Int) + 1)) none = (m.drop (i + 1)).map encSl := by
    unfold cutD
    have g1 : HT.sIx (m.map encSl).length 0 (some ((i : Int) + 1)) = i + 1 := by
      have := HT.sIx_nat (m.map encSl).length 0 (i + 1)
      rw [show ((i + 1 : Nat) : Int) = (i : Int) + 1 by omega] at this
      rw [this, List.length_map]
      omega
    have g2 : HT.sIx (m.map encSl).length (m.map encSl).length none = (m.map encSl).length := rfl
    rw [g1, g2, List.take_of_length_le (by rw [List.length_drop]; omega), List.map_drop]
  have e3 := addT_ok (x := (m.take i).map encSl) (y := [.tuple [.tuple (ps.map encP), .bool cut]]) (by simp; omega)
  have e4 := addT_ok (x := (m.take i).map encSl ++ [.tuple [.tuple (ps.map encP), .bool cut]]) (y := (m.drop (i + 1)).map encSl) (by simp; omega)
  have e5 : encM m = .tuple (m.map encSl) := rfl
  rw [run_ret]
  simp only [stC, mBin, run_slice, run_var_d, run_noPart, run_part, R.bind_ok, List.getElem?_cons_zero, List.getElem?_cons_succ, e5, sliceD, e1, e2, run_tup, run_cons, run_nil, szT2, szT1, e3, e4, run_c, add_ok, lift_ok]
  simp [encM, encSl]
theorem changed_ok {m : Metre} (hm : OkM m) (c : Int) : ∃ m' : Metre, m__law_changed [encM m, .int c] = .ok (encM m') ∧ OkM m' := by
  have hle := hm.le
  have hne := hm.ne
  have h0 := Int.fmod_nonneg_of_pos c (b := (m.length : Int)) (by omega)
  have h1 := Int.fmod_lt_of_pos c (b := (m.length : Int)) (by omega)
  obtain ⟨i, hi⟩ : ∃ i : Nat, c.fmod (m.length : Int) = (i : Int) := ⟨(c.fmod (m.length : Int)).toNat, by omega⟩
  have hil : i < m.length := by omega
  obtain ⟨sl, hsl⟩ : ∃ sl, m[i]? = some sl := ⟨m[i], List.getElem?_eq_getElem hil⟩
  have okl := hm.ok sl (List.mem_of_getElem? hsl)
  have e0 : lenD [encM m] = .ok (.int m.length) := by simp [encM]
  have e1 : modI (.int c) (.int (m.length : Int)) = .ok (.int (i : Int)) := by rw [mod_ok (by omega), hi]
  have e2 : ixD (encM m) (.int (i : Int)) = .ok (encSl sl) := ix_tup (by simp [hsl])
  have e3 : divI (.int c) (.int (m.length : Int)) = .ok (.int (c.fdiv m.length)) := div_ok ⟨by omega, by omega⟩
  have e4 : divI (.int (c.fdiv m.length)) (.int 5) = .ok (.int ((c.fdiv m.length).fdiv 5)) := div_ok ⟨by decide, by decide⟩
  have e5 := pattern_ok ((c.fdiv m.length).fdiv 5)
  have okp := patF_ok ((c.fdiv m.length).fdiv 5)
  obtain ⟨p1, g1, k1⟩ := s1_ok (M := encM m) (c := .int c) (i := .int i) (cut := sl.cut) (N := c.fdiv m.length) (p := patF ((c.fdiv m.length).fdiv 5)) ⟨okl.ne, okl.le, okl.ok⟩ okp
  obtain ⟨p2, g2, k2⟩ := s2_ok (M := encM m) (c := .int c) (i := .int i) (cut := sl.cut) (N := c.fdiv m.length) (mo := encP (patF ((c.fdiv m.length).fdiv 5))) k1
  obtain ⟨cut', g3⟩ := s3_ok (M := encM m) (c := .int c) (i := .int i) (ps := p2) (cut := sl.cut) (N := c.fdiv m.length) (mo := encP (patF ((c.fdiv m.length).fdiv 5)))
  obtain ⟨p4, g4, k4⟩ := s4_ok (M := encM m) (c := .int c) (i := .int i) (cut := cut') (N := c.fdiv m.length) (mo := encP (patF ((c.fdiv m.length).fdiv 5))) k2
  obtain ⟨p5, g5, k5⟩ := s5_ok (M := encM m) (c := .int c) (i := .int i) (cut := cut') (N := c.fdiv m.length) (mo := encP (patF ((c.fdiv m.length).fdiv 5))) k4
  have g6 := s6_ok hm hil (c := .int c) (mo := encP (patF ((c.fdiv m.length).fdiv 5))) (ps := p5) (cut := cut') (N := c.fdiv m.length)
  refine ⟨m.take i ++ [⟨p5, cut'⟩] ++ m.drop (i + 1), ?_, ⟨by simp; omega, by simp; omega, fun s hs => ?_⟩⟩
  · have a1 : mSet 2 (mBin modI (mVar 1) (mAp lenD (mCons (mVar 0) mNil))) [.d (encM m), .d (.int c), .un, .un, .un, .un, .un] = .ok (.nx [.d (encM m), .d (.int c), .d (.int i), .un, .un, .un, .un]) := by simp [mBin, mAp, e0, e1]
    have a2 : mUnp (.tp [.nm 3, .nm 4]) (mBin ixD (mVar 0) (mVar 2)) [.d (encM m), .d (.int c), .d (.int i), .un, .un, .un, .un] = .ok (.nx [.d (encM m), .d (.int c), .d (.int i), .d (.tuple (sl.pats.map encP)), .d (.bool sl.cut), .un, .un]) := by simp [mBin, e2, encSl]
    have a3 : mSet 5 (mBin divI (mVar 1) (mAp lenD (mCons (mVar 0) mNil))) [.d (encM m), .d (.int c), .d (.int i), .d (.tuple (sl.pats.map encP)), .d (.bool sl.cut), .un, .un] = .ok (.nx [.d (encM m), .d (.int c), .d (.int i), .d (.tuple (sl.pats.map encP)), .d (.bool sl.cut), .d (.int (c.fdiv m.length)), .un]) := by simp [mBin, mAp, e0, e3]
    have a4 : mSet 6 (mAp m__law_pattern (mCons (mBin divI (mVar 5) (mC (.int 5))) mNil)) [.d (encM m), .d (.int c), .d (.int i), .d (.tuple (sl.pats.map encP)), .d (.bool sl.cut), .d (.int (c.fdiv m.length)), .un] = .ok (.nx (stC (encM m) (.int c) (.int i) sl.pats sl.cut (.int (c.fdiv m.length)) (encP (patF ((c.fdiv m.length).fdiv 5))))) := by simp [mBin, mAp, e4, e5, stC]
    show endF (b__law_changed [.d (encM m), .d (.int c), .un, .un, .un, .un, .un]) = _
    unfold b__law_changed
    rw [seq_run a1, seq_run a2, seq_run a3, seq_run a4, seq_run g1, seq_run g2, seq_run g3, seq_run g4, seq_run g5, g6]
    rfl
  · rcases List.mem_append.mp hs with hs | hs
    · rcases List.mem_append.mp hs with hs | hs
      · exact hm.ok s (List.mem_of_mem_take hs)
      · simp only [List.mem_singleton] at hs; subst hs; exact ⟨k5.ne, k5.le, k5.ok⟩
    · exact hm.ok s (List.mem_of_mem_drop hs)
end Lilt.K80

set_option Elab.async false
set_option linter.all false
set_option maxRecDepth 100000
set_option maxHeartbeats 2000000
set_option autoImplicit false
namespace Lilt.K80
open PySem L2 Lilt
/-! ## the row that is told -/
theorem sd_encRow (r : Row) (h : OkR r) : Sd 64 (encRow r) := (Sd.lst (n := 1) (fun d hd => by
  obtain ⟨st, hs, rfl⟩ := List.mem_map.mp hd
  refine Sd.tup (n := 0) fun x hx => ?_
  simp only [List.mem_cons, List.not_mem_nil, or_false] at hx
  rcases hx with rfl | rfl
  · refine sd_one ?_
    have := h st hs
    simp only [steps, List.mem_cons, List.not_mem_nil, or_false] at this
    rcases this with rfl | rfl | rfl | rfl <;> rfl
  · exact Sd.bool _)).mono (by decide)
def stepR : Sto → R Out := (mIfS (mOr (mNot (mBool (fun ρ => do isiD "tuple" (← (mVar 1) ρ)))) (mOr (mBool (mBin neD (mAp lenD (mCons (mVar 1) mNil)) (mC (.int 2)))) (mOr (mBool (mBin notinA (mBin ixD (mVar 1) (mC (.int 0))) (mTup (mCons (mC (.str "u")) (mCons (mC (.str "-")) mNil))))) (mNot (mBool (fun ρ => do isiD "bool" (← (mBin ixD (mVar 1) (mC (.int 1))) ρ))))))) (mRet (mC (.bool false))) mNx)
theorem stepR_ok {x : Sl} {st : Stp} (h : st ∈ steps) : stepR [x, .d (encStp st)] = .ok (.nx [x, .d (encStp st)]) := by
  have hk : isMk st.1 = true ∧ (st.1 = 117 ∨ st.1 = 45) := by
    simp only [steps, List.mem_cons, List.not_mem_nil, or_false] at h
    rcases h with rfl | rfl | rfl | rfl <;> exact ⟨rfl, by decide⟩
  have e1 : isiD "tuple" (encStp st) = .ok (.bool true) := rfl
  have e2 : neD (.int 2) (.int 2) = .ok (.bool false) := by rw [ne_ok (Sd.int _) (Sd.int _)]; rfl
  have e3 : ixD (encStp st) (.int 0) = .ok (one st.1) := ix_tup (i := 0) rfl
  have e4 : ixD (encStp st) (.int 1) = .ok (.bool st.2) := ix_tup (i := 1) rfl
  have e5 : isiD "bool" (.bool st.2) = .ok (.bool true) := rfl
  have e6 : lenD [encStp st] = .ok (.int 2) := rfl
  have e7 : notinA (one st.1) (.tuple [.str "u", .str "-"]) = .ok (.bool false) := by
    have hsd : Sd 64 (.tuple [one 117, one 45]) := (Sd.tup (n := 0) (by
      intro d hd
      simp only [List.mem_cons, List.not_mem_nil, or_false] at hd
      rcases hd with rfl | rfl <;> exact sd_one (by decide))).mono (by decide)
    have e : (PyData.tuple [.str "u", .str "-"]) = .tuple [one 117, one 45] := rfl
    unfold notinA
    rw [e, inT_ok (sd_one hk.1) hsd]
    simp only [List.any_cons, List.any_nil, Bool.or_false, eqv_one]
    rcases hk.2 with h | h <;> rw [h] <;> rfl
  simp [stepR, mBin, mAp, e1, e2, e3, e4, e5, e6, e7]
theorem rows_loop {x : Sl} : ∀ (r : Row) (a : Sl), OkR r → ∃ a', forD (.nm 1) stepR (r.map encStp) [x, a] = .ok (.nx [x, a'])
  | [], a, _ => ⟨a, rfl⟩
  | st :: r, a, h => by
    obtain ⟨a', ih⟩ := rows_loop (x := x) r (.d (encStp st)) fun y hy => h y (List.mem_cons_of_mem _ hy)
    refine ⟨a', ?_⟩
    have hset : setT (.nm 1) (encStp st) [x, a] = .ok [x, .d (encStp st)] := rfl
    rw [List.map_cons, forD_step hset (stepR_ok (h st List.mem_cons_self))]
    exact ih
theorem isrow_ok {r : Row} {st : Stp} (h : OkR (r ++ [st])) (he : st.2 = true) : m__law_is_row [encRow (r ++ [st])] = .ok (.bool true) := by
  obtain ⟨a', hl⟩ := rows_loop (x := .d (encRow (r ++ [st]))) (r ++ [st]) .un h
  have e1 : eqD (encRow (r ++ [st])) (.list []) = .ok (.bool false) := by
    have hn : Sd 64 (.list ([] : List PD)) := (Sd.lst (n := 0) (by simp)).mono (by decide)
    rw [eq_ok (sd_encRow _ h) hn]
    refine congrArg (fun b => R.ok (PyData.bool b)) ?_
    show PyData.eqvAll ((r ++ [st]).map encStp) [] = false
    cases r <;> rfl
  have e2 : ixD (encRow (r ++ [st])) (.int (-1)) = .ok (encStp st) := by
    have : encRow (r ++ [st]) = .list (r.map encStp ++ [encStp st]) := by simp [encRow]
    rw [this]
    simp only [ixD, ixL, atI_last]
  have e3 : ixD (encStp st) (.int 1) = .ok (.bool true) := by
    rw [← he]
    exact ix_tup (i := 1) rfl
  have e4 : isiD "list" (encRow (r ++ [st])) = .ok (.bool true) := rfl
  have e5 : isnotA (.bool true) (.bool true) = .ok (.bool false) := rfl
  have e0 : m__law_is_row [encRow (r ++ [st])] = endF (mSeq (mIfS (mOr (mNot (mBool (fun ρ => do isiD "list" (← (mVar 0) ρ)))) (mOr (mBool (mBin eqD (mVar 0) (mLst mNil))) (mBool (mBin isnotA (mBin ixD (mBin ixD (mVar 0) (fun ρ => do negI (← (mC (.int 1)) ρ))) (mC (.int 1))) (mC (.bool true)))))) (mRet (mC (.bool false))) mNx) (mSeq (mFor (mIt itemsD (mVar 0)) (.nm 1) stepR) (mRet (mC (.bool true)))) [.d (encRow (r ++ [st])), .un]) := rfl
  have a1 : (mIfS (mOr (mNot (mBool (fun ρ => do isiD "list" (← (mVar 0) ρ)))) (mOr (mBool (mBin eqD (mVar 0) (mLst mNil))) (mBool (mBin isnotA (mBin ixD (mBin ixD (mVar 0) (fun ρ => do negI (← (mC (.int 1)) ρ))) (mC (.int 1))) (mC (.bool true)))))) (mRet (mC (.bool false))) mNx) [.d (encRow (r ++ [st])), .un] = .ok (.nx [.d (encRow (r ++ [st])), .un]) := by
    simp [mBin, e1, e2, e3, e4, e5, negI]
  have a2 : mFor (mIt itemsD (mVar 0)) (.nm 1) stepR [.d (encRow (r ++ [st])), .un] = .ok (.nx [.d (encRow (r ++ [st])), a']) := hl
  rw [e0, seq_run a1, seq_run a2]
  rfl
/-! ## metres that say more -/
def turned (m : Metre) : Metre := m.map fun s => ⟨s.pats.reverse, s.cut⟩
def uncut (m : Metre) : Metre := m.map fun s => ⟨s.pats, false⟩
theorem turned_ok {m : Metre} (hm : OkM m) : OkM (turned m) := ⟨by simp [turned]; exact hm.ne, by simp [turned]; exact hm.le, fun s hs => by
  obtain ⟨t, ht, rfl⟩ := List.mem_map.mp hs
  have := hm.ok t ht
  exact ⟨by simpa using this.ne, by simpa using this.le, fun p hp => this.ok p (by simpa using hp)⟩⟩
theorem uncut_ok {m : Metre} (hm : OkM m) : OkM (uncut m) := ⟨by simp [uncut]; exact hm.ne, by simp [uncut]; exact hm.le, fun s hs => by
  obtain ⟨t, ht, rfl⟩ := List.mem_map.mp hs
  have := hm.ok t ht
  exact ⟨this.ne, this.le, this.ok⟩⟩
theorem seg_turned : ∀ (m : Metre) (r : Row), Seg m r → Seg (turned m) r
  | [], r, h => h
  | s :: m, r, ⟨p, hp, r1, r2, e, g1, g2, g3⟩ => ⟨p, List.mem_reverse.mpr hp, r1, r2, e, g1, g2, seg_turned m r2 g3⟩
theorem seg_uncut : ∀ (m : Metre) (r : Row), Seg m r → Seg (uncut m) r
  | [], r, h => h
  | s :: m, r, ⟨p, hp, r1, r2, e, g1, g2, g3⟩ => ⟨p, hp, r1, r2, e, g1, (fun c => nomatch c), seg_uncut m r2 g3⟩
theorem found_of {o t : Metre} (ho : OkM o) (ht : OkM t) {r : Row} (h : bfs o t 12 lay0 = some r) : Seg o r ∧ ¬ Seg t r ∧ OkR r ∧ ∃ r' st, r = r' ++ [st] ∧ st.2 = true := by
  obtain ⟨h1, h2, h3, h4⟩ := bfs_sound (o := o) (t := t) 12 0 lay0 (lok0 o t) (by
    intro q hq
    simp only [lay0, List.mem_singleton] at hq
    subst hq
    intro st hst
    exact nomatch hst) h
  exact ⟨(acc_seg ho r).mp h1, fun q => h2 ((acc_seg ht r).mpr q), h3, h4⟩
theorem none_of {o t : Metre} (ho : OkM o) (ht : OkM t) (h : ∀ r, Seg o r → Seg t r) : bfs o t 12 lay0 = none := by
  cases e : bfs o t 12 lay0 with
  | none => rfl
  | some r => obtain ⟨h1, h2, _⟩ := found_of ho ht e; exact absurd (h r h1) h2
theorem found_len {o t : Metre} (ho : OkM o) (ht : OkM t) {r : Row} (h : bfs o t 12 lay0 = some r) : r.length ≤ 1000 := by
  obtain ⟨h1, _⟩ := found_of ho ht h
  have := row_le ho (r := r) (by
    have h2 := (acc_seg ho r).mpr h1
    intro e
    unfold Acc at h2
    rw [e] at h2
    exact nomatch h2)
  omega
end Lilt.K80

set_option Elab.async false
set_option linter.all false
set_option maxRecDepth 100000
set_option maxHeartbeats 2000000
set_option autoImplicit false
namespace Lilt.K80
open PySem L2 Lilt
theorem changes_loop {x0 x1 x4 x5 x6 x7 x8 x9 : Sl} : ∀ (cs : List Int) (t : Metre) (a : Sl), OkM t → ∃ t' a', forD (.nm 3) (mSet 2 (mAp m__law_changed (mCons (mVar 2) (mCons (mVar 3) mNil)))) (cs.map PyData.int) [x0, x1, .d (encM t), a, x4, x5, x6, x7, x8, x9] = .ok (.nx [x0, x1, .d (encM t'), a', x4, x5, x6, x7, x8, x9]) ∧ OkM t'
  | [], t, a, h => ⟨t, a, rfl, h⟩
  | c :: cs, t, a, h => by
    obtain ⟨t1, e1, h1⟩ := changed_ok h c
    obtain ⟨t', a', g1, g2⟩ := changes_loop (x0 := x0) (x1 := x1) (x4 := x4) (x5 := x5) (x6 := x6) (x7 := x7) (x8 := x8) (x9 := x9) cs t1 (.d (.int c)) h1
    refine ⟨t', a', ?_, g2⟩
    have hset : setT (.nm 3) (.int c) [x0, x1, .d (encM t), a, x4, x5, x6, x7, x8, x9] = .ok [x0, x1, .d (encM t), .d (.int c), x4, x5, x6, x7, x8, x9] := rfl
    have hb : mSet 2 (mAp m__law_changed (mCons (mVar 2) (mCons (mVar 3) mNil))) [x0, x1, .d (encM t), .d (.int c), x4, x5, x6, x7, x8, x9] = .ok (.nx [x0, x1, .d (encM t1), .d (.int c), x4, x5, x6, x7, x8, x9]) := by simp [mAp, e1]
    rw [List.map_cons, forD_step hset hb]
    exact g1
theorem cut_map {A B : Type} (f : A → B) (xs : List A) (lo hi : Option Int) : cutD (xs.map f) lo hi = (cutD xs lo hi).map f := by
  unfold cutD
  rw [List.length_map, List.map_take, List.map_drop]
theorem slot_data (s : Slot) : ixD (encSl s) (.int 0) = .ok (.tuple (s.pats.map encP)) ∧ ixD (encSl s) (.int 1) = .ok (.bool s.cut) := ⟨ix_tup (i := 0) rfl, ix_tup (i := 1) rfl⟩
def slotOf (g : Slot → Slot) (d : PD) : Prop := True
theorem comp_map {t : Tg} {mt : Sto → R Bool} {me : Sto → R PD} {ρ : Sto} (f : Slot → Slot) : ∀ (m : Metre), (∀ s ∈ m, ∃ ρ1, setT t (encSl s) ρ = .ok ρ1 ∧ mt ρ1 = .ok true ∧ me ρ1 = .ok (encSl (f s))) → compD t mt me ρ (m.map encSl) = some ((m.map f).map encSl)
  | [], _ => rfl
  | s :: m, h => by
    obtain ⟨ρ1, e1, e2, e3⟩ := h s List.mem_cons_self
    have ih := comp_map f m fun x hx => h x (List.mem_cons_of_mem _ hx)
    simp [compD, e1, R.opt, e2, e3, ih]
theorem lc_metre {me : Sto → R PD} {ρ : Sto} {m : Metre} (hm : OkM m) (f : Slot → Slot) (h1 : mVar 1 ρ = .ok (encM m)) (hc : compD (.nm 9) mYes me (wipeS ρ [9]) (m.map encSl) = some ((m.map f).map encSl)) :
    mAp tupleD (mCons (mLc (mIt itemsD (mVar 1)) (.nm 9) [9] mYes me) mNil) ρ = .ok (encM (m.map f)) := by
  have hle := hm.le
  have e2 : mLc (mIt itemsD (mVar 1)) (.nm 9) [9] mYes me ρ = .ok (.list ((m.map f).map encSl)) := by
    rw [run_lc]
    show ((mVar 1 ρ >>= fun x => itemsD x) >>= _) = _
    rw [h1, R.bind_ok]
    show (match compD (.nm 9) mYes me (wipeS ρ [9]) (m.map encSl) with
      | some out => szL out
      | none => .stuck) = _
    rw [hc]
    exact szL_ok (by rw [List.length_map, List.length_map]; omega)
  exact ap1 e2 rfl
theorem law_ok (ns : List Int) : m_law [ScrD ns] = .ok (.bool true) := by
  obtain ⟨c0, hc0⟩ := cell_ok ns 0
  obtain ⟨c1, hc1⟩ := cell_ok ns 1
  obtain ⟨c8, hc8⟩ := cell_ok ns 8
  obtain ⟨o, ho, ko⟩ := metre_ok c0
  obtain ⟨t0, ht0, kt0⟩ := metre_ok (c1.fdiv 4)
  have e1 : modI (.int c1) (.int 4) = .ok (.int (c1.fmod 4)) := mod_ok (by decide)
  have e2 : divI (.int c1) (.int 4) = .ok (.int (c1.fdiv 4)) := div_ok ⟨by decide, by decide⟩
  have e3 := eq_int (c1.fmod 4) 0
  have e4 : modI (.int c8) (.int 3) = .ok (.int (c8.fmod 3)) := mod_ok (by decide)
  have a1 : mSet 1 (mAp m__law_metre (mCons (mAp m__law_cell_at (mCons (mVar 0) (mCons (mC (.int 0)) mNil))) (mCons (mC (.int 3)) mNil))) [.d (ScrD ns), .un, .un, .un, .un, .un, .un, .un, .un, .un] = .ok (.nx [.d (ScrD ns), .d (encM o), .un, .un, .un, .un, .un, .un, .un, .un]) := by
    simp at hc0
    simp [mAp, hc0, ho]
  have a2 : mSet 2 (mVar 1) [.d (ScrD ns), .d (encM o), .un, .un, .un, .un, .un, .un, .un, .un] = .ok (.nx [.d (ScrD ns), .d (encM o), .d (encM o), .un, .un, .un, .un, .un, .un, .un]) := rfl
  obtain ⟨t1, a3, kt1⟩ : ∃ t1 : Metre, (mIfS (mBool (mBin eqD (mBin modI (mAp m__law_cell_at (mCons (mVar 0) (mCons (mC (.int 1)) mNil))) (mC (.int 4))) (mC (.int 0)))) (mSet 2 (mAp m__law_metre (mCons (mBin divI (mAp m__law_cell_at (mCons (mVar 0) (mCons (mC (.int 1)) mNil))) (mC (.int 4))) (mCons (mC (.int 3)) mNil)))) mNx) [.d (ScrD ns), .d (encM o), .d (encM o), .un, .un, .un, .un, .un, .un, .un] = .ok (.nx [.d (ScrD ns), .d (encM o), .d (encM t1), .un, .un, .un, .un, .un, .un, .un]) ∧ OkM t1 := by
    simp at hc1
    have hb : mBool (mBin eqD (mBin modI (mAp m__law_cell_at (mCons (mVar 0) (mCons (mC (.int 1)) mNil))) (mC (.int 4))) (mC (.int 0))) [.d (ScrD ns), .d (encM o), .d (encM o), .un, .un, .un, .un, .un, .un, .un] = .ok (PyData.eqv (.int (c1.fmod 4)) (.int 0)) := by simp [mBin, mAp, hc1, e1, e3]
    rw [if_run hb]
    cases PyData.eqv (.int (c1.fmod 4)) (.int 0) with
    | false => exact ⟨o, rfl, ko⟩
    | true => exact ⟨t0, by simp [mBin, mAp, hc1, e2, ht0], kt0⟩
  obtain ⟨t, x3, a4, kt⟩ := changes_loop (x0 := .d (ScrD ns)) (x1 := .d (encM o)) (x4 := .un) (x5 := .un) (x6 := .un) (x7 := .un) (x8 := .un) (x9 := .un) (cutD ns (some 2) (some 8)) t1 .un kt1
  have a4' : mFor (mIt itemsD (mSlice (mVar 0) (mPart (mC (.int 2))) (mPart (mC (.int 8))))) (.nm 3) (mSet 2 (mAp m__law_changed (mCons (mVar 2) (mCons (mVar 3) mNil)))) [.d (ScrD ns), .d (encM o), .d (encM t1), .un, .un, .un, .un, .un, .un, .un] = .ok (.nx [.d (ScrD ns), .d (encM o), .d (encM t), x3, .un, .un, .un, .un, .un, .un]) := by
    rw [← cut_map] at a4
    exact a4
  have hw := within_ok ko kt
  show endF (b_law [.d (ScrD ns), .un, .un, .un, .un, .un, .un, .un, .un, .un]) = _
  unfold b_law
  rw [seq_run a1, seq_run a2, seq_run a3, seq_run a4']
  cases hb : bfs o t 12 lay0 with
  | some r =>
    rw [hb] at hw
    simp only at hw
    obtain ⟨s1, s2, s3, r', st, rfl, s4⟩ := found_of ko kt hb
    have hlen := found_len ko kt hb
    obtain ⟨k1, f1, p1⟩ := feet_ok ko s3 hlen
    obtain ⟨k2, f2, p2⟩ := feet_ok kt s3 hlen
    have q1 : 0 < k1 := p1.mpr s1
    have q2 : k2 = 0 := by
      rcases Nat.eq_zero_or_pos k2 with h | h
      · exact h
      · exact absurd (p2.mp h) s2
    subst q2
    have hrow := isrow_ok s3 s4
    have a5 : mSetF 4 (mAp m_metre_within (mCons (mVar 1) (mCons (mVar 2) mNil))) [.d (ScrD ns), .d (encM o), .d (encM t), x3, .un, .un, .un, .un, .un, .un] = .ok (.nx [.d (ScrD ns), .d (encM o), .d (encM t), x3, .ov (encRow (r' ++ [st])), .un, .un, .un, .un, .un]) := by
      have : ∀ ρ : Sto, setOv 4 (encRow (r' ++ [st])) ρ = ρ.set 4 (.ov (encRow (r' ++ [st]))) := fun _ => rfl
      simp [mAp, hw, this]
    have e5 : eqD (.int (k1 : Int)) (.int 0) = .ok (.bool false) := by
      rw [eq_int]
      refine congrArg (fun b => R.ok (PyData.bool b)) ?_
      simp only [PyData.eqv, beq_eq_false_iff_ne]
      omega
    have b1 : mBorT 4 (mBool (mBin isNN (mVar 4) (mC .none))) [.d (ScrD ns), .d (encM o), .d (encM t), x3, .ov (encRow (r' ++ [st])), .un, .un, .un, .un, .un] = .ok true := rfl
    have b2 : mBorT 4 (mOr (mNot (mBool (mAp m__law_is_row (mCons (mVar 4) mNil)))) (mOr (mBool (mBin eqD (mAp m__law_many_feet (mCons (mVar 1) (mCons (mVar 4) mNil))) (mC (.int 0)))) (mBool (mBin gtI (mAp m__law_many_feet (mCons (mVar 2) (mCons (mVar 4) mNil))) (mC (.int 0)))))) [.d (ScrD ns), .d (encM o), .d (encM t), x3, .ov (encRow (r' ++ [st])), .un, .un, .un, .un, .un] = .ok false := by
      simp at f2
      simp [mBorT, frz, mBin, mAp, hrow, f1, f2, e5]
    have b3 : mSet 8 (mListO 4) [.d (ScrD ns), .d (encM o), .d (encM t), x3, .ov (encRow (r' ++ [st])), .un, .un, .un, .un, .un] = .ok (.nx [.d (ScrD ns), .d (encM o), .d (encM t), x3, .ov (encRow (r' ++ [st])), .un, .un, .un, .d (encRow (r' ++ [st])), .un]) := rfl
    have b4 : mApp 4 (mTup (mCons (mC (.str "u")) (mCons (mC (.bool true)) mNil))) [.d (ScrD ns), .d (encM o), .d (encM t), x3, .ov (encRow (r' ++ [st])), .un, .un, .un, .d (encRow (r' ++ [st])), .un] = .ok (.nx [.d (ScrD ns), .d (encM o), .d (encM t), x3, .ov (.list ((r' ++ [st]).map encStp ++ [.tuple [.str "u", .bool true]])), .un, .un, .un, .d (encRow (r' ++ [st])), .un]) := by
      have hl : ((r' ++ [st]).map encStp).length < sizeLine := by have := sl_big; rw [List.length_map]; omega
      have er : encRow (r' ++ [st]) = .list ((r' ++ [st]).map encStp) := rfl
      rw [run_app]
      show (match (some (Sl.ov (encRow (r' ++ [st])))) with
        | some (.ov (.list ds)) => lift (mTup (mCons (mC (.str "u")) (mCons (mC (.bool true)) mNil)) _) _ fun x => if ds.length < sizeLine then .ok (.nx (List.set _ 4 (.ov (.list (ds ++ [x]))))) else .stuck
        | _ => .stuck) = _
      rw [er]
      simp only [run_tup, run_cons, run_c, run_nil, R.bind_ok, szT2, lift_ok]
      rw [if_pos hl]
      rfl
    have e6 : eqD (encRow (r' ++ [st])) (encRow (r' ++ [st])) = .ok (.bool true) := by
      have hs := sd_encRow _ s3
      rw [eq_ok hs hs]
      refine congrArg (fun b => R.ok (PyData.bool b)) ?_
      have : ∀ l : Row, PyData.eqvAll (l.map encStp) (l.map encStp) = true := by
        intro l
        induction l with
        | nil => rfl
        | cons x l ih => simp [PyData.eqvAll, ih, encStp, encSt, PyData.eqv, one]
      exact this _
    have b5 : mRet (mBin eqD (mAp m_metre_within (mCons (mVar 1) (mCons (mVar 2) mNil))) (mVar 8)) [.d (ScrD ns), .d (encM o), .d (encM t), x3, .ov (.list ((r' ++ [st]).map encStp ++ [.tuple [.str "u", .bool true]])), .un, .un, .un, .d (encRow (r' ++ [st])), .un] = .ok (.rt (.bool true) false) := by
      simp [mBin, mAp, hw, e6]
    rw [seq_run a5, run_seq, if_run b1]
    simp only [if_true]
    rw [run_seq, if_run b2]
    simp only [Bool.false_eq_true, if_false, run_nx]
    rw [seq_run b3, seq_run b4, b5]
    rfl
  | none =>
    rw [hb] at hw
    simp only at hw
    have a5 : mSetF 4 (mAp m_metre_within (mCons (mVar 1) (mCons (mVar 2) mNil))) [.d (ScrD ns), .d (encM o), .d (encM t), x3, .un, .un, .un, .un, .un, .un] = .ok (.nx [.d (ScrD ns), .d (encM o), .d (encM t), x3, .d .none, .un, .un, .un, .un, .un]) := by
      have : ∀ ρ : Sto, setOv 4 .none ρ = ρ.set 4 (.d .none) := fun _ => rfl
      simp [mAp, hw, this]
    have b1 : mBorT 4 (mBool (mBin isNN (mVar 4) (mC .none))) [.d (ScrD ns), .d (encM o), .d (encM t), x3, .d .none, .un, .un, .un, .un, .un] = .ok false := rfl
    have a7 : mSet 5 (mAp tupleD (mCons (mLc (mIt itemsD (mVar 1)) (.nm 9) [9] mYes (mTup (mCons (fun ρ => do tuprevD (← (mBin ixD (mVar 9) (mC (.int 0))) ρ)) (mCons (mBin ixD (mVar 9) (mC (.int 1))) mNil)))) mNil)) [.d (ScrD ns), .d (encM o), .d (encM t), x3, .d .none, .un, .un, .un, .un, .un] = .ok (.nx [.d (ScrD ns), .d (encM o), .d (encM t), x3, .d .none, .d (encM (turned o)), .un, .un, .un, .un]) := by
      rw [run_set, lc_metre ko (fun s => ⟨s.pats.reverse, s.cut⟩) rfl (comp_map _ o fun s hs => ?_)]
      · rfl
      · obtain ⟨g1, g2⟩ := slot_data s
        refine ⟨[.d (ScrD ns), .d (encM o), .d (encM t), x3, .d .none, .un, .un, .un, .un, .d (encSl s)], rfl, rfl, ?_⟩
        have g3 : tuprevD (.tuple (s.pats.map encP)) = .ok (.tuple (s.pats.reverse.map encP)) := by rw [List.map_reverse]; rfl
        simp only [run_tup, run_cons, run_nil, mBin, run_var_d, run_c, R.bind_ok, List.getElem?_cons_succ, List.getElem?_cons_zero, g1, g2, g3, szT2]
        rfl
    have a8 : mSet 6 (mAp tupleD (mCons (mLc (mIt itemsD (mVar 1)) (.nm 9) [9] mYes (mTup (mCons (mBin ixD (mVar 9) (mC (.int 0))) (mCons (mC (.bool false)) mNil)))) mNil)) [.d (ScrD ns), .d (encM o), .d (encM t), x3, .d .none, .d (encM (turned o)), .un, .un, .un, .un] = .ok (.nx [.d (ScrD ns), .d (encM o), .d (encM t), x3, .d .none, .d (encM (turned o)), .d (encM (uncut o)), .un, .un, .un]) := by
      rw [run_set, lc_metre ko (fun s => ⟨s.pats, false⟩) rfl (comp_map _ o fun s hs => ?_)]
      · rfl
      · obtain ⟨g1, g2⟩ := slot_data s
        refine ⟨[.d (ScrD ns), .d (encM o), .d (encM t), x3, .d .none, .d (encM (turned o)), .un, .un, .un, .d (encSl s)], rfl, rfl, ?_⟩
        simp only [run_tup, run_cons, run_nil, mBin, run_var_d, run_c, R.bind_ok, List.getElem?_cons_succ, List.getElem?_cons_zero, g1, szT2]
        rfl
    have h0 := Int.fmod_nonneg_of_pos c8 (b := 3) (by decide)
    have h1 := Int.fmod_lt_of_pos c8 (b := 3) (by decide)
    obtain ⟨v, hv⟩ : ∃ v : Nat, c8.fmod 3 = (v : Int) := ⟨(c8.fmod 3).toNat, by omega⟩
    obtain ⟨s, hs1, hs2, hs3⟩ : ∃ s : Metre, ixD (.list [encM o, encM (turned o), encM (uncut o)]) (.int (v : Int)) = .ok (encM s) ∧ OkM s ∧ ∀ r, Seg o r → Seg s r := by
      have hv3 : v < 3 := by omega
      match v, hv3 with
      | 0, _ => exact ⟨o, ix_lst rfl, ko, fun _ h => h⟩
      | 1, _ => exact ⟨turned o, ix_lst rfl, turned_ok ko, fun r h => seg_turned o r h⟩
      | 2, _ => exact ⟨uncut o, ix_lst rfl, uncut_ok ko, fun r h => seg_uncut o r h⟩
    have hn := none_of ko hs2 hs3
    have hw2 := within_ok ko hs2
    rw [hn] at hw2
    simp only at hw2
    have a9 : mSet 7 (mBin ixD (mLst (mCons (mVar 1) (mCons (mVar 5) (mCons (mVar 6) mNil)))) (mBin modI (mAp m__law_cell_at (mCons (mVar 0) (mCons (mC (.int 8)) mNil))) (mC (.int 3)))) [.d (ScrD ns), .d (encM o), .d (encM t), x3, .d .none, .d (encM (turned o)), .d (encM (uncut o)), .un, .un, .un] = .ok (.nx [.d (ScrD ns), .d (encM o), .d (encM t), x3, .d .none, .d (encM (turned o)), .d (encM (uncut o)), .d (encM s), .un, .un]) := by
      have hc8' : m__law_cell_at [ScrD ns, .int 8] = .ok (.int c8) := hc8
      simp [mBin, mAp, hc8', e4, hv, hs1]
    have a10 : mRet (mBin isN (mAp m_metre_within (mCons (mVar 1) (mCons (mVar 7) mNil))) (mC .none)) [.d (ScrD ns), .d (encM o), .d (encM t), x3, .d .none, .d (encM (turned o)), .d (encM (uncut o)), .d (encM s), .un, .un] = .ok (.rt (.bool true) false) := by
      simp [mBin, mAp, hw2, isN, isNoneD]
    rw [seq_run a5, run_seq, if_run b1]
    simp only [Bool.false_eq_true, if_false, run_nx]
    rw [seq_run a7, seq_run a8, seq_run a9, a10]
    rfl
theorem plain_law (ns : List Int) (_ : ns.length ≤ 63) : m_law [.list (ns.map PyData.int)] = .ok (.bool true) := law_ok ns
end Lilt.K80

set_option Elab.async false
set_option linter.all false
set_option maxRecDepth 100000
set_option maxHeartbeats 4000000
set_option autoImplicit false
namespace Lilt.K80
open PySem L2 Lilt
def top (i : Nat) : Stmt := PySem.Challenge.pw_lilt_k80_what_tells_metres_apart.main.body.getD i (.Pass ⟨0, 0, 0, 0⟩)
abbrev s_fits : Stmt := top 1
abbrev N_fits : List Str := ["mark", "pattern", "at"]
theorem sc_fits : FnScope N_fits ["mark", "pattern", "at"] (defScope s_fits) := ⟨rfl, rfl, rfl, by decide +kernel, rfl, by decide +kernel, by decide +kernel⟩
abbrev s_behind : Stmt := top 2
abbrev N_behind : List Str := ["metre", "slot", "pattern", "at", "ends", "patterns", "cut"]
theorem sc_behind : FnScope N_behind ["metre", "slot", "pattern", "at", "ends"] (defScope s_behind) := ⟨rfl, rfl, rfl, by decide +kernel, rfl, by decide +kernel, by decide +kernel⟩
abbrev s_is_through : Stmt := top 7
abbrev N_is_through : List Str := ["metre", "states"]
theorem sc_is_through : FnScope N_is_through ["metre", "states"] (defScope s_is_through) := ⟨rfl, rfl, rfl, by decide +kernel, rfl, by decide +kernel, by decide +kernel⟩
abbrev s__law_cell_at : Stmt := top 10
abbrev N__law_cell_at : List Str := ["_law_script", "_law_k"]
theorem sc__law_cell_at : FnScope N__law_cell_at ["_law_script", "_law_k"] (defScope s__law_cell_at) := ⟨rfl, rfl, rfl, by decide +kernel, rfl, by decide +kernel, by decide +kernel⟩
abbrev s__law_mix : Stmt := top 11
abbrev N__law_mix : List Str := ["_law_cell", "_law_k"]
theorem sc__law_mix : FnScope N__law_mix ["_law_cell", "_law_k"] (defScope s__law_mix) := ⟨rfl, rfl, rfl, by decide +kernel, rfl, by decide +kernel, by decide +kernel⟩
abbrev s__law_pattern : Stmt := top 12
abbrev N__law_pattern : List Str := ["_law_number", "_law_k"]
theorem sc__law_pattern : FnScope N__law_pattern ["_law_number"] (defScope s__law_pattern) := ⟨rfl, rfl, rfl, by decide +kernel, rfl, by decide +kernel, by decide +kernel⟩
abbrev s__law_fits : Stmt := top 16
abbrev N__law_fits : List Str := ["_law_row", "_law_at", "_law_pattern_here", "_law_cut", "_law_k"]
theorem sc__law_fits : FnScope N__law_fits ["_law_row", "_law_at", "_law_pattern_here", "_law_cut"] (defScope s__law_fits) := ⟨rfl, rfl, rfl, by decide +kernel, rfl, by decide +kernel, by decide +kernel⟩
abbrev s__law_is_row : Stmt := top 18
abbrev N__law_is_row : List Str := ["_law_found", "_law_step"]
theorem sc__law_is_row : FnScope N__law_is_row ["_law_found"] (defScope s__law_is_row) := ⟨rfl, rfl, rfl, by decide +kernel, rfl, by decide +kernel, by decide +kernel⟩
abbrev s_moves_of : Stmt := top 3
abbrev N_moves_of : List Str := ["metre", "state", "mark", "ends", "slot", "chosen", "at", "patterns", "found", "k", "pattern"]
theorem sc_moves_of : FnScope N_moves_of ["metre", "state", "mark", "ends"] (defScope s_moves_of) := ⟨rfl, rfl, rfl, by decide +kernel, rfl, by decide +kernel, by decide +kernel⟩
abbrev s__law_slot : Stmt := top 13
abbrev N__law_slot : List Str := ["_law_number", "_law_patterns", "_law_k", "_law_one"]
theorem sc__law_slot : FnScope N__law_slot ["_law_number"] (defScope s__law_slot) := ⟨rfl, rfl, rfl, by decide +kernel, rfl, by decide +kernel, by decide +kernel⟩
abbrev s__law_changed : Stmt := top 15
abbrev N__law_changed : List Str := ["_law_metre_here", "_law_cell", "_law_at", "_law_patterns", "_law_cut", "_law_number", "_law_more"]
theorem sc__law_changed : FnScope N__law_changed ["_law_metre_here", "_law_cell"] (defScope s__law_changed) := ⟨rfl, rfl, rfl, by decide +kernel, rfl, by decide +kernel, by decide +kernel⟩
abbrev s__law_many_feet : Stmt := top 17
abbrev N__law_many_feet : List Str := ["_law_metre_here", "_law_row", "_law_ways", "_law_patterns", "_law_cut", "_law_later", "_law_at", "_law_pattern_here"]
theorem sc__law_many_feet : FnScope N__law_many_feet ["_law_metre_here", "_law_row"] (defScope s__law_many_feet) := ⟨rfl, rfl, rfl, by decide +kernel, rfl, by decide +kernel, by decide +kernel⟩
abbrev s_reached_all : Stmt := top 6
abbrev N_reached_all : List Str := ["metre", "states", "step", "found", "state", "pattern", "behind"]
theorem sc_reached_all : FnScope N_reached_all ["metre", "states", "step"] (defScope s_reached_all) := ⟨rfl, rfl, rfl, by decide +kernel, rfl, by decide +kernel, by decide +kernel⟩
abbrev s__law_metre : Stmt := top 14
abbrev N__law_metre : List Str := ["_law_cell", "_law_most", "_law_k"]
theorem sc__law_metre : FnScope N__law_metre ["_law_cell", "_law_most"] (defScope s__law_metre) := ⟨rfl, rfl, rfl, by decide +kernel, rfl, by decide +kernel, by decide +kernel⟩
abbrev s_metre_within : Stmt := top 8
abbrev N_metre_within : List Str := ["one", "other", "layer", "below", "pair", "step", "mine", "theirs", "row"]
theorem sc_metre_within : FnScope N_metre_within ["one", "other"] (defScope s_metre_within) := ⟨rfl, rfl, rfl, by decide +kernel, rfl, by decide +kernel, by decide +kernel⟩
abbrev s_law : Stmt := top 19
abbrev N_law : List Str := ["_law_script", "_law_one", "_law_other", "_law_cell", "_law_found", "_law_turned", "_law_uncut", "_law_same", "_law_kept", "_law_slot_here"]
theorem sc_law : FnScope N_law ["_law_script"] (defScope s_law) := ⟨rfl, rfl, rfl, by decide +kernel, rfl, by decide +kernel, by decide +kernel⟩
/-- the built-ins are not hidden -/
structure Mg (mg : Str → Option Value) : Prop where
  all : mg "all" = none
  any : mg "any" = none
  bool : mg "bool" = none
  dict : mg "dict" = none
  enumerate : mg "enumerate" = none
  int : mg "int" = none
  isinstance : mg "isinstance" = none
  len : mg "len" = none
  list : mg "list" = none
  max : mg "max" = none
  min : mg "min" = none
  range : mg "range" = none
  reversed : mg "reversed" = none
  sorted : mg "sorted" = none
  str : mg "str" = none
  tuple : mg "tuple" = none
  zip : mg "zip" = none
/-- where the defs stand -/
structure Ds (K : PySem.W.Frag) (mg : Str → Option Value) where
  f_fits : Addr
  d_fits : FuncData
  fits : DefAt K mg "fits" s_fits ["mark", "pattern", "at"] f_fits d_fits
  f_behind : Addr
  d_behind : FuncData
  behind : DefAt K mg "behind" s_behind ["metre", "slot", "pattern", "at", "ends"] f_behind d_behind
  f_is_through : Addr
  d_is_through : FuncData
  is_through : DefAt K mg "is_through" s_is_through ["metre", "states"] f_is_through d_is_through
  f__law_cell_at : Addr
  d__law_cell_at : FuncData
  _law_cell_at : DefAt K mg "_law_cell_at" s__law_cell_at ["_law_script", "_law_k"] f__law_cell_at d__law_cell_at
  f__law_mix : Addr
  d__law_mix : FuncData
  _law_mix : DefAt K mg "_law_mix" s__law_mix ["_law_cell", "_law_k"] f__law_mix d__law_mix
  f__law_pattern : Addr
  d__law_pattern : FuncData
  _law_pattern : DefAt K mg "_law_pattern" s__law_pattern ["_law_number"] f__law_pattern d__law_pattern
  f__law_fits : Addr
  d__law_fits : FuncData
  _law_fits : DefAt K mg "_law_fits" s__law_fits ["_law_row", "_law_at", "_law_pattern_here", "_law_cut"] f__law_fits d__law_fits
  f__law_is_row : Addr
  d__law_is_row : FuncData
  _law_is_row : DefAt K mg "_law_is_row" s__law_is_row ["_law_found"] f__law_is_row d__law_is_row
  f_moves_of : Addr
  d_moves_of : FuncData
  moves_of : DefAt K mg "moves_of" s_moves_of ["metre", "state", "mark", "ends"] f_moves_of d_moves_of
  f__law_slot : Addr
  d__law_slot : FuncData
  _law_slot : DefAt K mg "_law_slot" s__law_slot ["_law_number"] f__law_slot d__law_slot
  f__law_changed : Addr
  d__law_changed : FuncData
  _law_changed : DefAt K mg "_law_changed" s__law_changed ["_law_metre_here", "_law_cell"] f__law_changed d__law_changed
  f__law_many_feet : Addr
  d__law_many_feet : FuncData
  _law_many_feet : DefAt K mg "_law_many_feet" s__law_many_feet ["_law_metre_here", "_law_row"] f__law_many_feet d__law_many_feet
  f_reached_all : Addr
  d_reached_all : FuncData
  reached_all : DefAt K mg "reached_all" s_reached_all ["metre", "states", "step"] f_reached_all d_reached_all
  f__law_metre : Addr
  d__law_metre : FuncData
  _law_metre : DefAt K mg "_law_metre" s__law_metre ["_law_cell", "_law_most"] f__law_metre d__law_metre
  f_metre_within : Addr
  d_metre_within : FuncData
  metre_within : DefAt K mg "metre_within" s_metre_within ["one", "other"] f_metre_within d_metre_within
  f_law : Addr
  d_law : FuncData
  law : DefAt K mg "law" s_law ["_law_script"] f_law d_law
  g_STEPS : GlobAt K mg "STEPS" (.tuple [.tuple [.str "u", .bool false], .tuple [.str "u", .bool true], .tuple [.str "-", .bool false], .tuple [.str "-", .bool true]])
section
variable {P : Program} {w : World} {K : PySem.W.Frag} {mg : Str → Option Value} {base : Heap} {cl : Str → Addr}
theorem ok_fits (Z : Ds K mg) (B : Mg mg) : FnOk P w K mg base (L2.CX P w) 1 Z.f_fits Z.d_fits ["mark", "pattern", "at"] (spOf ⟨P, w, K, cl⟩ 3 m_fits) :=
  fn_ok (m := b_fits) (N := N_fits) rfl rfl rfl Z.fits.fn sc_fits (by decide) fun cdv A outer s H E hr =>
    (ss_one (s_ret (ee_or (ee_cmp (op_eqD hr.units) s_eq (ee_ix ix_seq s_ix (ee_var 1 (pv 1)) (ee_var 2 (pv 2))) (ee_var 0 (pv 0))) (ee_one (ee_cmp (op_eqD hr.units) s_eq (ee_ix ix_seq s_ix (ee_var 1 (pv 1)) (ee_var 2 (pv 2))) ee_str)))))
theorem ok_behind (Z : Ds K mg) (B : Mg mg) : FnOk P w K mg base (L2.CX P w) 1 Z.f_behind Z.d_behind ["metre", "slot", "pattern", "at", "ends"] (spOf ⟨P, w, K, cl⟩ 5 m_behind) :=
  fn_ok (m := b_behind) (N := N_behind) rfl rfl rfl Z.behind.fn sc_behind (by decide) fun cdv A outer s H E hr =>
    (ss_cons (s_unp (t := .tp [.nm 5, .nm 6]) (ee_ix ix_seq s_ix (ee_var 0 (pv 0)) (ee_var 1 (pv 1))) (pg_tup rfl (pgs_cons (pg_name (i := 5) sc_behind.nd rfl (by first | exact Or.inl rfl | exact Or.inr rfl)) (pgs_cons (pg_name (i := 6) sc_behind.nd rfl (by first | exact Or.inl rfl | exact Or.inr rfl)) pgs_nil)))) (ss_cons (s_if (et_cmp op_lt s_lt (ee_var 3 (pv 3)) (ee_callB call_len s_len B.len (ea_cons (ee_ix ix_seq s_ix (ee_var 5 (pv 5)) (ee_var 2 (pv 2))) ea_nil))) (ss_one (s_ret (ee_of (ef_lst (ea_cons (ee_tup (ea_cons (ee_var 2 (pv 2)) (ea_cons (ee_tup (ea_cons (ee_var 1 (pv 1)) (ea_cons (ee_var 2 (pv 2)) (ea_cons (ee_var 3 (pv 3)) ea_nil)))) ea_nil))) ea_nil))))) ss_nil) (ss_cons (s_if (et_w (ew_and (et_val (ee_var 6 (pv 6))) (ew_and1 (et_not (et_val (ee_var 4 (pv 4))))))) (ss_one (s_ret (ee_of (ef_lst ea_nil)))) ss_nil) (ss_one (s_ret (ee_of (ef_lst (ea_cons (ee_tup (ea_cons (ee_var 2 (pv 2)) (ea_cons (ee_tup (ea_cons (ee_of (ef_add rfl (ee_var 1 (pv 1)) ee_int)) (ea_cons ee_int (ea_cons ee_int ea_nil)))) ea_nil))) ea_nil))))))))
theorem ok_is_through (Z : Ds K mg) (B : Mg mg) : FnOk P w K mg base (L2.CX P w) 1 Z.f_is_through Z.d_is_through ["metre", "states"] (spOf ⟨P, w, K, cl⟩ 2 m_is_through) :=
  fn_ok (m := b_is_through) (N := N_is_through) rfl rfl rfl Z.is_through.fn sc_is_through (by decide) fun cdv A outer s H E hr =>
    (ss_one (s_ret (ee_cmp (op_inA (hu65 hr)) s_inA (ee_tup (ea_cons (ee_callB call_len s_len B.len (ea_cons (ee_var 0 (pv 0)) ea_nil)) (ea_cons ee_int (ea_cons ee_int ea_nil)))) (ee_var 1 (pv 1)))))
theorem ok__law_cell_at (Z : Ds K mg) (B : Mg mg) : FnOk P w K mg base (L2.CX P w) 1 Z.f__law_cell_at Z.d__law_cell_at ["_law_script", "_law_k"] (spOf ⟨P, w, K, cl⟩ 2 m__law_cell_at) :=
  fn_ok (m := b__law_cell_at) (N := N__law_cell_at) rfl rfl rfl Z._law_cell_at.fn sc__law_cell_at (by decide) fun cdv A outer s H E hr =>
    (ss_cons (s_if (et_cmp op_lt s_lt (ee_var 1 (pv 1)) (ee_callB call_len s_len B.len (ea_cons (ee_var 0 (pv 0)) ea_nil))) (ss_one (s_ret (ee_ix ix_seq s_ix (ee_var 0 (pv 0)) (ee_var 1 (pv 1))))) ss_nil) (ss_one (s_ret ee_int)))
theorem ok__law_mix (Z : Ds K mg) (B : Mg mg) : FnOk P w K mg base (L2.CX P w) 1 Z.f__law_mix Z.d__law_mix ["_law_cell", "_law_k"] (spOf ⟨P, w, K, cl⟩ 2 m__law_mix) :=
  fn_ok (m := b__law_mix) (N := N__law_mix) rfl rfl rfl Z._law_mix.fn sc__law_mix (by decide) fun cdv A outer s H E hr =>
    (ss_one (s_ret (ee_bin op_modN s_mod (ee_of (ef_add rfl (ee_bin op_mul s_mul (ee_bin op_modN s_mod (ee_var 0 (pv 0)) ee_int) (ee_of (ef_add rfl ee_int (ee_bin op_mul s_mul (ee_bin op_mul s_mul ee_int (ee_var 1 (pv 1))) (ee_var 1 (pv 1)))))) (ee_bin op_mul s_mul ee_int (ee_var 1 (pv 1))))) ee_int)))
theorem ok__law_pattern (Z : Ds K mg) (B : Mg mg) : FnOk P w K mg base (L2.CX P w) 1 Z.f__law_pattern Z.d__law_pattern ["_law_number"] (spOf ⟨P, w, K, cl⟩ 1 m__law_pattern) :=
  fn_ok (m := b__law_pattern) (N := N__law_pattern) rfl rfl rfl Z._law_pattern.fn sc__law_pattern (by decide) fun cdv A outer s H E hr =>
    (ss_one (s_ret (ee_join rfl ee_str (ee_of (ef_lc (own := [("_law_k", 1)]) (t := .nm 1) rfl sc__law_pattern.nd (ei_range1 B.range (ea_cons (ee_of (ef_add rfl ee_int (ee_bin op_modN s_mod (ee_bin op_modN s_mod (ee_var 0 (pv 0)) ee_int) ee_int))) ea_nil)) (blkOk_by (own := [("_law_k", 1)]) (N := N__law_pattern) (sc := defScope s__law_pattern) (by decide +kernel)) (fun _ _ _ _ _ => (pg_name (i := 1) sc__law_pattern.nd rfl (by first | exact Or.inl rfl | exact Or.inr rfl))) (fun _ _ _ _ _ => et_yes) (fun _ _ _ _ _ => (ee_ix ix_seq s_ix ee_str (ee_bin op_modN s_mod (ee_bin op_fdivN s_div (ee_var 0 (pv 0)) (ee_ix ix_seq s_ix (ee_of (ef_lst (ea_cons ee_int (ea_cons ee_int (ea_cons ee_int (ea_cons ee_int ea_nil)))))) (ee_var 1 (pv 1)))) ee_int))) (by decide))))))
theorem ok__law_fits (Z : Ds K mg) (B : Mg mg) : FnOk P w K mg base (L2.CX P w) 1 Z.f__law_fits Z.d__law_fits ["_law_row", "_law_at", "_law_pattern_here", "_law_cut"] (spOf ⟨P, w, K, cl⟩ 4 m__law_fits) :=
  fn_ok (m := b__law_fits) (N := N__law_fits) rfl rfl rfl Z._law_fits.fn sc__law_fits (by decide) fun cdv A outer s H E hr =>
    (ss_cons (s_if (et_w (ew_or (et_cmp op_gt s_gt (ee_of (ef_add rfl (ee_var 1 (pv 1)) (ee_callB call_len s_len B.len (ea_cons (ee_var 2 (pv 2)) ea_nil)))) (ee_callB call_len s_len B.len (ea_cons (ee_var 0 (pv 0)) ea_nil))) (ew_or1 (et_w (ew_and (et_val (ee_var 3 (pv 3))) (ew_and1 (et_not (et_val (ee_ix ix_seq s_ix (ee_ix ix_seq s_ix (ee_var 0 (pv 0)) (ee_bin op_sub s_sub (ee_of (ef_add rfl (ee_var 1 (pv 1)) (ee_callB call_len s_len B.len (ea_cons (ee_var 2 (pv 2)) ea_nil)))) ee_int)) ee_int))))))))) (ss_one (s_ret ee_bl)) ss_nil) (ss_one (s_ret (ee_cmp (op_eqD hr.units) s_eq (ee_of (ef_lc (own := [("_law_k", 4)]) (t := .nm 4) rfl sc__law_fits.nd (ei_range1 B.range (ea_cons (ee_callB call_len s_len B.len (ea_cons (ee_var 2 (pv 2)) ea_nil)) ea_nil)) (blkOk_by (own := [("_law_k", 4)]) (N := N__law_fits) (sc := defScope s__law_fits) (by decide +kernel)) (fun _ _ _ _ _ => (pg_name (i := 4) sc__law_fits.nd rfl (by first | exact Or.inl rfl | exact Or.inr rfl))) (fun _ _ _ _ _ => ets_one (et_cmp (op_notinA (hu65 hr)) s_notinA (ee_ix ix_seq s_ix (ee_var 2 (pv 2)) (ee_var 4 (pv 4))) (ee_tup (ea_cons ee_str (ea_cons (ee_ix ix_seq s_ix (ee_ix ix_seq s_ix (ee_var 0 (pv 0)) (ee_of (ef_add rfl (ee_var 1 (pv 1)) (ee_var 4 (pv 4))))) ee_int) ea_nil))))) (fun _ _ _ _ _ => (ee_var 4 (pv 4))) (by decide))) (ee_of (ef_lst ea_nil))))))
theorem ok__law_is_row (Z : Ds K mg) (B : Mg mg) : FnOk P w K mg base (L2.CX P w) 1 Z.f__law_is_row Z.d__law_is_row ["_law_found"] (spOf ⟨P, w, K, cl⟩ 1 m__law_is_row) :=
  fn_ok (m := b__law_is_row) (N := N__law_is_row) rfl rfl rfl Z._law_is_row.fn sc__law_is_row (by decide) fun cdv A outer s H E hr =>
    (ss_cons (s_if (et_w (ew_or (et_not (et_val (ee_isi isi_list rfl B.isinstance B.list (ee_var 0 (pv 0)) (by decide +kernel) (by decide) (by decide)))) (ew_or (et_cmp (op_eqD hr.units) s_eq (ee_var 0 (pv 0)) (ee_of (ef_lst ea_nil))) (ew_or1 (et_cmp op_isnot_bl s_isnotA (ee_ix ix_seq s_ix (ee_ix ix_seq s_ix (ee_var 0 (pv 0)) (ee_neg ee_int)) ee_int) ee_bl))))) (ss_one (s_ret ee_bl)) ss_nil) (ss_cons (s_for (t := .nm 1) (passes_of rfl) rfl (ei_seq rfl (ee_var 0 (pv 0))) (pg_name (i := 1) sc__law_is_row.nd rfl (by first | exact Or.inl rfl | exact Or.inr rfl)) (ss_one (s_if (et_w (ew_or (et_not (et_val (ee_isi isi_tuple rfl B.isinstance B.tuple (ee_var 1 (pv 1)) (by decide +kernel) (by decide) (by decide)))) (ew_or (et_cmp (op_neD hr.units) s_ne (ee_callB call_len s_len B.len (ea_cons (ee_var 1 (pv 1)) ea_nil)) ee_int) (ew_or (et_cmp (op_notinA (hu65 hr)) s_notinA (ee_ix ix_seq s_ix (ee_var 1 (pv 1)) ee_int) (ee_tup (ea_cons ee_str (ea_cons ee_str ea_nil)))) (ew_or1 (et_not (et_val (ee_isi isi_bool rfl B.isinstance B.bool (ee_ix ix_seq s_ix (ee_var 1 (pv 1)) ee_int) (by decide +kernel) (by decide) (by decide))))))))) (ss_one (s_ret ee_bl)) ss_nil))) (ss_one (s_ret ee_bl))))
theorem ok_moves_of (Z : Ds K mg) (B : Mg mg) : FnOk P w K mg base (L2.CX P w) 2 Z.f_moves_of Z.d_moves_of ["metre", "state", "mark", "ends"] (spOf ⟨P, w, K, cl⟩ 4 m_moves_of) :=
  fn_ok (m := b_moves_of) (N := N_moves_of) rfl rfl rfl Z.moves_of.fn sc_moves_of (by decide) fun cdv A outer s H E hr =>
    (ss_cons (s_unp (t := .tp [.nm 4, .nm 5, .nm 6]) (ee_var 1 (pv 1)) (pg_tup rfl (pgs_cons (pg_name (i := 4) sc_moves_of.nd rfl (by first | exact Or.inl rfl | exact Or.inr rfl)) (pgs_cons (pg_name (i := 5) sc_moves_of.nd rfl (by first | exact Or.inl rfl | exact Or.inr rfl)) (pgs_cons (pg_name (i := 6) sc_moves_of.nd rfl (by first | exact Or.inl rfl | exact Or.inr rfl)) pgs_nil))))) (ss_cons (s_if (et_cmp (op_eqD hr.units) s_eq (ee_var 4 (pv 4)) (ee_callB call_len s_len B.len (ea_cons (ee_var 0 (pv 0)) ea_nil))) (ss_one (s_ret (ee_of (ef_lst ea_nil)))) ss_nil) (ss_cons (s_set (i := 7) sc_moves_of.nd rfl (by first | exact Or.inl rfl | exact Or.inr rfl) (ee_ix ix_seq s_ix (ee_ix ix_seq s_ix (ee_var 0 (pv 0)) (ee_var 4 (pv 4))) ee_int)) (ss_cons (s_if (et_cmp op_gt s_gt (ee_var 6 (pv 6)) ee_int) (ss_cons (s_if (et_not (et_val (ee_call (ok_fits Z B) (hr.mono (by decide)) (okx_def (takes_of rfl rfl rfl rfl)) Z.fits.at_ Z.fits.fn.kp Z.fits.bi (ea_cons (ee_var 2 (pv 2)) (ea_cons (ee_ix ix_seq s_ix (ee_var 7 (pv 7)) (ee_var 5 (pv 5))) (ea_cons (ee_var 6 (pv 6)) ea_nil))) (mn_cons (mn_cons (mn_cons mn_nil)))))) (ss_one (s_ret (ee_of (ef_lst ea_nil)))) ss_nil) (ss_one (s_ret (ee_call (ok_behind Z B) (hr.mono (by decide)) (okx_def (takes_of rfl rfl rfl rfl)) Z.behind.at_ Z.behind.fn.kp Z.behind.bi (ea_cons (ee_var 0 (pv 0)) (ea_cons (ee_var 4 (pv 4)) (ea_cons (ee_var 5 (pv 5)) (ea_cons (ee_of (ef_add rfl (ee_var 6 (pv 6)) ee_int)) (ea_cons (ee_var 3 (pv 3)) ea_nil))))) (mn_cons (mn_cons (mn_cons (mn_cons (mn_cons mn_nil))))))))) ss_nil) (ss_cons (s_set (i := 8) sc_moves_of.nd rfl (by first | exact Or.inl rfl | exact Or.inr rfl) (ee_of (ef_lst ea_nil))) (ss_cons (s_for (t := .tp [.nm 9, .nm 10]) (passes_of rfl) rfl (ei_enumA rfl B.enumerate (ea_cons (ee_var 7 (pv 7)) ea_nil)) (pg_tup rfl (pgs_cons (pg_name (i := 9) sc_moves_of.nd rfl (by first | exact Or.inl rfl | exact Or.inr rfl)) (pgs_cons (pg_name (i := 10) sc_moves_of.nd rfl (by first | exact Or.inl rfl | exact Or.inr rfl)) pgs_nil))) (ss_one (s_if (et_val (ee_call (ok_fits Z B) (hr.mono (by decide)) (okx_def (takes_of rfl rfl rfl rfl)) Z.fits.at_ Z.fits.fn.kp Z.fits.bi (ea_cons (ee_var 2 (pv 2)) (ea_cons (ee_var 10 (pv 10)) (ea_cons ee_int ea_nil))) (mn_cons (mn_cons (mn_cons mn_nil))))) (ss_one (s_set (i := 8) sc_moves_of.nd rfl (by first | exact Or.inl rfl | exact Or.inr rfl) (ee_of (ef_add rfl (ee_var 8 (pv 8)) (ee_call (ok_behind Z B) (hr.mono (by decide)) (okx_def (takes_of rfl rfl rfl rfl)) Z.behind.at_ Z.behind.fn.kp Z.behind.bi (ea_cons (ee_var 0 (pv 0)) (ea_cons (ee_var 4 (pv 4)) (ea_cons (ee_var 9 (pv 9)) (ea_cons ee_int (ea_cons (ee_var 3 (pv 3)) ea_nil))))) (mn_cons (mn_cons (mn_cons (mn_cons (mn_cons mn_nil)))))))))) ss_nil))) (ss_one (s_ret (ee_var 8 (pv 8))))))))))
theorem ok__law_slot (Z : Ds K mg) (B : Mg mg) : FnOk P w K mg base (L2.CX P w) 2 Z.f__law_slot Z.d__law_slot ["_law_number"] (spOf ⟨P, w, K, cl⟩ 1 m__law_slot) :=
  fn_ok (m := b__law_slot) (N := N__law_slot) rfl rfl rfl Z._law_slot.fn sc__law_slot (by decide) fun cdv A outer s H E hr =>
    (ss_cons (s_setF (i := 1) sc__law_slot.nd rfl (by first | exact Or.inl rfl | exact Or.inr rfl) (ef_lst ea_nil)) (ss_cons (s_for (t := .nm 2) (passes_of rfl) rfl (ei_range1 B.range (ea_cons (ee_of (ef_add rfl ee_int (ee_bin op_modN s_mod (ee_var 0 (pv 0)) ee_int))) ea_nil)) (pg_name (i := 2) sc__law_slot.nd rfl (by first | exact Or.inl rfl | exact Or.inr rfl)) (ss_cons (s_set (i := 3) sc__law_slot.nd rfl (by first | exact Or.inl rfl | exact Or.inr rfl) (ee_call (ok__law_pattern Z B) (hr.mono (by decide)) (okx_def (takes_of rfl rfl rfl rfl)) Z._law_pattern.at_ Z._law_pattern.fn.kp Z._law_pattern.bi (ea_cons (ee_call (ok__law_mix Z B) (hr.mono (by decide)) (okx_def (takes_of rfl rfl rfl rfl)) Z._law_mix.at_ Z._law_mix.fn.kp Z._law_mix.bi (ea_cons (ee_bin op_fdivN s_div (ee_var 0 (pv 0)) ee_int) (ea_cons (ee_var 2 (pv 2)) ea_nil)) (mn_cons (mn_cons mn_nil))) ea_nil) (mn_cons mn_nil))) (ss_one (s_if (et_bor 1 (et_cmp (op_notinA (hu65 hr)) s_notinA (ee_var 3 (pv 3)) (ee_var 1 (pv 1)))) (ss_one (s_app 1 rfl (pv 1) (ee_var 3 (pv 3)))) ss_nil)))) (ss_frz 1 (ss_one (s_ret (ee_tup (ea_cons (ee_callT call_tuple_of s_tuple B.tuple (ea_cons (ee_var 1 (pv 1)) ea_nil)) (ea_cons (ee_cmp (op_eqD hr.units) s_eq (ee_bin op_modN s_mod (ee_bin op_fdivN s_div (ee_var 0 (pv 0)) ee_int) ee_int) ee_int) ea_nil))))))))
theorem ok__law_changed (Z : Ds K mg) (B : Mg mg) : FnOk P w K mg base (L2.CX P w) 2 Z.f__law_changed Z.d__law_changed ["_law_metre_here", "_law_cell"] (spOf ⟨P, w, K, cl⟩ 2 m__law_changed) :=
  fn_ok (m := b__law_changed) (N := N__law_changed) rfl rfl rfl Z._law_changed.fn sc__law_changed (by decide) fun cdv A outer s H E hr =>
    (ss_cons (s_set (i := 2) sc__law_changed.nd rfl (by first | exact Or.inl rfl | exact Or.inr rfl) (ee_bin op_modN s_mod (ee_var 1 (pv 1)) (ee_callB call_len s_len B.len (ea_cons (ee_var 0 (pv 0)) ea_nil)))) (ss_cons (s_unp (t := .tp [.nm 3, .nm 4]) (ee_ix ix_seq s_ix (ee_var 0 (pv 0)) (ee_var 2 (pv 2))) (pg_tup rfl (pgs_cons (pg_name (i := 3) sc__law_changed.nd rfl (by first | exact Or.inl rfl | exact Or.inr rfl)) (pgs_cons (pg_name (i := 4) sc__law_changed.nd rfl (by first | exact Or.inl rfl | exact Or.inr rfl)) pgs_nil)))) (ss_cons (s_set (i := 5) sc__law_changed.nd rfl (by first | exact Or.inl rfl | exact Or.inr rfl) (ee_bin op_fdivN s_div (ee_var 1 (pv 1)) (ee_callB call_len s_len B.len (ea_cons (ee_var 0 (pv 0)) ea_nil)))) (ss_cons (s_set (i := 6) sc__law_changed.nd rfl (by first | exact Or.inl rfl | exact Or.inr rfl) (ee_call (ok__law_pattern Z B) (hr.mono (by decide)) (okx_def (takes_of rfl rfl rfl rfl)) Z._law_pattern.at_ Z._law_pattern.fn.kp Z._law_pattern.bi (ea_cons (ee_bin op_fdivN s_div (ee_var 5 (pv 5)) ee_int) ea_nil) (mn_cons mn_nil))) (ss_cons (s_if (et_w (ew_and (et_cmp (op_eqD hr.units) s_eq (ee_bin op_modN s_mod (ee_var 5 (pv 5)) ee_int) ee_int) (ew_and (et_cmp (op_notinA (hu65 hr)) s_notinA (ee_var 6 (pv 6)) (ee_var 3 (pv 3))) (ew_and1 (et_cmp op_lt s_lt (ee_callB call_len s_len B.len (ea_cons (ee_var 3 (pv 3)) ea_nil)) ee_int))))) (ss_one (s_set (i := 3) sc__law_changed.nd rfl (by first | exact Or.inl rfl | exact Or.inr rfl) (ee_of (ef_add rfl (ee_var 3 (pv 3)) (ee_tup (ea_cons (ee_var 6 (pv 6)) ea_nil)))))) ss_nil) (ss_cons (s_if (et_w (ew_and (et_cmp (op_eqD hr.units) s_eq (ee_bin op_modN s_mod (ee_var 5 (pv 5)) ee_int) ee_int) (ew_and1 (et_cmp op_gt s_gt (ee_callB call_len s_len B.len (ea_cons (ee_var 3 (pv 3)) ea_nil)) ee_int)))) (ss_one (s_set (i := 3) sc__law_changed.nd rfl (by first | exact Or.inl rfl | exact Or.inr rfl) (ee_of (ef_slice rfl (ee_var 3 (pv 3)) (eo_some ee_int) eo_none)))) ss_nil) (ss_cons (s_if (et_cmp (op_eqD hr.units) s_eq (ee_bin op_modN s_mod (ee_var 5 (pv 5)) ee_int) ee_int) (ss_one (s_set (i := 4) sc__law_changed.nd rfl (by first | exact Or.inl rfl | exact Or.inr rfl) (ee_not (ee_var 4 (pv 4))))) ss_nil) (ss_cons (s_if (et_cmp (op_eqD hr.units) s_eq (ee_bin op_modN s_mod (ee_var 5 (pv 5)) ee_int) ee_int) (ss_one (s_set (i := 3) sc__law_changed.nd rfl (by first | exact Or.inl rfl | exact Or.inr rfl) (ee_tup (ea_cons (ee_bin op_mulS s_mulS ee_str (ee_callB call_len s_len B.len (ea_cons (ee_ix ix_seq s_ix (ee_var 3 (pv 3)) ee_int) ea_nil))) ea_nil)))) ss_nil) (ss_cons (s_if (et_cmp (op_eqD hr.units) s_eq (ee_bin op_modN s_mod (ee_var 5 (pv 5)) ee_int) ee_int) (ss_one (s_set (i := 3) sc__law_changed.nd rfl (by first | exact Or.inl rfl | exact Or.inr rfl) (ee_tuprev rfl rfl B.tuple B.reversed (ee_var 3 (pv 3))))) ss_nil) (ss_one (s_ret (ee_of (ef_add rfl (ee_of (ef_add rfl (ee_of (ef_slice rfl (ee_var 0 (pv 0)) eo_none (eo_some (ee_var 2 (pv 2))))) (ee_tup (ea_cons (ee_tup (ea_cons (ee_var 3 (pv 3)) (ea_cons (ee_var 4 (pv 4)) ea_nil))) ea_nil)))) (ee_of (ef_slice rfl (ee_var 0 (pv 0)) (eo_some (ee_of (ef_add rfl (ee_var 2 (pv 2)) ee_int))) eo_none)))))))))))))))
theorem ok__law_many_feet (Z : Ds K mg) (B : Mg mg) : FnOk P w K mg base (L2.CX P w) 2 Z.f__law_many_feet Z.d__law_many_feet ["_law_metre_here", "_law_row"] (spOf ⟨P, w, K, cl⟩ 2 m__law_many_feet) :=
  fn_ok (m := b__law_many_feet) (N := N__law_many_feet) rfl rfl rfl Z._law_many_feet.fn sc__law_many_feet (by decide) fun cdv A outer s H E hr =>
    (ss_cons (s_set (i := 2) sc__law_many_feet.nd rfl (by first | exact Or.inl rfl | exact Or.inr rfl) (ee_of (ef_ddisp1K ee_int ee_int))) (ss_cons (s_for (t := .tp [.nm 3, .nm 4]) (passes_of rfl) rfl (ei_seq rfl (ee_var 0 (pv 0))) (pg_tup rfl (pgs_cons (pg_name (i := 3) sc__law_many_feet.nd rfl (by first | exact Or.inl rfl | exact Or.inr rfl)) (pgs_cons (pg_name (i := 4) sc__law_many_feet.nd rfl (by first | exact Or.inl rfl | exact Or.inr rfl)) pgs_nil))) (ss_cons (s_setF (i := 5) sc__law_many_feet.nd rfl (by first | exact Or.inl rfl | exact Or.inr rfl) ef_dnewK) (ss_cons (s_forDK 2 (t := .nm 6) (passes_of rfl) rfl (pv 2) (pg_name (i := 6) sc__law_many_feet.nd rfl (by first | exact Or.inl rfl | exact Or.inr rfl)) (ss_one (s_for (t := .nm 7) (passes_of rfl) rfl (ei_seq rfl (ee_var 3 (pv 3))) (pg_name (i := 7) sc__law_many_feet.nd rfl (by first | exact Or.inl rfl | exact Or.inr rfl)) (ss_one (s_if (et_val (ee_call (ok__law_fits Z B) (hr.mono (by decide)) (okx_def (takes_of rfl rfl rfl rfl)) Z._law_fits.at_ Z._law_fits.fn.kp Z._law_fits.bi (ea_cons (ee_var 1 (pv 1)) (ea_cons (ee_var 6 (pv 6)) (ea_cons (ee_var 7 (pv 7)) (ea_cons (ee_var 4 (pv 4)) ea_nil)))) (mn_cons (mn_cons (mn_cons (mn_cons mn_nil)))))) (ss_one (s_dputK 5 (hu1 hr) (pv 5) (ee_of (ef_add rfl (ee_var 6 (pv 6)) (ee_callB call_len s_len B.len (ea_cons (ee_var 7 (pv 7)) ea_nil)))) (ee_of (ef_add rfl (ee_bor 5 (ee_dgetdK (hu1 hr) (ee_var 5 (pv 5)) (ee_of (ef_add rfl (ee_var 6 (pv 6)) (ee_callB call_len s_len B.len (ea_cons (ee_var 7 (pv 7)) ea_nil)))) ee_int)) (ee_dgetK (hu1 hr) (ee_var 2 (pv 2)) (ee_var 6 (pv 6))))))) ss_nil))))) (ss_frz 5 (ss_one (s_set (i := 2) sc__law_many_feet.nd rfl (by first | exact Or.inl rfl | exact Or.inr rfl) (ee_var 5 (pv 5)))))))) (ss_one (s_ret (ee_dgetdK (hu1 hr) (ee_var 2 (pv 2)) (ee_callB call_len s_len B.len (ea_cons (ee_var 1 (pv 1)) ea_nil)) ee_int)))))
theorem ok_reached_all (Z : Ds K mg) (B : Mg mg) : FnOk P w K mg base (L2.CX P w) 3 Z.f_reached_all Z.d_reached_all ["metre", "states", "step"] (spOf ⟨P, w, K, cl⟩ 3 m_reached_all) :=
  fn_ok (m := b_reached_all) (N := N_reached_all) rfl rfl rfl Z.reached_all.fn sc_reached_all (by decide) fun cdv A outer s H E hr =>
    (ss_cons (s_setF (i := 3) sc_reached_all.nd rfl (by first | exact Or.inl rfl | exact Or.inr rfl) (ef_dnewN ⟨rfl, rfl, rfl⟩)) (ss_cons (s_for (t := .nm 4) (passes_of rfl) rfl (ei_seq rfl (ee_var 1 (pv 1))) (pg_name (i := 4) sc_reached_all.nd rfl (by first | exact Or.inl rfl | exact Or.inr rfl)) (ss_one (s_for (t := .tp [.nm 5, .nm 6]) (passes_of rfl) rfl (ei_seq rfl (ee_call (ok_moves_of Z B) (hr.mono (by decide)) (okx_def (takes_of rfl rfl rfl rfl)) Z.moves_of.at_ Z.moves_of.fn.kp Z.moves_of.bi (ea_cons (ee_var 0 (pv 0)) (ea_cons (ee_var 4 (pv 4)) (ea_cons (ee_ix ix_seq s_ix (ee_var 2 (pv 2)) ee_int) (ea_cons (ee_ix ix_seq s_ix (ee_var 2 (pv 2)) ee_int) ea_nil)))) (mn_cons (mn_cons (mn_cons (mn_cons mn_nil)))))) (pg_tup rfl (pgs_cons (pg_name (i := 5) sc_reached_all.nd rfl (by first | exact Or.inl rfl | exact Or.inr rfl)) (pgs_cons (pg_name (i := 6) sc_reached_all.nd rfl (by first | exact Or.inl rfl | exact Or.inr rfl)) pgs_nil))) (ss_one (s_dputN 3 (hu9 hr) ⟨rfl, rfl, rfl⟩ (pv 3) (ee_var 6 (pv 6)) ee_bl))))) (ss_frz 3 (ss_one (s_ret (ee_callT call_tuple_of s_tuple B.tuple (ea_cons (ee_of (ef_callB call_sortedU s_sortedU B.sorted (ea_cons (ee_of (ef_callT (call_list_dN rfl ⟨rfl, rfl, rfl⟩) s_listDN B.list (ea_cons (ee_var 3 (pv 3)) ea_nil))) ea_nil))) ea_nil)))))))
theorem ok__law_metre (Z : Ds K mg) (B : Mg mg) : FnOk P w K mg base (L2.CX P w) 3 Z.f__law_metre Z.d__law_metre ["_law_cell", "_law_most"] (spOf ⟨P, w, K, cl⟩ 2 m__law_metre) :=
  fn_ok (m := b__law_metre) (N := N__law_metre) rfl rfl rfl Z._law_metre.fn sc__law_metre (by decide) fun cdv A outer s H E hr =>
    (ss_one (s_ret (ee_callT call_tuple_of s_tuple B.tuple (ea_cons (ee_of (ef_lc (own := [("_law_k", 2)]) (t := .nm 2) rfl sc__law_metre.nd (ei_range1 B.range (ea_cons (ee_of (ef_add rfl ee_int (ee_bin op_modN s_mod (ee_var 0 (pv 0)) (ee_var 1 (pv 1))))) ea_nil)) (blkOk_by (own := [("_law_k", 2)]) (N := N__law_metre) (sc := defScope s__law_metre) (by decide +kernel)) (fun _ _ _ _ _ => (pg_name (i := 2) sc__law_metre.nd rfl (by first | exact Or.inl rfl | exact Or.inr rfl))) (fun _ _ _ _ _ => et_yes) (fun _ _ _ _ _ => (ee_call (ok__law_slot Z B) (hr.mono (by decide)) okx_blk Z._law_slot.at_ Z._law_slot.fn.kp Z._law_slot.bi (ea_cons (ee_call (ok__law_mix Z B) (hr.mono (by decide)) okx_blk Z._law_mix.at_ Z._law_mix.fn.kp Z._law_mix.bi (ea_cons (ee_bin op_fdivN s_div (ee_var 0 (pv 0)) (ee_var 1 (pv 1))) (ea_cons (ee_var 2 (pv 2)) ea_nil)) (mn_cons (mn_cons mn_nil))) ea_nil) (mn_cons mn_nil))) (by decide))) ea_nil))))
theorem ok_metre_within (Z : Ds K mg) (B : Mg mg) : FnOk P w K mg base (L2.CX P w) 4 Z.f_metre_within Z.d_metre_within ["one", "other"] (spFr ⟨P, w, K, cl⟩ 2 m_metre_within) :=
  fn_okFr (m := b_metre_within) (N := N_metre_within) rfl rfl rfl Z.metre_within.fn sc_metre_within (by decide) fun cdv A outer s H E hr =>
    (ss_cons (s_set (i := 2) sc_metre_within.nd rfl (by first | exact Or.inl rfl | exact Or.inr rfl) (ee_of (ef_ddisp1N (hu9 hr) ⟨rfl, rfl, rfl⟩ (ee_tup (ea_cons (ee_tup (ea_cons (ee_tup (ea_cons ee_int (ea_cons ee_int (ea_cons ee_int ea_nil)))) ea_nil)) (ea_cons (ee_tup (ea_cons (ee_tup (ea_cons ee_int (ea_cons ee_int (ea_cons ee_int ea_nil)))) ea_nil)) ea_nil))) (ee_of (ef_lst ea_nil))))) (ss_cons (s_while 12 (passes_of rfl) (et_cmp (op_neDictN (hu0 hr) ⟨rfl, rfl, rfl⟩) s_neDictN (ee_var 2 (pv 2)) (ee_of (ef_dnewN ⟨rfl, rfl, rfl⟩))) (ss_cons (s_setF (i := 3) sc_metre_within.nd rfl (by first | exact Or.inl rfl | exact Or.inr rfl) (ef_dnewN ⟨rfl, rfl, rfl⟩)) (ss_cons (s_forDK 2 (t := .nm 4) (passes_of rfl) rfl (pv 2) (pg_name (i := 4) sc_metre_within.nd rfl (by first | exact Or.inl rfl | exact Or.inr rfl)) (ss_one (s_for (t := .nm 5) (passes_of rfl) rfl (ei_seq rfl (ee_const Z.g_STEPS)) (pg_name (i := 5) sc_metre_within.nd rfl (by first | exact Or.inl rfl | exact Or.inr rfl)) (ss_cons (s_set (i := 6) sc_metre_within.nd rfl (by first | exact Or.inl rfl | exact Or.inr rfl) (ee_call (ok_reached_all Z B) (hr.mono (by decide)) (okx_def (takes_of rfl rfl rfl rfl)) Z.reached_all.at_ Z.reached_all.fn.kp Z.reached_all.bi (ea_cons (ee_var 0 (pv 0)) (ea_cons (ee_ix ix_seq s_ix (ee_var 4 (pv 4)) ee_int) (ea_cons (ee_var 5 (pv 5)) ea_nil))) (mn_cons (mn_cons (mn_cons mn_nil))))) (ss_cons (s_set (i := 7) sc_metre_within.nd rfl (by first | exact Or.inl rfl | exact Or.inr rfl) (ee_call (ok_reached_all Z B) (hr.mono (by decide)) (okx_def (takes_of rfl rfl rfl rfl)) Z.reached_all.at_ Z.reached_all.fn.kp Z.reached_all.bi (ea_cons (ee_var 1 (pv 1)) (ea_cons (ee_ix ix_seq s_ix (ee_var 4 (pv 4)) ee_int) (ea_cons (ee_var 5 (pv 5)) ea_nil))) (mn_cons (mn_cons (mn_cons mn_nil))))) (ss_cons (s_setF (i := 8) sc_metre_within.nd rfl (by first | exact Or.inl rfl | exact Or.inr rfl) (ef_add rfl (ee_dgetN (hu9 hr) ⟨rfl, rfl, rfl⟩ (ee_var 2 (pv 2)) (ee_var 4 (pv 4))) (ee_of (ef_lst (ea_cons (ee_var 5 (pv 5)) ea_nil))))) (ss_cons (s_if (et_w (ew_and (et_val (ee_ix ix_seq s_ix (ee_var 5 (pv 5)) ee_int)) (ew_and (et_val (ee_call (ok_is_through Z B) (hr.mono (by decide)) (okx_def (takes_of rfl rfl rfl rfl)) Z.is_through.at_ Z.is_through.fn.kp Z.is_through.bi (ea_cons (ee_var 0 (pv 0)) (ea_cons (ee_var 6 (pv 6)) ea_nil)) (mn_cons (mn_cons mn_nil)))) (ew_and1 (et_not (et_val (ee_call (ok_is_through Z B) (hr.mono (by decide)) (okx_def (takes_of rfl rfl rfl rfl)) Z.is_through.at_ Z.is_through.fn.kp Z.is_through.bi (ea_cons (ee_var 1 (pv 1)) (ea_cons (ee_var 7 (pv 7)) ea_nil)) (mn_cons (mn_cons mn_nil))))))))) (ss_one (s_retO 8 (pv 8))) ss_nil) (ss_one (s_if (et_cmp (op_neD hr.units) s_ne (ee_var 6 (pv 6)) (ee_tup ea_nil)) (ss_frz 8 (ss_one (s_dsetdN 3 (hu9 hr) ⟨rfl, rfl, rfl⟩ (pv 3) (ee_tup (ea_cons (ee_var 6 (pv 6)) (ea_cons (ee_var 7 (pv 7)) ea_nil))) (ee_var 8 (pv 8))))) ss_nil))))))))) (ss_frz 3 (ss_one (s_set (i := 2) sc_metre_within.nd rfl (by first | exact Or.inl rfl | exact Or.inr rfl) (ee_var 3 (pv 3)))))))) (ss_one (s_ret ee_non))))
theorem ok_law (Z : Ds K mg) (B : Mg mg) : FnOk P w K mg base (L2.CX P w) 5 Z.f_law Z.d_law ["_law_script"] (spOf ⟨P, w, K, cl⟩ 1 m_law) :=
  fn_ok (m := b_law) (N := N_law) rfl rfl rfl Z.law.fn sc_law (by decide) fun cdv A outer s H E hr =>
    (ss_cons (s_set (i := 1) sc_law.nd rfl (by first | exact Or.inl rfl | exact Or.inr rfl) (ee_call (ok__law_metre Z B) (hr.mono (by decide)) (okx_def (takes_of rfl rfl rfl rfl)) Z._law_metre.at_ Z._law_metre.fn.kp Z._law_metre.bi (ea_cons (ee_call (ok__law_cell_at Z B) (hr.mono (by decide)) (okx_def (takes_of rfl rfl rfl rfl)) Z._law_cell_at.at_ Z._law_cell_at.fn.kp Z._law_cell_at.bi (ea_cons (ee_var 0 (pv 0)) (ea_cons ee_int ea_nil)) (mn_cons (mn_cons mn_nil))) (ea_cons ee_int ea_nil)) (mn_cons (mn_cons mn_nil)))) (ss_cons (s_set (i := 2) sc_law.nd rfl (by first | exact Or.inl rfl | exact Or.inr rfl) (ee_var 1 (pv 1))) (ss_cons (s_if (et_cmp (op_eqD hr.units) s_eq (ee_bin op_modN s_mod (ee_call (ok__law_cell_at Z B) (hr.mono (by decide)) (okx_def (takes_of rfl rfl rfl rfl)) Z._law_cell_at.at_ Z._law_cell_at.fn.kp Z._law_cell_at.bi (ea_cons (ee_var 0 (pv 0)) (ea_cons ee_int ea_nil)) (mn_cons (mn_cons mn_nil))) ee_int) ee_int) (ss_one (s_set (i := 2) sc_law.nd rfl (by first | exact Or.inl rfl | exact Or.inr rfl) (ee_call (ok__law_metre Z B) (hr.mono (by decide)) (okx_def (takes_of rfl rfl rfl rfl)) Z._law_metre.at_ Z._law_metre.fn.kp Z._law_metre.bi (ea_cons (ee_bin op_fdivN s_div (ee_call (ok__law_cell_at Z B) (hr.mono (by decide)) (okx_def (takes_of rfl rfl rfl rfl)) Z._law_cell_at.at_ Z._law_cell_at.fn.kp Z._law_cell_at.bi (ea_cons (ee_var 0 (pv 0)) (ea_cons ee_int ea_nil)) (mn_cons (mn_cons mn_nil))) ee_int) (ea_cons ee_int ea_nil)) (mn_cons (mn_cons mn_nil))))) ss_nil) (ss_cons (s_for (t := .nm 3) (passes_of rfl) rfl (ei_seq rfl (ee_of (ef_slice rfl (ee_var 0 (pv 0)) (eo_some ee_int) (eo_some ee_int)))) (pg_name (i := 3) sc_law.nd rfl (by first | exact Or.inl rfl | exact Or.inr rfl)) (ss_one (s_set (i := 2) sc_law.nd rfl (by first | exact Or.inl rfl | exact Or.inr rfl) (ee_call (ok__law_changed Z B) (hr.mono (by decide)) (okx_def (takes_of rfl rfl rfl rfl)) Z._law_changed.at_ Z._law_changed.fn.kp Z._law_changed.bi (ea_cons (ee_var 2 (pv 2)) (ea_cons (ee_var 3 (pv 3)) ea_nil)) (mn_cons (mn_cons mn_nil)))))) (ss_cons (s_setF (i := 4) sc_law.nd rfl (by first | exact Or.inl rfl | exact Or.inr rfl) (ef_call (ok_metre_within Z B) (hr.mono (by decide)) (okx_def (takes_of rfl rfl rfl rfl)) Z.metre_within.at_ Z.metre_within.fn.kp Z.metre_within.bi (ea_cons (ee_var 1 (pv 1)) (ea_cons (ee_var 2 (pv 2)) ea_nil)) (mn_cons (mn_cons mn_nil)))) (ss_cons (s_if (et_bor 4 (et_cmp op_notN s_isNN (ee_var 4 (pv 4)) ee_non)) (ss_cons (s_if (et_bor 4 (et_w (ew_or (et_not (et_val (ee_call (ok__law_is_row Z B) (hr.mono (by decide)) (okx_def (takes_of rfl rfl rfl rfl)) Z._law_is_row.at_ Z._law_is_row.fn.kp Z._law_is_row.bi (ea_cons (ee_var 4 (pv 4)) ea_nil) (mn_cons mn_nil)))) (ew_or (et_cmp (op_eqD hr.units) s_eq (ee_call (ok__law_many_feet Z B) (hr.mono (by decide)) (okx_def (takes_of rfl rfl rfl rfl)) Z._law_many_feet.at_ Z._law_many_feet.fn.kp Z._law_many_feet.bi (ea_cons (ee_var 1 (pv 1)) (ea_cons (ee_var 4 (pv 4)) ea_nil)) (mn_cons (mn_cons mn_nil))) ee_int) (ew_or1 (et_cmp op_gt s_gt (ee_call (ok__law_many_feet Z B) (hr.mono (by decide)) (okx_def (takes_of rfl rfl rfl rfl)) Z._law_many_feet.at_ Z._law_many_feet.fn.kp Z._law_many_feet.bi (ea_cons (ee_var 2 (pv 2)) (ea_cons (ee_var 4 (pv 4)) ea_nil)) (mn_cons (mn_cons mn_nil))) ee_int)))))) (ss_one (s_ret ee_bl)) ss_nil) (ss_cons (s_set (i := 8) sc_law.nd rfl (by first | exact Or.inl rfl | exact Or.inr rfl) (ee_of (ef_listO 4 rfl B.list (pv 4)))) (ss_cons (s_app 4 rfl (pv 4) (ee_tup (ea_cons ee_str (ea_cons ee_bl ea_nil)))) (ss_one (s_ret (ee_cmp (op_eqD hr.units) s_eq (ee_of (ef_call (ok_metre_within Z B) (hr.mono (by decide)) (okx_def (takes_of rfl rfl rfl rfl)) Z.metre_within.at_ Z.metre_within.fn.kp Z.metre_within.bi (ea_cons (ee_var 1 (pv 1)) (ea_cons (ee_var 2 (pv 2)) ea_nil)) (mn_cons (mn_cons mn_nil)))) (ee_var 8 (pv 8)))))))) ss_nil) (ss_cons (s_set (i := 5) sc_law.nd rfl (by first | exact Or.inl rfl | exact Or.inr rfl) (ee_callT call_tuple_of s_tuple B.tuple (ea_cons (ee_of (ef_lc (own := [("_law_slot_here", 9)]) (t := .nm 9) rfl sc_law.nd (ei_seq rfl (ee_var 1 (pv 1))) (blkOk_by (own := [("_law_slot_here", 9)]) (N := N_law) (sc := defScope s_law) (by decide +kernel)) (fun _ _ _ _ _ => (pg_name (i := 9) sc_law.nd rfl (by first | exact Or.inl rfl | exact Or.inr rfl))) (fun _ _ _ _ _ => et_yes) (fun _ _ _ _ _ => (ee_tup (ea_cons (ee_tuprev rfl rfl B.tuple B.reversed (ee_ix ix_seq s_ix (ee_var 9 (pv 9)) ee_int)) (ea_cons (ee_ix ix_seq s_ix (ee_var 9 (pv 9)) ee_int) ea_nil)))) (by decide))) ea_nil))) (ss_cons (s_set (i := 6) sc_law.nd rfl (by first | exact Or.inl rfl | exact Or.inr rfl) (ee_callT call_tuple_of s_tuple B.tuple (ea_cons (ee_of (ef_lc (own := [("_law_slot_here", 9)]) (t := .nm 9) rfl sc_law.nd (ei_seq rfl (ee_var 1 (pv 1))) (blkOk_by (own := [("_law_slot_here", 9)]) (N := N_law) (sc := defScope s_law) (by decide +kernel)) (fun _ _ _ _ _ => (pg_name (i := 9) sc_law.nd rfl (by first | exact Or.inl rfl | exact Or.inr rfl))) (fun _ _ _ _ _ => et_yes) (fun _ _ _ _ _ => (ee_tup (ea_cons (ee_ix ix_seq s_ix (ee_var 9 (pv 9)) ee_int) (ea_cons ee_bl ea_nil)))) (by decide))) ea_nil))) (ss_cons (s_set (i := 7) sc_law.nd rfl (by first | exact Or.inl rfl | exact Or.inr rfl) (ee_ix ix_seq s_ix (ee_of (ef_lst (ea_cons (ee_var 1 (pv 1)) (ea_cons (ee_var 5 (pv 5)) (ea_cons (ee_var 6 (pv 6)) ea_nil))))) (ee_bin op_modN s_mod (ee_call (ok__law_cell_at Z B) (hr.mono (by decide)) (okx_def (takes_of rfl rfl rfl rfl)) Z._law_cell_at.at_ Z._law_cell_at.fn.kp Z._law_cell_at.bi (ea_cons (ee_var 0 (pv 0)) (ea_cons ee_int ea_nil)) (mn_cons (mn_cons mn_nil))) ee_int))) (ss_one (s_ret (ee_cmp op_isN s_isN (ee_of (ef_call (ok_metre_within Z B) (hr.mono (by decide)) (okx_def (takes_of rfl rfl rfl rfl)) Z.metre_within.at_ Z.metre_within.fn.kp Z.metre_within.bi (ea_cons (ee_var 1 (pv 1)) (ea_cons (ee_var 7 (pv 7)) ea_nil)) (mn_cons (mn_cons mn_nil)))) ee_non))))))))))))
end
end Lilt.K80

set_option Elab.async false
set_option linter.all false
set_option maxRecDepth 100000
set_option maxHeartbeats 4000000
set_option autoImplicit false
namespace Lilt.K80
open PySem L2 Lilt
section
theorem const_of {K : PySem.W.Frag} {h : Heap} {mg : Str → Option Value} {x : Str} {d : PD} {u : Value} (X : K.In h) (G : h.Ns mainGlobals mg) (a : PySem.W.nsIn K mainGlobals x = some (some u)) (v : V) (r : RelV v u) (hd : ∀ (P : Program) (w : World) (cl : Str → Addr), Rp ⟨P, w, K, cl⟩ (fun _ => none) v d) : GlobAt K mg x d := ⟨v, u, PySem.W.mg_of X G a, r, hd⟩
theorem all_mk {l : PySem.W.OpenLaw} {w : World} {K : PySem.W.Frag} {h : Heap} {mg : Str → Option Value} {fa f_fits f_behind f_is_through f__law_cell_at f__law_mix f__law_pattern f__law_fits f__law_is_row f_moves_of f__law_slot f__law_changed f__law_many_feet f_reached_all f__law_metre f_metre_within f_law : Addr} (X : K.In h) (G : h.Ns mainGlobals mg) (hfa : mg "law" = some (.ref fa))
    {oc_fits kV_fits dc_fits pm_fits cd_fits ct_fits : Value} {od_fits an_fits : Option Addr} {sl_fits : Array (Option Value)}
    {oc_behind kV_behind dc_behind pm_behind cd_behind ct_behind : Value} {od_behind an_behind : Option Addr} {sl_behind : Array (Option Value)}
    {oc_is_through kV_is_through dc_is_through pm_is_through cd_is_through ct_is_through : Value} {od_is_through an_is_through : Option Addr} {sl_is_through : Array (Option Value)}
    {oc__law_cell_at kV__law_cell_at dc__law_cell_at pm__law_cell_at cd__law_cell_at ct__law_cell_at : Value} {od__law_cell_at an__law_cell_at : Option Addr} {sl__law_cell_at : Array (Option Value)}
    {oc__law_mix kV__law_mix dc__law_mix pm__law_mix cd__law_mix ct__law_mix : Value} {od__law_mix an__law_mix : Option Addr} {sl__law_mix : Array (Option Value)}
    {oc__law_pattern kV__law_pattern dc__law_pattern pm__law_pattern cd__law_pattern ct__law_pattern : Value} {od__law_pattern an__law_pattern : Option Addr} {sl__law_pattern : Array (Option Value)}
    {oc__law_fits kV__law_fits dc__law_fits pm__law_fits cd__law_fits ct__law_fits : Value} {od__law_fits an__law_fits : Option Addr} {sl__law_fits : Array (Option Value)}
    {oc__law_is_row kV__law_is_row dc__law_is_row pm__law_is_row cd__law_is_row ct__law_is_row : Value} {od__law_is_row an__law_is_row : Option Addr} {sl__law_is_row : Array (Option Value)}
    {oc_moves_of kV_moves_of dc_moves_of pm_moves_of cd_moves_of ct_moves_of : Value} {od_moves_of an_moves_of : Option Addr} {sl_moves_of : Array (Option Value)}
    {oc__law_slot kV__law_slot dc__law_slot pm__law_slot cd__law_slot ct__law_slot : Value} {od__law_slot an__law_slot : Option Addr} {sl__law_slot : Array (Option Value)}
    {oc__law_changed kV__law_changed dc__law_changed pm__law_changed cd__law_changed ct__law_changed : Value} {od__law_changed an__law_changed : Option Addr} {sl__law_changed : Array (Option Value)}
    {oc__law_many_feet kV__law_many_feet dc__law_many_feet pm__law_many_feet cd__law_many_feet ct__law_many_feet : Value} {od__law_many_feet an__law_many_feet : Option Addr} {sl__law_many_feet : Array (Option Value)}
    {oc_reached_all kV_reached_all dc_reached_all pm_reached_all cd_reached_all ct_reached_all : Value} {od_reached_all an_reached_all : Option Addr} {sl_reached_all : Array (Option Value)}
    {oc__law_metre kV__law_metre dc__law_metre pm__law_metre cd__law_metre ct__law_metre : Value} {od__law_metre an__law_metre : Option Addr} {sl__law_metre : Array (Option Value)}
    {oc_metre_within kV_metre_within dc_metre_within pm_metre_within cd_metre_within ct_metre_within : Value} {od_metre_within an_metre_within : Option Addr} {sl_metre_within : Array (Option Value)}
    {oc_law kV_law dc_law pm_law cd_law ct_law : Value} {od_law an_law : Option Addr} {sl_law : Array (Option Value)}
    (a_fits : PySem.W.nsIn K mainGlobals "fits" = some (some (.ref f_fits))) (l_fits : K.lookup f_fits = some ⟨oc_fits, od_fits, .func (PySem.W.fnOf "fits" "fits" (defArgs s_fits) (defBody s_fits) (defScope s_fits) .none kV_fits dc_fits pm_fits an_fits cd_fits ct_fits), sl_fits⟩) (c_fits : PySem.W.codeIn K cd_fits "fits" = true) (k_fits : PySem.W.keepIn K (.ref f_fits) = true)
    (a_behind : PySem.W.nsIn K mainGlobals "behind" = some (some (.ref f_behind))) (l_behind : K.lookup f_behind = some ⟨oc_behind, od_behind, .func (PySem.W.fnOf "behind" "behind" (defArgs s_behind) (defBody s_behind) (defScope s_behind) .none kV_behind dc_behind pm_behind an_behind cd_behind ct_behind), sl_behind⟩) (c_behind : PySem.W.codeIn K cd_behind "behind" = true) (k_behind : PySem.W.keepIn K (.ref f_behind) = true)
    (a_is_through : PySem.W.nsIn K mainGlobals "is_through" = some (some (.ref f_is_through))) (l_is_through : K.lookup f_is_through = some ⟨oc_is_through, od_is_through, .func (PySem.W.fnOf "is_through" "is_through" (defArgs s_is_through) (defBody s_is_through) (defScope s_is_through) .none kV_is_through dc_is_through pm_is_through an_is_through cd_is_through ct_is_through), sl_is_through⟩) (c_is_through : PySem.W.codeIn K cd_is_through "is_through" = true) (k_is_through : PySem.W.keepIn K (.ref f_is_through) = true)
    (a__law_cell_at : PySem.W.nsIn K mainGlobals "_law_cell_at" = some (some (.ref f__law_cell_at))) (l__law_cell_at : K.lookup f__law_cell_at = some ⟨oc__law_cell_at, od__law_cell_at, .func (PySem.W.fnOf "_law_cell_at" "_law_cell_at" (defArgs s__law_cell_at) (defBody s__law_cell_at) (defScope s__law_cell_at) .none kV__law_cell_at dc__law_cell_at pm__law_cell_at an__law_cell_at cd__law_cell_at ct__law_cell_at), sl__law_cell_at⟩) (c__law_cell_at : PySem.W.codeIn K cd__law_cell_at "_law_cell_at" = true) (k__law_cell_at : PySem.W.keepIn K (.ref f__law_cell_at) = true)
    (a__law_mix : PySem.W.nsIn K mainGlobals "_law_mix" = some (some (.ref f__law_mix))) (l__law_mix : K.lookup f__law_mix = some ⟨oc__law_mix, od__law_mix, .func (PySem.W.fnOf "_law_mix" "_law_mix" (defArgs s__law_mix) (defBody s__law_mix) (defScope s__law_mix) .none kV__law_mix dc__law_mix pm__law_mix an__law_mix cd__law_mix ct__law_mix), sl__law_mix⟩) (c__law_mix : PySem.W.codeIn K cd__law_mix "_law_mix" = true) (k__law_mix : PySem.W.keepIn K (.ref f__law_mix) = true)
    (a__law_pattern : PySem.W.nsIn K mainGlobals "_law_pattern" = some (some (.ref f__law_pattern))) (l__law_pattern : K.lookup f__law_pattern = some ⟨oc__law_pattern, od__law_pattern, .func (PySem.W.fnOf "_law_pattern" "_law_pattern" (defArgs s__law_pattern) (defBody s__law_pattern) (defScope s__law_pattern) .none kV__law_pattern dc__law_pattern pm__law_pattern an__law_pattern cd__law_pattern ct__law_pattern), sl__law_pattern⟩) (c__law_pattern : PySem.W.codeIn K cd__law_pattern "_law_pattern" = true) (k__law_pattern : PySem.W.keepIn K (.ref f__law_pattern) = true)
    (a__law_fits : PySem.W.nsIn K mainGlobals "_law_fits" = some (some (.ref f__law_fits))) (l__law_fits : K.lookup f__law_fits = some ⟨oc__law_fits, od__law_fits, .func (PySem.W.fnOf "_law_fits" "_law_fits" (defArgs s__law_fits) (defBody s__law_fits) (defScope s__law_fits) .none kV__law_fits dc__law_fits pm__law_fits an__law_fits cd__law_fits ct__law_fits), sl__law_fits⟩) (c__law_fits : PySem.W.codeIn K cd__law_fits "_law_fits" = true) (k__law_fits : PySem.W.keepIn K (.ref f__law_fits) = true)
    (a__law_is_row : PySem.W.nsIn K mainGlobals "_law_is_row" = some (some (.ref f__law_is_row))) (l__law_is_row : K.lookup f__law_is_row = some ⟨oc__law_is_row, od__law_is_row, .func (PySem.W.fnOf "_law_is_row" "_law_is_row" (defArgs s__law_is_row) (defBody s__law_is_row) (defScope s__law_is_row) .none kV__law_is_row dc__law_is_row pm__law_is_row an__law_is_row cd__law_is_row ct__law_is_row), sl__law_is_row⟩) (c__law_is_row : PySem.W.codeIn K cd__law_is_row "_law_is_row" = true) (k__law_is_row : PySem.W.keepIn K (.ref f__law_is_row) = true)
    (a_moves_of : PySem.W.nsIn K mainGlobals "moves_of" = some (some (.ref f_moves_of))) (l_moves_of : K.lookup f_moves_of = some ⟨oc_moves_of, od_moves_of, .func (PySem.W.fnOf "moves_of" "moves_of" (defArgs s_moves_of) (defBody s_moves_of) (defScope s_moves_of) .none kV_moves_of dc_moves_of pm_moves_of an_moves_of cd_moves_of ct_moves_of), sl_moves_of⟩) (c_moves_of : PySem.W.codeIn K cd_moves_of "moves_of" = true) (k_moves_of : PySem.W.keepIn K (.ref f_moves_of) = true)
    (a__law_slot : PySem.W.nsIn K mainGlobals "_law_slot" = some (some (.ref f__law_slot))) (l__law_slot : K.lookup f__law_slot = some ⟨oc__law_slot, od__law_slot, .func (PySem.W.fnOf "_law_slot" "_law_slot" (defArgs s__law_slot) (defBody s__law_slot) (defScope s__law_slot) .none kV__law_slot dc__law_slot pm__law_slot an__law_slot cd__law_slot ct__law_slot), sl__law_slot⟩) (c__law_slot : PySem.W.codeIn K cd__law_slot "_law_slot" = true) (k__law_slot : PySem.W.keepIn K (.ref f__law_slot) = true)
    (a__law_changed : PySem.W.nsIn K mainGlobals "_law_changed" = some (some (.ref f__law_changed))) (l__law_changed : K.lookup f__law_changed = some ⟨oc__law_changed, od__law_changed, .func (PySem.W.fnOf "_law_changed" "_law_changed" (defArgs s__law_changed) (defBody s__law_changed) (defScope s__law_changed) .none kV__law_changed dc__law_changed pm__law_changed an__law_changed cd__law_changed ct__law_changed), sl__law_changed⟩) (c__law_changed : PySem.W.codeIn K cd__law_changed "_law_changed" = true) (k__law_changed : PySem.W.keepIn K (.ref f__law_changed) = true)
    (a__law_many_feet : PySem.W.nsIn K mainGlobals "_law_many_feet" = some (some (.ref f__law_many_feet))) (l__law_many_feet : K.lookup f__law_many_feet = some ⟨oc__law_many_feet, od__law_many_feet, .func (PySem.W.fnOf "_law_many_feet" "_law_many_feet" (defArgs s__law_many_feet) (defBody s__law_many_feet) (defScope s__law_many_feet) .none kV__law_many_feet dc__law_many_feet pm__law_many_feet an__law_many_feet cd__law_many_feet ct__law_many_feet), sl__law_many_feet⟩) (c__law_many_feet : PySem.W.codeIn K cd__law_many_feet "_law_many_feet" = true) (k__law_many_feet : PySem.W.keepIn K (.ref f__law_many_feet) = true)
    (a_reached_all : PySem.W.nsIn K mainGlobals "reached_all" = some (some (.ref f_reached_all))) (l_reached_all : K.lookup f_reached_all = some ⟨oc_reached_all, od_reached_all, .func (PySem.W.fnOf "reached_all" "reached_all" (defArgs s_reached_all) (defBody s_reached_all) (defScope s_reached_all) .none kV_reached_all dc_reached_all pm_reached_all an_reached_all cd_reached_all ct_reached_all), sl_reached_all⟩) (c_reached_all : PySem.W.codeIn K cd_reached_all "reached_all" = true) (k_reached_all : PySem.W.keepIn K (.ref f_reached_all) = true)
    (a__law_metre : PySem.W.nsIn K mainGlobals "_law_metre" = some (some (.ref f__law_metre))) (l__law_metre : K.lookup f__law_metre = some ⟨oc__law_metre, od__law_metre, .func (PySem.W.fnOf "_law_metre" "_law_metre" (defArgs s__law_metre) (defBody s__law_metre) (defScope s__law_metre) .none kV__law_metre dc__law_metre pm__law_metre an__law_metre cd__law_metre ct__law_metre), sl__law_metre⟩) (c__law_metre : PySem.W.codeIn K cd__law_metre "_law_metre" = true) (k__law_metre : PySem.W.keepIn K (.ref f__law_metre) = true)
    (a_metre_within : PySem.W.nsIn K mainGlobals "metre_within" = some (some (.ref f_metre_within))) (l_metre_within : K.lookup f_metre_within = some ⟨oc_metre_within, od_metre_within, .func (PySem.W.fnOf "metre_within" "metre_within" (defArgs s_metre_within) (defBody s_metre_within) (defScope s_metre_within) .none kV_metre_within dc_metre_within pm_metre_within an_metre_within cd_metre_within ct_metre_within), sl_metre_within⟩) (c_metre_within : PySem.W.codeIn K cd_metre_within "metre_within" = true) (k_metre_within : PySem.W.keepIn K (.ref f_metre_within) = true)
    (a_law : PySem.W.nsIn K mainGlobals "law" = some (some (.ref f_law))) (l_law : K.lookup f_law = some ⟨oc_law, od_law, .func (PySem.W.fnOf "law" "law" (defArgs s_law) (defBody s_law) (defScope s_law) .none kV_law dc_law pm_law an_law cd_law ct_law), sl_law⟩) (c_law : PySem.W.codeIn K cd_law "law" = true) (k_law : PySem.W.keepIn K (.ref f_law) = true)
    (z_all : PySem.W.nsIn K mainGlobals "all" = some none)
    (z_any : PySem.W.nsIn K mainGlobals "any" = some none)
    (z_bool : PySem.W.nsIn K mainGlobals "bool" = some none)
    (z_dict : PySem.W.nsIn K mainGlobals "dict" = some none)
    (z_enumerate : PySem.W.nsIn K mainGlobals "enumerate" = some none)
    (z_int : PySem.W.nsIn K mainGlobals "int" = some none)
    (z_isinstance : PySem.W.nsIn K mainGlobals "isinstance" = some none)
    (z_len : PySem.W.nsIn K mainGlobals "len" = some none)
    (z_list : PySem.W.nsIn K mainGlobals "list" = some none)
    (z_max : PySem.W.nsIn K mainGlobals "max" = some none)
    (z_min : PySem.W.nsIn K mainGlobals "min" = some none)
    (z_range : PySem.W.nsIn K mainGlobals "range" = some none)
    (z_reversed : PySem.W.nsIn K mainGlobals "reversed" = some none)
    (z_sorted : PySem.W.nsIn K mainGlobals "sorted" = some none)
    (z_str : PySem.W.nsIn K mainGlobals "str" = some none)
    (z_tuple : PySem.W.nsIn K mainGlobals "tuple" = some none)
    (z_zip : PySem.W.nsIn K mainGlobals "zip" = some none)
    {tSTEPS_3 : Tok}
    {p_STEPS_2 : Addr} {dd_STEPS_2 : Option Addr} {n_STEPS_2 : Nat} {s_STEPS_2 : Array (Option Value)} (lk_STEPS_2 : K.lookup p_STEPS_2 = some ⟨.type "tuple", dd_STEPS_2, .seq #[.str "u" tSTEPS_3, .bool false] n_STEPS_2, s_STEPS_2⟩)
    {tSTEPS_5 : Tok}
    {p_STEPS_4 : Addr} {dd_STEPS_4 : Option Addr} {n_STEPS_4 : Nat} {s_STEPS_4 : Array (Option Value)} (lk_STEPS_4 : K.lookup p_STEPS_4 = some ⟨.type "tuple", dd_STEPS_4, .seq #[.str "u" tSTEPS_5, .bool true] n_STEPS_4, s_STEPS_4⟩)
    {tSTEPS_7 : Tok}
    {p_STEPS_6 : Addr} {dd_STEPS_6 : Option Addr} {n_STEPS_6 : Nat} {s_STEPS_6 : Array (Option Value)} (lk_STEPS_6 : K.lookup p_STEPS_6 = some ⟨.type "tuple", dd_STEPS_6, .seq #[.str "-" tSTEPS_7, .bool false] n_STEPS_6, s_STEPS_6⟩)
    {tSTEPS_9 : Tok}
    {p_STEPS_8 : Addr} {dd_STEPS_8 : Option Addr} {n_STEPS_8 : Nat} {s_STEPS_8 : Array (Option Value)} (lk_STEPS_8 : K.lookup p_STEPS_8 = some ⟨.type "tuple", dd_STEPS_8, .seq #[.str "-" tSTEPS_9, .bool true] n_STEPS_8, s_STEPS_8⟩)
    {p_STEPS_1 : Addr} {dd_STEPS_1 : Option Addr} {n_STEPS_1 : Nat} {s_STEPS_1 : Array (Option Value)} (lk_STEPS_1 : K.lookup p_STEPS_1 = some ⟨.type "tuple", dd_STEPS_1, .seq #[.ref p_STEPS_2, .ref p_STEPS_4, .ref p_STEPS_6, .ref p_STEPS_8] n_STEPS_1, s_STEPS_1⟩)
    (g_STEPS : PySem.W.nsIn K mainGlobals "STEPS" = some (some (.ref p_STEPS_1))) :
    ∃ fd : FuncData, (∀ (s : Shared) (v : Value), BindsTo s fd ⟨[v], []⟩ [("_law_script", v)]) ∧ ∀ base : Heap, K.In base → base.Ns mainGlobals mg → FnOk l.prog w K mg base (L2.CX l.prog w) 5 fa fd ["_law_script"] (fun vs H Q _ => ∃ (a : Addr) (ns : List Int), vs = [.ref a] ∧ SqL K H a (ns.map V.int) ∧ ns.length ≤ 63 ∧ ∀ H', Q (.bl true) H' : Sp) := by
  have e := hfa.symm.trans (PySem.W.mg_of X G a_law)
  cases e
  have F_fits := fun_mk (st := s_fits) l_fits c_fits k_fits
  have b_fits := F_fits.binds (ps := ["mark", "pattern", "at"]) fun _ _ _ _ _ _ us hl => match us, hl with | [_, _, _], _ => rfl
  have F_behind := fun_mk (st := s_behind) l_behind c_behind k_behind
  have b_behind := F_behind.binds (ps := ["metre", "slot", "pattern", "at", "ends"]) fun _ _ _ _ _ _ us hl => match us, hl with | [_, _, _, _, _], _ => rfl
  have F_is_through := fun_mk (st := s_is_through) l_is_through c_is_through k_is_through
  have b_is_through := F_is_through.binds (ps := ["metre", "states"]) fun _ _ _ _ _ _ us hl => match us, hl with | [_, _], _ => rfl
  have F__law_cell_at := fun_mk (st := s__law_cell_at) l__law_cell_at c__law_cell_at k__law_cell_at
  have b__law_cell_at := F__law_cell_at.binds (ps := ["_law_script", "_law_k"]) fun _ _ _ _ _ _ us hl => match us, hl with | [_, _], _ => rfl
  have F__law_mix := fun_mk (st := s__law_mix) l__law_mix c__law_mix k__law_mix
  have b__law_mix := F__law_mix.binds (ps := ["_law_cell", "_law_k"]) fun _ _ _ _ _ _ us hl => match us, hl with | [_, _], _ => rfl
  have F__law_pattern := fun_mk (st := s__law_pattern) l__law_pattern c__law_pattern k__law_pattern
  have b__law_pattern := F__law_pattern.binds (ps := ["_law_number"]) fun _ _ _ _ _ _ us hl => match us, hl with | [_], _ => rfl
  have F__law_fits := fun_mk (st := s__law_fits) l__law_fits c__law_fits k__law_fits
  have b__law_fits := F__law_fits.binds (ps := ["_law_row", "_law_at", "_law_pattern_here", "_law_cut"]) fun _ _ _ _ _ _ us hl => match us, hl with | [_, _, _, _], _ => rfl
  have F__law_is_row := fun_mk (st := s__law_is_row) l__law_is_row c__law_is_row k__law_is_row
  have b__law_is_row := F__law_is_row.binds (ps := ["_law_found"]) fun _ _ _ _ _ _ us hl => match us, hl with | [_], _ => rfl
  have F_moves_of := fun_mk (st := s_moves_of) l_moves_of c_moves_of k_moves_of
  have b_moves_of := F_moves_of.binds (ps := ["metre", "state", "mark", "ends"]) fun _ _ _ _ _ _ us hl => match us, hl with | [_, _, _, _], _ => rfl
  have F__law_slot := fun_mk (st := s__law_slot) l__law_slot c__law_slot k__law_slot
  have b__law_slot := F__law_slot.binds (ps := ["_law_number"]) fun _ _ _ _ _ _ us hl => match us, hl with | [_], _ => rfl
  have F__law_changed := fun_mk (st := s__law_changed) l__law_changed c__law_changed k__law_changed
  have b__law_changed := F__law_changed.binds (ps := ["_law_metre_here", "_law_cell"]) fun _ _ _ _ _ _ us hl => match us, hl with | [_, _], _ => rfl
  have F__law_many_feet := fun_mk (st := s__law_many_feet) l__law_many_feet c__law_many_feet k__law_many_feet
  have b__law_many_feet := F__law_many_feet.binds (ps := ["_law_metre_here", "_law_row"]) fun _ _ _ _ _ _ us hl => match us, hl with | [_, _], _ => rfl
  have F_reached_all := fun_mk (st := s_reached_all) l_reached_all c_reached_all k_reached_all
  have b_reached_all := F_reached_all.binds (ps := ["metre", "states", "step"]) fun _ _ _ _ _ _ us hl => match us, hl with | [_, _, _], _ => rfl
  have F__law_metre := fun_mk (st := s__law_metre) l__law_metre c__law_metre k__law_metre
  have b__law_metre := F__law_metre.binds (ps := ["_law_cell", "_law_most"]) fun _ _ _ _ _ _ us hl => match us, hl with | [_, _], _ => rfl
  have F_metre_within := fun_mk (st := s_metre_within) l_metre_within c_metre_within k_metre_within
  have b_metre_within := F_metre_within.binds (ps := ["one", "other"]) fun _ _ _ _ _ _ us hl => match us, hl with | [_, _], _ => rfl
  have F_law := fun_mk (st := s_law) l_law c_law k_law
  have b_law := F_law.binds (ps := ["_law_script"]) fun _ _ _ _ _ _ us hl => match us, hl with | [_], _ => rfl
  let Z : Ds K mg := { f_fits := f_fits, d_fits := _, fits := ⟨F_fits, b_fits, PySem.W.mg_of X G a_fits⟩, f_behind := f_behind, d_behind := _, behind := ⟨F_behind, b_behind, PySem.W.mg_of X G a_behind⟩, f_is_through := f_is_through, d_is_through := _, is_through := ⟨F_is_through, b_is_through, PySem.W.mg_of X G a_is_through⟩, f__law_cell_at := f__law_cell_at, d__law_cell_at := _, _law_cell_at := ⟨F__law_cell_at, b__law_cell_at, PySem.W.mg_of X G a__law_cell_at⟩, f__law_mix := f__law_mix, d__law_mix := _, _law_mix := ⟨F__law_mix, b__law_mix, PySem.W.mg_of X G a__law_mix⟩, f__law_pattern := f__law_pattern, d__law_pattern := _, _law_pattern := ⟨F__law_pattern, b__law_pattern, PySem.W.mg_of X G a__law_pattern⟩, f__law_fits := f__law_fits, d__law_fits := _, _law_fits := ⟨F__law_fits, b__law_fits, PySem.W.mg_of X G a__law_fits⟩, f__law_is_row := f__law_is_row, d__law_is_row := _, _law_is_row := ⟨F__law_is_row, b__law_is_row, PySem.W.mg_of X G a__law_is_row⟩, f_moves_of := f_moves_of, d_moves_of := _, moves_of := ⟨F_moves_of, b_moves_of, PySem.W.mg_of X G a_moves_of⟩, f__law_slot := f__law_slot, d__law_slot := _, _law_slot := ⟨F__law_slot, b__law_slot, PySem.W.mg_of X G a__law_slot⟩, f__law_changed := f__law_changed, d__law_changed := _, _law_changed := ⟨F__law_changed, b__law_changed, PySem.W.mg_of X G a__law_changed⟩, f__law_many_feet := f__law_many_feet, d__law_many_feet := _, _law_many_feet := ⟨F__law_many_feet, b__law_many_feet, PySem.W.mg_of X G a__law_many_feet⟩, f_reached_all := f_reached_all, d_reached_all := _, reached_all := ⟨F_reached_all, b_reached_all, PySem.W.mg_of X G a_reached_all⟩, f__law_metre := f__law_metre, d__law_metre := _, _law_metre := ⟨F__law_metre, b__law_metre, PySem.W.mg_of X G a__law_metre⟩, f_metre_within := f_metre_within, d_metre_within := _, metre_within := ⟨F_metre_within, b_metre_within, PySem.W.mg_of X G a_metre_within⟩, f_law := fa, d_law := _, law := ⟨F_law, b_law, PySem.W.mg_of X G a_law⟩, g_STEPS := const_of X G g_STEPS (.ref p_STEPS_1) rfl fun _ _ _ => (.tup (xs := [(.ref p_STEPS_2), (.ref p_STEPS_4), (.ref p_STEPS_6), (.ref p_STEPS_8)]) (.inr ⟨_, _, _, lk_STEPS_1, rfl, rfl, show 4 ≤ sizeLine by decide, (.cons rfl (.cons rfl (.cons rfl (.cons rfl .nil))))⟩) (.cons (.tup (xs := [(.str "u"), (.bl false)]) (.inr ⟨_, _, _, lk_STEPS_2, rfl, rfl, show 2 ≤ sizeLine by decide, (.cons ⟨_, rfl⟩ (.cons rfl .nil))⟩) (.cons (.str _) (.cons (.bl _) .nil))) (.cons (.tup (xs := [(.str "u"), (.bl true)]) (.inr ⟨_, _, _, lk_STEPS_4, rfl, rfl, show 2 ≤ sizeLine by decide, (.cons ⟨_, rfl⟩ (.cons rfl .nil))⟩) (.cons (.str _) (.cons (.bl _) .nil))) (.cons (.tup (xs := [(.str "-"), (.bl false)]) (.inr ⟨_, _, _, lk_STEPS_6, rfl, rfl, show 2 ≤ sizeLine by decide, (.cons ⟨_, rfl⟩ (.cons rfl .nil))⟩) (.cons (.str _) (.cons (.bl _) .nil))) (.cons (.tup (xs := [(.str "-"), (.bl true)]) (.inr ⟨_, _, _, lk_STEPS_8, rfl, rfl, show 2 ≤ sizeLine by decide, (.cons ⟨_, rfl⟩ (.cons rfl .nil))⟩) (.cons (.str _) (.cons (.bl _) .nil))) .nil))))) }
  let B : Mg mg := { all := PySem.W.mg_none_of X G z_all, any := PySem.W.mg_none_of X G z_any, bool := PySem.W.mg_none_of X G z_bool, dict := PySem.W.mg_none_of X G z_dict, enumerate := PySem.W.mg_none_of X G z_enumerate, int := PySem.W.mg_none_of X G z_int, isinstance := PySem.W.mg_none_of X G z_isinstance, len := PySem.W.mg_none_of X G z_len, list := PySem.W.mg_none_of X G z_list, max := PySem.W.mg_none_of X G z_max, min := PySem.W.mg_none_of X G z_min, range := PySem.W.mg_none_of X G z_range, reversed := PySem.W.mg_none_of X G z_reversed, sorted := PySem.W.mg_none_of X G z_sorted, str := PySem.W.mg_none_of X G z_str, tuple := PySem.W.mg_none_of X G z_tuple, zip := PySem.W.mg_none_of X G z_zip }
  exact ⟨_, fun s v => .of_eq rfl, fun base _ _ => law_imp (Γ := ⟨l.prog, w, K, fun _ => 0⟩) (ok_law Z B) rfl plain_law⟩
theorem walk {l : PySem.W.OpenLaw} {q : Program} {loose : List Str} {XP : (Str → Option Value) → Heap → Prop} {YP : World → Heap → Prop} {d : DefRec} {K : Params → PySem.W.Frag} (hn : l.most = some 63) (hdf : d.params.defaults = [])
    (hY : ∀ (w : World) (h : Heap), YP w h → (K w.params).In h)
    (F : ∀ (w : World) (mg : Str → Option Value) (fa : Addr) (h : Heap), (K w.params).In h → h.Ns mainGlobals mg → mg d.name = some (.ref fa) →
      ∃ fd : FuncData, (∀ (s : Shared) (u : Value), BindsTo s fd ⟨[u], []⟩ [("_law_script", u)]) ∧ ∀ base : Heap, (K w.params).In base → base.Ns mainGlobals mg → FnOk l.prog w (K w.params) mg base (L2.CX l.prog w) 5 fa fd ["_law_script"] (fun vs H Q _ => ∃ (a : Addr) (ns : List Int), vs = [.ref a] ∧ SqL (K w.params) H a (ns.map V.int) ∧ ns.length ≤ 63 ∧ ∀ H', Q (.bl true) H' : Sp)) :
    PySem.W.WalkO q loose XP YP l.row.toRowW d [] (fun f vs => PySem.call f vs) :=
  L2.walk_of (n := 63) (k := 5) (x := "_law_script") (CX := fun w => L2.CX l.prog w) (sp := fun w => (fun vs H Q _ => ∃ (a : Addr) (ns : List Int), vs = [.ref a] ∧ SqL (K w.params) H a (ns.map V.int) ∧ ns.length ≤ 63 ∧ ∀ H', Q (.bl true) H' : Sp)) hn (by decide) hdf ⟨rfl, by decide, by decide⟩ hY F (fun _ _ a ns hl _ hS => ⟨a, ns, rfl, hS, hl, fun _ => rfl⟩) fun _ _ _ _ _ ⟨_, _, _, _, _, _, _, _, _, _, _, _, z⟩ => z
end
end Lilt.K80

set_option Elab.async false
open PySem PySem.W PyProof.Rows
set_option maxRecDepth 100000 in
set_option maxHeartbeats 0 in
theorem PySem.Challenge.cw_lilt_k80_what_tells_metres_apart_holds : PySem.Challenge.rw_lilt_k80_what_tells_metres_apart.Holds := by
  w_on; o_law; k_head; (case hw => w_witness2)
  k_fill
  refine Lilt.K80.walk (l := PySem.Challenge.rw_lilt_k80_what_tells_metres_apart) rfl rfl (fun w h Y => PySem.W.kIn_of Y) ?F
  case F =>
    intro w mg fa h KX G hmg
    refine' Lilt.K80.all_mk KX G hmg (a_fits := ?a_fits) (l_fits := ?l_fits) (c_fits := ?c_fits) (k_fits := ?k_fits) (a_behind := ?a_behind) (l_behind := ?l_behind) (c_behind := ?c_behind) (k_behind := ?k_behind) (a_is_through := ?a_is_through) (l_is_through := ?l_is_through) (c_is_through := ?c_is_through) (k_is_through := ?k_is_through) (a__law_cell_at := ?a__law_cell_at) (l__law_cell_at := ?l__law_cell_at) (c__law_cell_at := ?c__law_cell_at) (k__law_cell_at := ?k__law_cell_at) (a__law_mix := ?a__law_mix) (l__law_mix := ?l__law_mix) (c__law_mix := ?c__law_mix) (k__law_mix := ?k__law_mix) (a__law_pattern := ?a__law_pattern) (l__law_pattern := ?l__law_pattern) (c__law_pattern := ?c__law_pattern) (k__law_pattern := ?k__law_pattern) (a__law_fits := ?a__law_fits) (l__law_fits := ?l__law_fits) (c__law_fits := ?c__law_fits) (k__law_fits := ?k__law_fits) (a__law_is_row := ?a__law_is_row) (l__law_is_row := ?l__law_is_row) (c__law_is_row := ?c__law_is_row) (k__law_is_row := ?k__law_is_row) (a_moves_of := ?a_moves_of) (l_moves_of := ?l_moves_of) (c_moves_of := ?c_moves_of) (k_moves_of := ?k_moves_of) (a__law_slot := ?a__law_slot) (l__law_slot := ?l__law_slot) (c__law_slot := ?c__law_slot) (k__law_slot := ?k__law_slot) (a__law_changed := ?a__law_changed) (l__law_changed := ?l__law_changed) (c__law_changed := ?c__law_changed) (k__law_changed := ?k__law_changed) (a__law_many_feet := ?a__law_many_feet) (l__law_many_feet := ?l__law_many_feet) (c__law_many_feet := ?c__law_many_feet) (k__law_many_feet := ?k__law_many_feet) (a_reached_all := ?a_reached_all) (l_reached_all := ?l_reached_all) (c_reached_all := ?c_reached_all) (k_reached_all := ?k_reached_all) (a__law_metre := ?a__law_metre) (l__law_metre := ?l__law_metre) (c__law_metre := ?c__law_metre) (k__law_metre := ?k__law_metre) (a_metre_within := ?a_metre_within) (l_metre_within := ?l_metre_within) (c_metre_within := ?c_metre_within) (k_metre_within := ?k_metre_within) (a_law := ?a_law) (l_law := ?l_law) (c_law := ?c_law) (k_law := ?k_law) (z_all := ?z_all) (z_any := ?z_any) (z_bool := ?z_bool) (z_dict := ?z_dict) (z_enumerate := ?z_enumerate) (z_int := ?z_int) (z_isinstance := ?z_isinstance) (z_len := ?z_len) (z_list := ?z_list) (z_max := ?z_max) (z_min := ?z_min) (z_range := ?z_range) (z_reversed := ?z_reversed) (z_sorted := ?z_sorted) (z_str := ?z_str) (z_tuple := ?z_tuple) (z_zip := ?z_zip) (g_STEPS := ?g_STEPS) (lk_STEPS_1 := ?lk_STEPS_1) (lk_STEPS_8 := ?lk_STEPS_8) (lk_STEPS_6 := ?lk_STEPS_6) (lk_STEPS_4 := ?lk_STEPS_4) (lk_STEPS_2 := ?lk_STEPS_2)
    (case a_fits => k_is); (case l_fits => k_is); (case c_fits => k_is); (case k_fits => k_is); (case a_behind => k_is); (case l_behind => k_is); (case c_behind => k_is); (case k_behind => k_is)
    (case a_is_through => k_is); (case l_is_through => k_is); (case c_is_through => k_is); (case k_is_through => k_is); (case a__law_cell_at => k_is); (case l__law_cell_at => k_is); (case c__law_cell_at => k_is); (case k__law_cell_at => k_is)
    (case a__law_mix => k_is); (case l__law_mix => k_is); (case c__law_mix => k_is); (case k__law_mix => k_is); (case a__law_pattern => k_is); (case l__law_pattern => k_is); (case c__law_pattern => k_is); (case k__law_pattern => k_is)
    (case a__law_fits => k_is); (case l__law_fits => k_is); (case c__law_fits => k_is); (case k__law_fits => k_is); (case a__law_is_row => k_is); (case l__law_is_row => k_is); (case c__law_is_row => k_is); (case k__law_is_row => k_is)
    (case a_moves_of => k_is); (case l_moves_of => k_is); (case c_moves_of => k_is); (case k_moves_of => k_is); (case a__law_slot => k_is); (case l__law_slot => k_is); (case c__law_slot => k_is); (case k__law_slot => k_is)
    (case a__law_changed => k_is); (case l__law_changed => k_is); (case c__law_changed => k_is); (case k__law_changed => k_is); (case a__law_many_feet => k_is); (case l__law_many_feet => k_is); (case c__law_many_feet => k_is); (case k__law_many_feet => k_is)
    (case a_reached_all => k_is); (case l_reached_all => k_is); (case c_reached_all => k_is); (case k_reached_all => k_is); (case a__law_metre => k_is); (case l__law_metre => k_is); (case c__law_metre => k_is); (case k__law_metre => k_is)
    (case a_metre_within => k_is); (case l_metre_within => k_is); (case c_metre_within => k_is); (case k_metre_within => k_is); (case a_law => k_is); (case l_law => k_is); (case c_law => k_is); (case k_law => k_is)
    (case z_all => k_is); (case z_any => k_is); (case z_bool => k_is); (case z_dict => k_is); (case z_enumerate => k_is); (case z_int => k_is); (case z_isinstance => k_is); (case z_len => k_is)
    (case z_list => k_is); (case z_max => k_is); (case z_min => k_is); (case z_range => k_is); (case z_reversed => k_is); (case z_sorted => k_is); (case z_str => k_is); (case z_tuple => k_is)
    (case z_zip => k_is); (case g_STEPS => k_is); (case lk_STEPS_1 => k_is); (case lk_STEPS_8 => k_is); (case lk_STEPS_6 => k_is); (case lk_STEPS_4 => k_is); (case lk_STEPS_2 => k_is)

