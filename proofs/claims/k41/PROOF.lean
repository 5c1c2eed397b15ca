import PyProof.Rows.All
import Wide.All
import OpenK.AllK
import Wide.FinOn
import HandS.ForMost
import HandS.Walk
import HandS.HeadHook1
import HandS.Lambda
import HandS.Exc
import HandS.Deep
import HandS.RaiseMore
import HandS.Star
import HandS.SortInts
import HandS.IsInst
import HandS.Style
import HandS.Defaults
import HandS.WordsExc
import HandS.EndBits
import HandS.SetFor
import PyProof.ReprRoads
import HandS.Conv
import HandS.HeadEnd
import PyProof.ReprLen
import HandS.Replace
import HandS.ExcInit
import HandS.ExcField
import HandS.ExcIs
import HandS.ExcOwn
import KE.KTryMore
import KE.KExcIs
import HandS.HeadHook2
import HandS.Dict
import PyProof.StrBlock2
import HandS.FltList
import KE.SortData
import KE.KStateDown
import Lean
import HandS.Base
import HandS.Call
import HandS.Ends
import HandS.More
import HandS.Words
import HandS.Head0
import HandS.Head1
import HandS.Head2
import PySem.Challenge.RW_halfquick_k41_whole_passes_at_one_side
set_option Elab.async false
set_option linter.all false
set_option maxRecDepth 100000
section
set_option maxHeartbeats 2000000
/-! Tr0: trees of plain data, ownership, what a value says in an abstract heap, frames. -/
namespace Tr
open PySem PySem.Spec PyProof.Rows L2

/-- things of other kinds: an exception by its class's name and its field, a dict that no one changes by its keys, a closure by its object, its code object, its name, the values that it sees -/
inductive Bx where
  | exc (cls : Str) (f : Option Str) | dct (ks : List (Sum Int Str)) | clo (f c : Addr) (q : Str) (ws : List V)
  deriving Inhabited
/-- plain data -/
inductive T where
  | non | bl (b : Bool) | int (i : Int) | str (x : Str)
  | lst (xs : List T) | tup (xs : List T) | adr (a : Addr) | fz (xs : List T) | box (k : Bx) (xs : List T)
  deriving Inhabited
/-- how a value's lists are held: shared (never changed any more), or owned (no other way leads there) -/
inductive Ow where
  | sh | ow (i : Ow)
  deriving DecidableEq

/-- a list that no one changes: it stands as it stood, whatever is tracked -/
def SqF (K : PySem.W.Frag) (H : Hp) (a : Addr) (xs : List V) : Prop := (∃ o, H a = some (.frz o (.lst xs))) ∨ ∀ H' : Hp, SqL K H' a xs
theorem SqF.sq {K : PySem.W.Frag} {H : Hp} {a : Addr} {xs : List V} (h : SqF K H a xs) : SqL K H a xs := h.elim (fun z => .inl (.inr z)) fun z => z H

/-- an exception object that is known -/
def XO (a : Addr) (cls : Value) (d : Option Addr) : HO := .ext fun h => ∃ oe : Obj, h.get? a = some oe ∧ oe.cls = cls ∧ oe.dict = d ∧ ∃ vs, oe.data = .fields vs
theorem XO_lst {a : Addr} {cls : Value} {d : Option Addr} {xs : List V} : XO a cls d ≠ .lst xs := fun z => by
  unfold XO at z
  cases z
theorem XO_tbl {a : Addr} {cls : Value} {d : Option Addr} {ps : Array Value} : XO a cls d ≠ .tbl ps := fun z => by
  unfold XO at z
  cases z
def BoxAt (K : PySem.W.Frag) (H : Hp) (S : Addr → Prop) (a : Addr) : Bx → List V → Prop
  | .exc cls none, vs => vs = [] ∧ H a = some (XO a (.ref (He.ga K cls)) none)
  | .exc cls (some f), vs => ∃ dx v, vs = [v] ∧ H a = some (XO a (.ref (He.ga K cls)) (some dx)) ∧ H dx = some (.xd [(f, v)])
  | .dct ks, vs => ks.length = vs.length ∧ H a = some (.dK (ks.zip vs)) ∧ S a
  | .clo f c q ws, vs => (a = f ∧ vs = ws) ∧ H c = some (LamX.CodeO c q)
mutual
inductive Rp (K : PySem.W.Frag) (H : Hp) (S : Addr → Prop) : Ow → V → T → List Addr → Prop
  | non {ρ : Ow} : Rp K H S ρ .non .non []
  | bl {ρ : Ow} (b : Bool) : Rp K H S ρ (.bl b) (.bl b) []
  | int {ρ : Ow} (i : Int) : Rp K H S ρ (.int i) (.int i) []
  | str {ρ : Ow} (x : Str) : Rp K H S ρ (.str x) (.str x) []
  | adr {ρ : Ow} (a : Addr) : Rp K H S ρ (.ref a) (.adr a) []
  | box {ρ : Ow} {a : Addr} {k : Bx} {xs : List V} {ts : List T} : BoxAt K H S a k xs → RpA K H S .sh xs ts [] → Rp K H S ρ (.ref a) (.box k ts) []
  | lstS {a : Addr} {xs : List V} {ts : List T} : H a = some (.lst xs) → S a → RpA K H S .sh xs ts [] → Rp K H S .sh (.ref a) (.lst ts) []
  | fz {ρ : Ow} {a : Addr} {xs : List V} {ts : List T} : SqF K H a xs → RpA K H S .sh xs ts [] → Rp K H S ρ (.ref a) (.fz ts) []
  | lstO {i : Ow} {a : Addr} {xs : List V} {ts : List T} {fp : List Addr} : H a = some (.lst xs) → RpA K H S i xs ts fp → Rp K H S (.ow i) (.ref a) (.lst ts) (a :: fp)
  | tup {ρ : Ow} {a : Addr} {xs : List V} {ts : List T} : SqT K H a xs → RpA K H S .sh xs ts [] → Rp K H S ρ (.ref a) (.tup ts) []
inductive RpA (K : PySem.W.Frag) (H : Hp) (S : Addr → Prop) : Ow → List V → List T → List Addr → Prop
  | nil {ρ : Ow} : RpA K H S ρ [] [] []
  | cons {ρ : Ow} {v : V} {t : T} {vs : List V} {ts : List T} {f fs : List Addr} : Rp K H S ρ v t f → RpA K H S ρ vs ts fs → RpA K H S ρ (v :: vs) (t :: ts) (f ++ fs)
end

/-- from H to H' all that is not in own stays (tables of code objects may grow); S may grow -/
structure Fm (own : Addr → Prop) (H H' : Hp) (S S' : Addr → Prop) : Prop where
  keep : ∀ a o, H a = some o → ¬ own a → (∀ ps, o ≠ .tbl ps) → H' a = some o
  sub : ∀ a, S a → S' a
  nS : ∀ a, S a → ¬ own a
  isl : ∀ a, own a → ∃ xs, H a = some (.lst xs)

section
variable {K : PySem.W.Frag} {H H' : Hp} {S S' : Addr → Prop} {own : Addr → Prop}
theorem Fm.seq (F : Fm own H H' S S') {a : Addr} {xs : List V} (h : SqL K H a xs) (n : ¬ own a) : SqL K H' a xs := by
  rcases h with (h | ⟨o, h⟩) | h
  · exact .inl (.inl (F.keep a _ h n (fun ps z => nomatch z)))
  · exact .inl (.inr ⟨o, F.keep a _ h n (fun ps z => nomatch z)⟩)
  · exact .inr h
theorem Fm.frz (F : Fm own H H' S S') {a : Addr} {xs : List V} (h : SqF K H a xs) : SqF K H' a xs := by
  rcases h with ⟨o, h⟩ | h
  · refine .inl ⟨o, F.keep a _ h (fun z => ?_) (fun ps z => nomatch z)⟩
    obtain ⟨ys, e⟩ := F.isl a z
    rw [h] at e
    cases e
  · exact .inr h
theorem Fm.tup (F : Fm own H H' S S') {a : Addr} {xs : List V} (h : SqT K H a xs) : SqT K H' a xs := by
  rcases h with (h | ⟨o, h⟩) | h
  · refine .inl (.inl (F.keep a _ h (fun z => ?_) (fun ps z => nomatch z)))
    obtain ⟨ys, e⟩ := F.isl a z
    rw [h] at e
    cases e
  · refine .inl (.inr ⟨o, F.keep a _ h (fun z => ?_) (fun ps z => nomatch z)⟩)
    obtain ⟨ys, e⟩ := F.isl a z
    rw [h] at e
    cases e
  · exact .inr h
theorem Fm.tup' (F : Fm own H H' S S') {a : Addr} {o : HO} (h : H a = some o) (hl : ∀ xs, o ≠ .lst xs) (ht : ∀ ps, o ≠ .tbl ps) : H' a = some o :=
  F.keep a o h (fun z => by
    obtain ⟨ys, e⟩ := F.isl a z
    rw [h] at e
    exact hl ys (Option.some.inj e)) ht
theorem BoxAt.fm (F : Fm own H H' S S') {a : Addr} {k : Bx} {vs : List V} (h : BoxAt K H S a k vs) : BoxAt K H' S' a k vs := by
  cases k with
  | exc cls f =>
    cases f with
    | none => exact ⟨h.1, F.tup' h.2 (fun _ => XO_lst) fun _ => XO_tbl⟩
    | some f =>
      obtain ⟨dx, v, h1, h2, h3⟩ := h
      exact ⟨dx, v, h1, F.tup' h2 (fun _ => XO_lst) fun _ => XO_tbl, F.tup' h3 (fun _ z => nomatch z) fun _ z => nomatch z⟩
  | dct ks => exact ⟨h.1, F.keep _ _ h.2.1 (F.nS _ h.2.2) (fun ps z => nomatch z), F.sub _ h.2.2⟩
  | clo f c q ws => exact ⟨h.1, F.tup' h.2 (fun xs z => by
      unfold LamX.CodeO at z
      cases z) fun ps => LamX.codeO_ne ps⟩
theorem BoxAt.grow (g : ∀ a, S a → S' a) {a : Addr} {k : Bx} {vs : List V} (h : BoxAt K H S a k vs) : BoxAt K H S' a k vs := by
  cases k with
  | exc cls f => cases f <;> exact h
  | dct ks => exact ⟨h.1, h.2.1, g _ h.2.2⟩
  | clo f c q ws => exact h
mutual
theorem Rp.fm (F : Fm own H H' S S') : ∀ {ρ : Ow} {v : V} {t : T} {f : List Addr}, Rp K H S ρ v t f → (∀ a ∈ f, ¬ own a) → Rp K H' S' ρ v t f
  | _, _, _, _, .non, _ => .non
  | _, _, _, _, .bl b, _ => .bl b
  | _, _, _, _, .int i, _ => .int i
  | _, _, _, _, .str x, _ => .str x
  | _, _, _, _, .adr a, _ => .adr a
  | _, _, _, _, .box h r, _ => .box (h.fm F) (RpA.fm F r (fun a z => absurd z (by simp)))
  | _, _, _, _, .lstS h s r, _ => .lstS (F.keep _ _ h (F.nS _ s) (fun ps z => nomatch z)) (F.sub _ s) (RpA.fm F r (fun a z => absurd z (by simp)))
  | _, _, _, _, .fz h r, _ => .fz (F.frz h) (RpA.fm F r (fun a z => absurd z (by simp)))
  | _, _, _, _, .lstO h r, n => .lstO (F.keep _ _ h (n _ (by simp)) (fun ps z => nomatch z)) (RpA.fm F r (fun a z => n a (by simp [z])))
  | _, _, _, _, .tup h r, _ => .tup (F.tup h) (RpA.fm F r (fun a z => absurd z (by simp)))
theorem RpA.fm (F : Fm own H H' S S') : ∀ {ρ : Ow} {v : List V} {t : List T} {f : List Addr}, RpA K H S ρ v t f → (∀ a ∈ f, ¬ own a) → RpA K H' S' ρ v t f
  | _, _, _, _, .nil, _ => .nil
  | _, _, _, _, .cons r rs, n => .cons (Rp.fm F r fun a z => n a (by simp [z])) (RpA.fm F rs fun a z => n a (by simp [z]))
end
/-- S alone grows -/
theorem Fm.grow (h : ∀ a, S a → S' a) : Fm (fun _ => False) H H S S' := ⟨fun _ _ e _ _ => e, h, fun _ _ z => z, fun _ z => z.elim⟩
mutual
/-- owned becomes shared -/
theorem Rp.weak : ∀ {ρ : Ow} {v : V} {t : T} {f : List Addr}, Rp K H S ρ v t f → (∀ a, S a → S' a) → (∀ a ∈ f, S' a) → Rp K H S' .sh v t []
  | _, _, _, _, .non, _, _ => .non
  | _, _, _, _, .bl b, _, _ => .bl b
  | _, _, _, _, .int i, _, _ => .int i
  | _, _, _, _, .str x, _, _ => .str x
  | _, _, _, _, .adr a, _, _ => .adr a
  | _, _, _, _, .box h r, g, _ => .box (h.grow g) (RpA.weak r g (fun a z => absurd z (by simp)))
  | _, _, _, _, .lstS h s r, g, _ => .lstS h (g _ s) (RpA.weak r g (fun a z => absurd z (by simp)))
  | _, _, _, _, .fz h r, g, _ => .fz h (RpA.weak r g (fun a z => absurd z (by simp)))
  | _, _, _, _, .lstO h r, g, n => .lstS h (n _ (by simp)) (RpA.weak r g (fun a z => n a (by simp [z])))
  | _, _, _, _, .tup h r, g, _ => .tup h (RpA.weak r g (fun a z => absurd z (by simp)))
theorem RpA.weak : ∀ {ρ : Ow} {v : List V} {t : List T} {f : List Addr}, RpA K H S ρ v t f → (∀ a, S a → S' a) → (∀ a ∈ f, S' a) → RpA K H S' .sh v t []
  | _, _, _, _, .nil, _, _ => .nil
  | _, _, _, _, .cons r rs, g, n => RpA.cons (f := []) (fs := []) (Rp.weak r g fun a z => n a (by simp [z])) (RpA.weak rs g fun a z => n a (by simp [z]))
end
mutual
theorem Rp.isl : ∀ {ρ : Ow} {v : V} {t : T} {f : List Addr}, Rp K H S ρ v t f → ∀ a ∈ f, ∃ xs, H a = some (.lst xs)
  | _, _, _, _, .non, a, h => absurd h (by simp)
  | _, _, _, _, .bl b, a, h => absurd h (by simp)
  | _, _, _, _, .int i, a, h => absurd h (by simp)
  | _, _, _, _, .str x, a, h => absurd h (by simp)
  | _, _, _, _, .adr b, a, h => absurd h (by simp)
  | _, _, _, _, .box _ _, a, h => absurd h (by simp)
  | _, _, _, _, .lstS _ _ _, a, h => absurd h (by simp)
  | _, _, _, _, .fz _ _, a, h => absurd h (by simp)
  | _, _, _, _, .lstO e r, a, h => by
    rcases List.mem_cons.mp h with z | z
    · rw [z]
      exact ⟨_, e⟩
    · exact RpA.isl r a z
  | _, _, _, _, .tup _ _, a, h => absurd h (by simp)
theorem RpA.isl : ∀ {ρ : Ow} {v : List V} {t : List T} {f : List Addr}, RpA K H S ρ v t f → ∀ a ∈ f, ∃ xs, H a = some (.lst xs)
  | _, _, _, _, .nil, a, h => absurd h (by simp)
  | _, _, _, _, .cons r rs, a, h => by
    rcases List.mem_append.mp h with z | z
    · exact Rp.isl r a z
    · exact RpA.isl rs a z
end
theorem Rp.sh_nil {v : V} {t : T} {f : List Addr} (h : Rp K H S .sh v t f) : f = [] := by cases h <;> rfl
theorem RpA.sh_nil : ∀ {v : List V} {t : List T} {f : List Addr}, RpA K H S .sh v t f → f = []
  | _, _, _, .nil => rfl
  | _, _, _, .cons r rs => by rw [Rp.sh_nil r, RpA.sh_nil rs]; rfl
theorem RpA.len {ρ : Ow} : ∀ {v : List V} {t : List T} {f : List Addr}, RpA K H S ρ v t f → v.length = t.length
  | _, _, _, .nil => rfl
  | _, _, _, .cons _ rs => by rw [List.length_cons, List.length_cons, RpA.len rs]
theorem RpA.get {ρ : Ow} : ∀ {v : List V} {t : List T} {f : List Addr}, RpA K H S ρ v t f → ∀ {i : Nat} {x : T}, t[i]? = some x → ∃ y g, v[i]? = some y ∧ Rp K H S ρ y x g ∧ ∀ a ∈ g, a ∈ f
  | _, _, _, .nil, i, x, h => by simp at h
  | _, _, _, .cons r rs, 0, x, h => by
    simp at h
    subst h
    exact ⟨_, _, rfl, r, fun a z => by simp [z]⟩
  | _, _, _, .cons r rs, i + 1, x, h => by
    obtain ⟨y, g, h1, h2, h3⟩ := RpA.get rs (i := i) (x := x) (by simpa using h)
    exact ⟨y, g, by simpa using h1, h2, fun a z => by simp [h3 a z]⟩
theorem RpA.app {ρ : Ow} : ∀ {v w : List V} {t u : List T} {f g : List Addr}, RpA K H S ρ v t f → RpA K H S ρ w u g → RpA K H S ρ (v ++ w) (t ++ u) (f ++ g)
  | _, _, _, _, _, _, .nil, q => q
  | _, _, _, _, _, _, .cons r rs, q => by
    rw [List.append_assoc]
    exact .cons r (RpA.app rs q)
end

abbrev Env := List (Option T)
/-- the slots -/
inductive Sl (K : PySem.W.Frag) (H : Hp) (S : Addr → Prop) : List Ow → L2.St → Env → List Addr → Prop
  | nil : Sl K H S [] [] [] []
  | no {ρ : Ow} {Γ : List Ow} {v : Option V} {σ : L2.St} {E : Env} {fs : List Addr} : Sl K H S Γ σ E fs → Sl K H S (ρ :: Γ) (v :: σ) (none :: E) fs
  | on {ρ : Ow} {Γ : List Ow} {v : V} {t : T} {σ : L2.St} {E : Env} {f fs : List Addr} : Rp K H S ρ v t f → Sl K H S Γ σ E fs → Sl K H S (ρ :: Γ) (some v :: σ) (some t :: E) (f ++ fs)
section
variable {K : PySem.W.Frag} {H H' : Hp} {S S' : Addr → Prop} {own : Addr → Prop}
theorem Sl.fm (F : Fm own H H' S S') : ∀ {Γ : List Ow} {σ : L2.St} {E : Env} {f : List Addr}, Sl K H S Γ σ E f → (∀ a ∈ f, ¬ own a) → Sl K H' S' Γ σ E f
  | _, _, _, _, .nil, _ => .nil
  | _, _, _, _, .no s, n => .no (Sl.fm F s n)
  | _, _, _, _, .on r s, n => .on (r.fm F fun a z => n a (by simp [z])) (Sl.fm F s fun a z => n a (by simp [z]))
theorem Sl.isl : ∀ {Γ : List Ow} {σ : L2.St} {E : Env} {f : List Addr}, Sl K H S Γ σ E f → ∀ a ∈ f, ∃ xs, H a = some (.lst xs)
  | _, _, _, _, .nil, a, h => absurd h (by simp)
  | _, _, _, _, .no s, a, h => Sl.isl s a h
  | _, _, _, _, .on r s, a, h => by
    rcases List.mem_append.mp h with z | z
    · exact r.isl a z
    · exact Sl.isl s a z
theorem Sl.len : ∀ {Γ : List Ow} {σ : L2.St} {E : Env} {f : List Addr}, Sl K H S Γ σ E f → Γ.length = E.length ∧ σ.length = E.length
  | _, _, _, _, .nil => ⟨rfl, rfl⟩
  | _, _, _, _, .no s => ⟨by simp [Sl.len s], by simp [Sl.len s]⟩
  | _, _, _, _, .on r s => ⟨by simp [Sl.len s], by simp [Sl.len s]⟩
theorem Sl.along {g : List Addr} (k : ∀ (ρ : Ow) (v : V) (t : T) (h : List Addr), (∀ a ∈ h, a ∈ g) → Rp K H S ρ v t h → Rp K H' S' ρ v t h) : ∀ {Γ : List Ow} {σ : L2.St} {E : Env} {f : List Addr}, Sl K H S Γ σ E f → (∀ a ∈ f, a ∈ g) → Sl K H' S' Γ σ E f
  | _, _, _, _, .nil, _ => .nil
  | _, _, _, _, .no s, n => .no (Sl.along k s n)
  | _, _, _, _, .on r s, n => .on (k _ _ _ _ (fun a z => n a (by simp [z])) r) (Sl.along k s fun a z => n a (by simp [z]))
/-- one slot looked at and stored anew; the others go along to another heap -/
theorem Sl.put : ∀ {Γ : List Ow} {σ : L2.St} {E : Env} {fp : List Addr} (i : Nat), Sl K H S Γ σ E fp → i < E.length → ∃ f1 f f2, fp = f1 ++ (f ++ f2) ∧
    (∀ t, E[i]? = some (some t) → ∃ ρ v, Γ[i]? = some ρ ∧ σ[i]? = some (some v) ∧ Rp K H S ρ v t f) ∧
    ∀ (H' : Hp) (S' : Addr → Prop) (ρ' : Ow) (v' : V) (t' : T) (f' : List Addr), (∀ ρ v t g, (∀ a ∈ g, a ∈ f1 ∨ a ∈ f2) → Rp K H S ρ v t g → Rp K H' S' ρ v t g) → Rp K H' S' ρ' v' t' f' →
      Sl K H' S' (Γ.set i ρ') (σ.set i (some v')) (E.set i (some t')) (f1 ++ (f' ++ f2))
  | _, _, _, _, i, .nil, h => absurd h (by simp)
  | _, _, _, _, 0, .no (fs := fs) s, _ => by
    refine ⟨[], [], fs, rfl, fun t h => by simp at h, fun H' S' ρ' v' t' f' k r => ?_⟩
    exact show Sl K H' S' _ _ _ (f' ++ fs) from .on r (s.along (g := fs) (fun ρ v t h n => k ρ v t h fun a z => .inr (n a z)) fun _ z => z)
  | _, _, _, _, 0, .on (f := f) (fs := fs) r s, _ => by
    refine ⟨[], f, fs, rfl, fun t h => ?_, fun H' S' ρ' v' t' f' k r => ?_⟩
    · simp at h
      subst h
      exact ⟨_, _, rfl, rfl, r⟩
    · exact show Sl K H' S' _ _ _ (f' ++ fs) from .on r (s.along (g := fs) (fun ρ v t h n => k ρ v t h fun a z => .inr (n a z)) fun _ z => z)
  | _, _, _, _, i + 1, .no s, h => by
    obtain ⟨f1, f, f2, e, g, p⟩ := Sl.put i s (by simpa using h)
    exact ⟨f1, f, f2, e, fun t q => by simpa using g t (by simpa using q), fun H' S' ρ' v' t' f' k r => .no (p H' S' ρ' v' t' f' k r)⟩
  | _, _, _, _, i + 1, .on (f := f0) r0 s, h => by
    obtain ⟨f1, f, f2, e, g, p⟩ := Sl.put i s (by simpa using h)
    refine ⟨f0 ++ f1, f, f2, by rw [e, List.append_assoc], fun t q => by simpa using g t (by simpa using q), fun H' S' ρ' v' t' f' k r => ?_⟩
    have q := Sl.on (k _ _ _ _ (fun a z => .inl (by simp [z])) r0) (p H' S' ρ' v' t' f' (fun ρ v t g hg => k ρ v t g fun a z => (hg a z).imp (fun y => by simp [y]) id) r)
    rw [← List.append_assoc] at q
    exact q
end
end Tr

end
section
set_option maxHeartbeats 2000000
/-! Tr1: states, steps, the judgements for expressions. -/
namespace Tr
open PySem PySem.Spec PyProof.Rows L2

/-- the code objects that are told, their tables that are not told, the name of a lambda that is made there -/
def codesK (K : PySem.W.Frag) : List (Addr × Addr × Str) := K.filterMap fun p => match p.2 with
  | ⟨.type t, _, .fields vs, _⟩ => (match (vs.toList : List Value), (vs.toList[11]? : Option Value) with
    | _ :: .str n _ :: _, some (Value.ref P) => if t = "code" ∧ (K.lookup P).isNone = true then some (p.1, P, n ++ ".<locals>." ++ "<lambda>") else none
    | _, _ => none)
  | _ => none
/-- the tables are tracked -/
def TbK (K : PySem.W.Frag) (H : Hp) : Prop := ∀ p ∈ codesK K, LamX.TabS H p.2.1 p.2.2
theorem TbK.go {K : PySem.W.Frag} {H H' : Hp} (t : TbK K H) (h : ∀ P q, LamX.TabS H P q → LamX.TabS H' P q) : TbK K H' := fun p hp => h _ _ (t p hp)
structure Good (K : PySem.W.Frag) (H : Hp) (S : Addr → Prop) (Γ : List Ow) (σ : L2.St) (E : Env) (fp : List Addr) : Prop where
  sl : Sl K H S Γ σ E fp
  nd : fp.Nodup
  nS : ∀ a ∈ fp, ¬ S a
  sT : (∀ a, S a → ∃ o, H a = some o ∧ ∀ ps, o ≠ .tbl ps) ∧ TbK K H

/-- a step: from H, shared S, owned fp to H', S', fp' -/
structure Ev (H : Hp) (S : Addr → Prop) (fp : List Addr) (H' : Hp) (S' : Addr → Prop) (fp' : List Addr) : Prop where
  keep : ∀ a o, H a = some o → a ∉ fp → (∀ ps, o ≠ .tbl ps) → H' a = some o
  dom : ∀ a, H' a = none → H a = none
  mono : ∀ a, S a → S' a
  shr : ∀ a, S' a → S a ∨ a ∈ fp ∨ H a = none
  own : ∀ a ∈ fp', a ∈ fp ∨ H a = none

/-- all that is tracked stays -/
def Kept (H H' : Hp) : Prop := ∀ a o, H a = some o → (∀ ps, o ≠ .tbl ps) → H' a = some o
theorem TbK.new {K : PySem.W.Frag} {H : Hp} {p : Addr} {o : HO} (h : H p = none) (t : TbK K H) : TbK K (upd H p o) := t.go fun _ _ t => t.ext fun b u e => by rw [upd_ne (ne_of_none e h)]; exact e
theorem Kept.refl (H : Hp) : Kept H H := fun _ _ h _ => h
theorem Kept.trans {H H1 H2 : Hp} (a : Kept H H1) (b : Kept H1 H2) : Kept H H2 := fun c o h n => b c o (a c o h n) n

section
variable {K : PySem.W.Frag} {H H' H1 H2 : Hp} {S S' S1 S2 : Addr → Prop} {fp fp' fp1 fp2 g g1 g2 : List Addr} {Γ Γ' : List Ow} {σ σ' : L2.St} {E E' : Env}
theorem Ev.refl (h : ∀ a ∈ fp', a ∈ fp) : Ev H S fp H S fp' := ⟨fun _ _ e _ _ => e, fun _ h => h, fun _ h => h, fun _ h => .inl h, fun a z => .inl (h a z)⟩
theorem Ev.trans (x : Ev H S fp H1 S1 fp1) (y : Ev H1 S1 fp1 H2 S2 fp2) : Ev H S fp H2 S2 fp2 where
  keep := fun a o e n t => y.keep a o (x.keep a o e n t) (fun z => (x.own a z).elim n (fun q => by rw [e] at q; cases q)) t
  dom := fun a h => x.dom a (y.dom a h)
  mono := fun a h => y.mono a (x.mono a h)
  shr := fun a h => by
    rcases y.shr a h with z | z | z
    · exact x.shr a z
    · exact .inr (x.own a z)
    · exact .inr (.inr (x.dom a z))
  own := fun a h => by
    rcases y.own a h with z | z
    · exact x.own a z
    · exact .inr (x.dom a z)
/-- more is owned before and behind -/
theorem Ev.add (x : Ev H S fp H' S' fp') (g : List Addr) : Ev H S (g ++ fp) H' S' (g ++ fp') where
  keep := fun a o e n t => x.keep a o e (fun z => n (List.mem_append_right _ z)) t
  dom := x.dom
  mono := x.mono
  shr := fun a h => (x.shr a h).imp id fun z => z.imp (fun y => List.mem_append_right _ y) id
  own := fun a h => (List.mem_append.mp h).elim (fun z => .inl (List.mem_append_left _ z)) fun z => (x.own a z).imp (fun y => List.mem_append_right _ y) id
/-- fewer are told -/
theorem Ev.less (x : Ev H S fp H' S' fp') (h : ∀ a ∈ g, a ∈ fp') : Ev H S fp H' S' g := { x with own := fun a z => x.own a (h a z) }
theorem Ev.more (x : Ev H S fp H' S' fp') (h : ∀ a ∈ fp, a ∈ g) : Ev H S g H' S' fp' where
  keep := fun a o e n t => x.keep a o e (fun z => n (h a z)) t
  dom := x.dom
  mono := x.mono
  shr := fun a k => (x.shr a k).imp id fun z => z.imp (h a) id
  own := fun a k => (x.own a k).imp (h a) id
theorem Ev.fm (x : Ev H S fp H' S' fp') (nS : ∀ a ∈ fp, ¬ S a) (isl : ∀ a ∈ fp, ∃ xs, H a = some (.lst xs)) : Fm (· ∈ fp) H H' S S' :=
  ⟨x.keep, x.mono, fun a s z => nS a z s, isl⟩
theorem Good.isl (G : Good K H S Γ σ E fp) : ∀ a ∈ fp, ∃ xs, H a = some (.lst xs) := G.sl.isl
theorem Good.fm (G : Good K H S Γ σ E fp) (x : Ev H S fp H' S' fp') : Fm (· ∈ fp) H H' S S' := x.fm G.nS G.isl
/-- what stood apart from fp stands on, apart from fp' -/
theorem Ev.apart (x : Ev H S fp H' S' fp') {a : Addr} {o : HO} (e : H a = some o) (n : a ∉ fp) (s : ¬ S a) : a ∉ fp' ∧ ¬ S' a :=
  ⟨fun z => (x.own a z).elim n (fun q => absurd (e.symm.trans q) (by simp)), fun z => by
    rcases x.shr a z with q | q | q
    · exact s q
    · exact n q
    · rw [e] at q; cases q⟩
/-- a thing in hand, behind a step of the slots -/
theorem hand (x : Ev H S fp H' S' fp') (F : Fm (· ∈ fp) H H' S S') {ρ : Ow} {v : V} {t : T} (r : Rp K H S ρ v t g) (d : ∀ a ∈ g, a ∉ fp) (s : ∀ a ∈ g, ¬ S a) :
    Rp K H' S' ρ v t g ∧ (∀ a ∈ g, a ∉ fp') ∧ ∀ a ∈ g, ¬ S' a :=
  ⟨r.fm F d, fun a z => (x.apart (r.isl a z).choose_spec (d a z) (s a z)).1, fun a z => (x.apart (r.isl a z).choose_spec (d a z) (s a z)).2⟩
theorem handA (x : Ev H S fp H' S' fp') (F : Fm (· ∈ fp) H H' S S') {ρ : Ow} {v : List V} {t : List T} (r : RpA K H S ρ v t g) (d : ∀ a ∈ g, a ∉ fp) (s : ∀ a ∈ g, ¬ S a) :
    RpA K H' S' ρ v t g ∧ (∀ a ∈ g, a ∉ fp') ∧ ∀ a ∈ g, ¬ S' a :=
  ⟨r.fm F d, fun a z => (x.apart (r.isl a z).choose_spec (d a z) (s a z)).1, fun a z => (x.apart (r.isl a z).choose_spec (d a z) (s a z)).2⟩
theorem nd_app {l m : List Addr} (h : (l ++ m).Nodup) : l.Nodup ∧ m.Nodup ∧ ∀ a ∈ l, a ∉ m := by
  rw [List.nodup_append] at h
  exact ⟨h.1, h.2.1, fun a z y => h.2.2 a z a y rfl⟩
theorem nd_mk {l m : List Addr} (h1 : l.Nodup) (h2 : m.Nodup) (h : ∀ a ∈ l, a ∉ m) : (l ++ m).Nodup := by
  rw [List.nodup_append]
  exact ⟨h1, h2, fun a z b y e => h a z (e ▸ y)⟩
theorem Ev.new {a : Addr} {o : HO} (h : H a = none) : Ev H S fp (upd H a o) S (a :: fp) where
  keep := fun b u e _ _ => by rw [upd_ne (ne_of_none e h)]; exact e
  dom := fun b e => by
    by_cases z : b = a
    · rw [z]; exact h
    · rwa [upd_ne z] at e
  mono := fun _ h => h
  shr := fun _ h => .inl h
  own := fun b z => (List.mem_cons.mp z).elim (fun y => .inr (by rw [y]; exact h)) .inl
theorem Kept.new {a : Addr} {o : HO} (h : H a = none) : Kept H (upd H a o) := fun b u e _ => by rw [upd_ne (ne_of_none e h)]; exact e
theorem Ev.kept (x : Ev H S [] H' S' fp') : Kept H H' := fun a o e t => x.keep a o e (by simp) t
end

/-- an exception: its class's name, its field -/
structure Ex where
  cls : Str
  fld : Option (Str × T)
def XAt (K : PySem.W.Frag) (H : Hp) (S : Addr → Prop) (x : Ex) (cls : Value) (d : Option Addr) : Prop :=
  cls = .ref (He.ga K x.cls) ∧ match x.fld with
    | none => d = none
    | some (f, t) => ∃ dx v, d = some dx ∧ H dx = some (.xd [(f, v)]) ∧ Rp K H S .sh v t []
inductive Out (α : Type) where
  | ok (a : α) (E : Env)
  | ex (x : Ex) (E : Env)
abbrev P0 := Env → Option T
abbrev F0 (α : Type) := Env → Option (Out α)
def F0.pure {α : Type} (a : α) : F0 α := fun E => some (.ok a E)
def F0.bind {α β : Type} (f : F0 α) (g : α → F0 β) : F0 β := fun E => match f E with
  | none => none
  | some (.ok a E1) => g a E1
  | some (.ex x E1) => some (.ex x E1)

/-- all slots shared -/
def allSh (Γ : List Ow) : List Ow := Γ.map fun _ => Ow.sh

/-- a value of one kind, a list of them, by ownership -/
class Kd (V' T' : Type) where
  rel : PySem.W.Frag → Hp → (Addr → Prop) → Ow → V' → T' → List Addr → Prop
  fm : ∀ {K : PySem.W.Frag} {H H' : Hp} {S S' : Addr → Prop} {own : Addr → Prop} {ρ : Ow} {v : V'} {t : T'} {f : List Addr}, Fm own H H' S S' → rel K H S ρ v t f → (∀ a ∈ f, ¬ own a) → rel K H' S' ρ v t f
  isl : ∀ {K : PySem.W.Frag} {H : Hp} {S : Addr → Prop} {ρ : Ow} {v : V'} {t : T'} {f : List Addr}, rel K H S ρ v t f → ∀ a ∈ f, ∃ xs, H a = some (.lst xs)
  weak : ∀ {K : PySem.W.Frag} {H : Hp} {S S' : Addr → Prop} {ρ : Ow} {v : V'} {t : T'} {f : List Addr}, rel K H S ρ v t f → (∀ a, S a → S' a) → (∀ a ∈ f, S' a) → rel K H S' .sh v t []
instance : Kd V T := ⟨Rp, fun F r n => r.fm F n, fun r => r.isl, fun r g n => r.weak g n⟩
instance : Kd (List V) (List T) := ⟨RpA, fun F r n => r.fm F n, fun r => r.isl, fun r g n => r.weak g n⟩

section
variable {V' T' : Type} [Kd V' T']
/-- behind an evaluation that gave t -/
def Pok (K : PySem.W.Frag) (p : Bool) (H : Hp) (S : Addr → Prop) (fp : List Addr) (E : Env) (Γ' : List Ow) (σ : L2.St) (ρ : Ow) (t : T') (E' : Env) (Q : V' → Hp → Prop) : Prop :=
  ∀ v H' S' fp' fr, Good K H' S' Γ' σ E' fp' → Kd.rel K H' S' ρ v t fr → (fr ++ fp').Nodup → (∀ a ∈ fr, ¬ S' a) → Ev H S fp H' S' (fr ++ fp') → (p = true → E' = E ∧ Kept H H') → Q v H'
def Pex (K : PySem.W.Frag) (H : Hp) (S : Addr → Prop) (fp : List Addr) (Γ : List Ow) (σ : L2.St) (x : Ex) (E' : Env) (W : WX) : Prop :=
  ∀ cls d H' S' fp', Good K H' S' (allSh Γ) σ E' fp' → XAt K H' S' x cls d → Ev H S fp H' S' fp' → W cls d σ H'
/-- the reading of an expression that computes f -/
def tS (K : PySem.W.Frag) (W : WX) (p : Bool) (Γ : List Ow) (f : F0 T') (ρ : Ow) (Γ' : List Ow) : L2.St → Hp → (V' → Hp → Prop) → Prop := fun σ H Q =>
  ∃ S E fp r, Good K H S Γ σ E fp ∧ f E = some r ∧ match r with
    | .ok t E' => Pok K p H S fp E Γ' σ ρ t E' Q
    | .ex x E' => Pex K H S fp Γ σ x E' W
end
/-- a pure expression: nothing changes -/
def tP (K : PySem.W.Frag) (Γ : List Ow) (f : P0) (ρ : Ow) : TE := fun σ H Q => ∃ S E fp t, Good K H S Γ σ E fp ∧ f E = some t ∧ ∀ v fr, Rp K H S ρ v t fr → (∀ a ∈ fr, a ∈ fp) → Q v H
def PL (X : Cx) (Γ : List Ow) (e : Expr) (f : P0) (ρ : Ow) : Prop := PE X e (tP X.K Γ f ρ)
def SE (X : Cx) (W : WX) (p : Bool) (Γ : List Ow) (e : Expr) (f : F0 T) (ρ : Ow) (Γ' : List Ow) : Prop := PE X e (tS (V' := V) X.K W p Γ f ρ Γ')
def SA (X : Cx) (W : WX) (p : Bool) (Γ : List Ow) (es : List Expr) (f : F0 (List T)) (ρ : Ow) (Γ' : List Ow) : Prop := PA X es (tS (V' := List V) X.K W p Γ f ρ Γ')

/-- a reading may be replaced by one that asks more -/
theorem pe_imp {X : Cx} {e : Expr} {t u : TE} (h : PE X e t) (k : ∀ σ H Q, u σ H Q → t σ H Q) : PE X e u := ⟨fun pins s σ H Q I q => h.run pins s σ H Q I (k σ H Q q)⟩
theorem pa_imp {X : Cx} {e : List Expr} {t u : TA} (h : PA X e t) (k : ∀ σ H Q, u σ H Q → t σ H Q) : PA X e u := ⟨fun pos pins s σ H Q I q => h.run pos pins s σ H Q I (k σ H Q q)⟩
theorem pt_imp {X : Cx} {e : Expr} {t u : TT} (h : PT X e t) (k : ∀ σ H Q, u σ H Q → t σ H Q) : PT X e u := ⟨fun pins s σ H Q I q => h.run pins s σ H Q I (k σ H Q q)⟩
theorem ps_imp {X : Cx} {e : Stmt} {t u : TS} (h : PS X e t) (k : ∀ D σ H, u D σ H → t D σ H) : PS X e u := ⟨fun pins s σ H D I q => h.run pins s σ H D I (k D σ H q)⟩
theorem pss_imp {X : Cx} {e : List Stmt} {t u : TS} (h : PSs X e t) (k : ∀ D σ H, u D σ H → t D σ H) : PSs X e u := ⟨fun pins s σ H D I q => h.run pins s σ H D I (k D σ H q)⟩

/-- THE BIND: two evaluations in a row; the first thing in hand goes along -/
theorem tS_bind {V1 T1 V2 T2 V3 T3 : Type} [Kd V1 T1] [Kd V2 T2] [Kd V3 T3] {K : PySem.W.Frag} {W : WX} {p1 p2 : Bool} {Γ Γ1 Γ2 : List Ow} {f : F0 T1} {g : F0 T2} {h : T1 → T2 → F0 T3} {ρ1 ρ2 ρ3 : Ow} {σ : L2.St} {H : Hp} {Q : V3 → Hp → Prop}
    {u1 : L2.St → Hp → (V1 → Hp → Prop) → Prop} {u2 : L2.St → Hp → (V2 → Hp → Prop) → Prop} {R : V1 → V2 → Hp → Prop}
    (h1 : ∀ σ H Q, tS (V' := V1) K W p1 Γ f ρ1 Γ1 σ H Q → u1 σ H Q) (h2 : ∀ σ H Q, tS (V' := V2) K W p2 Γ1 g ρ2 Γ2 σ H Q → u2 σ H Q) (hΓ : allSh Γ1 = allSh Γ)
    (fin : ∀ S E fp E2 x y t1 t2 H2 S2 fp2 g1 g2 r, Good K H2 S2 Γ2 σ E2 fp2 → Kd.rel K H2 S2 ρ1 x t1 g1 → Kd.rel K H2 S2 ρ2 y t2 g2 → (g1 ++ (g2 ++ fp2)).Nodup → (∀ a ∈ g1 ++ g2, ¬ S2 a) → Ev H S fp H2 S2 (g1 ++ (g2 ++ fp2)) →
      ((p1 && p2) = true → E2 = E ∧ Kept H H2) → h t1 t2 E2 = some r → (match r with
        | .ok t E' => Pok K (p1 && p2) H S fp E Γ2 σ ρ3 t E' Q
        | .ex x E' => Pex K H S fp Γ σ x E' W) → R x y H2)
    (q : tS (V' := V3) K W (p1 && p2) Γ (F0.bind f fun a => F0.bind g fun b => h a b) ρ3 Γ2 σ H Q) :
    u1 σ H fun x H1 => u2 σ H1 fun y H2 => R x y H2 := by
  obtain ⟨S, E, fp, r, G, e, q⟩ := q
  refine h1 _ _ _ ?_
  unfold F0.bind at e
  cases e1 : f E with
  | none => rw [e1] at e; cases e
  | some r1 =>
    rw [e1] at e
    refine ⟨S, E, fp, r1, G, e1, ?_⟩
    cases r1 with
    | ex x E1 =>
      have e' : r = .ex x E1 := (Option.some.inj e).symm
      subst e'
      exact q
    | ok a E1 =>
      intro v1 H1 S1 fp1 fr1 G1 R1 nd1 s1 ev1 pr1
      refine h2 _ _ _ ?_
      cases e2 : g E1 with
      | none => simp only [e2] at e; cases e
      | some r2 =>
        simp only [e2] at e
        refine ⟨S1, E1, fp1, r2, G1, e2, ?_⟩
        obtain ⟨n1, n2, n3⟩ := nd_app nd1
        cases r2 with
        | ex x E2 =>
          have e' : r = .ex x E2 := (Option.some.inj e).symm
          subst e'
          intro cls d H' S' fp' G' xa ev'
          refine q cls d H' S' fp' (hΓ ▸ G') xa ((ev1.less (fun a z => List.mem_append_right _ z)).trans ev')
        | ok b E2 =>
          intro v2 H2 S2 fp2 fr2 G2 R2 nd2 s2 ev2 pr2
          have F := G1.fm ev2
          have k1 : Kd.rel K H2 S2 ρ1 v1 a fr1 := Kd.fm F R1 n3
          have k2 : ∀ x ∈ fr1, x ∉ fr2 ++ fp2 ∧ ¬ S2 x := fun x z => ev2.apart (Kd.isl R1 x z).choose_spec (n3 x z) (s1 x z)
          refine fin S E fp E2 v1 v2 a b H2 S2 fp2 fr1 fr2 r G2 k1 R2 (nd_mk n1 nd2 fun x z => (k2 x z).1) (fun x z => (List.mem_append.mp z).elim (fun y => (k2 x y).2) (s2 x)) (ev1.trans (ev2.add fr1)) (fun pp => ?_) e q
          obtain ⟨a1, a2⟩ := Bool.and_eq_true_iff.mp pp
          obtain ⟨b1, b2⟩ := pr1 a1
          obtain ⟨c1, c2⟩ := pr2 a2
          exact ⟨c1.trans b1, b2.trans c2⟩
end Tr

end
section
set_option maxHeartbeats 2000000
/-! Tr2: operands that are only read; expressions. -/
namespace Tr
open PySem PySem.Spec PyProof.Rows L2

mutual
/-- what may be read of a value, whoever owns it -/
inductive Ro (K : PySem.W.Frag) (H : Hp) (S : Addr → Prop) : Ow → V → T → Prop
  | non {ρ : Ow} : Ro K H S ρ .non .non
  | bl {ρ : Ow} (b : Bool) : Ro K H S ρ (.bl b) (.bl b)
  | int {ρ : Ow} (i : Int) : Ro K H S ρ (.int i) (.int i)
  | str {ρ : Ow} (x : Str) : Ro K H S ρ (.str x) (.str x)
  | adr {ρ : Ow} (a : Addr) : Ro K H S ρ (.ref a) (.adr a)
  | box {ρ : Ow} {a : Addr} {k : Bx} {xs : List V} {ts : List T} : BoxAt K H S a k xs → RoA K H S .sh xs ts → Ro K H S ρ (.ref a) (.box k ts)
  | lstS {a : Addr} {xs : List V} {ts : List T} : H a = some (.lst xs) → S a → RoA K H S .sh xs ts → Ro K H S .sh (.ref a) (.lst ts)
  | fz {ρ : Ow} {a : Addr} {xs : List V} {ts : List T} : SqF K H a xs → RoA K H S .sh xs ts → Ro K H S ρ (.ref a) (.fz ts)
  | lstO {i : Ow} {a : Addr} {xs : List V} {ts : List T} : H a = some (.lst xs) → RoA K H S i xs ts → Ro K H S (.ow i) (.ref a) (.lst ts)
  | tup {ρ : Ow} {a : Addr} {xs : List V} {ts : List T} : SqT K H a xs → RoA K H S .sh xs ts → Ro K H S ρ (.ref a) (.tup ts)
inductive RoA (K : PySem.W.Frag) (H : Hp) (S : Addr → Prop) : Ow → List V → List T → Prop
  | nil {ρ : Ow} : RoA K H S ρ [] []
  | cons {ρ : Ow} {v : V} {t : T} {vs : List V} {ts : List T} : Ro K H S ρ v t → RoA K H S ρ vs ts → RoA K H S ρ (v :: vs) (t :: ts)
end
section
variable {K : PySem.W.Frag} {H H' : Hp} {S S' : Addr → Prop}
mutual
theorem Rp.ro : ∀ {ρ : Ow} {v : V} {t : T} {f : List Addr}, Rp K H S ρ v t f → Ro K H S ρ v t
  | _, _, _, _, .non => .non
  | _, _, _, _, .bl b => .bl b
  | _, _, _, _, .int i => .int i
  | _, _, _, _, .str x => .str x
  | _, _, _, _, .adr a => .adr a
  | _, _, _, _, .box h r => .box h (RpA.ro r)
  | _, _, _, _, .lstS h s r => .lstS h s (RpA.ro r)
  | _, _, _, _, .fz h r => .fz h (RpA.ro r)
  | _, _, _, _, .lstO h r => .lstO h (RpA.ro r)
  | _, _, _, _, .tup h r => .tup h (RpA.ro r)
theorem RpA.ro : ∀ {ρ : Ow} {v : List V} {t : List T} {f : List Addr}, RpA K H S ρ v t f → RoA K H S ρ v t
  | _, _, _, _, .nil => .nil
  | _, _, _, _, .cons r rs => .cons (Rp.ro r) (RpA.ro rs)
end
mutual
theorem Ro.rp : ∀ {v : V} {t : T}, Ro K H S .sh v t → Rp K H S .sh v t []
  | _, _, .non => .non
  | _, _, .bl b => .bl b
  | _, _, .int i => .int i
  | _, _, .str x => .str x
  | _, _, .adr a => .adr a
  | _, _, .box h r => .box h (RoA.rp r)
  | _, _, .lstS h s r => .lstS h s (RoA.rp r)
  | _, _, .fz h r => .fz h (RoA.rp r)
  | _, _, .tup h r => .tup h (RoA.rp r)
theorem RoA.rp : ∀ {v : List V} {t : List T}, RoA K H S .sh v t → RpA K H S .sh v t []
  | _, _, .nil => .nil
  | _, _, .cons r rs => RpA.cons (f := []) (fs := []) (Ro.rp r) (RoA.rp rs)
end
theorem Kept.seq (k : Kept H H') {a : Addr} {xs : List V} (h : SqL K H a xs) : SqL K H' a xs := by
  rcases h with (h | ⟨o, h⟩) | h
  · exact .inl (.inl (k a _ h (fun ps z => nomatch z)))
  · exact .inl (.inr ⟨o, k a _ h (fun ps z => nomatch z)⟩)
  · exact .inr h
theorem Kept.frz (k : Kept H H') {a : Addr} {xs : List V} (h : SqF K H a xs) : SqF K H' a xs := by
  rcases h with ⟨o, h⟩ | h
  · exact .inl ⟨o, k a _ h (fun ps z => nomatch z)⟩
  · exact .inr h
theorem Kept.sqt (k : Kept H H') {a : Addr} {xs : List V} (h : SqT K H a xs) : SqT K H' a xs := by
  rcases h with (h | ⟨o, h⟩) | h
  · exact .inl (.inl (k a _ h (fun ps z => nomatch z)))
  · exact .inl (.inr ⟨o, k a _ h (fun ps z => nomatch z)⟩)
  · exact .inr h
theorem BoxAt.kept (q : Kept H H') (m : ∀ a, S a → S' a) {a : Addr} {k : Bx} {vs : List V} (h : BoxAt K H S a k vs) : BoxAt K H' S' a k vs := by
  cases k with
  | exc cls f =>
    cases f with
    | none => exact ⟨h.1, q _ _ h.2 fun _ => XO_tbl⟩
    | some f =>
      obtain ⟨dx, v, h1, h2, h3⟩ := h
      exact ⟨dx, v, h1, q _ _ h2 fun _ => XO_tbl, q _ _ h3 fun _ z => nomatch z⟩
  | dct ks => exact ⟨h.1, q _ _ h.2.1 (fun ps z => nomatch z), m _ h.2.2⟩
  | clo f c q2 ws => exact ⟨h.1, q _ _ h.2 fun ps => LamX.codeO_ne ps⟩
mutual
theorem Ro.kept (k : Kept H H') (m : ∀ a, S a → S' a) : ∀ {ρ : Ow} {v : V} {t : T}, Ro K H S ρ v t → Ro K H' S' ρ v t
  | _, _, _, .non => .non
  | _, _, _, .bl b => .bl b
  | _, _, _, .int i => .int i
  | _, _, _, .str x => .str x
  | _, _, _, .adr a => .adr a
  | _, _, _, .box h r => .box (h.kept k m) (RoA.kept k m r)
  | _, _, _, .lstS h s r => .lstS (k _ _ h (fun ps z => nomatch z)) (m _ s) (RoA.kept k m r)
  | _, _, _, .fz h r => .fz (k.frz h) (RoA.kept k m r)
  | _, _, _, .lstO h r => .lstO (k _ _ h (fun ps z => nomatch z)) (RoA.kept k m r)
  | _, _, _, .tup h r => .tup (k.sqt h) (RoA.kept k m r)
theorem RoA.kept (k : Kept H H') (m : ∀ a, S a → S' a) : ∀ {ρ : Ow} {v : List V} {t : List T}, RoA K H S ρ v t → RoA K H' S' ρ v t
  | _, _, _, .nil => .nil
  | _, _, _, .cons r rs => .cons (Ro.kept k m r) (RoA.kept k m rs)
end
theorem RoA.len {ρ : Ow} : ∀ {v : List V} {t : List T}, RoA K H S ρ v t → v.length = t.length
  | _, _, .nil => rfl
  | _, _, .cons _ rs => by rw [List.length_cons, List.length_cons, RoA.len rs]
theorem RoA.get {ρ : Ow} : ∀ {v : List V} {t : List T}, RoA K H S ρ v t → ∀ {i : Nat} {x : T}, t[i]? = some x → ∃ y, v[i]? = some y ∧ Ro K H S ρ y x
  | _, _, .nil, i, x, h => by simp at h
  | _, _, .cons r rs, 0, x, h => by
    simp at h
    subst h
    exact ⟨_, rfl, r⟩
  | _, _, .cons r rs, i + 1, x, h => by
    obtain ⟨y, h1, h2⟩ := RoA.get rs (i := i) (x := x) (by simpa using h)
    exact ⟨y, by simpa using h1, h2⟩
theorem RoA.take {ρ : Ow} : ∀ {v : List V} {t : List T} (n : Nat), RoA K H S ρ v t → RoA K H S ρ (v.take n) (t.take n)
  | _, _, 0, _ => .nil
  | _, _, _ + 1, .nil => .nil
  | _, _, n + 1, .cons r rs => .cons r (RoA.take n rs)
theorem RoA.drop {ρ : Ow} : ∀ {v : List V} {t : List T} (n : Nat), RoA K H S ρ v t → RoA K H S ρ (v.drop n) (t.drop n)
  | _, _, 0, r => r
  | _, _, _ + 1, .nil => .nil
  | _, _, n + 1, .cons _ rs => RoA.drop n rs
theorem RoA.app {ρ : Ow} : ∀ {v w : List V} {t u : List T}, RoA K H S ρ v t → RoA K H S ρ w u → RoA K H S ρ (v ++ w) (t ++ u)
  | _, _, _, _, .nil, q => q
  | _, _, _, _, .cons r rs, q => .cons r (RoA.app rs q)
theorem RoA.rev {ρ : Ow} : ∀ {v : List V} {t : List T}, RoA K H S ρ v t → RoA K H S ρ v.reverse t.reverse
  | _, _, .nil => .nil
  | _, _, .cons r rs => by
    rw [List.reverse_cons, List.reverse_cons]
    exact RoA.app (RoA.rev rs) (.cons r .nil)
/-- a list's items, as a new list shares them -/
theorem Ro.items {a : Addr} {ρ : Ow} {ts : List T} (h : Ro K H S ρ (.ref a) (.lst ts)) (hρ : ρ = .sh ∨ ρ = .ow .sh) : ∃ xs, H a = some (.lst xs) ∧ RoA K H S .sh xs ts := by
  rcases hρ with rfl | rfl
  · cases h with
    | lstS h s r => exact ⟨_, h, r⟩
  · cases h with
    | lstO h r => exact ⟨_, h, r⟩
theorem Ro.lst {ρ : Ow} {v : V} {ts : List T} (h : Ro K H S ρ v (.lst ts)) : ∃ a xs i, v = .ref a ∧ H a = some (.lst xs) ∧ RoA K H S i xs ts ∧ (ρ = .sh → i = .sh) ∧ ∀ j, ρ = .ow j → i = j := by
  cases h with
  | lstS h s r => exact ⟨_, _, _, rfl, h, r, fun _ => rfl, fun j z => nomatch z⟩
  | lstO h r => exact ⟨_, _, _, rfl, h, r, fun z => (nomatch z), fun j z => by cases z; rfl⟩
theorem Ro.tupl {ρ : Ow} {v : V} {ts : List T} (h : Ro K H S ρ v (.tup ts)) : ∃ a xs, v = .ref a ∧ SqT K H a xs ∧ RoA K H S .sh xs ts := by
  cases h with
  | tup h r => exact ⟨_, _, rfl, h, r⟩
theorem Ro.int_ {ρ : Ow} {v : V} {i : Int} (h : Ro K H S ρ v (.int i)) : v = .int i := by cases h; rfl
theorem Ro.bl_ {ρ : Ow} {v : V} {i : Bool} (h : Ro K H S ρ v (.bl i)) : v = .bl i := by cases h; rfl
theorem Ro.str_ {ρ : Ow} {v : V} {i : Str} (h : Ro K H S ρ v (.str i)) : v = .str i := by cases h; rfl
theorem Ro.non_ {ρ : Ow} {v : V} (h : Ro K H S ρ v .non) : v = .non := by cases h; rfl
end
/-- a scalar -/
inductive Sc : V → T → Prop
  | non : Sc .non .non
  | bl (b : Bool) : Sc (.bl b) (.bl b)
  | int (i : Int) : Sc (.int i) (.int i)
  | str (x : Str) : Sc (.str x) (.str x)
theorem Sc.rp {K : PySem.W.Frag} {H : Hp} {S : Addr → Prop} {ρ : Ow} {v : V} {t : T} (h : Sc v t) : Rp K H S ρ v t [] := by cases h <;> constructor
theorem Sc.ro {K : PySem.W.Frag} {H : Hp} {S : Addr → Prop} {ρ : Ow} {v : V} {t : T} (h : Sc v t) : Ro K H S ρ v t := by cases h <;> constructor

/-- pointwise -/
inductive RoL (K : PySem.W.Frag) (H : Hp) (S : Addr → Prop) : List Ow → List V → List T → Prop
  | nil : RoL K H S [] [] []
  | cons {ρ : Ow} {ρs : List Ow} {v : V} {t : T} {vs : List V} {ts : List T} : Ro K H S ρ v t → RoL K H S ρs vs ts → RoL K H S (ρ :: ρs) (v :: vs) (t :: ts)

section
variable {X : Cx} {W : WX} {Γ Γ1 Γ2 Γ' : List Ow} {e e1 e2 : Expr} {es : List Expr} {pos : Pos}

/-! ### operands -/
/-- the reading of an operand: what is read of it (rel) stands while nothing that is borrowed (b) changes -/
def tR {α τ : Type} (rel : Hp → (Addr → Prop) → α → τ → Prop) (K : PySem.W.Frag) (W : WX) (b p : Bool) (Γ : List Ow) (f : F0 τ) (Γ' : List Ow) : L2.St → Hp → (α → Hp → Prop) → Prop := fun σ H Q =>
  ∃ S E fp r, Good K H S Γ σ E fp ∧ f E = some r ∧ match r with
    | .ok t E' => ∀ v H' S' fp', Good K H' S' Γ' σ E' fp' → Ev H S fp H' S' fp' → (p = true → E' = E ∧ Kept H H') → (∀ H2 S2 fp2, Ev H' S' fp' H2 S2 fp2 → (b = true → Kept H' H2) → rel H2 S2 v t) → Q v H'
    | .ex x E' => Pex K H S fp Γ σ x E' W
abbrev tO (K : PySem.W.Frag) (W : WX) (b p : Bool) (Γ : List Ow) (f : F0 T) (ρ : Ow) (Γ' : List Ow) : TE := tR (fun H S v t => Ro K H S ρ v t) K W b p Γ f Γ'
abbrev tOA (K : PySem.W.Frag) (W : WX) (b p : Bool) (Γ : List Ow) (f : F0 (List T)) (ρs : List Ow) (Γ' : List Ow) : TA := tR (fun H S v t => RoL K H S ρs v t) K W b p Γ f Γ'
def OE (X : Cx) (W : WX) (b p : Bool) (Γ : List Ow) (e : Expr) (f : F0 T) (ρ : Ow) (Γ' : List Ow) : Prop := PE X e (tO X.K W b p Γ f ρ Γ')
def OA (X : Cx) (W : WX) (b p : Bool) (Γ : List Ow) (es : List Expr) (f : F0 (List T)) (ρs : List Ow) (Γ' : List Ow) : Prop := PA X es (tOA X.K W b p Γ f ρs Γ')
/-- a reader as a computation -/
def rd (f : P0) : F0 T := fun E => (f E).map fun t => .ok t E

theorem SE.oe {p : Bool} {f : F0 T} {ρ : Ow} (h : SE X W p Γ e f ρ Γ') : OE X W false p Γ e f ρ Γ' := by
  refine pe_imp h fun σ H Q ⟨S, E, fp, r, G, e, q⟩ => ⟨S, E, fp, r, G, e, ?_⟩
  cases r with
  | ex x E' => exact q
  | ok t E' =>
    intro v H' S' fp' fr G' R nd s ev pp
    obtain ⟨n1, n2, n3⟩ := nd_app nd
    exact q v H' S' fp' G' (ev.less fun a z => List.mem_append_right _ z) pp fun H2 S2 fp2 ev2 _ => (Rp.fm (G'.fm ev2) R n3).ro
theorem PL.oe {f : P0} {ρ : Ow} (h : PL X Γ e f ρ) : OE X W true true Γ e (rd f) ρ Γ := by
  refine pe_imp h fun σ H Q ⟨S, E, fp, r, G, e, q⟩ => ?_
  unfold rd at e
  cases e1 : f E with
  | none => rw [e1] at e; cases e
  | some t =>
    rw [e1] at e
    have e' : r = .ok t E := (Option.some.inj e).symm
    subst e'
    exact ⟨S, E, fp, t, G, e1, fun v fr R hs => q v H S fp G (Ev.refl fun _ z => z) (fun _ => ⟨rfl, Kept.refl H⟩) fun H2 S2 fp2 ev k => R.ro.kept (k rfl) ev.mono⟩
/-- a shared thing that is read is at hand -/
theorem PL.se {f : P0} (h : PL X Γ e f .sh) : SE X W true Γ e (rd f) .sh Γ := by
  refine pe_imp h fun σ H Q ⟨S, E, fp, r, G, e, q⟩ => ?_
  unfold rd at e
  cases e1 : f E with
  | none => rw [e1] at e; cases e
  | some t =>
    rw [e1] at e
    have e' : r = .ok t E := (Option.some.inj e).symm
    subst e'
    refine ⟨S, E, fp, t, G, e1, fun v fr R hs => ?_⟩
    have z := R.sh_nil
    subst z
    exact q v H S fp [] G R G.nd (fun a z => absurd z (by simp)) (Ev.refl fun _ z => z) (fun _ => ⟨rfl, Kept.refl H⟩)
theorem oa_nil : OA X W false true Γ [] (F0.pure []) [] Γ := by
  refine pa_imp pa_nil fun σ H Q ⟨S, E, fp, r, G, e, q⟩ => ?_
  have e' : r = .ok [] E := (Option.some.inj e).symm
  subst e'
  exact q [] H S fp G (Ev.refl fun _ z => z) (fun _ => ⟨rfl, Kept.refl H⟩) fun _ _ _ _ _ => .nil
/-- two operands: what is known behind both -/
theorem tR_bind {α1 τ1 α τ : Type} {rel1 : Hp → (Addr → Prop) → α1 → τ1 → Prop} {rel : Hp → (Addr → Prop) → α → τ → Prop} {W : WX} {K : PySem.W.Frag} {b1 p1 b2 p2 : Bool} {f : F0 τ1} {g : F0 τ} {u1 : L2.St → Hp → (α1 → Hp → Prop) → Prop} {u2 : L2.St → Hp → (α → Hp → Prop) → Prop} {β : Type} {h : τ1 → τ → F0 β} {σ : L2.St} {H : Hp}
    {R : α1 → α → Hp → Prop}
    (hb : b1 = true → p2 = true) (hΓ : allSh Γ1 = allSh Γ)
    (h1 : ∀ σ H Q, tR rel1 K W b1 p1 Γ f Γ1 σ H Q → u1 σ H Q) (h2 : ∀ σ H (Q : α → Hp → Prop), tR rel K W b2 p2 Γ1 g Γ2 σ H Q → u2 σ H Q)
    (S : Addr → Prop) (E : Env) (fp : List Addr) (r : Out β) (G : Good K H S Γ σ E fp) (er : F0.bind f (fun a => F0.bind g fun b => h a b) E = some r)
    (qx : ∀ x E', r = .ex x E' → Pex K H S fp Γ σ x E' W)
    (q : ∀ x y t ts H2 S2 fp2 E2, Good K H2 S2 Γ2 σ E2 fp2 → Ev H S fp H2 S2 fp2 → ((p1 && p2) = true → E2 = E ∧ Kept H H2) → (∀ H3 S3 fp3, Ev H2 S2 fp2 H3 S3 fp3 → ((b1 || b2) = true → Kept H2 H3) → rel1 H3 S3 x t ∧ rel H3 S3 y ts) → h t ts E2 = some r → R x y H2) :
    u1 σ H fun x H1 => u2 σ H1 fun y H2 => R x y H2 := by
  refine h1 _ _ _ ?_
  unfold F0.bind at er
  cases e1 : f E with
  | none => rw [e1] at er; cases er
  | some r1 =>
    rw [e1] at er
    refine ⟨S, E, fp, r1, G, e1, ?_⟩
    cases r1 with
    | ex x E1 => exact qx x E1 (Option.some.inj er).symm
    | ok a E1 =>
      intro v1 H1 S1 fp1 G1 ev1 pr1 st1
      refine h2 _ _ _ ?_
      cases e2 : g E1 with
      | none => simp only [e2] at er; cases er
      | some r2 =>
        simp only [e2] at er
        refine ⟨S1, E1, fp1, r2, G1, e2, ?_⟩
        cases r2 with
        | ex x E2 =>
          intro cls d H' S' fp' G' xa ev'
          exact qx x E2 (Option.some.inj er).symm cls d H' S' fp' (hΓ ▸ G') xa (ev1.trans ev')
        | ok b E2 =>
          intro v2 H2 S2 fp2 G2 ev2 pr2 st2
          refine q v1 v2 a b H2 S2 fp2 E2 G2 (ev1.trans ev2) (fun pp => ?_) (fun H3 S3 fp3 ev3 k => ⟨st1 H3 S3 fp3 (ev2.trans ev3) fun z => ((pr2 (hb z)).2).trans (k (by simp [z])), st2 H3 S3 fp3 ev3 fun z => k (by simp [z])⟩) er
          obtain ⟨a1, a2⟩ := Bool.and_eq_true_iff.mp pp
          obtain ⟨b1, b2⟩ := pr1 a1
          obtain ⟨c1, c2⟩ := pr2 a2
          exact ⟨c1.trans b1, b2.trans c2⟩
/-- two operands in a row are one -/
theorem tR_two {α1 τ1 α τ β : Type} {rel1 : Hp → (Addr → Prop) → α1 → τ1 → Prop} {rel : Hp → (Addr → Prop) → α → τ → Prop} {W : WX} {K : PySem.W.Frag} {b1 p1 b2 p2 : Bool} {f : F0 τ1} {g : F0 τ} {u1 : L2.St → Hp → (α1 → Hp → Prop) → Prop} {u2 : L2.St → Hp → (α → Hp → Prop) → Prop} {mk : α1 → α → β} {γ : Type} {mt : τ1 → τ → γ} {rel3 : Hp → (Addr → Prop) → β → γ → Prop}
    (hb : b1 = true → p2 = true) (hΓ : allSh Γ1 = allSh Γ) (hr : ∀ H S x y t ts, rel1 H S x t → rel H S y ts → rel3 H S (mk x y) (mt t ts))
    (h1 : ∀ σ H Q, tR rel1 K W b1 p1 Γ f Γ1 σ H Q → u1 σ H Q) (h2 : ∀ σ H (Q : α → Hp → Prop), tR rel K W b2 p2 Γ1 g Γ2 σ H Q → u2 σ H Q) (σ : L2.St) (H : Hp) (Q : β → Hp → Prop)
    (q : tR rel3 K W (b1 || b2) (p1 && p2) Γ (F0.bind f fun a => F0.bind g fun b => F0.pure (mt a b)) Γ2 σ H Q) : u1 σ H fun x H1 => u2 σ H1 fun y H2 => Q (mk x y) H2 := by
  obtain ⟨S, E, fp, r, G, er, q⟩ := q
  refine tR_bind (R := fun x y H => Q (mk x y) H) hb hΓ h1 h2 S E fp r G er (fun x E' e => by subst e; exact q) ?_
  intro x y t ts H2 S2 fp2 E2 G2 ev pp st e
  have e' : r = .ok (mt t ts) E2 := (Option.some.inj e).symm
  subst e'
  exact q (mk x y) H2 S2 fp2 G2 ev pp fun H3 S3 fp3 ev3 k => hr _ _ _ _ _ _ (st H3 S3 fp3 ev3 k).1 (st H3 S3 fp3 ev3 k).2
theorem oa_cons {b1 p1 b2 p2 : Bool} {f : F0 T} {g : F0 (List T)} {ρ : Ow} {ρs : List Ow} (h1 : OE X W b1 p1 Γ e f ρ Γ1) (h2 : OA X W b2 p2 Γ1 es g ρs Γ2) (hb : b1 = true → p2 = true := by decide) (hΓ : allSh Γ1 = allSh Γ := by rfl)
    (hs : starEach (e :: es) X.env = (false, eval e X.env) :: starEach es X.env := by rfl) : OA X W (b1 || b2) (p1 && p2) Γ (e :: es) (F0.bind f fun a => F0.bind g fun b => F0.pure (a :: b)) (ρ :: ρs) Γ2 :=
  pa_imp (pa_cons h1 h2 hs) (tR_two (mk := fun x (y : List V) => x :: y) (mt := fun x (y : List T) => x :: y) hb hΓ (fun _ _ _ _ _ _ a b => .cons a b) (fun _ _ _ z => z) fun _ _ _ z => z)
end
end Tr

end
section
set_option maxHeartbeats 2000000
/-! Tr3: expressions: names, constants, operators, built-ins. -/
namespace Tr
open PySem PySem.Spec PyProof.Rows L2

/-- a list whose items may be shared on -/
def flat : Ow → Bool
  | .sh => true
  | .ow .sh => true
  | _ => false
theorem flat_or {ρ : Ow} (h : flat ρ = true) : ρ = .sh ∨ ρ = .ow .sh := by
  cases ρ with
  | sh => exact .inl rfl
  | ow i => cases i with
    | sh => exact .inr rfl
    | ow j => cases h
/-- what a rule hands back: a scalar, a shared thing, a new list or tuple -/
inductive Nw (K : PySem.W.Frag) (H : Hp) (S : Addr → Prop) : V → Hp → T → Prop
  | sc {v : V} {t : T} : Sc v t → Nw K H S v H t
  | lst {p : Addr} {xs : List V} {ts : List T} : H p = none → RoA K H S .sh xs ts → Nw K H S (.ref p) (upd H p (.lst xs)) (.lst ts)
  | tup {p : Addr} {xs : List V} {ts : List T} : H p = none → RoA K H S .sh xs ts → Nw K H S (.ref p) (upd H p (.tup xs)) (.tup ts)
/-- a computation of one step, no exception -/
def lf {α β : Type} (g : α → Option β) (a : α) : F0 β := fun E => (g a).map fun c => .ok c E
theorem lf_some {α β : Type} {g : α → Option β} {a : α} {E : Env} {r : Out β} (h : lf g a E = some r) : ∃ c, g a = some c ∧ r = .ok c E := by
  unfold lf at h
  cases e : g a with
  | none => rw [e] at h; cases h
  | some c =>
    rw [e] at h
    exact ⟨c, rfl, (Option.some.inj h).symm⟩
section
variable {K : PySem.W.Frag} {H H2 : Hp} {S S2 : Addr → Prop} {Γ Γ' : List Ow} {σ : L2.St} {E E' : Env} {fp fp2 : List Addr}
/-- a step that keeps all: the slots stand -/
theorem Good.along (G : Good K H S Γ σ E fp) {H' : Hp} (k : Kept H H') (tt : TbK K H → TbK K H') : Good K H' S Γ σ E fp :=
  ⟨G.sl.fm (own := fun _ => False) ⟨fun a o e _ t => k a o e t, fun _ h => h, fun _ _ z => z, fun _ z => z.elim⟩ fun _ _ z => z, G.nd, G.nS, fun a h => by
    obtain ⟨o, e, t⟩ := G.sT.1 a h
    exact ⟨o, k a o e t, t⟩, tt G.sT.2⟩
theorem Good.free (G : Good K H S Γ σ E fp) {p : Addr} (h : H p = none) : p ∉ fp ∧ ¬ S p :=
  ⟨fun z => by
    obtain ⟨ys, e⟩ := G.isl p z
    exact absurd (h.symm.trans e) (by simp), fun z => by
    obtain ⟨ys, e, _⟩ := G.sT.1 p z
    exact absurd (h.symm.trans e) (by simp)⟩
/-- behind the operands: a new thing in hand -/
theorem nw_pok {p : Bool} {z : V} {c : T} {H' : Hp} {Q : VK} {E0 : Env} (G : Good K H2 S2 Γ' σ E' fp2) (ev : Ev H S fp H2 S2 fp2) (pp : p = true → E' = E0 ∧ Kept H H2) (n : Nw K H2 S2 z H' c) (q : Pok (V' := V) K p H S fp E0 Γ' σ (.ow .sh) c E' Q) : Q z H' := by
  cases n with
  | sc h => exact q z H2 S2 fp2 [] G h.rp G.nd (fun a z => absurd z (by simp)) ev pp
  | lst hp r =>
    rename_i p xs ts
    have k : Kept H2 (upd H2 p (.lst xs)) := Kept.new hp
    obtain ⟨n1, n2⟩ := G.free hp
    exact q _ _ S2 fp2 [p] (G.along k (TbK.new hp)) (.lstO (fp := []) upd_same ((RoA.kept k (fun a h => h) r).rp)) (List.nodup_cons.mpr ⟨n1, G.nd⟩) (fun a z => by rw [List.mem_singleton.mp z]; exact n2) (ev.trans (Ev.new hp)) (fun pt => ⟨(pp pt).1, (pp pt).2.trans k⟩)
  | tup hp r =>
    rename_i p xs ts
    have k : Kept H2 (upd H2 p (.tup xs)) := Kept.new hp
    exact q _ _ S2 fp2 [] (G.along k (TbK.new hp)) (.tup (SqT.of upd_same) ((RoA.kept k (fun a h => h) r).rp)) G.nd (fun a z => absurd z (by simp)) (ev.trans ((Ev.new hp).less fun a z => List.mem_cons_of_mem _ z)) (fun pt => ⟨(pp pt).1, (pp pt).2.trans k⟩)
end
section
variable {X : Cx} {W : WX} {Γ Γ1 Γ2 Γ' : List Ow} {e e1 e2 a b : Expr} {es : List Expr} {pos : Pos}
/-! ### weaker ownership -/
theorem Good.join {K : PySem.W.Frag} {H : Hp} {S : Addr → Prop} {σ : L2.St} {E : Env} {fp fr : List Addr} (G : Good K H S Γ σ E fp) (d : (fr ++ fp).Nodup) (hl : ∀ a ∈ fr, ∃ xs, H a = some (.lst xs)) : Good K H (fun a => S a ∨ a ∈ fr) Γ σ E fp :=
  ⟨G.sl.fm (Fm.grow fun a h => .inl h) fun _ _ z => z, G.nd, fun a z y => y.elim (G.nS a z) fun y => (nd_app d).2.2 a y z, fun a z => z.elim (G.sT.1 a) fun y => by
    obtain ⟨xs, e⟩ := hl a y
    exact ⟨_, e, fun ps z => nomatch z⟩, G.sT.2⟩
theorem Ev.join {H H' : Hp} {S S' : Addr → Prop} {fp fp' fr : List Addr} (x : Ev H S fp H' S' (fr ++ fp')) : Ev H S fp H' (fun a => S' a ∨ a ∈ fr) fp' where
  keep := x.keep
  dom := x.dom
  mono := fun a h => .inl (x.mono a h)
  shr := fun a h => h.elim (x.shr a) fun z => .inr (x.own a (List.mem_append_left _ z))
  own := fun a h => x.own a (List.mem_append_right _ h)
/-- what is owned may be held as shared -/
theorem se_sh {p : Bool} {f : F0 T} {ρ : Ow} (h : SE X W p Γ e f ρ Γ') : SE X W p Γ e f .sh Γ' := by
  refine pe_imp h fun σ H Q ⟨S, E, fp, r, G, e, q⟩ => ⟨S, E, fp, r, G, e, ?_⟩
  cases r with
  | ex x E' => exact q
  | ok t E' =>
    intro v H' S' fp' fr G' R nd s ev pp
    exact q v H' (fun a => S' a ∨ a ∈ fr) fp' [] (G'.join nd R.isl) (R.weak (fun a h => .inl h) fun a h => .inr h) G'.nd (fun a z => absurd z (by simp)) ev.join pp
/-! ### names and constants -/
def vr (i : Nat) : P0 := fun E => (E[i]?).join
theorem vr_some {i : Nat} {E : Env} {t : T} (h : vr i E = some t) : E[i]? = some (some t) := by
  unfold vr at h
  cases e : E[i]? with
  | none => rw [e] at h; cases h
  | some o =>
    rw [e] at h
    cases o with
    | none => cases h
    | some u =>
      cases h
      rfl
theorem Good.at_ {K : PySem.W.Frag} {H : Hp} {S : Addr → Prop} {σ : L2.St} {E : Env} {fp : List Addr} (G : Good K H S Γ σ E fp) {i : Nat} {t : T} {ρ : Ow} (h : E[i]? = some (some t)) (hρ : Γ[i]? = some ρ) : ∃ v f, σ[i]? = some (some v) ∧ Rp K H S ρ v t f ∧ ∀ a ∈ f, a ∈ fp := by
  have hi : i < E.length := (List.getElem?_eq_some_iff.mp h).1
  obtain ⟨f1, f, f2, e, g, _⟩ := G.sl.put i hi
  obtain ⟨ρ', v, h1, h2, h3⟩ := g t h
  rw [hρ] at h1
  cases h1
  exact ⟨v, f, h2, h3, fun a z => by rw [e]; simp [z]⟩
theorem pl_var (i : Nat) {x : Str} {ρ : Ow} (hN : X.N[i]? = some x := by rfl) (hΓ : Γ[i]? = some ρ := by rfl) (hv : Vis X.env.scope x := by first | exact Or.inl rfl | exact Or.inr (Or.inl rfl) | exact Or.inr (Or.inr rfl))
    (hd : (x == ("__debug__" : Str)) = false := by decide) (hcd : (x == ("__classdict__" : Str)) = false := by decide) : PL X Γ (.Name x pos) (vr i) ρ := by
  refine pe_imp (pe_var hN hv hd hcd) fun σ H Q ⟨S, E, fp, t, G, er, q⟩ => ?_
  obtain ⟨v, f, h1, h2, h3⟩ := G.at_ (vr_some er) hΓ
  exact ⟨v, h1, q v f h2 h3⟩
def kc (t : T) : P0 := fun _ => some t
theorem pl_c {v : V} {t : T} (h : PE X e (tC v)) (s : Sc v t) : PL X Γ e (kc t) .sh := pe_imp h fun σ H Q ⟨S, E, fp, u, G, er, q⟩ => by
  cases er
  exact q v [] s.rp (fun a z => absurd z (by simp))
theorem pl_int {i : Int} {j} : PL X Γ (.Constant (.int i) j pos) (kc (.int i)) .sh := pl_c pe_int (.int i)
theorem pl_bl {i : Bool} {j} : PL X Γ (.Constant (.bool i) j pos) (kc (.bl i)) .sh := pl_c pe_bl (.bl i)
theorem pl_non {j} : PL X Γ (.Constant .none j pos) (kc .non) .sh := pl_c pe_non .non
theorem pl_str {x : Str} {j} : PL X Γ (.Constant (.str x) j pos) (kc (.str x)) .sh := pl_c pe_str (.str x)
theorem pl_gint {x : Str} {i : Int} (hg : Gl X x) (hm : ∃ t, X.mg x = some (.int i t)) (hd : (x == ("__debug__" : Str)) = false := by decide) : PL X Γ (.Name x pos) (kc (.int i)) .sh := by
  obtain ⟨t, hm⟩ := hm
  exact pl_c (pe_glob (v := .int i) hg hm ⟨t, rfl⟩ hd) (.int i)
theorem pl_gstr {x : Str} {i : Str} (hg : Gl X x) (hm : ∃ t, X.mg x = some (.str i t)) (hd : (x == ("__debug__" : Str)) = false := by decide) : PL X Γ (.Name x pos) (kc (.str i)) .sh := by
  obtain ⟨t, hm⟩ := hm
  exact pl_c (pe_glob (v := .str i) hg hm ⟨t, rfl⟩ hd) (.str i)
/-- an owned list in a name is shared from here on -/
theorem se_take (i : Nat) {x : Str} (hN : X.N[i]? = some x := by rfl) (hv : Vis X.env.scope x := by first | exact Or.inl rfl | exact Or.inr (Or.inl rfl) | exact Or.inr (Or.inr rfl))
    (hd : (x == ("__debug__" : Str)) = false := by decide) (hcd : (x == ("__classdict__" : Str)) = false := by decide) : SE X W true Γ (.Name x pos) (rd (vr i)) .sh (Γ.set i .sh) := by
  refine pe_imp (pe_var hN hv hd hcd) fun σ H Q ⟨S, E, fp, r, G, er, q⟩ => ?_
  unfold rd at er
  cases e1 : vr i E with
  | none => rw [e1] at er; cases er
  | some t =>
    rw [e1] at er
    have e' : r = .ok t E := (Option.some.inj er).symm
    subst e'
    have h := vr_some e1
    have hi : i < E.length := (List.getElem?_eq_some_iff.mp h).1
    obtain ⟨f1, f, f2, e, g, put⟩ := G.sl.put i hi
    obtain ⟨ρ', v, h1, h2, h3⟩ := g t h
    refine ⟨v, h2, ?_⟩
    have sub : ∀ a ∈ f1 ++ ([] ++ f2), a ∈ fp := fun a z => by
      rw [e]
      rcases List.mem_append.mp z with z | z
      · simp [z]
      · simp [show a ∈ f2 from z]
    have nd := G.nd
    rw [e] at nd
    obtain ⟨n1, n2, n3⟩ := nd_app nd
    obtain ⟨n4, n5, n6⟩ := nd_app n2
    have S1 : ∀ a, S a → S a ∨ a ∈ f := fun a h => .inl h
    have r' : Rp X.K H (fun a => S a ∨ a ∈ f) .sh v t [] := h3.weak S1 fun a h => .inr h
    have sl := put H (fun a => S a ∨ a ∈ f) .sh v t [] (fun ρ v t g _ r => r.fm (Fm.grow S1) fun _ _ z => z) r'
    have eσ : σ.set i (some v) = σ := by
      apply List.ext_getElem?
      intro j
      by_cases hj : i = j
      · subst hj
        rw [h2, List.getElem?_set_self (List.getElem?_eq_some_iff.mp h2).1]
      · rw [List.getElem?_set_ne hj]
    have eE : E.set i (some t) = E := by
      apply List.ext_getElem?
      intro j
      by_cases hj : i = j
      · subst hj
        rw [h, List.getElem?_set_self (List.getElem?_eq_some_iff.mp h).1]
      · rw [List.getElem?_set_ne hj]
    rw [eσ, eE] at sl
    have ap : ∀ a ∈ f1 ++ ([] ++ f2), a ∉ f := fun a z y => by
      rcases List.mem_append.mp z with z | z
      · exact n3 a z (by simp [y])
      · exact n6 a y (show a ∈ f2 from z)
    refine q v H (fun a => S a ∨ a ∈ f) (f1 ++ ([] ++ f2)) [] ⟨sl, nd_mk n1 n5 fun a z y => n3 a z (by simp [show a ∈ f2 from y]), fun a z y => y.elim (G.nS a (sub a z)) (ap a z), ⟨fun a z => z.elim (G.sT.1 a) fun y => ?_, G.sT.2⟩⟩ r' ?_ (fun a z => absurd z (by simp)) ?_ (fun _ => ⟨rfl, Kept.refl H⟩)
    · obtain ⟨xs, e⟩ := h3.isl a y
      exact ⟨_, e, fun ps z => nomatch z⟩
    · exact show (f1 ++ ([] ++ f2)).Nodup from nd_mk n1 n5 fun a z y => n3 a z (by simp [show a ∈ f2 from y])
    · exact ⟨fun a o e _ _ => e, fun a h => h, S1, fun a h => h.imp id fun y => .inl (by rw [e]; simp [y]), fun a z => .inl (sub a z)⟩
end
end Tr

end
section
set_option maxHeartbeats 2000000
/-! Tr4: operators, subscripts, slices, displays, built-ins. -/
namespace Tr
open PySem PySem.Spec PyProof.Rows L2

/-! ### data of the library's kind -/
mutual
def T.py : T → PyData
  | .non => .none
  | .bl b => .bool b
  | .int i => .int i
  | .str x => .str x
  | .lst xs => .list (T.pyA xs)
  | .tup xs => .tuple (T.pyA xs)
  | .adr _ => .none
  | .box _ _ => .none
  | .fz xs => .list (T.pyA xs)
def T.pyA : List T → List PyData
  | [] => []
  | x :: xs => T.py x :: T.pyA xs
end
mutual
def T.dat : T → Bool
  | .non => true
  | .bl _ => true
  | .int _ => true
  | .str _ => true
  | .lst xs => T.datA xs
  | .tup xs => T.datA xs
  | .adr _ => false
  | .box _ _ => false
  | .fz xs => T.datA xs
def T.datA : List T → Bool
  | [] => true
  | x :: xs => T.dat x && T.datA xs
end
section
variable {K : PySem.W.Frag} {H : Hp} {S : Addr → Prop}
mutual
theorem Ro.dp : ∀ {ρ : Ow} {v : V} {t : T}, Ro K H S ρ v t → t.dat = true → Dp K H v t.py
  | _, _, _, .non, _ => .non
  | _, _, _, .bl b, _ => .bl b
  | _, _, _, .int i, _ => .int i
  | _, _, _, .str x, _ => .str x
  | _, _, _, .adr a, h => by simp [T.dat] at h
  | _, _, _, .box _ _, h => by simp [T.dat] at h
  | _, _, _, .lstS e s r, h => by
    rw [T.py]
    exact .lst (SqL.of e) (RoA.dp r (by simpa [T.dat] using h))
  | _, _, _, .lstO e r, h => by
    rw [T.py]
    exact .lst (SqL.of e) (RoA.dp r (by simpa [T.dat] using h))
  | _, _, _, .fz e r, h => by
    rw [T.py]
    exact .lst e.sq (RoA.dp r (by simpa [T.dat] using h))
  | _, _, _, .tup e r, h => by
    rw [T.py]
    exact .tup e (RoA.dp r (by simpa [T.dat] using h))
theorem RoA.dp : ∀ {ρ : Ow} {v : List V} {t : List T}, RoA K H S ρ v t → T.datA t = true → DpAll K H v (T.pyA t)
  | _, _, _, .nil, _ => .nil
  | _, _, _, .cons r rs, h => by
    rw [T.pyA]
    rw [T.datA, Bool.and_eq_true] at h
    exact .cons (Ro.dp r h.1) (RoA.dp rs h.2)
end
end
/-- data that can be compared -/
def T.cmp (t : T) : Bool := t.dat && SeqAt.shaped t.py
/-- two texts: whatever their signs -/
def eqS : T → T → Option Bool
  | .str x, .str y => some (decide (x = y))
  | _, _ => none
def eqT (a b : T) : Option T := if a.cmp && b.cmp then some (.bl (PyData.eqv a.py b.py)) else (eqS a b).map T.bl
def neT (a b : T) : Option T := if a.cmp && b.cmp then some (.bl (!PyData.eqv a.py b.py)) else (eqS a b).map fun c => T.bl (!c)

/-! ### two operands -/
/-- a rule of two operands whose answer is a scalar -/
def B2s (K : PySem.W.Frag) (r : R2) (g : T → T → Option T) : Prop := ∀ H S ρ1 ρ2 x y a b c Q, Ro K H S ρ1 x a → Ro K H S ρ2 y b → g a b = some c → (∀ z, Sc z c → Q z H) → r x y H Q
/-- .. whose answer may be new -/
def B2 (K : PySem.W.Frag) (r : R2) (g : T → T → Option T) : Prop := ∀ H S ρ1 ρ2 x y a b c Q, flat ρ1 = true → flat ρ2 = true → Ro K H S ρ1 x a → Ro K H S ρ2 y b → g a b = some c → (∀ z H', Nw K H S z H' c → Q z H') → r x y H Q
theorem B2s.b2 {K : PySem.W.Frag} {r : R2} {g : T → T → Option T} (h : B2s K r g) : B2 K r g := fun H S ρ1 ρ2 x y a b c Q _ _ ra rb e q => h H S ρ1 ρ2 x y a b c Q ra rb e fun z s => q z H (.sc s)
def pp2 (g : T → T → Option T) (f1 f2 : P0) : P0 := fun E => (f1 E).bind fun a => (f2 E).bind fun b => g a b
section
variable {X : Cx} {W : WX} {Γ Γ1 Γ2 Γ' : List Ow} {e a b : Expr} {es : List Expr} {pos : Pos} {r : R2} {g : T → T → Option T}
theorem pl_two {f1 f2 : P0} {ρ1 ρ2 : Ow} (hR : ∀ {ta tb : TE}, PE X a ta → PE X b tb → PE X e (tOp r ta tb)) (hb : B2s X.K r g) (h1 : PL X Γ a f1 ρ1) (h2 : PL X Γ b f2 ρ2) : PL X Γ e (pp2 g f1 f2) .sh := by
  refine pe_imp (hR h1 h2) fun σ H Q ⟨S, E, fp, c, G, er, q⟩ => ?_
  unfold pp2 at er
  obtain ⟨a, e1, er⟩ := Option.bind_eq_some_iff.mp er
  obtain ⟨b, e2, er⟩ := Option.bind_eq_some_iff.mp er
  refine ⟨S, E, fp, a, G, e1, fun v fr R _ => ⟨S, E, fp, b, G, e2, fun w fs R2 _ => ?_⟩⟩
  exact hb H S _ _ v w a b c Q R.ro R2.ro er fun z s => q z [] s.rp fun a z => absurd z (by simp)
theorem se_two {b1 p1 b2 p2 : Bool} {f1 f2 : F0 T} {ρ1 ρ2 : Ow} (hR : ∀ {ta tb : TE}, PE X a ta → PE X b tb → PE X e (tOp r ta tb)) (hb : B2 X.K r g) (h1 : OE X W b1 p1 Γ a f1 ρ1 Γ1) (h2 : OE X W b2 p2 Γ1 b f2 ρ2 Γ2)
    (hq : b1 = true → p2 = true := by decide) (hl1 : flat ρ1 = true := by rfl) (hl2 : flat ρ2 = true := by rfl) (hΓ : allSh Γ1 = allSh Γ := by rfl) : SE X W (p1 && p2) Γ e (F0.bind f1 fun a => F0.bind f2 fun b => lf (g a) b) (.ow .sh) Γ2 := by
  refine pe_imp (hR h1 h2) fun σ H Q ⟨S, E, fp, r, G, er, q⟩ => ?_
  refine tR_bind (R := fun x y H => _) (h := fun a b => lf (g a) b) hq hΓ (fun _ _ _ z => z) (fun _ _ _ z => z) S E fp r G er (fun x E' e => by subst e; exact q) ?_
  intro x y t ts H2 S2 fp2 E2 G2 ev pp st e
  obtain ⟨c, ec, e'⟩ := lf_some e
  subst e'
  obtain ⟨s1, s2⟩ := st H2 S2 fp2 (Ev.refl fun _ z => z) (fun _ => Kept.refl _)
  exact hb H2 S2 _ _ x y t ts c Q hl1 hl2 s1 s2 ec fun z H' n => nw_pok G2 ev pp n q
theorem se_twos {b1 p1 b2 p2 : Bool} {f1 f2 : F0 T} {ρ1 ρ2 : Ow} (hR : ∀ {ta tb : TE}, PE X a ta → PE X b tb → PE X e (tOp r ta tb)) (hb : B2s X.K r g) (h1 : OE X W b1 p1 Γ a f1 ρ1 Γ1) (h2 : OE X W b2 p2 Γ1 b f2 ρ2 Γ2)
    (hq : b1 = true → p2 = true := by decide) (hΓ : allSh Γ1 = allSh Γ := by rfl) : SE X W (p1 && p2) Γ e (F0.bind f1 fun a => F0.bind f2 fun b => lf (g a) b) .sh Γ2 := by
  refine pe_imp (hR h1 h2) fun σ H Q ⟨S, E, fp, r, G, er, q⟩ => ?_
  refine tR_bind (R := fun x y H => _) (h := fun a b => lf (g a) b) hq hΓ (fun _ _ _ z => z) (fun _ _ _ z => z) S E fp r G er (fun x E' e => by subst e; exact q) ?_
  intro x y t ts H2 S2 fp2 E2 G2 ev pp st e
  obtain ⟨c, ec, e'⟩ := lf_some e
  subst e'
  obtain ⟨s1, s2⟩ := st H2 S2 fp2 (Ev.refl fun _ z => z) (fun _ => Kept.refl _)
  exact hb H2 S2 _ _ x y t ts c Q s1 s2 ec fun z s => q z H2 S2 fp2 [] G2 s.rp G2.nd (fun a z => absurd z (by simp)) ev pp

/-! ### the operators -/
def addS : T → T → Option T
  | .int i, .int j => some (.int (i + j))
  | .str x, .str y => if x.length + y.length ≤ sizeLine then some (.str (x ++ y)) else none
  | _, _ => none
def addL : T → T → Option T
  | .lst xs, .lst ys => if xs.length + ys.length ≤ sizeLine then some (.lst (xs ++ ys)) else none
  | .int i, .int j => some (.int (i + j))
  | .str x, .str y => if x.length + y.length ≤ sizeLine then some (.str (x ++ y)) else none
  | _, _ => none
def subS : T → T → Option T
  | .int i, .int j => some (.int (i - j))
  | _, _ => none
def mulS : T → T → Option T
  | .int i, .int j => if i.natAbs < 2 ^ 64 || j.natAbs < 2 ^ 64 then some (.int (i * j)) else none
  | _, _ => none
def mulL : T → T → Option T
  | .lst xs, .int k => if k.natAbs < 2 ^ 62 && xs.length * k.toNat ≤ sizeLine then some (.lst (List.replicate k.toNat xs).flatten) else none
  | .int i, .int j => if i.natAbs < 2 ^ 64 || j.natAbs < 2 ^ 64 then some (.int (i * j)) else none
  | _, _ => none
def fdivS : T → T → Option T
  | .int i, .int j => if 0 < j && j < 1073741824 then some (.int (i / j)) else none
  | _, _ => none
def modS : T → T → Option T
  | .int i, .int j => if 0 < j then some (.int (i % j)) else none
  | _, _ => none
def powS : T → T → Option T
  | .int i, .int j => if 0 ≤ j && (Builtin.Int.intBits i : Int) * j ≤ 2 ^ 27 then some (.int (i ^ j.toNat)) else none
  | _, _ => none
def cmpS (f : Int → Int → Bool) : T → T → Option T
  | .int i, .int j => some (.bl (f i j))
  | _, _ => none
def T.isN : T → Bool
  | .non => true
  | _ => false
def isN (a b : T) : Option T := if b.isN then some (.bl a.isN) else none
def notN (a b : T) : Option T := if b.isN then some (.bl (!a.isN)) else none
theorem isN_V {K : PySem.W.Frag} {H : Hp} {S : Addr → Prop} {ρ : Ow} {v : V} {t : T} (h : Ro K H S ρ v t) : decide (v = .non) = t.isN := by
  cases h <;> simp [T.isN]
theorem T.isN_eq {t : T} (h : t.isN = true) : t = .non := by
  cases t <;> first | rfl | cases h
theorem b_add : B2s X.K (fun x y H Q => rI0 (fun i j => .int (i + j)) x y H Q ∨ ∃ i j, x = .str i ∧ y = .str j ∧ i.length + j.length ≤ sizeLine ∧ Q (.str (i ++ j)) H) addS := by
  intro H S ρ1 ρ2 x y a b c Q ra rb e q
  cases ra <;> cases rb <;> simp only [addS] at e <;> (try cases e)
  · exact .inl ⟨_, _, rfl, rfl, q _ (.int _)⟩
  · split at e
    · rename_i h
      cases e
      exact .inr ⟨_, _, rfl, rfl, h, q _ (.str _)⟩
    · cases e
theorem b_addL : B2 X.K (fun x y H Q => rCat x y H Q ∨ (rI0 (fun i j => .int (i + j)) x y H Q ∨ ∃ i j, x = .str i ∧ y = .str j ∧ i.length + j.length ≤ sizeLine ∧ Q (.str (i ++ j)) H)) addL := by
  intro H S ρ1 ρ2 x y a b c Q f1 f2 ra rb e q
  by_cases hl : ∃ xs ys, a = .lst xs ∧ b = .lst ys
  · obtain ⟨xs, ys, rfl, rfl⟩ := hl
    simp only [addL] at e
    split at e
    · rename_i h
      cases e
      obtain ⟨p, us, i1, rfl, e1, r1, g1, g2⟩ := ra.lst
      obtain ⟨p', ws, i2, rfl, e2, r2, g3, g4⟩ := rb.lst
      obtain rfl : i1 = .sh := (flat_or f1).elim g1 fun z => g2 _ z
      obtain rfl : i2 = .sh := (flat_or f2).elim g3 fun z => g4 _ z
      exact .inl ⟨p, p', us, ws, rfl, rfl, e1, e2, by rw [r1.len, r2.len]; exact h, fun p hp => q _ _ (.lst hp (r1.app r2))⟩
    · cases e
  · refine .inr (b_add (X := X) H S ρ1 ρ2 x y a b c Q ra rb ?_ fun z s => q z H (.sc s))
    cases ra <;> cases rb <;> simp_all [addL, addS]
theorem b_sub : B2s X.K (rI0 fun i j => .int (i - j)) subS := by
  intro H S ρ1 ρ2 x y a b c Q ra rb e q
  cases ra <;> cases rb <;> simp only [subS] at e <;> (try cases e)
  exact ⟨_, _, rfl, rfl, q _ (.int _)⟩
theorem b_mul : B2s X.K (rI CMul fun i j => .int (i * j)) mulS := by
  intro H S ρ1 ρ2 x y a b c Q ra rb e q
  cases ra <;> cases rb <;> simp only [mulS] at e <;> (try cases e)
  split at e
  · rename_i h
    cases e
    refine ⟨_, _, rfl, rfl, ?_, q _ (.int _)⟩
    rw [Bool.or_eq_true] at h
    exact h.imp (fun h => by have := of_decide_eq_true h; omega) fun h => by have := of_decide_eq_true h; omega
  · cases e
theorem b_mulL : B2 X.K (fun x y H Q => rRep x y H Q ∨ rI CMul (fun i j => .int (i * j)) x y H Q) mulL := by
  intro H S ρ1 ρ2 x y a b c Q f1 f2 ra rb e q
  by_cases hl : ∃ xs k, a = .lst xs ∧ b = .int k
  · obtain ⟨xs, k, rfl, rfl⟩ := hl
    simp only [mulL] at e
    split at e
    · rename_i h
      cases e
      rw [Bool.and_eq_true] at h
      have h1 := of_decide_eq_true h.1
      obtain ⟨p, us, i1, rfl, e1, r1, g1, g2⟩ := ra.lst
      obtain rfl : i1 = .sh := (flat_or f1).elim g1 fun z => g2 _ z
      refine .inl ⟨p, k, us, rfl, rb.int_, e1, by omega, by omega, by rw [r1.len]; exact of_decide_eq_true h.2, fun p hp => q _ _ (.lst hp ?_)⟩
      have all : ∀ n : Nat, RoA X.K H S .sh (List.replicate n us).flatten (List.replicate n xs).flatten := by
        intro n
        induction n with
        | zero => exact .nil
        | succ n ih =>
          rw [List.replicate_succ, List.replicate_succ, List.flatten_cons, List.flatten_cons]
          exact r1.app ih
      exact all _
    · cases e
  · refine .inr (b_mul (X := X) H S ρ1 ρ2 x y a b c Q ra rb ?_ fun z s => q z H (.sc s))
    cases ra <;> cases rb <;> simp_all [mulL, mulS]
theorem b_fdiv : B2s X.K (rI CDiv fun i j => .int (i / j)) fdivS := by
  intro H S ρ1 ρ2 x y a b c Q ra rb e q
  cases ra <;> cases rb <;> simp only [fdivS] at e <;> (try cases e)
  split at e
  · rename_i h
    cases e
    rw [Bool.and_eq_true] at h
    exact ⟨_, _, rfl, rfl, ⟨of_decide_eq_true h.1, of_decide_eq_true h.2⟩, q _ (.int _)⟩
  · cases e
theorem b_mod : B2s X.K (rI (fun _ j => 0 < j) fun i j => .int (i % j)) modS := by
  intro H S ρ1 ρ2 x y a b c Q ra rb e q
  cases ra <;> cases rb <;> simp only [modS] at e <;> (try cases e)
  split at e
  · rename_i h
    cases e
    exact ⟨_, _, rfl, rfl, h, q _ (.int _)⟩
  · cases e
def CPowW (i j : Int) : Prop := 0 ≤ j ∧ (Builtin.Int.intBits i : Int) * j ≤ 2 ^ 27
theorem op_powW : OpR X (binaryOp .Pow) (rI CPowW fun i j => .int (i ^ j.toNat)) := opI fun _ _ _ _ _ _ _ hc q => pow_int hc.1 hc.2 q
theorem b_pow : B2s X.K (rI CPowW fun i j => .int (i ^ j.toNat)) powS := by
  intro H S ρ1 ρ2 x y a b c Q ra rb e q
  cases ra <;> cases rb <;> simp only [powS] at e <;> (try cases e)
  split at e
  · rename_i h
    cases e
    rw [Bool.and_eq_true] at h
    exact ⟨_, _, rfl, rfl, ⟨of_decide_eq_true h.1, of_decide_eq_true h.2⟩, q _ (.int _)⟩
  · cases e
theorem b_cmp {f : Int → Int → Bool} : B2s X.K (rI0 fun i j => .bl (f i j)) (cmpS f) := by
  intro H S ρ1 ρ2 x y a b c Q ra rb e q
  cases ra <;> cases rb <;> simp only [cmpS] at e <;> (try cases e)
  exact ⟨_, _, rfl, rfl, q _ (.bl _)⟩
theorem b_eq : B2s X.K (fun x y H Q => rEqD X.K x y H Q ∨ rEq x y H Q) eqT := by
  intro H S ρ1 ρ2 x y a b c Q ra rb e q
  unfold eqT at e
  split at e
  · rename_i h
    cases e
    rw [Bool.and_eq_true] at h
    obtain ⟨h1, h2⟩ := h
    unfold T.cmp at h1 h2
    rw [Bool.and_eq_true] at h1 h2
    exact .inl ⟨_, _, ra.dp h1.1, rb.dp h2.1, h1.2, h2.2, q _ (.bl _)⟩
  · obtain ⟨k, ek, e⟩ := Option.map_eq_some_iff.mp e
    subst e
    cases a <;> cases b <;> simp only [eqS] at ek <;> (try cases ek)
    rw [ra.str_, rb.str_]
    refine .inr ⟨rfl, ?_⟩
    rename_i i j _
    have : decide (V.str i = V.str j) = decide (i = j) := by simp
    rw [this]
    exact q _ (.bl _)
theorem b_ne : B2s X.K (fun x y H Q => rNeD X.K x y H Q ∨ rNe x y H Q) neT := by
  intro H S ρ1 ρ2 x y a b c Q ra rb e q
  unfold neT at e
  split at e
  · rename_i h
    cases e
    rw [Bool.and_eq_true] at h
    obtain ⟨h1, h2⟩ := h
    unfold T.cmp at h1 h2
    rw [Bool.and_eq_true] at h1 h2
    exact .inl ⟨_, _, ra.dp h1.1, rb.dp h2.1, h1.2, h2.2, q _ (.bl _)⟩
  · obtain ⟨k, ek, e⟩ := Option.map_eq_some_iff.mp e
    subst e
    cases a <;> cases b <;> simp only [eqS] at ek <;> (try cases ek)
    rw [ra.str_, rb.str_]
    refine .inr ⟨rfl, ?_⟩
    rename_i i j _
    have : decide (V.str i = V.str j) = decide (i = j) := by simp
    rw [this]
    exact q _ (.bl _)
theorem b_isN : B2s X.K (fun x y H Q => y = .non ∧ Q (.bl (decide (x = .non))) H) isN := by
  intro H S ρ1 ρ2 x y a b c Q ra rb e q
  unfold isN at e
  split at e
  · rename_i h
    cases e
    obtain rfl := T.isN_eq h
    refine ⟨rb.non_, ?_⟩
    rw [isN_V ra]
    exact q _ (.bl _)
  · cases e
theorem b_notN : B2s X.K (fun x y H Q => y = .non ∧ Q (.bl (!decide (x = .non))) H) notN := by
  intro H S ρ1 ρ2 x y a b c Q ra rb e q
  unfold notN at e
  split at e
  · rename_i h
    cases e
    obtain rfl := T.isN_eq h
    refine ⟨rb.non_, ?_⟩
    rw [isN_V ra]
    exact q _ (.bl _)
  · cases e
/-- x in y: a list of data, or a text -/
def inT (a : T) : T → Option T
  | .lst ys => if a.cmp && (T.lst ys).cmp then some (.bl ((T.pyA ys).any fun z => PyData.eqv z a.py)) else none
  | .str y => match a with
    | .str x => some (.bl (!(Builtin.Str.occurrences y x 0 y.length 1).isEmpty))
    | _ => none
  | _ => none
def ninT (a b : T) : Option T := match inT a b with
  | some (.bl c) => some (.bl (!c))
  | _ => none
theorem b_in : B2s X.K (fun x y H Q => rInD X.K x y H Q ∨ ∃ i j, x = .str i ∧ y = .str j ∧ Q (.bl (!(Builtin.Str.occurrences j i 0 j.length 1).isEmpty)) H) inT := by
  intro H S ρ1 ρ2 x y a b c Q ra rb e q
  cases b <;> simp only [inT] at e <;> (try cases e)
  · cases a <;> simp only at e <;> (try cases e)
    exact .inr ⟨_, _, ra.str_, rb.str_, q _ (.bl _)⟩
  · split at e
    · rename_i h
      cases e
      rw [Bool.and_eq_true] at h
      obtain ⟨h1, h2⟩ := h
      unfold T.cmp at h1 h2
      rw [Bool.and_eq_true] at h1 h2
      have d := rb.dp h2.1
      have s := h2.2
      rw [T.py] at d s
      exact .inl ⟨_, _, ra.dp h1.1, d, h1.2, s, q _ (.bl _)⟩
    · cases e
theorem b_nin : B2s X.K (fun x y H Q => rNotInD X.K x y H Q ∨ ∃ i j, x = .str i ∧ y = .str j ∧ Q (.bl (!(!(Builtin.Str.occurrences j i 0 j.length 1).isEmpty))) H) ninT := by
  intro H S ρ1 ρ2 x y a b c Q ra rb e q
  unfold ninT at e
  cases b <;> simp only [inT] at e <;> (try cases e)
  · cases a <;> simp only at e <;> (try cases e)
    exact .inr ⟨_, _, ra.str_, rb.str_, q _ (.bl _)⟩
  · split at e
    · rename_i d h
      cases e
      split at h
      · rename_i h'
        cases h
        rw [Bool.and_eq_true] at h'
        obtain ⟨h1, h2⟩ := h'
        unfold T.cmp at h1 h2
        rw [Bool.and_eq_true] at h1 h2
        have d := rb.dp h2.1
        have s := h2.2
        rw [T.py] at d s
        exact .inl ⟨_, _, ra.dp h1.1, d, h1.2, s, q _ (.bl _)⟩
      · cases h
    · cases e
end
end Tr

end
section
set_option maxHeartbeats 2000000
/-! Tr5: subscripts, slices, displays, and/or/not, built-in functions. -/
namespace Tr
open PySem PySem.Spec PyProof.Rows L2
section
variable {X : Cx} {W : WX} {Γ Γ1 Γ2 Γ3 Γ' : List Ow} {e a b c : Expr} {es : List Expr} {pos pos2 pos3 : Pos}
/-! ### subscripts -/
def ixT : T → T → Option T
  | .lst xs, .int i => atI xs i
  | .tup xs, .int i => atI xs i
  | .str z, .int i => if z.length ≤ sizeLine then (atI z.cps.toList i).map fun c => .str ⟨#[c]⟩ else none
  | _, _ => none
theorem RoA.at_ {K : PySem.W.Frag} {H : Hp} {S : Addr → Prop} {ρ : Ow} {v : List V} {t : List T} (h : RoA K H S ρ v t) {i : Int} {x : T} (e : atI t i = some x) : ∃ y, atI v i = some y ∧ Ro K H S ρ y x := by
  unfold atI at e ⊢
  rw [h.len]
  cases q : ixN t.length i with
  | none => rw [q] at e; cases e
  | some j =>
    rw [q] at e
    exact h.get e
theorem RpA.at_ {K : PySem.W.Frag} {H : Hp} {S : Addr → Prop} {ρ : Ow} {v : List V} {t : List T} {f : List Addr} (h : RpA K H S ρ v t f) {i : Int} {x : T} (e : atI t i = some x) : ∃ y g, atI v i = some y ∧ Rp K H S ρ y x g ∧ ∀ a ∈ g, a ∈ f := by
  unfold atI at e ⊢
  rw [h.len]
  cases q : ixN t.length i with
  | none => rw [q] at e; cases e
  | some j =>
    rw [q] at e
    exact h.get e
theorem sub_r {K : PySem.W.Frag} {H : Hp} {S : Addr → Prop} {ρ1 ρ2 : Ow} {x y : V} {a b c : T} {Q : VK} (hf : flat ρ1 = true) (ra : Ro K H S ρ1 x a) (rb : Ro K H S ρ2 y b) (e : ixT a b = some c) (q : ∀ z, Ro K H S .sh z c → Q z H) : rIx K x y H Q := by
  unfold ixT at e
  split at e
  · obtain ⟨p, us, i1, rfl, e1, r1, g1, g2⟩ := ra.lst
    obtain rfl : i1 = .sh := (flat_or hf).elim g1 fun z => g2 _ z
    obtain ⟨z, hz, rz⟩ := r1.at_ e
    exact .inl ⟨p, us, _, z, rfl, rb.int_, SqL.of e1, hz, q z rz⟩
  · obtain ⟨p, us, rfl, e1, r1⟩ := ra.tupl
    obtain ⟨z, hz, rz⟩ := r1.at_ e
    exact .inr (.inl ⟨p, us, _, z, rfl, rb.int_, e1, hz, q z rz⟩)
  · split at e
    · rename_i h
      obtain ⟨d, hd, e⟩ := Option.map_eq_some_iff.mp e
      subst e
      exact .inr (.inr ⟨_, _, d, ra.str_, rb.int_, h, hd, q _ (.str _)⟩)
    · cases e
  · cases e
theorem pl_ix {f1 f2 : P0} {ρ1 ρ2 : Ow} (h1 : PL X Γ a f1 ρ1) (h2 : PL X Γ b f2 ρ2) (hf : flat ρ1 = true := by rfl) (hs : PlainIx b := by intro _ _; rfl) : PL X Γ (.Subscript a b pos) (pp2 ixT f1 f2) .sh := by
  refine pe_imp (pe_ix ix_seq h1 h2 hs) fun σ H Q ⟨S, E, fp, c, G, er, q⟩ => ?_
  unfold pp2 at er
  obtain ⟨a, e1, er⟩ := Option.bind_eq_some_iff.mp er
  obtain ⟨b, e2, er⟩ := Option.bind_eq_some_iff.mp er
  refine ⟨S, E, fp, a, G, e1, fun v fr R _ => ⟨S, E, fp, b, G, e2, fun w fs R2 _ => ?_⟩⟩
  exact sub_r hf R.ro R2.ro er fun z r => q z [] r.rp fun a z => absurd z (by simp)
/-- an item of an owned list of owned lists -/
def ixL : T → T → Option T
  | .lst xs, .int i => atI xs i
  | _, _ => none
theorem pl_ixo {f1 f2 : P0} {ρ1 ρ2 : Ow} (h1 : PL X Γ a f1 (.ow ρ1)) (h2 : PL X Γ b f2 ρ2) (hs : PlainIx b := by intro _ _; rfl) : PL X Γ (.Subscript a b pos) (pp2 ixL f1 f2) ρ1 := by
  refine pe_imp (pe_ix ix_list h1 h2 hs) fun σ H Q ⟨S, E, fp, c, G, er, q⟩ => ?_
  unfold pp2 at er
  obtain ⟨a, e1, er⟩ := Option.bind_eq_some_iff.mp er
  obtain ⟨b, e2, er⟩ := Option.bind_eq_some_iff.mp er
  refine ⟨S, E, fp, a, G, e1, fun v fr R hs => ⟨S, E, fp, b, G, e2, fun w fs R2 _ => ?_⟩⟩
  unfold ixL at er
  split at er
  · cases R with
    | lstO h r =>
      obtain ⟨z, g, hz, rz, hg⟩ := r.at_ er
      exact ⟨_, _, _, z, rfl, R2.ro.int_, SqL.of h, hz, q z g rz fun a y => hs a (by simp [hg a y])⟩
  · cases er
theorem se_ix {b1 p1 b2 p2 : Bool} {f1 f2 : F0 T} {ρ1 ρ2 : Ow} (h1 : OE X W b1 p1 Γ a f1 ρ1 Γ1) (h2 : OE X W b2 p2 Γ1 b f2 ρ2 Γ2) (hq : b1 = true → p2 = true := by decide) (hf : flat ρ1 = true := by rfl) (hΓ : allSh Γ1 = allSh Γ := by rfl) (hs : PlainIx b := by intro _ _; rfl) :
    SE X W (p1 && p2) Γ (.Subscript a b pos) (F0.bind f1 fun a => F0.bind f2 fun b => lf (ixT a) b) .sh Γ2 := by
  refine pe_imp (pe_ix ix_seq h1 h2 hs) fun σ H Q ⟨S, E, fp, r, G, er, q⟩ => ?_
  refine tR_bind (R := fun x y H => _) (h := fun a b => lf (ixT a) b) hq hΓ (fun _ _ _ z => z) (fun _ _ _ z => z) S E fp r G er (fun x E' e => by subst e; exact q) ?_
  intro x y t ts H2 S2 fp2 E2 G2 ev pp st e
  obtain ⟨c, ec, e'⟩ := lf_some e
  subst e'
  obtain ⟨s1, s2⟩ := st H2 S2 fp2 (Ev.refl fun _ z => z) (fun _ => Kept.refl _)
  exact sub_r hf s1 s2 ec fun z r => q z H2 S2 fp2 [] G2 r.rp G2.nd (fun a z => absurd z (by simp)) ev pp

/-! ### slices -/
def T.int? : T → Option Int
  | .int i => some i
  | _ => none
/-- a slice's part -/
def OPt (X : Cx) (W : WX) (b p : Bool) (Γ : List Ow) (e : Option Expr) (f : F0 (Option Int)) (Γ' : List Ow) : Prop := PO X e (tR (fun _ _ v t => v = t) X.K W b p Γ f Γ')
theorem po_imp {e : Option Expr} {t u : TO} (h : PO X e t) (k : ∀ σ H Q, u σ H Q → t σ H Q) : PO X e u := ⟨fun pins s σ H Q I q => h.run pins s σ H Q I (k σ H Q q)⟩
theorem op_no : OPt X W false true Γ none (F0.pure none) Γ := by
  refine po_imp po_none fun σ H Q ⟨S, E, fp, r, G, e, q⟩ => ?_
  have e' : r = .ok none E := (Option.some.inj e).symm
  subst e'
  exact q none H S fp G (Ev.refl fun _ z => z) (fun _ => ⟨rfl, Kept.refl H⟩) fun _ _ _ _ _ => rfl
theorem op_so {b1 p1 : Bool} {f : F0 T} {ρ : Ow} (h : OE X W b1 p1 Γ e f ρ Γ') : OPt X W false p1 Γ (some e) (F0.bind f (lf fun t => t.int?.map some)) Γ' := by
  refine po_imp (po_some h) fun σ H Q ⟨S, E, fp, r, G, er, q⟩ => ?_
  unfold F0.bind at er
  cases e1 : f E with
  | none => rw [e1] at er; cases er
  | some r1 =>
    rw [e1] at er
    refine ⟨S, E, fp, r1, G, e1, ?_⟩
    cases r1 with
    | ex x E1 =>
      have e' : r = .ex x E1 := (Option.some.inj er).symm
      subst e'
      exact q
    | ok t E1 =>
      obtain ⟨d, ed, e'⟩ := lf_some er
      subst e'
      intro v H' S' fp' G' ev pp st
      cases t <;> simp only [T.int?, Option.map_none, Option.map_some] at ed <;> (try cases ed)
      have z := (st H' S' fp' (Ev.refl fun _ z => z) (fun _ => Kept.refl _)).int_
      exact ⟨_, z, q _ H' S' fp' G' ev pp fun _ _ _ _ _ => rfl⟩
/-- the items between -/
def cutT {α : Type} (xs : List α) (lo hi : Option Int) : List α := (xs.drop (HT.sIx xs.length 0 lo)).take (HT.sIx xs.length xs.length hi - HT.sIx xs.length 0 lo)
theorem cutT_V (xs : List V) (lo hi : Option Int) : cutT xs lo hi = cutV xs lo hi := rfl
def slT (t : T) (p : Option Int × Option Int) : Option T := match t with
  | .lst xs => some (.lst (cutT xs p.1 p.2))
  | .fz xs => some (.lst (cutT xs p.1 p.2))
  | .str z => if z.length ≤ sizeLine then some (.str (cutS z p.1 p.2)) else none
  | _ => none
theorem sl_r {K : PySem.W.Frag} {H : Hp} {S : Addr → Prop} {ρ : Ow} {x : V} {lo hi : Option Int} {a c : T} {Q : VK} (hf : flat ρ = true) (ra : Ro K H S ρ x a) (e : slT a (lo, hi) = some c) (q : ∀ z H', Nw K H S z H' c → Q z H') :
    rSlL K x lo hi H Q ∨ ∃ z, x = .str z ∧ z.length ≤ sizeLine ∧ Q (.str (cutS z lo hi)) H := by
  unfold slT at e
  split at e
  · cases e
    obtain ⟨p, us, i1, rfl, e1, r1, g1, g2⟩ := ra.lst
    obtain rfl : i1 = .sh := (flat_or hf).elim g1 fun z => g2 _ z
    refine .inl ⟨p, us, rfl, SqL.of e1, fun p hp => q _ _ (.lst hp ?_)⟩
    have l := r1.len
    unfold cutV cutT
    rw [l]
    exact (r1.drop _).take _
  · cases e
    cases ra with
    | fz h r1 =>
      refine .inl ⟨_, _, rfl, h.sq, fun p hp => q _ _ (.lst hp ?_)⟩
      have l := r1.len
      unfold cutV cutT
      rw [l]
      exact (r1.drop _).take _
  · split at e
    · rename_i h
      cases e
      exact .inr ⟨_, ra.str_, h, q _ _ (.sc (.str _))⟩
    · cases e
  · cases e
theorem se_sl {lo hi : Option Expr} {b0 p0 b1 p1 b2 p2 : Bool} {f0 : F0 T} {f1 f2 : F0 (Option Int)} {ρ1 : Ow} (h0 : OE X W b0 p0 Γ a f0 ρ1 Γ1) (h1 : OPt X W b1 p1 Γ1 lo f1 Γ2) (h2 : OPt X W b2 p2 Γ2 hi f2 Γ3)
    (hq : b1 = true → p2 = true := by decide) (hq0 : b0 = true → (p1 && p2) = true := by decide) (hf : flat ρ1 = true := by rfl) (hΓ : allSh Γ1 = allSh Γ := by rfl) (hΓ2 : allSh Γ2 = allSh Γ1 := by rfl) :
    SE X W (p0 && (p1 && p2)) Γ (.Subscript a (.Slice lo hi none pos2) pos) (F0.bind f0 fun a => F0.bind (F0.bind f1 fun l => F0.bind f2 fun u => F0.pure (l, u)) fun p => lf (slT a) p) (.ow .sh) Γ3 := by
  have sl2 : SlR X (fun x lo hi H Q => rSlL X.K x lo hi H Q ∨ rSlS x lo hi H Q) := sl_list.or sl_str
  refine pe_imp (pe_slice sl2 h0 h1 h2) fun σ H Q ⟨S, E, fp, r, G, er, q⟩ => ?_
  have two := fun σ H (Q : Option Int × Option Int → Hp → Prop) => tR_two (W := W) (K := X.K) (Γ := Γ1) (Γ1 := Γ2) (Γ2 := Γ3) (b1 := b1) (p1 := p1) (b2 := b2) (p2 := p2) (f := f1) (g := f2) (rel1 := fun _ _ (v t : Option Int) => v = t) (rel := fun _ _ (v t : Option Int) => v = t) (mk := fun x y => (x, y)) (mt := fun x y => (x, y)) (rel3 := fun _ _ v t => v = t)
    hq hΓ2 (fun _ _ x y t ts e1 e2 => by rw [e1, e2]) (fun _ _ _ z => z) (fun _ _ _ z => z) σ H Q
  refine tR_bind (R := fun x y H => rSlL X.K x y.1 y.2 H Q ∨ rSlS x y.1 y.2 H Q) (h := fun a b => lf (slT a) b) hq0 hΓ (fun _ _ _ z => z) two S E fp r G er (fun x E' e => by subst e; exact q) ?_
  intro x y t ts H2 S2 fp2 E2 G2 ev pp st e
  obtain ⟨c, ec, e'⟩ := lf_some e
  subst e'
  obtain ⟨s1, s2⟩ := st H2 S2 fp2 (Ev.refl fun _ z => z) (fun _ => Kept.refl _)
  subst s2
  exact sl_r hf s1 ec fun z H' n => nw_pok G2 ev pp n q
/-- xs[::-1] -/
def revT : T → Option T
  | .lst xs => some (.lst xs.reverse)
  | _ => none
theorem se_rev {b0 p0 : Bool} {f0 : F0 T} {ρ1 : Ow} {k : Nat} {p1 p2 p3 : Pos} (h0 : OE X W b0 p0 Γ a f0 ρ1 Γ') (hf : flat ρ1 = true := by rfl) : SE X W p0 Γ (.Subscript a (.Slice none none (some (.UnaryOp .USub (.Constant (.int 1) k p1) p2)) p3) pos) (F0.bind f0 (lf revT)) (.ow .sh) Γ' := by
  refine pe_imp (pe_revL h0) fun σ H Q ⟨S, E, fp, r, G, er, q⟩ => ?_
  unfold F0.bind at er
  cases e1 : f0 E with
  | none => rw [e1] at er; cases er
  | some r1 =>
    rw [e1] at er
    refine ⟨S, E, fp, r1, G, e1, ?_⟩
    cases r1 with
    | ex x E1 =>
      have e' : r = .ex x E1 := (Option.some.inj er).symm
      subst e'
      exact q
    | ok t E1 =>
      obtain ⟨d, ed, e'⟩ := lf_some er
      subst e'
      intro v H' S' fp' G' ev pp st
      have s1 := st H' S' fp' (Ev.refl fun _ z => z) (fun _ => Kept.refl _)
      unfold revT at ed
      split at ed
      · cases ed
        obtain ⟨p, us, i1, rfl, e1, r1, g1, g2⟩ := s1.lst
        obtain rfl : i1 = .sh := (flat_or hf).elim g1 fun z => g2 _ z
        exact ⟨p, us, rfl, SqL.of e1, fun p hp => nw_pok G' ev pp (.lst hp r1.rev) q⟩
      · cases ed

/-! ### one operand, several -/
def pp1 (g : T → Option T) (f : P0) : P0 := fun E => (f E).bind g
/-- a built-in of one operand, its answer a scalar -/
def C1s (K : PySem.W.Frag) (r : List V → Hp → VK → Prop) (g : T → Option T) : Prop := ∀ H S ρ x a c Q, Ro K H S ρ x a → g a = some c → (∀ z, Sc z c → Q z H) → r [x] H Q
/-- .. of several, its answer may be new -/
def CL (K : PySem.W.Frag) (r : List V → Hp → VK → Prop) (g : List T → Option T) : Prop := ∀ H S ρs xs ts c Q, ρs.all flat = true → RoL K H S ρs xs ts → g ts = some c → (∀ z H', Nw K H S z H' c → Q z H') → r xs H Q
def one (g : T → Option T) : List T → Option T
  | [a] => g a
  | _ => none
theorem C1s.cl {K : PySem.W.Frag} {r : List V → Hp → VK → Prop} {g : T → Option T} (h : C1s K r g) : CL K r (one g) := by
  intro H S ρs xs ts c Q hf hr e q
  cases hr with
  | nil => cases e
  | cons r1 r2 => cases r2 with
    | nil => exact h H S _ _ _ c Q r1 e fun z s => q z H (.sc s)
    | cons _ _ => cases e
variable {r : List V → Hp → VK → Prop} {g : T → Option T} {gl : List T → Option T}
theorem pl_one {f : P0} {ρ : Ow} (hR : ∀ {t : TA}, PA X [a] t → PE X e (tCB r t)) (hb : C1s X.K r g) (h1 : PL X Γ a f ρ) (hs : starEach [a] X.env = (false, eval a X.env) :: starEach [] X.env := by rfl) : PL X Γ e (pp1 g f) .sh := by
  refine pe_imp (hR (pa_cons h1 pa_nil hs)) fun σ H Q ⟨S, E, fp, c, G, er, q⟩ => ?_
  unfold pp1 at er
  obtain ⟨a, e1, er⟩ := Option.bind_eq_some_iff.mp er
  refine ⟨S, E, fp, a, G, e1, fun v fr R _ => ?_⟩
  exact hb H S _ v a c Q R.ro er fun z s => q z [] s.rp fun a z => absurd z (by simp)
theorem se_call {b p : Bool} {f : F0 (List T)} {ρs : List Ow} (hR : ∀ {t : TA}, PA X es t → PE X e (tCB r t)) (hb : CL X.K r gl) (h1 : OA X W b p Γ es f ρs Γ') (hf : ρs.all flat = true := by rfl) : SE X W p Γ e (F0.bind f (lf gl)) (.ow .sh) Γ' := by
  refine pe_imp (hR h1) fun σ H Q ⟨S, E, fp, r, G, er, q⟩ => ?_
  unfold F0.bind at er
  cases e1 : f E with
  | none => rw [e1] at er; cases er
  | some r1 =>
    rw [e1] at er
    refine ⟨S, E, fp, r1, G, e1, ?_⟩
    cases r1 with
    | ex x E1 =>
      have e' : r = .ex x E1 := (Option.some.inj er).symm
      subst e'
      exact q
    | ok t E1 =>
      obtain ⟨d, ed, e'⟩ := lf_some er
      subst e'
      intro v H' S' fp' G' ev pp st
      exact hb H' S' _ v t d Q hf (st H' S' fp' (Ev.refl fun _ z => z) (fun _ => Kept.refl _)) ed fun z H' n => nw_pok G' ev pp n q
/-! ### displays: their items shared -/
def mkL (ts : List T) : Option T := if ts.length ≤ sizeLine then some (.lst ts) else none
def mkT (ts : List T) : Option T := if ts.length ≤ sizeLine then some (.tup ts) else none
/-- a computation behind another -/
def F0.then {α β : Type} (f : F0 α) (g : α → Option β) : F0 β := F0.bind f (lf g)
theorem se_lst {p : Bool} {f : F0 (List T)} {i : Ow} (h : SA X W p Γ es f i Γ') : SE X W p Γ (.List es pos) (F0.bind f (lf mkL)) (.ow i) Γ' := by
  refine pe_imp (pe_lst h) fun σ H Q ⟨S, E, fp, r, G, er, q⟩ => ?_
  unfold F0.bind at er
  cases e1 : f E with
  | none => rw [e1] at er; cases er
  | some r1 =>
    rw [e1] at er
    refine ⟨S, E, fp, r1, G, e1, ?_⟩
    cases r1 with
    | ex x E1 =>
      have e' : r = .ex x E1 := (Option.some.inj er).symm
      subst e'
      exact q
    | ok t E1 =>
      obtain ⟨d, ed, e'⟩ := lf_some er
      subst e'
      intro v H' S' fp' fr G' R nd s ev pp
      unfold mkL at ed
      split at ed
      · rename_i hz
        cases ed
        refine ⟨by rw [RpA.len R]; exact hz, fun p hp => ?_⟩
        have k : Kept H' (upd H' p (.lst v)) := Kept.new hp
        obtain ⟨n1, n2⟩ := G'.free hp
        have n3 : p ∉ fr := fun z => by
          obtain ⟨ys, e⟩ := RpA.isl R p z
          exact absurd (hp.symm.trans e) (by simp)
        have R' : RpA X.K (upd H' p (.lst v)) S' i v t fr := RpA.fm (own := fun _ => False) ⟨fun a o e _ t => k a o e t, fun _ h => h, fun _ _ z => z, fun _ z => z.elim⟩ R fun _ _ z => z
        refine q _ _ S' fp' (p :: fr) (G'.along k (TbK.new hp)) (.lstO upd_same R') ?_ (fun a z => (List.mem_cons.mp z).elim (fun y => by rw [y]; exact n2) (s a)) (ev.trans ?_) (fun pt => ⟨(pp pt).1, (pp pt).2.trans k⟩)
        · show (p :: (fr ++ fp')).Nodup
          exact List.nodup_cons.mpr ⟨fun z => (List.mem_append.mp z).elim n3 n1, nd⟩
        · exact show Ev H' S' (fr ++ fp') (upd H' p (.lst v)) S' (p :: (fr ++ fp')) from Ev.new hp
      · cases ed
theorem se_tup {p : Bool} {f : F0 (List T)} {k : Nat} (h : SA X W p Γ es f .sh Γ') : SE X W p Γ (.Tuple es k pos) (F0.bind f (lf mkT)) .sh Γ' := by
  refine pe_imp (pe_tup h) fun σ H Q ⟨S, E, fp, r, G, er, q⟩ => ?_
  unfold F0.bind at er
  cases e1 : f E with
  | none => rw [e1] at er; cases er
  | some r1 =>
    rw [e1] at er
    refine ⟨S, E, fp, r1, G, e1, ?_⟩
    cases r1 with
    | ex x E1 =>
      have e' : r = .ex x E1 := (Option.some.inj er).symm
      subst e'
      exact q
    | ok t E1 =>
      obtain ⟨d, ed, e'⟩ := lf_some er
      subst e'
      intro v H' S' fp' fr G' R nd s ev pp
      unfold mkT at ed
      split at ed
      · rename_i hz
        cases ed
        refine ⟨by rw [RpA.len R]; exact hz, fun p hp => ?_⟩
        have z := RpA.sh_nil R
        subst z
        have k : Kept H' (upd H' p (.tup v)) := Kept.new hp
        have R' : RpA X.K (upd H' p (.tup v)) S' .sh v t [] := RpA.fm (own := fun _ => False) ⟨fun a o e _ t => k a o e t, fun _ h => h, fun _ _ z => z, fun _ z => z.elim⟩ R fun _ _ z => z
        exact q _ _ S' fp' [] (G'.along k (TbK.new hp)) (.tup (SqT.of upd_same) R') G'.nd (fun a z => absurd z (by simp)) (ev.trans ((Ev.new hp).less fun a z => List.mem_cons_of_mem _ z)) (fun pt => ⟨(pp pt).1, (pp pt).2.trans k⟩)
      · cases ed
theorem sa_nil {i : Ow} : SA X W true Γ [] (F0.pure []) i Γ := by
  refine pa_imp pa_nil fun σ H Q ⟨S, E, fp, r, G, e, q⟩ => ?_
  have e' : r = .ok [] E := (Option.some.inj e).symm
  subst e'
  exact q [] H S fp [] G .nil G.nd (fun a z => absurd z (by simp)) (Ev.refl fun _ z => z) (fun _ => ⟨rfl, Kept.refl H⟩)
theorem sa_cons {p1 p2 : Bool} {f : F0 T} {g : F0 (List T)} {i : Ow} (h1 : SE X W p1 Γ e f i Γ1) (h2 : SA X W p2 Γ1 es g i Γ2) (hΓ : allSh Γ1 = allSh Γ := by rfl) (hs : starEach (e :: es) X.env = (false, eval e X.env) :: starEach es X.env := by rfl) :
    SA X W (p1 && p2) Γ (e :: es) (F0.bind f fun a => F0.bind g fun b => F0.pure (a :: b)) i Γ2 := by
  refine pa_imp (pa_cons h1 h2 hs) fun σ H Q q => ?_
  refine tS_bind (V1 := V) (T1 := T) (V2 := List V) (T2 := List T) (V3 := List V) (T3 := List T) (R := fun x y H => Q (x :: y) H) (h := fun a b => F0.pure (a :: b)) (fun _ _ _ z => z) (fun _ _ _ z => z) hΓ ?_ q
  intro S E fp E2 x y t1 t2 H2 S2 fp2 g1 g2 r G2 R1 R2 nd s ev pp er q
  have e' : r = .ok (t1 :: t2) E2 := (Option.some.inj er).symm
  subst e'
  have a := List.append_assoc g1 g2 fp2
  exact q (x :: y) H2 S2 fp2 (g1 ++ g2) G2 (RpA.cons R1 R2) (a.symm ▸ nd) s (a.symm ▸ ev) pp
/-- [*xs, ..]: the items of xs shared -/
def T.seq? : T → Option (List T)
  | .lst xs => some xs
  | .tup xs => some xs
  | _ => none
theorem sa_star {p1 p2 : Bool} {f : F0 T} {g : F0 (List T)} {ρ : Ow} (h1 : SE X W p1 Γ e f ρ Γ1) (h2 : SA X W p2 Γ1 es g .sh Γ2) (hf : flat ρ = true := by rfl) (hΓ : allSh Γ1 = allSh Γ := by rfl) (hs : starEach (.Starred e pos :: es) X.env = (true, eval e X.env) :: starEach es X.env := by rfl) :
    SA X W (p1 && p2) Γ (.Starred e pos :: es) (F0.bind f fun a => F0.bind (lf T.seq? a) fun xs => F0.bind g fun b => F0.pure (xs ++ b)) .sh Γ2 := by
  refine pa_imp (StX.pa_star h1 h2 hs) fun σ H Q q => ?_
  obtain ⟨S, E, fp, r, G, er, q⟩ := q
  unfold StX.tStar
  unfold F0.bind at er
  cases e1 : f E with
  | none => rw [e1] at er; cases er
  | some r1 =>
    rw [e1] at er
    refine ⟨S, E, fp, r1, G, e1, ?_⟩
    cases r1 with
    | ex x E1 =>
      have e' : r = .ex x E1 := (Option.some.inj er).symm
      subst e'
      exact q
    | ok t E1 =>
      intro v1 H1 S1 fp1 fr1 G1 R1 nd1 s1 ev1 pr1
      obtain ⟨n1, n2, n3⟩ := nd_app nd1
      simp only [lf] at er
      cases hx : T.seq? t with
      | none => rw [hx] at er; cases er
      | some xs =>
        rw [hx] at er
        simp only [Option.map_some] at er
        have sq : ∃ p us, v1 = .ref p ∧ (SqT X.K H1 p us ∨ SqL X.K H1 p us) ∧ RoA X.K H1 S1 .sh us xs := by
          cases t <;> simp only [T.seq?] at hx <;> (try cases hx)
          · obtain ⟨p, us, i1, e, e1, r1, g1, g2⟩ := R1.ro.lst
            obtain rfl : i1 = .sh := (flat_or hf).elim g1 fun z => g2 _ z
            exact ⟨p, us, e, .inr (SqL.of e1), r1⟩
          · obtain ⟨p, us, e, e1, r1⟩ := R1.ro.tupl
            exact ⟨p, us, e, .inl e1, r1⟩
        obtain ⟨p, us, e, hq, rA⟩ := sq
        refine ⟨p, us, e, hq, ?_⟩
        cases e2 : g E1 with
        | none => simp only [e2] at er; cases er
        | some r2 =>
          simp only [e2] at er
          refine ⟨S1, E1, fp1, _, G1, e2, ?_⟩
          cases r2 with
          | ex x E2 =>
            have e' : r = .ex x E2 := (Option.some.inj er).symm
            subst e'
            intro cls d H' S' fp' G' xa ev'
            exact q cls d H' S' fp' (hΓ ▸ G') xa ((ev1.less (fun a z => List.mem_append_right _ z)).trans ev')
          | ok b E2 =>
            have e' : r = .ok (xs ++ b) E2 := (Option.some.inj er).symm
            subst e'
            intro v2 H2 S2 fp2 fr2 G2 R2 nd2 s2 ev2 pr2
            have z := RpA.sh_nil R2
            subst z
            have F := G1.fm ev2
            have rB : RpA X.K H2 S2 .sh us xs [] := RpA.fm F rA.rp fun a z => absurd z (by simp)
            refine q _ H2 S2 fp2 [] G2 (RpA.app (f := []) (g := []) rB R2) G2.nd (fun a z => absurd z (by simp)) ((ev1.less (fun a z => List.mem_append_right _ z)).trans ev2) fun pp => ?_
            obtain ⟨a1, a2⟩ := Bool.and_eq_true_iff.mp pp
            obtain ⟨b1, b2⟩ := pr1 a1
            obtain ⟨c1, c2⟩ := pr2 a2
            exact ⟨c1.trans b1, b2.trans c2⟩
end
end Tr

end
section
set_option maxHeartbeats 2000000
/-! Tr6: weakening, tests, and/or/not, conditional expressions, built-in functions. -/
namespace Tr
open PySem PySem.Spec PyProof.Rows L2
/-- Γ' holds the same or less -/
def leq : List Ow → List Ow → Bool
  | [], [] => true
  | a :: as, b :: bs => (decide (b = .sh) || decide (a = b)) && leq as bs
  | _, _ => false
theorem Sl.weak {K : PySem.W.Frag} {H : Hp} {S : Addr → Prop} : ∀ {Γ Γ' : List Ow} {σ : L2.St} {E : Env} {fp : List Addr}, Sl K H S Γ σ E fp → leq Γ Γ' = true → ∃ (g fp' : List Addr), Sl K H (fun a => S a ∨ a ∈ g) Γ' σ E fp' ∧ (∀ a ∈ fp', a ∈ fp) ∧ (∀ a ∈ g, a ∈ fp) ∧ (fp.Nodup → fp'.Nodup ∧ ∀ a ∈ g, a ∉ fp')
  | _, [], _, _, _, .nil, _ => ⟨[], [], .nil, fun _ z => z, fun _ z => z, fun h => ⟨h, fun _ z => absurd z (by simp)⟩⟩
  | _, _ :: _, _, _, _, .nil, h => by cases h
  | _, [], _, _, _, .no _, h => by cases h
  | _, [], _, _, _, .on _ _, h => by cases h
  | _, ρ' :: Γ', _, _, _, .no s, h => by
    rw [leq, Bool.and_eq_true] at h
    obtain ⟨g, fp', a, b, c, d⟩ := Sl.weak s h.2
    exact ⟨g, fp', .no a, b, c, d⟩
  | _, ρ' :: Γ', _, _, _, .on (ρ := ρ) (f := f) r s, h => by
    rw [leq, Bool.and_eq_true] at h
    obtain ⟨g, fp', a, b, c, d⟩ := Sl.weak s h.2
    by_cases e : ρ' = .sh
    · subst e
      refine ⟨f ++ g, fp', ?_, fun x z => by simp [b x z], fun x z => ?_, fun nd => ?_⟩
      · exact .on (f := []) (r.weak (fun _ h => .inl h) fun x z => .inr (by simp [z])) (a.fm (own := fun _ => False) ⟨fun _ _ e _ _ => e, fun x z => z.imp id (fun y => by simp [y]), fun _ _ z => z, fun _ z => z.elim⟩ fun _ _ z => z)
      · exact (List.mem_append.mp z).elim (fun y => by simp [y]) fun y => by simp [c x y]
      · obtain ⟨n1, n2, n3⟩ := nd_app nd
        obtain ⟨d1, d2⟩ := d n2
        exact ⟨d1, fun x z => (List.mem_append.mp z).elim (fun y q => n3 x y (b x q)) (d2 x)⟩
    · have e2 : ρ = ρ' := by simpa [e] using h.1
      subst e2
      refine ⟨g, f ++ fp', .on (r.fm (Fm.grow fun _ h => .inl h) fun _ _ z => z) a, fun x z => ?_, fun x z => by simp [c x z], fun nd => ?_⟩
      · exact (List.mem_append.mp z).elim (fun y => by simp [y]) fun y => by simp [b x y]
      · obtain ⟨n1, n2, n3⟩ := nd_app nd
        obtain ⟨d1, d2⟩ := d n2
        exact ⟨nd_mk n1 d1 fun x z y => n3 x z (b x y), fun x z q => (List.mem_append.mp q).elim (fun y => n3 x y (c x z)) (d2 x z)⟩
theorem leq_allSh : ∀ {Γ Γ' : List Ow}, leq Γ Γ' = true → allSh Γ' = allSh Γ
  | [], [], _ => rfl
  | _ :: _, _ :: _, h => by
    rw [leq, Bool.and_eq_true] at h
    show Ow.sh :: allSh _ = Ow.sh :: allSh _
    rw [leq_allSh h.2]
  | [], _ :: _, h => by cases h
  | _ :: _, [], h => by cases h
theorem leq_all : ∀ Γ : List Ow, leq Γ (allSh Γ) = true
  | [] => rfl
  | _ :: Γ => by
    show ((decide (Ow.sh = .sh) || _) && leq Γ (allSh Γ)) = true
    rw [leq_all Γ]
    simp
section
variable {K : PySem.W.Frag} {H H' : Hp} {S S' : Addr → Prop} {Γ Γ' : List Ow} {σ : L2.St} {E : Env} {fp fp' : List Addr}
/-- the slots held weaker: S grows by what was owned -/
theorem Good.weak (G : Good K H S Γ σ E fp) (h : leq Γ Γ' = true) : ∃ S' fp', Good K H S' Γ' σ E fp' ∧ Ev H S fp H S' fp' ∧ (∀ a ∈ fp', a ∈ fp) ∧ ∀ a, S' a → S a ∨ a ∈ fp := by
  obtain ⟨g, fp', a, b, c, d⟩ := G.sl.weak h
  obtain ⟨d1, d2⟩ := d G.nd
  refine ⟨_, fp', ⟨a, d1, fun x z y => y.elim (G.nS x (b x z)) fun q => d2 x q z, ⟨fun x z => z.elim (G.sT.1 x) fun y => ?_, G.sT.2⟩⟩, ⟨fun _ _ e _ _ => e, fun _ h => h, fun _ h => .inl h, fun x z => z.imp id fun y => .inl (c x y), fun x z => .inl (b x z)⟩, b, fun x z => z.imp id (c x)⟩
  obtain ⟨xs, e⟩ := G.isl x (c x y)
  exact ⟨_, e, fun ps z => nomatch z⟩
end
section
variable {X : Cx} {W : WX} {Γ Γ1 Γ2 Γ3 Γ' : List Ow} {e a b c : Expr} {es rest : List Expr} {pos : Pos}
theorem pok_weak {K : PySem.W.Frag} {p : Bool} {H : Hp} {S : Addr → Prop} {fp : List Addr} {E E' : Env} {σ : L2.St} {ρ : Ow} {t : T} {Q : VK} (h : leq Γ1 Γ2 = true) (q : Pok (V' := V) K p H S fp E Γ2 σ ρ t E' Q) : Pok (V' := V) K p H S fp E Γ1 σ ρ t E' Q := by
  intro v H' S' fp' fr G R nd s ev pp
  obtain ⟨S2, fp2, G2, ev2, hs, hS⟩ := G.weak h
  obtain ⟨n1, n2, n3⟩ := nd_app nd
  have k : ∀ a ∈ fr, a ∉ fp2 ∧ ¬ S2 a := fun a z => ev2.apart (R.isl a z).choose_spec (n3 a z) (s a z)
  exact q v H' S2 fp2 fr G2 (R.fm (G.fm ev2) n3) (nd_mk n1 G2.nd fun a z => (k a z).1) (fun a z => (k a z).2) (ev.trans (ev2.add fr)) pp
theorem se_weak {p : Bool} {f : F0 T} {ρ : Ow} (h : SE X W p Γ e f ρ Γ1) (hl : leq Γ1 Γ2 = true := by rfl) : SE X W p Γ e f ρ Γ2 := by
  refine pe_imp h fun σ H Q ⟨S, E, fp, r, G, e, q⟩ => ⟨S, E, fp, r, G, e, ?_⟩
  cases r with
  | ex x E' => exact q
  | ok t E' => exact pok_weak hl q
theorem se_pre {p : Bool} {f : F0 T} {ρ : Ow} (h : SE X W p Γ1 e f ρ Γ2) (hl : leq Γ Γ1 = true := by rfl) : SE X W p Γ e f ρ Γ2 := by
  refine pe_imp h fun σ H Q ⟨S, E, fp, r, G, e, q⟩ => ?_
  obtain ⟨S2, fp2, G2, ev2, hs, hS⟩ := G.weak hl
  refine ⟨S2, E, fp2, r, G2, e, ?_⟩
  cases r with
  | ex x E' =>
    intro cls d H' S' fp' G' xa ev
    exact q cls d H' S' fp' (leq_allSh hl ▸ G') xa (ev2.trans ev)
  | ok t E' =>
    intro v H' S' fp' fr G' R nd s ev pp
    exact q v H' S' fp' fr G' R nd s (ev2.trans ev) pp
/-- a value held in another way: shared, or a scalar as owned -/
def T.sc : T → Bool
  | .non => true
  | .bl _ => true
  | .int _ => true
  | .str _ => true
  | _ => false

/-! ### tests -/
def tT (K : PySem.W.Frag) (W : WX) (p : Bool) (Γ : List Ow) (f : F0 Bool) (Γ' : List Ow) : TT := fun σ H Q =>
  ∃ S E fp r, Good K H S Γ σ E fp ∧ f E = some r ∧ match r with
    | .ok t E' => ∀ H' S' fp', Good K H' S' Γ' σ E' fp' → Ev H S fp H' S' fp' → (p = true → E' = E ∧ Kept H H') → Q t H'
    | .ex x E' => Pex K H S fp Γ σ x E' W
def STt (X : Cx) (W : WX) (p : Bool) (Γ : List Ow) (e : Expr) (f : F0 Bool) (Γ' : List Ow) : Prop := PT X e (tT X.K W p Γ f Γ')
def T.bl? : T → Option Bool
  | .bl b => some b
  | _ => none
theorem bl_ok {K : PySem.W.Frag} {W : WX} {p : Bool} {f : F0 T} {ρ : Ow} {σ : L2.St} {H : Hp} {Q : Bool → Hp → Prop} (q : tT K W p Γ (F0.bind f (lf T.bl?)) Γ' σ H Q) : tS (V' := V) K W p Γ f ρ Γ' σ H fun x H1 => ∃ c, x = .bl c ∧ Q c H1 := by
  obtain ⟨S, E, fp, r, G, er, q⟩ := q
  unfold F0.bind at er
  cases e1 : f E with
  | none => rw [e1] at er; cases er
  | some r1 =>
    rw [e1] at er
    refine ⟨S, E, fp, r1, G, e1, ?_⟩
    cases r1 with
    | ex x E1 =>
      have e' : r = .ex x E1 := (Option.some.inj er).symm
      subst e'
      exact q
    | ok t E1 =>
      obtain ⟨d, ed, e'⟩ := lf_some er
      subst e'
      intro v H' S' fp' fr G' R nd s ev pp
      cases t <;> simp only [T.bl?] at ed <;> (try cases ed)
      exact ⟨_, R.ro.bl_, q H' S' fp' G' (ev.less fun a z => List.mem_append_right _ z) pp⟩
theorem st_val {p : Bool} {f : F0 T} {ρ : Ow} (h : SE X W p Γ e f ρ Γ') (he : ∀ whole, isTrue e X.env whole = (do let v ← whole; standAt e.pos; holding [v] (truthy v)) := by intro _; rfl) : STt X W p Γ e (F0.bind f (lf T.bl?)) Γ' :=
  pt_imp (pt_val h he) fun _ _ _ q => bl_ok q
/-- a comparison as a test -/
theorem st_cmp {p : Bool} {f : F0 T} {ρ : Ow} {t : TE} {op : CmpOp} {pos : Pos} (h : ∀ σ H Q, tS (V' := V) X.K W p Γ f ρ Γ' σ H Q → t σ H Q) (hp : PT X (.Compare a [op] [b] pos) (tTest t)) : STt X W p Γ (.Compare a [op] [b] pos) (F0.bind f (lf T.bl?)) Γ' :=
  pt_imp hp fun _ _ _ q => h _ _ _ (bl_ok q)
def tnot (f : F0 Bool) : F0 Bool := F0.bind f fun b => F0.pure (!b)
theorem st_not {p : Bool} {f : F0 Bool} (h : STt X W p Γ a f Γ') : STt X W p Γ (.UnaryOp .Not a pos) (tnot f) Γ' := by
  refine pt_imp (pt_not h) fun σ H Q ⟨S, E, fp, r, G, er, q⟩ => ?_
  unfold tnot F0.bind at er
  cases e1 : f E with
  | none => rw [e1] at er; cases er
  | some r1 =>
    rw [e1] at er
    refine ⟨S, E, fp, r1, G, e1, ?_⟩
    cases r1 with
    | ex x E1 =>
      have e' : r = .ex x E1 := (Option.some.inj er).symm
      subst e'
      exact q
    | ok t E1 =>
      have e' : r = .ok (!t) E1 := (Option.some.inj er).symm
      subst e'
      exact q
/-- the parts of and, or: whatever the whole is -/
def SW (X : Cx) (W : WX) (p : Bool) (Γ : List Ow) (e : Expr) (f : F0 Bool) (Γ' : List Ow) : Prop := PW X e (tT X.K W p Γ f Γ')
theorem pw_imp {t u : TT} (h : PW X e t) (k : ∀ σ H Q, u σ H Q → t σ H Q) : PW X e u := ⟨fun w pins s σ H Q I q => h.run w pins s σ H Q I (k σ H Q q)⟩
theorem SW.st {p : Bool} {f : F0 Bool} (h : SW X W p Γ e f Γ') : STt X W p Γ e f Γ' := PW.pt h
def tand (f g : F0 Bool) : F0 Bool := F0.bind f fun b => if b = true then g else F0.pure b
def tor (f g : F0 Bool) : F0 Bool := F0.bind f fun b => if b = false then g else F0.pure b
theorem tT_mono {K : PySem.W.Frag} {p : Bool} {f : F0 Bool} {σ : L2.St} {H : Hp} {Q Q' : Bool → Hp → Prop} (h : tT K W p Γ f Γ' σ H Q) (k : ∀ c H, Q c H → Q' c H) : tT K W p Γ f Γ' σ H Q' := by
  obtain ⟨S, E, fp, r, G, er, q⟩ := h
  refine ⟨S, E, fp, r, G, er, ?_⟩
  cases r with
  | ex x E' => exact q
  | ok t E' => exact fun H' S' fp' G' ev pp => k _ _ (q H' S' fp' G' ev pp)
theorem sw_and1 {p : Bool} {f : F0 Bool} (h : STt X W p Γ a f Γ') : SW X W p Γ (.BoolOp .And [a] pos) f Γ' := pw_and1 h
theorem sw_or1 {p : Bool} {f : F0 Bool} (h : STt X W p Γ a f Γ') : SW X W p Γ (.BoolOp .Or [a] pos) f Γ' := pw_or1 h
theorem tand_r {K : PySem.W.Frag} {p1 p2 : Bool} {f g : F0 Bool} {σ : L2.St} {H : Hp} {Q : Bool → Hp → Prop} {d : Bool} (hl : leq Γ1 Γ2 = true) (hΓ : allSh Γ1 = allSh Γ)
    (q : tT K W (p1 && p2) Γ (F0.bind f fun b => if b = d then g else F0.pure b) Γ2 σ H Q) : tT K W p1 Γ f Γ1 σ H fun c H1 => if c = d then tT K W p2 Γ1 g Γ2 σ H1 Q else Q c H1 := by
  obtain ⟨S, E, fp, r, G, er, q⟩ := q
  unfold F0.bind at er
  cases e1 : f E with
  | none => rw [e1] at er; cases er
  | some r1 =>
    rw [e1] at er
    refine ⟨S, E, fp, r1, G, e1, ?_⟩
    cases r1 with
    | ex x E1 =>
      have e' : r = .ex x E1 := (Option.some.inj er).symm
      subst e'
      exact q
    | ok t E1 =>
      intro H' S' fp' G' ev pp
      by_cases ht : t = d
      · rw [if_pos ht]
        simp only [if_pos ht] at er
        refine ⟨S', E1, fp', r, G', er, ?_⟩
        cases r with
        | ex x E2 => exact fun cls d H2 S2 fp2 G2 xa ev2 => q cls d H2 S2 fp2 (hΓ ▸ G2) xa (ev.trans ev2)
        | ok u E2 =>
          intro H2 S2 fp2 G2 ev2 pp2
          refine q H2 S2 fp2 G2 (ev.trans ev2) fun z => ?_
          obtain ⟨a1, a2⟩ := Bool.and_eq_true_iff.mp z
          exact ⟨(pp2 a2).1.trans (pp a1).1, (pp a1).2.trans (pp2 a2).2⟩
      · rw [if_neg ht]
        simp only [if_neg ht] at er
        have e' : r = .ok t E1 := (Option.some.inj er).symm
        subst e'
        obtain ⟨S2, fp2, G2, ev2, hs, hS⟩ := G'.weak hl
        exact q H' S2 fp2 G2 (ev.trans ev2) fun z => pp (Bool.and_eq_true_iff.mp z).1
theorem sw_and {p1 p2 : Bool} {f g : F0 Bool} (h1 : STt X W p1 Γ a f Γ1) (h2 : SW X W p2 Γ1 (.BoolOp .And (b :: rest) pos) g Γ2) (hl : leq Γ1 Γ2 = true := by rfl) (hΓ : allSh Γ1 = allSh Γ := by rfl) : SW X W (p1 && p2) Γ (.BoolOp .And (a :: b :: rest) pos) (tand f g) Γ2 := by
  refine pw_imp (pw_and h1 h2) fun σ H Q q => tT_mono (tand_r (d := true) hl hΓ q) fun c H1 z => ?_
  cases c with
  | true => exact z
  | false => exact z
theorem sw_or {p1 p2 : Bool} {f g : F0 Bool} (h1 : STt X W p1 Γ a f Γ1) (h2 : SW X W p2 Γ1 (.BoolOp .Or (b :: rest) pos) g Γ2) (hl : leq Γ1 Γ2 = true := by rfl) (hΓ : allSh Γ1 = allSh Γ := by rfl) : SW X W (p1 && p2) Γ (.BoolOp .Or (a :: b :: rest) pos) (tor f g) Γ2 := by
  refine pw_imp (pw_or h1 h2) fun σ H Q q => tT_mono (tand_r (d := false) hl hΓ q) fun c H1 z => ?_
  cases c with
  | true => exact z
  | false => exact z
/-- and, or as values -/
def vand (f g : F0 T) : F0 T := F0.bind (F0.bind f (lf T.bl?)) fun b => if b = true then g else F0.pure (.bl b)
def vor (f g : F0 T) : F0 T := F0.bind (F0.bind f (lf T.bl?)) fun b => if b = false then g else F0.pure (.bl b)
theorem vand_r {K : PySem.W.Frag} {p1 p2 : Bool} {f g : F0 T} {ρ1 ρ2 : Ow} {σ : L2.St} {H : Hp} {Q : VK} {d : Bool} (hl : leq Γ1 Γ2 = true) (hΓ : allSh Γ1 = allSh Γ)
    (q : tS (V' := V) K W (p1 && p2) Γ (F0.bind (F0.bind f (lf T.bl?)) fun b => if b = d then g else F0.pure (.bl b)) ρ2 Γ2 σ H Q) : tS (V' := V) K W p1 Γ f ρ1 Γ1 σ H fun x H1 => ∃ c, x = .bl c ∧ if c = d then tS (V' := V) K W p2 Γ1 g ρ2 Γ2 σ H1 Q else Q (.bl c) H1 := by
  refine bl_ok ?_
  obtain ⟨S, E, fp, r, G, er, q⟩ := q
  unfold F0.bind at er
  cases e1 : F0.bind f (lf T.bl?) E with
  | none =>
    unfold F0.bind at e1
    rw [e1] at er
    cases er
  | some r1 =>
    refine ⟨S, E, fp, r1, G, e1, ?_⟩
    unfold F0.bind at e1
    rw [e1] at er
    cases r1 with
    | ex x E1 =>
      have e' : r = .ex x E1 := (Option.some.inj er).symm
      subst e'
      exact q
    | ok t E1 =>
      intro H' S' fp' G' ev pp
      by_cases ht : t = d
      · rw [if_pos ht]
        simp only [if_pos ht] at er
        refine ⟨S', E1, fp', r, G', er, ?_⟩
        cases r with
        | ex x E2 => exact fun cls d H2 S2 fp2 G2 xa ev2 => q cls d H2 S2 fp2 (hΓ ▸ G2) xa (ev.trans ev2)
        | ok u E2 =>
          intro v H2 S2 fp2 fr G2 R nd s ev2 pp2
          refine q v H2 S2 fp2 fr G2 R nd s (ev.trans ev2) fun z => ?_
          obtain ⟨a1, a2⟩ := Bool.and_eq_true_iff.mp z
          exact ⟨(pp2 a2).1.trans (pp a1).1, (pp a1).2.trans (pp2 a2).2⟩
      · rw [if_neg ht]
        simp only [if_neg ht] at er
        have e' : r = .ok (.bl t) E1 := (Option.some.inj er).symm
        subst e'
        obtain ⟨S2, fp2, G2, ev2, hs, hS⟩ := G'.weak hl
        exact q _ H' S2 fp2 [] G2 (.bl t) G2.nd (fun a z => absurd z (by simp)) (ev.trans ev2) fun z => pp (Bool.and_eq_true_iff.mp z).1
theorem tS_mono {K : PySem.W.Frag} {p : Bool} {f : F0 T} {ρ : Ow} {σ : L2.St} {H : Hp} {Q Q' : VK} (h : tS (V' := V) K W p Γ f ρ Γ' σ H Q) (k : ∀ c H, Q c H → Q' c H) : tS (V' := V) K W p Γ f ρ Γ' σ H Q' := by
  obtain ⟨S, E, fp, r, G, er, q⟩ := h
  refine ⟨S, E, fp, r, G, er, ?_⟩
  cases r with
  | ex x E' => exact q
  | ok t E' => exact fun v H' S' fp' fr G' R nd s ev pp => k _ _ (q v H' S' fp' fr G' R nd s ev pp)
theorem se_and1 {p : Bool} {f : F0 T} {ρ : Ow} {op} (h : SE X W p Γ a f ρ Γ') : SE X W p Γ (.BoolOp op [a] pos) f ρ Γ' := pe_one h
theorem se_and {p1 p2 : Bool} {f g : F0 T} {ρ1 ρ2 : Ow} (h1 : SE X W p1 Γ a f ρ1 Γ1) (h2 : SE X W p2 Γ1 (.BoolOp .And (b :: rest) pos) g ρ2 Γ2) (hl : leq Γ1 Γ2 = true := by rfl) (hΓ : allSh Γ1 = allSh Γ := by rfl) : SE X W (p1 && p2) Γ (.BoolOp .And (a :: b :: rest) pos) (vand f g) ρ2 Γ2 := by
  refine pe_imp (pe_and h1 h2) fun σ H Q q => tS_mono (vand_r (d := true) hl hΓ q) fun c H1 ⟨d, e, z⟩ => ⟨d, e, ?_⟩
  cases d with
  | true => exact z
  | false => exact z
theorem se_or {p1 p2 : Bool} {f g : F0 T} {ρ1 ρ2 : Ow} (h1 : SE X W p1 Γ a f ρ1 Γ1) (h2 : SE X W p2 Γ1 (.BoolOp .Or (b :: rest) pos) g ρ2 Γ2) (hl : leq Γ1 Γ2 = true := by rfl) (hΓ : allSh Γ1 = allSh Γ := by rfl) : SE X W (p1 && p2) Γ (.BoolOp .Or (a :: b :: rest) pos) (vor f g) ρ2 Γ2 := by
  refine pe_imp (pe_or h1 h2) fun σ H Q q => tS_mono (vand_r (d := false) hl hΓ q) fun c H1 ⟨d, e, z⟩ => ⟨d, e, ?_⟩
  cases d with
  | true => exact z
  | false => exact z
def vnot (f : F0 T) : F0 T := F0.bind f (lf fun t => t.bl?.map fun b => .bl (!b))
theorem se_not {p : Bool} {f : F0 T} {ρ : Ow} (h : SE X W p Γ a f ρ Γ') : SE X W p Γ (.UnaryOp .Not a pos) (vnot f) .sh Γ' := by
  refine pe_imp (pe_not h) fun σ H Q ⟨S, E, fp, r, G, er, q⟩ => ?_
  unfold vnot F0.bind at er
  cases e1 : f E with
  | none => rw [e1] at er; cases er
  | some r1 =>
    rw [e1] at er
    refine ⟨S, E, fp, r1, G, e1, ?_⟩
    cases r1 with
    | ex x E1 =>
      have e' : r = .ex x E1 := (Option.some.inj er).symm
      subst e'
      exact q
    | ok t E1 =>
      obtain ⟨d, ed, e'⟩ := lf_some er
      subst e'
      intro v H' S' fp' fr G' R nd s ev pp
      cases t <;> simp only [T.bl?, Option.map_none, Option.map_some] at ed <;> (try cases ed)
      exact ⟨_, R.ro.bl_, q _ H' S' fp' [] G' (.bl _) G'.nd (fun a z => absurd z (by simp)) (ev.less fun a z => List.mem_append_right _ z) pp⟩
/-- a if c else b -/
def vif (t : F0 Bool) (f g : F0 T) : F0 T := F0.bind t fun b => if b = true then f else g
theorem se_if {p0 p1 p2 : Bool} {t : F0 Bool} {f g : F0 T} {ρ : Ow} (h0 : STt X W p0 Γ c t Γ1) (h1 : SE X W p1 Γ1 a f ρ Γ2) (h2 : SE X W p2 Γ1 b g ρ Γ2) (hΓ : allSh Γ1 = allSh Γ := by rfl) : SE X W (p0 && (p1 && p2)) Γ (.IfExp c a b pos) (vif t f g) ρ Γ2 := by
  refine pe_imp (pe_ifExp h0 h1 h2) fun σ H Q ⟨S, E, fp, r, G, er, q⟩ => ?_
  unfold vif F0.bind at er
  cases e1 : t E with
  | none => rw [e1] at er; cases er
  | some r1 =>
    rw [e1] at er
    refine ⟨S, E, fp, r1, G, e1, ?_⟩
    cases r1 with
    | ex x E1 =>
      have e' : r = .ex x E1 := (Option.some.inj er).symm
      subst e'
      exact q
    | ok d E1 =>
      intro H' S' fp' G' ev pp
      have fin : ∀ {pf : Bool} {fg : F0 T}, ((p0 && (p1 && p2)) = true → pf = true) → fg E1 = some r → tS (V' := V) X.K W pf Γ1 fg ρ Γ2 σ H' Q := fun {pf fg} hp eg => by
        refine ⟨S', E1, fp', r, G', eg, ?_⟩
        cases r with
        | ex x E2 => exact fun cls d H2 S2 fp2 G2 xa ev2 => q cls d H2 S2 fp2 (hΓ ▸ G2) xa (ev.trans ev2)
        | ok u E2 =>
          intro v H2 S2 fp2 fr G2 R nd s ev2 pp2
          refine q v H2 S2 fp2 fr G2 R nd s (ev.trans ev2) fun z => ?_
          have a1 := (Bool.and_eq_true_iff.mp z).1
          exact ⟨(pp2 (hp z)).1.trans (pp a1).1, (pp a1).2.trans (pp2 (hp z)).2⟩
      cases d with
      | true => exact fin (fun z => (Bool.and_eq_true_iff.mp (Bool.and_eq_true_iff.mp z).2).1) er
      | false => exact fin (fun z => (Bool.and_eq_true_iff.mp (Bool.and_eq_true_iff.mp z).2).2) er
end
end Tr

end
section
set_option maxHeartbeats 2000000
/-! Tr7: statements. -/
namespace Tr
open PySem PySem.Spec PyProof.Rows L2
inductive Fl where
  | nx (E : Env) | rt (t : T) (E : Env) | bk (E : Env) | ct (E : Env) | ex (x : Ex) (E : Env)
abbrev S0 := Env → Option Fl
/-- what a block is held to: at a return, the ownership of slots and of the value; at break and continue, that of the slots; the slots that keep their value -/
structure Cf where
  Γr : List Ow
  ρr : Ow
  Γl : List Ow
  M : List Nat
def Mk (M : List Nat) (σ σ' : L2.St) : Prop := ∀ i ∈ M, σ'[i]? = σ[i]?
theorem Mk.refl (M : List Nat) (σ : L2.St) : Mk M σ σ := fun _ _ => rfl
theorem Mk.trans {M : List Nat} {σ σ1 σ2 : L2.St} (a : Mk M σ σ1) (b : Mk M σ1 σ2) : Mk M σ σ2 := fun i h => (b i h).trans (a i h)
/-- what is wanted behind a block that came out as r -/
def Qf (K : PySem.W.Frag) (W : WX) (C : Cf) (Γ Γ' : List Ow) (H : Hp) (S : Addr → Prop) (fp : List Addr) (σ : L2.St) (D : Ends) : Fl → Prop
  | .nx E' => ∀ σ' H' S' fp', Good K H' S' Γ' σ' E' fp' → Ev H S fp H' S' fp' → Mk C.M σ σ' → D.nx σ' H'
  | .rt t E' => ∀ v σ' H' S' fp' fr, Good K H' S' C.Γr σ' E' fp' → Rp K H' S' C.ρr v t fr → (fr ++ fp').Nodup → (∀ a ∈ fr, ¬ S' a) → Ev H S fp H' S' (fr ++ fp') → Mk C.M σ σ' → D.rt v H'
  | .bk E' => ∀ σ' H' S' fp', Good K H' S' C.Γl σ' E' fp' → Ev H S fp H' S' fp' → Mk C.M σ σ' → D.bk σ' H'
  | .ct E' => ∀ σ' H' S' fp', Good K H' S' C.Γl σ' E' fp' → Ev H S fp H' S' fp' → Mk C.M σ σ' → D.ct σ' H'
  | .ex x E' => ∀ cls d σ' H' S' fp', Good K H' S' (allSh Γ) σ' E' fp' → XAt K H' S' x cls d → Ev H S fp H' S' fp' → W cls d σ' H'
def tQ (K : PySem.W.Frag) (W : WX) (C : Cf) (Γ : List Ow) (f : S0) (Γ' : List Ow) : TS := fun D σ H => ∃ S E fp r, Good K H S Γ σ E fp ∧ f E = some r ∧ Qf K W C Γ Γ' H S fp σ D r
def SS (X : Cx) (W : WX) (C : Cf) (Γ : List Ow) (st : Stmt) (f : S0) (Γ' : List Ow) : Prop := PS X st (tQ X.K W C Γ f Γ')
def SSs (X : Cx) (W : WX) (C : Cf) (Γ : List Ow) (st : List Stmt) (f : S0) (Γ' : List Ow) : Prop := PSs X st (tQ X.K W C Γ f Γ')
/-- ahead of a block something was done -/
theorem Qf.pre {K : PySem.W.Frag} {W : WX} {C : Cf} {Γ Γ1 Γ' : List Ow} {H H1 : Hp} {S S1 : Addr → Prop} {fp fp1 : List Addr} {σ σ1 : L2.St} {D : Ends} {r : Fl} (q : Qf K W C Γ Γ' H S fp σ D r) (ev : Ev H S fp H1 S1 fp1) (m : Mk C.M σ σ1) (hΓ : allSh Γ1 = allSh Γ) : Qf K W C Γ1 Γ' H1 S1 fp1 σ1 D r := by
  cases r with
  | nx E' => exact fun σ' H' S' fp' G e k => q σ' H' S' fp' G (ev.trans e) (m.trans k)
  | rt t E' => exact fun v σ' H' S' fp' fr G R nd s e k => q v σ' H' S' fp' fr G R nd s (ev.trans e) (m.trans k)
  | bk E' => exact fun σ' H' S' fp' G e k => q σ' H' S' fp' G (ev.trans e) (m.trans k)
  | ct E' => exact fun σ' H' S' fp' G e k => q σ' H' S' fp' G (ev.trans e) (m.trans k)
  | ex x E' => exact fun cls d σ' H' S' fp' G a e => q cls d σ' H' S' fp' (hΓ ▸ G) a (ev.trans e)

section
variable {K : PySem.W.Frag} {H H' : Hp} {S S' : Addr → Prop} {Γ Γ' : List Ow} {σ : L2.St} {E : Env} {fp fp' : List Addr}
/-- a slot is stored -/
theorem Good.set (G : Good K H S Γ σ E fp) (i : Nat) {ρ : Ow} {v : V} {t : T} {fr : List Addr} (R : Rp K H S ρ v t fr) (nd : (fr ++ fp).Nodup) (s : ∀ a ∈ fr, ¬ S a) : ∃ fp', Good K H S (Γ.set i ρ) (σ.set i (some v)) (E.set i (some t)) fp' ∧ ∀ a ∈ fp', a ∈ fr ++ fp := by
  by_cases hi : i < E.length
  · obtain ⟨f1, f, f2, e, g, put⟩ := G.sl.put i hi
    have sl := put H S ρ v t fr (fun _ _ _ _ _ r => r) R
    have sub : ∀ a ∈ f1 ++ (fr ++ f2), a ∈ fr ++ fp := fun a z => by
      rw [e]
      simp only [List.mem_append] at z ⊢
      rcases z with z | z | z
      · exact .inr (.inl z)
      · exact .inl z
      · exact .inr (.inr (.inr z))
    obtain ⟨n1, n2, n3⟩ := nd_app nd
    rw [e] at n2 n3
    obtain ⟨m1, m2, m3⟩ := nd_app n2
    obtain ⟨m4, m5, m6⟩ := nd_app m2
    refine ⟨f1 ++ (fr ++ f2), ⟨sl, nd_mk m1 (nd_mk n1 m5 fun a z y => n3 a z (by simp [y])) fun a z y => ?_, fun a z => ?_, G.sT⟩, sub⟩
    · rcases List.mem_append.mp y with y | y
      · exact n3 a y (by simp [z])
      · exact m3 a z (by simp [y])
    · exact (List.mem_append.mp (sub a z)).elim (s a) (G.nS a)
  · obtain ⟨l1, l2⟩ := G.sl.len
    refine ⟨fp, ?_, fun a z => by simp [z]⟩
    rw [List.set_eq_of_length_le (by omega), List.set_eq_of_length_le (by omega), List.set_eq_of_length_le (by omega)]
    exact G
/-- a slot is given up -/
theorem Sl.clr : ∀ {Γ : List Ow} {σ : L2.St} {E : Env} {fp : List Addr} (i : Nat) {t : T}, Sl K H S Γ σ E fp → E[i]? = some (some t) → ∃ ρ v f1 f f2, Γ[i]? = some ρ ∧ σ[i]? = some (some v) ∧ Rp K H S ρ v t f ∧ fp = f1 ++ (f ++ f2) ∧ Sl K H S Γ σ (E.set i none) (f1 ++ f2)
  | _, _, _, _, i, t, .nil, h => by simp at h
  | _, _, _, _, 0, t, .no s, h => by simp at h
  | _, _, _, _, 0, t, .on (f := f) (fs := fs) r s, h => by
    simp at h
    subst h
    exact ⟨_, _, [], f, fs, rfl, rfl, r, rfl, .no s⟩
  | _, _, _, _, i + 1, t, .no s, h => by
    obtain ⟨ρ, v, f1, f, f2, a, b, c, d, e⟩ := Sl.clr i (t := t) s (by simpa using h)
    exact ⟨ρ, v, f1, f, f2, by simpa using a, by simpa using b, c, d, .no e⟩
  | _, _, _, _, i + 1, t, .on (f := f0) r s, h => by
    obtain ⟨ρ, v, f1, f, f2, a, b, c, d, e⟩ := Sl.clr i (t := t) s (by simpa using h)
    refine ⟨ρ, v, f0 ++ f1, f, f2, by simpa using a, by simpa using b, c, by rw [d, List.append_assoc], ?_⟩
    rw [List.append_assoc]
    exact .on r e
/-- an owned list in a slot is changed -/
theorem Sl.mut : ∀ {Γ : List Ow} {σ : L2.St} {E : Env} {fp : List Addr} (i : Nat) {ι : Ow} {ts : List T}, Sl K H S Γ σ E fp → fp.Nodup → (∀ a ∈ fp, ¬ S a) → E[i]? = some (some (.lst ts)) → Γ[i]? = some (.ow ι) →
    ∃ l xs f0 f1 f2, σ[i]? = some (some (.ref l)) ∧ H l = some (.lst xs) ∧ RpA K H S ι xs ts f0 ∧ fp = f1 ++ ((l :: f0) ++ f2) ∧
      ∀ xs' ts' f', RpA K (upd H l (.lst xs')) S ι xs' ts' f' → Sl K (upd H l (.lst xs')) S Γ σ (E.set i (some (.lst ts'))) (f1 ++ ((l :: f') ++ f2)) := by
  intro Γ σ E fp i ι ts s nd nS h hρ
  have hi : i < E.length := (List.getElem?_eq_some_iff.mp h).1
  obtain ⟨f1, f, f2, e, g, put⟩ := s.put i hi
  obtain ⟨ρ', v, h1, h2, h3⟩ := g _ h
  rw [hρ] at h1
  cases h1
  cases h3 with
  | lstO hl r =>
    rename_i l xs f0
    refine ⟨l, xs, f0, f1, f2, h2, hl, r, e, fun xs' ts' f' r' => ?_⟩
    have lf : ∀ a, a ∈ f1 ∨ a ∈ f2 → a ≠ l := fun a z y => by
      rw [e] at nd
      obtain ⟨n1, n2, n3⟩ := nd_app nd
      obtain ⟨n4, n5, n6⟩ := nd_app n2
      rcases z with z | z
      · exact n3 a z (by simp [y])
      · exact n6 a (by simp [y]) z
    have F : Fm (fun a => a = l) H (upd H l (.lst xs')) S S := ⟨fun a o e n _ => by rw [upd_ne n]; exact e, fun _ h => h, fun a z y => nS l (by rw [e]; simp) (y ▸ z), fun a z => ⟨xs, by rw [z]; exact hl⟩⟩
    have sl := put (upd H l (.lst xs')) S (.ow ι) (.ref l) (.lst ts') (l :: f') (fun ρ v t g hg r => r.fm F fun a z => lf a (hg a z)) (.lstO upd_same r')
    have eσ : σ.set i (some (V.ref l)) = σ := by
      apply List.ext_getElem?
      intro j
      by_cases hj : i = j
      · subst hj
        rw [h2, List.getElem?_set_self (List.getElem?_eq_some_iff.mp h2).1]
      · rw [List.getElem?_set_ne hj]
    have eΓ : Γ.set i (Ow.ow ι) = Γ := by
      apply List.ext_getElem?
      intro j
      by_cases hj : i = j
      · subst hj
        rw [hρ, List.getElem?_set_self (List.getElem?_eq_some_iff.mp hρ).1]
      · rw [List.getElem?_set_ne hj]
    rw [eσ, eΓ] at sl
    exact sl
theorem tab_mut {l : Addr} {xs' : List V} (h : ∃ o, H l = some (.lst o)) : ∀ P q, LamX.TabS H P q → LamX.TabS (upd H l (.lst xs')) P q := fun P q ⟨ps, e1, e2, e3⟩ => by
    obtain ⟨xs, e⟩ := h
    have ne : ∀ {b : Addr} {o : HO}, H b = some o → (∀ xs, o ≠ .lst xs) → upd H l (.lst xs') b = some o := fun {b o} eb hb => by
      rw [upd_ne (fun z => by
        rw [z, e] at eb
        exact hb _ (Option.some.inj eb).symm)]
      exact eb
    refine ⟨ps, ne e1 (fun _ z => nomatch z), e2, fun pos cv hc => ?_⟩
    obtain ⟨c, c1, c2⟩ := e3 pos cv hc
    exact ⟨c, c1, ne c2 fun xs z => by
      unfold LamX.CodeO at z
      cases z⟩
theorem Ev.mut {l : Addr} {xs' : List V} (hl : l ∈ fp) (h : ∃ o, H l = some (.lst o)) (sub : ∀ a ∈ fp', a ∈ fp) : Ev H S fp (upd H l (.lst xs')) S fp' where
  keep := fun a o e n _ => by rw [upd_ne (fun z => n (by rw [z]; exact hl))]; exact e
  dom := fun a e => by
    by_cases z : a = l
    · rw [z, upd_same] at e; cases e
    · rwa [upd_ne z] at e
  mono := fun _ h => h
  shr := fun _ h => .inl h
  own := fun a z => .inl (sub a z)
end

section
variable {X : Cx} {W : WX} {C : Cf} {Γ Γ1 Γ2 Γ3 Γ' : List Ow} {e a b c : Expr} {st : Stmt} {sts : List Stmt} {pos pos' : Pos}
/-! ### giving a name up: its thing goes on -/
def mv (i : Nat) : F0 T := fun E => (vr i E).map fun t => .ok t (E.set i none)
theorem se_move (i : Nat) {x : Str} {ρ : Ow} (hN : X.N[i]? = some x := by rfl) (hΓ : Γ[i]? = some ρ := by rfl) (hv : Vis X.env.scope x := by first | exact Or.inl rfl | exact Or.inr (Or.inl rfl) | exact Or.inr (Or.inr rfl))
    (hd : (x == ("__debug__" : Str)) = false := by decide) (hcd : (x == ("__classdict__" : Str)) = false := by decide) : SE X W false Γ (.Name x pos) (mv i) ρ Γ := by
  refine pe_imp (pe_var hN hv hd hcd) fun σ H Q ⟨S, E, fp, r, G, er, q⟩ => ?_
  unfold mv at er
  cases e1 : vr i E with
  | none => rw [e1] at er; cases er
  | some t =>
    rw [e1] at er
    have e' : r = .ok t (E.set i none) := (Option.some.inj er).symm
    subst e'
    obtain ⟨ρ', v, f1, f, f2, a, b, c, d, sl⟩ := G.sl.clr i (vr_some e1)
    rw [hΓ] at a
    cases a
    refine ⟨v, b, ?_⟩
    have nd := G.nd
    rw [d] at nd
    obtain ⟨n1, n2, n3⟩ := nd_app nd
    obtain ⟨n4, n5, n6⟩ := nd_app n2
    have m1 : ∀ a ∈ f, a ∉ f1 ++ f2 := fun a z y => (List.mem_append.mp y).elim (fun y => n3 a y (by simp [z])) (n6 a z)
    refine q v H S (f1 ++ f2) f ⟨sl, nd_mk n1 n5 fun a z y => n3 a z (by simp [y]), fun a z => G.nS a ?_, G.sT⟩ c (nd_mk n4 (nd_mk n1 n5 fun a z y => n3 a z (by simp [y])) m1) (fun a z => G.nS a (by rw [d]; simp [z])) (Ev.refl fun a z => ?_) (fun z => by cases z)
    · rw [d]
      simp only [List.mem_append] at z ⊢
      exact z.elim .inl fun y => .inr (.inr y)
    · rw [d]
      simp only [List.mem_append] at z ⊢
      rcases z with z | z | z
      · exact .inr (.inl z)
      · exact .inl z
      · exact .inr (.inr z)

/-! ### statements -/
/-- behind an expression -/
def aft (f : F0 T) (k : T → Env → Option Fl) : S0 := fun E => match f E with
  | none => none
  | some (.ok t E') => k t E'
  | some (.ex x E') => some (.ex x E')
theorem aft_r {p : Bool} {f : F0 T} {ρ : Ow} {k : T → Env → Option Fl} {σ : L2.St} {H : Hp} {D : Ends} {R : VK} (q : tQ X.K W C Γ (aft f k) Γ' D σ H)
    (h : ∀ S E fp t E' r, Good X.K H S Γ σ E fp → k t E' = some r → Qf X.K W C Γ Γ' H S fp σ D r → Pok (V' := V) X.K p H S fp E Γ1 σ ρ t E' R) : tS (V' := V) X.K W p Γ f ρ Γ1 σ H R := by
  obtain ⟨S, E, fp, r, G, er, q⟩ := q
  unfold aft at er
  cases e1 : f E with
  | none => rw [e1] at er; cases er
  | some r1 =>
    rw [e1] at er
    refine ⟨S, E, fp, r1, G, e1, ?_⟩
    cases r1 with
    | ex x E1 =>
      have e' : r = .ex x E1 := (Option.some.inj er).symm
      subst e'
      exact fun cls d H' S' fp' G' xa ev => q cls d σ H' S' fp' G' xa ev
    | ok t E1 => exact h S E fp t E1 r G er q
def fset (i : Nat) (f : F0 T) : S0 := aft f fun t E => some (.nx (E.set i (some t)))
theorem set_fin {p : Bool} {f : F0 T} {ρ : Ow} {σ : L2.St} {H : Hp} {D : Ends} (i : Nat) (hM : C.M.contains i = false) (q : tQ X.K W C Γ (fset i f) (Γ1.set i ρ) D σ H) : tS (V' := V) X.K W p Γ f ρ Γ1 σ H fun x H1 => D.nx (σ.set i (some x)) H1 := by
  refine aft_r q fun S E fp t E' r G er q => ?_
  have e' : r = .nx (E'.set i (some t)) := (Option.some.inj er).symm
  subst e'
  intro v H' S' fp' fr G' R nd s ev pp
  obtain ⟨fp2, G2, sub⟩ := G'.set i R nd s
  refine q _ H' S' fp2 G2 (ev.less sub) fun j hj => ?_
  by_cases h : i = j
  · subst h
    rw [List.contains_iff_mem.mpr hj] at hM
    cases hM
  · rw [List.getElem?_set_ne h]
theorem ss_set (i : Nat) {p : Bool} {x : Str} {f : F0 T} {ρ : Ow} (he : SE X W p Γ e f ρ Γ1) (hN : X.N.Nodup) (hi : X.N[i]? = some x := by rfl) (hx : Loc X.env.scope x := by first | exact Or.inl rfl | exact Or.inr rfl) (hM : C.M.contains i = false := by rfl)
    (hs : swapsWith e (some (.Name x pos')) pos.line X.env = pure false := by rfl) (hf : X.fn x = true ∨ X.env.scope.names.lookup x = some .local := by first | exact .inl rfl | exact .inr rfl) : SS X W C Γ (.Assign [.Name x pos'] e pos) (fset i f) (Γ1.set i ρ) :=
  ps_imp (ps_set hN hi hx he hs hf) fun D σ H q => set_fin i hM q
def fdo (f : F0 T) : S0 := aft f fun _ E => some (.nx E)
theorem ss_expr {p : Bool} {f : F0 T} {ρ : Ow} (he : SE X W p Γ e f ρ Γ') (hs : swapsWith e none pos.line X.env = pure false := by rfl) : SS X W C Γ (.Expr e pos) (fdo f) Γ' := by
  refine ps_imp (ps_expr he hs) fun D σ H q => aft_r q fun S E fp t E' r G er q => ?_
  have e' : r = .nx E' := (Option.some.inj er).symm
  subst e'
  exact fun v H' S' fp' fr G' R nd s ev pp => q σ H' S' fp' G' (ev.less fun a z => List.mem_append_right _ z) (Mk.refl _ _)
def frt (f : F0 T) : S0 := aft f fun t E => some (.rt t E)
theorem ss_ret {p : Bool} {f : F0 T} (he : SE X W p Γ e f C.ρr Γ1) (hl : leq Γ1 C.Γr = true := by rfl) : SS X W C Γ (.Return (some e) pos) (frt f) Γ' := by
  refine ps_imp (ps_ret he) fun D σ H q => aft_r q fun S E fp t E' r G er q => ?_
  have e' : r = .rt t E' := (Option.some.inj er).symm
  subst e'
  exact pok_weak hl fun v H' S' fp' fr G' R nd s ev pp => q v σ H' S' fp' fr G' R nd s ev (Mk.refl _ _)
/-- what is behind a test -/
def fif (t : F0 Bool) (f g : S0) : S0 := fun E => match t E with
  | none => none
  | some (.ok b E') => if b = true then f E' else g E'
  | some (.ex x E') => some (.ex x E')
theorem ss_if {p : Bool} {t : F0 Bool} {f g : S0} {sa sb : List Stmt} (hc : STt X W p Γ c t Γ1) (ha : SSs X W C Γ1 sa f Γ') (hb : SSs X W C Γ1 sb g Γ') (hΓ : allSh Γ1 = allSh Γ := by rfl) : SS X W C Γ (.If c sa sb pos) (fif t f g) Γ' := by
  refine ps_imp (ps_if hc ha hb) fun D σ H ⟨S, E, fp, r, G, er, q⟩ => ?_
  unfold fif at er
  cases e1 : t E with
  | none => rw [e1] at er; cases er
  | some r1 =>
    rw [e1] at er
    refine ⟨S, E, fp, r1, G, e1, ?_⟩
    cases r1 with
    | ex x E1 =>
      have e' : r = .ex x E1 := (Option.some.inj er).symm
      subst e'
      exact fun cls d H' S' fp' G' xa ev => q cls d σ H' S' fp' G' xa ev
    | ok d E1 =>
      intro H' S' fp' G' ev pp
      cases d with
      | true => exact ⟨S', E1, fp', r, G', er, q.pre ev (Mk.refl _ _) hΓ⟩
      | false => exact ⟨S', E1, fp', r, G', er, q.pre ev (Mk.refl _ _) hΓ⟩
def fnx : S0 := fun E => some (.nx E)
theorem ss_nil : SSs X W C Γ [] fnx Γ := by
  refine pss_imp pss_nil fun D σ H ⟨S, E, fp, r, G, er, q⟩ => ?_
  have e' : r = .nx E := (Option.some.inj er).symm
  subst e'
  exact q σ H S fp G (Ev.refl fun _ z => z) (Mk.refl _ _)
theorem ss_pass : SS X W C Γ (.Pass pos) fnx Γ := by
  refine ps_imp ps_pass fun D σ H ⟨S, E, fp, r, G, er, q⟩ => ?_
  have e' : r = .nx E := (Option.some.inj er).symm
  subst e'
  exact q σ H S fp G (Ev.refl fun _ z => z) (Mk.refl _ _)
/-- a text alone -/
theorem ss_doc {x : Str} {j} : SS X W C Γ (.Expr (.Constant (.str x) j pos) pos') fnx Γ := by
  refine ps_imp ps_doc fun D σ H ⟨S, E, fp, r, G, er, q⟩ => ?_
  have e' : r = .nx E := (Option.some.inj er).symm
  subst e'
  exact q σ H S fp G (Ev.refl fun _ z => z) (Mk.refl _ _)
def fno : S0 := fun _ => none
theorem ss_never : SS X W C Γ st fno Γ' := by
  refine ps_imp ps_never fun D σ H ⟨S, E, fp, r, G, er, q⟩ => ?_
  cases er
def fbk : S0 := fun E => some (.bk E)
def fct : S0 := fun E => some (.ct E)
theorem ss_break (hl : leq Γ C.Γl = true := by rfl) : SS X W C Γ (.Break pos) fbk Γ' := by
  refine ps_imp ps_break fun D σ H ⟨S, E, fp, r, G, er, q⟩ => ?_
  have e' : r = .bk E := (Option.some.inj er).symm
  subst e'
  obtain ⟨S2, fp2, G2, ev2, _, _⟩ := G.weak hl
  exact q σ H S2 fp2 G2 ev2 (Mk.refl _ _)
theorem ss_cont (hl : leq Γ C.Γl = true := by rfl) : SS X W C Γ (.Continue pos) fct Γ' := by
  refine ps_imp ps_continue fun D σ H ⟨S, E, fp, r, G, er, q⟩ => ?_
  have e' : r = .ct E := (Option.some.inj er).symm
  subst e'
  obtain ⟨S2, fp2, G2, ev2, _, _⟩ := G.weak hl
  exact q σ H S2 fp2 G2 ev2 (Mk.refl _ _)
def fsq (f g : S0) : S0 := fun E => match f E with
  | some (.nx E') => g E'
  | r => r
theorem ss_cons {f g : S0} (h1 : SS X W C Γ st f Γ1) (h2 : SSs X W C Γ1 sts g Γ') (hΓ : allSh Γ1 = allSh Γ := by rfl) : SSs X W C Γ (st :: sts) (fsq f g) Γ' := by
  refine pss_imp (pss_cons h1 h2) fun D σ H ⟨S, E, fp, r, G, er, q⟩ => ?_
  unfold fsq at er
  cases e1 : f E with
  | none => rw [e1] at er; cases er
  | some r1 =>
    rw [e1] at er
    refine ⟨S, E, fp, r1, G, e1, ?_⟩
    cases r1 with
    | nx E1 => exact fun σ' H' S' fp' G' ev m => ⟨S', E1, fp', r, G', er, q.pre ev m hΓ⟩
    | rt t E1 => cases er; exact q
    | bk E1 => cases er; exact q
    | ct E1 => cases er; exact q
    | ex x E1 => cases er; exact q
theorem ss_one {f : S0} (h1 : SS X W C Γ st f Γ') : SSs X W C Γ [st] f Γ' := pss_one h1
theorem sss_pre {f : S0} (h : SSs X W C Γ1 sts f Γ') (hl : leq Γ Γ1 = true := by rfl) : SSs X W C Γ sts f Γ' := by
  refine pss_imp h fun D σ H ⟨S, E, fp, r, G, er, q⟩ => ?_
  obtain ⟨S2, fp2, G2, ev2, _, _⟩ := G.weak hl
  exact ⟨S2, E, fp2, r, G2, er, q.pre ev2 (Mk.refl _ _) (leq_allSh hl)⟩
theorem ss_pre {f : S0} (h : SS X W C Γ1 st f Γ') (hl : leq Γ Γ1 = true := by rfl) : SS X W C Γ st f Γ' := by
  refine ps_imp h fun D σ H ⟨S, E, fp, r, G, er, q⟩ => ?_
  obtain ⟨S2, fp2, G2, ev2, _, _⟩ := G.weak hl
  exact ⟨S2, E, fp2, r, G2, er, q.pre ev2 (Mk.refl _ _) (leq_allSh hl)⟩
theorem Qf.post {K : PySem.W.Frag} {H : Hp} {S : Addr → Prop} {fp : List Addr} {σ : L2.St} {D : Ends} {r : Fl} (q : Qf K W C Γ Γ2 H S fp σ D r) (hl : leq Γ1 Γ2 = true) : Qf K W C Γ Γ1 H S fp σ D r := by
  cases r with
  | nx E' =>
    intro σ' H' S' fp' G ev m
    obtain ⟨S2, fp2, G2, ev2, _, _⟩ := G.weak hl
    exact q σ' H' S2 fp2 G2 (ev.trans ev2) m
  | rt t E' => exact q
  | bk E' => exact q
  | ct E' => exact q
  | ex x E' => exact q
theorem sss_post {f : S0} (h : SSs X W C Γ sts f Γ1) (hl : leq Γ1 Γ2 = true := by rfl) : SSs X W C Γ sts f Γ2 :=
  pss_imp h fun D σ H ⟨S, E, fp, r, G, er, q⟩ => ⟨S, E, fp, r, G, er, q.post hl⟩
theorem ss_post {f : S0} (h : SS X W C Γ st f Γ1) (hl : leq Γ1 Γ2 = true := by rfl) : SS X W C Γ st f Γ2 :=
  ps_imp h fun D σ H ⟨S, E, fp, r, G, er, q⟩ => ⟨S, E, fp, r, G, er, q.post hl⟩
end
end Tr

end
section
set_option maxHeartbeats 2000000
/-! Tr8: defs and calls. -/
namespace Tr
open PySem PySem.Spec PyProof.Rows L2

/-- a def keeps its promise wherever no repr is under way -/
structure FnG (P : Program) (w : World) (K : PySem.W.Frag) (mg : Str → Option Value) (base : Heap) (k : Nat) (f : Addr) (fd : FuncData) (ps : List Str) (sp : Sp) : Prop where
  len : ∀ vs H Q E, sp vs H Q E → vs.length = ps.length
  run : ∀ (A : Around) (outer : List PySem.Env) (s : Shared) (H : Hp) (args : Args) (us : List Value) (vs : List V) (Q : VK) (E : XK), A.guards = some [] → Room k A → Env0 P w K mg base A outer s H →
    BindsTo s fd args (ps.zip us) → Vals vs us → sp vs H Q E → codeAny (model P w) A (.call (.ref f) args) (CR (L2.CX P w) outer P w H s Q E) s
theorem FnG.mono {P : Program} {w : World} {K : PySem.W.Frag} {mg : Str → Option Value} {base : Heap} {j k : Nat} {f : Addr} {fd : FuncData} {ps : List Str} {sp : Sp} (F : FnG P w K mg base j f fd ps sp) (h : j ≤ k) : FnG P w K mg base k f fd ps sp :=
  ⟨F.len, fun A outer s H args us vs Q E g r => F.run A outer s H args us vs Q E g (r.mono h)⟩
theorem FnG.imp {P : Program} {w : World} {K : PySem.W.Frag} {mg : Str → Option Value} {base : Heap} {k : Nat} {f : Addr} {fd : FuncData} {ps : List Str} {sp sp' : Sp} (F : FnG P w K mg base k f fd ps sp) (h : ∀ vs H Q E, sp' vs H Q E → sp vs H Q E) : FnG P w K mg base k f fd ps sp' :=
  ⟨fun vs H Q E q => F.len vs H Q E (h _ _ _ _ q), fun A outer s H args us vs Q E g r e b v q => F.run A outer s H args us vs Q E g r e b v (h _ _ _ _ q)⟩

theorem guards_deeper {A : Around} {env : PySem.Env} : (A.deeper env).guards = A.guards := by
  cases A
  rfl
/-- cdv is the code object of the def at f -/
def CodeOf (K : PySem.W.Frag) (f : Addr) (cdv : Value) : Prop := ∃ oc od fd osl, K.lookup f = some ⟨oc, od, .func fd, osl⟩ ∧ fd.code = cdv
/-- THE RULE of a def, by its body -/
theorem fnG_of {P : Program} {w : World} {K : PySem.W.Frag} {mg : Str → Option Value} {base : Heap} {x qual : Str} {params : Arguments} {body : List Stmt} {scope : Scope} {dvs : List V} {kws : List (Str × V)} {f : Addr} {fd : FuncData} {N ps : List Str} {k : Nat} {sp : Sp}
    (F : FunD K x qual params body scope dvs kws f fd) (Sc : FnScope N ps scope) (len : ∀ vs H Q E, sp vs H Q E → vs.length = ps.length)
    (hb : ∀ (cdv : Value) (A : Around) (outer : List PySem.Env) (s : Shared) (H : Hp) (vs : List V) (Q : VK) (E : XK), CodeOf K f cdv → (A.deeper (envOfC qual scope s.heap.objs.size f cdv)).guards = some [] → Room k (A.deeper (envOfC qual scope s.heap.objs.size f cdv)) → sp vs H Q E →
      ∃ t, PSs (cxOf (L2.CX P w) P w K mg base N qual scope f cdv A outer s H E) body t ∧ t { nx := fun _ H' => Q .non H', rt := Q } (L2.start N vs) H) : FnG P w K mg base (k + 1) f fd ps sp := by
  obtain ⟨oc, od, dV, kV, doc, pm, an, cdv, ct, osl, rfl, lk, hcd, _, _⟩ := F.ex
  refine ⟨len, fun A outer s H args us vs Q E hg room e0 bnd rel hsp => ?_⟩
  have hlen : vs.length = ps.length := len vs H Q E hsp
  have inK : K.In s.heap := e0.mod.kin.keeps fun b o h => (e0.bs b o h).1
  have noLim : s.heap.NoLimit := e0.mod.nolimit.keeps fun b o h => (e0.bs b o h).1
  have kinds : ∀ y ∈ ps.zip us, scope.names.lookup y.1 = some .local ∨ (scope.names.lookup y.1 = some .cell ∧ ((cellsFrom (s.heap.objs.size + 1) scope.names []).lookup y.1).isSome = true) := by
    rintro ⟨n, v⟩ hy
    exact (Sc.par n (List.of_mem_zip hy).1).imp id fun q => ⟨q, PySem.W.cellsFrom_some _ _ _ (.inl q)⟩
  refine codeAny_call_function room.depth (inK _ _ lk) rfl Sc.co Sc.gen rfl (PySem.W.codeRec_of inK hcd) (bnd _ _ _ _ (wpAny_newFunctionEnv_cells Sc.kind kinds fun env he s1 x => ?_))
  subst he
  obtain ⟨t, ht, hq⟩ := hb cdv A outer s H vs Q E ⟨_, _, _, _, lk, rfl⟩ (guards_deeper.trans hg) (room.deeper _) hsp
  refine ⟨noLim.keeps x.toInCall.keep, codeAny_func (wpAny_mono (ht.run [] s1 (L2.start N vs) H _ (inv_start Sc room.hd e0 hlen rel x) hq) (fun fl s' hs => ?_) fun e s' hs => hs)⟩
  cases fl with
  | ret u =>
    obtain ⟨v, σ', H', J, rv, q⟩ := hs
    exact ⟨v, H', J.os, J.bare, J.base, J.hok, rv, q⟩
  | next =>
    obtain ⟨σ', H', J, q⟩ := hs
    exact ⟨.non, H', J.os, J.bare, J.base, J.hok, rfl, q⟩
  | brk =>
    obtain ⟨_, _, _, q⟩ := hs
    exact False.elim q
  | cont =>
    obtain ⟨_, _, _, q⟩ := hs
    exact False.elim q

section
variable {X : Cx} {W : WX} {pins : List (Addr × Obj)} {σ : L2.St} {H : Hp} {s : Shared} {k : Nat} {f : Addr} {fd : FuncData} {ps : List Str} {sp : Sp}
/-- the callee runs -/
theorem runG (F : FnG X.prog X.w X.K X.mg X.base k f fd ps sp) (hg : X.A.guards = some []) (hr : Room k X.A) (tk : Takes X W) {us us2 : List Value} {kw : List (Str × Value)} {vs : List V} {Q : VK} (I : Inv X pins σ H s) (hb : BindsTo s fd ⟨us, kw⟩ (ps.zip us2)) (r : Vals vs us2)
    (h : sp vs H Q fun cls d H' => W cls d σ H') : wpAny (model X.prog X.w) X.A (call (.ref f) us kw) (EP X pins σ Q) X.xe s := by
  refine wpAny_call (codeAny_mono (F.run X.A X.stack s H ⟨us, kw⟩ us2 vs Q _ hg hr I.env0 hb r h) fun r s' hq => ?_)
  match r, hq with
  | .error e, hq => exact tk e s' (XE.of_call I (fun _ _ _ z => z) hq)
  | .ok (.ret u), hq => exact I.after hq
  | .ok .next, hq => exact False.elim hq
  | .ok .brk, hq => exact False.elim hq
  | .ok .cont, hq => exact False.elim hq
end

/-! ### promises -/
inductive Rs where
  | ok (t : T) (ts : List T)
  | ex (x : Ex)
def spG (K : PySem.W.Frag) (Γp : List Ow) (ρr : Ow) (F : List T → Option Rs) : Sp := fun vs H Q E => ∃ S ts f r, Good K H S Γp (vs.map some) (ts.map some) f ∧ F ts = some r ∧ match r with
  | .ok t ts' => ∀ v H' S' f' fr, Good K H' S' Γp (vs.map some) (ts'.map some) f' → Rp K H' S' ρr v t fr → (fr ++ f').Nodup → (∀ a ∈ fr, ¬ S' a) → Ev H S f H' S' (fr ++ f') → Q v H'
  | .ex x => ∀ cls d H' S', XAt K H' S' x cls d → Ev H S f H' S' [] → ((∀ a, S' a → ∃ o, H' a = some o ∧ ∀ ps, o ≠ .tbl ps) ∧ TbK K H') → E cls d H'
/-- the parameters behind the body: the shared ones as they were, the owned ones as they are now -/
def mixT : List Ow → List T → Env → Option (List T)
  | [], [], _ => some []
  | .sh :: Γ, t :: ts, _ :: E => (mixT Γ ts E).map fun us => t :: us
  | .ow _ :: Γ, _ :: ts, some u :: E => (mixT Γ ts E).map fun us => u :: us
  | _, _, _ => none
/-- what a def hands back -/
def runF (Γp : List Ow) (n : Nat) (b : S0) (ts : List T) : Option Rs := match b (ts.map some ++ List.replicate (n - ts.length) none) with
  | some (.rt t E) => (mixT Γp ts E).map (Rs.ok t)
  | some (.nx E) => (mixT Γp ts E).map (Rs.ok .non)
  | some (.ex x _) => some (.ex x)
  | _ => none
theorem Sl.shAt {K : PySem.W.Frag} {H : Hp} {S : Addr → Prop} : ∀ {Γ : List Ow} {vs : List V} {ts : List T} {f : List Addr}, Sl K H S Γ (vs.map some) (ts.map some) f → vs.length = Γ.length ∧ ts.length = Γ.length ∧ ∀ (i : Nat) (v : V) (t : T), Γ[i]? = some Ow.sh → vs[i]? = some v → ts[i]? = some t → Rp K H S .sh v t []
  | Γ, vs, ts, f, h => by
    induction ts generalizing Γ vs f with
    | nil =>
      cases vs with
      | nil =>
        cases h
        exact ⟨rfl, rfl, fun i v t h => by simp at h⟩
      | cons v vs => cases h
    | cons t ts ih =>
      cases vs with
      | nil => cases h
      | cons v vs =>
        cases h with
        | on r s =>
          obtain ⟨a, b, c⟩ := ih _ _ _ s
          refine ⟨by simp [a], by simp [b], fun i v' t' h1 h2 h3 => ?_⟩
          cases i with
          | zero =>
            simp at h1 h2 h3
            subst h1 h2 h3
            have := r.sh_nil
            subst this
            exact r
          | succ i => exact c i v' t' (by simpa using h1) (by simpa using h2) (by simpa using h3)
theorem Sl.mix {K : PySem.W.Frag} {H : Hp} {S : Addr → Prop} : ∀ {Γp Γr : List Ow} {σ : L2.St} {E : Env} {fp : List Addr} {vs : List V} {ts ts' : List T}, Sl K H S Γr σ E fp → (∀ (i : Nat) (ρ : Ow), Γp[i]? = some (Ow.ow ρ) → Γr[i]? = some (Ow.ow ρ)) → vs.length = Γp.length → ts.length = Γp.length →
    (∀ (i : Nat) (v : V) (t : T), Γp[i]? = some Ow.sh → vs[i]? = some v → ts[i]? = some t → Rp K H S .sh v t []) → (∀ (i : Nat) (ρ : Ow), Γp[i]? = some (Ow.ow ρ) → σ[i]? = vs[i]?.map some) → mixT Γp ts E = some ts' →
    ∃ f', Sl K H S Γp (vs.map some) (ts'.map some) f' ∧ (∀ a ∈ f', a ∈ fp) ∧ (fp.Nodup → f'.Nodup)
  | [], Γr, σ, E, fp, vs, ts, ts', s, hΓ, hv, ht, hs, hm, e => by
    cases vs with
    | cons _ _ => simp at hv
    | nil =>
      cases ts with
      | cons _ _ => simp at ht
      | nil =>
        rw [mixT] at e
        cases e
        exact ⟨[], .nil, fun a z => absurd z (by simp), fun _ => .nil⟩
  | ρ :: Γp, Γr, σ, E, fp, vs, ts, ts', s, hΓ, hv, ht, hs, hm, e => by
    cases vs with
    | nil => simp at hv
    | cons v vs =>
      cases ts with
      | nil => simp at ht
      | cons t ts =>
        cases ρ with
        | sh =>
          cases s with
          | nil => cases e
          | no s =>
            rw [mixT] at e
            obtain ⟨us, e1, e'⟩ := Option.map_eq_some_iff.mp e
            subst e'
            obtain ⟨f', a, b, c⟩ := Sl.mix s (fun i ρ h => by simpa using hΓ (i + 1) ρ (by simpa using h)) (by simpa using hv) (by simpa using ht) (fun i v t h1 h2 h3 => hs (i + 1) v t (by simpa using h1) (by simpa using h2) (by simpa using h3)) (fun i ρ h => by simpa using hm (i + 1) ρ (by simpa using h)) e1
            exact ⟨f', .on (f := []) (hs 0 v t rfl rfl rfl) a, b, c⟩
          | on r s =>
            rw [mixT] at e
            obtain ⟨us, e1, e'⟩ := Option.map_eq_some_iff.mp e
            subst e'
            obtain ⟨f', a, b, c⟩ := Sl.mix s (fun i ρ h => by simpa using hΓ (i + 1) ρ (by simpa using h)) (by simpa using hv) (by simpa using ht) (fun i v t h1 h2 h3 => hs (i + 1) v t (by simpa using h1) (by simpa using h2) (by simpa using h3)) (fun i ρ h => by simpa using hm (i + 1) ρ (by simpa using h)) e1
            exact ⟨f', .on (f := []) (hs 0 v t rfl rfl rfl) a, fun a z => by simp [b a z], fun nd => c (nd_app nd).2.1⟩
        | ow ι =>
          cases s with
          | nil => cases e
          | no s => simp [mixT] at e
          | on r s =>
            rw [mixT] at e
            obtain ⟨us, e1, e'⟩ := Option.map_eq_some_iff.mp e
            subst e'
            have h0 := hΓ 0 ι rfl
            simp at h0
            subst h0
            have m0 := hm 0 ι rfl
            simp at m0
            subst m0
            obtain ⟨f', a, b, c⟩ := Sl.mix s (fun i ρ h => by simpa using hΓ (i + 1) ρ (by simpa using h)) (by simpa using hv) (by simpa using ht) (fun i v t h1 h2 h3 => hs (i + 1) v t (by simpa using h1) (by simpa using h2) (by simpa using h3)) (fun i ρ h => by simpa using hm (i + 1) ρ (by simpa using h)) e1
            refine ⟨_, .on r a, fun a z => ?_, fun nd => ?_⟩
            · exact (List.mem_append.mp z).elim (fun y => by simp [y]) fun y => by simp [b a y]
            · obtain ⟨n1, n2, n3⟩ := nd_app nd
              exact nd_mk n1 (c n2) fun a z y => n3 a z (b a y)
theorem mixT_nx {Γp : List Ow} {ts : List T} {E : Env} {r : Option (List T)} (h : mixT Γp ts E = r) : mixT Γp ts E = r := h
/-- a body's reading at the entry, from what is promised of it -/
theorem sss_start {K : PySem.W.Frag} {N : List Str} {Γp : List Ow} {C : Cf} {b : S0} {Γ' : List Ow} {vs : List V} {H : Hp} {Q : VK} {E : XK}
    (hr : C.Γr = Γp ++ List.replicate (N.length - Γp.length) .sh) (hM : ∀ (i : Nat) (ι : Ow), Γp[i]? = some (Ow.ow ι) → i ∈ C.M) (hl : leq Γ' C.Γr = true) (sp : spG K Γp C.ρr (runF Γp N.length b) vs H Q E) :
    tQ K (fun cls d _ H' => E cls d H') C (Γp ++ List.replicate (N.length - Γp.length) .sh) b Γ' { nx := fun _ H' => Q .non H', rt := Q } (L2.start N vs) H := by
  obtain ⟨S, ts, fo, r, G, er, q⟩ := sp
  obtain ⟨l1, l2, shs⟩ := G.sl.shAt
  -- the entry: the parameters, then names without a value
  have ext : ∀ n : Nat, Sl K H S (Γp ++ List.replicate n .sh) (vs.map some ++ List.replicate n none) (ts.map some ++ List.replicate n none) fo := by
    intro n
    have tail : ∀ n : Nat, Sl K H S (List.replicate n .sh) (List.replicate n none) (List.replicate n none) [] := by
      intro n
      induction n with
      | zero => exact .nil
      | succ n ih => exact .no ih
    have app : ∀ {Γ : List Ow} {σ : L2.St} {E : Env} {f : List Addr}, Sl K H S Γ σ E f → Sl K H S (Γ ++ List.replicate n .sh) (σ ++ List.replicate n none) (E ++ List.replicate n none) f := by
      intro Γ σ E f s
      induction s with
      | nil => exact tail n
      | no s ih => exact .no ih
      | on r s ih => exact .on r ih
    exact app G.sl
  have lv : N.length - vs.length = N.length - Γp.length := by rw [l1]
  have lt : N.length - ts.length = N.length - Γp.length := by rw [l2]
  unfold runF at er
  rw [lt] at er
  have G0 : Good K H S (Γp ++ List.replicate (N.length - Γp.length) .sh) (L2.start N vs) (ts.map some ++ List.replicate (N.length - Γp.length) none) fo := by
    refine ⟨?_, G.nd, G.nS, G.sT⟩
    unfold L2.start
    rw [lv]
    exact ext _
  -- the end: the parameters again
  have fin : ∀ {ts' : List T} {E' : Env} {σ' : L2.St} {H' : Hp} {S' : Addr → Prop} {fp' fr : List Addr}, mixT Γp ts E' = some ts' → Good K H' S' C.Γr σ' E' fp' → Ev H S fo H' S' (fr ++ fp') → Mk C.M (L2.start N vs) σ' →
      ∃ f', Good K H' S' Γp (vs.map some) (ts'.map some) f' ∧ ∀ a ∈ f', a ∈ fp' := fun {ts' E' σ' H' S' fp' fr} e G' ev m => by
    have q1 : ∀ (i : Nat) (ρ : Ow), Γp[i]? = some (Ow.ow ρ) → C.Γr[i]? = some (Ow.ow ρ) := fun i ρ h => by
      rw [hr, List.getElem?_append_left (List.getElem?_eq_some_iff.mp h).1]
      exact h
    have q2 : ∀ (i : Nat) (ι : Ow), Γp[i]? = some (Ow.ow ι) → σ'[i]? = vs[i]?.map some := fun i ι h => by
      have hi : i < vs.length := by
        rw [l1]
        exact (List.getElem?_eq_some_iff.mp h).1
      rw [m i (hM i ι h)]
      unfold L2.start
      rw [List.getElem?_append_left (by simpa using hi), List.getElem?_map]
    obtain ⟨f', a, b, c⟩ := Sl.mix (Γp := Γp) (vs := vs) (ts := ts) (ts' := ts') G'.sl q1 l1 l2 (fun i v t h1 h2 h3 => (shs i v t h1 h2 h3).fm (ev.fm G.nS G.isl) fun _ z => absurd z (by simp)) q2 e
    exact ⟨f', ⟨a, c G'.nd, fun a z => G'.nS a (b a z), G'.sT⟩, b⟩
  cases eb : b (ts.map some ++ List.replicate (N.length - Γp.length) none) with
  | none => rw [eb] at er; cases er
  | some fl =>
    rw [eb] at er
    refine ⟨S, _, fo, fl, G0, eb, ?_⟩
    cases fl with
    | nx E' =>
      obtain ⟨ts', e, e'⟩ := Option.map_eq_some_iff.mp er
      subst e'
      intro σ' H' S' fp' G' ev m
      obtain ⟨S2, fp2, G2, ev2, _, _⟩ := G'.weak hl
      obtain ⟨f', Gf, sub⟩ := fin (fr := []) e G2 (ev.trans ev2) m
      exact q .non H' S2 f' [] Gf .non Gf.nd (fun a z => absurd z (by simp)) ((ev.trans ev2).less sub)
    | rt t E' =>
      obtain ⟨ts', e, e'⟩ := Option.map_eq_some_iff.mp er
      subst e'
      intro v σ' H' S' fp' fr G' R nd s ev m
      obtain ⟨f', Gf, sub⟩ := fin e G' ev m
      obtain ⟨n1, n2, n3⟩ := nd_app nd
      refine q v H' S' f' fr Gf R (nd_mk n1 Gf.nd fun a z y => n3 a z (sub a y)) s (ev.less fun a z => ?_)
      exact (List.mem_append.mp z).elim (fun y => by simp [y]) fun y => by simp [sub a y]
    | bk E' => cases er
    | ct E' => cases er
    | ex x E' =>
      have e' : r = .ex x := (Option.some.inj er).symm
      subst e'
      exact fun cls d σ' H' S' fp' G' xa ev => q cls d H' S' xa (ev.less fun a z => absurd z (by simp)) G'.sT
/-- THE RULE of a def: its body computes b -/
theorem fnG_bodyL {P : Program} {w : World} {K : PySem.W.Frag} {mg : Str → Option Value} {base : Heap} {x qual : Str} {params : Arguments} {body : List Stmt} {scope : Scope} {dvs : List V} {kws : List (Str × V)} {f : Addr} {fd : FuncData} {N ps : List Str} {k : Nat}
    (F : FunD K x qual params body scope dvs kws f fd) (Sc : FnScope N ps scope) {Γp : List Ow} {ρr : Ow} {C : Cf} {b : S0} {Γ' : List Ow} (hp : Γp.length = ps.length)
    (hC : C.ρr = ρr) (hr : C.Γr = Γp ++ List.replicate (N.length - Γp.length) .sh) (hM : ∀ (i : Nat) (ι : Ow), Γp[i]? = some (Ow.ow ι) → i ∈ C.M) (hl : leq Γ' C.Γr = true)
    (hb : ∀ (cdv : Value) (A : Around) (outer : List PySem.Env) (s : Shared) (H : Hp) (E : XK), CodeOf K f cdv → (A.deeper (envOfC qual scope s.heap.objs.size f cdv)).guards = some [] → Room k (A.deeper (envOfC qual scope s.heap.objs.size f cdv)) →
      SSs (cxOf (L2.CX P w) P w K mg base N qual scope f cdv A outer s H E) (fun cls d _ H' => E cls d H') C (Γp ++ List.replicate (N.length - Γp.length) .sh) body b Γ') : FnG P w K mg base (k + 1) f fd ps (spG K Γp ρr (runF Γp N.length b)) := by
  subst hC
  have lens : ∀ vs H Q E, spG K Γp C.ρr (runF Γp N.length b) vs H Q E → vs.length = ps.length := fun vs H Q E ⟨S, ts, fo, r, G, _⟩ => by
    rw [← hp]
    exact G.sl.shAt.1
  exact fnG_of F Sc lens fun cdv A outer s H vs Q E lk hg room sp => ⟨_, hb cdv A outer s H E lk hg room, sss_start hr hM hl sp⟩
/-- THE RULE of a def: its body computes b -/
theorem fnG_body {P : Program} {w : World} {K : PySem.W.Frag} {mg : Str → Option Value} {base : Heap} {x qual : Str} {params : Arguments} {body : List Stmt} {scope : Scope} {dvs : List V} {kws : List (Str × V)} {f : Addr} {fd : FuncData} {N ps : List Str} {k : Nat}
    (F : FunD K x qual params body scope dvs kws f fd) (Sc : FnScope N ps scope) {Γp : List Ow} {ρr : Ow} {C : Cf} {b : S0} {Γ' : List Ow} (hp : Γp.length = ps.length)
    (hC : C.ρr = ρr) (hr : C.Γr = Γp ++ List.replicate (N.length - Γp.length) .sh) (hM : ∀ (i : Nat) (ι : Ow), Γp[i]? = some (Ow.ow ι) → i ∈ C.M) (hl : leq Γ' C.Γr = true)
    (hb : ∀ (cdv : Value) (A : Around) (outer : List PySem.Env) (s : Shared) (H : Hp) (E : XK), (A.deeper (envOfC qual scope s.heap.objs.size f cdv)).guards = some [] → Room k (A.deeper (envOfC qual scope s.heap.objs.size f cdv)) →
      SSs (cxOf (L2.CX P w) P w K mg base N qual scope f cdv A outer s H E) (fun cls d _ H' => E cls d H') C (Γp ++ List.replicate (N.length - Γp.length) .sh) body b Γ') : FnG P w K mg base (k + 1) f fd ps (spG K Γp ρr (runF Γp N.length b)) := by
  exact fnG_bodyL F Sc hp hC hr hM hl fun cdv A outer s H E _ hg room => hb cdv A outer s H E hg room
end Tr

end
section
set_option maxHeartbeats 2000000
/-! Tr9: calls of defs. -/
namespace Tr
open PySem PySem.Spec PyProof.Rows L2
/-- as Sl.put, and the slots with that one given up -/
theorem Sl.put' {K : PySem.W.Frag} {H : Hp} {S : Addr → Prop} : ∀ {Γ : List Ow} {σ : L2.St} {E : Env} {fp : List Addr} (i : Nat), Sl K H S Γ σ E fp → i < E.length → ∃ f1 f f2, fp = f1 ++ (f ++ f2) ∧
    (∀ t, E[i]? = some (some t) → ∃ ρ v, Γ[i]? = some ρ ∧ σ[i]? = some (some v) ∧ Rp K H S ρ v t f) ∧
    (∀ (H' : Hp) (S' : Addr → Prop) (ρ' : Ow) (v' : V) (t' : T) (f' : List Addr), (∀ ρ v t g, (∀ a ∈ g, a ∈ f1 ∨ a ∈ f2) → Rp K H S ρ v t g → Rp K H' S' ρ v t g) → Rp K H' S' ρ' v' t' f' →
      Sl K H' S' (Γ.set i ρ') (σ.set i (some v')) (E.set i (some t')) (f1 ++ (f' ++ f2))) ∧ Sl K H S Γ σ (E.set i none) (f1 ++ f2)
  | _, _, _, _, i, .nil, h => absurd h (by simp)
  | _, _, _, _, 0, .no (fs := fs) s, _ => by
    refine ⟨[], [], fs, rfl, fun t h => by simp at h, fun H' S' ρ' v' t' f' k r => ?_, .no s⟩
    exact show Sl K H' S' _ _ _ (f' ++ fs) from .on r (s.along (g := fs) (fun ρ v t h n => k ρ v t h fun a z => .inr (n a z)) fun _ z => z)
  | _, _, _, _, 0, .on (f := f) (fs := fs) r s, _ => by
    refine ⟨[], f, fs, rfl, fun t h => ?_, fun H' S' ρ' v' t' f' k r => ?_, .no s⟩
    · simp at h
      subst h
      exact ⟨_, _, rfl, rfl, r⟩
    · exact show Sl K H' S' _ _ _ (f' ++ fs) from .on r (s.along (g := fs) (fun ρ v t h n => k ρ v t h fun a z => .inr (n a z)) fun _ z => z)
  | _, _, _, _, i + 1, .no s, h => by
    obtain ⟨f1, f, f2, e, g, p, c⟩ := Sl.put' i s (by simpa using h)
    exact ⟨f1, f, f2, e, fun t q => by simpa using g t (by simpa using q), fun H' S' ρ' v' t' f' k r => .no (p H' S' ρ' v' t' f' k r), .no c⟩
  | _, _, _, _, i + 1, .on (f := f0) r0 s, h => by
    obtain ⟨f1, f, f2, e, g, p, c⟩ := Sl.put' i s (by simpa using h)
    refine ⟨f0 ++ f1, f, f2, by rw [e, List.append_assoc], fun t q => by simpa using g t (by simpa using q), fun H' S' ρ' v' t' f' k r => ?_, ?_⟩
    · have q := Sl.on (k _ _ _ _ (fun a z => .inl (by simp [z])) r0) (p H' S' ρ' v' t' f' (fun ρ v t g hg => k ρ v t g fun a z => (hg a z).imp (fun y => by simp [y]) id) r)
      rw [← List.append_assoc] at q
      exact q
    · rw [List.append_assoc]
      exact .on r0 c
/-- arguments: shared things, and owned ones by the slot that holds them -/
inductive Ag (K : PySem.W.Frag) (H : Hp) (S : Addr → Prop) (σ : L2.St) : List (Option Nat) → List V → List T → Prop
  | nil : Ag K H S σ [] [] []
  | sh {v : V} {t : T} {ms : List (Option Nat)} {vs : List V} {ts : List T} : Rp K H S .sh v t [] → Ag K H S σ ms vs ts → Ag K H S σ (none :: ms) (v :: vs) (t :: ts)
  | mu {j : Nat} {v : V} {ms : List (Option Nat)} {vs : List V} {ts : List T} : σ[j]? = some (some v) → Ag K H S σ ms vs ts → Ag K H S σ (some j :: ms) (v :: vs) (.non :: ts)
section
variable {K : PySem.W.Frag} {H H' : Hp} {S S' : Addr → Prop} {σ : L2.St}
theorem Ag.fm {own : Addr → Prop} (F : Fm own H H' S S') : ∀ {ms : List (Option Nat)} {vs : List V} {ts : List T}, Ag K H S σ ms vs ts → Ag K H' S' σ ms vs ts
  | _, _, _, .nil => .nil
  | _, _, _, .sh r a => .sh (r.fm F fun a z => absurd z (by simp)) (Ag.fm F a)
  | _, _, _, .mu h a => .mu h (Ag.fm F a)
theorem Ag.len : ∀ {ms : List (Option Nat)} {vs : List V} {ts : List T}, Ag K H S σ ms vs ts → vs.length = ms.length ∧ ts.length = ms.length
  | _, _, _, .nil => ⟨rfl, rfl⟩
  | _, _, _, .sh r a => ⟨by simp [Ag.len a], by simp [Ag.len a]⟩
  | _, _, _, .mu h a => ⟨by simp [Ag.len a], by simp [Ag.len a]⟩
theorem Ag.app : ∀ {ms ns : List (Option Nat)} {vs ws : List V} {ts us : List T}, Ag K H S σ ms vs ts → Ag K H S σ ns ws us → Ag K H S σ (ms ++ ns) (vs ++ ws) (ts ++ us)
  | _, _, _, _, _, _, .nil, b => b
  | _, _, _, _, _, _, .sh r a, b => .sh r (Ag.app a b)
  | _, _, _, _, _, _, .mu h a, b => .mu h (Ag.app a b)
end
/-- the holes filled by the slots as they stand -/
def fill : List (Option Nat) → Env → List T → Option (List T)
  | [], _, [] => some []
  | none :: ms, E, t :: ts => (fill ms E ts).map fun us => t :: us
  | some j :: ms, E, _ :: ts => (vr j E).bind fun u => (fill ms E ts).map fun us => u :: us
  | _, _, _ => none
/-- the parameters' ownership -/
def gam : List (Option Nat) → List Ow → List Ow
  | [], _ => []
  | none :: ms, Γ => .sh :: gam ms Γ
  | some j :: ms, Γ => (Γ[j]?).getD .sh :: gam ms Γ
/-- at most one owned thing is handed over: its slot -/
def hole : List (Option Nat) → Option Nat
  | [] => none
  | none :: ms => hole ms
  | some j :: _ => some j
def oneHole : List (Option Nat) → Bool
  | [] => true
  | none :: ms => oneHole ms
  | some _ :: ms => ms.all (·.isNone)
/-- what came back for the hole -/
def back : List (Option Nat) → List T → Option T
  | none :: ms, _ :: ts => back ms ts
  | some _ :: _, t :: _ => some t
  | _, _ => none
/-- the slots behind the call -/
def put (ms : List (Option Nat)) (ts : List T) (E : Env) : Option Env := match hole ms with
  | none => some E
  | some j => (back ms ts).map fun t => E.set j (some t)
section
variable {K : PySem.W.Frag} {H H' : Hp} {S S' : Addr → Prop} {σ : L2.St} {E : Env} {fp : List Addr}
theorem Ag.sl0 {Γ : List Ow} : ∀ {ms : List (Option Nat)} {vs : List V} {ts ts2 : List T}, Ag K H S σ ms vs ts → ms.all (·.isNone) = true → fill ms E ts = some ts2 → ts2 = ts ∧ Sl K H S (gam ms Γ) (vs.map some) (ts.map some) []
  | _, _, _, _, .nil, _, e => by
    rw [fill] at e
    cases e
    exact ⟨rfl, .nil⟩
  | _, _, _, _, .sh r a, h, e => by
    rw [fill] at e
    obtain ⟨us, e1, e'⟩ := Option.map_eq_some_iff.mp e
    subst e'
    obtain ⟨x, y⟩ := Ag.sl0 a (by simpa using h) e1
    subst x
    exact ⟨rfl, .on (f := []) r y⟩
  | _, _, _, _, .mu _ _, h, _ => by simp at h
/-- no hole -/
theorem hole_none : ∀ {ms : List (Option Nat)}, ms.all (·.isNone) = true → hole ms = none
  | [], _ => rfl
  | none :: ms, h => hole_none (ms := ms) (by simpa using h)
  | some _ :: _, h => by simp at h
theorem none_hole : ∀ {ms : List (Option Nat)}, oneHole ms = true → hole ms = none → ms.all (·.isNone) = true
  | [], _, _ => rfl
  | none :: ms, h, e => by
    simp only [List.all_cons, Option.isNone_none, Bool.true_and]
    exact none_hole (ms := ms) h e
  | some _ :: _, _, e => by cases e
/-- one hole, at slot j -/
theorem Ag.sl1 {Γ : List Ow} : ∀ {ms : List (Option Nat)} {vs : List V} {ts ts2 : List T} {j : Nat} {ρ : Ow} {v : V} {t : T} {f : List Addr}, Ag K H S σ ms vs ts → oneHole ms = true → hole ms = some j → fill ms E ts = some ts2 → vr j E = some t → Γ[j]? = some ρ → σ[j]? = some (some v) → Rp K H S ρ v t f →
    Sl K H S (gam ms Γ) (vs.map some) (ts2.map some) f ∧ ∀ {H' : Hp} {S' : Addr → Prop} {ts3 : List T} {f' : List Addr}, Sl K H' S' (gam ms Γ) (vs.map some) (ts3.map some) f' → ∃ t' , back ms ts3 = some t' ∧ Rp K H' S' ρ v t' f'
  | _, _, _, _, j, ρ, v, t, f, .nil, _, h, _, _, _, _, _ => by cases h
  | _, _, _, _, j, ρ, v, t, f, .sh r a, ho, h, e, ej, hΓ, hσ, R => by
    rw [fill] at e
    obtain ⟨us, e1, e'⟩ := Option.map_eq_some_iff.mp e
    subst e'
    obtain ⟨x, y⟩ := Ag.sl1 (Γ := Γ) a ho h e1 ej hΓ hσ R
    refine ⟨.on (f := []) r x, fun {H' S' ts3 f'} s => ?_⟩
    cases ts3 with
    | nil => cases s
    | cons u ts3 =>
      cases s with
      | on r1 s1 =>
        have := r1.sh_nil
        subst this
        exact y s1
  | _, _, _, _, j, ρ, v, t, f, .mu (j := i) hv a, ho, h, e, ej, hΓ, hσ, R => by
    have hj : i = j := Option.some.inj h
    subst hj
    rw [hσ] at hv
    have hv := Option.some.inj (Option.some.inj hv)
    subst hv
    rw [fill, ej] at e
    obtain ⟨us, e1, e'⟩ := Option.map_eq_some_iff.mp e
    subst e'
    have ho' := (show List.all (α := Option Nat) _ (fun x => x.isNone) = true from ho)
    obtain ⟨x, y⟩ := Ag.sl0 (Γ := Γ) a ho' e1
    subst x
    have eg : (Γ[i]?).getD .sh = ρ := by rw [hΓ]; rfl
    refine ⟨?_, fun {H' S' ts3 f'} s => ?_⟩
    · have z := Sl.on R y
      rw [List.append_nil] at z
      show Sl K H S ((Γ[i]?).getD .sh :: gam _ Γ) _ _ f
      rw [eg]
      exact z
    · cases ts3 with
      | nil => cases s
      | cons u ts3 =>
        have s' : Sl K H' S' ((Γ[i]?).getD .sh :: gam _ Γ) _ (some u :: ts3.map some) f' := s
        rw [eg] at s'
        cases s' with
        | on r1 s1 =>
          rename_i f0 fs
          have nil : ∀ {ms : List (Option Nat)} {vs : List V} {ts : List T} {f : List Addr}, ms.all (·.isNone) = true → Sl K H' S' (gam ms Γ) (vs.map some) (ts.map some) f → f = [] := by
            intro ms
            induction ms with
            | nil =>
              intro vs ts f _ s
              have s2 : Sl K H' S' [] (vs.map some) (ts.map some) f := s
              generalize hx : vs.map some = xs at s2
              generalize hy : ts.map some = ys at s2
              cases s2
              rfl
            | cons m ms ih =>
              intro vs ts f h s
              cases m with
              | some _ => simp at h
              | none =>
                have s2 : Sl K H' S' (.sh :: gam ms Γ) (vs.map some) (ts.map some) f := s
                cases vs with
                | nil => cases s2
                | cons v vs =>
                  cases ts with
                  | nil => cases s2
                  | cons t ts =>
                    cases s2 with
                    | on r2 s3 => rw [r2.sh_nil, ih (by simpa using h) s3]; rfl
          have z := nil ho' s1
          subst z
          rw [List.append_nil]
          exact ⟨u, rfl, r1⟩
/-- the slots behind an exception of the callee: an owned thing that was handed over is lost -/
def lose (ms : List (Option Nat)) (E : Env) : Env := match hole ms with
  | none => E
  | some j => E.set j none
/-- what a call gives -/
def fcall (ms : List (Option Nat)) (F : List T → Option Rs) (ts : List T) : F0 T := fun E => match fill ms E ts with
  | none => none
  | some us => match F us with
    | none => none
    | some (.ok t us') => (put ms us' E).map fun E' => .ok t E'
    | some (.ex x) => some (.ex x (lose ms E))
theorem XAt.grow {x : Ex} {cls : Value} {d : Option Addr} (h : XAt K H S x cls d) (g : ∀ a, S a → S' a) : XAt K H S' x cls d := by
  refine ⟨h.1, ?_⟩
  have h2 := h.2
  cases hx : x.fld with
  | none => rw [hx] at h2; exact h2
  | some ft =>
    rw [hx] at h2
    obtain ⟨dx, v, h3, h4, h5⟩ := h2
    exact ⟨dx, v, h3, h4, h5.fm (Fm.grow g) fun _ _ z => z⟩
/-- what stood apart from the callee's things, all shared now -/
theorem Sl.toSh {f g : List Addr} (ev : Ev H S f H' S' []) (F : Fm (· ∈ f) H H' S S') (sT : (∀ a, S' a → ∃ o, H' a = some o ∧ ∀ ps, o ≠ .tbl ps) ∧ TbK K H') : ∀ {Γ : List Ow} {E : Env} {σ : L2.St}, Sl K H S Γ σ E g → (∀ a ∈ g, a ∉ f) → Good K H' (fun a => S' a ∨ a ∈ g) (allSh Γ) σ E [] := by
  intro Γ E σ s hg
  have s1 : Sl K H' S' Γ σ E g := s.fm F hg
  have all2 : ∀ {Γ : List Ow} {σ : L2.St} {E : Env} {h : List Addr}, Sl K H' S' Γ σ E h → (∀ a ∈ h, a ∈ g) → Sl K H' (fun a => S' a ∨ a ∈ g) (allSh Γ) σ E [] := by
    intro Γ σ E h s
    induction s with
    | nil => exact fun _ => .nil
    | no s ih => exact fun h => .no (ih h)
    | on r s ih => exact fun h => .on (f := []) (r.weak (fun _ h => .inl h) fun a z => .inr (h a (by simp [z]))) (ih fun a z => h a (by simp [z]))
  refine ⟨all2 s1 fun _ z => z, .nil, fun a z => absurd z (by simp), ⟨fun a z => z.elim (sT.1 a) fun y => ?_, sT.2⟩⟩
  obtain ⟨xs, e⟩ := s1.isl a y
  exact ⟨_, e, fun ps z => nomatch z⟩
def Pout (K : PySem.W.Frag) (p : Bool) (H : Hp) (S : Addr → Prop) (fp : List Addr) (E : Env) (Γ Γ' : List Ow) (σ : L2.St) (ρ : Ow) (W : WX) (Q : VK) : Out T → Prop
  | .ok t E' => Pok (V' := V) K p H S fp E Γ' σ ρ t E' Q
  | .ex x E' => Pex K H S fp Γ σ x E' W
/-- the heart of a call -/
theorem call_fin {W : WX} {Γ Γ0 : List Ow} {p : Bool} {S0 : Addr → Prop} {H0 : Hp} {fp0 : List Addr} {E0 : Env} {ms : List (Option Nat)} {vs : List V} {ts : List T} {F : List T → Option Rs} {ρr : Ow} {r : Out T} {Q : VK}
    (G : Good K H S Γ σ E fp) (A : Ag K H S σ ms vs ts) (ho : oneHole ms = true) (hh : ∀ j, hole ms = some j → ∃ ρ, Γ[j]? = some ρ) (ev : Ev H0 S0 fp0 H S fp) (pp : p = true → E = E0 ∧ Kept H0 H) (e : fcall ms F ts E = some r) (hΓ : allSh Γ = allSh Γ0)
    (q : Pout K (p && (hole ms).isNone) H0 S0 fp0 E0 Γ0 Γ σ ρr W Q r) : spG K (gam ms Γ) ρr F vs H Q fun cls d H' => W cls d σ H' := by
  unfold fcall at e
  cases ef : fill ms E ts with
  | none => rw [ef] at e; cases e
  | some us =>
    rw [ef] at e
    simp only at e
    cases eF : F us with
    | none => rw [eF] at e; cases e
    | some rs =>
      rw [eF] at e
      cases eh : hole ms with
      | none =>
        have all := none_hole ho eh
        obtain ⟨x, sl⟩ := Ag.sl0 (Γ := Γ) A all ef
        subst x
        refine ⟨S, us, [], rs, ⟨sl, .nil, fun a z => by simp at z, G.sT⟩, eF, ?_⟩
        cases rs with
        | ex x =>
          have e' : r = .ex x E := by
            have e2 := (Option.some.inj e).symm
            rw [e2, lose, eh]
          subst e'
          intro cls d H' S' xa ev2 sT
          have G3 := Sl.toSh (K := K) ev2 (ev2.fm (fun a z => absurd z (by simp)) fun a z => absurd z (by simp)) sT G.sl fun a _ z => by simp at z
          refine q cls d H' _ [] (hΓ ▸ G3) (xa.grow fun a h => .inl h) (ev.trans ?_)
          refine ⟨fun a o e n t => ev2.keep a o e (by simp) t, ev2.dom, fun a h => .inl (ev2.mono a h), fun a h => ?_, fun a h => absurd h (by simp)⟩
          rcases h with h | h
          · exact (ev2.shr a h).imp id fun z => z.elim (fun y => absurd y (by simp)) .inr
          · exact .inr (.inl h)
        | ok t us' =>
          simp only [put, eh, Option.map_some] at e
          have e' : r = .ok t E := (Option.some.inj e).symm
          subst e'
          intro v H' S' f' fr G' R nd s ev2
          have k : Kept H H' := ev2.kept
          obtain ⟨n1, n2, n3⟩ := nd_app nd
          have fresh : ∀ a ∈ fr, H a = none := fun a z => (ev2.own a (by simp [z])).elim (fun y => absurd y (by simp)) id
          have G4 : Good K H' S' Γ σ E fp := by
            refine ⟨G.sl.fm (own := fun _ => False) ⟨fun a o e _ t => k a o e t, ev2.mono, fun _ _ z => z, fun _ z => z.elim⟩ fun _ _ z => z, G.nd, fun a z y => ?_, G'.sT⟩
            obtain ⟨xs, e⟩ := G.isl a z
            rcases ev2.shr a y with h | h | h
            · exact G.nS a z h
            · exact absurd h (by simp)
            · exact absurd (h.symm.trans e) (by simp)
          refine q v H' S' fp fr G4 R (nd_mk n1 G.nd fun a z y => (G.free (fresh a z)).1 y) s (ev.trans ?_) fun z => ?_
          · refine ⟨fun a o e n t => ev2.keep a o e (by simp) t, ev2.dom, ev2.mono, fun a h => (ev2.shr a h).imp id fun z => z.elim (fun y => absurd y (by simp)) .inr, fun a h => ?_⟩
            exact (List.mem_append.mp h).elim (fun y => .inr (fresh a y)) .inl
          · obtain ⟨a1, _⟩ := Bool.and_eq_true_iff.mp z
            exact ⟨(pp a1).1, (pp a1).2.trans k⟩
      | some j =>
        -- the slot's thing goes along
        have vrj : ∃ t0, vr j E = some t0 := by
          have aux : ∀ {ms : List (Option Nat)} {ts us : List T}, hole ms = some j → fill ms E ts = some us → ∃ t0, vr j E = some t0 := by
            intro ms
            induction ms with
            | nil => intro ts us h _; cases h
            | cons m ms ih =>
              intro ts us h e
              cases m with
              | none =>
                cases ts with
                | nil => cases e
                | cons t ts =>
                  rw [fill] at e
                  obtain ⟨us', e1, _⟩ := Option.map_eq_some_iff.mp e
                  exact ih h e1
              | some i =>
                have hi : i = j := Option.some.inj h
                subst hi
                cases ts with
                | nil => cases e
                | cons t ts =>
                  rw [fill] at e
                  obtain ⟨t0, e1, _⟩ := Option.bind_eq_some_iff.mp e
                  exact ⟨t0, e1⟩
          exact aux eh ef
        obtain ⟨t0, e0⟩ := vrj
        obtain ⟨ρ, hρ⟩ := hh j eh
        have hj := vr_some e0
        have hi : j < E.length := (List.getElem?_eq_some_iff.mp hj).1
        obtain ⟨f1, f, f2, efp, gt, pt, cl⟩ := G.sl.put' j hi
        obtain ⟨ρ', v0, h1, h2, h3⟩ := gt _ hj
        rw [hρ] at h1
        cases h1
        obtain ⟨sl, bk⟩ := Ag.sl1 (Γ := Γ) A ho eh ef e0 hρ h2 h3
        have nd0 := G.nd
        rw [efp] at nd0
        obtain ⟨m1, m2, m3⟩ := nd_app nd0
        obtain ⟨m4, m5, m6⟩ := nd_app m2
        have inf : ∀ a ∈ f, a ∈ fp := fun a z => by rw [efp]; simp [z]
        have in12 : ∀ a, a ∈ f1 ∨ a ∈ f2 → a ∈ fp ∧ a ∉ f := fun a z => by
          rw [efp]
          rcases z with z | z
          · exact ⟨by simp [z], fun y => m3 a z (by simp [y])⟩
          · exact ⟨by simp [z], fun y => m6 a y z⟩
        have nSf : ∀ a ∈ f, ¬ S a := fun a z => G.nS a (inf a z)
        refine ⟨S, us, f, rs, ⟨sl, m4, nSf, G.sT⟩, eF, ?_⟩
        have islf : ∀ a ∈ f, ∃ xs, H a = some (.lst xs) := h3.isl
        cases rs with
        | ex x =>
          have e' : r = .ex x (E.set j none) := by
            have e2 := (Option.some.inj e).symm
            rw [e2, lose, eh]
          subst e'
          intro cls d H' S' xa ev2 sT
          have G3 := Sl.toSh (K := K) ev2 (ev2.fm nSf islf) sT cl fun a z => (in12 a (List.mem_append.mp z)).2
          refine q cls d H' _ [] (hΓ ▸ G3) (xa.grow fun a h => .inl h) (ev.trans ?_)
          refine ⟨fun a o e n t => ev2.keep a o e (fun z => n (inf a z)) t, ev2.dom, fun a h => .inl (ev2.mono a h), fun a h => ?_, fun a h => absurd h (by simp)⟩
          rcases h with h | h
          · exact (ev2.shr a h).imp id fun z => z.imp (inf a) id
          · exact .inr (.inl (in12 a (List.mem_append.mp h)).1)
        | ok t us' =>
          simp only [put, eh] at e
          cases eb : back ms us' with
          | none => rw [eb] at e; cases e
          | some tb =>
            rw [eb] at e
            have e' : r = .ok t (E.set j (some tb)) := (Option.some.inj e).symm
            subst e'
            intro v H' S' f' fr G' R nd s ev2
            obtain ⟨t', e1, R'⟩ := bk G'.sl
            rw [eb] at e1
            cases e1
            obtain ⟨n1, n2, n3⟩ := nd_app nd
            have F := ev2.fm nSf islf
            have sl2 := pt H' S' ρ v0 tb f' (fun ρ v t g hg r => r.fm F fun a z => (in12 a (hg a z)).2) R'
            have eσ : σ.set j (some v0) = σ := by
              apply List.ext_getElem?
              intro i
              by_cases hj : j = i
              · subst hj
                rw [h2, List.getElem?_set_self (List.getElem?_eq_some_iff.mp h2).1]
              · rw [List.getElem?_set_ne hj]
            have eΓ : Γ.set j ρ = Γ := by
              apply List.ext_getElem?
              intro i
              by_cases hj : j = i
              · subst hj
                rw [hρ, List.getElem?_set_self (List.getElem?_eq_some_iff.mp hρ).1]
              · rw [List.getElem?_set_ne hj]
            rw [eσ, eΓ] at sl2
            -- f1, f2 stand apart from what came
            have ap : ∀ a, a ∈ f1 ∨ a ∈ f2 → a ∉ fr ++ f' ∧ ¬ S' a := fun a z => by
              obtain ⟨xs, ex⟩ := G.isl a (in12 a z).1
              exact ev2.apart ex (in12 a z).2 (G.nS a (in12 a z).1)
            have G4 : Good K H' S' Γ σ (E.set j (some tb)) (f1 ++ (f' ++ f2)) := by
              refine ⟨sl2, nd_mk m1 (nd_mk n2 m5 fun a z y => (ap a (.inr y)).1 (by simp [z])) fun a z y => ?_, fun a z => ?_, G'.sT⟩
              · rcases List.mem_append.mp y with y | y
                · exact (ap a (.inl z)).1 (by simp [y])
                · exact m3 a z (by simp [y])
              · rcases List.mem_append.mp z with z | z
                · exact (ap a (.inl z)).2
                · exact (List.mem_append.mp z).elim (G'.nS a) fun y => (ap a (.inr y)).2
            refine q v H' S' _ fr G4 R (nd_mk n1 G4.nd fun a z y => ?_) s (ev.trans ?_) fun z => ?_
            · rcases List.mem_append.mp y with y | y
              · exact (ap a (.inl y)).1 (by simp [z])
              · exact (List.mem_append.mp y).elim (n3 a z) fun y => (ap a (.inr y)).1 (by simp [z])
            · refine ⟨fun a o e n t => ev2.keep a o e (fun z => n (inf a z)) t, ev2.dom, ev2.mono, fun a h => (ev2.shr a h).imp id fun z => z.imp (inf a) id, fun a h => ?_⟩
              rcases List.mem_append.mp h with h | h
              · exact (ev2.own a (by simp [h])).imp (inf a) id
              · rcases List.mem_append.mp h with h | h
                · exact .inl (in12 a (.inl h)).1
                · rcases List.mem_append.mp h with h | h
                  · exact (ev2.own a (by simp [h])).imp (inf a) id
                  · exact .inl (in12 a (.inr h)).1
            · rw [eh] at z
              simp at z
end
end Tr

end
section
set_option maxHeartbeats 2000000
/-! TrA: the rules of calls. -/
namespace Tr
open PySem PySem.Spec PyProof.Rows L2
/-- arguments' reading -/
def tG (K : PySem.W.Frag) (W : WX) (p : Bool) (Γ : List Ow) (f : F0 (List T)) (ms : List (Option Nat)) (Γ' : List Ow) : TA := fun σ H Q =>
  ∃ S E fp r, Good K H S Γ σ E fp ∧ f E = some r ∧ match r with
    | .ok ts E' => ∀ vs H' S' fp', Good K H' S' Γ' σ E' fp' → Ev H S fp H' S' fp' → (p = true → E' = E ∧ Kept H H') → Ag K H' S' σ ms vs ts → Q vs H'
    | .ex x E' => Pex K H S fp Γ σ x E' W
def AG (X : Cx) (W : WX) (p : Bool) (Γ : List Ow) (es : List Expr) (f : F0 (List T)) (ms : List (Option Nat)) (Γ' : List Ow) : Prop := PA X es (tG X.K W p Γ f ms Γ')
def AK (X : Cx) (W : WX) (p : Bool) (Γ : List Ow) (es : List Keyword) (f : F0 (List T)) (ms : List (Option Nat)) (Γ' : List Ow) : Prop := PK X es (tG X.K W p Γ f ms Γ')
theorem pk_imp {X : Cx} {e : List Keyword} {t u : TA} (h : PK X e t) (k : ∀ σ H Q, u σ H Q → t σ H Q) : PK X e u := ⟨fun pos pins s σ H Q I q => h.run pos pins s σ H Q I (k σ H Q q)⟩
section
variable {X : Cx} {W : WX} {Γ Γ1 Γ2 Γ' : List Ow} {e : Expr} {es : List Expr} {kws : List Keyword} {pos p0 : Pos}
theorem tG_nil {K : PySem.W.Frag} {σ : L2.St} {H : Hp} {Q : List V → Hp → Prop} (q : tG K W true Γ (F0.pure []) [] Γ σ H Q) : Q [] H := by
  obtain ⟨S, E, fp, r, G, e, q⟩ := q
  have e' : r = .ok [] E := (Option.some.inj e).symm
  subst e'
  exact q [] H S fp G (Ev.refl fun _ z => z) (fun _ => ⟨rfl, Kept.refl H⟩) .nil
theorem ag_nil : AG X W true Γ [] (F0.pure []) [] Γ := pa_imp pa_nil fun σ H Q q => tG_nil q
theorem ak_nil : AK X W true Γ [] (F0.pure []) [] Γ := pk_imp pk_nil fun σ H Q q => tG_nil q
theorem tG_cons {K : PySem.W.Frag} {p1 p2 : Bool} {f : F0 T} {g : F0 (List T)} {ms : List (Option Nat)} {σ : L2.St} {H : Hp} {Q : List V → Hp → Prop} (hΓ : allSh Γ1 = allSh Γ)
    (q : tG K W (p1 && p2) Γ (F0.bind f fun a => F0.bind g fun b => F0.pure (a :: b)) (none :: ms) Γ2 σ H Q) : tS (V' := V) K W p1 Γ f .sh Γ1 σ H fun x H1 => tG K W p2 Γ1 g ms Γ2 σ H1 fun xs H2 => Q (x :: xs) H2 := by
  obtain ⟨S, E, fp, r, G, er, q⟩ := q
  unfold F0.bind at er
  cases e1 : f E with
  | none => rw [e1] at er; cases er
  | some r1 =>
    rw [e1] at er
    refine ⟨S, E, fp, r1, G, e1, ?_⟩
    cases r1 with
    | ex x E1 =>
      have e' : r = .ex x E1 := (Option.some.inj er).symm
      subst e'
      exact q
    | ok a E1 =>
      intro v1 H1 S1 fp1 fr1 G1 R1 nd1 s1 ev1 pr1
      have z := R1.sh_nil
      subst z
      cases e2 : g E1 with
      | none => simp only [e2] at er; cases er
      | some r2 =>
        simp only [e2] at er
        refine ⟨S1, E1, fp1, r2, G1, e2, ?_⟩
        cases r2 with
        | ex x E2 =>
          have e' : r = .ex x E2 := (Option.some.inj er).symm
          subst e'
          exact fun cls d H' S' fp' G' xa ev' => q cls d H' S' fp' (hΓ ▸ G') xa (ev1.trans ev')
        | ok b E2 =>
          have e' : r = .ok (a :: b) E2 := (Option.some.inj er).symm
          subst e'
          intro vs H2 S2 fp2 G2 ev2 pr2 A
          refine q (v1 :: vs) H2 S2 fp2 G2 (ev1.trans ev2) (fun pp => ?_) (.sh (R1.fm (G1.fm ev2) fun a z => absurd z (by simp)) A)
          obtain ⟨a1, a2⟩ := Bool.and_eq_true_iff.mp pp
          obtain ⟨b1, b2⟩ := pr1 a1
          obtain ⟨c1, c2⟩ := pr2 a2
          exact ⟨c1.trans b1, b2.trans c2⟩
theorem ag_cons {p1 p2 : Bool} {f : F0 T} {g : F0 (List T)} {ms : List (Option Nat)} (h1 : SE X W p1 Γ e f .sh Γ1) (h2 : AG X W p2 Γ1 es g ms Γ2) (hΓ : allSh Γ1 = allSh Γ := by rfl) (hs : starEach (e :: es) X.env = (false, eval e X.env) :: starEach es X.env := by rfl) :
    AG X W (p1 && p2) Γ (e :: es) (F0.bind f fun a => F0.bind g fun b => F0.pure (a :: b)) (none :: ms) Γ2 := pa_imp (pa_cons h1 h2 hs) fun σ H Q q => tG_cons hΓ q
theorem ak_cons {nm : Str} {kpos : Pos} {p1 p2 : Bool} {f : F0 T} {g : F0 (List T)} {ms : List (Option Nat)} (h1 : SE X W p1 Γ e f .sh Γ1) (h2 : AK X W p2 Γ1 kws g ms Γ2) (hΓ : allSh Γ1 = allSh Γ := by rfl) :
    AK X W (p1 && p2) Γ (⟨nm, e, kpos⟩ :: kws) (F0.bind f fun a => F0.bind g fun b => F0.pure (a :: b)) (none :: ms) Γ2 := by
  refine pk_imp (pk_cons h1 h2) fun σ H Q q => ?_
  have z := tG_cons (p1 := p1) (p2 := p2) hΓ q
  obtain ⟨S, E, fp, r, G, er, z⟩ := z
  refine ⟨S, E, fp, r, G, er, ?_⟩
  cases r with
  | ex x E' => exact z
  | ok t E' =>
    intro v H' S' fp' fr G' R nd s ev pp
    exact z v H' S' fp' fr G' R nd s ev pp
/-- an owned thing is handed over by its name -/
theorem ag_mu (j : Nat) {x : Str} {p2 : Bool} {g : F0 (List T)} {ms : List (Option Nat)} (h2 : AG X W p2 Γ es g ms Γ2) (hN : X.N[j]? = some x := by rfl) (hv : Vis X.env.scope x := by first | exact Or.inl rfl | exact Or.inr (Or.inl rfl) | exact Or.inr (Or.inr rfl))
    (hd : (x == ("__debug__" : Str)) = false := by decide) (hcd : (x == ("__classdict__" : Str)) = false := by decide) (hs : starEach (.Name x pos :: es) X.env = (false, eval (.Name x pos) X.env) :: starEach es X.env := by rfl) :
    AG X W p2 Γ (.Name x pos :: es) (fun E => (vr j E).bind fun _ => (F0.bind g fun b => F0.pure (.non :: b)) E) (some j :: ms) Γ2 := by
  refine pa_imp (pa_cons (pe_var hN hv hd hcd) h2 hs) fun σ H Q ⟨S, E, fp, r, G, er, q⟩ => ?_
  obtain ⟨t, e1, er⟩ := Option.bind_eq_some_iff.mp er
  have hj := vr_some e1
  have hi : j < E.length := (List.getElem?_eq_some_iff.mp hj).1
  obtain ⟨f1, f, f2, efp, gt, pt⟩ := G.sl.put j hi
  obtain ⟨ρ', v, h1, h2, h3⟩ := gt _ hj
  refine ⟨v, h2, ?_⟩
  unfold F0.bind at er
  cases e2 : g E with
  | none => rw [e2] at er; cases er
  | some r2 =>
    rw [e2] at er
    refine ⟨S, E, fp, r2, G, e2, ?_⟩
    cases r2 with
    | ex x E2 =>
      have e' : r = .ex x E2 := (Option.some.inj er).symm
      subst e'
      exact q
    | ok b E2 =>
      have e' : r = .ok (.non :: b) E2 := (Option.some.inj er).symm
      subst e'
      exact fun vs H2 S2 fp2 G2 ev2 pr2 A => q (v :: vs) H2 S2 fp2 G2 ev2 pr2 (.mu h2 A)
/-- the arguments, then the call -/
theorem tG_call {K : PySem.W.Frag} {p : Bool} {f : F0 (List T)} {ms : List (Option Nat)} {Fs : List T → Option Rs} {ρr : Ow} {dvs : List V} {dts : List T} {σ : L2.St} {H : Hp} {Q : VK} (hD : Paired Sc dvs dts) (hΓ : allSh Γ1 = allSh Γ)
    (ho : oneHole (ms ++ dts.map fun _ => none) = true) (hh : ∀ j, hole (ms ++ dts.map fun _ => none) = some j → ∃ ρ, Γ1[j]? = some ρ)
    (q : tS (V' := V) K W (p && (hole (ms ++ dts.map fun _ => none)).isNone) Γ (F0.bind f fun ts => fcall (ms ++ dts.map fun _ => none) Fs (ts ++ dts)) ρr Γ1 σ H Q) :
    tG K W p Γ f ms Γ1 σ H fun vs H1 => spG K (gam (ms ++ dts.map fun _ => none) Γ1) ρr Fs (vs ++ dvs) H1 Q fun cls d H' => W cls d σ H' := by
  obtain ⟨S, E, fp, r, G, er, q⟩ := q
  unfold F0.bind at er
  cases e1 : f E with
  | none => rw [e1] at er; cases er
  | some r1 =>
    rw [e1] at er
    refine ⟨S, E, fp, r1, G, e1, ?_⟩
    cases r1 with
    | ex x E1 =>
      have e' : r = .ex x E1 := (Option.some.inj er).symm
      subst e'
      exact q
    | ok ts E1 =>
      intro vs H1 S1 fp1 G1 ev1 pr1 A
      have dA : ∀ {dvs : List V} {dts : List T}, Paired Sc dvs dts → Ag K H1 S1 σ (dts.map fun _ => none) dvs dts := by
        intro dvs dts h
        induction h with
        | nil => exact .nil
        | cons s _ ih => exact .sh s.rp ih
      refine call_fin G1 (A.app (dA hD)) ho hh ev1 pr1 er hΓ ?_
      cases r with
      | ok t E' => exact q
      | ex x E' => exact q
variable {k n : Nat} {f : Addr} {fd : FuncData} {ps ks : List Str} {Γp : List Ow} {ρr : Ow} {Fs : List T → Option Rs} {x : Str} {ds : List Value} {dvs : List V} {dts : List T} {ms : List (Option Nat)} {p : Bool} {fa : F0 (List T)}
/-- f(e, ..) -/
theorem se_fn (F : FnG X.prog X.w X.K X.mg X.base k f fd ps (spG X.K Γp ρr Fs)) (hg : X.A.guards = some []) (hr : Room k X.A) (tk : Takes X W) (hgl : Gl X x) (hm : X.mg x = some (.ref f)) (hk : PySem.W.keepIn X.K (.ref f) = true) (hb : Binds X.K fd ps ds) (hd : Vals dvs ds) (hD : Paired Sc dvs dts)
    (ha : AG X W p Γ (e :: es) fa ms Γ1) (hp : Γp = gam (ms ++ dts.map fun _ => none) Γ1 := by rfl) (ho : oneHole (ms ++ dts.map fun _ => none) = true := by rfl) (hh : ∀ j, hole (ms ++ dts.map fun _ => none) = some j → ∃ ρ, Γ1[j]? = some ρ := by first | exact (fun _ z => nomatch z) | exact (fun _ z => (Option.some.inj z) ▸ ⟨_, rfl⟩)) (hΓ : allSh Γ1 = allSh Γ := by rfl)
    (hdb : (x == ("__debug__" : Str)) = false := by decide) (he : starEach (e :: es) X.env = (false, eval e X.env) :: starEach es X.env := by rfl) (hpl : (backTo pos (starEach es X.env)).any (·.1) = false := by rfl) :
    SE X W (p && (hole (ms ++ dts.map fun _ => none)).isNone) Γ (.Call (.Name x p0) (e :: es) [] pos) (F0.bind fa fun ts => fcall (ms ++ dts.map fun _ => none) Fs (ts ++ dts)) ρr Γ1 := by
  subst hp
  refine ⟨fun pins s σ H Q I q => ?_⟩
  refine wpAny_Call_Name_kw (ld_glob I hgl hm ?_ hdb)
  refine PySem.W.callWith_K (h₀ := X.base) I.ok.mod.kin hk (thn (ha.run pos pins s σ H _ I (tG_call hD hΓ ho hh q)) fun us s1 ⟨vs, H1, I1, r, h⟩ => ⟨I1.kIn, ?_⟩) he hpl
  have r2 : Vals (vs ++ dvs) (us ++ ds) := r.append hd
  have hl : (us ++ ds).length = ps.length := r2.length.symm.trans (F.len _ _ _ _ h)
  exact runG (us := us) (kw := []) F hg hr tk I1 (hb s1 us I1.kIn hl) r2 h
/-- f() -/
theorem se_fn0 (F : FnG X.prog X.w X.K X.mg X.base k f fd ps (spG X.K Γp ρr Fs)) (hg : X.A.guards = some []) (hr : Room k X.A) (tk : Takes X W) (hgl : Gl X x) (hm : X.mg x = some (.ref f)) (hk : PySem.W.keepIn X.K (.ref f) = true) (hb : Binds X.K fd ps ds) (hd : Vals dvs ds) (hD : Paired Sc dvs dts)
    (hp : Γp = gam (dts.map fun _ => none) Γ := by rfl) (ho : oneHole (dts.map fun _ => none) = true := by rfl) (hh : ∀ j, hole (dts.map fun _ => none) = some j → ∃ ρ, Γ[j]? = some ρ := by exact (fun _ z => nomatch z))
    (hdb : (x == ("__debug__" : Str)) = false := by decide) : SE X W (true && (hole (dts.map fun _ => none)).isNone) Γ (.Call (.Name x p0) [] [] pos) (F0.bind (F0.pure []) fun ts => fcall (dts.map fun _ => none) Fs (ts ++ dts)) ρr Γ := by
  subst hp
  refine ⟨fun pins s σ H Q I q => ?_⟩
  refine wpAny_Call_Name_kw (ld_glob I hgl hm ?_ hdb)
  have h := tG_nil (tG_call (ms := []) (dvs := dvs) hD rfl ho hh q)
  have hl : ([] ++ ds).length = ps.length := hd.length.symm.trans (F.len _ _ _ _ h)
  exact PySem.W.callWith_K0 I.kIn hk (runG (us := []) (kw := []) F hg hr tk I (hb s [] I.kIn hl) hd h)

/-! ### keywords -/
/-- the parameters from the positional values, the keywords' values, the defaults -/
def pick {α : Type} (d : α) (perm : List Nat) (xs : List α) : List α := perm.map fun i => xs.getD i d
structure KwB (K : PySem.W.Frag) (fd : FuncData) (ps : List Str) (n : Nat) (ks : List Str) (ds : List Value) (perm : List Nat) : Prop where
  to : ∀ (s : Shared) (us ws : List Value), K.In s.heap → us.length = n → ws.length = ks.length → BindsTo s fd ⟨us, ks.zip ws⟩ (ps.zip (pick .none perm (us ++ (ws ++ ds))))
theorem pick_vals {perm : List Nat} {vs : List V} {us : List Value} (r : Vals vs us) : Vals (pick .non perm vs) (pick .none perm us) := by
  unfold pick
  induction perm with
  | nil => exact .nil
  | cons i perm ih =>
    refine .cons ?_ ih
    cases h : vs[i]? with
    | none =>
      have h2 := r.none_of h
      simp [List.getD, h, h2, L2.RelV]
    | some v =>
      obtain ⟨u, h2, h3⟩ := r.get h
      simp [List.getD, h, h2, h3]
/-- shared arguments, put in order -/
def fkw (perm : List Nat) (F : List T → Option Rs) (ts : List T) : F0 T := fcall (perm.map fun _ => none) F (pick .non perm ts)
theorem tG_kw {K : PySem.W.Frag} {p1 p2 : Bool} {Γ Γ1 Γ2 : List Ow} {f g : F0 (List T)} {ms1 ms2 : List (Option Nat)} {perm : List Nat} {σ : L2.St} {H : Hp} {Q : VK} (hD : Paired Sc dvs dts) (hΓ : allSh Γ1 = allSh Γ) (hΓ2 : allSh Γ2 = allSh Γ)
    (h1 : ms1.all (·.isNone) = true) (h2 : ms2.all (·.isNone) = true)
    (q : tS (V' := V) K W (p1 && p2) Γ (F0.bind f fun ts => F0.bind g fun us => fkw perm Fs (ts ++ (us ++ dts))) ρr Γ2 σ H Q) :
    tG K W p1 Γ f ms1 Γ1 σ H fun vs H1 => tG K W p2 Γ1 g ms2 Γ2 σ H1 fun zs H2 => vs.length = ms1.length ∧ zs.length = ms2.length ∧ spG K (gam (perm.map fun _ => none) Γ2) ρr Fs (pick .non perm (vs ++ (zs ++ dvs))) H2 Q fun cls d H' => W cls d σ H' := by
  obtain ⟨S, E, fp, r, G, er, q⟩ := q
  unfold F0.bind at er
  cases e1 : f E with
  | none => rw [e1] at er; cases er
  | some r1 =>
    rw [e1] at er
    refine ⟨S, E, fp, r1, G, e1, ?_⟩
    cases r1 with
    | ex x E1 =>
      have e' : r = .ex x E1 := (Option.some.inj er).symm
      subst e'
      exact q
    | ok ts E1 =>
      intro vs H1 S1 fp1 G1 ev1 pr1 A
      cases e2 : g E1 with
      | none => simp only [e2] at er; cases er
      | some r2 =>
        simp only [e2] at er
        refine ⟨S1, E1, fp1, r2, G1, e2, ?_⟩
        cases r2 with
        | ex x E2 =>
          have e' : r = .ex x E2 := (Option.some.inj er).symm
          subst e'
          exact fun cls d H' S' fp' G' xa ev' => q cls d H' S' fp' (hΓ ▸ G') xa (ev1.trans ev')
        | ok us E2 =>
          intro zs H2 S2 fp2 G2 ev2 pr2 B
          refine ⟨A.len.1, B.len.1, ?_⟩
          have toR : ∀ {ms : List (Option Nat)} {vs : List V} {ts : List T}, Ag K H2 S2 σ ms vs ts → ms.all (·.isNone) = true → RpA K H2 S2 .sh vs ts [] := by
            intro ms vs ts h
            induction h with
            | nil => exact fun _ => .nil
            | sh r _ ih => exact fun h => RpA.cons (f := []) (fs := []) r (ih (by simpa using h))
            | mu _ _ _ => exact fun h => by simp at h
          have dR : ∀ {dvs : List V} {dts : List T}, Paired Sc dvs dts → RpA K H2 S2 .sh dvs dts [] := by
            intro dvs dts h
            induction h with
            | nil => exact .nil
            | cons s _ ih => exact RpA.cons (f := []) (fs := []) s.rp ih
          have R : RpA K H2 S2 .sh (vs ++ (zs ++ dvs)) (ts ++ (us ++ dts)) [] := RpA.app (f := []) (g := []) (toR (A.fm (G1.fm ev2)) h1) (RpA.app (f := []) (g := []) (toR B h2) (dR hD))
          have pA : ∀ perm : List Nat, Ag K H2 S2 σ (perm.map fun _ => none) (pick .non perm (vs ++ (zs ++ dvs))) (pick .non perm (ts ++ (us ++ dts))) := by
            intro perm
            unfold pick
            induction perm with
            | nil => exact .nil
            | cons i perm ih =>
              refine .sh ?_ ih
              cases h : (ts ++ (us ++ dts))[i]? with
              | none =>
                have h2 : (vs ++ (zs ++ dvs))[i]? = none := by
                  rw [List.getElem?_eq_none_iff, R.len]
                  exact List.getElem?_eq_none_iff.mp h
                simp only [List.getD, h, h2, Option.getD_none]
                exact .non
              | some t =>
                obtain ⟨y, g, h2, h3, h4⟩ := R.get h
                have := h3.sh_nil
                subst this
                simp only [List.getD, h, h2, Option.getD_some]
                exact h3
          have holes : ∀ perm : List Nat, hole (perm.map fun _ => (none : Option Nat)) = none ∧ oneHole (perm.map fun _ => (none : Option Nat)) = true := by
            intro perm
            induction perm with
            | nil => exact ⟨rfl, rfl⟩
            | cons i perm ih => exact ih
          refine call_fin (p := p1 && p2) (E0 := E) (H0 := H) (S0 := S) (fp0 := fp) (Γ0 := Γ) G2 (pA perm) (holes perm).2 (fun j z => by rw [(holes perm).1] at z; cases z) (ev1.trans ev2) (fun pp => ?_) er hΓ2 ?_
          · obtain ⟨a1, a2⟩ := Bool.and_eq_true_iff.mp pp
            obtain ⟨b1, b2⟩ := pr1 a1
            obtain ⟨c1, c2⟩ := pr2 a2
            exact ⟨c1.trans b1, b2.trans c2⟩
          · rw [(holes perm).1]
            simp only [Option.isNone_none, Bool.and_true]
            cases r with
            | ok t E' => exact q
            | ex x E' => exact q
variable {ms2 : List (Option Nat)} {p1 p2 : Bool} {fk : F0 (List T)} {perm : List Nat}
/-- f(e, .., k = v, ..) -/
theorem se_fnk (F : FnG X.prog X.w X.K X.mg X.base k f fd ps (spG X.K Γp ρr Fs)) (hg : X.A.guards = some []) (hr : Room k X.A) (tk : Takes X W) (hgl : Gl X x) (hm : X.mg x = some (.ref f)) (hk : PySem.W.keepIn X.K (.ref f) = true) (hb : KwB X.K fd ps n ks ds perm) (hd : Vals dvs ds) (hD : Paired Sc dvs dts)
    (ha : AG X W p1 Γ (e :: es) fa ms Γ1) (hkw : AK X W p2 Γ1 kws fk ms2 Γ2) (hp : Γp = gam (perm.map fun _ => none) Γ2 := by rfl) (h1 : ms.all (·.isNone) = true := by rfl) (h2 : ms2.all (·.isNone) = true := by rfl) (l1 : ms.length = n := by rfl) (l2 : ms2.length = ks.length := by rfl) (hΓ : allSh Γ1 = allSh Γ := by rfl) (hΓ2 : allSh Γ2 = allSh Γ := by rfl)
    (hall : (backToKw pos (keywordEach kws X.env)).all (·.1.isSome) = true := by rfl) (hks : (backToKw pos (keywordEach kws X.env)).filterMap (·.1) = ks := by rfl)
    (hdb : (x == ("__debug__" : Str)) = false := by decide) (he : starEach (e :: es) X.env = (false, eval e X.env) :: starEach es X.env := by rfl)
    (hpl : ((backTo pos (starEach (e :: es) X.env)).any (·.1) || (backToKw pos (keywordEach kws X.env)).any (·.1.isNone)) = false := by rfl) :
    SE X W (p1 && p2) Γ (.Call (.Name x p0) (e :: es) kws pos) (F0.bind fa fun ts => F0.bind fk fun us => fkw perm Fs (ts ++ (us ++ dts))) ρr Γ2 := by
  subst hp
  refine ⟨fun pins s σ H Q I q => ?_⟩
  refine wpAny_Call_Name_kw (ld_glob I hgl hm ?_ hdb)
  refine PySem.W.callWith_KW (h₀ := X.base) I.ok.mod.kin hk hall (thn (ha.run pos pins s σ H _ I (tG_kw (dvs := dvs) hD hΓ hΓ2 h1 h2 q)) fun us s1 ⟨vs, H1, I1, r, h⟩ => ?_) hpl he
  refine thn (hkw.run pos pins s1 σ H1 _ I1 h) fun ws s2 ⟨zs, H2, I2, rz, e1, e2, h⟩ => ⟨I2.kIn, ?_⟩
  rw [hks]
  have l3 : us.length = n := r.length.symm.trans (e1.trans l1)
  have l4 : ws.length = ks.length := rz.length.symm.trans (e2.trans l2)
  exact runG (us := us) (kw := ks.zip ws) F hg hr tk I2 (hb.to s2 us ws I2.kIn l3 l4) (pick_vals (r.append (rz.append hd))) h
/-- f(k = v, ..) -/
theorem se_fnk0 (F : FnG X.prog X.w X.K X.mg X.base k f fd ps (spG X.K Γp ρr Fs)) (hg : X.A.guards = some []) (hr : Room k X.A) (tk : Takes X W) (hgl : Gl X x) (hm : X.mg x = some (.ref f)) (hk : PySem.W.keepIn X.K (.ref f) = true) (hb : KwB X.K fd ps 0 ks ds perm) (hd : Vals dvs ds) (hD : Paired Sc dvs dts)
    (hkw : AK X W p2 Γ kws fk ms2 Γ2) (hp : Γp = gam (perm.map fun _ => none) Γ2 := by rfl) (h2 : ms2.all (·.isNone) = true := by rfl) (l2 : ms2.length = ks.length := by rfl) (hΓ2 : allSh Γ2 = allSh Γ := by rfl)
    (hall : (backToKw pos (keywordEach kws X.env)).all (·.1.isSome) = true := by rfl) (hks : (backToKw pos (keywordEach kws X.env)).filterMap (·.1) = ks := by rfl)
    (hdb : (x == ("__debug__" : Str)) = false := by decide)
    (hpl : ((backTo pos (starEach [] X.env)).any (·.1) || (backToKw pos (keywordEach kws X.env)).any (·.1.isNone)) = false := by rfl) :
    SE X W (true && p2) Γ (.Call (.Name x p0) [] kws pos) (F0.bind (F0.pure []) fun ts => F0.bind fk fun us => fkw perm Fs (ts ++ (us ++ dts))) ρr Γ2 := by
  subst hp
  refine ⟨fun pins s σ H Q I q => ?_⟩
  refine wpAny_Call_Name_kw (ld_glob I hgl hm ?_ hdb)
  have h := tG_nil (tG_kw (p1 := true) (Γ1 := Γ) (ms1 := []) (dvs := dvs) hD rfl hΓ2 rfl h2 q)
  refine PySem.W.callWith_KW0 (h₀ := X.base) I.ok.mod.kin hk hall ?_ hpl
  refine thn (hkw.run pos pins s σ H _ I h) fun ws s2 ⟨zs, H2, I2, rz, e1, e2, h⟩ => ⟨I2.kIn, ?_⟩
  rw [hks]
  have l4 : ws.length = ks.length := rz.length.symm.trans (e2.trans l2)
  exact runG (us := []) (kw := ks.zip ws) F hg hr tk I2 (hb.to s2 [] ws I2.kIn rfl l4) (pick_vals (us := [] ++ (ws ++ ds)) (rz.append hd)) h
end
end Tr

end
section
set_option maxHeartbeats 2000000
/-! TrB: targets, what is walked, for and while. -/
namespace Tr
open PySem PySem.Spec PyProof.Rows L2
/-! ### targets -/
def tT1 (K : PySem.W.Frag) (M : List Nat) (Γ : List Ow) (g : T → Env → Option Env) (ρ : Ow) (Γ' : List Ow) : TG := fun v σ H Q =>
  ∃ S E fp t fr E', Good K H S Γ σ E fp ∧ Rp K H S ρ v t fr ∧ (fr ++ fp).Nodup ∧ (∀ a ∈ fr, ¬ S a) ∧ g t E = some E' ∧ ∀ σ' fp', Good K H S Γ' σ' E' fp' → (∀ a ∈ fp', a ∈ fr ++ fp) → Mk M σ σ' → Q σ' H
def tTs (K : PySem.W.Frag) (M : List Nat) (Γ : List Ow) (g : List T → Env → Option Env) (Γ' : List Ow) : TGs := fun vs σ H Q =>
  ∃ S E fp ts E', Good K H S Γ σ E fp ∧ RoA K H S .sh vs ts ∧ g ts E = some E' ∧ ∀ σ' fp', Good K H S Γ' σ' E' fp' → (∀ a ∈ fp', a ∈ fp) → Mk M σ σ' → Q σ' H
def TG1 (X : Cx) (M : List Nat) (Γ : List Ow) (tg : Expr) (g : T → Env → Option Env) (ρ : Ow) (Γ' : List Ow) : Prop := PG X tg (tT1 X.K M Γ g ρ Γ')
def TGL (X : Cx) (M : List Nat) (Γ : List Ow) (tg : List Expr) (g : List T → Env → Option Env) (Γ' : List Ow) : Prop := PGs X tg (tTs X.K M Γ g Γ')
theorem pg_imp {X : Cx} {e : Expr} {t u : TG} (h : PG X e t) (k : ∀ v σ H Q, u v σ H Q → t v σ H Q) : PG X e u := ⟨fun pins s σ H v w Q I r q => h.run pins s σ H v w Q I r (k v σ H Q q)⟩
theorem pgs_imp {X : Cx} {e : List Expr} {t u : TGs} (h : PGs X e t) (k : ∀ v σ H Q, u v σ H Q → t v σ H Q) : PGs X e u := ⟨fun pins s σ H v w Q I r q => h.run pins s σ H v w Q I r (k v σ H Q q)⟩
def gset (i : Nat) (t : T) (E : Env) : Option Env := some (E.set i (some t))
section
variable {X : Cx} {W : WX} {M : List Nat} {Γ Γ1 Γ2 Γ' : List Ow} {e : Expr} {es : List Expr} {pos : Pos}
theorem Mk.set {M : List Nat} {i : Nat} (h : M.contains i = false) (σ : L2.St) (v : Option V) : Mk M σ (σ.set i v) := fun j hj => by
  by_cases e : i = j
  · subst e
    rw [List.contains_iff_mem.mpr hj] at h
    cases h
  · rw [List.getElem?_set_ne e]
theorem tg_name (i : Nat) {x : Str} {ρ : Ow} (hN : X.N.Nodup) (hi : X.N[i]? = some x := by rfl) (hx : Loc X.env.scope x := by first | exact Or.inl rfl | exact Or.inr rfl) (hM : M.contains i = false := by rfl)
    (hf : X.fn x = true ∨ X.env.scope.names.lookup x = some .local := by first | exact .inl rfl | exact .inr rfl) : TG1 X M Γ (.Name x pos) (gset i) ρ (Γ.set i ρ) := by
  refine pg_imp (pg_name hN hi hx hf) fun v σ H Q ⟨S, E, fp, t, fr, E', G, R, nd, s, e, q⟩ => ?_
  cases e
  obtain ⟨fp2, G2, sub⟩ := G.set i R nd s
  exact q _ fp2 G2 sub (Mk.set hM σ _)
def gnil (ts : List T) (E : Env) : Option Env := match ts with
  | [] => some E
  | _ => none
def gcons (g : T → Env → Option Env) (h : List T → Env → Option Env) (ts : List T) (E : Env) : Option Env := match ts with
  | t :: ts => (g t E).bind (h ts)
  | [] => none
theorem tg_nil : TGL X M Γ [] gnil Γ := by
  refine pgs_imp pgs_nil fun v σ H Q ⟨S, E, fp, ts, E', G, R, e, q⟩ => ?_
  cases R with
  | nil =>
    cases e
    exact ⟨rfl, q σ fp G (fun _ z => z) (Mk.refl _ _)⟩
  | cons _ _ => cases e
theorem tg_cons {g : T → Env → Option Env} {h : List T → Env → Option Env} (h1 : TG1 X M Γ e g .sh Γ1) (h2 : TGL X M Γ1 es h Γ2)
    (hs : ∀ vs, assignEach (e :: es) X.env = (vs, assign e X.env) :: assignEach es X.env → True := by intros; trivial) (hp : PGs X (e :: es) (gCons (tT1 X.K M Γ g .sh Γ1) (tTs X.K M Γ1 h Γ2))) : TGL X M Γ (e :: es) (gcons g h) Γ2 := by
  refine pgs_imp hp fun v σ H Q ⟨S, E, fp, ts, E', G, R, e, q⟩ => ?_
  cases R with
  | nil => cases e
  | cons r rs =>
    obtain ⟨E1, e1, e2⟩ := Option.bind_eq_some_iff.mp e
    refine ⟨_, _, rfl, S, E, fp, _, [], E1, G, r.rp, G.nd, fun a z => by simp at z, e1, fun σ1 fp1 G1 sub1 m1 => ?_⟩
    exact ⟨S, E1, fp1, _, E', G1, rs, e2, fun σ2 fp2 G2 sub2 m2 => q σ2 fp2 G2 (fun a z => by simpa using sub1 a (sub2 a z)) (m1.trans m2)⟩
/-- a tuple unpacked -/
def gtup (n : Nat) (g : List T → Env → Option Env) (t : T) (E : Env) : Option Env := match t with
  | .tup ts => if ts.length = n then g ts E else none
  | _ => none
theorem tg_tup {g : List T → Env → Option Env} {n : Nat} {ρ : Ow} {tg : Expr} (hp : ∀ {t : TGs}, PGs X es t → PG X tg (gTup X.K n t)) (h : TGL X M Γ es g Γ') : TG1 X M Γ tg (gtup n g) ρ Γ' := by
  refine pg_imp (hp h) fun v σ H Q ⟨S, E, fp, t, fr, E', G, R, nd, s, e, q⟩ => ?_
  cases R with
  | tup h r =>
    simp only [gtup] at e
    split at e
    · rename_i hn
      exact ⟨_, _, rfl, h, by rw [r.len]; exact hn, S, E, fp, _, E', G, r.ro, e, fun σ' fp' G' sub m => q σ' fp' G' (fun a z => List.mem_append_right _ (sub a z)) m⟩
    · cases e
  | _ => cases e
end

/-! ### what is walked -/
/-- what stood in H0 stays -/
def KO (H0 H H' : Hp) : Prop := ∀ a o, H0 a ≠ none → H a = some o → (∀ ps, o ≠ .tbl ps) → H' a = some o
/-- J walks ts; Hd i H S fr: what is in hand ahead of turn i -/
structure Wk (K : PySem.W.Frag) (H0 : Hp) (b : Bool) (J : It) (ts : List T) (ρ : Ow) (Hd : Nat → Hp → (Addr → Prop) → List Addr → Prop) : Prop where
  stable : ∀ {i : Nat} {H H' : Hp} {S S' own : Addr → Prop} {fr : List Addr}, Hd i H S fr → Fm own H H' S S' → (∀ a ∈ fr, ¬ own a) → (b = true → KO H0 H H') → Hd i H' S' fr
  isl : ∀ {i : Nat} {H : Hp} {S : Addr → Prop} {fr : List Addr}, Hd i H S fr → ∀ a ∈ fr, ∃ xs, H a = some (.lst xs)
  go : ∀ {i : Nat} {H : Hp} {S : Addr → Prop} {fr : List Addr}, i < ts.length → Hd i H S fr → J.go i H
  stop : ∀ {H : Hp} {S : Addr → Prop} {fr : List Addr}, Hd ts.length H S fr → J.stop ts.length H
  yld : ∀ {i : Nat} {H H' : Hp} {S : Addr → Prop} {fr : List Addr} {x : V} {t : T}, ts[i]? = some t → Hd i H S fr → J.yld i H x H' → ∃ f1 f2, Rp K H' S ρ x t f1 ∧ Hd (i + 1) H' S f2 ∧ (∀ a ∈ f1 ++ f2, a ∈ fr) ∧ (fr.Nodup → (f1 ++ f2).Nodup) ∧ Kept H H' ∧ (∀ a, H' a = none → H a = none) ∧ (TbK K H → TbK K H')
def tI (K : PySem.W.Frag) (W : WX) (b p : Bool) (Γ : List Ow) (f : F0 (List T)) (ρ : Ow) (Γ' : List Ow) : TI := fun σ H R =>
  ∃ S E fp r, Good K H S Γ σ E fp ∧ f E = some r ∧ match r with
    | .ok ts E' => ∀ J H' S' fp' fr Hd, Good K H' S' Γ' σ E' fp' → Wk K H' b J ts ρ Hd → Hd 0 H' S' fr → (fr ++ fp').Nodup → (∀ a ∈ fr, ¬ S' a) → Ev H S fp H' S' (fr ++ fp') → (p = true → E' = E ∧ Kept H H') → R J H'
    | .ex x E' => Pex K H S fp Γ σ x E' W
def SI (X : Cx) (W : WX) (b p : Bool) (Γ : List Ow) (tg iter : Expr) (f : F0 (List T)) (ρ : Ow) (Γ' : List Ow) : Prop := PI X tg iter (tI X.K W b p Γ f ρ Γ')
theorem pi_imp {X : Cx} {tg e : Expr} {t u : TI} (h : PI X tg e t) (k : ∀ σ H Q, u σ H Q → t σ H Q) : PI X tg e u := ⟨fun pins s σ H Q I q => h.run pins s σ H Q I (k σ H Q q)⟩

/-! ### for -/
def ffor (g : T → Env → Option Env) (b : S0) : List T → S0
  | [], E => some (.nx E)
  | t :: ts, E => match g t E with
    | none => none
    | some E1 => match b E1 with
      | some (.nx E2) => ffor g b ts E2
      | some (.ct E2) => ffor g b ts E2
      | some (.bk E2) => some (.nx E2)
      | r => r
/-- behind what is walked -/
def afI (f : F0 (List T)) (k : List T → S0) : S0 := fun E => match f E with
  | none => none
  | some (.ok ts E') => k ts E'
  | some (.ex x E') => some (.ex x E')
section
variable {X : Cx} {W : WX} {C : Cf} {Γ Γ1 Γl Γt Γe Γ' : List Ow} {tg iter c : Expr} {body : List Stmt} {pos : Pos}
theorem ss_for {p : Bool} {f : F0 (List T)} {ρ : Ow} {g : T → Env → Option Env} {b : S0} (hp : PassesOwn (model X.prog X.w) X.A X.env X.xe) (hc : X.calm = true) (hi : SI X W false p Γ tg iter f ρ Γ1) (hl : leq Γ1 Γl = true) (hg : TG1 X C.M Γl tg g ρ Γt)
    (hb : SSs X W { C with Γl := Γl } Γt body b Γe) (he : leq Γe Γl = true) (hΓ : allSh Γ1 = allSh Γ := by rfl) (hΓt : allSh Γt = allSh Γl := by rfl) (hs : ∀ x, foldedSetIterable iter X.env x = pure x := by intro _; rfl) :
    SS X W C Γ (.For tg iter body [] pos) (afI f (ffor g b)) Γl := by
  refine ps_imp (ps_for hp hc hi hg hb hs) fun D σ0 H0 ⟨S0, E0, fp0, r, G0, er, q⟩ => ?_
  unfold afI at er
  cases e1 : f E0 with
  | none => rw [e1] at er; cases er
  | some r1 =>
    rw [e1] at er
    refine ⟨S0, E0, fp0, r1, G0, e1, ?_⟩
    cases r1 with
    | ex x E1 =>
      have e' : r = .ex x E1 := (Option.some.inj er).symm
      subst e'
      exact fun cls d H' S' fp' G' xa ev => q cls d σ0 H' S' fp' G' xa ev
    | ok ts E1 =>
      intro J H1 S1 fp1 fr1 Hd G1 wk h1 nd1 s1 ev1 _
      -- the invariant: what is left to be walked gives r
      refine ⟨fun i m σ H => ∃ S E fp fr, Good X.K H S Γl σ E fp ∧ Hd i H S fr ∧ (fr ++ fp).Nodup ∧ (∀ a ∈ fr, ¬ S a) ∧ Ev H0 S0 fp0 H S (fr ++ fp) ∧ Mk C.M σ0 σ ∧ i ≤ ts.length ∧ m = ts.length - i ∧ ffor g b (ts.drop i) E = some r, ?_, ?_⟩
      · obtain ⟨S2, fp2, G2, ev2, sub2, hS2⟩ := G1.weak hl
        obtain ⟨n1, n2, n3⟩ := nd_app nd1
        have ap : ∀ a ∈ fr1, a ∉ fp2 ∧ ¬ S2 a := fun a z => ev2.apart (wk.isl h1 a z).choose_spec (n3 a z) (s1 a z)
        exact ⟨_, S2, E1, fp2, fr1, G2, wk.stable h1 (G1.fm ev2) n3 (fun z => by cases z), nd_mk n1 G2.nd fun a z => (ap a z).1, fun a z => (ap a z).2, ev1.trans (ev2.add fr1), Mk.refl _ _, Nat.zero_le _, rfl, er⟩
      · rintro i m σ H ⟨S, E, fp, fr, G, h, nd, s, ev, mk, hi, hm, er⟩
        by_cases hlt : i < ts.length
        · have ht : ts[i]? = some ts[i] := List.getElem?_eq_getElem hlt
          rw [List.drop_eq_getElem_cons hlt, ffor] at er
          refine .inr ⟨wk.go hlt h, fun σ' H' => ∃ S E fp fr, Good X.K H' S Γl σ' E fp ∧ Hd (i + 1) H' S fr ∧ (fr ++ fp).Nodup ∧ (∀ a ∈ fr, ¬ S a) ∧ Ev H0 S0 fp0 H' S (fr ++ fp) ∧ Mk C.M σ0 σ' ∧ ffor g b (ts.drop (i + 1)) E = some r, ?_, ?_⟩
          · rintro σ' H' ⟨S', E', fp', fr', a1, a2, a3, a4, a5, a6, a7⟩
            exact ⟨ts.length - (i + 1), by omega, S', E', fp', fr', a1, a2, a3, a4, a5, a6, hlt, rfl, a7⟩
          · intro x H' y
            obtain ⟨f1, f2, R, h', sub, ndf, kp, dm, tt⟩ := wk.yld ht h y
            obtain ⟨n1, n2, n3⟩ := nd_app nd
            obtain ⟨k1, k2, k3⟩ := nd_app (ndf n1)
            have G' : Good X.K H' S Γl σ E fp := G.along kp tt
            have evk : Ev H S (fr ++ fp) H' S (f1 ++ (f2 ++ fp)) := by
              refine ⟨fun a o e _ t => kp a o e t, dm, fun _ h => h, fun _ h => .inl h, fun a z => .inl ?_⟩
              rcases List.mem_append.mp z with z | z
              · exact List.mem_append_left _ (sub a (by simp [z]))
              · exact (List.mem_append.mp z).elim (fun z => List.mem_append_left _ (sub a (by simp [z]))) fun z => List.mem_append_right _ z
            cases eg : g ts[i] E with
            | none => rw [eg] at er; cases er
            | some E1 =>
              rw [eg] at er
              dsimp only at er
              refine ⟨S, E, fp, ts[i], f1, E1, G', R, nd_mk k1 n2 fun a z => n3 a (sub a (by simp [z])), fun a z => s a (sub a (by simp [z])), eg, fun σ2 fp2 G2 sub2 m2 => ?_⟩
              have nd2 : (f2 ++ fp2).Nodup := nd_mk k2 G2.nd fun a z y => (List.mem_append.mp (sub2 a y)).elim (fun q => k3 a q z) (n3 a (sub a (by simp [z])))
              have s2 : ∀ a ∈ f2, ¬ S a := fun a z => s a (sub a (by simp [z]))
              have ev2 : Ev H0 S0 fp0 H' S (f2 ++ fp2) := (ev.trans evk).less fun a z => by
                rcases List.mem_append.mp z with z | z
                · simp [z]
                · have := sub2 a z
                  simp only [List.mem_append] at this ⊢
                  exact this.elim .inl fun y => .inr (.inr y)
              cases eb : b E1 with
              | none => rw [eb] at er; cases er
              | some fl =>
                rw [eb] at er
                refine ⟨S, E1, fp2, fl, G2, eb, ?_⟩
                -- behind the body
                have next : ∀ {E2 : Env}, ffor g b (ts.drop (i + 1)) E2 = some r → ∀ {Γx : List Ow}, leq Γx Γl = true → ∀ σ' H3 S3 fp3, Good X.K H3 S3 Γx σ' E2 fp3 → Ev H' S fp2 H3 S3 fp3 → Mk C.M σ2 σ' →
                    ∃ S E fp fr, Good X.K H3 S Γl σ' E fp ∧ Hd (i + 1) H3 S fr ∧ (fr ++ fp).Nodup ∧ (∀ a ∈ fr, ¬ S a) ∧ Ev H0 S0 fp0 H3 S (fr ++ fp) ∧ Mk C.M σ0 σ' ∧ ffor g b (ts.drop (i + 1)) E = some r := by
                  intro E2 e2 Γx hx σ' H3 S3 fp3 G3 ev3 m3
                  obtain ⟨S4, fp4, G4, ev4, sub4, hS4⟩ := G3.weak hx
                  obtain ⟨_, _, d2⟩ := nd_app nd2
                  have ev5 := ev3.trans ev4
                  have ap : ∀ a ∈ f2, a ∉ fp4 ∧ ¬ S4 a := fun a z => ev5.apart (wk.isl h' a z).choose_spec (d2 a z) (s2 a z)
                  exact ⟨S4, E2, fp4, f2, G4, wk.stable h' (G2.fm ev5) d2 (fun z => by cases z), nd_mk k2 G4.nd fun a z => (ap a z).1, fun a z => (ap a z).2, ev2.trans (ev5.add f2), (mk.trans m2).trans m3, e2⟩
                have evp : Ev H0 S0 fp0 H' S fp2 := ev2.less fun a z => List.mem_append_right _ z
                cases fl with
                | nx E2 => exact fun σ' H3 S3 fp3 G3 ev3 m3 => next er he σ' H3 S3 fp3 G3 ev3 m3
                | ct E2 => exact fun σ' H3 S3 fp3 G3 ev3 m3 => next er (by
                    have : ∀ Γ : List Ow, leq Γ Γ = true := by
                      intro Γ
                      induction Γ with
                      | nil => rfl
                      | cons a Γ ih => simp [leq, ih]
                    exact this Γl) σ' H3 S3 fp3 G3 ev3 m3
                | bk E2 =>
                  have e' : r = .nx E2 := (Option.some.inj er).symm
                  subst e'
                  exact fun σ' H3 S3 fp3 G3 ev3 m3 => q σ' H3 S3 fp3 G3 (evp.trans ev3) ((mk.trans m2).trans m3)
                | rt t E2 =>
                  have e' : r = .rt t E2 := (Option.some.inj er).symm
                  subst e'
                  exact fun v σ' H3 S3 fp3 fr3 G3 R3 nd3 s3 ev3 m3 => q v σ' H3 S3 fp3 fr3 G3 R3 nd3 s3 (evp.trans ev3) ((mk.trans m2).trans m3)
                | ex x E2 =>
                  have e' : r = .ex x E2 := (Option.some.inj er).symm
                  subst e'
                  exact fun cls d σ' H3 S3 fp3 G3 xa ev3 => q cls d σ' H3 S3 fp3 (hΓ ▸ (leq_allSh hl) ▸ hΓt ▸ G3) xa (evp.trans ev3)
        · have hi' : i = ts.length := by omega
          subst hi'
          rw [List.drop_length, ffor] at er
          have e' : r = .nx E := (Option.some.inj er).symm
          subst e'
          exact .inl ⟨wk.stop h, q σ H S fp G (ev.less fun a z => List.mem_append_right _ z) mk⟩
/-! ### while -/
def fwh (c : F0 Bool) (b : S0) : Nat → S0
  | 0, _ => none
  | n + 1, E => match c E with
    | some (.ok true E1) => match b E1 with
      | some (.nx E2) => fwh c b n E2
      | some (.ct E2) => fwh c b n E2
      | some (.bk E2) => some (.nx E2)
      | r => r
    | some (.ok false E1) => some (.nx E1)
    | some (.ex x E1) => some (.ex x E1)
    | none => none
theorem leq_refl : ∀ Γ : List Ow, leq Γ Γ = true
  | [] => rfl
  | a :: Γ => by simp [leq, leq_refl Γ]
theorem ss_while (n : Nat) {p : Bool} {t : F0 Bool} {b : S0} (hp : PassesOwn (model X.prog X.w) X.A X.env X.xe) (hl : leq Γ Γl = true) (hc : STt X W p Γl c t Γl) (hb : SSs X W { C with Γl := Γl } Γl body b Γe) (he : leq Γe Γl = true) : SS X W C Γ (.While c body [] pos) (fwh t b n) Γl := by
  refine ps_imp (ps_while hp hc hb) fun D σ0 H0 ⟨S0, E0, fp0, r, G0, er, q⟩ => ?_
  refine ⟨fun m σ H => ∃ S E fp, Good X.K H S Γl σ E fp ∧ Ev H0 S0 fp0 H S fp ∧ Mk C.M σ0 σ ∧ fwh t b m E = some r, ?_, ?_⟩
  · obtain ⟨S2, fp2, G2, ev2, _, _⟩ := G0.weak hl
    exact ⟨n, S2, E0, fp2, G2, ev2, Mk.refl _ _, er⟩
  · rintro m σ H ⟨S, E, fp, G, ev, mk, er⟩
    cases m with
    | zero => cases er
    | succ m =>
      rw [fwh] at er
      cases et : t E with
      | none => rw [et] at er; cases er
      | some rt =>
        rw [et] at er
        refine ⟨S, E, fp, rt, G, et, ?_⟩
        cases rt with
        | ex x E1 =>
          have e' : r = .ex x E1 := (Option.some.inj er).symm
          subst e'
          exact fun cls d H' S' fp' G' xa ev' => q cls d σ H' S' fp' ((leq_allSh hl) ▸ G') xa (ev.trans ev')
        | ok d E1 =>
          intro H1 S1 fp1 G1 ev1 _
          have ev01 := ev.trans ev1
          cases d with
          | false =>
            have e' : r = .nx E1 := (Option.some.inj er).symm
            subst e'
            exact q σ H1 S1 fp1 G1 ev01 mk
          | true =>
            rw [if_pos rfl]
            dsimp only at er
            refine ⟨fun σ' H' => ∃ S E fp, Good X.K H' S Γl σ' E fp ∧ Ev H0 S0 fp0 H' S fp ∧ Mk C.M σ0 σ' ∧ fwh t b m E = some r, fun σ' H' h => ⟨m, Nat.lt_succ_self m, h⟩, ?_⟩
            cases eb : b E1 with
            | none => rw [eb] at er; cases er
            | some fl =>
              rw [eb] at er
              refine ⟨S1, E1, fp1, fl, G1, eb, ?_⟩
              cases fl with
              | nx E2 =>
                intro σ' H3 S3 fp3 G3 ev3 m3
                obtain ⟨S4, fp4, G4, ev4, _, _⟩ := G3.weak he
                exact ⟨S4, E2, fp4, G4, ev01.trans (ev3.trans ev4), mk.trans m3, er⟩
              | ct E2 => exact fun σ' H3 S3 fp3 G3 ev3 m3 => ⟨S3, E2, fp3, G3, ev01.trans ev3, mk.trans m3, er⟩
              | bk E2 =>
                have e' : r = .nx E2 := (Option.some.inj er).symm
                subst e'
                exact fun σ' H3 S3 fp3 G3 ev3 m3 => q σ' H3 S3 fp3 G3 (ev01.trans ev3) (mk.trans m3)
              | rt t E2 =>
                have e' : r = .rt t E2 := (Option.some.inj er).symm
                subst e'
                exact fun v σ' H3 S3 fp3 fr3 G3 R3 nd3 s3 ev3 m3 => q v σ' H3 S3 fp3 fr3 G3 R3 nd3 s3 (ev01.trans ev3) (mk.trans m3)
              | ex x E2 =>
                have e' : r = .ex x E2 := (Option.some.inj er).symm
                subst e'
                exact fun cls d σ' H3 S3 fp3 G3 xa ev3 => q cls d σ' H3 S3 fp3 ((leq_allSh hl) ▸ G3) xa (ev01.trans ev3)
end
end Tr

end
section
set_option maxHeartbeats 2000000
/-! TrC: what may be walked. -/
namespace Tr
open PySem PySem.Spec PyProof.Rows L2
def T.lst? : T → Option (List T)
  | .lst xs => some xs
  | _ => none
/-- a list at a whose items are shared; borrowed (b): it stands while nothing changes -/
def LS (K : PySem.W.Frag) (b : Bool) (a : Addr) (xs : List V) (ts : List T) (H : Hp) (S : Addr → Prop) : Prop := (b = false → S a) ∧ H a = some (.lst xs) ∧ RoA K H S .sh xs ts
theorem LS.fm {K : PySem.W.Frag} {b : Bool} {a : Addr} {xs : List V} {ts : List T} {H H' : Hp} {S S' own : Addr → Prop} (h : LS K b a xs ts H S) (F : Fm own H H' S S') (k : b = true → ∀ o, H a = some o → (∀ ps, o ≠ .tbl ps) → H' a = some o) : LS K b a xs ts H' S' := by
  obtain ⟨h1, h2, h3⟩ := h
  refine ⟨fun z => F.sub a (h1 z), ?_, (h3.rp.fm F fun _ z => by simp at z).ro⟩
  cases b with
  | false => exact F.keep a _ h2 (F.nS a (h1 rfl)) (fun ps z => nomatch z)
  | true => exact k rfl _ h2 (fun ps z => nomatch z)
/-- a list operand -/
def tL (K : PySem.W.Frag) (W : WX) (b p : Bool) (Γ : List Ow) (f : F0 (List T)) (Γ' : List Ow) : TE := tR (fun H S v ts => ∃ a xs, v = .ref a ∧ LS K b a xs ts H S) K W b p Γ f Γ'
def LO (X : Cx) (W : WX) (b p : Bool) (Γ : List Ow) (e : Expr) (f : F0 (List T)) (Γ' : List Ow) : Prop := PE X e (tL X.K W b p Γ f Γ')
section
variable {X : Cx} {W : WX} {Γ Γ1 Γ2 Γ' : List Ow} {tg e e2 a : Expr} {es : List Expr} {pos p0 tpos : Pos}
theorem SE.lo {p : Bool} {f : F0 T} (h : SE X W p Γ e f .sh Γ') : LO X W false p Γ e (F0.bind f (lf T.lst?)) Γ' := by
  refine pe_imp h fun σ H Q ⟨S, E, fp, r, G, er, q⟩ => ?_
  unfold F0.bind at er
  cases e1 : f E with
  | none => rw [e1] at er; cases er
  | some r1 =>
    rw [e1] at er
    refine ⟨S, E, fp, r1, G, e1, ?_⟩
    cases r1 with
    | ex x E1 =>
      have e' : r = .ex x E1 := (Option.some.inj er).symm
      subst e'
      exact q
    | ok t E1 =>
      obtain ⟨d, ed, e'⟩ := lf_some er
      subst e'
      intro v H' S' fp' fr G' R nd s ev pp
      have z := R.sh_nil
      subst z
      cases t <;> simp only [T.lst?] at ed <;> (try cases ed)
      generalize hf : ([] : List Addr) = fr at R
      cases R with
      | lstS h sa r =>
        exact q _ H' S' fp' G' ev pp fun H2 S2 fp2 ev2 _ => ⟨_, _, rfl, LS.fm (b := false) ⟨fun _ => sa, h, r.ro⟩ (G'.fm ev2) (fun z => by cases z)⟩
theorem PL.lo {f : P0} {ρ : Ow} (h : PL X Γ e f ρ) (hf : flat ρ = true := by rfl) : LO X W true true Γ e (F0.bind (rd f) (lf T.lst?)) Γ := by
  refine pe_imp h fun σ H Q ⟨S, E, fp, r, G, er, q⟩ => ?_
  unfold F0.bind rd at er
  cases e1 : f E with
  | none => rw [e1] at er; cases er
  | some t =>
    rw [e1] at er
    obtain ⟨d, ed, e'⟩ := lf_some er
    subst e'
    refine ⟨S, E, fp, t, G, e1, fun v fr R hs => ?_⟩
    cases t <;> simp only [T.lst?] at ed <;> (try cases ed)
    obtain ⟨p, us, i1, rfl, e1, r1, g1, g2⟩ := R.ro.lst
    obtain rfl : i1 = .sh := (flat_or hf).elim g1 fun z => g2 _ z
    exact q _ H S fp G (Ev.refl fun _ z => z) (fun _ => ⟨rfl, Kept.refl H⟩) fun H2 S2 fp2 ev2 k => ⟨_, _, rfl, LS.fm (b := true) ⟨(fun z => by cases z), e1, r1⟩ (G.fm ev2) fun z => k z _⟩

/-! ### lists -/
theorem wk_list {K : PySem.W.Frag} {H0 : Hp} {b : Bool} {a : Addr} {xs : List V} {ts : List T} (h0 : ∃ o, H0 a = some o) : Wk K H0 b (Itl K a) ts .sh fun _ H S fr => fr = [] ∧ LS K b a xs ts H S where
  stable := fun ⟨e, h⟩ F _ k => ⟨e, h.fm F fun z o => k z a o (by obtain ⟨u, h0⟩ := h0; simp [h0])⟩
  isl := fun ⟨e, _⟩ a z => by rw [e] at z; simp at z
  go := fun {i H S fr} hi ⟨_, h⟩ => ⟨xs, xs[i]'(by rw [h.2.2.len]; exact hi), SqL.of h.2.1, by simp⟩
  stop := fun ⟨_, h⟩ => ⟨xs, SqL.of h.2.1, by rw [h.2.2.len]; exact Nat.le_refl _⟩
  yld := fun {i H H' S fr x t} ht ⟨e, h⟩ y => by
    obtain ⟨rfl, y⟩ := y
    obtain ⟨z, hz, rz⟩ := h.2.2.get ht
    have e2 := (y xs (SqL.of h.2.1)).symm.trans hz
    cases e2
    exact ⟨[], [], rz.rp, ⟨rfl, h⟩, fun a z => by simp at z, fun _ => .nil, Kept.refl _, fun _ z => z, fun z => z⟩
theorem si_list {b p : Bool} {f : F0 (List T)} (h : LO X W b p Γ e f Γ') : SI X W b p Γ tg e f .sh Γ' := by
  refine pi_imp (pi_list h) fun σ H R ⟨S, E, fp, r, G, er, q⟩ => ⟨S, E, fp, r, G, er, ?_⟩
  cases r with
  | ex x E' => exact q
  | ok ts E' =>
    intro v H' S' fp' G' ev pp st
    obtain ⟨a, xs, rfl, ls⟩ := st H' S' fp' (Ev.refl fun _ z => z) fun _ => Kept.refl _
    exact ⟨a, rfl, ⟨xs, SqL.of ls.2.1⟩, q _ H' S' fp' [] _ G' (wk_list ⟨_, ls.2.1⟩) ⟨rfl, ls⟩ G'.nd (fun a z => by simp at z) ev pp⟩
/-- a list whose items are owned: they are handed over one by one -/
theorem wk_own {K : PySem.W.Frag} {H0 : Hp} {a : Addr} {xs : List V} {ts : List T} {ι : Ow} (hl : xs.length = ts.length) : Wk K H0 false (Itl K a) ts ι fun i H S fr => ∃ f, fr = a :: f ∧ H a = some (.lst xs) ∧ RpA K H S ι (xs.drop i) (ts.drop i) f where
  stable := fun ⟨f, e, h, r⟩ F n _ => ⟨f, e, F.keep _ _ h (n _ (by rw [e]; simp)) (fun ps z => nomatch z), r.fm F fun x z => n x (by rw [e]; simp [z])⟩
  isl := fun ⟨f, e, h, r⟩ x z => by
    rw [e] at z
    rcases List.mem_cons.mp z with z | z
    · rw [z]; exact ⟨_, h⟩
    · exact r.isl x z
  go := fun {i H S fr} hi ⟨f, e, h, r⟩ => ⟨xs, xs[i]'(by rw [hl]; exact hi), SqL.of h, by simp⟩
  stop := fun ⟨f, e, h, r⟩ => ⟨xs, SqL.of h, by rw [hl]; exact Nat.le_refl _⟩
  yld := fun {i H H' S fr x t} ht ⟨f, e, h, r⟩ y => by
    obtain ⟨rfl, y⟩ := y
    have hi : i < ts.length := (List.getElem?_eq_some_iff.mp ht).1
    have hx : i < xs.length := by omega
    rw [List.drop_eq_getElem_cons hx, List.drop_eq_getElem_cons hi] at r
    have et : ts[i] = t := by
      have := List.getElem?_eq_getElem hi
      rw [ht] at this
      exact (Option.some.inj this).symm
    have ex : xs[i] = x := by
      have := List.getElem?_eq_getElem hx
      rw [y xs (SqL.of h)] at this
      exact (Option.some.inj this).symm
    rw [et, ex] at r
    cases r with
    | cons r1 r2 =>
      rename_i f1 f2
      refine ⟨f1, a :: f2, r1, ⟨f2, rfl, h, r2⟩, fun z hz => ?_, fun nd => ?_, Kept.refl _, fun _ z => z, fun z => z⟩
      · rw [e]
        simp only [List.mem_append, List.mem_cons] at hz ⊢
        rcases hz with hz | hz | hz
        · exact .inr (.inl hz)
        · exact .inl hz
        · exact .inr (.inr hz)
      · rw [e] at nd
        obtain ⟨n1, n2⟩ := List.nodup_cons.mp nd
        obtain ⟨m1, m2, m3⟩ := nd_app n2
        refine nd_mk m1 (List.nodup_cons.mpr ⟨fun z => n1 (by simp [z]), m2⟩) fun z hz y => ?_
        rcases List.mem_cons.mp y with y | y
        · exact n1 (by rw [← y]; simp [hz])
        · exact m3 z hz y
theorem si_own {p : Bool} {f : F0 T} {ι : Ow} (h : SE X W p Γ e f (.ow ι) Γ') : SI X W false p Γ tg e (F0.bind f (lf T.lst?)) ι Γ' := by
  refine pi_imp (pi_list h) fun σ H R ⟨S, E, fp, r, G, er, q⟩ => ?_
  unfold F0.bind at er
  cases e1 : f E with
  | none => rw [e1] at er; cases er
  | some r1 =>
    rw [e1] at er
    refine ⟨S, E, fp, r1, G, e1, ?_⟩
    cases r1 with
    | ex x E1 =>
      have e' : r = .ex x E1 := (Option.some.inj er).symm
      subst e'
      exact q
    | ok t E1 =>
      obtain ⟨d, ed, e'⟩ := lf_some er
      subst e'
      intro v H' S' fp' fr G' R nd s ev pp
      cases t <;> simp only [T.lst?] at ed <;> (try cases ed)
      cases R with
      | lstO h r => exact ⟨_, rfl, ⟨_, SqL.of h⟩, q _ H' S' fp' _ _ G' (wk_own r.len) ⟨_, rfl, h, r⟩ nd s ev pp⟩
/-! ### tuples -/
def T.tup? : T → Option (List T)
  | .tup xs => some xs
  | _ => none
theorem wk_tup {K : PySem.W.Frag} {H0 : Hp} {a : Addr} {xs : List V} {ts : List T} : Wk K H0 false (Itt K a) ts .sh fun _ H S fr => fr = [] ∧ SqT K H a xs ∧ RoA K H S .sh xs ts where
  stable := fun ⟨e, h, r⟩ F _ k => ⟨e, F.tup h, (r.rp.fm F fun _ z => by simp at z).ro⟩
  isl := fun ⟨e, _⟩ a z => by rw [e] at z; simp at z
  go := fun {i H S fr} hi ⟨_, h, r⟩ => ⟨xs, xs[i]'(by rw [r.len]; exact hi), h, by simp⟩
  stop := fun ⟨_, h, r⟩ => ⟨xs, h, by rw [r.len]; exact Nat.le_refl _⟩
  yld := fun {i H H' S fr x t} ht ⟨e, h, r⟩ y => by
    obtain ⟨rfl, y⟩ := y
    obtain ⟨z, hz, rz⟩ := r.get ht
    have e2 := (y xs h).symm.trans hz
    cases e2
    exact ⟨[], [], rz.rp, ⟨rfl, h, r⟩, fun a z => by simp at z, fun _ => .nil, Kept.refl _, fun _ z => z, fun z => z⟩
theorem si_tup {b1 p : Bool} {f : F0 T} {ρ : Ow} (h : OE X W b1 p Γ e f ρ Γ') : SI X W false p Γ tg e (F0.bind f (lf T.tup?)) .sh Γ' := by
  refine pi_imp (pi_tup h) fun σ H R ⟨S, E, fp, r, G, er, q⟩ => ?_
  unfold F0.bind at er
  cases e1 : f E with
  | none => rw [e1] at er; cases er
  | some r1 =>
    rw [e1] at er
    refine ⟨S, E, fp, r1, G, e1, ?_⟩
    cases r1 with
    | ex x E1 =>
      have e' : r = .ex x E1 := (Option.some.inj er).symm
      subst e'
      exact q
    | ok t E1 =>
      obtain ⟨d, ed, e'⟩ := lf_some er
      subst e'
      intro v H' S' fp' G' ev pp st
      have s1 := st H' S' fp' (Ev.refl fun _ z => z) fun _ => Kept.refl _
      cases t <;> simp only [T.tup?] at ed <;> (try cases ed)
      obtain ⟨p, us, rfl, e1, r1⟩ := s1.tupl
      exact ⟨_, rfl, ⟨_, e1⟩, q _ H' S' fp' [] _ G' wk_tup ⟨rfl, e1, r1⟩ G'.nd (fun a z => by simp at z) ev pp⟩
/-! ### ranges -/
def rngT (lo : Int) (n : Nat) : List T := (List.range n).map fun (i : Nat) => .int (lo + (i : Int))
theorem wk_rng {K : PySem.W.Frag} {H0 : Hp} {lo : Int} {n : Nat} : Wk K H0 false (Itr lo n) (rngT lo n) .sh fun _ H S fr => fr = [] where
  stable := fun e _ _ _ => e
  isl := fun e a z => by rw [e] at z; simp at z
  go := fun {i H S fr} hi _ => show i < n by simpa [rngT] using hi
  stop := fun _ => by simp [rngT, Itr]
  yld := fun {i H H' S fr x t} ht e y => by
    obtain ⟨rfl, rfl⟩ := y
    have hi : i < n := by simpa [rngT] using (List.getElem?_eq_some_iff.mp ht).1
    have et : t = .int (lo + i) := by
      simp [rngT, List.getElem?_map, List.getElem?_range hi] at ht
      exact ht.symm
    subst et
    exact ⟨[], [], .int _, rfl, fun a z => by simp at z, fun _ => .nil, Kept.refl _, fun _ z => z, fun z => z⟩
def rng1 : List T → Option (List T)
  | [.int j] => if j.natAbs < 2 ^ 61 then some (rngT 0 j.toNat) else none
  | _ => none
def rng2 : List T → Option (List T)
  | [.int i, .int j] => if i.natAbs < 2 ^ 61 && j.natAbs < 2 ^ 61 then some (rngT i (j - i).toNat) else none
  | _ => none
theorem si_rng1 {b p : Bool} {f : F0 T} {ρ : Ow} (hg : Gl X "range") (hm : X.mg "range" = none) (h : OE X W b p Γ a f ρ Γ') (hs : starEach [a] X.env = [(false, eval a X.env)] := by rfl) : SI X W false p Γ tg (.Call (.Name "range" p0) [a] [] pos) (F0.bind f (lf fun t => rng1 [t])) .sh Γ' := by
  refine pi_imp (pi_range1 hg hm (pa_cons h pa_nil hs) hs) fun σ H R ⟨S, E, fp, r, G, er, q⟩ => ?_
  unfold F0.bind at er
  cases e1 : f E with
  | none => rw [e1] at er; cases er
  | some r1 =>
    rw [e1] at er
    refine ⟨S, E, fp, r1, G, e1, ?_⟩
    cases r1 with
    | ex x E1 =>
      have e' : r = .ex x E1 := (Option.some.inj er).symm
      subst e'
      exact q
    | ok t E1 =>
      obtain ⟨d, ed, e'⟩ := lf_some er
      subst e'
      intro v H' S' fp' G' ev pp st
      have s1 := st H' S' fp' (Ev.refl fun _ z => z) fun _ => Kept.refl _
      unfold rng1 at ed
      split at ed
      · rename_i j hj
        cases hj
        split at ed
        · rename_i hz
          cases ed
          exact ⟨j, by rw [s1.int_], by omega, by omega, q _ H' S' fp' [] _ G' wk_rng rfl G'.nd (fun a z => by simp at z) ev pp⟩
        · cases ed
      · cases ed
theorem si_rng2 {b1 b2 p1 p2 : Bool} {f1 f2 : F0 T} {ρ1 ρ2 : Ow} {b : Expr} (hg : Gl X "range") (hm : X.mg "range" = none) (h1 : OE X W b1 p1 Γ a f1 ρ1 Γ1) (h2 : OE X W b2 p2 Γ1 b f2 ρ2 Γ2) (hq : b1 = true → p2 = true := by decide) (hΓ : allSh Γ1 = allSh Γ := by rfl)
    (hs : starEach [a, b] X.env = [(false, eval a X.env), (false, eval b X.env)] := by rfl) (hs2 : starEach [b] X.env = [(false, eval b X.env)] := by rfl) (hs3 : starEach [a, b] X.env = (false, eval a X.env) :: starEach [b] X.env := by rfl) : SI X W false (p1 && p2) Γ tg (.Call (.Name "range" p0) [a, b] [] pos) (F0.bind f1 fun x => F0.bind f2 fun y => lf (fun y => rng2 [x, y]) y) .sh Γ2 := by
  refine pi_imp (pi_range2 hg hm (pa_cons h1 (pa_cons h2 pa_nil hs2) hs3) hs hs2) fun σ H R ⟨S, E, fp, r, G, er, q⟩ => ?_
  refine tR_bind (R := fun x y H2 => ∃ i j : Int, ([x, y] : List V) = [.int i, .int j] ∧ (-(2 ^ 62) ≤ i ∧ i < 2 ^ 62 ∧ -(2 ^ 62) ≤ j ∧ j < 2 ^ 62) ∧ R (Itr i (j - i).toNat) H2) (h := fun x y => lf (fun y => rng2 [x, y]) y) hq hΓ (fun _ _ _ z => z) (fun _ _ _ z => z) S E fp r G er (fun x E' e => by subst e; exact q) ?_
  intro x y t ts H2 S2 fp2 E2 G2 ev pp st e
  obtain ⟨c, ec, e'⟩ := lf_some e
  subst e'
  obtain ⟨s1, s2⟩ := st H2 S2 fp2 (Ev.refl fun _ z => z) (fun _ => Kept.refl _)
  unfold rng2 at ec
  split at ec
  · rename_i i j hj
    cases hj
    split at ec
    · rename_i hz
      cases ec
      rw [Bool.and_eq_true] at hz
      have z1 := of_decide_eq_true hz.1
      have z2 := of_decide_eq_true hz.2
      exact ⟨i, j, by rw [s1.int_, s2.int_], by omega, q _ H2 S2 fp2 [] _ G2 wk_rng rfl G2.nd (fun a z => by simp at z) ev pp⟩
    · cases ec
  · cases ec
/-! ### texts -/
def sgnT (z : Str) : List T := z.cps.toList.map fun c => .str ⟨#[c]⟩
theorem wk_str {K : PySem.W.Frag} {H0 : Hp} {z : Str} : Wk K H0 false (Its z) (sgnT z) .sh fun _ H S fr => fr = [] where
  stable := fun e _ _ _ => e
  isl := fun e a z => by rw [e] at z; simp at z
  go := fun {i H S fr} hi _ => show i < z.cps.size by simpa [sgnT] using hi
  stop := fun _ => by simp [sgnT, Its]
  yld := fun {i H H' S fr x t} ht e y => by
    obtain ⟨rfl, c, hc, rfl⟩ := y
    have et : t = .str ⟨#[c]⟩ := by
      simp [sgnT, List.getElem?_map] at ht
      obtain ⟨d, hd, e⟩ := ht
      rw [hc] at hd
      cases hd
      exact e.symm
    subst et
    exact ⟨[], [], .str _, rfl, fun a z => by simp at z, fun _ => .nil, Kept.refl _, fun _ z => z, fun z => z⟩
def T.sgn? : T → Option (List T)
  | .str z => some (sgnT z)
  | _ => none
theorem si_str {b1 p : Bool} {f : F0 T} {ρ : Ow} (h : OE X W b1 p Γ e f ρ Γ') : SI X W false p Γ tg e (F0.bind f (lf T.sgn?)) .sh Γ' := by
  refine pi_imp (pi_str h) fun σ H R ⟨S, E, fp, r, G, er, q⟩ => ?_
  unfold F0.bind at er
  cases e1 : f E with
  | none => rw [e1] at er; cases er
  | some r1 =>
    rw [e1] at er
    refine ⟨S, E, fp, r1, G, e1, ?_⟩
    cases r1 with
    | ex x E1 =>
      have e' : r = .ex x E1 := (Option.some.inj er).symm
      subst e'
      exact q
    | ok t E1 =>
      obtain ⟨d, ed, e'⟩ := lf_some er
      subst e'
      intro v H' S' fp' G' ev pp st
      have s1 := st H' S' fp' (Ev.refl fun _ z => z) fun _ => Kept.refl _
      cases t <;> simp only [T.sgn?] at ed <;> (try cases ed)
      exact ⟨_, s1.str_, q _ H' S' fp' [] _ G' wk_str rfl G'.nd (fun a z => by simp at z) ev pp⟩
/-! ### enumerate, zip -/
def enumT (ts : List T) : List T := ts.zipIdx.map fun p => .tup [.int (p.2 : Nat), p.1]
theorem enumT_get {ts : List T} {i : Nat} {t : T} (h : (enumT ts)[i]? = some t) : ∃ u, ts[i]? = some u ∧ t = .tup [.int (i : Nat), u] := by
  simp [enumT, List.getElem?_map, List.getElem?_zipIdx] at h
  obtain ⟨u, h1, h2⟩ := h
  exact ⟨u, h1, h2.symm⟩
theorem pairRo {K : PySem.W.Frag} {H : Hp} {S : Addr → Prop} {p : Addr} {x y : V} {t u : T} (hp : H p = none) (r1 : Ro K H S .sh x t) (r2 : Ro K H S .sh y u) : Rp K (upd H p (.tup [x, y])) S .sh (.ref p) (.tup [t, u]) [] := by
  have k : Kept H (upd H p (.tup [x, y])) := Kept.new hp
  exact .tup (SqT.of upd_same) (RpA.cons (f := []) (fs := []) (r1.kept k fun _ h => h).rp (RpA.cons (f := []) (fs := []) (r2.kept k fun _ h => h).rp .nil))
theorem wk_enum {K : PySem.W.Frag} {H0 : Hp} {b : Bool} {a : Addr} {xs : List V} {ts : List T} (h0 : ∃ o, H0 a = some o) : Wk K H0 b (Ite K a) (enumT ts) .sh fun _ H S fr => fr = [] ∧ LS K b a xs ts H S where
  stable := fun ⟨e, h⟩ F _ k => ⟨e, h.fm F fun z o => k z a o (by obtain ⟨u, h0⟩ := h0; simp [h0])⟩
  isl := fun ⟨e, _⟩ a z => by rw [e] at z; simp at z
  go := fun {i H S fr} hi ⟨_, h⟩ => ⟨xs, xs[i]'(by rw [h.2.2.len]; simpa [enumT] using hi), SqL.of h.2.1, by simp⟩
  stop := fun ⟨_, h⟩ => ⟨xs, SqL.of h.2.1, by rw [h.2.2.len]; simp [enumT]⟩
  yld := fun {i H H' S fr x t} ht ⟨e, h⟩ y => by
    obtain ⟨p, x, rfl, hp, rfl, y⟩ := y
    obtain ⟨u, hu, rfl⟩ := enumT_get ht
    obtain ⟨z, hz, rz⟩ := h.2.2.get hu
    have e2 := (y xs (SqL.of h.2.1)).symm.trans hz
    cases e2
    have k : Kept H (upd H p (.tup [.int (i : Nat), x])) := Kept.new hp
    refine ⟨[], [], pairRo hp (.int _) rz, ⟨rfl, h.1, k _ _ h.2.1 (fun ps z => nomatch z), h.2.2.kept k fun _ h => h⟩, fun a z => by simp at z, fun _ => .nil, k, (Ev.new (S := S) (fp := []) hp).dom, TbK.new hp⟩
theorem si_enum {b p : Bool} {f : F0 (List T)} {elts : List Expr} {kk : Nat} (hg : Gl X "enumerate") (hm : X.mg "enumerate" = none) (h : LO X W b p Γ e f Γ') (hs : starEach [e] X.env = [(false, eval e X.env)] := by rfl) :
    SI X W b p Γ (.Tuple elts kk tpos) (.Call (.Name "enumerate" p0) [e] [] pos) (F0.bind f (lf fun ts => some (enumT ts))) .sh Γ' := by
  refine pi_imp (pi_enum hg hm (pa_cons h pa_nil hs) hs) fun σ H R ⟨S, E, fp, r, G, er, q⟩ => ?_
  unfold F0.bind at er
  cases e1 : f E with
  | none => rw [e1] at er; cases er
  | some r1 =>
    rw [e1] at er
    refine ⟨S, E, fp, r1, G, e1, ?_⟩
    cases r1 with
    | ex x E1 =>
      have e' : r = .ex x E1 := (Option.some.inj er).symm
      subst e'
      exact q
    | ok ts E1 =>
      obtain ⟨d, ed, e'⟩ := lf_some er
      subst e'
      cases ed
      intro v H' S' fp' G' ev pp st
      obtain ⟨a, xs, rfl, ls⟩ := st H' S' fp' (Ev.refl fun _ z => z) fun _ => Kept.refl _
      exact ⟨a, xs, rfl, SqL.of ls.2.1, q _ H' S' fp' [] _ G' (wk_enum ⟨_, ls.2.1⟩) ⟨rfl, ls⟩ G'.nd (fun a z => by simp at z) ev pp⟩
def zipT (ts us : List T) : List T := List.zipWith (fun t u => .tup [t, u]) ts us
theorem zipT_get {ts us : List T} {i : Nat} {t : T} (h : (zipT ts us)[i]? = some t) : ∃ u w, ts[i]? = some u ∧ us[i]? = some w ∧ t = .tup [u, w] := by
  simp [zipT, List.getElem?_zipWith] at h
  cases h1 : ts[i]? with
  | none => simp [h1] at h
  | some u =>
    cases h2 : us[i]? with
    | none => simp [h1, h2] at h
    | some w =>
      simp [h1, h2] at h
      exact ⟨u, w, rfl, rfl, h.symm⟩
theorem wk_zip {K : PySem.W.Frag} {H0 : Hp} {b1 b2 : Bool} {a c : Addr} {xs ys : List V} {ts us : List T} (h0 : ∃ o, H0 a = some o) (h00 : ∃ o, H0 c = some o) : Wk K H0 (b1 || b2) (Itz K a c) (zipT ts us) .sh fun _ H S fr => fr = [] ∧ LS K b1 a xs ts H S ∧ LS K b2 c ys us H S where
  stable := fun ⟨e, h, g⟩ F _ k => ⟨e, h.fm F fun z o => k (by simp [z]) a o (by obtain ⟨u, h0⟩ := h0; simp [h0]), g.fm F fun z o => k (by simp [z]) c o (by obtain ⟨u, h0⟩ := h00; simp [h0])⟩
  isl := fun ⟨e, _⟩ a z => by rw [e] at z; simp at z
  go := fun {i H S fr} hi ⟨_, h, g⟩ => by
    have hi' : i < ts.length ∧ i < us.length := by simpa [zipT, Nat.lt_min] using hi
    exact ⟨xs, ys, xs[i]'(by rw [h.2.2.len]; exact hi'.1), ys[i]'(by rw [g.2.2.len]; exact hi'.2), SqL.of h.2.1, SqL.of g.2.1, by simp, by simp⟩
  stop := fun {H S fr} ⟨_, h, g⟩ => by
    refine ⟨xs, ys, SqL.of h.2.1, SqL.of g.2.1, ?_⟩
    rw [h.2.2.len, g.2.2.len]
    simp [zipT]
    omega
  yld := fun {i H H' S fr x t} ht ⟨e, h, g⟩ y => by
    obtain ⟨p, x, w, rfl, hp, rfl, y1, y2⟩ := y
    obtain ⟨u, v, hu, hv, rfl⟩ := zipT_get ht
    obtain ⟨z, hz, rz⟩ := h.2.2.get hu
    obtain ⟨z2, hz2, rz2⟩ := g.2.2.get hv
    have e2 := (y1 xs (SqL.of h.2.1)).symm.trans hz
    cases e2
    have e3 := (y2 ys (SqL.of g.2.1)).symm.trans hz2
    cases e3
    have k : Kept H (upd H p (.tup [x, w])) := Kept.new hp
    exact ⟨[], [], pairRo hp rz rz2, ⟨rfl, ⟨h.1, k _ _ h.2.1 (fun ps z => nomatch z), h.2.2.kept k fun _ h => h⟩, ⟨g.1, k _ _ g.2.1 (fun ps z => nomatch z), g.2.2.kept k fun _ h => h⟩⟩, fun a z => by simp at z, fun _ => .nil, k, (Ev.new (S := S) (fp := []) hp).dom, TbK.new hp⟩
theorem si_zip {b1 b2 p1 p2 : Bool} {f1 f2 : F0 (List T)} {elts : List Expr} {kk : Nat} (hg : Gl X "zip") (hm : X.mg "zip" = none) (h1 : LO X W b1 p1 Γ e f1 Γ1) (h2 : LO X W b2 p2 Γ1 e2 f2 Γ2) (hq : b1 = true → p2 = true := by decide) (hΓ : allSh Γ1 = allSh Γ := by rfl)
    (hs : starEach [e, e2] X.env = (false, eval e X.env) :: starEach [e2] X.env := by rfl) (hs2 : starEach [e2] X.env = (false, eval e2 X.env) :: starEach [] X.env := by rfl) (hpl : (backTo pos (starEach [e2] X.env)).any (·.1) = false := by rfl) :
    SI X W (b1 || b2) (p1 && p2) Γ (.Tuple elts kk tpos) (.Call (.Name "zip" p0) [e, e2] [] pos) (F0.bind f1 fun x => F0.bind f2 fun y => lf (fun y => some (zipT x y)) y) .sh Γ2 := by
  refine pi_imp (pi_zip hg hm (pa_cons h1 (pa_cons h2 pa_nil hs2) hs) hs hpl) fun σ H R ⟨S, E, fp, r, G, er, q⟩ => ?_
  refine tR_bind (R := fun x y H2 => ∃ a b xs ys, ([x, y] : List V) = [.ref a, .ref b] ∧ SqL X.K H2 a xs ∧ SqL X.K H2 b ys ∧ R (Itz X.K a b) H2) (h := fun x y => lf (fun y => some (zipT x y)) y) hq hΓ (fun _ _ _ z => z) (fun _ _ _ z => z) S E fp r G er (fun x E' e => by subst e; exact q) ?_
  intro x y t ts H2 S2 fp2 E2 G2 ev pp st e
  obtain ⟨c, ec, e'⟩ := lf_some e
  subst e'
  cases ec
  obtain ⟨⟨a, xs, rfl, ls1⟩, c, ys, rfl, ls2⟩ := st H2 S2 fp2 (Ev.refl fun _ z => z) (fun _ => Kept.refl _)
  exact ⟨a, c, xs, ys, rfl, SqL.of ls1.2.1, SqL.of ls2.2.1, q _ H2 S2 fp2 [] _ G2 (wk_zip ⟨_, ls1.2.1⟩ ⟨_, ls2.2.1⟩) ⟨rfl, ls1, ls2⟩ G2.nd (fun a z => by simp at z) ev pp⟩
end
end Tr

end
section
set_option maxHeartbeats 2000000
/-! TrD: list comprehensions. -/
namespace Tr
open PySem PySem.Spec PyProof.Rows L2
/-- slots given up -/
def clrs : List Nat → Env → Env
  | [], E => E
  | v :: vs, E => (clrs vs E).set v none
/-- these slots hold nothing -/
def unset (vs : List Nat) (E : Env) : Bool := vs.all fun v => match E[v]? with
  | some (some _) => false
  | _ => true
/-- all slots but vs -/
def butv (n : Nat) (vs : List Nat) : List Nat := (List.range n).filter fun i => !vs.contains i
section
variable {K : PySem.W.Frag} {H : Hp} {S : Addr → Prop}
theorem clrs_len (E : Env) : ∀ vs : List Nat, (clrs vs E).length = E.length
  | [] => rfl
  | v :: vs => by rw [clrs, List.length_set, clrs_len E vs]
theorem clrs_get {E : Env} {i : Nat} {t : T} : ∀ {vs : List Nat}, (clrs vs E)[i]? = some (some t) → E[i]? = some (some t) ∧ i ∉ vs
  | [], h => ⟨h, by simp⟩
  | v :: vs, h => by
    rw [clrs] at h
    by_cases e : v = i
    · subst e
      rw [List.getElem?_set] at h
      simp only [if_true] at h
      split at h
      · cases h
      · cases h
    · rw [List.getElem?_set_ne e] at h
      obtain ⟨a, b⟩ := clrs_get h
      exact ⟨a, by simp [Ne.symm e, b]⟩
theorem unset_clrs (vs : List Nat) (E : Env) : unset vs (clrs vs E) = true := by
  unfold unset
  rw [List.all_eq_true]
  intro v hv
  split
  · rename_i h
    exact absurd hv (clrs_get h).2
  · rfl
theorem clrs_of_unset {E : Env} : ∀ {vs : List Nat}, unset vs E = true → clrs vs E = E
  | [], _ => rfl
  | v :: vs, h => by
    unfold unset at h
    rw [List.all_cons, Bool.and_eq_true] at h
    rw [clrs, clrs_of_unset (vs := vs) h.2]
    apply List.ext_getElem?
    intro j
    by_cases e : v = j
    · subst e
      rw [List.getElem?_set]
      simp only [if_true]
      have h1 := h.1
      cases q : E[v]? with
      | none =>
        have hl := List.getElem?_eq_none_iff.mp q
        rw [if_neg (by omega)]
      | some o =>
        rw [q] at h1
        cases o with
        | none =>
          rw [if_pos (List.getElem?_eq_some_iff.mp q).1]
        | some _ => cases h1
    · rw [List.getElem?_set_ne e]
theorem Sl.clr1 : ∀ {Γ : List Ow} {σ : L2.St} {E : Env} {fp : List Addr} (i : Nat), Sl K H S Γ σ E fp → Γ[i]? = some .sh → Sl K H S Γ σ (E.set i none) fp
  | _, _, _, _, i, .nil, _ => by simpa using Sl.nil
  | _, _, _, _, 0, .no s, _ => .no s
  | _, _, _, _, 0, .on r s, h => by
    simp at h
    subst h
    rw [r.sh_nil]
    exact .no s
  | _, _, _, _, i + 1, .no s, h => .no (Sl.clr1 i s (by simpa using h))
  | _, _, _, _, i + 1, .on r s, h => .on r (Sl.clr1 i s (by simpa using h))
theorem Sl.clrs {Γ : List Ow} {σ : L2.St} {E : Env} {fp : List Addr} (s : Sl K H S Γ σ E fp) : ∀ {vs : List Nat}, (∀ v ∈ vs, Γ[v]? = some Ow.sh) → Sl K H S Γ σ (Tr.clrs vs E) fp
  | [], _ => s
  | v :: vs, h => (Sl.clrs s fun w z => h w (by simp [z])).clr1 v (h v (by simp))
/-- a slot that holds nothing may stand as it likes -/
theorem Sl.sig : ∀ {Γ : List Ow} {σ σ' : L2.St} {E : Env} {fp : List Addr}, Sl K H S Γ σ E fp → σ'.length = σ.length → (∀ (i : Nat) (t : T), E[i]? = some (some t) → σ'[i]? = σ[i]?) → Sl K H S Γ σ' E fp
  | _, _, [], _, _, .nil, _, _ => .nil
  | _, _, _ :: _, _, _, .nil, h, _ => by simp at h
  | _, _, [], _, _, .no _, h, _ => by simp at h
  | _, _, [], _, _, .on _ _, h, _ => by simp at h
  | _, _, v :: σ', _, _, .no s, h, g => .no (Sl.sig s (by simpa using h) fun i t e => by simpa using g (i + 1) t (by simpa using e))
  | _, _, v :: σ', _, _, .on r s, h, g => by
    have g0 := g 0 _ rfl
    simp at g0
    subst g0
    exact .on r (Sl.sig s (by simpa using h) fun i t e => by simpa using g (i + 1) t (by simpa using e))
theorem wipe_get {σ : L2.St} {i : Nat} : ∀ {vs : List Nat}, i ∉ vs → (wipe σ vs)[i]? = σ[i]?
  | [], _ => rfl
  | v :: vs, h => by
    rw [wipe, List.getElem?_set_ne (fun e => h (by simp [e])), wipe_get (fun z => h (by simp [z]))]
theorem wipe_in {σ : L2.St} {i : Nat} : ∀ {vs : List Nat}, i ∈ vs → i < σ.length → (wipe σ vs)[i]? = some none
  | [], h, _ => by simp at h
  | v :: vs, h, hl => by
    rw [wipe]
    by_cases e : v = i
    · subst e
      rw [List.getElem?_set_self (by rw [wipe_length]; exact hl)]
    · rw [List.getElem?_set_ne e]
      exact wipe_in (by rcases List.mem_cons.mp h with z | z; exact absurd z.symm e; exact z) hl
theorem wipe_eq {σ σ' : L2.St} {vs : List Nat} (hl : σ'.length = σ.length) (h : ∀ i, i < σ.length → i ∉ vs → σ'[i]? = σ[i]?) : wipe σ' vs = wipe σ vs := by
  apply List.ext_getElem?
  intro i
  by_cases hi : i ∈ vs
  · by_cases hn : i < σ.length
    · rw [wipe_in hi hn, wipe_in hi (by omega)]
    · rw [List.getElem?_eq_none (by rw [wipe_length]; omega), List.getElem?_eq_none (by rw [wipe_length]; omega)]
  · rw [wipe_get hi, wipe_get hi]
    by_cases hn : i < σ.length
    · exact h i hn hi
    · rw [List.getElem?_eq_none (by omega), List.getElem?_eq_none (by omega)]
theorem wipe_wipe {σ : L2.St} {vs : List Nat} : wipe (wipe σ vs) vs = wipe σ vs := wipe_eq (wipe_length σ vs) fun i _ hi => wipe_get hi
end
/-! ### the comprehension -/
def flcGo (g : T → Env → Option Env) (vs : List Nat) (t : F0 Bool) (e : F0 T) : List T → List T → Env → Option (List T × Env)
  | [], acc, E => some (acc, E)
  | x :: xs, acc, E => match g x E with
    | none => none
    | some E1 => match t E1 with
      | some (.ok true E2) => match e E2 with
        | some (.ok y E3) => if acc.length < sizeLine then flcGo g vs t e xs (acc ++ [y]) (clrs vs E3) else none
        | _ => none
      | some (.ok false E2) => flcGo g vs t e xs acc (clrs vs E2)
      | _ => none
def flc (fi : F0 (List T)) (g : T → Env → Option Env) (vs : List Nat) (t : F0 Bool) (e : F0 T) : F0 T := F0.bind fi fun xs E => if unset vs E = true then (flcGo g vs t e xs [] E).map fun r => .ok (.lst r.1) r.2 else none
/-- an exception does not leave a comprehension -/
abbrev W0 : WX := fun _ _ _ _ => False
def SPt (X : Cx) (p : Bool) (Γ : List Ow) (ifs : List Expr) (f : F0 Bool) (Γ' : List Ow) : Prop := PTs X ifs (tT X.K W0 p Γ f Γ')
theorem sp_nil {X : Cx} {Γ : List Ow} : SPt X true Γ [] (F0.pure true) Γ := by
  refine ⟨fun pins s σ H Q I ⟨S, E, fp, r, G, e, q⟩ => pts_nil.run pins s σ H Q I ?_⟩
  have e' : r = .ok true E := (Option.some.inj e).symm
  subst e'
  exact q H S fp G (Ev.refl fun _ z => z) fun _ => ⟨rfl, Kept.refl H⟩
theorem sp_one {X : Cx} {Γ Γ' : List Ow} {p : Bool} {c : Expr} {f : F0 Bool} (h : STt X W0 p Γ c f Γ') : SPt X p Γ [c] f Γ' := pts_one h
section
variable {X : Cx} {W : WX} {Γ Γ1 Γl Γt Γu Γe : List Ow} {tg iter elt : Expr} {ifs : List Expr} {scope : Scope} {own : List (Str × Nat)} {pos : Pos}

theorem lc_r {b pi pt pe : Bool} {fi : F0 (List T)} {g : T → Env → Option Env} {t : F0 Bool} {f : F0 T} {ρi ρe : Ow} {vs : List Nat} {σ : L2.St} {H0 : Hp} {Q : VK} (hb : b = true → (pt && pe) = true) (hl : leq Γ1 Γl = true) (hv : ∀ v ∈ vs, Γl[v]? = some Ow.sh) (hΓt : allSh Γt = allSh Γl)
    (hgc : ∀ t E E1, g t E = some E1 → clrs vs E1 = clrs vs E) (he : leq Γe Γl = true) (hu : leq Γu Γl = true)
    (q : tS (V' := V) X.K W (pi && (pt && pe)) Γ (flc fi g vs t f) (.ow ρe) Γl σ H0 Q) :
    tLc (tI X.K W b pi Γ fi ρi Γ1) (tT1 X.K (butv Γl.length vs) Γl g ρi Γt) (tT X.K W0 pt Γt t Γu) (tS (V' := V) X.K W0 pe Γu f ρe Γe) vs σ H0 Q := by
  obtain ⟨S0, E0, fp0, r, G0, er, q⟩ := q
  unfold flc F0.bind at er
  cases e1 : fi E0 with
  | none => rw [e1] at er; cases er
  | some r1 =>
    rw [e1] at er
    refine ⟨S0, E0, fp0, r1, G0, e1, ?_⟩
    cases r1 with
    | ex x E1 =>
      have e' : r = .ex x E1 := (Option.some.inj er).symm
      subst e'
      exact q
    | ok ts E1 =>
      dsimp only at er
      split at er
      case isFalse => cases er
      rename_i hun
      obtain ⟨⟨us, Ez⟩, ego, e'⟩ := Option.map_eq_some_iff.mp er
      subst e'
      intro J H1 S1 fp1 fr1 Hd G1 wk h1 nd1 s1 ev1 pp1 D hD
      have hD0 : H0 D = none := ev1.dom D hD
      refine ⟨fun i m H => ∃ S E fp fr as ats fa, Good X.K H S Γl (wipe σ vs) E fp ∧ unset vs E = true ∧ Hd i H S fr ∧ H D = some (.lst as) ∧ RpA X.K H S ρe as ats fa ∧ (D :: (fa ++ (fr ++ fp))).Nodup ∧ (∀ a ∈ D :: (fa ++ fr), ¬ S a) ∧
        Ev H0 S0 fp0 H S (D :: (fa ++ (fr ++ fp))) ∧ ((pi && (pt && pe)) = true → E = E0 ∧ Kept H0 H) ∧ i ≤ ts.length ∧ m = ts.length - i ∧ flcGo g vs t f (ts.drop i) ats E = some (us, Ez), ?_, ?_⟩
      · -- the start
        obtain ⟨S2, fp2, G2, ev2, sub2, hS2⟩ := G1.weak hl
        obtain ⟨n1, n2, n3⟩ := nd_app nd1
        have ap : ∀ a ∈ fr1, a ∉ fp2 ∧ ¬ S2 a := fun a z => ev2.apart (wk.isl h1 a z).choose_spec (n3 a z) (s1 a z)
        have h2 := wk.stable (S' := S2) h1 (G1.fm ev2) n3 (fun _ _ _ _ e _ => e)
        have k : Kept H1 (upd H1 D (.lst [])) := Kept.new hD
        have G3 := G2.along k (TbK.new hD)
        obtain ⟨fD1, fD2⟩ := G2.free hD
        have fD3 : D ∉ fr1 := fun z => by
          obtain ⟨xs, e⟩ := wk.isl h1 D z
          exact absurd (hD.symm.trans e) (by simp)
        have h3 := wk.stable (S' := S2) h2 (own := fun _ => False) ⟨fun a o e _ t => k a o e t, fun _ h => h, fun _ _ z => z, fun _ z => z.elim⟩ (fun _ _ z => z) (fun _ a o _ e t => k a o e t)
        have evD : Ev H1 S2 (fr1 ++ fp2) (upd H1 D (.lst [])) S2 (D :: (fr1 ++ fp2)) := Ev.new hD
        refine ⟨_, S2, E1, fp2, fr1, [], [], [], ⟨G3.sl.sig (wipe_length σ vs) fun i t hi => wipe_get fun hm => ?_, G3.nd, G3.nS, G3.sT⟩, hun, h3, upd_same, .nil, show (D :: (fr1 ++ fp2)).Nodup from ?_, fun a (z : a ∈ D :: fr1) => ?_, ((ev1.trans (ev2.add fr1)).trans evD), fun z => ?_, Nat.zero_le _, rfl, ego⟩
        · unfold unset at hun
          have := List.all_eq_true.mp hun i hm
          rw [hi] at this
          cases this
        · exact List.nodup_cons.mpr ⟨fun z => (List.mem_append.mp z).elim fD3 fD1, nd_mk n1 G2.nd fun a z => (ap a z).1⟩
        · rcases List.mem_cons.mp z with z | z
          · rw [z]; exact fD2
          · exact (ap a z).2
        · obtain ⟨a1, a2⟩ := pp1 (Bool.and_eq_true_iff.mp z).1
          exact ⟨a1, a2.trans k⟩
      · rintro i m H ⟨S, E, fp, fr, as, ats, fa, G, hu', h, eD, RA, nd, s, ev, pp, hi, hm, ego⟩
        obtain ⟨nD, nd'⟩ := List.nodup_cons.mp nd
        obtain ⟨na, nb, nc⟩ := nd_app nd'
        obtain ⟨nf, ng, nh⟩ := nd_app nb
        by_cases hlt : i < ts.length
        · have ht : ts[i]? = some ts[i] := List.getElem?_eq_getElem hlt
          rw [List.drop_eq_getElem_cons hlt, flcGo] at ego
          refine .inr ⟨wk.go hlt h, fun H' => ∃ S E fp fr as ats fa, Good X.K H' S Γl (wipe σ vs) E fp ∧ unset vs E = true ∧ Hd (i + 1) H' S fr ∧ H' D = some (.lst as) ∧ RpA X.K H' S ρe as ats fa ∧ (D :: (fa ++ (fr ++ fp))).Nodup ∧ (∀ a ∈ D :: (fa ++ fr), ¬ S a) ∧
            Ev H0 S0 fp0 H' S (D :: (fa ++ (fr ++ fp))) ∧ ((pi && (pt && pe)) = true → E = E0 ∧ Kept H0 H') ∧ flcGo g vs t f (ts.drop (i + 1)) ats E = some (us, Ez), ?_, ?_⟩
          · rintro H' ⟨S', E', fp', fr', as', ats', fa', a1, a2, a3, a4, a5, a6, a7, a8, a9, a10⟩
            exact ⟨ts.length - (i + 1), by omega, S', E', fp', fr', as', ats', fa', a1, a2, a3, a4, a5, a6, a7, a8, a9, hlt, rfl, a10⟩
          · intro x H' y
            obtain ⟨f1, f2, R, h', sub, ndf, kp, dm, tt⟩ := wk.yld ht h y
            obtain ⟨k1, k2, k3⟩ := nd_app (ndf nf)
            have G' : Good X.K H' S Γl (wipe σ vs) E fp := G.along kp tt
            have F0' : Fm (fun _ => False) H H' S S := ⟨fun a o e _ t => kp a o e t, fun _ h => h, fun _ _ z => z, fun _ z => z.elim⟩
            have RA' : RpA X.K H' S ρe as ats fa := RA.fm F0' fun _ _ z => z
            have eD' : H' D = some (.lst as) := kp _ _ eD (fun ps z => nomatch z)
            have evk : Ev H S (D :: (fa ++ (fr ++ fp))) H' S (D :: (fa ++ (fr ++ fp))) := ⟨fun a o e _ t => kp a o e t, dm, fun _ h => h, fun _ h => .inl h, fun a z => .inl z⟩
            have evH := ev.trans evk
            cases eg : g ts[i] E with
            | none => rw [eg] at ego; cases ego
            | some E1 =>
              rw [eg] at ego
              dsimp only at ego
              refine ⟨S, E, fp, ts[i], f1, E1, G', R, nd_mk k1 ng fun a z => nh a (sub a (by simp [z])), fun a z => s a (by simp [sub a (show a ∈ f1 ++ f2 by simp [z])]), eg, fun σ2 fp2 G2 sub2 m2 => ?_⟩
              have lt : Γt.length = Γl.length := by have := congrArg List.length hΓt; simpa [allSh] using this
              have lE := G'.sl.len
              have lE1 := G2.sl.len
              have len2 : σ2.length = (wipe σ vs).length := by omega
              have off : ∀ j, j < Γl.length → j ∉ vs → σ2[j]? = (wipe σ vs)[j]? := fun j hj hn => m2 j (by
                unfold butv
                rw [List.mem_filter]
                exact ⟨List.mem_range.mpr hj, by simpa using hn⟩)
              have hw : wipe σ2 vs = wipe σ vs := (wipe_eq len2 fun j hj hn => off j (by omega) hn).trans wipe_wipe
              refine ⟨hw, ?_⟩
              -- what is apart from the slots
              have sub3 : ∀ a ∈ fp2, a ∈ fr ∨ a ∈ fp := fun a z => (List.mem_append.mp (sub2 a z)).imp (fun y => sub a (by simp [y])) id
              have dD : D ∉ fp2 := fun z => nD (by rcases sub3 D z with y | y <;> simp [y])
              have dfa : ∀ a ∈ fa, a ∉ fp2 := fun a z y => nc a z (by rcases sub3 a y with y | y <;> simp [y])
              have df2 : ∀ a ∈ f2, a ∉ fp2 := fun a z y => (List.mem_append.mp (sub2 a y)).elim (fun y => k3 a y z) (nh a (sub a (by simp [z])))
              have carry : ∀ {Γx : List Ow} {E' : Env} {H4 : Hp} {S4 : Addr → Prop} {fp4 fn : List Addr}, leq Γx Γl = true → Good X.K H4 S4 Γx σ2 E' fp4 → Ev H' S fp2 H4 S4 (fn ++ fp4) → (fn ++ fp4).Nodup → (∀ a ∈ fn, ¬ S4 a) → (∀ a ∈ fn, ∃ xs, H4 a = some (.lst xs)) → (b = true → KO H1 H' H4) →
                  ∃ S5 fp5, Good X.K H4 S5 Γl (wipe σ vs) (clrs vs E') fp5 ∧ Hd (i + 1) H4 S5 f2 ∧ H4 D = some (.lst as) ∧ RpA X.K H4 S5 ρe as ats fa ∧ (D :: (fa ++ (fn ++ (f2 ++ fp5)))).Nodup ∧ (∀ a ∈ D :: (fa ++ (fn ++ f2)), ¬ S5 a) ∧
                    Ev H0 S0 fp0 H4 S5 (D :: (fa ++ (fn ++ (f2 ++ fp5)))) ∧ Fm (· ∈ fp4) H4 H4 S4 S5 := by
                intro Γx E' H4 S4 fp4 fn hx G4 ev4 nd4 s4 is4 kb
                obtain ⟨S5, fp5, G5, ev5, sub5, hS5⟩ := G4.weak hx
                obtain ⟨c1, c2, c3⟩ := nd_app nd4
                have ev45 : Ev H' S fp2 H4 S5 (fn ++ fp5) := ev4.trans (ev5.add fn)
                have ap : ∀ {a : Addr}, (∃ xs, H' a = some (.lst xs)) → a ∉ fp2 → ¬ S a → a ∉ fn ++ fp5 ∧ ¬ S5 a := fun {a} e n z => ev45.apart e.choose_spec n z
                have apn : ∀ a ∈ fn, a ∉ fp5 ∧ ¬ S5 a := fun a z => ev5.apart (is4 a z).choose_spec (c3 a z) (s4 a z)
                have aD := ap ⟨_, eD'⟩ dD (s D (by simp))
                have aa : ∀ a ∈ fa, a ∉ fn ++ fp5 ∧ ¬ S5 a := fun a z => ap (RA'.isl a z) (dfa a z) (s a (by simp [z]))
                have a2 : ∀ a ∈ f2, a ∉ fn ++ fp5 ∧ ¬ S5 a := fun a z => ap (wk.isl h' a z) (df2 a z) (s a (by simp [sub a (show a ∈ f1 ++ f2 by simp [z])]))
                have FF : Fm (· ∈ fp2) H' H4 S S5 := G2.fm ev45
                have lE' := G5.sl.len
                refine ⟨S5, fp5, ⟨(G5.sl.clrs hv).sig (by omega) fun j t hj => ?_, G5.nd, G5.nS, G5.sT⟩, wk.stable h' FF df2 kb, ev45.keep _ _ eD' dD (fun ps z => nomatch z), RA'.fm FF dfa, ?_, fun a z => ?_, ?_, G4.fm ev5⟩
                · obtain ⟨j1, j2⟩ := clrs_get hj
                  have : j < E'.length := (List.getElem?_eq_some_iff.mp j1).1
                  exact (off j (by omega) j2).symm
                · refine List.nodup_cons.mpr ⟨fun z => ?_, nd_mk na (nd_mk c1 (nd_mk k2 G5.nd fun a z y => (a2 a z).1 (by simp [y])) fun a z y => ?_) fun a z y => ?_⟩
                  · simp only [List.mem_append] at z
                    rcases z with z | z | z | z
                    · exact nD (by simp [z])
                    · exact aD.1 (by simp [z])
                    · exact nD (by simp [sub D (show D ∈ f1 ++ f2 by simp [z])])
                    · exact aD.1 (by simp [z])
                  · rcases List.mem_append.mp y with y | y
                    · exact (a2 a y).1 (by simp [z])
                    · exact (apn a z).1 y
                  · simp only [List.mem_append] at y
                    rcases y with y | y | y
                    · exact (aa a z).1 (by simp [y])
                    · exact nc a z (by simp [sub a (show a ∈ f1 ++ f2 by simp [y])])
                    · exact (aa a z).1 (by simp [y])
                · simp only [List.mem_cons, List.mem_append] at z
                  rcases z with z | z | z | z
                  · rw [z]; exact aD.2
                  · exact (aa a z).2
                  · exact (apn a z).2
                  · exact (a2 a z).2
                · have evA : Ev H0 S0 fp0 H' S ((D :: (fa ++ f2)) ++ fp2) := evH.less fun a z => by
                    simp only [List.mem_cons, List.mem_append] at z ⊢
                    rcases z with (z | z | z) | z
                    · exact .inl z
                    · exact .inr (.inl z)
                    · exact .inr (.inr (.inl (sub a (by simp [z]))))
                    · exact .inr (.inr (sub3 a z))
                  exact (evA.trans (ev45.add (D :: (fa ++ f2)))).less fun a z => by
                    simp only [List.mem_cons, List.mem_append] at z ⊢
                    rcases z with z | z | z | z | z
                    · exact .inl (.inl z)
                    · exact .inl (.inr (.inl z))
                    · exact .inr (.inl z)
                    · exact .inl (.inr (.inr z))
                    · exact .inr (.inr z)
              have eclr : ∀ E', E' = E1 → clrs vs E' = E := fun E' e => by rw [e, hgc _ _ _ eg, clrs_of_unset hu']
              cases et : t E1 with
              | none => rw [et] at ego; cases ego
              | some rt =>
                rw [et] at ego
                refine ⟨S, E1, fp2, rt, G2, et, ?_⟩
                cases rt with
                | ex x E2 => cases ego
                | ok c E2 =>
                  intro H3 S3 fp3 G3 ev3 p3
                  cases c with
                  | false =>
                    dsimp only at ego
                    simp only [Bool.false_eq_true, if_false]
                    obtain ⟨S5, fp5, g1, g2, g3, g4, g5, g6, g7, _⟩ := carry (fn := []) hu G3 ev3 G3.nd (fun a z => by simp at z) (fun a z => by simp at z) fun z a o _ e t => (p3 (Bool.and_eq_true_iff.mp (hb z)).1).2 a o e t
                    refine ⟨S5, clrs vs E2, fp5, f2, as, ats, fa, g1, unset_clrs _ _, g2, g3, g4, g5, g6, g7, fun z => ?_, ego⟩
                    obtain ⟨z1, z2⟩ := Bool.and_eq_true_iff.mp z
                    obtain ⟨b1, b2⟩ := p3 (Bool.and_eq_true_iff.mp z2).1
                    obtain ⟨b3, b4⟩ := pp z
                    exact ⟨(eclr E2 b1).trans b3, (b4.trans kp).trans b2⟩
                  | true =>
                    dsimp only at ego
                    simp only [if_true]
                    cases ee : f E2 with
                    | none => rw [ee] at ego; cases ego
                    | some re =>
                      rw [ee] at ego
                      refine ⟨S3, E2, fp3, re, G3, ee, ?_⟩
                      cases re with
                      | ex x E3 => cases ego
                      | ok u E3 =>
                        dsimp only at ego
                        split at ego
                        case isFalse => cases ego
                        rename_i hsz
                        intro v H4 S4 fp4 fr4 G4 R4 nd4 s4 ev4 p4
                        have R4' : Rp X.K H4 S4 ρe v u fr4 := R4
                        obtain ⟨S5, fp5, g1, g2, g3, g4, g5, g6, g7, FF⟩ := carry (fn := fr4) he G4 (ev3.trans ev4) nd4 s4 R4'.isl fun z a o _ e t => (p4 (Bool.and_eq_true_iff.mp (hb z)).2).2 a o ((p3 (Bool.and_eq_true_iff.mp (hb z)).1).2 a o e t) t
                        refine ⟨as, g3, by rw [RA.len]; exact hsz, ?_⟩
                        obtain ⟨nD5, nd5⟩ := List.nodup_cons.mp g5
                        have FD : Fm (· = D) H4 (upd H4 D (.lst (as ++ [v]))) S5 S5 := ⟨fun a o e n _ => by rw [upd_ne n]; exact e, fun _ z => z, fun a z y => g6 D (by simp) (y ▸ z), fun a z => ⟨as, by rw [show a = D from z]; exact g3⟩⟩
                        have nDo : ∀ a ∈ fa ++ (fr4 ++ (f2 ++ fp5)), ¬ a = D := fun a z y => nD5 (y ▸ z)
                        have Rv : Rp X.K (upd H4 D (.lst (as ++ [v]))) S5 ρe v u fr4 := (R4'.fm FF (nd_app nd4).2.2).fm FD fun a z => nDo a (by simp [z])
                        have evU : Ev H4 S5 (D :: (fa ++ (fr4 ++ (f2 ++ fp5)))) (upd H4 D (.lst (as ++ [v]))) S5 (D :: ((fa ++ (fr4 ++ [])) ++ (f2 ++ fp5))) := by
                          exact Ev.mut (by simp) ⟨as, g3⟩ fun a z => by simpa [List.append_assoc] using z
                        refine ⟨S5, clrs vs E3, fp5, f2, as ++ [v], ats ++ [u], fa ++ (fr4 ++ []), ⟨g1.sl.fm FD fun a z => nDo a (by simp [z]), g1.nd, g1.nS, ⟨fun a z => ?_, g1.sT.2.go (tab_mut ⟨as, g3⟩)⟩⟩, unset_clrs _ _, wk.stable g2 FD (fun a z => nDo a (by simp [z])) fun _ a o e0 e t => ?_, upd_same, (g4.fm FD fun a z => nDo a (by simp [z])).app (.cons Rv .nil), ?_, fun a z => ?_, g7.trans evU, fun z => ?_, ego⟩
                        · obtain ⟨o, e, t⟩ := g1.sT.1 a z
                          exact ⟨o, FD.keep a o e (FD.nS a z) t, t⟩
                        · exact FD.keep a o e (fun y => e0 (by rw [y]; exact hD)) t
                        · simpa [List.append_assoc] using g5
                        · exact g6 a (by simpa [List.append_assoc] using z)
                        · obtain ⟨z1, z2⟩ := Bool.and_eq_true_iff.mp z
                          obtain ⟨b1, b2⟩ := p3 (Bool.and_eq_true_iff.mp z2).1
                          obtain ⟨c1, c2⟩ := p4 (Bool.and_eq_true_iff.mp z2).2
                          obtain ⟨b3, b4⟩ := pp z
                          have kall := ((b4.trans kp).trans b2).trans c2
                          refine ⟨(eclr E3 (c1.trans b1)).trans b3, fun a o e t => FD.keep a o (kall a o e t) (fun y => ?_) t⟩
                          rw [y, hD0] at e
                          cases e
        · have hi' : i = ts.length := by omega
          subst hi'
          rw [List.drop_length, flcGo] at ego
          obtain ⟨e3, e4⟩ := Prod.mk.inj (Option.some.inj ego)
          subst e3 e4
          refine .inl ⟨wk.stop h, ?_⟩
          have G5 : Good X.K H S Γl σ E fp := ⟨G.sl.sig (wipe_length σ vs).symm fun i t hi => (wipe_get fun hm => ?_).symm, G.nd, G.nS, G.sT⟩
          · refine q _ H S fp (D :: fa) G5 (.lstO eD RA) ?_ (fun a z => s a ?_) (ev.less fun a z => ?_) pp
            · exact List.nodup_cons.mpr ⟨fun z => nD (by rcases List.mem_append.mp z with z | z <;> simp [z]), nd_mk na ng fun a z y => nc a z (by simp [y])⟩
            · rcases List.mem_cons.mp z with z | z <;> simp [z]
            · simp only [List.cons_append, List.mem_cons, List.mem_append] at z ⊢
              rcases z with z | z | z
              · exact .inl z
              · exact .inr (.inl z)
              · exact .inr (.inr (.inr z))
          · have hu'' := List.all_eq_true.mp (show vs.all _ = true from hu') i hm
            rw [hi] at hu''
            cases hu''

theorem se_lc {b pi pt pe : Bool} {fi : F0 (List T)} {g : T → Env → Option Env} {t : F0 Bool} {f : F0 T} {ρi ρe : Ow} (hc : X.calm = true) (hN : X.N.Nodup) (ok : BlkOk X.N X.env.scope scope own) (hi : SI X W b pi Γ tg iter fi ρi Γ1) (hb : b = true → (pt && pe) = true) (hl : leq Γ1 Γl = true) (hv : ∀ v ∈ own.map (·.2), Γl[v]? = some Ow.sh) (hΓt : allSh Γt = allSh Γl)
    (hgc : ∀ t E E1, g t E = some E1 → clrs (own.map (·.2)) E1 = clrs (own.map (·.2)) E)
    (hg : ∀ (s : Shared) (H : Hp) (C : Addr) (cl : List (Str × Addr)) (fp : List Addr), TG1 (X.blk s H scope (compEnvC scope cl C X.env) fp) (butv Γl.length (own.map (·.2))) Γl tg g ρi Γt)
    (ht : ∀ (s : Shared) (H : Hp) (C : Addr) (cl : List (Str × Addr)) (fp : List Addr), SPt (X.blk s H scope (compEnvC scope cl C X.env) fp) pt Γt ifs t Γu)
    (he : ∀ (s : Shared) (H : Hp) (C : Addr) (cl : List (Str × Addr)) (fp : List Addr), SE (X.blk s H scope (compEnvC scope cl C X.env) fp) W0 pe Γu elt f ρe Γe)
    (hu : leq Γu Γl = true) (hle : leq Γe Γl = true) (hs : ∀ x, foldedSetIterable iter X.env x = pure x := by intro _; rfl) :
    SE X W (pi && (pt && pe)) Γ (.ListComp elt [⟨tg, iter, ifs, 0⟩] scope pos) (flc fi g (own.map (·.2)) t f) (.ow ρe) Γl :=
  pe_imp (pe_lc (g := tT1 X.K (butv Γl.length (own.map fun (x : Str × Nat) => x.2)) Γl g ρi Γt) (tt := tT X.K W0 pt Γt t Γu) (te := tS (V' := V) X.K W0 pe Γu f ρe Γe) hc hN hi ok hg ht he hs) fun _ _ _ q => lc_r hb hl hv hΓt hgc hle hu q
theorem ss_setLc {C : Cf} (i : Nat) {y : Str} {py spos : Pos} {b pi pt pe : Bool} {fi : F0 (List T)} {g : T → Env → Option Env} {t : F0 Bool} {f : F0 T} {ρi ρe : Ow} (hc : X.calm = true) (hN : X.N.Nodup) (ok : BlkOk X.N X.env.scope scope own) (hi : SI X W b pi Γ tg iter fi ρi Γ1) (hb : b = true → (pt && pe) = true) (hl : leq Γ1 Γl = true) (hv : ∀ v ∈ own.map (·.2), Γl[v]? = some Ow.sh) (hΓt : allSh Γt = allSh Γl)
    (hgc : ∀ t E E1, g t E = some E1 → clrs (own.map (·.2)) E1 = clrs (own.map (·.2)) E)
    (hg : ∀ (s : Shared) (H : Hp) (C : Addr) (cl : List (Str × Addr)) (fp : List Addr), TG1 (X.blk s H scope (compEnvC scope cl C X.env) fp) (butv Γl.length (own.map (·.2))) Γl tg g ρi Γt)
    (ht : ∀ (s : Shared) (H : Hp) (C : Addr) (cl : List (Str × Addr)) (fp : List Addr), SPt (X.blk s H scope (compEnvC scope cl C X.env) fp) pt Γt ifs t Γu)
    (he : ∀ (s : Shared) (H : Hp) (C : Addr) (cl : List (Str × Addr)) (fp : List Addr), SE (X.blk s H scope (compEnvC scope cl C X.env) fp) W0 pe Γu elt f ρe Γe)
    (hu : leq Γu Γl = true) (hle : leq Γe Γl = true) (hs : ∀ x, foldedSetIterable iter X.env x = pure x := by intro _; rfl)
    (hsw : swapsWith (.ListComp elt [⟨tg, iter, ifs, 0⟩] scope pos) (some (.Name y py)) spos.line X.env = pure true) (hyl : X.env.scope.names.lookup y = some .local := by rfl) (hy : X.N[i]? = some y := by rfl) (hM : C.M.contains i = false := by rfl) :
    SS X W C Γ (.Assign [.Name y py] (.ListComp elt [⟨tg, iter, ifs, 0⟩] scope pos) spos) (fset i (flc fi g (own.map (·.2)) t f)) (Γl.set i (.ow ρe)) :=
  ps_imp (ps_setLc (g := tT1 X.K (butv Γl.length (own.map fun (x : Str × Nat) => x.2)) Γl g ρi Γt) (tt := tT X.K W0 pt Γt t Γu) (te := tS (V' := V) X.K W0 pe Γu f ρe Γe) hc hN hy hyl hsw hi ok hg ht he hs) fun D σ H q => lc_r hb hl hv hΓt hgc hle hu (set_fin i hM q)
end
end Tr

end
section
set_option maxHeartbeats 2000000
/-! TrE: owned lists changed in place. -/
namespace Tr
open PySem PySem.Spec PyProof.Rows L2
/-- how a list is reached: what it holds, and the slots once it holds something else -/
abbrev Ac := Env → Option (List T × (List T → Env))
def acN (i : Nat) : Ac := fun E => match E[i]? with
  | some (some (.lst ts)) => some (ts, fun us => E.set i (some (.lst us)))
  | _ => none
def acI (i : Nat) (k : P0) : Ac := fun E => match E[i]? with
  | some (some (.lst ts)) => match k E with
    | some (.int j) => match ixN ts.length j with
      | some n => match ts[n]? with
        | some (.lst us) => some (us, fun ws => E.set i (some (.lst (ts.set n (.lst ws)))))
        | _ => none
      | none => none
    | _ => none
  | _ => none
section
variable {K : PySem.W.Frag} {H H' : Hp} {S S' : Addr → Prop} {Γ Γ' : List Ow} {σ : L2.St} {E : Env} {fp fr : List Addr} {ι ρ : Ow}
/-- one item looked at; changed; dropped -/
theorem RpA.mid : ∀ {xs : List V} {ts : List T} {f : List Addr} {k : Nat} {t : T}, RpA K H S ρ xs ts f → ts[k]? = some t → ∃ x f1 f0 f2, xs[k]? = some x ∧ Rp K H S ρ x t f0 ∧ f = f1 ++ (f0 ++ f2) ∧ RpA K H S ρ (xs.eraseIdx k) (ts.eraseIdx k) (f1 ++ f2) ∧
    ∀ (H' : Hp) (x' : V) (t' : T) (f0' : List Addr), (∀ v u g, (∀ a ∈ g, a ∈ f1 ∨ a ∈ f2) → Rp K H S ρ v u g → Rp K H' S ρ v u g) → Rp K H' S ρ x' t' f0' → RpA K H' S ρ (xs.set k x') (ts.set k t') (f1 ++ (f0' ++ f2))
  | _, _, _, k, t, .nil, h => by simp at h
  | _, _, _, 0, t, .cons (f := f) (fs := fs) r rs, h => by
    simp at h
    subst h
    refine ⟨_, [], f, fs, rfl, r, rfl, rs, fun H' x' t' f0' kp r' => ?_⟩
    have : ∀ {vs : List V} {us : List T} {gs : List Addr}, RpA K H S ρ vs us gs → (∀ a ∈ gs, a ∈ fs) → RpA K H' S ρ vs us gs := by
      intro vs us gs q
      induction vs generalizing us gs with
      | nil => intro _; cases q; exact .nil
      | cons v vs ih => intro hg; cases q with
        | cons r1 r2 => exact .cons (kp _ _ _ (fun a z => .inr (hg a (by simp [z]))) r1) (ih r2 fun a z => hg a (by simp [z]))
    exact show RpA K H' S ρ (x' :: _) (t' :: _) (f0' ++ fs) from .cons r' (this rs fun _ z => z)
  | _, _, _, k + 1, t, .cons (f := f) (fs := fs) r rs, h => by
    obtain ⟨x, f1, f0, f2, h1, h2, h3, h4, h5⟩ := RpA.mid (k := k) rs (by simpa using h)
    refine ⟨x, f ++ f1, f0, f2, by simpa using h1, h2, by rw [h3, List.append_assoc], ?_, fun H' x' t' f0' kp r' => ?_⟩
    · rw [List.append_assoc]
      exact .cons r h4
    · rw [List.append_assoc]
      exact .cons (kp _ _ _ (fun a z => .inl (by simp [z])) r) (h5 H' x' t' f0' (fun v u g hg => kp v u g fun a z => (hg a z).imp (fun y => by simp [y]) id) r')
/-- the list l is reached: it holds ts, and may hold something else -/
def Lc (K : PySem.W.Frag) (H : Hp) (S : Addr → Prop) (Γ : List Ow) (σ : L2.St) (fp : List Addr) (ι : Ow) (l : Addr) (ts : List T) (wr : List T → Env) : Prop :=
  ∃ xs f0 f1 f2, H l = some (.lst xs) ∧ RpA K H S ι xs ts f0 ∧ fp = f1 ++ ((l :: f0) ++ f2) ∧
    ∀ xs' ts' f', RpA K (upd H l (.lst xs')) S ι xs' ts' f' → Sl K (upd H l (.lst xs')) S Γ σ (wr ts') (f1 ++ ((l :: f') ++ f2))
theorem lc_name (G : Good K H S Γ σ E fp) {i : Nat} {ts : List T} {wr : List T → Env} (h : acN i E = some (ts, wr)) (hΓ : Γ[i]? = some (.ow ι)) : ∃ l, σ[i]? = some (some (.ref l)) ∧ Lc K H S Γ σ fp ι l ts wr := by
  unfold acN at h
  split at h
  · rename_i us e
    cases h
    obtain ⟨l, xs, f0, f1, f2, h1, h2, h3, h4, h5⟩ := G.sl.mut i G.nd G.nS e hΓ
    exact ⟨l, h1, xs, f0, f1, f2, h2, h3, h4, h5⟩
  · cases h
theorem Lc.upd (G : Good K H S Γ σ E fp) {l : Addr} {ts ts' : List T} {xs' : List V} {wr : List T → Env} {f' g : List Addr} (hm : ∃ xs f0 f1 f2, H l = some (.lst xs) ∧ RpA K H S ι xs ts f0 ∧ fp = f1 ++ ((l :: f0) ++ f2) ∧
    (∀ xs' ts' f', RpA K (L2.upd H l (.lst xs')) S ι xs' ts' f' → Sl K (L2.upd H l (.lst xs')) S Γ σ (wr ts') (f1 ++ ((l :: f') ++ f2))) ∧ (f' ++ g).Nodup ∧ (∀ a ∈ f' ++ g, a ∈ f0 ∨ a ∈ fr) ∧ RpA K H S ι xs' ts' f') (nd : (fr ++ fp).Nodup) (s : ∀ a ∈ fr, ¬ S a) :
    ∃ fp', Good K (L2.upd H l (.lst xs')) S Γ σ (wr ts') fp' ∧ (g ++ fp').Nodup ∧ (∀ a ∈ g, ¬ S a) ∧ Ev H S (fr ++ fp) (L2.upd H l (.lst xs')) S (g ++ fp') ∧ ∀ {ρ : Ow} {v : V} {t : T}, Rp K H S ρ v t g → Rp K (L2.upd H l (.lst xs')) S ρ v t g := by
  obtain ⟨xs, f0, f1, f2, hl, r, e, put, ndg, sub, r'⟩ := hm
  subst e
  obtain ⟨n1, n2, n3⟩ := nd_app nd
  obtain ⟨m1, m2, m3⟩ := nd_app n2
  obtain ⟨m4, m5, m6⟩ := nd_app m2
  obtain ⟨k1, k2⟩ := List.nodup_cons.mp m4
  obtain ⟨g1, g2, g3⟩ := nd_app ndg
  have lS : ¬ S l := G.nS l (by simp)
  have ne : ∀ a, a ∈ f0 ∨ a ∈ fr → ¬ a = l := fun a z y => by
    rcases z with z | z
    · exact k1 (y ▸ z)
    · exact n3 a z (by simp [y])
  have F : Fm (· = l) H (L2.upd H l (.lst xs')) S S := ⟨fun a o e n _ => by rw [upd_ne n]; exact e, fun _ z => z, fun a z y => lS (y ▸ z), fun a z => ⟨xs, by rw [show a = l from z]; exact hl⟩⟩
  have sl := put xs' ts' f' (r'.fm F fun a z => ne a (sub a (by simp [z])))
  have o1 : ∀ a, a ∈ f0 ∨ a ∈ fr → a ∉ f1 := fun a z y => by
    rcases z with z | z
    · exact m3 a y (by simp [z])
    · exact n3 a z (by simp [y])
  have o2 : ∀ a, a ∈ f0 ∨ a ∈ fr → a ∉ f2 := fun a z y => by
    rcases z with z | z
    · exact m6 a (by simp [z]) y
    · exact n3 a z (by simp [y])
  have nS : ∀ a, a ∈ f0 ∨ a ∈ fr → ¬ S a := fun a z => z.elim (fun z => G.nS a (by simp [z])) (s a)
  refine ⟨f1 ++ ((l :: f') ++ f2), ⟨sl, ?_, fun a z => ?_, ⟨fun a z => ?_, G.sT.2.go (tab_mut ⟨xs, hl⟩)⟩⟩, ?_, fun a z => nS a (sub a (by simp [z])), ⟨fun a o e n t => ?_, fun a e => ?_, fun _ z => z, fun _ z => .inl z, fun a z => .inl ?_⟩, fun {ρ v t} r => r.fm F fun a z => ne a (sub a (by simp [z]))⟩
  · refine nd_mk m1 (nd_mk (List.nodup_cons.mpr ⟨fun z => ne l (sub l (by simp [z])) rfl, g1⟩) m5 fun a z y => ?_) fun a z y => ?_
    · rcases List.mem_cons.mp z with z | z
      · exact m6 a (by simp [z]) y
      · exact o2 a (sub a (by simp [z])) y
    · simp only [List.mem_append, List.mem_cons] at y
      rcases y with (y | y) | y
      · exact m3 a z (by simp [y])
      · exact o1 a (sub a (by simp [y])) z
      · exact m3 a z (by simp [y])
  · simp only [List.mem_append, List.mem_cons] at z
    rcases z with z | (z | z) | z
    · exact G.nS a (by simp [z])
    · exact z ▸ lS
    · exact nS a (sub a (by simp [z]))
    · exact G.nS a (by simp [z])
  · obtain ⟨o, e, t⟩ := G.sT.1 a z
    exact ⟨o, F.keep a o e (F.nS a z) t, t⟩
  · refine nd_mk g2 (nd_mk m1 (nd_mk (List.nodup_cons.mpr ⟨fun z => ne l (sub l (by simp [z])) rfl, g1⟩) m5 fun a z y => ?_) fun a z y => ?_) fun a z y => ?_
    · rcases List.mem_cons.mp z with z | z
      · exact m6 a (by simp [z]) y
      · exact o2 a (sub a (by simp [z])) y
    · simp only [List.mem_append, List.mem_cons] at y
      rcases y with (y | y) | y
      · exact m3 a z (by simp [y])
      · exact o1 a (sub a (by simp [y])) z
      · exact m3 a z (by simp [y])
    · have sa := sub a (by simp [z])
      simp only [List.mem_append, List.mem_cons] at y
      rcases y with y | (y | y) | y
      · exact o1 a sa y
      · exact ne a sa y
      · exact g3 a y z
      · exact o2 a sa y
  · exact F.keep a o e (fun z => n (by rw [show a = l from z]; simp)) t
  · by_cases z : a = l
    · rw [z, upd_same] at e; cases e
    · rwa [upd_ne z] at e
  · simp only [List.mem_append, List.mem_cons] at z ⊢
    rcases z with z | z | (z | z) | z
    · rcases sub a (by simp [z]) with y | y
      · exact .inr (.inr (.inl (.inr y)))
      · exact .inl y
    · exact .inr (.inl z)
    · exact .inr (.inr (.inl (.inl z)))
    · rcases sub a (by simp [z]) with y | y
      · exact .inr (.inr (.inl (.inr y)))
      · exact .inl y
    · exact .inr (.inr (.inr z))
end
/-- the object of a method: the list that ac reaches, once more behind the arguments; b: if nothing has changed -/
def OLt (K : PySem.W.Frag) (b : Bool) (Γ : List Ow) (ac : Ac) (ι : Ow) (Γ' : List Ow) : TE := fun σ H Q =>
  ∃ S E fp r, Good K H S Γ σ E fp ∧ ac E = some r ∧ ∀ l, (∃ xs, H l = some (.lst xs)) → (∀ H' S' E' fp' r', Good K H' S' Γ' σ E' fp' → ac E' = some r' → (b = true → E' = E ∧ Kept H H') → Lc K H' S' Γ' σ fp' ι l r'.1 r'.2) → Q (.ref l) H
def OL (X : Cx) (b : Bool) (Γ : List Ow) (o : Expr) (ac : Ac) (ι : Ow) (Γ' : List Ow) : Prop := PE X o (OLt X.K b Γ ac ι Γ')
section
variable {X : Cx} {W : WX} {Γ Γ1 Γ2 Γ' : List Ow} {e o : Expr} {es : List Expr} {pos p0 apos cpos : Pos} {ι : Ow}
theorem ol_name (i : Nat) {x : Str} (hN : X.N[i]? = some x := by rfl) (hΓ : Γ[i]? = some (.ow ι) := by rfl) (hΓ' : Γ'[i]? = some (.ow ι) := by rfl) (hv : Vis X.env.scope x := by first | exact Or.inl rfl | exact Or.inr (Or.inl rfl) | exact Or.inr (Or.inr rfl))
    (hd : (x == ("__debug__" : Str)) = false := by decide) (hcd : (x == ("__classdict__" : Str)) = false := by decide) : OL X false Γ (.Name x pos) (acN i) ι Γ' := by
  refine pe_imp (pe_var hN hv hd hcd) fun σ H Q ⟨S, E, fp, r, G, er, q⟩ => ?_
  obtain ⟨ts, wr⟩ := r
  obtain ⟨l, h1, xs, f0, f1, f2, h2, _⟩ := lc_name G er hΓ
  refine ⟨_, h1, q l ⟨xs, h2⟩ fun H' S' E' fp' r' G' e' _ => ?_⟩
  obtain ⟨ts', wr'⟩ := r'
  obtain ⟨l', h1', h2'⟩ := lc_name G' e' hΓ'
  rw [h1] at h1'
  cases h1'
  exact h2'

theorem lc_item {K : PySem.W.Frag} {H : Hp} {S : Addr → Prop} {σ : L2.St} {E : Env} {fp : List Addr} (G : Good K H S Γ σ E fp) {i : Nat} {kf : P0} {r : List T × (List T → Env)} (h : acI i kf E = some r) (hΓ : Γ[i]? = some (.ow (.ow ι))) :
    ∃ l0 xs0 ts j n l, E[i]? = some (some (.lst ts)) ∧ kf E = some (.int j) ∧ ixN ts.length j = some n ∧ xs0.length = ts.length ∧ σ[i]? = some (some (.ref l0)) ∧ H l0 = some (.lst xs0) ∧ xs0[n]? = some (.ref l) ∧ Lc K H S Γ σ fp ι l r.1 r.2 := by
  unfold acI at h
  split at h
  case h_2 => cases h
  rename_i ts ei
  split at h
  case h_2 => cases h
  rename_i j ej
  split at h
  case h_2 => cases h
  rename_i n en
  split at h
  case h_2 => cases h
  rename_i us eu
  cases h
  obtain ⟨f1, fa, f2, h4, gg, put⟩ := G.sl.put i (List.getElem?_eq_some_iff.mp ei).1
  obtain ⟨ρ0, v0, hr, h1, R0⟩ := gg _ ei
  rw [hΓ] at hr
  cases hr
  obtain ⟨l0, xs0, f0, rfl, rfl, h2, h3⟩ : ∃ l0 xs0 f0, v0 = .ref l0 ∧ fa = l0 :: f0 ∧ H l0 = some (.lst xs0) ∧ RpA K H S (.ow ι) xs0 ts f0 := by
    cases R0 with
    | lstO h r => exact ⟨_, _, _, rfl, rfl, h, r⟩
  obtain ⟨x, g1, g0, g2, k1, k2, k3, _, k5⟩ := h3.mid eu
  cases k2 with
  | lstO hl rl =>
    rename_i l xs gl
    refine ⟨l0, xs0, ts, j, n, l, ei, ej, en, h3.len, h1, h2, k1, xs, gl, f1 ++ (l0 :: g1), g2 ++ f2, hl, rl, ?_, ?_⟩
    · rw [h4, k3]
      simp [List.append_assoc]
    · intro xs' ts' f' r'
      -- the outer list is not changed: its item is the same reference
      have nd := G.nd
      rw [h4, k3] at nd
      have hne : l0 ≠ l := fun z => by
        have := (nd_app (nd_app nd).2.1).1
        rw [← z] at this
        simp [List.nodup_cons] at this
      have ngl : ∀ a, a ∈ g1 ∨ a ∈ g2 → a ≠ l := fun a z y => by
        obtain ⟨_, m2, _⟩ := nd_app nd
        obtain ⟨m3, _, _⟩ := nd_app m2
        obtain ⟨_, m5⟩ := List.nodup_cons.mp m3
        obtain ⟨_, m7, m8⟩ := nd_app m5
        obtain ⟨_, _, m9⟩ := nd_app m7
        rcases z with z | z
        · exact m8 a z (by simp [y])
        · exact m9 a (by simp [y]) z
      have lS : ¬ S l := G.nS l (by rw [h4, k3]; simp)
      have F : Fm (· = l) H (upd H l (.lst xs')) S S := ⟨fun a o e n _ => by rw [upd_ne n]; exact e, fun _ z => z, fun a z y => lS (y ▸ z), fun a z => ⟨xs, by rw [show a = l from z]; exact hl⟩⟩
      have rr := k5 (upd H l (.lst xs')) (.ref l) (.lst ts') (l :: f') (fun v u g hg r => r.fm F fun a z => ngl a (hg a z)) (.lstO upd_same r')
      have ex : xs0.set n (V.ref l) = xs0 := by
        apply List.ext_getElem?
        intro m
        by_cases hm : n = m
        · subst hm
          rw [k1, List.getElem?_set_self (List.getElem?_eq_some_iff.mp k1).1]
        · rw [List.getElem?_set_ne hm]
      rw [ex] at rr
      have nf : ∀ a, a ∈ f1 ∨ a ∈ f2 → a ≠ l := fun a z y => by
        obtain ⟨_, m2, m3⟩ := nd_app nd
        obtain ⟨_, _, m4⟩ := nd_app m2
        rcases z with z | z
        · exact m3 a z (by simp [y])
        · exact m4 a (by simp [y]) z
      have sl := put (upd H l (.lst xs')) S (.ow (.ow ι)) (.ref l0) (.lst (ts.set n (.lst ts'))) (l0 :: (g1 ++ ((l :: f') ++ g2))) (fun ρ v t g hg r => r.fm F fun a z => nf a (hg a z)) (.lstO (by rw [upd_ne hne]; exact h2) rr)
      have eσ : σ.set i (some (V.ref l0)) = σ := by
        apply List.ext_getElem?
        intro j
        by_cases hj : i = j
        · subst hj
          rw [h1, List.getElem?_set_self (List.getElem?_eq_some_iff.mp h1).1]
        · rw [List.getElem?_set_ne hj]
      have eΓ : Γ.set i (Ow.ow (.ow ι)) = Γ := by
        apply List.ext_getElem?
        intro j
        by_cases hj : i = j
        · subst hj
          rw [hΓ, List.getElem?_set_self (List.getElem?_eq_some_iff.mp hΓ).1]
        · rw [List.getElem?_set_ne hj]
      rw [eσ, eΓ] at sl
      simpa [List.append_assoc] using sl
theorem ol_ix (i : Nat) {x : Str} {b : Expr} {kf : P0} {ρ2 : Ow} (h2 : PL X Γ b kf ρ2) (hN : X.N[i]? = some x := by rfl) (hΓ : Γ[i]? = some (.ow (.ow ι)) := by rfl) (hv : Vis X.env.scope x := by first | exact Or.inl rfl | exact Or.inr (Or.inl rfl) | exact Or.inr (Or.inr rfl))
    (hs : PlainIx b := by intro _ _; rfl) (hd : (x == ("__debug__" : Str)) = false := by decide) (hcd : (x == ("__classdict__" : Str)) = false := by decide) : OL X true Γ (.Subscript (.Name x p0) b pos) (acI i kf) ι Γ := by
  refine pe_imp (pe_ix ix_list (pe_var hN hv hd hcd) h2 hs) fun σ H Q ⟨S, E, fp, r, G, er, q⟩ => ?_
  obtain ⟨l0, xs0, ts, j, n, l, e1, e2, e3, e4, e5, e6, e7, xs, _, _, _, e8, _⟩ := lc_item G er hΓ
  refine ⟨_, e5, S, E, fp, .int j, G, e2, fun w fs R2 _ => ⟨l0, xs0, j, .ref l, rfl, R2.ro.int_, SqL.of e6, ?_, q l ⟨xs, e8⟩ fun H' S' E' fp' r' G' e' hk => ?_⟩⟩
  · unfold atI
    rw [e4, e3]
    exact e7
  · obtain ⟨rfl, k⟩ := hk rfl
    obtain ⟨l0', xs0', ts', j', n', l', d1, d2, d3, d4, d5, d6, d7, d8⟩ := lc_item G' e' hΓ
    rw [e5] at d5
    cases d5
    rw [e1] at d1
    cases d1
    rw [e2] at d2
    cases d2
    rw [e3] at d3
    cases d3
    have d9 := k _ _ e6 (fun ps z => nomatch z)
    rw [d6] at d9
    cases d9
    rw [e7] at d7
    cases d7
    exact d8
/-! ### methods that change their list -/
/-- behind the argument: back to the list -/
def fmu1 (ac : Ac) (f : F0 T) (g : T → List T → Option (T × List T)) : F0 T := fun E => (ac E).bind fun _ => match f E with
  | none => none
  | some (.ex x E') => some (.ex x E')
  | some (.ok t E') => (ac E').bind fun r => (g t r.1).map fun z => .ok z.1 (r.2 z.2)
def fmu0 (ac : Ac) (g : List T → Option (T × List T)) : F0 T := fun E => (ac E).bind fun r => (g r.1).map fun z => .ok z.1 (r.2 z.2)
/-- what a method with one argument does to its list: r as the kit has it; ρ the argument's ownership, τ the answer's -/
def Mu1 (K : PySem.W.Frag) (r : V → List V → Hp → VK → Prop) (ρ ι τ : Ow) (g : T → List T → Option (T × List T)) : Prop :=
  ∀ {H : Hp} {S : Addr → Prop} {l : Addr} {v : V} {t : T} {fr : List Addr} {xs : List V} {ts ts' : List T} {f0 : List Addr} {a : T} {Q : VK}, H l = some (.lst xs) → Rp K H S ρ v t fr → RpA K H S ι xs ts f0 → (f0 ++ fr).Nodup → g t ts = some (a, ts') →
    (∀ u xs' f' h, RpA K H S ι xs' ts' f' → Rp K H S τ u a h → (f' ++ h).Nodup → (∀ b ∈ f' ++ h, b ∈ f0 ∨ b ∈ fr) → Q u (upd H l (.lst xs'))) → r (.ref l) [v] H Q
def Mu0 (K : PySem.W.Frag) (r : V → List V → Hp → VK → Prop) (ι τ : Ow) (g : List T → Option (T × List T)) : Prop :=
  ∀ {H : Hp} {S : Addr → Prop} {l : Addr} {xs : List V} {ts ts' : List T} {f0 : List Addr} {a : T} {Q : VK}, H l = some (.lst xs) → RpA K H S ι xs ts f0 → f0.Nodup → g ts = some (a, ts') →
    (∀ u xs' f' h, RpA K H S ι xs' ts' f' → Rp K H S τ u a h → (f' ++ h).Nodup → (∀ b ∈ f' ++ h, b ∈ f0) → Q u (upd H l (.lst xs'))) → r (.ref l) [] H Q
theorem Lc.nd {K : PySem.W.Frag} {H : Hp} {S : Addr → Prop} {σ : L2.St} {E : Env} {fp fr : List Addr} {l : Addr} {f0 f1 f2 : List Addr} (e : fp = f1 ++ ((l :: f0) ++ f2)) (nd : (fr ++ fp).Nodup) : (f0 ++ fr).Nodup := by
  subst e
  obtain ⟨n1, n2, n3⟩ := nd_app nd
  obtain ⟨m1, m2, m3⟩ := nd_app n2
  obtain ⟨m4, m5, m6⟩ := nd_app m2
  exact nd_mk (List.nodup_cons.mp m4).2 n1 fun a z y => n3 a y (by simp [z])
theorem se_mu1 {b p : Bool} {ac : Ac} {f : F0 T} {ρ τ : Ow} {g : T → List T → Option (T × List T)} {name : Str} {r : V → List V → Hp → VK → Prop} (hm : ∀ {to : TE} {t : TA}, PE X o to → PA X [e] t → PE X (.Call (.Attribute o name apos) [e] [] cpos) (tBM X.K "list" r to t)) (ho : OL X b Γ o ac ι Γ1) (he : SE X W p Γ e f ρ Γ1) (hr : Mu1 X.K r ρ ι τ g) (hb : b = true → p = true := by decide)
    (hs : starEach [e] X.env = (false, eval e X.env) :: starEach [] X.env := by rfl) : SE X W false Γ (.Call (.Attribute o name apos) [e] [] cpos) (fmu1 ac f g) τ Γ1 := by
  refine pe_imp (hm ho (pa_cons he pa_nil hs)) fun σ H Q ⟨S, E, fp, r0, G, er, q⟩ => ?_
  unfold fmu1 at er
  obtain ⟨c, ec, er⟩ := Option.bind_eq_some_iff.mp er
  refine ⟨S, E, fp, c, G, ec, fun l ⟨xs0, hl0⟩ st => ⟨.inl ⟨rfl, xs0, SqL.of hl0⟩, ?_⟩⟩
  cases e1 : f E with
  | none => rw [e1] at er; cases er
  | some r1 =>
    rw [e1] at er
    refine ⟨S, E, fp, r1, G, e1, ?_⟩
    cases r1 with
    | ex x E1 =>
      have e' : r0 = .ex x E1 := (Option.some.inj er).symm
      subst e'
      exact q
    | ok t E1 =>
      obtain ⟨⟨ts, wr⟩, ea, er⟩ := Option.bind_eq_some_iff.mp er
      obtain ⟨⟨a, ts'⟩, eg, e'⟩ := Option.map_eq_some_iff.mp er
      subst e'
      intro v H' S' fp' fr G' R nd s ev pp
      have R' : Rp X.K H' S' ρ v t fr := R
      obtain ⟨xs, f0, f1, f2, c1, c2, c3, c4⟩ := st H' S' E1 fp' _ G' ea fun z => pp (hb z)
      refine hr c1 R' c2 (Lc.nd (K := X.K) (H := H') (S := S') (σ := σ) (E := E1) c3 nd) eg fun u xs' f' h d1 d2 d3 d4 => ?_
      obtain ⟨fp2, G2, n2, s2, ev2, mv2⟩ := Lc.upd G' ⟨xs, f0, f1, f2, c1, c2, c3, c4, d3, d4, d1⟩ nd s
      exact q u _ S' fp2 h G2 (mv2 d2) n2 s2 (ev.trans ev2) fun z => by cases z
theorem se_mu0 {b : Bool} {ac : Ac} {τ : Ow} {g : List T → Option (T × List T)} {name : Str} {r : V → List V → Hp → VK → Prop} (hm : ∀ {to : TE}, PE X o to → PE X (.Call (.Attribute o name apos) [] [] cpos) (tBM0 X.K "list" r to)) (ho : OL X b Γ o ac ι Γ) (hr : Mu0 X.K r ι τ g) : SE X W false Γ (.Call (.Attribute o name apos) [] [] cpos) (fmu0 ac g) τ Γ := by
  refine pe_imp (hm ho) fun σ H Q ⟨S, E, fp, r0, G, er, q⟩ => ?_
  unfold fmu0 at er
  obtain ⟨⟨ts, wr⟩, ec, er⟩ := Option.bind_eq_some_iff.mp er
  obtain ⟨⟨a, ts'⟩, eg, e'⟩ := Option.map_eq_some_iff.mp er
  subst e'
  refine ⟨S, E, fp, _, G, ec, fun l ⟨xs0, hl0⟩ st => ⟨.inl ⟨rfl, xs0, SqL.of hl0⟩, ?_⟩⟩
  obtain ⟨xs, f0, f1, f2, c1, c2, c3, c4⟩ := st H S E fp _ G ec fun z => ⟨rfl, Kept.refl _⟩
  have nd0 : (f0 ++ ([] : List Addr)).Nodup := Lc.nd (K := X.K) (H := H) (S := S) (σ := σ) (E := E) (fr := []) c3 G.nd
  refine hr c1 c2 (by simpa using nd0) eg fun u xs' f' h d1 d2 d3 d4 => ?_
  obtain ⟨fp2, G2, n2, s2, ev2, mv2⟩ := Lc.upd (fr := []) G ⟨xs, f0, f1, f2, c1, c2, c3, c4, d3, fun a z => .inl (d4 a z), d1⟩ G.nd (fun a z => by simp at z)
  exact q u _ S fp2 h G2 (mv2 d2) n2 s2 ev2 fun z => by cases z
/-! append, pop, remove, reverse -/
theorem nd_out {f1 g f2 : List Addr} (nd : (f1 ++ (g ++ f2)).Nodup) : ((f1 ++ f2) ++ g).Nodup := by
  obtain ⟨n1, n2, n3⟩ := nd_app nd
  obtain ⟨m1, m2, m3⟩ := nd_app n2
  refine nd_mk (nd_mk n1 m2 fun a z y => n3 a z (by simp [y])) m1 fun a z y => ?_
  rcases List.mem_append.mp z with z | z
  · exact n3 a z (by simp [y])
  · exact m3 a y z
def appT (t : T) (ts : List T) : Option (T × List T) := if ts.length < sizeLine then some (.non, ts ++ [t]) else none
theorem mu_append {K : PySem.W.Frag} {ι : Ow} : Mu1 K rAppend ι ι .sh appT := by
  intro H S l v t fr xs ts ts' f0 a Q hl R r nd e q
  unfold appT at e
  split at e
  · rename_i hz
    cases e
    refine ⟨l, xs, v, rfl, rfl, hl, by rw [r.len]; exact hz, ?_⟩
    exact q _ _ _ [] (r.app (.cons R .nil)) .non (by simpa using nd) fun b z => by simpa using z
  · cases e
def popT (ts : List T) : Option (T × List T) := ts[ts.length - 1]?.map fun t => (t, ts.dropLast)
theorem mu_pop {K : PySem.W.Frag} {ι : Ow} : Mu0 K rPop ι ι popT := by
  intro H S l xs ts ts' f0 a Q hl r nd e q
  unfold popT at e
  obtain ⟨t, et, e⟩ := Option.map_eq_some_iff.mp e
  cases e
  obtain ⟨x, f1, g, f2, h1, h2, h3, h4, _⟩ := r.mid et
  have hlen : 0 < ts.length := by
    have := (List.getElem?_eq_some_iff.mp et).1
    omega
  have el : ∀ {α : Type} (zs : List α), 0 < zs.length → zs.eraseIdx (zs.length - 1) = zs.dropLast := fun zs hz => List.eraseIdx_eq_dropLast (by omega)
  have lx := r.len
  rw [el ts hlen, ← lx, el xs (by omega)] at h4
  refine ⟨l, xs, x, rfl, rfl, hl, by rw [lx]; exact h1, q x _ _ g h4 h2 ?_ fun b z => ?_⟩
  · rw [h3] at nd
    exact nd_out nd
  · rw [h3]
    simp only [List.mem_append] at z ⊢
    rcases z with (z | z) | z
    · exact .inl z
    · exact .inr (.inr z)
    · exact .inr (.inl z)
def popAtT (t : T) (ts : List T) : Option (T × List T) := match t with
  | .int i => if ts.length ≤ sizeLine then (ixN ts.length i).bind fun k => ts[k]?.map fun t => (t, ts.eraseIdx k) else none
  | _ => none
theorem mu_popAt {K : PySem.W.Frag} {ι ρ : Ow} : Mu1 K rPopAt ρ ι ι popAtT := by
  intro H S l v t fr xs ts ts' f0 a Q hl R r nd e q
  unfold popAtT at e
  split at e
  case h_2 => cases e
  split at e
  case isFalse => cases e
  rename_i hz
  rw [sizeLine_eq] at hz
  obtain ⟨k, ek, e⟩ := Option.bind_eq_some_iff.mp e
  obtain ⟨u, eu, e⟩ := Option.map_eq_some_iff.mp e
  cases e
  obtain ⟨j1, j2, j3, j4⟩ := ixN_seq ek
  obtain ⟨x, f1, g, f2, h1, h2, h3, h4, _⟩ := r.mid eu
  refine ⟨l, xs, _, k, x, rfl, by rw [R.ro.int_], hl, by omega, by omega, by rw [r.len]; exact j1, h1, q x _ _ g h4 h2 ?_ fun b z => ?_⟩
  · obtain ⟨n1, _, _⟩ := nd_app nd
    rw [h3] at n1
    exact nd_out n1
  · rw [h3]
    simp only [List.mem_append] at z ⊢
    rcases z with (z | z) | z
    · exact .inl (.inl z)
    · exact .inl (.inr (.inr z))
    · exact .inl (.inr (.inl z))
/-- all whole numbers -/
def ints? : List T → Option (List Int)
  | [] => some []
  | .int i :: ts => (ints? ts).map (i :: ·)
  | _ :: _ => none
theorem ints_r {K : PySem.W.Frag} {H : Hp} {S : Addr → Prop} {ι : Ow} : ∀ {ns : List Int} {xs : List V} {ts : List T}, RoA K H S ι xs ts → ints? ts = some ns → xs = ns.map V.int ∧ ts = ns.map T.int
  | ns, _, _, .nil, h => by
    cases h
    exact ⟨rfl, rfl⟩
  | ns, _, t :: ts, .cons (t := _) r rs, h => by
    cases t with
    | int i =>
      rw [ints?] at h
      obtain ⟨ms, e, e2⟩ := Option.map_eq_some_iff.mp h
      subst e2
      obtain ⟨h1, h2⟩ := ints_r rs e
      rw [h1, h2, r.int_]
      exact ⟨rfl, rfl⟩
    | _ => cases h
theorem RpA.ints {K : PySem.W.Frag} {H : Hp} {S : Addr → Prop} {ι : Ow} : ∀ ns : List Int, RpA K H S ι (ns.map V.int) (ns.map T.int) []
  | [] => .nil
  | n :: ns => RpA.cons (f := []) (fs := []) (.int n) (RpA.ints ns)
def remT (t : T) (ts : List T) : Option (T × List T) := match t with
  | .int k => (ints? ts).bind fun ns => if k ∈ ns then some (.non, (ns.erase k).map .int) else none
  | _ => none
theorem mu_remove {K : PySem.W.Frag} {ι ρ : Ow} : Mu1 K rRemI ρ ι .sh remT := by
  intro H S l v t fr xs ts ts' f0 a Q hl R r nd e q
  cases t with
  | int k =>
    obtain ⟨ns, en, e⟩ := Option.bind_eq_some_iff.mp e
    split at e
    case isFalse => cases e
    rename_i hk
    cases e
    obtain ⟨e1, e2⟩ := ints_r r.ro en
    subst e1 e2
    refine ⟨l, ns, k, ns.idxOf k, rfl, by rw [R.ro.int_], hl, ?_, ?_, ?_⟩
    · rw [List.getElem?_eq_getElem (List.idxOf_lt_length_of_mem hk), List.getElem_idxOf]
    · intro m hm e
      obtain ⟨h1, h2⟩ := List.getElem?_eq_some_iff.mp e
      have := List.not_of_lt_findIdx (p := (· == k)) (xs := ns) (i := m) hm
      simp [h2] at this
    · have ee : ns.eraseIdx (ns.idxOf k) = ns.erase k := by
        rw [List.erase_eq_eraseIdx_of_idxOf rfl]
      rw [ee]
      exact q .non _ [] [] (RpA.ints _) .non .nil fun b z => by simp at z
  | _ => cases e
/-! ### x[k] = .. -/
def fseti (ac : Ac) (k : P0) (f : F0 T) : S0 := aft f fun t E => (ac E).bind fun r => match k E with
  | some (.int j) => (ixN r.1.length j).map fun n => .nx (r.2 (r.1.set n t))
  | _ => none
theorem ss_seti {C : Cf} {b p : Bool} {ac : Ac} {kf : P0} {f : F0 T} {ix : Expr} {spos : Pos} {ρ2 : Ow} (he : SE X W p Γ e f ι Γ1) (ho : OL X b Γ1 o ac ι Γ1) (hk : PL X Γ1 ix kf ρ2) (hp : ∀ {to ti : TE}, PE X o to → PE X ix ti → PG X (.Subscript o ix pos) (gSub to ti rSetL))
    (hs : swapsWithSole [.Subscript o ix pos] e spos.line X.env = pure false := by rfl) (hw : swappedStores [.Subscript o ix pos] e X.env = pure none := by rfl) (h1 : (assignEach [.Subscript o ix pos] X.env).map (·.2) = [assign (.Subscript o ix pos) X.env] := by rfl) :
    SS X W C Γ (.Assign [.Subscript o ix pos] e spos) (fseti ac kf f) Γ1 := by
  refine ps_imp (ps_asg he (hp ho hk) hs hw h1) fun D σ H q => aft_r q fun S E fp t E1 r0 G er q => ?_
  obtain ⟨⟨ts, wr⟩, ea, er⟩ := Option.bind_eq_some_iff.mp er
  dsimp only at er
  split at er
  case h_2 => cases er
  rename_i j ek
  obtain ⟨n, en, e'⟩ := Option.map_eq_some_iff.mp er
  subst e'
  intro v H' S' fp' fr G' R nd s ev pp
  have R' : Rp X.K H' S' ι v t fr := R
  refine ⟨S', E1, fp', _, G', ea, fun l hl0 st => ⟨S', E1, fp', .int j, G', ek, fun w fw Rw _ => ?_⟩⟩
  obtain ⟨xs, f0, f1, f2, c1, c2, c3, c4⟩ := st H' S' E1 fp' _ G' ea fun _ => ⟨rfl, Kept.refl _⟩
  obtain ⟨j1, j2, j3, j4⟩ := ixN_seq en
  obtain ⟨x, g1, g0, g2, k1, k2, k3, k4, k5⟩ := c2.mid (List.getElem?_eq_getElem j2)
  refine ⟨l, xs, j, n, rfl, Rw.ro.int_, c1, by rw [c2.len]; exact en, ?_⟩
  have rr := k5 H' v t fr (fun _ _ _ _ r => r) R'
  have nd2 := Lc.nd (K := X.K) (H := H') (S := S') (σ := σ) (E := E1) c3 nd
  have nd3 : ((g1 ++ (fr ++ g2)) ++ ([] : List Addr)).Nodup := by
    rw [List.append_nil]
    rw [k3] at nd2
    obtain ⟨n1, n2, n3⟩ := nd_app nd2
    obtain ⟨m1, m2, m3⟩ := nd_app n1
    obtain ⟨m4, m5, m6⟩ := nd_app m2
    refine nd_mk m1 (nd_mk n2 m5 fun a z y => n3 a (by simp [y]) z) fun a z y => ?_
    rcases List.mem_append.mp y with y | y
    · exact n3 a (by simp [z]) y
    · exact m3 a z (by simp [y])
  obtain ⟨fp2, G2, n2, s2, ev2, _⟩ := Lc.upd (g := []) G' ⟨xs, f0, f1, f2, c1, c2, c3, c4, nd3, fun a z => by
    rw [k3]
    simp only [List.append_nil, List.mem_append] at z ⊢
    rcases z with z | z | z
    · exact .inl (.inl z)
    · exact .inr z
    · exact .inl (.inr (.inr z)), rr⟩ nd s
  exact q σ _ S' fp2 G2 (ev.trans ev2) (Mk.refl _ _)
end
end Tr

end
section
set_option maxHeartbeats 2000000
/-! TrF: built-in functions. -/
namespace Tr
open PySem PySem.Spec PyProof.Rows L2
section
variable {K : PySem.W.Frag} {H : Hp} {S : Addr → Prop}
/-- a sequence: a list (whoever owns it), a tuple -/
def T.sq : T → Option (List T)
  | .lst xs => some xs
  | .tup xs => some xs
  | .fz xs => some xs
  | _ => none
theorem Ro.fzl {ρ : Ow} {v : V} {ts : List T} (h : Ro K H S ρ v (.fz ts)) : ∃ a xs, v = .ref a ∧ SqL K H a xs ∧ RoA K H S .sh xs ts := by
  cases h with
  | fz h r => exact ⟨_, _, rfl, h.sq, r⟩
theorem Ro.seq {ρ : Ow} {v : V} {t : T} {ts : List T} (h : Ro K H S ρ v t) (e : t.sq = some ts) : ∃ a xs i, v = .ref a ∧ (SqL K H a xs ∨ SqT K H a xs) ∧ RoA K H S i xs ts ∧ (flat ρ = true → i = .sh) := by
  cases t <;> simp only [T.sq] at e <;> (try cases e)
  case lst =>
    obtain ⟨a, xs, i, rfl, h1, h2, h3, h4⟩ := h.lst
    exact ⟨a, xs, i, rfl, .inl (SqL.of h1), h2, fun hf => (flat_or hf).elim h3 (h4 _)⟩
  case tup =>
    obtain ⟨a, xs, rfl, h1, h2⟩ := h.tupl
    exact ⟨a, xs, .sh, rfl, .inr h1, h2, fun _ => rfl⟩
  case fz =>
    obtain ⟨a, xs, rfl, h1, h2⟩ := h.fzl
    exact ⟨a, xs, .sh, rfl, .inl h1, h2, fun _ => rfl⟩
theorem Ro.seqL {ρ : Ow} {v : V} {ts : List T} (h : Ro K H S ρ v (.lst ts)) : ∃ a xs i, v = .ref a ∧ SqL K H a xs ∧ RoA K H S i xs ts ∧ (flat ρ = true → i = .sh) := by
  obtain ⟨a, xs, i, rfl, h1, h2, h3, h4⟩ := h.lst
  exact ⟨a, xs, i, rfl, SqL.of h1, h2, fun hf => (flat_or hf).elim h3 (h4 _)⟩
/-! len, int, all, any, sum -/
abbrev rLenC (K : PySem.W.Frag) : List V → Hp → VK → Prop := fun xs H Q => ∃ x n, xs = [x] ∧ LenV K x H n ∧ Q (.int n) H
abbrev rIntC : List V → Hp → VK → Prop := fun xs H Q => (∃ i, xs = [.int i] ∧ Q (.int i) H) ∨ ∃ k, xs = [.bl k] ∧ Q (.int (if k then 1 else 0)) H
def lenT : T → Option T
  | .str z => if z.length ≤ sizeLine then some (.int z.length) else none
  | t => t.sq.map fun ts => .int ts.length
theorem c_len : C1s K (rLenC K) lenT := by
  intro H S ρ x a c Q r e q
  unfold lenT at e
  split at e
  · split at e
    · rename_i z hz
      cases e
      rw [r.str_]
      exact ⟨_, _, rfl, ⟨hz, rfl⟩, q _ (.int _)⟩
    · cases e
  · obtain ⟨ts, e1, e2⟩ := Option.map_eq_some_iff.mp e
    subst e2
    obtain ⟨a, xs, i, rfl, h, r2, _⟩ := r.seq e1
    refine ⟨_, xs.length, rfl, ?_, by rw [r2.len]; exact q _ (.int _)⟩
    rcases h with h | h
    · exact .inl ⟨xs, h, rfl⟩
    · exact .inr ⟨xs, h, rfl⟩
def intT : T → Option T
  | .int i => some (.int i)
  | .bl b => some (.int (if b then 1 else 0))
  | _ => none
theorem c_int : C1s K rIntC intT := by
  intro H S ρ x a c Q r e q
  cases a <;> simp only [intT] at e <;> (try cases e)
  · rw [r.bl_]
    exact .inr ⟨_, rfl, q _ (.int _)⟩
  · rw [r.int_]
    exact .inl ⟨_, rfl, q _ (.int _)⟩
/-- all truth values -/
def bls? : List T → Option (List Bool)
  | [] => some []
  | .bl i :: ts => (bls? ts).map (i :: ·)
  | _ :: _ => none
theorem bls_r {ι : Ow} : ∀ {ns : List Bool} {xs : List V} {ts : List T}, RoA K H S ι xs ts → bls? ts = some ns → xs = ns.map V.bl
  | ns, _, _, .nil, h => by
    cases h
    rfl
  | ns, _, t :: ts, .cons (t := _) r rs, h => by
    cases t with
    | bl i =>
      rw [bls?] at h
      obtain ⟨ms, e, e2⟩ := Option.map_eq_some_iff.mp h
      subst e2
      rw [bls_r rs e, r.bl_]
      rfl
    | _ => cases h
def allT : T → Option T
  | .lst ts => (bls? ts).map fun bs => .bl (bs.all id)
  | _ => none
def anyT : T → Option T
  | .lst ts => (bls? ts).map fun bs => .bl (bs.any id)
  | _ => none
theorem c_all : C1s K (rAll K) allT := by
  intro H S ρ x a c Q r e q
  cases a <;> simp only [allT] at e <;> (try cases e)
  obtain ⟨bs, e1, e2⟩ := Option.map_eq_some_iff.mp e
  subst e2
  obtain ⟨a, xs, i, rfl, h, r2, _⟩ := r.seqL
  cases bls_r r2 e1
  exact ⟨a, bs, rfl, h, q _ (.bl _)⟩
theorem c_any : C1s K (rAny K) anyT := by
  intro H S ρ x a c Q r e q
  cases a <;> simp only [anyT] at e <;> (try cases e)
  obtain ⟨bs, e1, e2⟩ := Option.map_eq_some_iff.mp e
  subst e2
  obtain ⟨a, xs, i, rfl, h, r2, _⟩ := r.seqL
  cases bls_r r2 e1
  exact ⟨a, bs, rfl, h, q _ (.bl _)⟩
def sumT : T → Option T
  | .lst ts => (ints? ts).map fun bs => .int bs.sum
  | _ => none
theorem c_sum : C1s K (rSum K) sumT := by
  intro H S ρ x a c Q r e q
  cases a <;> simp only [sumT] at e <;> (try cases e)
  obtain ⟨bs, e1, e2⟩ := Option.map_eq_some_iff.mp e
  subst e2
  obtain ⟨a, xs, i, rfl, h, r2, _⟩ := r.seqL
  cases (ints_r r2 e1).1
  exact ⟨a, bs, rfl, h, q _ (.int _)⟩
/-! max, min of a list; of two -/
def maxL : List Int → Option Int
  | [] => none
  | n :: ns => some (ns.foldl max n)
def minL : List Int → Option Int
  | [] => none
  | n :: ns => some (ns.foldl min n)
theorem foldl_max : ∀ (ns : List Int) (n : Int), n ≤ ns.foldl max n ∧ (∀ y ∈ ns, y ≤ ns.foldl max n) ∧ (ns.foldl max n = n ∨ ns.foldl max n ∈ ns)
  | [], n => ⟨Int.le_refl n, by simp, .inl rfl⟩
  | m :: ns, n => by
    obtain ⟨h1, h2, h3⟩ := foldl_max ns (max n m)
    refine ⟨?_, fun y hy => ?_, ?_⟩
    · exact Int.le_trans (Int.le_max_left n m) h1
    · rcases List.mem_cons.mp hy with e | e
      · rw [e]; exact Int.le_trans (Int.le_max_right n m) h1
      · exact h2 y e
    · rw [List.foldl_cons]
      rcases h3 with e | e
      · rw [e]
        by_cases h : n ≤ m
        · exact .inr (by simp [Int.max_eq_right h])
        · exact .inl (Int.max_eq_left (by omega))
      · exact .inr (List.mem_cons_of_mem _ e)
theorem foldl_min : ∀ (ns : List Int) (n : Int), ns.foldl min n ≤ n ∧ (∀ y ∈ ns, ns.foldl min n ≤ y) ∧ (ns.foldl min n = n ∨ ns.foldl min n ∈ ns)
  | [], n => ⟨Int.le_refl n, by simp, .inl rfl⟩
  | m :: ns, n => by
    obtain ⟨h1, h2, h3⟩ := foldl_min ns (min n m)
    refine ⟨?_, fun y hy => ?_, ?_⟩
    · exact Int.le_trans h1 (Int.min_le_left n m)
    · rcases List.mem_cons.mp hy with e | e
      · rw [e]; exact Int.le_trans h1 (Int.min_le_right n m)
      · exact h2 y e
    · rw [List.foldl_cons]
      rcases h3 with e | e
      · rw [e]
        by_cases h : n ≤ m
        · exact .inl (Int.min_eq_left h)
        · exact .inr (by simp [Int.min_eq_right (show m ≤ n by omega)])
      · exact .inr (List.mem_cons_of_mem _ e)
def maxT : T → Option T
  | .lst ts => (ints? ts).bind fun bs => (maxL bs).map T.int
  | _ => none
def minT : T → Option T
  | .lst ts => (ints? ts).bind fun bs => (minL bs).map T.int
  | _ => none
theorem c_max : C1s K (rMax K) maxT := by
  intro H S ρ x a c Q r e q
  cases a <;> simp only [maxT] at e <;> (try cases e)
  obtain ⟨bs, e1, e⟩ := Option.bind_eq_some_iff.mp e
  obtain ⟨m, e3, e2⟩ := Option.map_eq_some_iff.mp e
  subst e2
  obtain ⟨a, xs, i, rfl, h, r2, _⟩ := r.seqL
  cases (ints_r r2 e1).1
  cases bs with
  | nil => cases e3
  | cons n ns =>
    cases e3
    obtain ⟨h1, h2, h3⟩ := foldl_max ns n
    refine ⟨a, n :: ns, rfl, h, by simp, fun m hm hy => ?_⟩
    have : m = ns.foldl max n := Int.le_antisymm (by rcases List.mem_cons.mp hm with e | e; exact e ▸ h1; exact h2 m e) (hy _ (by rcases h3 with e | e; rw [e]; simp; simp [e]))
    rw [this]
    exact q _ (.int _)
theorem c_min : C1s K (rMin K) minT := by
  intro H S ρ x a c Q r e q
  cases a <;> simp only [minT] at e <;> (try cases e)
  obtain ⟨bs, e1, e⟩ := Option.bind_eq_some_iff.mp e
  obtain ⟨m, e3, e2⟩ := Option.map_eq_some_iff.mp e
  subst e2
  obtain ⟨a, xs, i, rfl, h, r2, _⟩ := r.seqL
  cases (ints_r r2 e1).1
  cases bs with
  | nil => cases e3
  | cons n ns =>
    cases e3
    obtain ⟨h1, h2, h3⟩ := foldl_min ns n
    refine ⟨a, n :: ns, rfl, h, by simp, fun m hm hy => ?_⟩
    have : m = ns.foldl min n := Int.le_antisymm (hy _ (by rcases h3 with e | e; rw [e]; simp; simp [e])) (by rcases List.mem_cons.mp hm with e | e; exact e ▸ h1; exact h2 m e)
    rw [this]
    exact q _ (.int _)
abbrev rMax2C : List V → Hp → VK → Prop := fun xs H Q => ∃ i j, xs = [.int i, .int j] ∧ Q (.int (if j > i then j else i)) H
abbrev rMin2C : List V → Hp → VK → Prop := fun xs H Q => ∃ i j, xs = [.int i, .int j] ∧ Q (.int (if j < i then j else i)) H
def max2T : List T → Option T
  | [.int i, .int j] => some (.int (if j > i then j else i))
  | _ => none
def min2T : List T → Option T
  | [.int i, .int j] => some (.int (if j < i then j else i))
  | _ => none
/-- of several operands, whoever owns them; the answer a scalar -/
def CLs (K : PySem.W.Frag) (r : List V → Hp → VK → Prop) (g : List T → Option T) : Prop := ∀ H S ρs xs ts c Q, RoL K H S ρs xs ts → g ts = some c → (∀ z, Sc z c → Q z H) → r xs H Q
theorem c_max2 : CLs K rMax2C max2T := by
  intro H S ρs xs ts c Q r e q
  unfold max2T at e
  split at e
  case h_2 => cases e
  cases e
  cases r with
  | cons r1 r => cases r with
    | cons r2 r => cases r with
      | nil =>
        rw [r1.int_, r2.int_]
        exact ⟨_, _, rfl, q _ (.int _)⟩
theorem c_min2 : CLs K rMin2C min2T := by
  intro H S ρs xs ts c Q r e q
  unfold min2T at e
  split at e
  case h_2 => cases e
  cases e
  cases r with
  | cons r1 r => cases r with
    | cons r2 r => cases r with
      | nil =>
        rw [r1.int_, r2.int_]
        exact ⟨_, _, rfl, q _ (.int _)⟩
/-! list(..), sorted(..) -/
abbrev rListC (K : PySem.W.Frag) : List V → Hp → VK → Prop := fun xs H Q => ∃ p ys, xs = [.ref p] ∧ (SqL K H p ys ∨ SqT K H p ys) ∧ ∀ l, H l = none → Q (.ref l) (upd H l (.lst ys))
def listT (t : T) : Option T := t.sq.map .lst
theorem c_list : CL K (rListC K) (one listT) := by
  intro H S ρs xs ts c Q hf hr e q
  cases hr with
  | nil => cases e
  | cons r1 r2 => cases r2 with
    | nil =>
      obtain ⟨us, e1, e2⟩ := Option.map_eq_some_iff.mp e
      subst e2
      obtain ⟨a, ys, i, rfl, h, r3, hi⟩ := r1.seq e1
      rw [hi (by simpa using hf)] at r3
      exact ⟨a, ys, rfl, h, fun l hl => q _ _ (.lst hl r3)⟩
    | cons _ _ => cases e
theorem srt_uniq : ∀ {l m : List Int}, l.Perm m → l.Pairwise (· ≤ ·) → m.Pairwise (· ≤ ·) → l = m := by
  intro l m h a b
  exact h.eq_of_pairwise (fun x y _ _ h1 h2 => Int.le_antisymm h1 h2) a b
def srt (ns : List Int) : List Int := ns.mergeSort fun a b => decide (a ≤ b)
theorem srt_perm (ns : List Int) : (srt ns).Perm ns := List.mergeSort_perm ns _
theorem srt_le (ns : List Int) : (srt ns).Pairwise (· ≤ ·) := by
  have := List.pairwise_mergeSort (le := fun (a b : Int) => decide (a ≤ b)) (fun a b c h1 h2 => by simp at *; omega) (fun a b => by simp; omega) ns
  exact this.imp fun h => by simpa using h
def sortT : T → Option T
  | .lst ts => (ints? ts).map fun ns => .lst ((srt ns).map .int)
  | _ => none
theorem RoA.ints {ι : Ow} : ∀ ns : List Int, RoA K H S ι (ns.map V.int) (ns.map T.int)
  | [] => .nil
  | n :: ns => .cons (.int n) (RoA.ints ns)
theorem c_sorted : CL K (rSortedI K) (one sortT) := by
  intro H S ρs xs ts c Q hf hr e q
  cases hr with
  | nil => cases e
  | cons r1 r2 => cases r2 with
    | nil =>
      rename_i t
      have e : sortT t = some c := e
      cases t <;> simp only [sortT] at e <;> (try cases e)
      obtain ⟨ns, e1, e2⟩ := Option.map_eq_some_iff.mp e
      subst e2
      obtain ⟨a, ys, i, rfl, h, r3, hi⟩ := r1.seqL
      cases (ints_r r3 e1).1
      refine ⟨a, ns, rfl, h, fun ns' p hp hs hl => ?_⟩
      rw [srt_uniq (hp.trans (srt_perm ns).symm) hs (srt_le ns)]
      exact q _ _ (.lst hl (RoA.ints _))
    | cons _ _ => cases e
end
/-! ### isinstance -/
def tyT : T → Option String
  | .non => some "NoneType"
  | .bl _ => some "bool"
  | .int _ => some "int"
  | .str _ => some "str"
  | .lst _ => some "list"
  | .tup _ => some "tuple"
  | .box (.dct _) _ => some "dict"
  | _ => none
def isiT (n : String) (t : T) : Option T := (tyT t).bind fun m => (kitB m n).map T.bl
theorem SqT.ty {K : PySem.W.Frag} {H : Hp} {a : Addr} {xs : List V} (h : SqT K H a xs) : TyX K H (.ref a) (.type "tuple") := by
  rcases h with (h | ⟨o, h⟩) | ⟨o, its, n, hk, hc, _⟩
  · exact .base (.tup h)
  · exact .fTuple h
  · exact .kTuple hk hc
theorem Ro.ty {K : PySem.W.Frag} {H : Hp} {S : Addr → Prop} {ρ : Ow} {v : V} {t : T} {m : String} (h : Ro K H S ρ v t) (e : tyT t = some m) : TyX K H v (.type m) := by
  cases t <;> simp only [tyT] at e <;> (try cases e)
  case non => rw [h.non_]; exact .base .non
  case bl => rw [h.bl_]; exact .base (.bl _)
  case int => rw [h.int_]; exact .base (.int _)
  case str => rw [h.str_]; exact .base (.str _)
  case lst =>
    obtain ⟨a, xs, i, rfl, h1, _⟩ := h.lst
    exact .base (.lst h1)
  case tup =>
    obtain ⟨a, xs, rfl, h1, _⟩ := h.tupl
    exact SqT.ty h1
  case box k ts =>
    cases k <;> simp only [] at e <;> (try cases e)
    cases h with
    | box hb _ => exact .base (.dK hb.2.1)
section
variable {X : Cx} {W : WX} {Γ Γ1 Γ' : List Ow} {a e : Expr} {es : List Expr} {pos p0 p1 : Pos}
theorem pl_isi {n : String} {x : Str} {f : P0} {ρ : Ow} (hR : ∀ {t : TA}, PA X [a, .Name x p1] t → PE X e (tCB (rIsi X.K) t)) (hg : Gl X x) (hm : X.mg x = none) (hv : bootBuiltins x = some (.type n)) (h1 : PL X Γ a f ρ) (hn : x ≠ "__name__" := by decide) (hd : (x == ("__debug__" : Str)) = false := by decide)
    (hs : starEach [a, .Name x p1] X.env = (false, eval a X.env) :: starEach [.Name x p1] X.env := by rfl) (hs2 : starEach [.Name x p1] X.env = (false, eval (.Name x p1) X.env) :: starEach [] X.env := by rfl) : PL X Γ e (pp1 (isiT n) f) .sh := by
  have hty : PE X (.Name x p1) (tC (.ty n)) := pe_bltn hg hm hv rfl hn hd
  refine pe_imp (hR (pa_cons h1 (pa_cons hty pa_nil hs2) hs)) fun σ H Q ⟨S, E, fp, c, G, er, q⟩ => ?_
  unfold pp1 at er
  obtain ⟨t, e1, er⟩ := Option.bind_eq_some_iff.mp er
  refine ⟨S, E, fp, t, G, e1, fun v fr R _ => ?_⟩
  obtain ⟨m, em, er⟩ := Option.bind_eq_some_iff.mp er
  obtain ⟨b, eb, er⟩ := Option.map_eq_some_iff.mp er
  subst er
  exact ⟨v, .ty n, .type m, .type n, b, rfl, .ty n, R.ro.ty em, kit_ty eb, q _ [] (.bl _) fun a z => by simp at z⟩
/-! ### one or several operands, the answer a scalar -/
variable {r : List V → Hp → VK → Prop} {g : T → Option T} {gl : List T → Option T}
theorem se_one {b p : Bool} {f : F0 T} {ρ : Ow} (hR : ∀ {t : TA}, PA X [a] t → PE X e (tCB r t)) (hb : C1s X.K r g) (h1 : OE X W b p Γ a f ρ Γ') (hs : starEach [a] X.env = (false, eval a X.env) :: starEach [] X.env := by rfl) : SE X W p Γ e (F0.bind f (lf g)) .sh Γ' := by
  refine pe_imp (hR (pa_cons h1 pa_nil hs)) fun σ H Q ⟨S, E, fp, r, G, er, q⟩ => ?_
  unfold F0.bind at er
  cases e1 : f E with
  | none => rw [e1] at er; cases er
  | some r1 =>
    rw [e1] at er
    refine ⟨S, E, fp, r1, G, e1, ?_⟩
    cases r1 with
    | ex x E1 =>
      have e' : r = .ex x E1 := (Option.some.inj er).symm
      subst e'
      exact q
    | ok t E1 =>
      obtain ⟨d, ed, e'⟩ := lf_some er
      subst e'
      intro v H' S' fp' G' ev pp st
      have s1 := st H' S' fp' (Ev.refl fun _ z => z) (fun _ => Kept.refl _)
      exact hb H' S' _ v t d Q s1 ed fun z s => q z H' S' fp' [] G' s.rp G'.nd (fun a z => by simp at z) ev pp
theorem se_cls {b p : Bool} {f : F0 (List T)} {ρs : List Ow} (hR : ∀ {t : TA}, PA X es t → PE X e (tCB r t)) (hb : CLs X.K r gl) (h1 : OA X W b p Γ es f ρs Γ') : SE X W p Γ e (F0.bind f (lf gl)) .sh Γ' := by
  refine pe_imp (hR h1) fun σ H Q ⟨S, E, fp, r, G, er, q⟩ => ?_
  unfold F0.bind at er
  cases e1 : f E with
  | none => rw [e1] at er; cases er
  | some r1 =>
    rw [e1] at er
    refine ⟨S, E, fp, r1, G, e1, ?_⟩
    cases r1 with
    | ex x E1 =>
      have e' : r = .ex x E1 := (Option.some.inj er).symm
      subst e'
      exact q
    | ok t E1 =>
      obtain ⟨d, ed, e'⟩ := lf_some er
      subst e'
      intro v H' S' fp' G' ev pp st
      have s1 := st H' S' fp' (Ev.refl fun _ z => z) (fun _ => Kept.refl _)
      exact hb H' S' _ v t d Q s1 ed fun z s => q z H' S' fp' [] G' s.rp G'.nd (fun a z => by simp at z) ev pp
end
/-! ### repr -/
mutual
def toD : T → Option PyData
  | .non => some .none
  | .bl b => some (.bool b)
  | .int i => some (.int i)
  | .str x => some (.str x)
  | .lst xs => (toDs xs).map .list
  | .tup xs => (toDs xs).map .tuple
  | .fz xs => (toDs xs).map .list
  | .adr _ => none
  | .box _ _ => none
def toDs : List T → Option (List PyData)
  | [] => some []
  | x :: xs => (toD x).bind fun d => (toDs xs).map (d :: ·)
end
mutual
theorem toD_noDict : ∀ {t : T} {d : PyData}, toD t = some d → d.hasDict = false
  | .non, d, h => by cases h; rfl
  | .bl _, d, h => by cases h; rfl
  | .int _, d, h => by cases h; rfl
  | .str _, d, h => by cases h; rfl
  | .adr _, d, h => by cases h
  | .box _ _, d, h => by cases h
  | .lst xs, d, h => by
    simp only [toD] at h
    obtain ⟨ds, e, e2⟩ := Option.map_eq_some_iff.mp h
    subst e2
    simp only [PyData.hasDict]
    exact toDs_noDict e
  | .tup xs, d, h => by
    simp only [toD] at h
    obtain ⟨ds, e, e2⟩ := Option.map_eq_some_iff.mp h
    subst e2
    simp only [PyData.hasDict]
    exact toDs_noDict e
  | .fz xs, d, h => by
    simp only [toD] at h
    obtain ⟨ds, e, e2⟩ := Option.map_eq_some_iff.mp h
    subst e2
    simp only [PyData.hasDict]
    exact toDs_noDict e
theorem toDs_noDict : ∀ {t : List T} {d : List PyData}, toDs t = some d → PyData.hasDictAll d = false
  | [], d, h => by
    simp only [toDs] at h
    cases h
    rfl
  | t :: ts, d, h => by
    simp only [toDs] at h
    obtain ⟨x, e, h⟩ := Option.bind_eq_some_iff.mp h
    obtain ⟨ds, e1, e2⟩ := Option.map_eq_some_iff.mp h
    subst e2
    simp only [PyData.hasDictAll]
    rw [toD_noDict e, toDs_noDict e1]
    rfl
end
section
variable {X : Cx} {pins : List (Addr × Obj)} {σ : L2.St} {H : Hp} {S : Addr → Prop} {s : Shared}
mutual
theorem Ro.reads (I : Inv X pins σ H s) : ∀ {ρ : Ow} {v : V} {t : T} {u : Value} {d : PyData}, Ro X.K H S ρ v t → L2.RelV v u → toD t = some d → ∃ as, Reads s.heap u d as
  | _, _, _, u, d, .non, r, e => by
    cases (show u = Value.none from r)
    simp only [toD] at e
    cases e
    exact ⟨_, .none⟩
  | _, _, _, u, d, .bl b, r, e => by
    cases (show u = Value.bool b from r)
    simp only [toD] at e
    cases e
    exact ⟨_, .bool b⟩
  | _, _, _, u, d, .int i, r, e => by
    obtain ⟨t, rfl⟩ := (show ∃ t, u = Value.int i t from r)
    simp only [toD] at e
    cases e
    exact ⟨_, .int i t⟩
  | _, _, _, u, d, .str x, r, e => by
    obtain ⟨t, rfl⟩ := (show ∃ t, u = Value.str x t from r)
    simp only [toD] at e
    cases e
    exact ⟨_, .str x t⟩
  | _, _, _, u, d, .adr _, r, e => by simp only [toD] at e; cases e
  | _, _, _, u, d, .box _ _, r, e => by simp only [toD] at e; cases e
  | _, .ref a, _, u, d, .lstS h _ q, r, e => by
    cases (show u = Value.ref a from r)
    simp only [toD] at e
    obtain ⟨ds, e1, rfl⟩ := Option.map_eq_some_iff.mp e
    obtain ⟨its, rv, ⟨o, n, h1, h2, h3, h4⟩, _⟩ := I.list (SqL.of h)
    obtain ⟨as, ra⟩ := RoA.reads I q rv e1
    exact ⟨_, .list h1 h2 h4 ra⟩
  | _, .ref a, _, u, d, .fz h q, r, e => by
    cases (show u = Value.ref a from r)
    simp only [toD] at e
    obtain ⟨ds, e1, rfl⟩ := Option.map_eq_some_iff.mp e
    obtain ⟨its, rv, ⟨o, n, h1, h2, h3, h4⟩, _⟩ := I.list h.sq
    obtain ⟨as, ra⟩ := RoA.reads I q rv e1
    exact ⟨_, .list h1 h2 h4 ra⟩
  | _, .ref a, _, u, d, .lstO h q, r, e => by
    cases (show u = Value.ref a from r)
    simp only [toD] at e
    obtain ⟨ds, e1, rfl⟩ := Option.map_eq_some_iff.mp e
    obtain ⟨its, rv, ⟨o, n, h1, h2, h3, h4⟩, _⟩ := I.list (SqL.of h)
    obtain ⟨as, ra⟩ := RoA.reads I q rv e1
    exact ⟨_, .list h1 h2 h4 ra⟩
  | _, .ref a, _, u, d, .tup h q, r, e => by
    cases (show u = Value.ref a from r)
    simp only [toD] at e
    obtain ⟨ds, e1, rfl⟩ := Option.map_eq_some_iff.mp e
    obtain ⟨its, rv, ⟨o, h1, h2, n, h4⟩, _⟩ := I.tuple h
    obtain ⟨as, ra⟩ := RoA.reads I q rv e1
    exact ⟨_, .tuple h1 h2 h4 ra⟩
theorem RoA.reads (I : Inv X pins σ H s) : ∀ {ρ : Ow} {v : List V} {t : List T} {u : List Value} {d : List PyData}, RoA X.K H S ρ v t → Vals v u → toDs t = some d → ∃ as, ReadsAll s.heap u d as
  | _, _, _, _, d, .nil, .nil, e => by
    simp only [toDs] at e
    cases e
    exact ⟨_, .nil⟩
  | _, _, _, _, d, .cons r rs, .cons w ws, e => by
    simp only [toDs] at e
    obtain ⟨x, e1, e⟩ := Option.bind_eq_some_iff.mp e
    obtain ⟨ds, e2, rfl⟩ := Option.map_eq_some_iff.mp e
    obtain ⟨a1, h1⟩ := Ro.reads I r w e1
    obtain ⟨a2, h2⟩ := RoA.reads I rs ws e2
    exact ⟨_, .cons h1 h2⟩
end
end
def reprBx : Bx → Option T
  | .dct [] => some (.str "{}")
  | _ => none
def reprT : T → Option T
  | .non => some (.str "None")
  | .bl b => some (.str (if b then "True" else "False"))
  | .int i => if i.natAbs.log2 < 1920 then some (.str (toString i)) else none
  | .str x => if (reprText x).length ≤ sizeLine then some (.str (reprText x)) else none
  | .box k _ => reprBx k
  | t => (toD t).bind fun d => if d.showable && decide (d.depth < 20) && decide (d.shown.length ≤ sizeLine) then some (.str d.shown) else none
def rReprC (K : PySem.W.Frag) : List V → Hp → VK → Prop := fun xs H Q => ∃ x S ρ t c, xs = [x] ∧ Ro K H S ρ x t ∧ reprT t = some (.str c) ∧ Q (.str c) H
theorem reprT_str {t c : T} (h : reprT t = some c) : ∃ z, c = .str z := by
  cases t <;> simp only [reprT] at h
  case non => cases h; exact ⟨_, rfl⟩
  case bl => cases h; exact ⟨_, rfl⟩
  case int => split at h <;> cases h; exact ⟨_, rfl⟩
  case str => split at h <;> cases h; exact ⟨_, rfl⟩
  case box k ts =>
    unfold reprBx at h
    split at h <;> cases h
    exact ⟨_, rfl⟩
  all_goals
    obtain ⟨d, _, h⟩ := Option.bind_eq_some_iff.mp h
    split at h <;> cases h
    exact ⟨_, rfl⟩
theorem c_repr {K : PySem.W.Frag} : C1s K (rReprC K) reprT := by
  intro H S ρ x a c Q r e q
  obtain ⟨z, rfl⟩ := reprT_str e
  exact ⟨x, S, ρ, a, z, rfl, r, e, q _ (.str _)⟩
theorem cr_repr {X : Cx} (hg : X.A.guards = some []) (hu : X.A.units + 21 < cLine) : CallR X (.builtin "repr") (rReprC X.K) := by
  intro pins s σ H xs us Q I r h
  obtain ⟨x, S, ρ, t, c, rfl, ro, e, q⟩ := h
  obtain ⟨u, rfl, rx⟩ := vals1 r
  have big : ∀ (d : PyData), toD t = some d → (if d.showable && decide (d.depth < 20) && decide (d.shown.length ≤ sizeLine) then some (T.str d.shown) else none) = some (T.str c) → (∃ a, u = .ref a) → wpAny (model X.prog X.w) X.A (call (.builtin "repr") [u]) (EP X pins σ Q) X.xe s := by
    intro d ed e ⟨a, ea⟩
    split at e
    case isFalse => cases e
    rename_i hc
    simp only [Bool.and_eq_true, decide_eq_true_eq] at hc
    cases e
    obtain ⟨as, rd⟩ := ro.reads I rx ed
    subst ea
    exact repr_of_reads' rd hc.1.1 (fun z => by rw [toD_noDict ed] at z; cases z) hg (by omega) (fun _ _ e => e) (fun h' u tk hk => ⟨.str _, H, I.kept hk, ⟨_, rfl⟩, q⟩) hc.2
  cases t <;> simp only [reprT] at e
  case non =>
    cases ro.non_
    cases (show u = Value.none from rx)
    cases e
    exact PySem.P.repr_of_none ⟨.str _, H, I.tok _, ⟨_, rfl⟩, q⟩
  case bl b =>
    cases ro.bl_
    cases (show u = Value.bool b from rx)
    cases e
    exact PySem.P.repr_of_bool ⟨.str _, H, I.tok _, ⟨_, rfl⟩, q⟩
  case int i =>
    cases ro.int_
    obtain ⟨t, rfl⟩ := (show ∃ t, u = Value.int i t from rx)
    split at e <;> cases e
    rename_i hi
    exact PySem.P.repr_of_int hi ⟨.str _, H, I.tok _, ⟨_, rfl⟩, q⟩
  case str z =>
    cases ro.str_
    obtain ⟨t, rfl⟩ := (show ∃ t, u = Value.str z t from rx)
    split at e <;> cases e
    rename_i hi
    exact PySem.P.repr_of_str ⟨.str _, H, I.tok _, ⟨_, rfl⟩, q⟩ hi
  case lst =>
    obtain ⟨d, ed, e⟩ := Option.bind_eq_some_iff.mp e
    obtain ⟨a, xs, i, rfl, _⟩ := ro.lst
    exact big d ed e ⟨a, rx⟩
  case tup =>
    obtain ⟨d, ed, e⟩ := Option.bind_eq_some_iff.mp e
    obtain ⟨a, xs, rfl, _⟩ := ro.tupl
    exact big d ed e ⟨a, rx⟩
  case fz =>
    obtain ⟨d, ed, e⟩ := Option.bind_eq_some_iff.mp e
    obtain ⟨a, xs, rfl, _⟩ := ro.fzl
    exact big d ed e ⟨a, rx⟩
  case adr => obtain ⟨d, ed, e⟩ := Option.bind_eq_some_iff.mp e; cases ed
  case box k ts =>
    cases k with
    | exc c f => cases e
    | clo f c q ws => cases e
    | dct ks =>
      cases ks with
      | cons _ _ => cases e
      | nil =>
        cases (show some (T.str "{}") = some (T.str c) from e)
        cases ro with
        | @box _ a _ vs _ hb _ =>
          obtain ⟨hl, hd, _⟩ := hb
          cases vs with
          | cons _ _ => cases hl
          | nil =>
            cases (show u = Value.ref a from rx)
            obtain ⟨_, hsm, kv, rel, o, es, ep, h1, h2, h3, h4, h5, _⟩ := (show ObjOk X.prog X.w H s.heap a (.dK []) from I.hok a _ hd)
            cases rel
            have hes : es.toList = [] := List.eq_nil_of_length_eq_zero h5.length
            have hdp : (PyData.dict []).depth < 5 := by decide
            have rd : Reads s.heap (.ref a) (.dict []) (a :: [] ++ []) := .dict h1 h2.1 h3 (by rw [hes]; exact .nil) (by rw [hes]; exact .nil)
            exact repr_of_reads' rd rfl (fun _ z => by
              simp at z
              rw [z] at hsm
              simp at hsm) hg (by omega) (fun _ _ e => e) (fun h' u tk hk => ⟨.str _, H, I.kept hk, ⟨_, rfl⟩, q⟩) (by decide)
end Tr

end
section
set_option maxHeartbeats 2000000
/-! TrG: list(range(..)), names stored side by side, op=. -/
namespace Tr
open PySem PySem.Spec PyProof.Rows L2
section
variable {X : Cx} {W : WX} {C : Cf} {Γ Γ1 Γ2 Γ' : List Ow} {a b c e tg : Expr} {es : List Expr} {pos p0 p1 pos2 : Pos}
def lrg1 (t : T) : Option T := match t with
  | .int j => if j.natAbs ≤ 2 ^ 24 then some (.lst (rngT 0 j.toNat)) else none
  | _ => none
def lrg2 (t u : T) : Option T := match t, u with
  | .int i, .int j => if i.natAbs < 2 ^ 61 && j.natAbs < 2 ^ 61 && decide ((j - i).toNat ≤ 2 ^ 24) then some (.lst (rngT i (j - i).toNat)) else none
  | _, _ => none
theorem rgV_T {K : PySem.W.Frag} {H : Hp} {S : Addr → Prop} {ι : Ow} (i j : Int) : RoA K H S ι (rgV i j) (rngT i (j - i).toNat) := by
  unfold rgV rngT
  induction (List.range (j - i).toNat) with
  | nil => exact .nil
  | cons n l ih => exact .cons (.int _) ih
theorem se_lrg1 {b p : Bool} {f : F0 T} {ρ : Ow} (hc : X.calm = true) (hg : Gl X "list") (hm : X.mg "list" = none) (hg2 : Gl X "range") (hm2 : X.mg "range" = none) (h : OE X W b p Γ a f ρ Γ') (na : starEach [a] X.env = (false, eval a X.env) :: starEach [] X.env := by rfl)
    (nb : starEach [.Call (.Name "range" p0) [a] [] pos] X.env = (false, eval (.Call (.Name "range" p0) [a] [] pos) X.env) :: starEach [] X.env := by rfl) :
    SE X W p Γ (.Call (.Name "list" p1) [.Call (.Name "range" p0) [a] [] pos] [] pos2) (F0.bind f (lf lrg1)) (.ow .sh) Γ' := by
  refine pe_imp (pe_listRg hc hg hm (prg_1 hg2 hm2 h na) nb) fun σ H Q ⟨S, E, fp, r, G, er, q⟩ => ?_
  unfold F0.bind at er
  cases e1 : f E with
  | none => rw [e1] at er; cases er
  | some r1 =>
    rw [e1] at er
    refine ⟨S, E, fp, r1, G, e1, ?_⟩
    cases r1 with
    | ex x E1 =>
      have e' : r = .ex x E1 := (Option.some.inj er).symm
      subst e'
      exact q
    | ok t E1 =>
      obtain ⟨d, ed, e'⟩ := lf_some er
      subst e'
      intro v H' S' fp' G' ev pp st
      have s1 := st H' S' fp' (Ev.refl fun _ z => z) fun _ => Kept.refl _
      unfold lrg1 at ed
      split at ed
      case h_2 => cases ed
      split at ed
      case isFalse => cases ed
      rename_i j hz
      cases ed
      refine ⟨j, s1.int_, ⟨by omega, by omega, by omega, by omega, by omega⟩, fun l hl => nw_pok G' ev pp (.lst hl ?_) q⟩
      have := rgV_T (K := X.K) (H := H') (S := S') (ι := .sh) 0 j
      rwa [Int.sub_zero] at this
theorem se_lrg2 {b1 b2 p2 p3 : Bool} {f1 f2 : F0 T} {ρ1 ρ2 : Ow} (hc : X.calm = true) (hg : Gl X "list") (hm : X.mg "list" = none) (hg2 : Gl X "range") (hm2 : X.mg "range" = none) (h1 : OE X W b1 p2 Γ a f1 ρ1 Γ1) (h2 : OE X W b2 p3 Γ1 b f2 ρ2 Γ2) (hq : b1 = true → p3 = true := by decide) (hΓ : allSh Γ1 = allSh Γ := by rfl)
    (na : starEach [a, b] X.env = (false, eval a X.env) :: starEach [b] X.env := by rfl) (nb : starEach [b] X.env = (false, eval b X.env) :: starEach [] X.env := by rfl) (hp : (backTo pos (starEach [b] X.env)).any (·.1) = false := by rfl)
    (nc : starEach [.Call (.Name "range" p0) [a, b] [] pos] X.env = (false, eval (.Call (.Name "range" p0) [a, b] [] pos) X.env) :: starEach [] X.env := by rfl) :
    SE X W (p2 && p3) Γ (.Call (.Name "list" p1) [.Call (.Name "range" p0) [a, b] [] pos] [] pos2) (F0.bind f1 fun x => F0.bind f2 fun y => lf (lrg2 x) y) (.ow .sh) Γ2 := by
  refine pe_imp (pe_listRg hc hg hm (prg_2 hg2 hm2 h1 h2 na nb hp) nc) fun σ H Q ⟨S, E, fp, r, G, er, q⟩ => ?_
  refine tR_bind (R := fun x y H2 => ∃ i j : Int, x = V.int i ∧ y = V.int j ∧ RgOk i j ∧ ∀ q, H2 q = none → Q (.ref q) (upd H2 q (.lst (rgV i j)))) (h := fun x y => lf (lrg2 x) y) hq hΓ (fun _ _ _ z => z) (fun _ _ _ z => z) S E fp r G er (fun x E' e => by subst e; exact q) ?_
  intro x y t ts H2 S2 fp2 E2 G2 ev pp st e
  obtain ⟨c, ec, e'⟩ := lf_some e
  subst e'
  obtain ⟨s1, s2⟩ := st H2 S2 fp2 (Ev.refl fun _ z => z) (fun _ => Kept.refl _)
  unfold lrg2 at ec
  split at ec
  case h_2 => cases ec
  split at ec
  case isFalse => cases ec
  rename_i i j hz
  cases ec
  rw [Bool.and_eq_true, Bool.and_eq_true] at hz
  have z1 := of_decide_eq_true hz.1.1
  have z2 := of_decide_eq_true hz.1.2
  have z3 := of_decide_eq_true hz.2
  exact ⟨i, j, s1.int_, s2.int_, ⟨by omega, by omega, by omega, by omega, by omega⟩, fun l hl => nw_pok G2 ev pp (.lst hl (rgV_T i j)) q⟩
/-! ### several names stored at once -/
def aftA (f : F0 (List T)) (k : List T → Env → Option Fl) : S0 := fun E => match f E with
  | none => none
  | some (.ok t E') => k t E'
  | some (.ex x E') => some (.ex x E')
theorem aftA_r {p : Bool} {f : F0 (List T)} {ρ : Ow} {k : List T → Env → Option Fl} {σ : L2.St} {H : Hp} {D : Ends} {R : List V → Hp → Prop} (q : tQ X.K W C Γ (aftA f k) Γ' D σ H)
    (h : ∀ S E fp t E' r, Good X.K H S Γ σ E fp → k t E' = some r → Qf X.K W C Γ Γ' H S fp σ D r → Pok (V' := List V) X.K p H S fp E Γ1 σ ρ t E' R) : tS (V' := List V) X.K W p Γ f ρ Γ1 σ H R := by
  obtain ⟨S, E, fp, r, G, er, q⟩ := q
  unfold aftA at er
  cases e1 : f E with
  | none => rw [e1] at er; cases er
  | some r1 =>
    rw [e1] at er
    refine ⟨S, E, fp, r1, G, e1, ?_⟩
    cases r1 with
    | ex x E1 =>
      have e' : r = .ex x E1 := (Option.some.inj er).symm
      subst e'
      exact fun cls d H' S' fp' G' xa ev => q cls d σ H' S' fp' G' xa ev
    | ok t E1 => exact h S E fp t E1 r G er q
def fpar2 (i j : Nat) (f : F0 (List T)) : S0 := aftA f fun ts E => match ts with
  | [t, u] => some (.nx ((E.set i (some t)).set j (some u)))
  | _ => none
def fpar3 (i j l : Nat) (f : F0 (List T)) : S0 := aftA f fun ts E => match ts with
  | [t, u, v] => some (.nx (((E.set i (some t)).set j (some u)).set l (some v)))
  | _ => none
theorem ss_par {i j : Nat} {x y : Str} {px py pt : Pos} {kt k2 pt2} {p : Bool} {f : F0 (List T)} (hc : X.calm = true) (hN : X.N.Nodup) (ha : SA X W p Γ [a, b] f .sh Γ1) (hi : X.N[i]? = some x) (hj : X.N[j]? = some y) (hij : i ≠ j := by decide)
    (hw : swappedStores [.Tuple [.Name x px, .Name y py] kt pt] (.Tuple [a, b] k2 pt2) X.env = pure (some [x, y]) := by rfl)
    (hx : X.env.scope.names.lookup x = some .local := by rfl) (hy : X.env.scope.names.lookup y = some .local := by rfl) (hMi : C.M.contains i = false := by rfl) (hMj : C.M.contains j = false := by rfl)
    (hs : swapsWithSole [.Tuple [.Name x px, .Name y py] kt pt] (.Tuple [a, b] k2 pt2) pos.line X.env = pure false := by rfl) :
    SS X W C Γ (.Assign [.Tuple [.Name x px, .Name y py] kt pt] (.Tuple [a, b] k2 pt2) pos) (fpar2 i j f) ((Γ1.set i .sh).set j .sh) := by
  refine ps_imp (ps_par hc hN hi hj hij hx hy ha hw hs) fun D σ H q => aftA_r q fun S E fp t E' r G er q => ?_
  split at er
  case h_2 => cases er
  cases er
  intro v H' S' fp' fr G' R nd s ev pp
  have R' : RpA X.K H' S' .sh v [_, _] fr := R
  cases R' with
  | cons r1 R' => cases R' with
    | cons r2 R' => cases R' with
      | nil =>
        have e1 := r1.sh_nil
        have e2 := r2.sh_nil
        subst e1 e2
        obtain ⟨fp2, G2, s2⟩ := G'.set i r1 G'.nd (fun a z => by simp at z)
        obtain ⟨fp3, G3, s3⟩ := G2.set j r2 G2.nd (fun a z => by simp at z)
        exact ⟨_, _, rfl, q _ H' S' fp3 G3 (ev.less fun a z => by simpa using s2 a (s3 a z)) ((Mk.set hMi σ _).trans (Mk.set hMj _ _))⟩
theorem ss_par3 {i j l : Nat} {x y z : Str} {px py pz pt : Pos} {kt k2 pt2} {p : Bool} {f : F0 (List T)} (hc : X.calm = true) (hN : X.N.Nodup) (ha : SA X W p Γ [a, b, c] f .sh Γ1) (hi : X.N[i]? = some x) (hj : X.N[j]? = some y) (hl : X.N[l]? = some z) (hij : i ≠ j := by decide) (hil : i ≠ l := by decide) (hjl : j ≠ l := by decide)
    (hw : swappedStores [.Tuple [.Name x px, .Name y py, .Name z pz] kt pt] (.Tuple [a, b, c] k2 pt2) X.env = pure (some [x, y, z]) := by rfl)
    (hx : X.env.scope.names.lookup x = some .local := by rfl) (hy : X.env.scope.names.lookup y = some .local := by rfl) (hz : X.env.scope.names.lookup z = some .local := by rfl) (hMi : C.M.contains i = false := by rfl) (hMj : C.M.contains j = false := by rfl) (hMl : C.M.contains l = false := by rfl)
    (hs : swapsWithSole [.Tuple [.Name x px, .Name y py, .Name z pz] kt pt] (.Tuple [a, b, c] k2 pt2) pos.line X.env = pure false := by rfl) :
    SS X W C Γ (.Assign [.Tuple [.Name x px, .Name y py, .Name z pz] kt pt] (.Tuple [a, b, c] k2 pt2) pos) (fpar3 i j l f) (((Γ1.set i .sh).set j .sh).set l .sh) := by
  refine ps_imp (ps_par3 hc hN hi hj hl hij hil hjl hx hy hz ha hw hs) fun D σ H q => aftA_r q fun S E fp t E' r G er q => ?_
  split at er
  case h_2 => cases er
  cases er
  intro v H' S' fp' fr G' R nd s ev pp
  have R' : RpA X.K H' S' .sh v [_, _, _] fr := R
  cases R' with
  | cons r1 R' => cases R' with
    | cons r2 R' => cases R' with
      | cons r3 R' => cases R' with
        | nil =>
          have e1 := r1.sh_nil
          have e2 := r2.sh_nil
          have e3 := r3.sh_nil
          subst e1 e2 e3
          obtain ⟨fp2, G2, s2⟩ := G'.set i r1 G'.nd (fun a z => by simp at z)
          obtain ⟨fp3, G3, s3⟩ := G2.set j r2 G2.nd (fun a z => by simp at z)
          obtain ⟨fp4, G4, s4⟩ := G3.set l r3 G3.nd (fun a z => by simp at z)
          exact ⟨_, _, _, rfl, q _ H' S' fp4 G4 (ev.less fun a z => by simpa using s2 a (by simpa using s3 a (s4 a z))) (((Mk.set hMi σ _).trans (Mk.set hMj _ _)).trans (Mk.set hMl _ _))⟩
/-- a target that takes a thing apart -/
def fasg (g : T → Env → Option Env) (f : F0 T) : S0 := aft f fun t E => (g t E).map Fl.nx
theorem ss_asg {p : Bool} {f : F0 T} {ρ : Ow} {g : T → Env → Option Env} (he : SE X W p Γ e f ρ Γ1) (hg : TG1 X C.M Γ1 tg g ρ Γ2) (hs : swapsWithSole [tg] e pos.line X.env = pure false := by rfl) (hw : swappedStores [tg] e X.env = pure none := by rfl)
    (h1 : (assignEach [tg] X.env).map (·.2) = [assign tg X.env] := by rfl) : SS X W C Γ (.Assign [tg] e pos) (fasg g f) Γ2 := by
  refine ps_imp (ps_asg he hg hs hw h1) fun D σ H q => aft_r q fun S E fp t E' r G er q => ?_
  obtain ⟨E2, e2, e'⟩ := Option.map_eq_some_iff.mp er
  subst e'
  intro v H' S' fp' fr G' R nd s ev pp
  exact ⟨S', E', fp', t, fr, E2, G', R, nd, s, e2, fun σ2 fp2 G2 s2 m2 => q σ2 H' S' fp2 G2 (ev.less s2) m2⟩
/-! ### name op= e, a scalar -/
def faug (i : Nat) (g : T → T → Option T) (f : F0 T) : S0 := fun E => (vr i E).bind fun a => aft f (fun b E' => (g a b).map fun c => .nx (E'.set i (some c))) E
theorem ss_aug (i : Nat) {b p : Bool} {x : Str} {op : Operator} {pos' : Pos} {f : F0 T} {ρ : Ow} {r : R2} {g : T → T → Option T} (hN : X.N.Nodup) (ho : PIp X op r) (hb : B2s X.K r g) (he : OE X W b p Γ e f ρ Γ1) (hi : X.N[i]? = some x := by rfl) (hx : Loc X.env.scope x := by first | exact Or.inl rfl | exact Or.inr rfl)
    (hΓ : Γ[i]? = some .sh := by rfl) (hM : C.M.contains i = false := by rfl) (hf : X.fn x = true ∨ X.env.scope.names.lookup x = some .local := by first | exact .inl rfl | exact .inr rfl) : SS X W C Γ (.AugAssign (.Name x pos') op e pos) (faug i g f) (Γ1.set i .sh) := by
  refine ps_imp (ps_aug hN hi hx he ho hf) fun D σ H ⟨S, E, fp, r, G, er, q⟩ => ?_
  obtain ⟨a, ea, er⟩ := Option.bind_eq_some_iff.mp er
  obtain ⟨v, fv, h1, h2, h3⟩ := G.at_ (vr_some ea) hΓ
  refine ⟨v, h1, S, E, fp, ?_⟩
  unfold aft at er
  cases e1 : f E with
  | none => rw [e1] at er; cases er
  | some r1 =>
    rw [e1] at er
    refine ⟨r1, G, rfl, ?_⟩
    cases r1 with
    | ex x E1 =>
      have e' : r = .ex x E1 := (Option.some.inj er).symm
      subst e'
      exact fun cls d H' S' fp' G' xa ev => q cls d σ H' S' fp' G' xa ev
    | ok t E1 =>
      obtain ⟨c, ec, e'⟩ := Option.map_eq_some_iff.mp er
      subst e'
      intro u H' S' fp' G' ev pp st
      have s1 := st H' S' fp' (Ev.refl fun _ z => z) fun _ => Kept.refl _
      have z := h2.sh_nil
      subst z
      have h2' : Rp X.K H' S' .sh v a [] := h2.fm (G.fm ev) fun a z => by simp at z
      refine hb H' S' _ _ v u a t c _ h2'.ro s1 ec fun z sz => ?_
      obtain ⟨fp2, G2, s2⟩ := G'.set i (sz.rp (ρ := .sh)) G'.nd (fun a z => by simp at z)
      exact q _ H' S' fp2 G2 (ev.less fun a z => by simpa using s2 a z) (Mk.set hM σ _)
end
end Tr

end
section
set_option maxHeartbeats 2000000
/-! TrH: the end: a law's def called. -/
namespace Tr
open PySem PySem.Spec PyProof.Rows L2
/-- nothing raised is taken -/
abbrev NoX : XK := fun _ _ _ => False
/-- what a lambda's making asks of each code object -/
def TbB (K : PySem.W.Frag) (mg : Str → Option Value) (base : Heap) : Prop := ∀ p ∈ codesK K, LamX.TabB base mg p.1 p.2.1
theorem codesK_no {K : PySem.W.Frag} {p : Addr × Addr × Str} (h : p ∈ codesK K) : K.lookup p.2.1 = none := by
  unfold codesK at h
  obtain ⟨q, _, e⟩ := List.mem_filterMap.mp h
  split at e
  case h_2 => cases e
  split at e
  case h_2 => cases e
  split at e
  case isFalse => cases e
  rename_i hc
  cases e
  exact Option.isNone_iff_eq_none.mp hc.2
abbrev noObj : Obj := { cls := .none, data := .fields #[] }
/-- the law's def, called behind the top, answers True -/
theorem lawG {P : Program} {w : World} {K : PySem.W.Frag} {mg mb : Str → Option Value} {k : Nat} {fa a : Addr} {fd : FuncData} {x : Str} {sp : Sp} {s : Shared} {vs : List Value} {ns : List Int}
    (inK : K.In s.heap) (nsG : s.heap.Ns mainGlobals mg) (nsB : s.heap.Ns builtinsNs mb) (boot : ∀ y : Str, y ≠ "__name__" → mb y = bootBuiltins y) (noLim : s.heap.NoLimit) (gens : s.gens = #[])
    (tabs : ∀ p ∈ codesK K, s.heap.get? p.2.1 = some noObj) (codes : ∀ p ∈ codesK K, PySem.W.CodeHd s.heap p.1 p.2.1)
    (bm : ∃ (b : Addr) (o : Obj), mg "__builtins__" = some (.ref b) ∧ b ≠ builtinsNs ∧ s.heap.get? b = some o ∧ o.cls = .type "module" ∧ o.dict = some builtinsNs ∧ o.data = .plain)
    (scr : s.heap.get? a = some { cls := .type "list", data := .seq vs.toArray }) (are : IntsAre vs ns) (few : ns.length ≤ sizeLine) (room : Room k callerA)
    (F : ∀ base : Heap, K.In base → base.Ns mainGlobals mg → TbB K mg base → FnG P w K mg base k fa fd [x] sp) (bnd : ∀ (s : Shared) (u : Value), BindsTo s fd ⟨[u], []⟩ [(x, u)])
    (good : ∀ H : Hp, SqF K H a (ns.map V.int) → TbK K H → sp [.ref a] H (fun v _ => v = .bl true) NoX) :
    codeAny (model P w) callerA (.call (.ref fa) ⟨[.ref a], []⟩) (fun r s' => r = .ok (.ret (.bool true)) ∧ OldK s.heap s'.heap ∧ s'.os = s.os ∧ AllBare s'.gens) s := by
  have items := vals_ints are
  have nlen := are.length
  -- the tables
  let tb : Addr → Prop := fun b => ∃ p ∈ codesK K, p.2.1 = b
  have tbAt : ∀ {b : Addr}, tb b → s.heap.get? b = some noObj := fun {b} ⟨p, hp, e⟩ => e ▸ tabs p hp
  have tbNo : ∀ {b : Addr}, tb b → K.lookup b = none := fun {b} ⟨p, hp, e⟩ => e ▸ codesK_no hp
  have aNo : ¬ tb a := fun z => by
    have q := tbAt z
    rw [scr] at q
    cases (show Data.seq vs.toArray _ = Data.fields #[] from congrArg Obj.data (Option.some.inj q))
  -- H tells at most the script, as an object that stays, and the tables
  have main : ∀ H : Hp, SqF K H a (ns.map V.int) → HOk P w H s.heap → (∀ b u, H b = some u → (b = a ∧ K.lookup a = none ∧ ∃ o xs, u = .frz o (.lst xs)) ∨ (tb b ∧ u = .tbl #[])) → (∀ b, tb b → H b = some (.tbl #[])) →
      codeAny (model P w) callerA (.call (.ref fa) ⟨[.ref a], []⟩) (fun r s' => r = .ok (.ret (.bool true)) ∧ OldK s.heap s'.heap ∧ s'.os = s.os ∧ AllBare s'.gens) s := by
    intro H sq hok only isT
    have un : ∀ {b : Addr}, b ≠ a → ¬ tb b → H b = none := fun {b} hb ht => by
      cases q : H b with
      | none => rfl
      | some u =>
        rcases only b u q with z | z
        · exact absurd z.1 hb
        · exact absurd z.1 ht
    -- an object of another kind is not told
    have other : ∀ {b : Addr} {o : Obj}, s.heap.get? b = some o → (∀ l n, o.data ≠ .seq l n) → o.data ≠ .fields #[] → H b = none := fun {b o} e h1 h2 => un (fun z => by
        rw [z, scr] at e
        cases e
        exact h1 _ _ rfl) fun z => by
        rw [tbAt z] at e
        cases e
        exact h2 rfl
    have otherD : ∀ {b : Addr} {o : Obj} {es : Array DictEntry} {ep : Nat}, s.heap.get? b = some o → o.data = .dict es ep → H b = none := fun {b o es ep} e d => other e (fun l n z => by rw [d] at z; cases z) fun z => by rw [d] at z; cases z
    have nsAt : ∀ {b : Addr} {m : Str → Option Value}, s.heap.Ns b m → (hidT s.heap H).Ns b m := by
      rintro b m ⟨o, es, ep, e, d, r⟩
      exact ⟨o, es, ep, hidT_get e (otherD e d), d, r⟩
    have inB : K.In (hidT s.heap H) := fun b o e => by
      refine hidT_get (inK b o e) ?_
      cases q : H b with
      | none => rfl
      | some u =>
        rcases only b u q with ⟨rfl, nk, _⟩ | ⟨ht, _⟩
        · rw [nk] at e
          cases e
        · rw [tbNo ht] at e
          cases e
    have tbb : TbB K mg (hidT s.heap H) := fun p hp => by
      have hTp := tabs p hp
      refine ⟨?_, ?_, fun z => ?_⟩
      · obtain ⟨o, us, file, tf, flags, tg, inF, text, tt, e1, r1, r2, r3, rest⟩ := codes p hp
        refine ⟨o, us, file, tf, flags, tg, inF, text, tt, hidT_get e1 (other e1 (fun l n z => by rw [r2] at z; cases z) fun z => ?_), r1, r2, r3, rest⟩
        rw [r2] at z
        cases z
        simp at r3
      · obtain ⟨b, ob, b1, b2, b3, b4, b5, b6⟩ := bm
        refine ⟨b, ob, b1, b2, fun q => ?_, fun q => ?_, hidT_get b3 (other b3 (fun l n z => by rw [b6] at z; cases z) fun z => by rw [b6] at z; cases z), b4, b5, b6⟩
        · obtain ⟨o, es, ep, e, hd, _⟩ := nsG
          rw [q, e] at b3
          cases b3
          rw [hd] at b6
          cases b6
        · rw [q, hTp] at b3
          cases b3
          cases b6
      · obtain ⟨o, es, ep, e, hd, _⟩ := nsG
        rw [z, hTp] at e
        cases e
        cases hd
    obtain ⟨mc, c1, c2⟩ := noLim
    have e0 : Env0 P w K mg (hidT s.heap H) callerA [] s H :=
      ⟨rfl, ⟨inB, nsAt nsG, ⟨mb, nsAt nsB, boot⟩, mc, nsAt c1, c2⟩, fun b o e => of_hidT e, Nat.le_of_eq (hidT_size _ _), trivial, (fun b hb => absurd (show b ∈ ([] : List Addr) from hb) (by simp)), hok, .of_eq gens⟩
    have tk : TbK K H := fun p hp => LamX.TabS.nil (isT _ ⟨p, hp, rfl⟩)
    have called := (F _ inB (nsAt nsG) tbb).run callerA [] s H ⟨[.ref a], []⟩ [.ref a] [.ref a] _ _ rfl room e0 (bnd s (.ref a)) (.cons rfl .nil) (good H sq tk)
    refine codeAny_mono called fun r s' h => ?_
    match r, h with
    | .ok (.ret u), ⟨v, H', os, bare, same, hok', rel, q⟩ =>
      cases (show v = V.bl true from q)
      cases (show u = Value.bool true from rel)
      have stays : ∀ b o, ¬ tb b → s.heap.get? b = some o → s'.heap.get? b = some o := fun b o nb e => by
        cases q : H b with
        | none => exact same.keep b o e q (fun z => by cases z) (fun z => by cases z)
        | some u =>
          rcases only b u q with ⟨_, _, ob, xs, rfl⟩ | ⟨ht, _⟩
          · have g1 := (hok b _ q).1
            rw [e] at g1
            cases g1
            exact (hok' b _ (same.frzs b _ _ q)).1
          · exact absurd ht nb
      have grown : ∀ b, tb b → ∃ more : Array Value, s'.heap.get? b = some { cls := .none, data := .fields more } := fun b hb => by
        obtain ⟨more, z⟩ := same.tbls b #[] (isT b hb)
        exact ⟨_, hok' b _ z⟩
      refine ⟨rfl, ⟨fun b o e => ?_, fun b o e => ?_⟩, os, bare⟩
      · by_cases hb : tb b
        · obtain ⟨more, hm⟩ := grown b hb
          obtain ⟨p, hp, rfl⟩ := hb
          rw [tabs p hp] at e
          cases e
          exact .inr (.inl ⟨((codes p hp).tab (tabs p hp)).isCodeTable, rfl, #[], more, rfl, by rw [Array.empty_append]; exact hm⟩)
        · exact .inl (stays b o hb e)
      · by_cases hb : tb b
        · obtain ⟨more, hm⟩ := grown b hb
          exact ⟨_, hm⟩
        · exact ⟨o, stays b o hb e⟩
    | .error e, h => exact (by obtain ⟨_, _, _, _, _, _, _, _, _, _, _, _, hE⟩ := h; exact hE.elim)
  have dec : ∀ b, Decidable (tb b) := fun b => Classical.propDecidable _
  cases lk : K.lookup a with
  | some o =>
    have e := inK a o lk
    rw [scr] at e
    cases e
    have at_ : ∀ {b : Addr} {u : HO}, (if tb b then some (HO.tbl #[]) else none) = some u → tb b ∧ u = .tbl #[] := fun {b u} z => by
      split at z
      · cases z
        exact ⟨by assumption, rfl⟩
      · cases z
    refine main (fun b => if tb b then some (.tbl #[]) else none) (.inr fun H' => .inr ⟨_, vs.toArray, _, lk, rfl, rfl, rfl, by rw [List.size_toArray, nlen]; exact few, items⟩) (fun b u z => ?_) (fun b u z => .inr (at_ z)) fun b hb => if_pos hb
    obtain ⟨ht, rfl⟩ := at_ z
    exact tbAt ht
  | none =>
    have at_ : ∀ {b : Addr} {u : HO}, (if b = a then some (HO.frz { cls := .type "list", data := .seq vs.toArray } (.lst (ns.map V.int))) else if tb b then some (.tbl #[]) else none) = some u → (b = a ∧ u = HO.frz { cls := .type "list", data := .seq vs.toArray } (.lst (ns.map V.int))) ∨ (tb b ∧ u = .tbl #[]) := fun {b u} z => by
      split at z
      · cases z
        exact .inl ⟨by assumption, rfl⟩
      · split at z
        · cases z
          exact .inr ⟨by assumption, rfl⟩
        · cases z
    refine main (fun b => if b = a then some (.frz { cls := .type "list", data := .seq vs.toArray } (.lst (ns.map V.int))) else if tb b then some (.tbl #[]) else none) (.inl ⟨_, if_pos rfl⟩) (fun b u z => ?_) (fun b u z => ?_) fun b hb => (if_neg (show ¬ b = a from fun z => aNo (by rw [← z]; exact hb))).trans (if_pos hb)
    · rcases at_ z with ⟨rfl, rfl⟩ | ⟨ht, rfl⟩
      · exact ⟨scr, by rw [List.length_map]; exact few, vs, _, items, scr⟩
      · exact tbAt ht
    · rcases at_ z with ⟨rfl, rfl⟩ | ⟨ht, rfl⟩
      · exact .inl ⟨rfl, lk, _, _, rfl⟩
      · exact .inr ⟨ht, rfl⟩
/-- the goal that the head leaves: the written part, the def, its promise -/
theorem walkG {l : PySem.W.OpenLaw} {n k : Nat} {q : Program} {loose : List Str} {XP : (Str → Option Value) → Heap → Prop} {YP : World → Heap → Prop} {d : DefRec} {x : Str}
    (hn : l.most = some n) (hn2 : n ≤ sizeLine) (hdf : d.params.defaults = []) (room : Room k callerA)
    (F : ∀ (w : World) (mg : Str → Option Value) (fa : Addr) (h : Heap), YP w h → h.Ns mainGlobals mg → mg d.name = some (.ref fa) →
      ∃ (K : PySem.W.Frag) (fd : FuncData) (G : List T → Option Rs), K.In h ∧ (∀ p ∈ codesK K, h.get? p.2.1 = some noObj) ∧ (∀ p ∈ codesK K, PySem.W.CodeHd h p.1 p.2.1) ∧ (∀ (s : Shared) (u : Value), BindsTo s fd ⟨[u], []⟩ [(x, u)]) ∧
        (∀ ns : List Int, ns.length ≤ n → (∀ z ∈ ns, Builtin.Int.intBits z ≤ 1048576) → ∃ ts, G [.fz (ns.map T.int)] = some (.ok (.bl true) ts)) ∧
        ∀ base : Heap, K.In base → base.Ns mainGlobals mg → TbB K mg base → FnG l.prog w K mg base k fa fd [x] (spG K [.sh] .sh G)) :
    PySem.W.WalkO q loose XP YP l.row.toRowW d [] (fun f vs => PySem.call f vs) := by
  refine Att.attach_callB hn hdf fun w s0 s mg mb fa o pm cd doc a vs ns G Y ho hd hcd at_ scr are few bits gens => ?_
  obtain ⟨K, fd, g, inK, tabs, codes, bnd, ans, FG⟩ := F w mg fa _ Y G.T.g at_
  refine lawG inK G.T.g G.T.b G.T.builtins G.T.nolimit gens tabs codes G.T.bmain scr are (Nat.le_trans few hn2) room FG bnd fun H sq tk => ?_
  obtain ⟨ts, e⟩ := ans ns few bits
  have r : RpA K H (fun _ => False) .sh (ns.map V.int) (ns.map T.int) [] := RpA.ints ns
  have R : Rp K H (fun _ => False) .sh (.ref a) (.fz (ns.map T.int)) [] := .fz sq r
  refine ⟨fun _ => False, [.fz (ns.map T.int)], [], _, ⟨Sl.on (f := []) (fs := []) R .nil, .nil, fun a z => by simp at z, ⟨fun _ z => z.elim, tk⟩⟩, e, fun v H' S' f' fr G' R' nd s' ev => ?_⟩
  exact R'.ro.bl_
end Tr

end
section
set_option maxHeartbeats 2000000
/-! TrI: comparisons as tests, chains, a sign. -/
namespace Tr
open PySem PySem.Spec PyProof.Rows L2
section
variable {X : Cx} {W : WX} {Γ Γ1 Γ2 Γ' : List Ow} {e a b c : Expr} {pos : Pos} {r r' : R2} {g g' : T → T → Option T}
theorem twos_r {b1 p1 b2 p2 : Bool} {f1 f2 : F0 T} {ρ1 ρ2 : Ow} {σ : L2.St} {H : Hp} {Q : VK} (hb : B2s X.K r g) (hq : b1 = true → p2 = true) (hΓ : allSh Γ1 = allSh Γ)
    (q : tS (V' := V) X.K W (p1 && p2) Γ (F0.bind f1 fun a => F0.bind f2 fun b => lf (g a) b) .sh Γ2 σ H Q) : tOp r (tO X.K W b1 p1 Γ f1 ρ1 Γ1) (tO X.K W b2 p2 Γ1 f2 ρ2 Γ2) σ H Q := by
  obtain ⟨S, E, fp, r0, G, er, q⟩ := q
  refine tR_bind (R := fun x y H => _) (h := fun a b => lf (g a) b) hq hΓ (fun _ _ _ z => z) (fun _ _ _ z => z) S E fp r0 G er (fun x E' e => by subst e; exact q) ?_
  intro x y t ts H2 S2 fp2 E2 G2 ev pp st e
  obtain ⟨c, ec, e'⟩ := lf_some e
  subst e'
  obtain ⟨s1, s2⟩ := st H2 S2 fp2 (Ev.refl fun _ z => z) (fun _ => Kept.refl _)
  exact hb H2 S2 _ _ x y t ts c _ s1 s2 ec fun z s => q z H2 S2 fp2 [] G2 s.rp G2.nd (fun a z => by simp at z) ev pp
/-- a comparison as a test -/
theorem st_two {b1 p1 b2 p2 : Bool} {f1 f2 : F0 T} {ρ1 ρ2 : Ow} {op : CmpOp} (ho : OpR X (compareOp op) r) (hb : B2s X.K r g) (h1 : OE X W b1 p1 Γ a f1 ρ1 Γ1) (h2 : OE X W b2 p2 Γ1 b f2 ρ2 Γ2) (hm : behindInMarks op b = false)
    (hq : b1 = true → p2 = true := by decide) (hΓ : allSh Γ1 = allSh Γ := by rfl) : STt X W (p1 && p2) Γ (.Compare a [op] [b] pos) (F0.bind (F0.bind f1 fun a => F0.bind f2 fun b => lf (g a) b) (lf T.bl?)) Γ2 :=
  st_cmp (ρ := .sh) (fun _ _ _ q => twos_r hb hq hΓ q) (pt_cmpR ho h1 h2 hm)
/-- a op1 b op2 c, all three read -/
def pchn (g g' : T → T → Option T) (f1 f2 f3 : P0) : P0 := fun E => (f1 E).bind fun a => (f2 E).bind fun b => (g a b).bind fun d => match d with
  | .bl true => (f3 E).bind fun c => g' b c
  | .bl false => some (.bl false)
  | _ => none
theorem chn_r {f1 f2 f3 : P0} {ρ1 ρ2 ρ3 : Ow} {σ : L2.St} {H : Hp} {Q : VK} (hb : B2s X.K r g) (hb' : B2s X.K r' g') (q : tP X.K Γ (pchn g g' f1 f2 f3) .sh σ H Q) : tChain r r' (tP X.K Γ f1 ρ1) (tP X.K Γ f2 ρ2) (tP X.K Γ f3 ρ3) σ H Q := by
  obtain ⟨S, E, fp, t, G, er, q⟩ := q
  unfold pchn at er
  obtain ⟨a, e1, er⟩ := Option.bind_eq_some_iff.mp er
  obtain ⟨b, e2, er⟩ := Option.bind_eq_some_iff.mp er
  obtain ⟨d, e3, er⟩ := Option.bind_eq_some_iff.mp er
  refine ⟨S, E, fp, a, G, e1, fun v fr R _ => ⟨S, E, fp, b, G, e2, fun w fs R2 _ => ?_⟩⟩
  refine hb H S _ _ v w a b d _ R.ro R2.ro e3 fun z s => ?_
  split at er
  · cases s
    obtain ⟨c, e4, er⟩ := Option.bind_eq_some_iff.mp er
    refine ⟨true, rfl, ?_⟩
    simp only [if_true]
    exact ⟨S, E, fp, c, G, e4, fun u ft R3 _ => hb' H S _ _ w u b c t _ R2.ro R3.ro er fun z s => q z [] s.rp fun a z => by simp at z⟩
  · cases s
    cases er
    refine ⟨false, rfl, ?_⟩
    simp only [Bool.false_eq_true, if_false]
    exact q _ [] (.bl _) fun a z => by simp at z
  · cases er
theorem pl_chn {f1 f2 f3 : P0} {ρ1 ρ2 ρ3 : Ow} {op op' : CmpOp} (ho : OpR X (compareOp op) r) (ho' : OpR X (compareOp op') r') (hb : B2s X.K r g) (hb' : B2s X.K r' g') (h1 : PL X Γ a f1 ρ1) (h2 : PL X Γ b f2 ρ2) (h3 : PL X Γ c f3 ρ3)
    (hm : lastMarks [op, op'] [b, c] = false := by with_unfolding_all rfl) : PL X Γ (.Compare a [op, op'] [b, c] pos) (pchn g g' f1 f2 f3) .sh :=
  pe_imp (pe_chain ho ho' h1 h2 h3 hm) fun _ _ _ q => chn_r hb hb' q
/-- a reading as a test -/
theorem tP_bl {f : P0} {σ : L2.St} {H : Hp} {Q : Bool → Hp → Prop} (q : tT X.K W true Γ (F0.bind (rd f) (lf T.bl?)) Γ σ H Q) : tP X.K Γ f .sh σ H fun x H1 => ∃ k, x = .bl k ∧ Q k H1 := by
  obtain ⟨S, E, fp, r, G, er, q⟩ := q
  unfold F0.bind rd at er
  cases e1 : f E with
  | none => rw [e1] at er; cases er
  | some t =>
    rw [e1] at er
    obtain ⟨d, ed, e'⟩ := lf_some er
    subst e'
    refine ⟨S, E, fp, t, G, e1, fun v fr R _ => ?_⟩
    cases t <;> simp only [T.bl?] at ed <;> (try cases ed)
    exact ⟨_, R.ro.bl_, q H S fp G (Ev.refl fun _ z => z) fun _ => ⟨rfl, Kept.refl H⟩⟩
theorem st_chn {f1 f2 f3 : P0} {ρ1 ρ2 ρ3 : Ow} {op op' : CmpOp} (ho : OpR X (compareOp op) r) (ho' : OpR X (compareOp op') r') (hb : B2s X.K r g) (hb' : B2s X.K r' g') (h1 : PL X Γ a f1 ρ1) (h2 : PL X Γ b f2 ρ2) (h3 : PL X Γ c f3 ρ3)
    (hm : lastMarks [op, op'] [b, c] = false := by with_unfolding_all rfl) : STt X W true Γ (.Compare a [op, op'] [b, c] pos) (F0.bind (rd (pchn g g' f1 f2 f3)) (lf T.bl?)) Γ :=
  pt_imp (pt_chain ho ho' h1 h2 h3 hm) fun _ _ _ q => chn_r hb hb' (tP_bl q)
/-- a pure expression as a test -/
theorem st_pl {f : P0} (h : PL X Γ e f .sh) (he : ∀ whole, isTrue e X.env whole = (do let v ← whole; standAt e.pos; holding [v] (truthy v)) := by intro _; rfl) : STt X W true Γ e (F0.bind (rd f) (lf T.bl?)) Γ := st_val h.se he
def negT : T → Option T
  | .int i => some (.int (-i))
  | _ => none
theorem pl_neg {f : P0} {ρ : Ow} (h : PL X Γ a f ρ) : PL X Γ (.UnaryOp .USub a pos) (pp1 negT f) .sh := by
  refine pe_imp (pe_un un_neg h) fun σ H Q ⟨S, E, fp, c, G, er, q⟩ => ?_
  unfold pp1 at er
  obtain ⟨t, e1, er⟩ := Option.bind_eq_some_iff.mp er
  refine ⟨S, E, fp, t, G, e1, fun v fr R _ => ?_⟩
  cases t <;> simp only [negT] at er <;> (try cases er)
  exact ⟨_, R.ro.int_, q _ [] (.int _) fun a z => by simp at z⟩
end
end Tr

end
section
set_option maxHeartbeats 2000000
/-! TrJ: small things that printed derivations use. -/
theorem L2.Room.eq {k : Nat} {A : PySem.Around} (r : L2.Room k A) : A.units + 64 < PySem.cLine := by have := r.un; omega
theorem L2.Room.in_ {k : Nat} {A : PySem.Around} (r : L2.Room k A) : A.units + 65 < PySem.cLine := by have := r.un; omega
theorem L2.Room.repr {k : Nat} {A : PySem.Around} (r : L2.Room k A) : A.units + 21 < PySem.cLine := by have := r.un; omega
namespace Tr
open PySem PySem.Spec PyProof.Rows L2
theorem clrs_set {vs : List Nat} {i : Nat} (h : i ∈ vs) (v : Option T) (E : Env) : clrs vs (E.set i v) = clrs vs E := by
  apply List.ext_getElem?
  intro j
  induction vs with
  | nil => simp at h
  | cons w vs ih =>
    rw [clrs, clrs]
    by_cases e : w = j
    · subst e
      rw [List.getElem?_set, List.getElem?_set]
      simp only [if_true, clrs_len, List.length_set]
    · rw [List.getElem?_set_ne e, List.getElem?_set_ne e]
      by_cases hi : i ∈ vs
      · exact ih hi
      · -- i is w, and not in vs
        have hw : i = w := (List.mem_cons.mp h).resolve_right hi
        subst hw
        clear ih h
        induction vs with
        | nil => rw [clrs, clrs, List.getElem?_set_ne e]
        | cons u vs ih =>
          rw [clrs, clrs]
          by_cases f : u = j
          · subst f
            rw [List.getElem?_set, List.getElem?_set]
            simp only [if_true, clrs_len, List.length_set]
          · rw [List.getElem?_set_ne f, List.getElem?_set_ne f]
            exact ih fun z => hi (by simp [z])
def Cl1 (vs : List Nat) (g : T → Env → Option Env) : Prop := ∀ t E E1, g t E = some E1 → clrs vs E1 = clrs vs E
def ClL (vs : List Nat) (g : List T → Env → Option Env) : Prop := ∀ t E E1, g t E = some E1 → clrs vs E1 = clrs vs E
theorem cl_name {vs : List Nat} {i : Nat} (h : i ∈ vs) : Cl1 vs (gset i) := fun t E E1 e => by
  cases e
  exact clrs_set h _ E
theorem cl_nil {vs : List Nat} : ClL vs gnil := fun t E E1 e => by
  cases t with
  | nil => cases e; rfl
  | cons _ _ => cases e
theorem cl_cons {vs : List Nat} {g : T → Env → Option Env} {h : List T → Env → Option Env} (a : Cl1 vs g) (b : ClL vs h) : ClL vs (gcons g h) := fun t E E1 e => by
  cases t with
  | nil => cases e
  | cons t ts =>
    obtain ⟨E2, e1, e2⟩ := Option.bind_eq_some_iff.mp e
    exact (b _ _ _ e2).trans (a _ _ _ e1)
theorem cl_tup {vs : List Nat} {n : Nat} {g : List T → Env → Option Env} (a : ClL vs g) : Cl1 vs (gtup n g) := fun t E E1 e => by
  cases t <;> simp only [gtup] at e <;> (try cases e)
  split at e
  · exact a _ _ _ e
  · cases e
/-- no turns left: nothing is promised -/
theorem fnG_zero {P : Program} {w : World} {K : PySem.W.Frag} {mg : Str → Option Value} {base : Heap} {k n : Nat} {f : Addr} {fd : FuncData} {ps : List Str} {Γp : List Ow} {ρr : Ow} : FnG P w K mg base k f fd ps (spG K Γp ρr (runF Γp n fno)) :=
  ⟨(fun _ _ _ _ ⟨_, _, _, _, _, e, _⟩ => by cases e), (fun _ _ _ _ _ _ _ _ _ _ _ _ _ _ ⟨_, _, _, _, _, e, _⟩ => by cases e)⟩
theorem kwb_of {K : PySem.W.Frag} {x qual : Str} {params : Arguments} {body : List Stmt} {scope : Scope} {kws : List (Str × V)} {f : Addr} {fd : FuncData} {ps : List Str} {n : Nat} {ks : List Str} {perm : List Nat} (F : FunD K x qual params body scope [] kws f fd)
    (h : ∀ (kV doc pm : Value) (an : Option Addr) (cdv ct : Value) (us ws : List Value), us.length = n → ws.length = ks.length → bindArgs (PySem.W.fnOf x qual params body scope .none kV doc pm an cdv ct) ⟨us, ks.zip ws⟩ = pure (ps.zip (pick .none perm (us ++ (ws ++ []))))) : KwB K fd ps n ks [] perm := by
  obtain ⟨oc, od, dV, kV, doc, pm, an, cdv, ct, osl, rfl, lk, hcd, hD, hK⟩ := F.ex
  rcases hD with ⟨_, rfl⟩ | ⟨e, _⟩
  · exact ⟨fun s us ws _ h1 h2 => .of_eq (h kV doc pm an cdv ct us ws h1 h2)⟩
  · exact absurd rfl e
def ownIn (Γp : List Ow) (M : List Nat) : Bool := (List.range Γp.length).all fun i => match Γp[i]? with
  | some (.ow _) => M.contains i
  | _ => true
theorem own_in {Γp : List Ow} {M : List Nat} (h : ownIn Γp M = true) (i : Nat) (ι : Ow) (e : Γp[i]? = some (Ow.ow ι)) : i ∈ M := by
  unfold ownIn at h
  have := List.all_eq_true.mp h i (List.mem_range.mpr (List.getElem?_eq_some_iff.mp e).1)
  rw [e] at this
  exact List.contains_iff_mem.mp this
theorem hh_of {ms : List (Option Nat)} {Γ1 : List Ow} (k : Nat) (h : hole ms = some k) (e : ∃ ρ, Γ1[k]? = some ρ) : ∀ j, hole ms = some j → ∃ ρ, Γ1[j]? = some ρ := fun j z => by
  rw [h] at z
  cases z
  exact e
theorem hh_no {ms : List (Option Nat)} {Γ1 : List Ow} (h : hole ms = none) : ∀ j, hole ms = some j → ∃ ρ, Γ1[j]? = some ρ := fun j z => by
  rw [h] at z
  cases z
end Tr

end
section
set_option maxHeartbeats 2000000
/-! TrK: reckoning with what is computed. -/
namespace Tr
open PySem
theorem run_rt {Γp : List Ow} {n : Nat} {b : S0} {ts ts' : List T} {t : T} {E E0 : Env} (h0 : ts.map some ++ List.replicate (n - ts.length) none = E0) (h : b E0 = some (.rt t E)) (h2 : mixT Γp ts E = some ts') : runF Γp n b ts = some (.ok t ts') := by
  unfold runF
  rw [h0, h]
  show (mixT Γp ts E).map (Rs.ok t) = _
  rw [h2]
  rfl
theorem run_nx {Γp : List Ow} {n : Nat} {b : S0} {ts ts' : List T} {E E0 : Env} (h0 : ts.map some ++ List.replicate (n - ts.length) none = E0) (h : b E0 = some (.nx E)) (h2 : mixT Γp ts E = some ts') : runF Γp n b ts = some (.ok .non ts') := by
  unfold runF
  rw [h0, h]
  show (mixT Γp ts E).map (Rs.ok .non) = _
  rw [h2]
  rfl
/-- a sequence, step by step -/
theorem sq_nx {f g : S0} {E E1 : Env} {r : Option Fl} (h1 : f E = some (.nx E1)) (h2 : g E1 = r) : fsq f g E = r := by
  unfold fsq
  rw [h1]
  exact h2
theorem sq_rt {f g : S0} {E E1 : Env} {t : T} (h1 : f E = some (.rt t E1)) : fsq f g E = some (.rt t E1) := by
  unfold fsq
  rw [h1]
theorem if_t {t : F0 Bool} {f g : S0} {E E1 : Env} {r : Option Fl} (h1 : t E = some (.ok true E1)) (h2 : f E1 = r) : fif t f g E = r := by
  unfold fif
  rw [h1]
  exact h2
theorem if_f {t : F0 Bool} {f g : S0} {E E1 : Env} {r : Option Fl} (h1 : t E = some (.ok false E1)) (h2 : g E1 = r) : fif t f g E = r := by
  unfold fif
  rw [h1]
  exact h2
theorem bd {α β : Type} {f : F0 α} {g : α → F0 β} {E E1 : Env} {a : α} {r : Option (Out β)} (h1 : f E = some (.ok a E1)) (h2 : g a E1 = r) : F0.bind f g E = r := by
  unfold F0.bind
  rw [h1]
  exact h2
theorem call_ok {ms : List (Option Nat)} {F : List T → Option Rs} {ts us us' : List T} {E E1 : Env} {t : T} (h0 : Tr.fill ms E ts = some us) (h1 : F us = some (.ok t us')) (h2 : put ms us' E = some E1) : fcall ms F ts E = some (.ok t E1) := by
  unfold fcall
  simp only [h0, h1, h2, Option.map_some]
theorem set_ok {i : Nat} {f : F0 T} {E E1 : Env} {t : T} (h : f E = some (.ok t E1)) : fset i f E = some (.nx (E1.set i (some t))) := by
  unfold fset aft
  rw [h]
theorem rt_ok {f : F0 T} {E E1 : Env} {t : T} (h : f E = some (.ok t E1)) : frt f E = some (.rt t E1) := by
  unfold frt aft
  rw [h]
theorem do_ok {f : F0 T} {E E1 : Env} {t : T} (h : f E = some (.ok t E1)) : fdo f E = some (.nx E1) := by
  unfold fdo aft
  rw [h]
theorem for_ok {f : F0 (List T)} {g : T → Env → Option Env} {b : S0} {E E1 : Env} {ts : List T} {r : Option Fl} (h : f E = some (.ok ts E1)) (h2 : ffor g b ts E1 = r) : afI f (ffor g b) E = r := by
  unfold afI
  rw [h]
  exact h2
/-- a loop that goes to its end: by an invariant -/
theorem ffor_inv {g : T → Env → Option Env} {b : S0} (I : Nat → Env → Prop) : ∀ {ts : List T} {k : Nat} {E : Env}, I k E → (∀ (j : Nat) (t : T) (E : Env), ts[j]? = some t → I (k + j) E → ∃ E1 E2, g t E = some E1 ∧ (b E1 = some (.nx E2) ∨ b E1 = some (.ct E2)) ∧ I (k + j + 1) E2) → ∃ E', ffor g b ts E = some (.nx E') ∧ I (k + ts.length) E'
  | [], k, E, h, _ => ⟨E, rfl, h⟩
  | t :: ts, k, E, h, step => by
    obtain ⟨E1, E2, e1, e2, h2⟩ := step 0 t E rfl h
    obtain ⟨E', e3, h3⟩ := ffor_inv (ts := ts) (k := k + 1) I h2 fun j u E hj hI => by
      have := step (j + 1) u E (by simpa using hj) (by rw [show k + (j + 1) = k + 1 + j by omega]; exact hI)
      rw [show k + (j + 1) + 1 = k + 1 + j + 1 by omega] at this
      exact this
    refine ⟨E', ?_, by rw [List.length_cons, show k + (ts.length + 1) = k + 1 + ts.length by omega]; exact h3⟩
    unfold ffor
    rw [e1]
    rcases e2 with e2 | e2
    · simp only [e2]
      exact e3
    · simp only [e2]
      exact e3
/-- a comprehension: item by item; F gives what is kept -/
theorem flc_go {g : T → Env → Option Env} {vs : List Nat} {t : F0 Bool} {e : F0 T} {E : Env} (F : T → Option T) : ∀ {ts : List T} {acc : List T}, acc.length + ts.length ≤ sizeLine →
    (∀ x ∈ ts, ∃ E1, g x E = some E1 ∧ clrs vs E1 = E ∧ ((∃ y, F x = some y ∧ t E1 = some (.ok true E1) ∧ e E1 = some (.ok y E1)) ∨ (F x = none ∧ t E1 = some (.ok false E1)))) → flcGo g vs t e ts acc E = some (acc ++ ts.filterMap F, E)
  | [], acc, _, _ => by simp [flcGo]
  | x :: ts, acc, hz, h => by
    obtain ⟨E1, e1, ec, h1⟩ := h x (by simp)
    rw [List.length_cons] at hz
    unfold flcGo
    rw [e1]
    rcases h1 with ⟨y, ey, et, ee⟩ | ⟨ey, et⟩
    · simp only [et, ee]
      rw [if_pos (by omega), ec, flc_go F (by simp; omega) fun z hz => h z (by simp [hz]), List.filterMap_cons, ey]
      simp
    · simp only [et]
      rw [ec, flc_go F (by omega) fun z hz => h z (by simp [hz]), List.filterMap_cons, ey]
theorem flc_ok {fi : F0 (List T)} {g : T → Env → Option Env} {vs : List Nat} {t : F0 Bool} {e : F0 T} {E E1 : Env} {ts : List T} (F : T → Option T) (h : fi E = some (.ok ts E1)) (hu : unset vs E1 = true) (hz : ts.length ≤ sizeLine)
    (hi : ∀ x ∈ ts, ∃ E2, g x E1 = some E2 ∧ clrs vs E2 = E1 ∧ ((∃ y, F x = some y ∧ t E2 = some (.ok true E2) ∧ e E2 = some (.ok y E2)) ∨ (F x = none ∧ t E2 = some (.ok false E2)))) : flc fi g vs t e E = some (.ok (.lst (ts.filterMap F)) E1) := by
  unfold flc
  refine bd h ?_
  rw [if_pos hu, flc_go F (by simpa using hz) hi]
  rfl
/-! tests -/
theorem bl_v {f : F0 T} {E E1 : Env} {b : Bool} (h : f E = some (.ok (.bl b) E1)) : F0.bind f (lf T.bl?) E = some (.ok b E1) := bd h rfl
theorem tnot_v {f : F0 Bool} {E E1 : Env} {b : Bool} (h : f E = some (.ok b E1)) : tnot f E = some (.ok (!b) E1) := bd h rfl
theorem tor_f {f g : F0 Bool} {E E1 : Env} {r : Option (Out Bool)} (h : f E = some (.ok false E1)) (h2 : g E1 = r) : tor f g E = r := bd h h2
theorem tor_t {f g : F0 Bool} {E E1 : Env} (h : f E = some (.ok true E1)) : tor f g E = some (.ok true E1) := bd h rfl
theorem tand_t {f g : F0 Bool} {E E1 : Env} {r : Option (Out Bool)} (h : f E = some (.ok true E1)) (h2 : g E1 = r) : tand f g E = r := bd h h2
theorem tand_f {f g : F0 Bool} {E E1 : Env} (h : f E = some (.ok false E1)) : tand f g E = some (.ok false E1) := bd h rfl
theorem vor_f {f g : F0 T} {E E1 : Env} {r : Option (Out T)} (h : f E = some (.ok (.bl false) E1)) (h2 : g E1 = r) : vor f g E = r := bd (bl_v h) h2
theorem vor_t {f g : F0 T} {E E1 : Env} (h : f E = some (.ok (.bl true) E1)) : vor f g E = some (.ok (.bl true) E1) := bd (bl_v h) rfl
theorem vand_t {f g : F0 T} {E E1 : Env} {r : Option (Out T)} (h : f E = some (.ok (.bl true) E1)) (h2 : g E1 = r) : vand f g E = r := bd (bl_v h) h2
theorem vand_f {f g : F0 T} {E E1 : Env} (h : f E = some (.ok (.bl false) E1)) : vand f g E = some (.ok (.bl false) E1) := bd (bl_v h) rfl
theorem vif_t {t : F0 Bool} {f g : F0 T} {E E1 : Env} {r : Option (Out T)} (h : t E = some (.ok true E1)) (h2 : f E1 = r) : vif t f g E = r := bd h h2
theorem vif_f {t : F0 Bool} {f g : F0 T} {E E1 : Env} {r : Option (Out T)} (h : t E = some (.ok false E1)) (h2 : g E1 = r) : vif t f g E = r := bd h h2
end Tr

end
section
set_option maxHeartbeats 2000000
/-! TrL: comparing trees. -/
namespace Tr
open PySem
/-- two families of trees are compared by what they stand for -/
def EqF {α : Type} [DecidableEq α] (f : α → T) : Prop := ∀ a b, PyData.eqv (f a).py (f b).py = decide (a = b)
theorem eqf_int : EqF T.int := fun a b => by
  simp only [T.py, PyData.eqv]
  exact Bool.eq_iff_iff.mpr (by simp)
theorem eqf_all {α : Type} [DecidableEq α] {f : α → T} (h : EqF f) : ∀ xs ys : List α, PyData.eqvAll (T.pyA (xs.map f)) (T.pyA (ys.map f)) = decide (xs = ys)
  | [], [] => rfl
  | [], _ :: _ => by simp [T.pyA, PyData.eqvAll]
  | _ :: _, [] => by simp [T.pyA, PyData.eqvAll]
  | x :: xs, y :: ys => by
    simp only [List.map_cons, T.pyA, PyData.eqvAll, h x y, eqf_all h xs ys]
    by_cases a : x = y <;> by_cases b : xs = ys <;> simp [a, b]
theorem eqf_lst {α : Type} [DecidableEq α] {f : α → T} (h : EqF f) : EqF fun xs : List α => .lst (xs.map f) := fun a b => by
  simp only [T.py, PyData.eqv]
  exact eqf_all h a b
/-- plain data, not deep -/
def Pl (n : Nat) (t : T) : Prop := t.dat = true ∧ (t.py).canLay0 = true ∧ (t.py).depth ≤ n
theorem Pl.cmp {n : Nat} {t : T} (h : Pl n t) (hn : n ≤ 64 := by decide) : t.cmp = true := by
  unfold T.cmp SeqAt.shaped
  rw [h.1, h.2.1]
  have := h.2.2
  simp
  omega
theorem pl_all {α : Type} {f : α → T} {n : Nat} (h : ∀ a, Pl n (f a)) : ∀ xs : List α, T.datA (xs.map f) = true ∧ PyData.canLayAll0 (T.pyA (xs.map f)) = true ∧ PyData.depthAll (T.pyA (xs.map f)) ≤ n
  | [] => ⟨rfl, rfl, Nat.zero_le _⟩
  | x :: xs => by
    obtain ⟨h1, h2, h5⟩ := pl_all h xs
    obtain ⟨h3, h4, h6⟩ := h x
    simp only [List.map_cons, T.datA, T.pyA, PyData.depthAll, PyData.canLayAll0, h1, h2, h3, h4]
    exact ⟨rfl, rfl, Nat.max_le.mpr ⟨h6, h5⟩⟩
theorem Pl.lst {α : Type} {f : α → T} {n : Nat} (h : ∀ a, Pl n (f a)) (xs : List α) : Pl (n + 1) (.lst (xs.map f)) := by
  obtain ⟨h1, h2, h3⟩ := pl_all h xs
  exact ⟨by simp only [T.dat]; exact h1, by simp only [T.py, PyData.canLay0]; exact h2, by simp only [T.py, PyData.depth]; omega⟩
theorem Pl.int (i : Int) : Pl 0 (.int i) := ⟨rfl, rfl, Nat.le_refl _⟩
theorem Pl.non : Pl 0 .non := ⟨rfl, rfl, Nat.le_refl _⟩
theorem Pl.bl (b : Bool) : Pl 0 (.bl b) := ⟨rfl, rfl, Nat.le_refl _⟩
theorem eqT_of {α : Type} [DecidableEq α] {f : α → T} {n : Nat} (h : EqF f) (p : ∀ a, Pl n (f a)) (a b : α) (hn : n ≤ 64 := by decide) : eqT (f a) (f b) = some (.bl (decide (a = b))) := by
  unfold eqT
  rw [(p a).cmp hn, (p b).cmp hn, h a b]
  rfl
theorem neT_of {α : Type} [DecidableEq α] {f : α → T} {n : Nat} (h : EqF f) (p : ∀ a, Pl n (f a)) (a b : α) (hn : n ≤ 64 := by decide) : neT (f a) (f b) = some (.bl (!decide (a = b))) := by
  unfold neT
  rw [(p a).cmp hn, (p b).cmp hn, h a b]
  rfl
/-! items -/
theorem atI_nat {α : Type} {xs : List α} {k : Nat} {x : α} (h : xs[k]? = some x) : L2.atI xs (k : Int) = some x := by
  have hk := (List.getElem?_eq_some_iff.mp h).1
  unfold L2.atI L2.ixN
  rw [if_pos (by omega), if_pos (by omega)]
  simpa using h
theorem ix_lst {xs : List T} {k : Nat} {x : T} (h : xs[k]? = some x) : ixT (.lst xs) (.int (k : Int)) = some x := atI_nat h
theorem ix_tup {xs : List T} {k : Nat} {x : T} (h : xs[k]? = some x) : ixT (.tup xs) (.int (k : Int)) = some x := atI_nat h
theorem asg_ok {g : T → Env → Option Env} {f : F0 T} {E E1 E2 : Env} {t : T} (h : f E = some (.ok t E1)) (h2 : g t E1 = some E2) : fasg g f E = some (.nx E2) := by
  unfold fasg Tr.aft
  simp only [h, h2, Option.map_some]
theorem rd_ok {f : P0} {E : Env} {t : T} (h : f E = some t) : rd f E = some (.ok t E) := by
  unfold rd
  rw [h]
  rfl
theorem p2_ok {g : T → T → Option T} {f1 f2 : P0} {E : Env} {a b c : T} (h1 : f1 E = some a) (h2 : f2 E = some b) (h : g a b = some c) : pp2 g f1 f2 E = some c := by
  unfold pp2
  rw [h1, h2]
  exact h
theorem lf_ok {α β : Type} {g : α → Option β} {a : α} {c : β} {E : Env} (h : g a = some c) : lf g a E = some (.ok c E) := by
  unfold lf
  rw [h]
  rfl
/-- a comprehension that keeps every item, changed -/
theorem flc_map_go {α : Type} {g : T → Env → Option Env} {vs : List Nat} {t : F0 Bool} {e : F0 T} {E : Env} {mk h : α → T} : ∀ {xs : List α} {acc : List T}, acc.length + xs.length ≤ sizeLine →
    (∀ x ∈ xs, ∃ E1, g (mk x) E = some E1 ∧ clrs vs E1 = E ∧ t E1 = some (.ok true E1) ∧ e E1 = some (.ok (h x) E1)) → flcGo g vs t e (xs.map mk) acc E = some (acc ++ xs.map h, E)
  | [], acc, _, _ => by simp [flcGo]
  | x :: xs, acc, hz, hi => by
    obtain ⟨E1, e1, ec, et, ee⟩ := hi x (by simp)
    rw [List.length_cons] at hz
    rw [List.map_cons, flcGo]
    simp only [e1, et, ee]
    rw [if_pos (by omega), ec, flc_map_go (by simp; omega) fun z hz => hi z (by simp [hz])]
    simp
theorem flc_map {α : Type} {fi : F0 (List T)} {g : T → Env → Option Env} {vs : List Nat} {t : F0 Bool} {e : F0 T} {E E1 : Env} {xs : List α} (mk h : α → T) (hf : fi E = some (.ok (xs.map mk) E1)) (hu : unset vs E1 = true) (hz : xs.length ≤ sizeLine)
    (hi : ∀ x ∈ xs, ∃ E2, g (mk x) E1 = some E2 ∧ clrs vs E2 = E1 ∧ t E2 = some (.ok true E2) ∧ e E2 = some (.ok (h x) E2)) : flc fi g vs t e E = some (.ok (.lst (xs.map h)) E1) := by
  unfold flc
  refine bd hf ?_
  rw [if_pos hu, flc_map_go (by simpa using hz) hi]
  rfl
/-- a comprehension, its slots changing: by an invariant -/
theorem flcGo_inv {g : T → Env → Option Env} {vs : List Nat} {t : F0 Bool} {e : F0 T} (I : Nat → List T → Env → Prop) : ∀ {ts : List T} {k : Nat} {acc : List T} {E : Env}, I k acc E → acc.length + ts.length ≤ sizeLine →
    (∀ (j : Nat) (u : T) (acc : List T) (E : Env), ts[j]? = some u → I (k + j) acc E → ∃ E1 E2 E3 y, g u E = some E1 ∧ t E1 = some (.ok true E2) ∧ e E2 = some (.ok y E3) ∧ I (k + j + 1) (acc ++ [y]) (clrs vs E3)) → ∃ us E', flcGo g vs t e ts acc E = some (us, E') ∧ I (k + ts.length) us E'
  | [], k, acc, E, h, _, _ => ⟨acc, E, rfl, h⟩
  | u :: ts, k, acc, E, h, hz, step => by
    obtain ⟨E1, E2, E3, y, e1, e2, e3, h2⟩ := step 0 u acc E rfl h
    rw [List.length_cons] at hz
    obtain ⟨us, E', e4, h3⟩ := flcGo_inv (ts := ts) (k := k + 1) I h2 (by simp; omega) fun j w acc E hj hI => by
      have := step (j + 1) w acc E (by simpa using hj) (by rw [show k + (j + 1) = k + 1 + j by omega]; exact hI)
      rw [show k + (j + 1) + 1 = k + 1 + j + 1 by omega] at this
      exact this
    refine ⟨us, E', ?_, by rw [List.length_cons, show k + (ts.length + 1) = k + 1 + ts.length by omega]; exact h3⟩
    rw [flcGo]
    simp only [e1, e2, e3]
    rw [if_pos (by omega)]
    exact e4
theorem flc_inv {fi : F0 (List T)} {g : T → Env → Option Env} {vs : List Nat} {t : F0 Bool} {e : F0 T} {E E0 : Env} {ts : List T} (I : Nat → List T → Env → Prop) (hf : fi E = some (.ok ts E0)) (hu : unset vs E0 = true) (hz : ts.length ≤ sizeLine) (h : I 0 [] E0)
    (step : ∀ (j : Nat) (u : T) (acc : List T) (E : Env), ts[j]? = some u → I j acc E → ∃ E1 E2 E3 y, g u E = some E1 ∧ t E1 = some (.ok true E2) ∧ e E2 = some (.ok y E3) ∧ I (j + 1) (acc ++ [y]) (clrs vs E3)) : ∃ us E', flc fi g vs t e E = some (.ok (.lst us) E') ∧ I ts.length us E' := by
  obtain ⟨us, E', e1, h1⟩ := flcGo_inv (ts := ts) (k := 0) (acc := []) I h (by simpa using hz) fun j u acc E hj hI => by
    have := step j u acc E hj (by simpa using hI)
    simpa using this
  refine ⟨us, E', ?_, by simpa using h1⟩
  unfold flc
  refine bd hf ?_
  rw [if_pos hu, e1]
  rfl
end Tr

end
section
set_option maxHeartbeats 2000000
/-! TrM: reckoning by rewriting: each construct, applied to its slots. -/
namespace Tr
open PySem
/-- behind a computation -/
def Out.go {α β : Type} (r : Option (Out α)) (k : α → Env → Option (Out β)) : Option (Out β) := match r with
  | none => none
  | some (.ok a E) => k a E
  | some (.ex x E) => some (.ex x E)
def Out.fl {α : Type} (r : Option (Out α)) (k : α → Env → Option Fl) : Option Fl := match r with
  | none => none
  | some (.ok a E) => k a E
  | some (.ex x E) => some (.ex x E)
def Fl.go (r : Option Fl) (k : Env → Option Fl) : Option Fl := match r with
  | some (.nx E) => k E
  | r => r
def Rs.go (r : Option Rs) (k : T → List T → Option (Out T)) (x : Ex → Option (Out T)) : Option (Out T) := match r with
  | none => none
  | some (.ok t ts) => k t ts
  | some (.ex e) => x e
section
variable {α β : Type} {E : Env}
theorem go_ok {a : α} {k : α → Env → Option (Out β)} : Out.go (some (.ok a E)) k = k a E := rfl
theorem go_ex {x : Ex} {k : α → Env → Option (Out β)} : Out.go (some (.ex x E)) k = some (.ex x E) := rfl
theorem go_no {k : α → Env → Option (Out β)} : Out.go none k = none := rfl
theorem fl_ok {a : α} {k : α → Env → Option Fl} : Out.fl (some (.ok a E)) k = k a E := rfl
theorem fl_ex {x : Ex} {k : α → Env → Option Fl} : Out.fl (some (.ex x E)) k = some (.ex x E) := rfl
theorem fl_no {k : α → Env → Option Fl} : Out.fl none k = none := rfl
theorem flgo_nx {k : Env → Option Fl} : Fl.go (some (.nx E)) k = k E := rfl
theorem flgo_rt {t : T} {k : Env → Option Fl} : Fl.go (some (.rt t E)) k = some (.rt t E) := rfl
theorem flgo_bk {k : Env → Option Fl} : Fl.go (some (.bk E)) k = some (.bk E) := rfl
theorem flgo_ct {k : Env → Option Fl} : Fl.go (some (.ct E)) k = some (.ct E) := rfl
theorem flgo_ex {x : Ex} {k : Env → Option Fl} : Fl.go (some (.ex x E)) k = some (.ex x E) := rfl
theorem rsgo_ok {t : T} {ts : List T} {k : T → List T → Option (Out T)} {x : Ex → Option (Out T)} : Rs.go (some (.ok t ts)) k x = k t ts := rfl
theorem rsgo_ex {e : Ex} {k : T → List T → Option (Out T)} {x : Ex → Option (Out T)} : Rs.go (some (.ex e)) k x = x e := rfl
theorem ev_bind {f : F0 α} {g : α → F0 β} : F0.bind f g E = Out.go (f E) g := by
  unfold F0.bind Out.go
  rfl
theorem ev_pure {a : α} : F0.pure a E = some (.ok a E) := rfl
theorem ev_rd {f : P0} : rd f E = (f E).map fun t => .ok t E := rfl
theorem ev_lf {g : α → Option β} {a : α} : lf g a E = (g a).map fun c => .ok c E := rfl
theorem ev_vr {i : Nat} : vr i E = (E[i]?).join := rfl
theorem ev_kc {t : T} : kc t E = some t := rfl
theorem ev_mv {i : Nat} : mv i E = (vr i E).map fun t => .ok t (E.set i none) := rfl
theorem ev_pp2 {g : T → T → Option T} {f1 f2 : P0} : pp2 g f1 f2 E = (f1 E).bind fun a => (f2 E).bind fun b => g a b := rfl
theorem ev_pp1 {g : T → Option T} {f : P0} : pp1 g f E = (f E).bind g := rfl
theorem ev_tnot {f : F0 Bool} : tnot f E = Out.go (f E) fun b => F0.pure (!b) := ev_bind
theorem ev_tand {f g : F0 Bool} : tand f g E = Out.go (f E) fun b E => if b = true then g E else some (.ok b E) := by
  unfold tand
  rw [ev_bind]
  congr 1
  funext b E
  cases b <;> rfl
theorem ev_tor {f g : F0 Bool} : tor f g E = Out.go (f E) fun b E => if b = false then g E else some (.ok b E) := by
  unfold tor
  rw [ev_bind]
  congr 1
  funext b E
  cases b <;> rfl
theorem ev_vand {f g : F0 T} : vand f g E = Out.go (F0.bind f (lf T.bl?) E) fun b E => if b = true then g E else some (.ok (.bl b) E) := by
  unfold vand
  rw [ev_bind]
  congr 1
  funext b E
  cases b <;> rfl
theorem ev_vor {f g : F0 T} : vor f g E = Out.go (F0.bind f (lf T.bl?) E) fun b E => if b = false then g E else some (.ok (.bl b) E) := by
  unfold vor
  rw [ev_bind]
  congr 1
  funext b E
  cases b <;> rfl
theorem ev_vnot {f : F0 T} : vnot f E = Out.go (f E) (lf fun t => t.bl?.map fun b => .bl (!b)) := ev_bind
theorem ev_vif {t : F0 Bool} {f g : F0 T} : vif t f g E = Out.go (t E) fun b E => if b = true then f E else g E := by
  unfold vif
  rw [ev_bind]
  congr 1
  funext b E
  cases b <;> rfl
theorem ev_aft {f : F0 T} {k : T → Env → Option Fl} : aft f k E = Out.fl (f E) k := by
  unfold aft Out.fl
  rcases f E with _ | (_ | _) <;> rfl
theorem ev_aftA {f : F0 (List T)} {k : List T → Env → Option Fl} : aftA f k E = Out.fl (f E) k := by
  unfold aftA Out.fl
  rcases f E with _ | (_ | _) <;> rfl
theorem ev_fset {i : Nat} {f : F0 T} : fset i f E = Out.fl (f E) fun t E => some (.nx (E.set i (some t))) := ev_aft
theorem ev_fdo {f : F0 T} : fdo f E = Out.fl (f E) fun _ E => some (.nx E) := ev_aft
theorem ev_frt {f : F0 T} : frt f E = Out.fl (f E) fun t E => some (.rt t E) := ev_aft
theorem ev_fif {t : F0 Bool} {f g : S0} : fif t f g E = Out.fl (t E) fun b E => if b = true then f E else g E := by
  unfold fif Out.fl
  rcases t E with _ | (_ | _) <;> rfl
theorem ev_fnx : fnx E = some (.nx E) := rfl
theorem ev_fbk : fbk E = some (.bk E) := rfl
theorem ev_fct : fct E = some (.ct E) := rfl
theorem ev_fno : fno E = none := rfl
theorem ev_fsq {f g : S0} : fsq f g E = Fl.go (f E) g := by
  unfold fsq Fl.go
  rfl
theorem ev_afI {f : F0 (List T)} {k : List T → S0} : afI f k E = Out.fl (f E) k := by
  unfold afI Out.fl
  rcases f E with _ | (_ | _) <;> rfl
theorem ev_fasg {g : T → Env → Option Env} {f : F0 T} : fasg g f E = Out.fl (f E) fun t E => (g t E).map Fl.nx := ev_aft
theorem ev_faug {i : Nat} {g : T → T → Option T} {f : F0 T} : faug i g f E = (vr i E).bind fun a => Out.fl (f E) fun b E' => (g a b).map fun c => .nx (E'.set i (some c)) := by
  unfold faug
  congr 1
  funext a
  exact ev_aft
theorem ev_fseti {ac : Ac} {k : P0} {f : F0 T} : fseti ac k f E = Out.fl (f E) fun t E => (ac E).bind fun r => match k E with
  | some (.int j) => (L2.ixN r.1.length j).map fun n => .nx (r.2 (r.1.set n t))
  | _ => none := ev_aft
theorem ev_fpar2 {i j : Nat} {f : F0 (List T)} : fpar2 i j f E = Out.fl (f E) fun ts E => match ts with
  | [a, b] => some (.nx ((E.set i (some a)).set j (some b)))
  | _ => none := by
  unfold fpar2
  exact ev_aftA.trans rfl
theorem ev_fcall {ms : List (Option Nat)} {F : List T → Option Rs} {ts : List T} : fcall ms F ts E = (Tr.fill ms E ts).bind fun us => Rs.go (F us) (fun t us' => (put ms us' E).map fun E' => .ok t E') fun x => some (.ex x (lose ms E)) := by
  unfold fcall Rs.go
  cases Tr.fill ms E ts <;> rfl
theorem ev_fkw {perm : List Nat} {F : List T → Option Rs} {ts : List T} : fkw perm F ts E = fcall (perm.map fun _ => none) F (pick .non perm ts) E := rfl
theorem ev_fmu0 {ac : Ac} {g : List T → Option (T × List T)} : fmu0 ac g E = (ac E).bind fun r => (g r.1).map fun z => .ok z.1 (r.2 z.2) := rfl
theorem ev_fmu1 {ac : Ac} {f : F0 T} {g : T → List T → Option (T × List T)} : fmu1 ac f g E = (ac E).bind fun _ => Out.go (f E) fun t E' => (ac E').bind fun r => (g t r.1).map fun z => .ok z.1 (r.2 z.2) := by
  unfold fmu1 Out.go
  congr 1
  funext _
  rcases f E with _ | (_ | _) <;> rfl
theorem ev_acN {i : Nat} {ts : List T} (h : vr i E = some (.lst ts)) : acN i E = some (ts, fun us => E.set i (some (.lst us))) := by
  unfold acN
  rw [vr_some h]
theorem ev_pchn {g g' : T → T → Option T} {f1 f2 f3 : P0} : pchn g g' f1 f2 f3 E = (f1 E).bind fun a => (f2 E).bind fun b => (g a b).bind fun d => match d with
  | .bl true => (f3 E).bind fun c => g' b c
  | .bl false => some (.bl false)
  | _ => none := rfl
theorem ev_gset {i : Nat} {t : T} : gset i t E = some (E.set i (some t)) := rfl
theorem ev_gnil : gnil [] E = some E := rfl
theorem ev_gcons {g : T → Env → Option Env} {h : List T → Env → Option Env} {t : T} {ts : List T} : gcons g h (t :: ts) E = (g t E).bind fun E => h ts E := rfl
/-! the scalars -/
theorem z_add {i j : Int} : addS (.int i) (.int j) = some (.int (i + j)) := rfl
theorem z_addL {i j : Int} : addL (.int i) (.int j) = some (.int (i + j)) := rfl
theorem z_sub {i j : Int} : subS (.int i) (.int j) = some (.int (i - j)) := rfl
theorem z_mod {i j : Int} (h : 0 < j) : modS (.int i) (.int j) = some (.int (i % j)) := if_pos h
theorem z_fdiv {i j : Int} (h : 0 < j) (h2 : j < 1073741824) : fdivS (.int i) (.int j) = some (.int (i / j)) := by
  show (if _ then _ else _) = _
  rw [if_pos (by simp [h, h2])]
theorem z_cmp {f : Int → Int → Bool} {i j : Int} : cmpS f (.int i) (.int j) = some (.bl (f i j)) := rfl
theorem z_int {i : Int} : intT (.int i) = some (.int i) := rfl
theorem z_intb {b : Bool} : intT (.bl b) = some (.int (if b then 1 else 0)) := rfl
theorem z_len {xs : List T} : lenT (.lst xs) = some (.int xs.length) := rfl
theorem z_lent {xs : List T} : lenT (.tup xs) = some (.int xs.length) := rfl
theorem z_bl {b : Bool} : T.bl? (.bl b) = some b := rfl
theorem z_int? {i : Int} : T.int? (.int i) = some i := rfl
theorem z_lst {xs : List T} : T.lst? (.lst xs) = some xs := rfl
theorem z_tup {xs : List T} : T.tup? (.tup xs) = some xs := rfl
theorem z_seq {xs : List T} : T.seq? (.lst xs) = some xs := rfl
theorem z_neg {i : Int} : negT (.int i) = some (.int (-i)) := rfl
theorem z_mul {i j : Int} (h : i.natAbs < 2 ^ 64 ∨ j.natAbs < 2 ^ 64) : mulS (.int i) (.int j) = some (.int (i * j)) := by
  show (if _ then _ else _) = _
  rw [if_pos (by simpa using h)]
theorem z_isN {a : T} : isN a .non = some (.bl a.isN) := rfl
theorem z_notN {a : T} : notN a .non = some (.bl (!a.isN)) := rfl
theorem z_isNi {i : Int} : (T.int i).isN = false := rfl
theorem z_isNn : T.non.isN = true := rfl
theorem z_isNl {xs : List T} : (T.lst xs).isN = false := rfl
theorem z_isNs {x : Str} : (T.str x).isN = false := rfl
theorem z_isNt {xs : List T} : (T.tup xs).isN = false := rfl
theorem z_list {xs : List T} : one listT [.lst xs] = some (.lst xs) := rfl
theorem z_listt {xs : List T} : one listT [.tup xs] = some (.lst xs) := rfl
theorem z_rev {xs : List T} : revT (.lst xs) = some (.lst xs.reverse) := rfl
theorem z_ints? (xs : List Int) : ints? (xs.map T.int) = some xs := by
  induction xs with
  | nil => rfl
  | cons x xs ih => simp [ints?, ih]
theorem z_sort (xs : List Int) : one sortT [.lst (xs.map T.int)] = some (.lst ((srt xs).map T.int)) := by
  show sortT (.lst (xs.map T.int)) = _
  simp [sortT, T.sq, z_ints?]
theorem z_eqi {i j : Int} : eqT (.int i) (.int j) = some (.bl (decide (i = j))) := by
  rw [show eqT (.int i) (.int j) = some (.bl (PyData.eqv (.int i) (.int j))) from rfl]
  rfl
theorem z_nei {i j : Int} : neT (.int i) (.int j) = some (.bl (!decide (i = j))) := by
  rw [show neT (.int i) (.int j) = some (.bl (!PyData.eqv (.int i) (.int j))) from rfl]
  rfl
theorem z_eqs {x y : Str} : eqT (.str x) (.str y) = some (.bl (decide (x = y))) := by
  unfold eqT
  split
  · simp only [T.py]
    rfl
  · rfl
theorem z_nes {x y : Str} : neT (.str x) (.str y) = some (.bl (!decide (x = y))) := by
  unfold neT
  split
  · simp only [T.py]
    rfl
  · rfl
theorem z_eqb {x y : Bool} : eqT (.bl x) (.bl y) = some (.bl (decide (x = y))) := by
  cases x <;> cases y <;> rfl
theorem z_neb {x y : Bool} : neT (.bl x) (.bl y) = some (.bl (!decide (x = y))) := by
  cases x <;> cases y <;> rfl
theorem pow_10_3 : powS (.int 10) (.int 3) = some (.int (10 ^ 3)) := by rfl
theorem pow_10_6 : powS (.int 10) (.int 6) = some (.int (10 ^ 6)) := by rfl
theorem pow_10_18 : powS (.int 10) (.int 18) = some (.int (10 ^ 18)) := by rfl
theorem pow_10_19 : powS (.int 10) (.int 19) = some (.int (10 ^ 19)) := by rfl
theorem pow_10_20 : powS (.int 10) (.int 20) = some (.int (10 ^ 20)) := by rfl
theorem pow_10_60 : powS (.int 10) (.int 60) = some (.int (10 ^ 60)) := by rfl
theorem pow_10_20n : powS (.int 10) (.int 20) = some (.int 100000000000000000000) := by rfl
theorem pow_60_60 : powS (.int (10 ^ 60)) (.int 60) = some (.int ((10 ^ 60) ^ 60)) := by rfl
theorem pow_3600_4 : powS (.int ((10 ^ 60) ^ 60)) (.int 4) = some (.int (((10 ^ 60) ^ 60) ^ 4)) := by rfl
theorem cut_to {α : Type} (xs : List α) (n : Nat) : cutT xs none (some (n : Int)) = xs.take n := by
  have h : ¬ ((n : Int) < 0) := by omega
  unfold cutT HT.sIx
  simp only [h, if_false, List.drop_zero, Nat.sub_zero, Int.toNat_natCast]
  rw [List.take_eq_take_iff]
  omega
theorem cut_from {α : Type} (xs : List α) (n : Nat) : cutT xs (some (n : Int)) none = xs.drop n := by
  have h : ¬ ((n : Int) < 0) := by omega
  unfold cutT HT.sIx
  simp only [h, if_false, Int.toNat_natCast]
  by_cases k : n ≤ xs.length
  · rw [Nat.min_eq_left k, List.take_of_length_le (by simp)]
  · rw [List.drop_eq_nil_of_le (by omega : xs.length ≤ n), Nat.min_eq_right (by omega), List.drop_length, List.take_nil]
theorem cut_ab {α : Type} (xs : List α) (m n : Nat) : cutT xs (some (m : Int)) (some (n : Int)) = (xs.drop m).take (n - m) := by
  have h : ¬ ((n : Int) < 0) := by omega
  have h2 : ¬ ((m : Int) < 0) := by omega
  unfold cutT HT.sIx
  simp only [h, h2, if_false, Int.toNat_natCast]
  by_cases k : m ≤ xs.length
  · rw [Nat.min_eq_left k, List.take_eq_take_iff, List.length_drop]
    omega
  · rw [List.drop_eq_nil_of_le (by omega : xs.length ≤ m), Nat.min_eq_right (by omega : xs.length ≤ m), List.drop_length, List.take_nil, List.take_nil]
/-! displays -/
theorem z_ml {ts : List T} (h : ts.length ≤ sizeLine) : mkL ts = some (.lst ts) := if_pos h
theorem z_mt {ts : List T} (h : ts.length ≤ sizeLine) : mkT ts = some (.tup ts) := if_pos h
theorem z_ml0 : mkL [] = some (.lst []) := z_ml (by rw [sizeLine_eq]; simp)
theorem z_ml1 {a0 : T} : mkL [a0] = some (.lst [a0]) := z_ml (by rw [sizeLine_eq]; simp)
theorem z_mt1 {a0 : T} : mkT [a0] = some (.tup [a0]) := z_mt (by rw [sizeLine_eq]; simp)
theorem z_ml2 {a0 a1 : T} : mkL [a0, a1] = some (.lst [a0, a1]) := z_ml (by rw [sizeLine_eq]; simp)
theorem z_mt2 {a0 a1 : T} : mkT [a0, a1] = some (.tup [a0, a1]) := z_mt (by rw [sizeLine_eq]; simp)
theorem z_ml3 {a0 a1 a2 : T} : mkL [a0, a1, a2] = some (.lst [a0, a1, a2]) := z_ml (by rw [sizeLine_eq]; simp)
theorem z_mt3 {a0 a1 a2 : T} : mkT [a0, a1, a2] = some (.tup [a0, a1, a2]) := z_mt (by rw [sizeLine_eq]; simp)
theorem z_ml4 {a0 a1 a2 a3 : T} : mkL [a0, a1, a2, a3] = some (.lst [a0, a1, a2, a3]) := z_ml (by rw [sizeLine_eq]; simp)
theorem z_mt4 {a0 a1 a2 a3 : T} : mkT [a0, a1, a2, a3] = some (.tup [a0, a1, a2, a3]) := z_mt (by rw [sizeLine_eq]; simp)
theorem z_ml5 {a0 a1 a2 a3 a4 : T} : mkL [a0, a1, a2, a3, a4] = some (.lst [a0, a1, a2, a3, a4]) := z_ml (by rw [sizeLine_eq]; simp)
theorem z_mt5 {a0 a1 a2 a3 a4 : T} : mkT [a0, a1, a2, a3, a4] = some (.tup [a0, a1, a2, a3, a4]) := z_mt (by rw [sizeLine_eq]; simp)
theorem z_ml6 {a0 a1 a2 a3 a4 a5 : T} : mkL [a0, a1, a2, a3, a4, a5] = some (.lst [a0, a1, a2, a3, a4, a5]) := z_ml (by rw [sizeLine_eq]; simp)
theorem z_ml7 {a0 a1 a2 a3 a4 a5 a6 : T} : mkL [a0, a1, a2, a3, a4, a5, a6] = some (.lst [a0, a1, a2, a3, a4, a5, a6]) := z_ml (by rw [sizeLine_eq]; simp)
theorem z_ml8 {a0 a1 a2 a3 a4 a5 a6 a7 : T} : mkL [a0, a1, a2, a3, a4, a5, a6, a7] = some (.lst [a0, a1, a2, a3, a4, a5, a6, a7]) := z_ml (by rw [sizeLine_eq]; simp)
theorem z_ml9 {a0 a1 a2 a3 a4 a5 a6 a7 a8 : T} : mkL [a0, a1, a2, a3, a4, a5, a6, a7, a8] = some (.lst [a0, a1, a2, a3, a4, a5, a6, a7, a8]) := z_ml (by rw [sizeLine_eq]; simp)
theorem z_ml10 {a0 a1 a2 a3 a4 a5 a6 a7 a8 a9 : T} : mkL [a0, a1, a2, a3, a4, a5, a6, a7, a8, a9] = some (.lst [a0, a1, a2, a3, a4, a5, a6, a7, a8, a9]) := z_ml (by rw [sizeLine_eq]; simp)
theorem z_ml11 {a0 a1 a2 a3 a4 a5 a6 a7 a8 a9 a10 : T} : mkL [a0, a1, a2, a3, a4, a5, a6, a7, a8, a9, a10] = some (.lst [a0, a1, a2, a3, a4, a5, a6, a7, a8, a9, a10]) := z_ml (by rw [sizeLine_eq]; simp)
theorem z_ml12 {a0 a1 a2 a3 a4 a5 a6 a7 a8 a9 a10 a11 : T} : mkL [a0, a1, a2, a3, a4, a5, a6, a7, a8, a9, a10, a11] = some (.lst [a0, a1, a2, a3, a4, a5, a6, a7, a8, a9, a10, a11]) := z_ml (by rw [sizeLine_eq]; simp)
theorem z_ml13 {a0 a1 a2 a3 a4 a5 a6 a7 a8 a9 a10 a11 a12 : T} : mkL [a0, a1, a2, a3, a4, a5, a6, a7, a8, a9, a10, a11, a12] = some (.lst [a0, a1, a2, a3, a4, a5, a6, a7, a8, a9, a10, a11, a12]) := z_ml (by rw [sizeLine_eq]; simp)
theorem z_ml14 {a0 a1 a2 a3 a4 a5 a6 a7 a8 a9 a10 a11 a12 a13 : T} : mkL [a0, a1, a2, a3, a4, a5, a6, a7, a8, a9, a10, a11, a12, a13] = some (.lst [a0, a1, a2, a3, a4, a5, a6, a7, a8, a9, a10, a11, a12, a13]) := z_ml (by rw [sizeLine_eq]; simp)
theorem z_ixl0 {a0 : T} {l : List T} : ixT (.lst (a0 :: l)) (.int 0) = some a0 := ix_lst (k := 0) rfl
theorem z_ixt0 {a0 : T} {l : List T} : ixT (.tup (a0 :: l)) (.int 0) = some a0 := ix_tup (k := 0) rfl
theorem z_ixl1 {a0 a1 : T} {l : List T} : ixT (.lst (a0 :: a1 :: l)) (.int 1) = some a1 := ix_lst (k := 1) rfl
theorem z_ixt1 {a0 a1 : T} {l : List T} : ixT (.tup (a0 :: a1 :: l)) (.int 1) = some a1 := ix_tup (k := 1) rfl
theorem z_ixl2 {a0 a1 a2 : T} {l : List T} : ixT (.lst (a0 :: a1 :: a2 :: l)) (.int 2) = some a2 := ix_lst (k := 2) rfl
theorem z_ixt2 {a0 a1 a2 : T} {l : List T} : ixT (.tup (a0 :: a1 :: a2 :: l)) (.int 2) = some a2 := ix_tup (k := 2) rfl
theorem z_ixl3 {a0 a1 a2 a3 : T} {l : List T} : ixT (.lst (a0 :: a1 :: a2 :: a3 :: l)) (.int 3) = some a3 := ix_lst (k := 3) rfl
theorem z_ixt3 {a0 a1 a2 a3 : T} {l : List T} : ixT (.tup (a0 :: a1 :: a2 :: a3 :: l)) (.int 3) = some a3 := ix_tup (k := 3) rfl
theorem z_ixl4 {a0 a1 a2 a3 a4 : T} {l : List T} : ixT (.lst (a0 :: a1 :: a2 :: a3 :: a4 :: l)) (.int 4) = some a4 := ix_lst (k := 4) rfl
theorem z_ixt4 {a0 a1 a2 a3 a4 : T} {l : List T} : ixT (.tup (a0 :: a1 :: a2 :: a3 :: a4 :: l)) (.int 4) = some a4 := ix_tup (k := 4) rfl
theorem z_ixl5 {a0 a1 a2 a3 a4 a5 : T} {l : List T} : ixT (.lst (a0 :: a1 :: a2 :: a3 :: a4 :: a5 :: l)) (.int 5) = some a5 := ix_lst (k := 5) rfl
theorem z_ixl6 {a0 a1 a2 a3 a4 a5 a6 : T} {l : List T} : ixT (.lst (a0 :: a1 :: a2 :: a3 :: a4 :: a5 :: a6 :: l)) (.int 6) = some a6 := ix_lst (k := 6) rfl
theorem z_ixl7 {a0 a1 a2 a3 a4 a5 a6 a7 : T} {l : List T} : ixT (.lst (a0 :: a1 :: a2 :: a3 :: a4 :: a5 :: a6 :: a7 :: l)) (.int 7) = some a7 := ix_lst (k := 7) rfl
theorem z_ixl8 {a0 a1 a2 a3 a4 a5 a6 a7 a8 : T} {l : List T} : ixT (.lst (a0 :: a1 :: a2 :: a3 :: a4 :: a5 :: a6 :: a7 :: a8 :: l)) (.int 8) = some a8 := ix_lst (k := 8) rfl
theorem z_ixl9 {a0 a1 a2 a3 a4 a5 a6 a7 a8 a9 : T} {l : List T} : ixT (.lst (a0 :: a1 :: a2 :: a3 :: a4 :: a5 :: a6 :: a7 :: a8 :: a9 :: l)) (.int 9) = some a9 := ix_lst (k := 9) rfl
theorem z_ixl10 {a0 a1 a2 a3 a4 a5 a6 a7 a8 a9 a10 : T} {l : List T} : ixT (.lst (a0 :: a1 :: a2 :: a3 :: a4 :: a5 :: a6 :: a7 :: a8 :: a9 :: a10 :: l)) (.int 10) = some a10 := ix_lst (k := 10) rfl
theorem z_ixl11 {a0 a1 a2 a3 a4 a5 a6 a7 a8 a9 a10 a11 : T} {l : List T} : ixT (.lst (a0 :: a1 :: a2 :: a3 :: a4 :: a5 :: a6 :: a7 :: a8 :: a9 :: a10 :: a11 :: l)) (.int 11) = some a11 := ix_lst (k := 11) rfl
theorem z_ixl12 {a0 a1 a2 a3 a4 a5 a6 a7 a8 a9 a10 a11 a12 : T} {l : List T} : ixT (.lst (a0 :: a1 :: a2 :: a3 :: a4 :: a5 :: a6 :: a7 :: a8 :: a9 :: a10 :: a11 :: a12 :: l)) (.int 12) = some a12 := ix_lst (k := 12) rfl
theorem z_ixl13 {a0 a1 a2 a3 a4 a5 a6 a7 a8 a9 a10 a11 a12 a13 : T} {l : List T} : ixT (.lst (a0 :: a1 :: a2 :: a3 :: a4 :: a5 :: a6 :: a7 :: a8 :: a9 :: a10 :: a11 :: a12 :: a13 :: l)) (.int 13) = some a13 := ix_lst (k := 13) rfl
theorem z_ixif {a b : T} {c : Prop} [Decidable c] : ixT (.lst [a, b]) (.int (if c then 1 else 0)) = some (if c then b else a) := by
  by_cases h : c
  · rw [if_pos h, if_pos h]
    exact z_ixl1
  · rw [if_neg h, if_neg h]
    exact z_ixl0
theorem z_app {t : T} {ts : List T} (h : ts.length < sizeLine) : appT t ts = some (.non, ts ++ [t]) := if_pos h
theorem z_rng1 {j : Int} (h : j.natAbs < 2 ^ 61) : rng1 [.int j] = some (rngT 0 j.toNat) := by
  simp [rng1, h]
theorem z_rngT (n : Nat) : rngT 0 n = (List.range n).map fun (i : Nat) => T.int (i : Int) := by
  unfold rngT
  simp
theorem z_lrg1 {n : Nat} (h : n ≤ 2 ^ 24) : lrg1 (.int (n : Int)) = some (.lst ((List.range n).map fun (i : Nat) => T.int (i : Int))) := by
  show (if _ then _ else _) = _
  rw [if_pos (by omega), Int.toNat_natCast, z_rngT]
theorem ev_acn {i : Nat} {E : Env} : acN i E = match E[i]? with
  | some (some (.lst ts)) => some (ts, fun us => E.set i (some (.lst us)))
  | _ => none := rfl
theorem ev_aci {i : Nat} {k : P0} {E : Env} : acI i k E = match E[i]? with
  | some (some (.lst ts)) => match k E with
    | some (.int j) => match L2.ixN ts.length j with
      | some n => match ts[n]? with
        | some (.lst us) => some (us, fun ws => E.set i (some (.lst (ts.set n (.lst ws)))))
        | _ => none
      | none => none
    | _ => none
  | _ => none := rfl
theorem z_ixN0 {n : Nat} : L2.ixN (n + 1) 0 = some 0 := by
  unfold L2.ixN
  rw [if_pos (by omega), if_pos (by omega)]
  rfl
theorem z_popAt {ts : List T} {t : T} (k : Nat) (h : ts[k]? = some t) (hz : ts.length ≤ sizeLine) : popAtT (.int (k : Int)) ts = some (t, ts.eraseIdx k) := by
  have hk := (List.getElem?_eq_some_iff.mp h).1
  have : L2.ixN ts.length (k : Int) = some k := by
    unfold L2.ixN
    rw [if_pos (by omega), if_pos (by omega)]
    simp
  simp only [popAtT]
  rw [if_pos hz, this]
  simp [h]
/-! calls -/
theorem fill_nil : Tr.fill [] E [] = some [] := by cases E <;> rfl
theorem fill_no {ms : List (Option Nat)} {t : T} {ts : List T} : Tr.fill (none :: ms) E (t :: ts) = (Tr.fill ms E ts).map fun us => t :: us := by rw [Tr.fill]
theorem fill_so {ms : List (Option Nat)} {j : Nat} {t : T} {ts : List T} : Tr.fill (some j :: ms) E (t :: ts) = (vr j E).bind fun u => (Tr.fill ms E ts).map fun us => u :: us := by rw [Tr.fill]
theorem put_of {ms : List (Option Nat)} {ts : List T} : put ms ts E = match hole ms with
  | none => some E
  | some j => (back ms ts).map fun t => E.set j (some t) := rfl
theorem hole_nil : hole [] = none := rfl
theorem hole_no {ms : List (Option Nat)} : hole (none :: ms) = hole ms := rfl
theorem hole_so {ms : List (Option Nat)} {j : Nat} : hole (some j :: ms) = some j := rfl
theorem back_no {ms : List (Option Nat)} {t : T} {ts : List T} : back (none :: ms) (t :: ts) = back ms ts := rfl
theorem back_so {ms : List (Option Nat)} {j : Nat} {t : T} {ts : List T} : back (some j :: ms) (t :: ts) = some t := rfl
def Fl.fin (Γp : List Ow) (ts : List T) (r : Option Fl) : Option Rs := match r with
  | some (.rt t E) => (mixT Γp ts E).map (Rs.ok t)
  | some (.nx E) => (mixT Γp ts E).map (Rs.ok .non)
  | some (.ex x _) => some (.ex x)
  | _ => none
theorem run_ev {Γp : List Ow} {n : Nat} {b : S0} {ts : List T} : runF Γp n b ts = Fl.fin Γp ts (b (ts.map some ++ List.replicate (n - ts.length) none)) := by
  unfold runF Fl.fin
  rfl
theorem fin_rt {Γp : List Ow} {ts : List T} {t : T} : Fl.fin Γp ts (some (.rt t E)) = (mixT Γp ts E).map (Rs.ok t) := rfl
theorem fin_nx {Γp : List Ow} {ts : List T} : Fl.fin Γp ts (some (.nx E)) = (mixT Γp ts E).map (Rs.ok .non) := rfl
theorem fin_ex {Γp : List Ow} {ts : List T} {x : Ex} : Fl.fin Γp ts (some (.ex x E)) = some (.ex x) := rfl
theorem mix_nil : mixT [] [] E = some [] := by rw [mixT]
theorem mix_sh {Γ : List Ow} {t : T} {ts : List T} {o : Option T} : mixT (.sh :: Γ) (t :: ts) (o :: E) = (mixT Γ ts E).map fun us => t :: us := by rw [mixT]
theorem mix_ow {Γ : List Ow} {i : Ow} {t u : T} {ts : List T} : mixT (.ow i :: Γ) (t :: ts) (some u :: E) = (mixT Γ ts E).map fun us => u :: us := by rw [mixT]
theorem ffor_nil {g : T → Env → Option Env} {b : S0} : ffor g b [] E = some (.nx E) := rfl
theorem ev_acI {i : Nat} {k : P0} {ts us : List T} {j n : Nat} (h : vr i E = some (.lst ts)) (hk : k E = some (.int (j : Int))) (hu : ts[j]? = some (.lst us)) : acI i k E = some (us, fun ws => E.set i (some (.lst (ts.set j (.lst ws))))) := by
  unfold acI
  rw [vr_some h]
  simp only [hk]
  have hj := (List.getElem?_eq_some_iff.mp hu).1
  have : L2.ixN ts.length (j : Int) = some j := by
    unfold L2.ixN
    rw [if_pos (by omega), if_pos (by omega)]
    simp
  simp only [this, hu]
end
theorem ev_go {α β : Type} {r : Option (Out α)} {k : α → Env → Option (Out β)} : Out.go r k = match r with
  | none => none
  | some (.ok a E) => k a E
  | some (.ex x E) => some (.ex x E) := rfl
theorem ev_fl {α : Type} {r : Option (Out α)} {k : α → Env → Option Fl} : Out.fl r k = match r with
  | none => none
  | some (.ok a E) => k a E
  | some (.ex x E) => some (.ex x E) := rfl
theorem ev_flgo {r : Option Fl} {k : Env → Option Fl} : Fl.go r k = match r with
  | some (.nx E) => k E
  | r => r := rfl
theorem ev_rsgo {r : Option Rs} {k : T → List T → Option (Out T)} {x : Ex → Option (Out T)} : Rs.go r k x = match r with
  | none => none
  | some (.ok t ts) => k t ts
  | some (.ex e) => x e := rfl
/-- a loop that goes to its end or returns -/
theorem ffor_ret {g : T → Env → Option Env} {b : S0} (I : Nat → Env → Prop) (R : T → Env → Prop) : ∀ {ts : List T} {k : Nat} {E : Env}, I k E →
    (∀ (j : Nat) (t : T) (E : Env), ts[j]? = some t → I (k + j) E → ∃ E1, g t E = some E1 ∧ ((∃ E2, (b E1 = some (.nx E2) ∨ b E1 = some (.ct E2)) ∧ I (k + j + 1) E2) ∨ ∃ u E2, b E1 = some (.rt u E2) ∧ R u E2)) →
    (∃ E', ffor g b ts E = some (.nx E') ∧ I (k + ts.length) E') ∨ ∃ u E', ffor g b ts E = some (.rt u E') ∧ R u E'
  | [], k, E, h, _ => .inl ⟨E, rfl, h⟩
  | t :: ts, k, E, h, step => by
    obtain ⟨E1, e1, q⟩ := step 0 t E rfl h
    rcases q with ⟨E2, e2, h2⟩ | ⟨u, E2, e2, h2⟩
    · have ih := ffor_ret (ts := ts) (k := k + 1) I R h2 fun j u E hj hI => by
        have := step (j + 1) u E (by simpa using hj) (by rw [show k + (j + 1) = k + 1 + j by omega]; exact hI)
        rw [show k + (j + 1) + 1 = k + 1 + j + 1 by omega] at this
        exact this
      have e : ffor g b (t :: ts) E = ffor g b ts E2 := by
        conv => lhs; unfold ffor
        rw [e1]
        rcases e2 with e2 | e2 <;> simp only [e2]
      rw [e, List.length_cons, show k + (ts.length + 1) = k + 1 + ts.length by omega]
      exact ih
    · refine .inr ⟨u, E2, ?_, h2⟩
      unfold ffor
      rw [e1]
      simp only [e2]
theorem rngT_len {i : Int} {n : Nat} : (rngT i n).length = n := by simp [rngT]
theorem rngT_get {i : Int} {n j : Nat} {t : T} (h : (rngT i n)[j]? = some t) : j < n ∧ t = .int (i + (j : Int)) := by
  unfold rngT at h
  rw [List.getElem?_map] at h
  obtain ⟨a, ha, e⟩ := Option.map_eq_some_iff.mp h
  obtain ⟨h1, h2⟩ := List.getElem?_eq_some_iff.mp ha
  simp at h1 h2
  subst h2
  exact ⟨h1, e.symm⟩
/-! ## the draws -/
structure Dr where
  N : Int
  k : Int
  b : Bool
abbrev Dr.t (d : Dr) : T := .lst [.int d.N, .int d.k, .bl d.b]
/-- m more draws may be made -/
def Dr.ok (d : Dr) (m : Nat) : Prop := 0 ≤ d.k ∧ d.k + m ≤ 2 ^ 60
theorem Dr.ok.le {d : Dr} {m n : Nat} (h : d.ok m) (l : n ≤ m) : d.ok n := ⟨h.1, by have := h.2; omega⟩
end Tr

end
section
set_option maxHeartbeats 2000000
/-! TrN: what repr shows. -/
namespace Tr
open PySem
/-- t can be shown, in at most n signs, d deep -/
def Sw (n d : Nat) (t : T) : Prop := ∃ x, toD t = some x ∧ x.showable = true ∧ x.depth ≤ d ∧ x.shown.length ≤ n
theorem Sw.le {n d n' d' : Nat} {t : T} (h : Sw n d t) (a : n ≤ n') (b : d ≤ d') : Sw n' d' t := by
  obtain ⟨x, h1, h2, h3, h4⟩ := h
  exact ⟨x, h1, h2, Nat.le_trans h3 b, Nat.le_trans h4 a⟩
theorem Sw.non : Sw 4 0 .non := ⟨.none, by simp [toD], by simp [PyData.showable], by simp [PyData.depth], Nat.le_refl 4⟩
theorem Sw.bl (b : Bool) : Sw 5 0 (.bl b) := ⟨.bool b, by simp [toD], by simp [PyData.showable], by simp [PyData.depth], by cases b <;> decide⟩
theorem Sw.int {i : Int} (h : i.natAbs < 10 ^ 40) : Sw 41 0 (.int i) := by
  refine ⟨.int i, by simp [toD], ?_, by simp [PyData.depth], ?_⟩
  · simp only [PyData.showable, decide_eq_true_eq]
    by_cases h0 : i.natAbs = 0
    · rw [h0]; decide
    · rw [Nat.log2_lt h0]
      exact Nat.lt_of_lt_of_le h (Nat.le_trans (show 10 ^ 40 ≤ 2 ^ 160 by decide) (Nat.pow_le_pow_right (by decide) (by decide)))
  · have e := int_text_length_le10 (k := 40) (by decide) h
    show (Str.ofString (toString i)).length ≤ 41
    rw [ofString_length]
    omega
theorem Sw.all {n d : Nat} : ∀ {ts : List T}, (∀ t ∈ ts, Sw n d t) → ∃ xs, toDs ts = some xs ∧ PyData.showableAll xs = true ∧ PyData.depthAll xs ≤ d ∧ xs.length = ts.length ∧ ((PyData.shownAll xs).map (·.length)).sum ≤ ts.length * n ∧ (PyData.shownAll xs).length = ts.length
  | [], _ => ⟨[], by simp [toDs], by simp [PyData.showableAll], by simp [PyData.depthAll], rfl, by simp [PyData.shownAll], by simp [PyData.shownAll]⟩
  | t :: ts, h => by
    obtain ⟨x, h1, h2, h3, h4⟩ := h t (by simp)
    obtain ⟨xs, g1, g2, g3, g4, g5, g6⟩ := Sw.all fun t ht => h t (List.mem_cons_of_mem _ ht)
    refine ⟨x :: xs, by simp [toDs, h1, g1], by simp [PyData.showableAll, h2, g2], by simp only [PyData.depthAll]; omega, by simp [g4], ?_, by simp [PyData.shownAll, g6]⟩
    simp only [PyData.shownAll, List.map_cons, List.sum_cons, List.length_cons]
    rw [Nat.succ_mul]
    omega
theorem Sw.lst {n d : Nat} {ts : List T} (h : ∀ t ∈ ts, Sw n d t) : Sw (ts.length * (n + 2) + 3) (d + 1) (.lst ts) := by
  obtain ⟨xs, g1, g2, g3, g4, g5, g6⟩ := Sw.all h
  refine ⟨.list xs, by simp [toD, g1], by simp [PyData.showable, g2], by simp only [PyData.depth]; omega, ?_⟩
  have := listText_len_le (PyData.shownAll xs)
  show (listText (PyData.shownAll xs)).length ≤ _
  rw [Nat.mul_add]
  omega
theorem Sw.tup {n d : Nat} {ts : List T} (h : ∀ t ∈ ts, Sw n d t) : Sw (ts.length * (n + 2) + 3) (d + 1) (.tup ts) := by
  obtain ⟨xs, g1, g2, g3, g4, g5, g6⟩ := Sw.all h
  refine ⟨.tuple xs, by simp [toD, g1], by simp [PyData.showable, g2], by simp only [PyData.depth]; omega, ?_⟩
  have := tupleText_len_le (PyData.shownAll xs)
  show (tupleText (PyData.shownAll xs)).length ≤ _
  rw [Nat.mul_add]
  omega
theorem Sw.lstl {n d m : Nat} {ts : List T} (h : ∀ t ∈ ts, Sw n d t) (l : ts.length ≤ m) : Sw (m * (n + 2) + 3) (d + 1) (.lst ts) := (Sw.lst h).le (by have := Nat.mul_le_mul_right (n + 2) l; omega) (Nat.le_refl _)
theorem Sw.l1 {n d : Nat} {a : T} (ha : Sw n d a) : Sw (1 * (n + 2) + 3) (d + 1) (.lst [a]) := Sw.lst fun t ht => by simp at ht; rw [ht]; exact ha
theorem Sw.l2 {n d : Nat} {a b : T} (ha : Sw n d a) (hb : Sw n d b) : Sw (2 * (n + 2) + 3) (d + 1) (.lst [a, b]) := Sw.lst fun t ht => by
  simp at ht
  rcases ht with e | e <;> rw [e] <;> assumption
theorem Sw.t2 {n d : Nat} {a b : T} (ha : Sw n d a) (hb : Sw n d b) : Sw (2 * (n + 2) + 3) (d + 1) (.tup [a, b]) := Sw.tup fun t ht => by
  simp at ht
  rcases ht with e | e <;> rw [e] <;> assumption
theorem Sw.repr {n d : Nat} {t : T} (h : Sw n d t) (hn : n ≤ 2 ^ 24 := by decide) (hd : d < 20 := by decide) : ∃ c, reprT t = some (.str c) := by
  obtain ⟨x, h1, h2, h3, h4⟩ := h
  have gen : ∀ {t : T}, toD t = some x → ((toD t).bind fun d => if d.showable && decide (d.depth < 20) && decide (d.shown.length ≤ sizeLine) then some (T.str d.shown) else none) = some (.str x.shown) := by
    intro t h1
    rw [h1]
    simp only [Option.bind_some]
    rw [if_pos]
    rw [h2, sizeLine_eq]
    simp
    omega
  cases t with
  | non => exact ⟨_, rfl⟩
  | bl b => exact ⟨_, rfl⟩
  | int i =>
    simp [toD] at h1
    subst h1
    simp only [PyData.showable, decide_eq_true_eq] at h2
    exact ⟨_, by simp only [reprT]; rw [if_pos h2]⟩
  | str z =>
    simp [toD] at h1
    subst h1
    refine ⟨reprText z, ?_⟩
    simp only [reprT]
    rw [if_pos]
    have : (PyData.shown (.str z)).length ≤ n := h4
    simp only [PyData.shown] at this
    rw [sizeLine_eq]
    omega
  | lst xs => exact ⟨_, gen h1⟩
  | tup xs => exact ⟨_, gen h1⟩
  | fz xs => exact ⟨_, gen h1⟩
  | adr a => simp [toD] at h1
  | box k ts => simp [toD] at h1
/-! ## comprehensions that choose and change -/
theorem flc_fm_go {α : Type} {g : T → Env → Option Env} {vs : List Nat} {t : F0 Bool} {e : F0 T} {E : Env} {mk h : α → T} {P : α → Bool} : ∀ {xs : List α} {acc : List T}, acc.length + xs.length ≤ sizeLine →
    (∀ x ∈ xs, ∃ E1, g (mk x) E = some E1 ∧ clrs vs E1 = E ∧ t E1 = some (.ok (P x) E1) ∧ (P x = true → e E1 = some (.ok (h x) E1))) → flcGo g vs t e (xs.map mk) acc E = some (acc ++ (xs.filter P).map h, E)
  | [], acc, _, _ => by simp [flcGo]
  | x :: xs, acc, hz, hi => by
    obtain ⟨E1, e1, ec, et, ee⟩ := hi x (by simp)
    rw [List.length_cons] at hz
    rw [List.map_cons, flcGo]
    by_cases hp : P x = true
    · rw [hp] at et
      simp only [e1, et, ee hp]
      rw [if_pos (by omega), ec, flc_fm_go (by simp; omega) fun z hz => hi z (by simp [hz]), List.filter_cons, if_pos hp]
      simp
    · rw [Bool.not_eq_true] at hp
      rw [hp] at et
      simp only [e1, et]
      rw [ec, flc_fm_go (by omega) fun z hz => hi z (by simp [hz]), List.filter_cons, if_neg (by simp [hp])]
theorem flc_fm {α : Type} {fi : F0 (List T)} {g : T → Env → Option Env} {vs : List Nat} {t : F0 Bool} {e : F0 T} {E E1 : Env} {xs : List α} (mk h : α → T) (P : α → Bool) (hf : fi E = some (.ok (xs.map mk) E1)) (hu : unset vs E1 = true) (hz : xs.length ≤ sizeLine)
    (hi : ∀ x ∈ xs, ∃ E2, g (mk x) E1 = some E2 ∧ clrs vs E2 = E1 ∧ t E2 = some (.ok (P x) E2) ∧ (P x = true → e E2 = some (.ok (h x) E2))) : flc fi g vs t e E = some (.ok (.lst ((xs.filter P).map h)) E1) := by
  unfold flc
  refine bd hf ?_
  rw [if_pos hu, flc_fm_go (by simpa using hz) hi]
  rfl
/-! ## x in xs -/
theorem any_in {α : Type} [DecidableEq α] {f : α → T} (h : EqF f) (a : α) : ∀ ys : List α, ((T.pyA (ys.map f)).any fun z => PyData.eqv z (f a).py) = decide (a ∈ ys)
  | [] => by simp [T.pyA]
  | y :: ys => by
    simp only [List.map_cons, T.pyA, List.any_cons, any_in h a ys, h y a]
    by_cases e : a = y
    · subst e
      simp
    · have e' : ¬ y = a := fun z => e z.symm
      simp [e, e']
theorem inT_of {α : Type} [DecidableEq α] {f : α → T} {n : Nat} (h : EqF f) (p : ∀ a, Pl n (f a)) (a : α) (ys : List α) (hn : n + 1 ≤ 64 := by decide) : inT (f a) (.lst (ys.map f)) = some (.bl (decide (a ∈ ys))) := by
  have h2 := (Pl.lst p ys).cmp hn
  show (if (f a).cmp && (T.lst (ys.map f)).cmp then _ else _) = _
  rw [h2, (p a).cmp (by omega), any_in h]
  rfl
theorem ninT_of {α : Type} [DecidableEq α] {f : α → T} {n : Nat} (h : EqF f) (p : ∀ a, Pl n (f a)) (a : α) (ys : List α) (hn : n + 1 ≤ 64 := by decide) : ninT (f a) (.lst (ys.map f)) = some (.bl (!decide (a ∈ ys))) := by
  unfold ninT
  rw [inT_of h p a ys hn]
theorem z_ini (i : Int) (ys : List Int) : inT (.int i) (.lst (ys.map T.int)) = some (.bl (decide (i ∈ ys))) := inT_of eqf_int Pl.int i ys
theorem z_nini (i : Int) (ys : List Int) : ninT (.int i) (.lst (ys.map T.int)) = some (.bl (!decide (i ∈ ys))) := ninT_of eqf_int Pl.int i ys
end Tr

end
section
set_option maxHeartbeats 2000000
/-! TrP: methods that only read. -/
namespace Tr
open PySem PySem.Spec PyProof.Rows L2
/-- the receiver's type, by its tree -/
def T.tyIs (ty : String) : T → Bool
  | .str _ => decide (ty = "str")
  | .lst _ => decide (ty = "list")
  | .fz _ => decide (ty = "list")
  | _ => false
theorem tyIs_V {K : PySem.W.Frag} {H : Hp} {S : Addr → Prop} {ρ : Ow} {x : V} {a : T} {ty : String} (h : Ro K H S ρ x a) (e : a.tyIs ty = true) : tyV K ty x H := by
  cases h <;> simp only [T.tyIs, decide_eq_true_eq, Bool.false_eq_true] at e
  case str => exact e
  case lstS h s r => exact .inl ⟨e, _, SqL.of h⟩
  case lstO h r => exact .inl ⟨e, _, SqL.of h⟩
  case fz h r => exact .inl ⟨e, _, h.sq⟩
/-- a method that reads: its answer a scalar or new -/
def MB (K : PySem.W.Frag) (r : V → List V → Hp → VK → Prop) (g : T → List T → Option T) : Prop := ∀ H S ρ ρs x a xs ts c Q, flat ρ = true → ρs.all flat = true → Ro K H S ρ x a → RoL K H S ρs xs ts → g a ts = some c → (∀ z H', Nw K H S z H' c → Q z H') → r x xs H Q
section
variable {X : Cx} {W : WX} {Γ Γ1 Γ2 Γ' : List Ow} {e o a b c : Expr} {es : List Expr} {pos : Pos} {r : V → List V → Hp → VK → Prop} {g : T → List T → Option T} {ty : String}
def mtyp (ty : String) (t : T) : Option T := if t.tyIs ty then some t else none
theorem se_mt {b1 p1 b2 p2 : Bool} {f : F0 T} {fa : F0 (List T)} {ρ : Ow} {ρs : List Ow} (hR : ∀ {to : TE} {t : TA}, PE X o to → PA X es t → PE X e (tBM X.K ty r to t)) (hb : MB X.K r g) (h1 : OE X W b1 p1 Γ o f ρ Γ1) (h2 : OA X W b2 p2 Γ1 es fa ρs Γ2)
    (hq : b1 = true → p2 = true := by decide) (hl : flat ρ = true := by rfl) (hls : ρs.all flat = true := by rfl) (hΓ : allSh Γ1 = allSh Γ := by rfl) :
    SE X W (p1 && p2) Γ e (F0.bind (F0.bind f (lf (mtyp ty))) fun a => F0.bind fa fun bs => lf (g a) bs) (.ow .sh) Γ2 := by
  refine pe_imp (hR h1 h2) fun σ H Q ⟨S, E, fp, r0, G, er, q⟩ => ?_
  unfold F0.bind at er
  cases e1 : f E with
  | none => simp only [e1] at er; cases er
  | some r1 =>
    simp only [e1] at er
    refine ⟨S, E, fp, r1, G, e1, ?_⟩
    cases r1 with
    | ex x E1 =>
      have e' : r0 = .ex x E1 := (Option.some.inj er).symm
      subst e'
      exact q
    | ok t E1 =>
      intro v1 H1 S1 fp1 G1 ev1 pr1 st1
      cases et : mtyp ty t with
      | none => simp only [lf, et, Option.map_none] at er; cases er
      | some t' =>
        simp only [lf, et, Option.map_some] at er
        have ht : t' = t ∧ t.tyIs ty = true := by
          unfold mtyp at et
          split at et
          · cases et
            exact ⟨rfl, by assumption⟩
          · cases et
        obtain ⟨rfl, hty⟩ := ht
        refine ⟨tyIs_V (st1 H1 S1 fp1 (Ev.refl fun _ z => z) fun _ => Kept.refl _) hty, ?_⟩
        cases e2 : fa E1 with
        | none => simp only [e2] at er; cases er
        | some r2 =>
          simp only [e2] at er
          refine ⟨S1, E1, fp1, r2, G1, e2, ?_⟩
          cases r2 with
          | ex x E2 =>
            have e' : r0 = .ex x E2 := (Option.some.inj er).symm
            subst e'
            intro cls d H' S' fp' G' xa ev'
            exact q cls d H' S' fp' (hΓ ▸ G') xa (ev1.trans ev')
          | ok bs E2 =>
            obtain ⟨c, ec, e'⟩ := lf_some (show lf (g t') bs E2 = some r0 from er)
            subst e'
            intro v2 H2 S2 fp2 G2 ev2 pr2 st2
            have s1 := st1 H2 S2 fp2 ev2 fun z => (pr2 (hq z)).2
            have s2 := st2 H2 S2 fp2 (Ev.refl fun _ z => z) fun _ => Kept.refl _
            refine hb H2 S2 _ _ v1 t' v2 bs c Q hl hls s1 s2 ec fun z H' n => nw_pok G2 (ev1.trans ev2) (fun pp => ?_) n q
            obtain ⟨a1, a2⟩ := Bool.and_eq_true_iff.mp pp
            obtain ⟨b1, b2⟩ := pr1 a1
            obtain ⟨c1, c2⟩ := pr2 a2
            exact ⟨c1.trans b1, b2.trans c2⟩
/-! the methods -/
def sindexT : T → List T → Option T
  | .str x, [.str y] => (Builtin.Str.occurrences x y 0 x.length 1).head?.map fun i => .int (i : Nat)
  | _, _ => none
theorem m_sindex : MB X.K (fun x xs H Q => ∃ a b i rest, x = .str a ∧ xs = [.str b] ∧ Builtin.Str.occurrences a b 0 a.length 1 = i :: rest ∧ Q (.int (i : Nat)) H) sindexT := by
  intro H S ρ ρs x a xs ts c Q _ _ ra rl e q
  unfold sindexT at e
  split at e
  · rename_i s y
    obtain ⟨i, ei, e⟩ := Option.map_eq_some_iff.mp e
    subst e
    cases rl with
    | cons r1 r2 => cases r2 with
      | nil =>
        obtain ⟨rest, er⟩ := List.head?_eq_some_iff.mp ei
        exact ⟨_, _, i, rest, ra.str_, by rw [r1.str_], er, q _ _ (.sc (.int _))⟩
  · cases e
theorem RoA.at_get {K : PySem.W.Frag} {H : Hp} {S : Addr → Prop} : ∀ {ts : List T} {j : Nat} {t : T}, ts[j]? = some t → (T.pyA ts)[j]? = some t.py
  | [], j, t, h => by simp at h
  | u :: ts, 0, t, h => by
    simp at h
    subst h
    simp [T.pyA]
  | u :: ts, j + 1, t, h => by
    simp only [T.pyA, List.getElem?_cons_succ]
    exact RoA.at_get (K := K) (H := H) (S := S) (by simpa using h)
/-- l.index(x) -/
def lfind (t : T) : List T → Nat → Option Nat
  | [], _ => none
  | u :: us, k => if PyData.eqv u.py t.py = true then some k else lfind t us (k + 1)
def lindexT : T → List T → Option T
  | .lst us, [t] => if t.cmp && (T.lst us).cmp then (lfind t us 0).map fun i => .int (i : Nat) else none
  | _, _ => none
theorem lfind_ok {t : T} : ∀ {us : List T} {k i : Nat}, lfind t us k = some i → ∃ j, i = k + j ∧ (∃ u, us[j]? = some u ∧ PyData.eqv u.py t.py = true) ∧ ∀ m u, m < j → us[m]? = some u → PyData.eqv u.py t.py = false
  | [], k, i, h => by cases h
  | u :: us, k, i, h => by
    unfold lfind at h
    split at h
    · rename_i he
      cases h
      exact ⟨0, rfl, ⟨u, rfl, he⟩, fun m _ hm => by omega⟩
    · rename_i he
      obtain ⟨j, e, ⟨u', h1, h2⟩, h3⟩ := lfind_ok h
      refine ⟨j + 1, by omega, ⟨u', by simpa using h1, h2⟩, fun m w hm hw => ?_⟩
      cases m with
      | zero =>
        simp at hw
        subst hw
        simpa using he
      | succ m => exact h3 m w (by omega) (by simpa using hw)
theorem pyA_get : ∀ {ts : List T} {m : Nat} {z : PyData}, (T.pyA ts)[m]? = some z → ∃ t, ts[m]? = some t ∧ z = t.py
  | [], m, z, h => by simp [T.pyA] at h
  | t :: ts, 0, z, h => by
    simp [T.pyA] at h
    exact ⟨t, rfl, h.symm⟩
  | t :: ts, m + 1, z, h => by
    simp only [T.pyA, List.getElem?_cons_succ] at h
    obtain ⟨u, h1, h2⟩ := pyA_get h
    exact ⟨u, by simpa using h1, h2⟩
theorem m_lindex : MB X.K (L2.rIndexD X.K) lindexT := by
  intro H S ρ ρs x a xs ts c Q _ _ ra rl e q
  unfold lindexT at e
  split at e
  · rename_i us t
    split at e
    · rename_i hc
      obtain ⟨i, ei, e⟩ := Option.map_eq_some_iff.mp e
      subst e
      rw [Bool.and_eq_true] at hc
      obtain ⟨h1, h2⟩ := hc
      unfold T.cmp at h1 h2
      rw [Bool.and_eq_true] at h1 h2
      cases rl with
      | cons r1 r2 => cases r2 with
        | nil =>
          have d := ra.dp h2.1
          have s := h2.2
          rw [T.py] at d s
          obtain ⟨j, rfl, ⟨u, g1, g2⟩, g3⟩ := lfind_ok ei
          obtain ⟨p, _, _, rfl, _⟩ := ra.lst
          refine ⟨p, _, _, _, j, u.py, rfl, rfl, d, r1.dp h1.1, s, h1.2, RoA.at_get (K := X.K) (H := H) (S := S) g1, g2, fun m z' hm hz => ?_, ?_⟩
          · obtain ⟨w, w1, rfl⟩ := pyA_get hz
            exact g3 m w hm w1
          · rw [Nat.zero_add] at q
            exact q _ _ (.sc (.int _))
    · cases e
  · cases e
def startsT : T → List T → Option T
  | .str x, [.str y] => some (.bl (Txt.startswith x y))
  | _, _ => none
theorem m_starts : MB X.K (fun x xs H Q => ∃ a b, x = .str a ∧ xs = [.str b] ∧ Q (.bl (Txt.startswith a b)) H) startsT := by
  intro H S ρ ρs x a xs ts c Q _ _ ra rl e q
  unfold startsT at e
  split at e
  · cases e
    cases rl with
    | cons r1 r2 => cases r2 with
      | nil => exact ⟨_, _, ra.str_, by rw [r1.str_], q _ _ (.sc (.bl _))⟩
  · cases e
end
end Tr

end
section
set_option maxHeartbeats 2000000
/-! TrQ: two names stored side by side, each with its own ownership. -/
namespace Tr
open PySem PySem.Spec PyProof.Rows L2
section
variable {X : Cx} {W : WX} {C : Cf} {Γ Γ1 Γ2 Γ' : List Ow} {a b c e tg : Expr} {es : List Expr} {pos p0 p1 pos2 : Pos}
def fpo (i j : Nat) (f g : F0 T) : S0 := aft f fun t => aft g fun u E => some (.nx ((E.set i (some t)).set j (some u)))
theorem ss_po {i j : Nat} {x y : Str} {px py pt : Pos} {kt k2 pt2} {q1 q2 : Bool} {f g : F0 T} {ρ1 ρ2 : Ow} (hc : X.calm = true) (hN : X.N.Nodup) (h1 : SE X W q1 Γ a f ρ1 Γ1) (h2 : SE X W q2 Γ1 b g ρ2 Γ2) (hi : X.N[i]? = some x) (hj : X.N[j]? = some y) (hij : i ≠ j := by decide) (hΓ : allSh Γ1 = allSh Γ := by rfl)
    (hw : swappedStores [.Tuple [.Name x px, .Name y py] kt pt] (.Tuple [a, b] k2 pt2) X.env = pure (some [x, y]) := by rfl)
    (hx : X.env.scope.names.lookup x = some .local := by rfl) (hy : X.env.scope.names.lookup y = some .local := by rfl) (hMi : C.M.contains i = false := by rfl) (hMj : C.M.contains j = false := by rfl)
    (hs : swapsWithSole [.Tuple [.Name x px, .Name y py] kt pt] (.Tuple [a, b] k2 pt2) pos.line X.env = pure false := by rfl)
    (hs1 : starEach [a, b] X.env = (false, eval a X.env) :: starEach [b] X.env := by rfl) (hs2 : starEach [b] X.env = (false, eval b X.env) :: starEach [] X.env := by rfl) :
    SS X W C Γ (.Assign [.Tuple [.Name x px, .Name y py] kt pt] (.Tuple [a, b] k2 pt2) pos) (fpo i j f g) ((Γ2.set i ρ1).set j ρ2) := by
  refine ps_imp (ps_par hc hN hi hj hij hx hy (pa_cons h1 (pa_cons h2 pa_nil hs2) hs1) hw hs) fun D σ H ⟨S, E, fp, r, G, er, q⟩ => ?_
  unfold fpo aft at er
  cases e1 : f E with
  | none => rw [e1] at er; cases er
  | some r1 =>
    rw [e1] at er
    refine ⟨S, E, fp, r1, G, e1, ?_⟩
    cases r1 with
    | ex x E1 =>
      have e' : r = .ex x E1 := (Option.some.inj er).symm
      subst e'
      exact fun cls d H' S' fp' G' xa ev => q cls d σ H' S' fp' G' xa ev
    | ok t E1 =>
      intro v1 H1 S1 fp1 fr1 G1 R1 nd1 s1 ev1 pr1
      simp only at er
      cases e2 : g E1 with
      | none => rw [e2] at er; cases er
      | some r2 =>
        rw [e2] at er
        refine ⟨S1, E1, fp1, r2, G1, e2, ?_⟩
        obtain ⟨n1, n2, n3⟩ := nd_app nd1
        cases r2 with
        | ex x E2 =>
          have e' : r = .ex x E2 := (Option.some.inj er).symm
          subst e'
          exact fun cls d H' S' fp' G' xa ev' => q cls d σ H' S' fp' (hΓ ▸ G') xa ((ev1.less (fun a z => List.mem_append_right _ z)).trans ev')
        | ok u E2 =>
          have e' : r = .nx ((E2.set i (some t)).set j (some u)) := (Option.some.inj er).symm
          subst e'
          intro v2 H2 S2 fp2 fr2 G2 R2 nd2 s2 ev2 pr2
          have F := G1.fm ev2
          have k1 : Rp X.K H2 S2 ρ1 v1 t fr1 := Rp.fm F R1 n3
          have k2 : ∀ x ∈ fr1, x ∉ fr2 ++ fp2 ∧ ¬ S2 x := fun x z => ev2.apart (Rp.isl R1 x z).choose_spec (n3 x z) (s1 x z)
          obtain ⟨m1, m2, m3⟩ := nd_app nd2
          obtain ⟨fp3, G3, s3⟩ := G2.set i k1 (nd_mk n1 m2 fun x z y => (k2 x z).1 (by simp [y])) (fun x z => (k2 x z).2)
          obtain ⟨fp4, G4, s4⟩ := G3.set j (show Rp X.K H2 S2 ρ2 v2 u fr2 from R2) (nd_mk m1 G3.nd fun x z y => by
            rcases List.mem_append.mp (s3 x y) with w | w
            · exact (k2 x w).1 (by simp [z])
            · exact m3 x z w) s2
          refine ⟨_, _, rfl, q _ H2 S2 fp4 G4 ((ev1.trans (ev2.add fr1)).less fun x z => ?_) ((Mk.set hMi σ _).trans (Mk.set hMj _ _))⟩
          rcases List.mem_append.mp (s4 x z) with w | w
          · simp [w]
          · rcases List.mem_append.mp (s3 x w) with w | w
            · simp [w]
            · simp [w]
end
theorem ev_fpo {i j : Nat} {f g : F0 T} {E : Env} : fpo i j f g E = Out.fl (f E) fun t E => Out.fl (g E) fun u E => some (.nx ((E.set i (some t)).set j (some u))) := by
  unfold fpo
  rw [ev_aft]
  congr 1
  funext t E
  exact ev_aft
end Tr

end
section
set_option maxHeartbeats 2000000
/-! TrR: raise. -/
namespace Tr
open PySem PySem.Spec PyProof.Rows L2
/-- what an own exception class's __init__(self, f) does: self.f = f -/
def spInit (K : PySem.W.Frag) (C : Addr) (f : Str) : Sp := fun vs H Q _ => ∃ (a : Addr) (v : V), vs = [.ref a, v] ∧ OexC K C ∧ PySem.W.findIn K (.ref C) f = some none ∧ H a = some (exo a C none) ∧
  ∀ dx, H dx = none → dx ≠ a → Q .non (upd (upd H dx (exd dx [(f, v)])) a (exo a C (some dx)))
section
variable {P : Program} {w : World} {K : PySem.W.Frag} {mg : Str → Option Value} {base : Heap}
theorem init_ok {x qual f : Str} {params : Arguments} {scope : Scope} {fI : Addr} {fd : FuncData} {C : Addr} {p1 p2 p3 p4 : Pos}
    (F : FunD K x qual params [.Assign [.Attribute (.Name "self" p1) f p2] (.Name f p3) p4] scope [] [] fI fd) (Sc : FnScope ["self", f] ["self", f] scope)
    (v0 : Vis scope "self") (v1 : Vis scope f) (hd : (f == ("__debug__" : Str)) = false) (hcd : (f == ("__classdict__" : Str)) = false) (hsw : ∀ env : PySem.Env, env.scope = scope → swapsWith (.Name f p3) (some (.Attribute (.Name "self" p1) f p2)) p4.line env = pure false) : FnOk P w K mg base CX0 1 fI fd ["self", f] (spInit K C f) := by
  refine F.ok Sc (fun vs H Q E h => ?_) (fun cdv A outer s H vs Q E hr h => ?_)
  · obtain ⟨a, v, rfl, _⟩ := h
    rfl
  · obtain ⟨a, v, rfl, T, no, ha, q⟩ := h
    refine ⟨_, pss_one (ps_ost (f := f) (pe_var (i := 0) rfl v0) (pe_var (i := 1) rfl v1 hd hcd) (hsw _ rfl)), ?_⟩
    exact ⟨v, rfl, .ref a, rfl, a, C, rfl, T, no, .inl ⟨ha, fun dx h1 h2 => q dx h1 h2⟩⟩
end
/-- an own exception class with one field -/
structure Xcl (P : Program) (w : World) (K : PySem.W.Frag) (mg : Str → Option Value) (base : Heap) (cls f : Str) where
  gC : mg cls = some (.ref (He.ga K cls))
  T : OexC K (He.ga K cls)
  no : PySem.W.findIn K (.ref (He.ga K cls)) f = some none
  fI : Addr
  fd : FuncData
  iC : PySem.W.findIn K (.ref (He.ga K cls)) "__init__" = some (some (.ref fI))
  tI : PySem.W.typeIn K (.ref fI) = some (.type "function")
  ok : FnOk P w K mg base CX0 1 fI fd ["self", f] (spInit K (He.ga K cls) f)
  bd : Binds K fd ["self", f] []
def fraise (cls fld : Str) (f : F0 T) : S0 := aft f fun t E => some (.ex ⟨cls, some (fld, t)⟩ E)
theorem ev_fraise {cls fld : Str} {f : F0 T} {E : Env} : fraise cls fld f E = Out.fl (f E) fun t E => some (.ex ⟨cls, some (fld, t)⟩ E) := ev_aft
section
variable {X : Cx} {W : WX} {C : Cf} {Γ Γ1 Γ' : List Ow} {e : Expr} {p pos pos2 : Pos}
theorem del_upds {H : Hp} {a dx : Addr} {o1 o2 o3 o4 : HO} (ha : H a = none) (hn : dx ≠ a) : upd (del (upd (upd (upd H a o1) dx o2) a o3) a) dx o4 = upd H dx o4 := by
  funext b
  by_cases h : b = dx
  · rw [h, upd_same, upd_same]
  · rw [upd_ne h, upd_ne h]
    by_cases k : b = a
    · rw [k, del_same, ha]
    · rw [del_ne k, upd_ne k, upd_ne h, upd_ne k]
theorem ss_raise {cls fld : Str} {p1 : Bool} {f : F0 T} (hc : X.calm = true) (tk : Takes X W) (c : Xcl X.prog X.w X.K X.mg X.base cls fld) (hr : Room 2 X.A) (hg : Gl X cls) (he : SE X W p1 Γ e f .sh Γ1) (hΓ : allSh Γ1 = allSh Γ := by rfl)
    (hdb : (cls == ("__debug__" : Str)) = false := by decide) (hs : starEach [e] X.env = (false, eval e X.env) :: starEach [] X.env := by rfl) (hpl : (backTo pos (starEach [] X.env)).any (·.1) = false := by rfl) :
    SS X W C Γ (.Raise (some (.Call (.Name cls p) [e] [] pos)) none pos2) (fraise cls fld f) Γ' := by
  refine ps_imp (ps_raise hc tk (pmk_oex c.T c.iC c.tI c.ok hr c.bd .nil pass0 hg c.gC (pa_cons he pa_nil hs) hdb hs hpl)) fun D σ H q => ?_
  show tMkO (He.ga X.K cls) (spInit X.K (He.ga X.K cls) fld) [] _ σ H _
  unfold tMkO
  refine aft_r q fun S E fp t E' r G er q => ?_
  have e' : r = .ex ⟨cls, some (fld, t)⟩ E' := (Option.some.inj er).symm
  subst e'
  intro v H' S' fp' fr G' R nd s ev pp
  have z := R.sh_nil
  subst z
  refine ⟨by simp, fun a ha => ⟨a, v, rfl, c.T, c.no, upd_same, fun dx h1 h2 => ?_⟩⟩
  have hdx : H' dx = none := by rwa [upd_ne h2] at h1
  refine ⟨rfl, dx, [(fld, v)], upd_same, by rw [upd_ne h2, upd_same], hdx, ?_⟩
  rw [del_upds ha h2]
  have k : Kept H' (upd H' dx (.xd [(fld, v)])) := Kept.new hdx
  obtain ⟨S2, fp2, G2, ev2, hs2, hS2⟩ := (G'.along k (TbK.new hdx)).weak (leq_all Γ1)
  have ev3 : Ev H' S' fp' (upd H' dx (.xd [(fld, v)])) S' fp' := (Ev.new hdx).less fun a z => List.mem_cons_of_mem _ z
  refine q _ _ σ _ S2 fp2 (hΓ ▸ G2) ⟨rfl, dx, v, rfl, upd_same, ?_⟩ ((ev.trans ev3).trans ev2)
  have R1 : Rp X.K (upd H' dx (.xd [(fld, v)])) S' .sh v t [] := (R.ro.kept k fun _ h => h).rp
  exact R1.fm (Fm.grow ev2.mono) fun _ _ z => z
end
end Tr

end
section
set_option maxHeartbeats 2000000
/-! TrS: try: .. / except (..) as e: x = e. -/
namespace Tr
open PySem PySem.Spec PyProof.Rows L2
section
variable {X : Cx} {pins : List (Addr × Obj)} {σ : L2.St} {H : Hp} {s : Shared}
/-- an exception that no one tracks is tracked from here on -/
theorem track {a : Addr} {oe : Obj} (I : Inv X pins σ H s) (he : s.heap.get? a = some oe) (hd : ∃ vs, oe.data = .fields vs) (hn : H a = none) (h0 : X.s_0.heap.get? a = none) (hp : ∀ p ∈ X.pn ++ pins, p.1 ≠ a) (nL : a ≠ X.env.locals) :
    Inv X pins σ (upd H a (XO a oe.cls oe.dict)) s where
  ok := I.ok
  os := I.os
  bare := I.bare
  base := {
    keep := I.base.keep
    slot := I.base.slot
    free := fun b o q n hx => by rw [upd_ne (fun z => by rw [z, h0] at q; cases q)]; exact I.base.free b o q n hx
    there := I.base.there
    tups := fun b xs q => by
      have := I.base.tups b xs q
      rw [upd_ne (ne_of_none this hn)]
      exact this
    frzs := fun b o u q => by
      have := I.base.frzs b o u q
      rw [upd_ne (ne_of_none this hn)]
      exact this
    tbls := fun b ps q => by
      obtain ⟨more, e⟩ := I.base.tbls b ps q
      exact ⟨more, by rw [upd_ne (ne_of_none e hn)]; exact e⟩ }
  loc := I.loc
  cell := I.cell
  free := by rw [upd_ne (Ne.symm nL)]; exact I.free
  freeC := fun x c q => by
    obtain ⟨v, o, ho, hc⟩ := I.cell x c q
    rw [upd_ne (fun z => by
      rw [z, he] at ho
      cases ho
      obtain ⟨vs, hv⟩ := hd
      rw [hv] at hc
      cases hc)]
    exact I.freeC x c q
  pin := fun p q => by
    obtain ⟨h1, h2, h3, h4, h5⟩ := I.pin p q
    exact ⟨h1, by rw [upd_ne (hp p q)]; exact h2, h3, h4, h5⟩
  hok := fun b o q => by
    by_cases hb : b = a
    · subst hb
      rw [upd_same] at q
      cases q
      exact ⟨⟨oe, he, rfl, rfl, hd⟩, ⟨_, he⟩, fun g1 g2 z k => by
        obtain ⟨o2, y1, y2⟩ := z
        exact ⟨o2, k _ y1, y2⟩⟩
    · rw [upd_ne hb] at q
      exact (I.hok b o q).stay (fun _ _ _ y => y) (fun c y => by rw [upd_ne (ne_of_none y hn)]; exact y) fun c xs y => by rw [upd_ne (ne_of_none y hn)]; exact y
  len := I.len
end
/-- what flies, flies on -/
theorem fly_on {h g B : Heap} {l : List PySem.Env} {a : Addr} {Z : Obj → Prop} (x : HandSPX.FlyingZ B l a Z h) (k : ∀ b o, h.get? b = some o → g.get? b = some o) : HandSPX.FlyingZ B l a Z g := by
  obtain ⟨x1, x2, x3, oe, vs, tr, otr, ts, y1, y2, y3, y4, y5, y6, y7, y8, y9⟩ := x
  exact ⟨fun b o q => k b o (x1 b o q), x2, x3.of_keeps fun b o q _ => ⟨o, k b o q, rfl⟩, oe, vs, tr, otr, ts, k _ _ y1, y2, y3, y4, y5, y6, k _ _ y7, y8, y9⟩
/-- the clause's expression names classes, the exception's class is among them or not -/
def Tst (X : Cx) (tt : Expr) (cls : Value) (b : Bool) : Prop :=
  ∀ (a : Addr) (pn pins : List (Addr × Obj)) (σ : L2.St) (H : Hp) (s : Shared) (E : Value → Shared → Prop) (Q : Bool → Shared → Prop), Inv (X.suite a pn) pins σ H s → (∃ oe, s.heap.get? a = some oe ∧ oe.cls = cls) →
    (∀ g, (∀ q o, s.heap.get? q = some o → g.get? q = some o) → Q b { s with heap := g }) →
    wpAny (model X.prog X.w) (X.A.mark (some (.ref a))) (eval tt X.env) (fun c s1 => wpAny (model X.prog X.w) (X.A.mark (some (.ref a))) (excMatches (.ref a) c) Q E s1) E s
section
variable {X : Cx} {cls : Value} {b : Bool}
theorem tyL {h : Heap} {a : Addr} {oe : Obj} {M : Model} (he : h.get? a = some oe) : PySem.W.Looks M h (typeOf (.ref a)) oe.cls := fun A Q E s k q => wpAny_typeOf_ref (k _ _ he) q
theorem tst_1 {x : Str} {c : Value} {p : Pos} (hn : Names X x c) (h : PySem.W.exmOne X.K cls c = some b) : Tst X (.Name x p) cls b := by
  intro a pn pins σ H s E Q I ⟨oe, he, hc⟩ q
  subst hc
  have fin := (PySem.W.exm_one (M := model X.prog X.w) I.kIn (tyL he) h).here (A := X.A.mark (some (.ref a))) (E := E) (q s.heap fun _ _ z => z)
  obtain ⟨g1, g2, g3 | ⟨g3, g4, g5⟩⟩ := hn
  · exact ld_glob (X := X.suite a pn) I g1 g3 fin g2
  · exact ld_blt (X := X.suite a pn) I g1 g3 g4 fin g5 g2
theorem nm {x : Str} {c : Value} {p : Pos} {a : Addr} {pn pins : List (Addr × Obj)} {σ : L2.St} {H : Hp} {s : Shared} {E : Value → Shared → Prop} {Q : Value → Shared → Prop} (hn : Names X x c) (I : Inv (X.suite a pn) pins σ H s) (q : Q c s) : wpAny (model X.prog X.w) (X.A.mark (some (.ref a))) (eval (.Name x p) X.env) Q E s := by
  obtain ⟨g1, g2, g3 | ⟨g3, g4, g5⟩⟩ := hn
  · exact ld_glob (X := X.suite a pn) I g1 g3 q g2
  · exact ld_blt (X := X.suite a pn) I g1 g3 g4 q g5 g2
theorem tst_2 {x y : Str} {c d : Value} {p1 p2 p3 : Pos} {k : Nat} (h1 : Names X x c) (h2 : Names X y d) (h : PySem.W.exmAny X.K cls [c, d] = some b) : Tst X (.Tuple [.Name x p1, .Name y p2] k p3) cls b := by
  intro a pn pins σ H s E Q I ⟨oe, he, hc⟩ q
  subst hc
  refine wpAny_Tuple (wpAny_items_cons (nm h1 I (wpAny_items_cons (nm h2 I (wpAny_items_nil ⟨by rw [sizeLine_eq]; simp, ?_⟩)))))
  have kp : ∀ r o, s.heap.get? r = some o → (s.heap.push { cls := .type "tuple", data := .seq [c, d].toArray }).get? r = some o := fun _ _ z => Heap.get?_push_of_some _ z
  exact (PySem.W.exm_tup2 (I.kIn.keeps kp) (tyL (kp _ _ he)) (Heap.get?_push_size s.heap rfl) h).here (q _ kp)
theorem tst_3 {x y z : Str} {c d e : Value} {p1 p2 p3 p4 : Pos} {k : Nat} (h1 : Names X x c) (h2 : Names X y d) (h3 : Names X z e) (h : PySem.W.exmAny X.K cls [c, d, e] = some b) : Tst X (.Tuple [.Name x p1, .Name y p2, .Name z p3] k p4) cls b := by
  intro a pn pins σ H s E Q I ⟨oe, he, hc⟩ q
  subst hc
  refine wpAny_Tuple (wpAny_items_cons (nm h1 I (wpAny_items_cons (nm h2 I (wpAny_items_cons (nm h3 I (wpAny_items_nil ⟨by rw [sizeLine_eq]; simp, ?_⟩)))))))
  have kp : ∀ r o, s.heap.get? r = some o → (s.heap.push { cls := .type "tuple", data := .seq [c, d, e].toArray }).get? r = some o := fun _ _ z => Heap.get?_push_of_some _ z
  exact (PySem.W.exm_tup3 (I.kIn.keeps kp) (tyL (kp _ _ he)) (Heap.get?_push_size s.heap rfl) h).here (q _ kp)
theorem tst_4 {x y z u : Str} {c d e f : Value} {p1 p2 p3 p4 p5 : Pos} {k : Nat} (h1 : Names X x c) (h2 : Names X y d) (h3 : Names X z e) (h4 : Names X u f) (h : PySem.W.exmAny X.K cls [c, d, e, f] = some b) : Tst X (.Tuple [.Name x p1, .Name y p2, .Name z p3, .Name u p4] k p5) cls b := by
  intro a pn pins σ H s E Q I ⟨oe, he, hc⟩ q
  subst hc
  refine wpAny_Tuple (wpAny_items_cons (nm h1 I (wpAny_items_cons (nm h2 I (wpAny_items_cons (nm h3 I (wpAny_items_cons (nm h4 I (wpAny_items_nil ⟨by rw [sizeLine_eq]; simp, ?_⟩)))))))))
  have kp : ∀ r o, s.heap.get? r = some o → (s.heap.push { cls := .type "tuple", data := .seq [c, d, e, f].toArray }).get? r = some o := fun _ _ z => Heap.get?_push_of_some _ z
  exact (PySem.W.exm_tup4 (I.kIn.keeps kp) (tyL (kp _ _ he)) (Heap.get?_push_size s.heap rfl) h).here (q _ kp)
end
/-- what is wished of an exception: taken, it lies tracked in slot j (slot i was the clause's own name) -/
def wTry (X : Cx) (tt : Expr) (i j : Nat) (Wout : WX) (nx : L2.St → Hp → Prop) : WX := fun cls d σ H => ∃ b, Tst X tt cls b ∧ (b = true → ∀ a, H a = none → nx ((((σ.set i (some (.ref a))).set j (some (.ref a))).set i none)) (upd H a (XO a cls d))) ∧ (b = false → Wout cls d σ H)
section
variable {X : Cx} {tt : Expr} {n y : Str} {i j : Nat} {body : List Stmt} {p1 p2 p3 p4 pos pos' : Pos} {tb : WX → TS} {Wout : WX}
theorem ps_trx (hs : X.stack = X.env :: X.outer) (hf : X.env.frame = some X.env.locals) (hN : X.N.Nodup) (hi : X.N[i]? = some n) (hj : X.N[j]? = some y) (hij : i ≠ j) (hln : X.env.kindOf n = some .local) (hly : X.env.scope.names.lookup y = some .local) (tk : Takes X Wout)
    (hex : X.ex = []) (hnd : (n == ("__debug__" : Str)) = false) (hnc : (n == ("__classdict__" : Str)) = false)
    (hb : ∀ (W : WX) (pn : List (Addr × Obj)) (xe : Value → Shared → Prop), Takes (X.tr pn xe) W → PassesOwn (model X.prog X.w) X.A X.env xe → PSs (X.tr pn xe) body (tb W))
    (hsw : swapsWith (.Name n p2) (some (.Name y p1)) p3.line X.env = pure false) :
    PS X (.Try body [.ExceptHandler (some tt) (some n) [.Assign [.Name y p1] (.Name n p2) p3] pos'] [] [] pos) (fun D σ H => tb (wTry X tt i j Wout D.nx) D σ H) := by
  refine ⟨fun pins s0 σ0 H0 D I0 h0 => ?_⟩
  have ok := I0.ok
  have fr0 : X.A.frames = some (X.env :: X.outer) := ok.frames.trans (by rw [hs])
  refine wpAny_Try_except (wpAny_mono ((hb (wTry X tt i j Wout D.nx) (X.pn ++ pins) _ (fun u s2 xx => ?_) PassesOwn.looking).run [] s0 σ0 H0 D (I0.toTry _) h0) (fun f s1 hsp => ?_) fun _ _ z => z)
  · obtain ⟨a, B, sI, pins', σ', H', cls, d, rfl, J', nb, up, sky, na, os, ag, b, tst, yes, no⟩ := xx
    have J : Inv X pins σ' H' sI := J'.ofTry ok
    refine Sky.land Zc.steady fr0 hf (hs ▸ sky) fun h3 fl3 up3 => ?_
    have J3 : Inv X pins σ' H' { s2 with heap := h3 } := J.landed nb fl3.1 (up.trans up3) os ag
    obtain ⟨oe3, vs3, he3, hz3, hd3⟩ := fl3.there
    -- the exception is no frame's dict, and new
    have apart : ∀ {g : Heap} {o : Obj} {vs : Array Value}, g.FunFrames B (X.env :: X.outer) → g.get? a = some o → o.data = .fields vs → a ∉ frs (X.env :: X.outer) := by
      intro g o vs ff e1 e2 hm
      obtain ⟨_, o', e3, q⟩ := ff.mem hm
      cases e1.symm.trans e3
      exact q _ e2
    have nfr := apart fl3.2.2.1 he3 hd3
    have nL : a ≠ X.env.locals := fun z => nfr (List.mem_filterMap.mpr ⟨X.env, by simp, by rw [hf, z]⟩)
    have nF : a ∉ X.fs := fun hm => by
      obtain ⟨v, h1, h2⟩ := List.mem_filterMap.mp hm
      exact nfr (List.mem_filterMap.mpr ⟨v, by simp [h1], h2⟩)
    have notI : sI.heap.get? a = none := by
      cases q : sI.heap.get? a with
      | none => rfl
      | some o =>
        have := nb a o q (by rw [hs]; exact nfr)
        rw [fl3.2.1] at this
        cases this
    have not0 : X.s_0.heap.get? a = none := by
      cases q : X.s_0.heap.get? a with
      | none => rfl
      | some o =>
        obtain ⟨o', e⟩ := J.base.there a o q (fun hx => by
          rw [hex] at hx
          cases hx)
        rw [notI] at e
        cases e
    have nP : ∀ p ∈ X.pn ++ pins, p.1 ≠ a := fun p hp z => by
      have := (J.pin p hp).1
      rw [z, notI] at this
      cases this
    have S3 := J3.suite he3 hd3 na nL nF
    refine wpAny_handleBy_cons (codeAny_handlers_test ?_) (by intro q; cases q)
    refine tst a _ _ _ _ _ _ _ S3 ⟨oe3, he3, hz3.1⟩ fun g kg => ?_
    have fl5 : HandSPX.FlyingZ B (X.env :: X.outer) a (Zc cls d) g := fly_on fl3 kg
    have up5 : sI.heap.UpToSlots g := (up.trans up3).trans (Heap.UpToSlots.of_keeps kg)
    cases b with
    | true =>
      refine codeAny_handlers_suite_as (HandSPX.lands_againZ fl5 fun h4 fl4 up4 => ?_)
      have J4 : Inv X pins σ' H' { s2 with heap := h4 } := J.landed nb fl4.1 (up5.trans up4) os ag
      obtain ⟨oe4, vs4, he4, hz4, hd4⟩ := fl4.there
      have S4 := J4.suite he4 hd4 na nL nF
      refine store_ok (X := X.suite a ((a, oe4) :: (X.pn ++ pins))) (v := .ref a) S4 hN hi (.inl hln) rfl (fun s5 S5 => ?_) (.inr hln)
      have stx := pss_one (ps_set (i := j) (pos' := p1) (pos := p3) (X := X.suite a ((a, oe4) :: (X.pn ++ pins))) hN hj (.inl hly) (pe_var (i := i) (pos := p2) hi (.inl hln) hnd hnc) hsw (.inr hly))
      refine wpAny_mono (stx.run [] s5 _ H' { nx := fun σ6 H6 => H6 = H' ∧ σ6 = (σ'.set i (some (.ref a))).set j (some (.ref a)), rt := fun _ _ => False, bk := fun _ _ => False, ct := fun _ _ => False } S5 ⟨.ref a, ?_, rfl, rfl⟩) (fun f s6 hsp => ?_) fun _ _ z => z.elim
      · have hl : i < σ'.length := by rw [J.len]; exact (List.getElem?_eq_some_iff.mp hi).1
        rw [List.getElem?_set_self hl]
      · cases f with
        | next =>
          obtain ⟨σ6, H6, S6, rfl, rfl⟩ := hsp
          have g6 : s6.heap.get? a = some oe4 := (S6.pin (a, oe4) (by simp)).1
          have T6 := track (S6.unsuite ok) g6 ⟨_, hd4⟩ na not0 nP nL
          rw [hz4.1, hz4.2] at T6
          exact gone_ok T6 hN hi hln fun s7 J7 => ⟨_, _, J7, yes rfl a na⟩
        | brk => obtain ⟨_, _, _, z⟩ := hsp; exact z.elim
        | cont => obtain ⟨_, _, _, z⟩ := hsp; exact z.elim
        | ret u => obtain ⟨_, _, _, _, _, z⟩ := hsp; exact z.elim
    | false =>
      refine wpAny_handleBy_nil ?_
      obtain ⟨k1, k2, k3, oe, vs, tr, otr, ts', q1, q2, q3, q4, q5⟩ := id fl5
      unfold PySem.passOn
      refine wpAny_bind (wpAny_field q1 q3 q4 ?_)
      rw [if_neg (by simp)]
      have fin : wpAny (model X.prog X.w) X.A (setFlight (.ref a) X.env.frame) (fun _ s4 => wpAny (model X.prog X.w) X.A (throw (.ref a) : Sem Flow) (SP X pins D) X.xe s4) X.xe { s2 with heap := g } := by
        rw [hf]
        exact HandSPX.setFlight_upZ fl5 fun h4 held up4 => wpAny_throw (tk _ _ ⟨a, B, sI, pins, σ', H', cls, d, rfl, J, nb, up5.trans up4, .inr (.inr (hs ▸ held)), na, os, ag, no rfl⟩)
      first
        | exact wpAny_bind (wpAny_pure (wpAny_bind fin))
        | exact wpAny_bind fin
  · cases f with
    | next =>
      obtain ⟨σ1, H1, J1, q⟩ := hsp
      exact wpAny_execs_nil ⟨σ1, H1, J1.ofTry ok, q⟩
    | brk =>
      obtain ⟨σ1, H1, J1, q⟩ := hsp
      exact ⟨σ1, H1, J1.ofTry ok, q⟩
    | cont =>
      obtain ⟨σ1, H1, J1, q⟩ := hsp
      exact ⟨σ1, H1, J1.ofTry ok, q⟩
    | ret u =>
      obtain ⟨v, σ1, H1, J1, r, q⟩ := hsp
      exact ⟨v, σ1, H1, J1.ofTry ok, r, q⟩
end
end Tr

end
section
set_option maxHeartbeats 2000000
/-! TrT: the try statement, fields and kinds of exceptions. -/
namespace Tr
open PySem PySem.Spec PyProof.Rows L2
/-- an exception as a tree -/
def exT (x : Ex) : T := match x.fld with
  | none => .box (.exc x.cls none) []
  | some (f, t) => .box (.exc x.cls (some f)) [t]
def ftry (ks cs : List Str) (i j : Nat) (b : S0) : S0 := fun E => match b E with
  | some (.ex x E') => if ks.contains x.cls then (if cs.contains x.cls then some (.nx ((E'.set i none).set j (some (exT x)))) else some (.ex x E')) else none
  | r => r
section
variable {K : PySem.W.Frag} {H H' : Hp} {S S' : Addr → Prop}
theorem Sl.none_ : ∀ {Γ : List Ow} {σ : L2.St} {E : Env} {fp : List Addr} (i : Nat), Sl K H S Γ σ E fp → ∃ fp', Sl K H S Γ (σ.set i none) (E.set i none) fp' ∧ (∀ a ∈ fp', a ∈ fp) ∧ (fp.Nodup → fp'.Nodup)
  | _, _, _, _, i, .nil => ⟨[], by simpa using .nil, fun _ z => z, fun z => z⟩
  | _, _, _, _, 0, .no s => ⟨_, .no s, fun _ z => z, fun z => z⟩
  | _, _, _, _, 0, .on (f := f) (fs := fs) r s => ⟨fs, .no s, fun a z => by simp [z], fun z => (nd_app z).2.1⟩
  | _, _, _, _, i + 1, .no s => by
    obtain ⟨fp', a, b, c⟩ := Sl.none_ i s
    exact ⟨fp', .no a, b, c⟩
  | _, _, _, _, i + 1, .on (f := f) r s => by
    obtain ⟨fp', a, b, c⟩ := Sl.none_ i s
    refine ⟨f ++ fp', .on r a, fun x z => ?_, fun nd => ?_⟩
    · rcases List.mem_append.mp z with z | z
      · simp [z]
      · simp [b x z]
    · obtain ⟨n1, n2, n3⟩ := nd_app nd
      exact nd_mk n1 (c n2) fun x z y => n3 x z (b x y)
theorem exT_rp {x : Ex} {cls : Value} {d : Option Addr} {a : Addr} (h : XAt K H S x cls d) (ha : H a = none) : Rp K (upd H a (XO a cls d)) S .sh (.ref a) (exT x) [] := by
  obtain ⟨c, h2⟩ := h
  subst c
  unfold exT
  cases hx : x.fld with
  | none =>
    rw [hx] at h2
    subst h2
    exact .box ⟨rfl, upd_same⟩ .nil
  | some ft =>
    obtain ⟨f, t⟩ := ft
    rw [hx] at h2
    obtain ⟨dx, v, rfl, h4, h5⟩ := h2
    have k : Kept H (upd H a (XO a (.ref (He.ga K x.cls)) (some dx))) := Kept.new ha
    exact .box ⟨dx, v, rfl, upd_same, by rw [upd_ne (ne_of_none h4 ha)]; exact h4⟩ (RpA.cons (f := []) (fs := []) ((h5.ro.kept k fun _ z => z).rp) .nil)
end
section
variable {X : Cx} {W : WX} {C : Cf} {Γ Γb Γ' : List Ow} {tt : Expr} {n y : Str} {ks cs : List Str} {body : List Stmt} {p1 p2 p3 pos pos' : Pos} {b : S0}
theorem ss_try (i j : Nat) (hs : X.stack = X.env :: X.outer) (hf : X.env.frame = some X.env.locals) (hex : X.ex = []) (hN : X.N.Nodup) (tk : Takes X W) (hM : C.M = [])
    (ht : ∀ c ∈ ks, Tst X tt (.ref (He.ga X.K c)) (cs.contains c))
    (hb : ∀ (W : WX) (pn : List (Addr × Obj)) (xe : Value → Shared → Prop), Takes (X.tr pn xe) W → PassesOwn (model X.prog X.w) X.A X.env xe → SSs (X.tr pn xe) W C Γ body b Γb)
    (hl1 : leq Γb Γ' = true := by rfl) (hl2 : leq (allSh Γ) Γ' = true := by rfl)
    (hi : X.N[i]? = some n := by rfl) (hj : X.N[j]? = some y := by rfl) (hij : i ≠ j := by decide) (hln : X.env.kindOf n = some .local := by rfl) (hly : X.env.scope.names.lookup y = some .local := by rfl)
    (hnd : (n == ("__debug__" : Str)) = false := by decide) (hnc : (n == ("__classdict__" : Str)) = false := by decide)
    (hsw : swapsWith (.Name n p2) (some (.Name y p1)) p3.line X.env = pure false := by rfl) :
    SS X W C Γ (.Try body [.ExceptHandler (some tt) (some n) [.Assign [.Name y p1] (.Name n p2) p3] pos'] [] [] pos) (ftry ks cs i j b) Γ' := by
  refine ps_imp (ps_trx (tb := fun W => tQ X.K W C Γ b Γb) hs hf hN hi hj hij hln hly tk hex hnd hnc (fun W pn xe tk ps => hb W pn xe tk ps) hsw) fun D σ H ⟨S, E, fp, r, G, er, q⟩ => ?_
  unfold ftry at er
  cases e1 : b E with
  | none => rw [e1] at er; cases er
  | some r1 =>
    rw [e1] at er
    refine ⟨S, E, fp, r1, G, e1, ?_⟩
    have same : r1 = r → (∀ x E1, r1 ≠ .ex x E1) → Qf X.K (wTry X tt i j W D.nx) C Γ Γb H S fp σ D r1 := fun hr hx => by
      subst hr
      cases r1 with
      | nx E1 =>
        intro σ' H' S' fp' G' ev m
        obtain ⟨S2, fp2, G2, ev2, _, _⟩ := G'.weak hl1
        exact q σ' H' S2 fp2 G2 (ev.trans ev2) m
      | rt t E1 => exact q
      | bk E1 => exact q
      | ct E1 => exact q
      | ex x E1 => exact absurd rfl (hx x E1)
    cases r1 with
    | nx E1 => exact same (Option.some.inj er) fun _ _ z => nomatch z
    | rt t E1 => exact same (Option.some.inj er) fun _ _ z => nomatch z
    | bk E1 => exact same (Option.some.inj er) fun _ _ z => nomatch z
    | ct E1 => exact same (Option.some.inj er) fun _ _ z => nomatch z
    | ex x E1 =>
      intro cls d σ' H' S' fp' G' xa ev
      simp only at er
      split at er
      case isFalse => cases er
      rename_i hk
      have hk' : x.cls ∈ ks := by simpa using hk
      refine ⟨cs.contains x.cls, xa.1 ▸ ht x.cls hk', fun hc a ha => ?_, fun hc => ?_⟩
      · rw [if_pos hc] at er
        have e' := (Option.some.inj er).symm
        subst e'
        obtain ⟨fp1, s1, sub1, nd1⟩ := G'.sl.none_ i
        have G1 : Good X.K H' S' (allSh Γ) (σ'.set i none) (E1.set i none) fp1 := ⟨s1, nd1 G'.nd, fun b z => G'.nS b (sub1 b z), G'.sT⟩
        have k : Kept H' (upd H' a (XO a cls d)) := Kept.new ha
        have G2 := G1.along k (TbK.new ha)
        obtain ⟨fp3, G3, sub3⟩ := G2.set j (exT_rp xa ha) G2.nd (fun b z => by simp at z)
        have eΓ : (allSh Γ).set j .sh = allSh Γ := by
          unfold allSh
          apply List.ext_getElem?
          intro m
          by_cases hm : j = m
          · subst hm
            rw [List.getElem?_set, List.getElem?_map]
            simp only [if_true, List.length_map]
            by_cases hl : j < Γ.length
            · rw [if_pos hl, List.getElem?_eq_getElem hl]
              rfl
            · rw [if_neg hl, List.getElem?_eq_none (by omega)]
              rfl
          · rw [List.getElem?_set_ne hm]
        rw [eΓ] at G3
        obtain ⟨S4, fp4, G4, ev4, _, _⟩ := G3.weak hl2
        have eσ : ((σ'.set i (some (V.ref a))).set j (some (V.ref a))).set i none = (σ'.set i none).set j (some (V.ref a)) := by
          rw [List.set_comm _ _ hij, List.set_set, List.set_comm _ _ hij]
        rw [eσ]
        refine q _ _ S4 fp4 G4 ((ev.trans ?_).trans ev4) (by rw [hM]; exact fun m z => by simp at z)
        exact (Ev.new ha).less fun b z => List.mem_cons_of_mem _ (sub1 b (by simpa using sub3 b z))
      · rw [if_neg (by rw [hc]; simp)] at er
        have e' := (Option.some.inj er).symm
        subst e'
        exact q cls d σ' H' S' fp' G' xa ev
end
end Tr

end
section
set_option maxHeartbeats 2000000
/-! TrU: a caught exception's kind and field; the written part's facts about exception classes. -/
namespace Tr
open PySem PySem.Spec PyProof.Rows L2
open PySem.W (lookIn findIn subIn specialIn takesIn mroIn clsIn hasDictIn typeIn keepIn kitOne exmAny exmOne)
/-- what isinstance and a field ask of an own exception class -/
structure Xk (K : PySem.W.Frag) (C : Addr) : Prop where
  cl : (clsIn K C).isSome = true
  at1 : findIn K (.ref C) "__getattribute__" = some (some (.builtin "BaseException.__getattribute__"))
  at2 : findIn K (.ref C) "__getattr__" = some none
  ex : subIn K (.ref C) (.type "BaseException") = some true
  hd : hasDictIn K C = true
  ca : findIn K (.ref C) "__class__" = some (some (.builtin "object.__class__"))
  cg : specialIn K (.builtin "object.__class__") "__get__" = some (some (.builtin "getset_descriptor.__get__"))
  ct : takesIn K (.builtin "object.__class__") = some true
  mo : mroIn K C (.type "object") = some true
def xkB (K : PySem.W.Frag) (C : Addr) : Bool :=
  [(clsIn K C).isSome, decide (findIn K (.ref C) "__getattribute__" = some (some (.builtin "BaseException.__getattribute__"))), decide (findIn K (.ref C) "__getattr__" = some none), decide (subIn K (.ref C) (.type "BaseException") = some true), hasDictIn K C,
   decide (findIn K (.ref C) "__class__" = some (some (.builtin "object.__class__"))), decide (specialIn K (.builtin "object.__class__") "__get__" = some (some (.builtin "getset_descriptor.__get__"))), decide (takesIn K (.builtin "object.__class__") = some true), decide (mroIn K C (.type "object") = some true)].all id
theorem xk_of {K : PySem.W.Frag} {C : Addr} (h : xkB K C = true) : Xk K C := by
  unfold xkB at h
  simp only [List.all_cons, List.all_nil, Bool.and_true, Bool.and_eq_true, id, decide_eq_true_eq] at h
  obtain ⟨h1, h2, h3, h4, h5, h6, h7, h8, h9⟩ := h
  exact ⟨h1, h2, h3, h4, h5, h6, h7, h8, h9⟩
section
variable {X : Cx} {W : WX} {pins : List (Addr × Obj)} {σ : L2.St} {H : Hp} {s : Shared} {Γ : List Ow}
theorem xo_inst {a C : Addr} {d : Option Addr} (I : Inv X pins σ H s) (h : H a = some (XO a (.ref C) d)) (hd : ∀ dx, d = some dx → ∃ fs, H dx = some (.xd fs)) : ∃ ox od, PySem.W.InstAt s.heap a ox C od ∧ (d = none → od = none) ∧
    ∀ dx fs, d = some dx → H dx = some (.xd fs) → ∃ (oD : Obj) (mA : Str → Option Value), od = some oD ∧ s.heap.get? dx = some oD ∧ (∀ f, lookIn f oD = some (mA f)) ∧ ∀ f, RelO (fs.lookup f) (mA f) := by
  obtain ⟨⟨oe, h1, h2, h3, vs, h4⟩, _⟩ := (show ObjOk X.prog X.w H s.heap a (.ext fun h => ∃ oe : Obj, h.get? a = some oe ∧ oe.cls = .ref C ∧ oe.dict = d ∧ ∃ vs, oe.data = .fields vs) from I.hok a _ h)
  have nc : PySem.W.notCls oe = true := by
    unfold PySem.W.notCls
    rw [h4]
  cases d with
  | none => exact ⟨oe, none, ⟨h1, h2, nc, by rw [h3]; exact True.intro⟩, fun _ => rfl, fun dx fs z => nomatch z⟩
  | some dx =>
    obtain ⟨fs, e⟩ := hd dx rfl
    obtain ⟨mA, hns, rel⟩ := (show ObjOk X.prog X.w H s.heap dx (.xd fs) from I.hok dx _ e)
    obtain ⟨od, ho, hl⟩ := lookIn_ns hns
    refine ⟨oe, some od, ⟨h1, h2, nc, by rw [h3]; exact ho⟩, (fun z => nomatch z), fun dy fs' z e' => ?_⟩
    cases z
    rw [e] at e'
    cases e'
    exact ⟨od, mA, rfl, ho, hl, rel⟩
/-- isinstance of an exception -/
def rIsx (K : PySem.W.Frag) : List V → Hp → VK → Prop := fun xs H Q => ∃ (a C : Addr) (d : Option Addr) (c : V) (u : Value) (b : Bool), xs = [.ref a, c] ∧ ClsV c u ∧ H a = some (XO a (.ref C) d) ∧ (∀ dx, d = some dx → ∃ fs, H dx = some (.xd fs)) ∧ kitOne K (.ref C) u = some b ∧ Xk K C ∧ Q (.bl b) H
theorem call_isx : CallR X (.builtin "isinstance") (rIsx X.K) := by
  intro pins s σ H xs us Q I r h
  obtain ⟨a, C, d, c, u, b, rfl, k, ha, hd, e, T, q⟩ := h
  obtain ⟨u1, u2, rfl, r1, r2⟩ := vals2 r
  cases (show u1 = Value.ref a from r1)
  cases k.eq r2
  obtain ⟨ox, od, J, _⟩ := xo_inst I ha hd
  exact PySem.W.kia_one (PySem.W.kitx_exc T.cl T.at1 T.at2 T.ex T.ca T.cg T.ct T.mo) I.kIn J e (fun z => nomatch z) fun tk => ⟨.bl b, H, I.tok tk, rfl, q⟩
/-- a class of ks is a kind of c exactly if it is in cs -/
def isxT (ks cs : List Str) : T → Option T
  | .box (.exc k _) _ => if ks.contains k then some (.bl (cs.contains k)) else none
  | _ => none
theorem BoxAt.exc {K : PySem.W.Frag} {S : Addr → Prop} {a : Addr} {k : Str} {f : Option Str} {vs : List V} (h : BoxAt K H S a (.exc k f) vs) : ∃ d, H a = some (XO a (.ref (He.ga K k)) d) ∧ ∀ dx, d = some dx → ∃ fs, H dx = some (.xd fs) := by
  cases f with
  | none => exact ⟨none, h.2, fun dx z => nomatch z⟩
  | some f =>
    obtain ⟨dx, v, h1, h2, h3⟩ := h
    exact ⟨some dx, h2, fun dy z => by cases z; exact ⟨_, h3⟩⟩
theorem pl_isx {ks cs : List Str} {a e : Expr} {x : Str} {c : V} {u : Value} {f : P0} {ρ : Ow} {p1 : Pos} (hR : ∀ {t : TA}, PA X [a, .Name x p1] t → PE X e (tCB (rIsx X.K) t)) (hc : PE X (.Name x p1) (tC c)) (hu : ClsV c u) (h1 : PL X Γ a f ρ)
    (hk : ∀ k ∈ ks, Xk X.K (He.ga X.K k) ∧ kitOne X.K (.ref (He.ga X.K k)) u = some (cs.contains k))
    (hs : starEach [a, .Name x p1] X.env = (false, eval a X.env) :: starEach [.Name x p1] X.env := by rfl) (hs2 : starEach [.Name x p1] X.env = (false, eval (.Name x p1) X.env) :: starEach [] X.env := by rfl) : PL X Γ e (pp1 (isxT ks cs) f) .sh := by
  refine pe_imp (hR (pa_cons h1 (pa_cons hc pa_nil hs2) hs)) fun σ H Q ⟨S, E, fp, r, G, er, q⟩ => ?_
  unfold pp1 at er
  obtain ⟨t, e1, er⟩ := Option.bind_eq_some_iff.mp er
  refine ⟨S, E, fp, t, G, e1, fun v fr R _ => ?_⟩
  unfold isxT at er
  split at er
  case h_2 => cases er
  split at er
  case isFalse => cases er
  rename_i k f0 ts hk'
  cases er
  cases R with
  | @box _ b _ _ _ hb _ =>
    obtain ⟨d, h2, h3⟩ := BoxAt.exc hb
    obtain ⟨T, e⟩ := hk k (by simpa using hk')
    exact ⟨b, _, d, c, u, _, rfl, hu, h2, h3, e, T, q _ [] (.bl _) fun a z => by simp at z⟩
/-- an exception's field -/
def fldT (ks : List Str) (f : Str) : T → Option T
  | .box (.exc k (some g)) [u] => if ks.contains k && decide (g = f) then some u else none
  | _ => none
theorem pl_xfld {ks : List Str} {a : Expr} {n : Str} {f : P0} {ρ : Ow} {pos : Pos} (h1 : PL X Γ a f ρ) (hk : ∀ k ∈ ks, Xk X.K (He.ga X.K k) ∧ findIn X.K (.ref (He.ga X.K k)) n = some none)
    (hb : attributeBase a n X.env (eval a X.env) = eval a X.env := by rfl) : PL X Γ (.Attribute a n pos) (pp1 (fldT ks n) f) .sh := by
  refine ⟨fun pins s σ H Q I h => ?_⟩
  obtain ⟨S, E, fp, r, G, er0, q⟩ := h
  obtain ⟨t, e1, er⟩ := Option.bind_eq_some_iff.mp (show (f E).bind (fldT ks n) = some r from er0)
  clear er0
  unfold fldT at er
  split at er
  case h_2 => cases er
  split at er
  case isFalse => cases er
  rename_i k g w hkg
  simp only [Bool.and_eq_true, decide_eq_true_eq] at hkg
  obtain ⟨hk', rfl⟩ := hkg
  have ew := Option.some.inj er
  subst ew
  have hh := h1.run pins s σ H (fun v H' => H' = H ∧ ∃ fr, Rp X.K H S ρ v (.box (.exc k (some g)) [w]) fr) I ⟨S, E, fp, _, G, e1, fun v fr R _ => ⟨rfl, fr, R⟩⟩
  refine attr_of hb (thn hh fun u s1 hh => ?_)
  obtain ⟨x, H1, I1, rx, eH, fr, R⟩ := hh
  subst eH
  cases R with
  | @box _ b _ vs _ hbx rp =>
    obtain ⟨dx, v, rfl, h2, h3⟩ := hbx
    cases (show u = Value.ref b from rx)
    obtain ⟨ox, od, J, _, hD⟩ := xo_inst I1 h2 fun dy z => by cases z; exact ⟨_, h3⟩
    obtain ⟨oD, mA, rfl, ho, hl, rel⟩ := hD dx _ rfl h3
    obtain ⟨u, hu, ru⟩ := RelO.some_of (v := v) (o := mA g) (by have := rel g; simpa [List.lookup] using this)
    obtain ⟨T, hno⟩ := hk k (by simpa using hk')
    obtain ⟨y, g2, y1, y2, y3⟩ := rp.get (i := 0) (x := w) rfl
    cases (show v = y from Option.some.inj y1)
    have rv : Rp X.K H1 S .sh v w [] := by
      have z := y2.sh_nil
      rwa [z] at y2
    exact HandSPX.exc_get I1.kIn J T.at1 T.at2 T.ex (PySem.W.findObj_own T.hd hno rfl (by rw [hl, hu])) (handed_of ru) ⟨v, H1, I1.tok _, ru, q v [] rv fun a z => by simp at z⟩
end
end Tr

end
section
set_option maxHeartbeats 2000000
/-! TrV: the head's facts about exception classes. -/
namespace Tr
open PySem PySem.Spec PyProof.Rows L2
open PySem.W (findIn subIn typeIn keepIn kitOne exmAny exmOne Frag)
/-- a class by its name -/
inductive Kc where
  | own (x : Str) | blt (n : String)
def Kc.v (K : Frag) : Kc → Value
  | .own x => .ref (He.ga K x)
  | .blt n => .type n
def Kc.V (K : Frag) : Kc → V
  | .own x => .ref (He.ga K x)
  | .blt n => .ty n
theorem Kc.is (K : Frag) : ∀ k : Kc, ClsV (k.V K) (k.v K)
  | .own x => .own _
  | .blt n => .ty n
/-- facts: a class that is made by its own __init__; one that is asked; it has no such name; its kind; a clause takes it -/
inductive Xf where
  | oex (c : Str) | xk (c : Str) | no (c f : Str) | is (c : Str) (k : Kc) (b : Bool) | exm (c : Str) (ys : List Str) (b : Bool) | lam (f : Str)
/-- the def at f makes lambdas -/
def lamB (K : PySem.W.Frag) (f : Addr) (qual : Str) : Bool := match K.lookup f with
  | some ⟨_, _, .func fd, _⟩ => (match fd.code with
    | .ref c => (codesK K).any fun p => p.1 == c && decide (p.2.2 = qual ++ ".<locals>." ++ "<lambda>")
    | _ => false)
  | _ => false
def oexB (K : Frag) (C : Addr) : Bool := match K.lookup C with
  | some ⟨.type t, _, .cls cd, sl⟩ => (match cd.mro, sl.toList with
    | .ref D :: bm, [_, _, _, _, some (.builtin n), _] => decide (t = "type") && (decide (D = C) && (decide (n = "ValueError.__new__") && (!cd.hasDel && (cd.hasDict && PySem.HandSPX.refsVE bm))))
    | _, _ => false)
  | _ => false
def Xf.ok (K : Frag) : Xf → Bool
  | .oex c => [oexB K (He.ga K c), decide (findIn K (.ref (He.ga K c)) "__setattr__" = some (some (.builtin "object.__setattr__"))), decide (subIn K (.ref (He.ga K c)) (.type "BaseException") = some true), decide (typeIn K (.ref (He.ga K c)) = some (.type "type")), keepIn K (.ref (He.ga K c)),
      decide (findIn K (.ref (He.ga K c)) "__init__" = some (some (.ref (He.fAd K (c, some "__init__"))))), decide (typeIn K (.ref (He.fAd K (c, some "__init__"))) = some (.type "function"))].all id
  | .xk c => xkB K (He.ga K c)
  | .no c f => decide (findIn K (.ref (He.ga K c)) f = some none)
  | .is c k b => decide (kitOne K (.ref (He.ga K c)) (k.v K) = some b)
  | .lam f => lamB K (He.ga K f) f
  | .exm c ys b => decide (exmAny K (.ref (He.ga K c)) (ys.map fun y => .ref (He.ga K y)) = some b)
section
variable {K : Frag} {c f : Str}
theorem oexB_ok {C : Addr} (h : oexB K C = true) : ∃ nm q N bs bm sn sub ab col dd k0 k1 k2 k3 k5, K.lookup C = some (excClassObj nm q C N bs bm true sn sub ab col dd k0 k1 k2 k3 k5 "ValueError.__new__") ∧ PySem.HandSPX.refsVE bm = true := by
  unfold oexB at h
  split at h
  case h_2 => cases h
  rename_i t dd cd sl ho
  split at h
  case h_2 => cases h
  rename_i D bm k0 k1 k2 k3 n k5 hm hs
  obtain ⟨nm, bs, mro, ns, qn, hd, sn, sub, ab, col, del⟩ := cd
  simp only [Bool.and_eq_true, decide_eq_true_eq, Bool.not_eq_true'] at h hm
  obtain ⟨rfl, rfl, rfl, rfl, rfl, hv⟩ := h
  subst hm
  have e : sl = #[k0, k1, k2, k3, some (.builtin "ValueError.__new__"), k5] := by
    obtain ⟨l⟩ := sl
    exact congrArg Array.mk hs
  subst e
  exact ⟨nm, qn, ns, bs, bm, sn, sub, ab, col, dd, k0, k1, k2, k3, k5, ho, hv⟩
theorem oex_ok (h : (Xf.oex c).ok K = true) : OexC K (He.ga K c) ∧ findIn K (.ref (He.ga K c)) "__init__" = some (some (.ref (He.fAd K (c, some "__init__")))) ∧ typeIn K (.ref (He.fAd K (c, some "__init__"))) = some (.type "function") := by
  simp only [Xf.ok, List.all_cons, List.all_nil, Bool.and_true, Bool.and_eq_true, id, decide_eq_true_eq] at h
  obtain ⟨h1, h2, h3, h4, h5, h6, h7⟩ := h
  exact ⟨⟨oexB_ok h1, h2, h3, h4, h5⟩, h6, h7⟩
theorem no_ok (h : (Xf.no c f).ok K = true) : findIn K (.ref (He.ga K c)) f = some none := of_decide_eq_true h
theorem is_ok {k : Kc} {b : Bool} (h : (Xf.is c k b).ok K = true) : kitOne K (.ref (He.ga K c)) (k.v K) = some b := of_decide_eq_true h
theorem exm_ok {ys : List Str} {b : Bool} (h : (Xf.exm c ys b).ok K = true) : exmAny K (.ref (He.ga K c)) (ys.map fun y => .ref (He.ga K y)) = some b := of_decide_eq_true h
theorem exm_one {y : Str} {b : Bool} (h : (Xf.exm c [y] b).ok K = true) : exmOne K (.ref (He.ga K c)) (.ref (He.ga K y)) = some b := by
  have e := exm_ok h
  simp only [List.map_cons, List.map_nil, exmAny] at e
  cases q : exmOne K (.ref (He.ga K c)) (.ref (He.ga K y)) with
  | none => rw [q] at e; cases e
  | some z =>
    rw [q] at e
    cases z <;> exact e
end
/-- the method that stands first in a class -/
def mth0 (s : Stmt) : Stmt := match s with
  | .ClassDef _ _ _ body _ _ _ _ _ _ _ => body.getD 0 (.Pass ⟨0, 0, 0, 0⟩)
  | _ => .Pass ⟨0, 0, 0, 0⟩
/-! ### the hook -/
def obsX (fa : List He.Fa) (xa : List Xf) (fn : List He.DefD) (K : Frag) : He.AlD := ((He.obsD fa fn K).1 && xa.all fun f => f.ok K, (He.obsD fa fn K).2)
structure SaysX (fa : List He.Fa) (xa : List Xf) (fn : List He.DefD) (K : Frag) : Prop where
  d : He.SaysD fa fn K
  x : ∀ f ∈ xa, f.ok K = true
theorem says_of {fa : List He.Fa} {xa : List Xf} {fn : List He.DefD} {K : Frag} (h : obsX fa xa fn K = He.valD fn) : SaysX fa xa fn K := by
  have h1 : ((He.obsD fa fn K).1 && xa.all fun f => f.ok K) = true := congrArg (β := Bool) (fun z : He.AlD => z.1) h
  have h2 : (obsX fa xa fn K).2 = (He.valD fn).2 := by rw [h]
  obtain ⟨a, b⟩ := Bool.and_eq_true_iff.mp h1
  refine ⟨?_, fun f hf => List.all_eq_true.mp b f hf⟩
  show He.obsD fa fn K = He.valD fn
  have a' : (He.obsD fa fn K).1 = (He.valD fn).1 := a
  exact Prod.ext a' h2
def isTab (g : Addr → Option Obj) (a : Addr) : Bool := match g a with
  | some ⟨.none, _, .fields _, _⟩ => true
  | _ => false
def keepG (g : Addr → Option Obj) (as : List Addr) : List Addr := as.filter fun a => !isTab g a
def emptyB : Option Obj → Bool
  | some ⟨.none, none, .fields vs, sl⟩ => vs.isEmpty && sl.isEmpty
  | _ => false
theorem emptyB_ok {o : Option Obj} (h : emptyB o = true) : o = some noObj := by
  unfold emptyB at h
  split at h
  case h_2 => cases h
  rename_i vs sl
  obtain ⟨h1, h2⟩ := Bool.and_eq_true_iff.mp h
  rw [Array.isEmpty_iff.mp h1, Array.isEmpty_iff.mp h2]
def codeHdB (K : Frag) (c P : Addr) : Bool := match K.lookup c with
  | some ⟨.type t, _, .fields vs, _⟩ => decide (t = "code") && (decide (vs[11]? = some (.ref P)) && ((match vs.getD 18 .none with | .str _ _ => true | _ => false) && ((match vs.getD 7 .none with | .int _ _ => true | _ => false) &&
      ((match vs.getD 9 .none with | .bool _ => true | _ => false) && ((match vs.getD 10 .none with | .int _ _ => true | _ => false) && decide (c ≠ P))))))
  | _ => false
theorem codeHdB_ok {K : Frag} {h : Heap} {c P : Addr} (X : K.In h) (e : codeHdB K c P = true) : PySem.W.CodeHd h c P := by
  unfold codeHdB at e
  split at e
  case h_2 => cases e
  rename_i t od vs sl ho
  simp only [Bool.and_eq_true, decide_eq_true_eq] at e
  obtain ⟨e1, e2, e3, e4, e5, e6, e7⟩ := e
  subst e1
  cases q3 : vs.getD 18 .none with
  | str file tf =>
    cases q4 : vs.getD 7 .none with
    | int fl tg =>
      cases q5 : vs.getD 9 .none with
      | bool inF =>
        cases q6 : vs.getD 10 .none with
        | int tx tt =>
          refine ⟨_, vs, file, tf, fl, tg, inF, tx, tt, X _ _ ho, rfl, rfl, e2, ?_, q3, q4, q5, q6, e7⟩
          rw [Array.getD_eq_getD_getElem?, e2]
          rfl
        | _ => rw [q6] at e6; cases e6
      | _ => rw [q5] at e5; cases e5
    | _ => rw [q4] at e4; cases e4
  | _ => rw [q3] at e3; cases e3
def tabsB (g : Addr → Option Obj) (K : Frag) : Bool := (codesK K).all fun p => emptyB (g p.2.1) && (codeHdB K p.1 p.2.1 && (codesK K).all fun r => !(p.2.1 == r.2.1) || decide (p.2.2 = r.2.2))
/-- one name for each table -/
def TabU (K : Frag) : Prop := ∀ p ∈ codesK K, ∀ r ∈ codesK K, p.2.1 = r.2.1 → p.2.2 = r.2.2
theorem tabsB_ok {g : Addr → Option Obj} {K : Frag} (h : tabsB g K = true) : (∀ p ∈ codesK K, g p.2.1 = some noObj) ∧ (∀ p ∈ codesK K, codeHdB K p.1 p.2.1 = true) ∧ TabU K := by
  unfold tabsB at h
  have a := fun p hp => Bool.and_eq_true_iff.mp (List.all_eq_true.mp h p hp)
  have b := fun p hp => Bool.and_eq_true_iff.mp (a p hp).2
  refine ⟨fun p hp => emptyB_ok (a p hp).1, fun p hp => (b p hp).1, fun p hp r hr e => ?_⟩
  have := List.all_eq_true.mp (b p hp).2 r hr
  rw [e] at this
  simpa using this
def fragX (n : Nat) (g : Addr → Option Obj) : Frag := He.frG g (keepG g (He.asD g n))
def obsXG (n : Nat) (fa : List He.Fa) (xa : List Xf) (fn : List He.DefD) (g : Addr → Option Obj) : He.AlD := ((obsX fa xa fn (fragX n g)).1 && tabsB g (fragX n g), (obsX fa xa fn (fragX n g)).2)
/-- what the head leaves -/
structure Left (fa : List He.Fa) (xa : List Xf) (fn : List He.DefD) (K : Frag) (h : Heap) : Prop where
  in_ : K.In h
  says : SaysX fa xa fn K
  tabs : ∀ p ∈ codesK K, h.get? p.2.1 = some noObj
  codes : ∀ p ∈ codesK K, codeHdB K p.1 p.2.1 = true
  uniq : TabU K
theorem left_of {n : Nat} {fa : List He.Fa} {xa : List Xf} {fn : List He.DefD} {h : Heap} (e : obsXG n fa xa fn h.get? = He.valD fn) : Left fa xa fn (fragX n h.get?) h := by
  have h1 : ((obsX fa xa fn (fragX n h.get?)).1 && tabsB h.get? (fragX n h.get?)) = true := by
    have : (obsXG n fa xa fn h.get?).1 = (He.valD fn).1 := by rw [e]
    exact this
  have h2 : (obsX fa xa fn (fragX n h.get?)).2 = (He.valD fn).2 := by
    have : (obsXG n fa xa fn h.get?).2 = (He.valD fn).2 := by rw [e]
    exact this
  obtain ⟨a, b⟩ := Bool.and_eq_true_iff.mp h1
  obtain ⟨c1, c2, c3⟩ := tabsB_ok b
  have a' : (obsX fa xa fn (fragX n h.get?)).1 = (He.valD fn).1 := a
  exact ⟨He.frG_in, says_of (Prod.ext a' h2), c1, c2, c3⟩
def hookX (n : Nat) (fa : List He.Fa) (xa : List Xf) (fn : List He.DefD) : PySem.W.Hook where
  α := He.AlD
  obs := fun s => obsXG n fa xa fn s.heap.get?
  val := fun _ => He.valD fn
  says := fun _ h => ∃ K : Frag, Left fa xa fn K h
  of := fun _ _ e => ⟨_, left_of e⟩
  keeps := fun _ _ _ ⟨K, c⟩ k => ⟨K, Frag.In.keeps c.in_ k, c.says, fun p hp => k _ _ (c.tabs p hp), c.codes, c.uniq⟩
theorem obsXG_eq {n : Nat} {fa : List He.Fa} {xa : List Xf} {fn : List He.DefD} {g : Addr → Option Obj} {s : Shared} (h : ∀ a, g a = s.heap.get? a) : obsXG n fa xa fn g = (hookX n fa xa fn).obs s := by
  have e : g = s.heap.get? := funext h
  subst e
  rfl
theorem SaysX.fx {fa : List He.Fa} {xa : List Xf} {fn : List He.DefD} {K : Frag} (c : SaysX fa xa fn K) (i : Nat) {f : Xf} (h : xa[i]? = some f := by rfl) : f.ok K = true := c.x f (List.mem_of_getElem? h)
/-- an own class with its __init__ -/
noncomputable def xcl_of {P : Program} {w : World} {K : Frag} {mg : Str → Option Value} {base : Heap} {cls f qual : Str} {params : Arguments} {scope : Scope} {fd : FuncData} {p1 p2 p3 p4 : Pos} (g : mg cls = some (.ref (He.ga K cls))) (h : (Xf.oex cls).ok K = true) (hn : (Xf.no cls f).ok K = true)
    (F : FunD K "__init__" qual params [.Assign [.Attribute (.Name "self" p1) f p2] (.Name f p3) p4] scope [] [] (He.fAd K (cls, some "__init__")) fd) (b : Binds K fd ["self", f] [])
    (Sc : FnScope ["self", f] ["self", f] scope) (v0 : Vis scope "self") (v1 : Vis scope f) (hd : (f == ("__debug__" : Str)) = false) (hcd : (f == ("__classdict__" : Str)) = false) (hsw : ∀ env : PySem.Env, env.scope = scope → swapsWith (.Name f p3) (some (.Attribute (.Name "self" p1) f p2)) p4.line env = pure false) : Xcl P w K mg base cls f := by
  exact ⟨g, (oex_ok h).1, no_ok hn, _, fd, (oex_ok h).2.1, (oex_ok h).2.2, init_ok F Sc v0 v1 hd hcd hsw, b⟩
end Tr

end
section
set_option maxHeartbeats 2000000
/-! TrW: new shared things: tuple(..), {}, dict(pairs); d[k]. -/
namespace Tr
open PySem PySem.Spec PyProof.Rows L2
/-- one operand; the answer a new shared thing -/
def C1n (K : PySem.W.Frag) (r : List V → Hp → VK → Prop) (g : T → Option T) : Prop := ∀ H S ρ x a c Q, flat ρ = true → Ro K H S ρ x a → g a = some c →
  (∀ z H' S', Kept H H' → (∀ a, S a → S' a) → (∀ a, S' a → S a ∨ H a = none) → (∀ a, H' a = none → H a = none) → (∀ a, S' a → S a ∨ ∃ o, H' a = some o ∧ ∀ ps, o ≠ .tbl ps) → (TbK K H → TbK K H') → Ro K H' S' .sh z c → Q z H') → r [x] H Q
section
variable {K : PySem.W.Frag} {H H' : Hp} {S S' : Addr → Prop} {Γ : List Ow} {σ : L2.St} {E : Env} {fp : List Addr}
theorem Good.wide (G : Good K H S Γ σ E fp) (k : Kept H H') (h1 : ∀ a, S a → S' a) (h2 : ∀ a, S' a → S a ∨ H a = none) (h3 : ∀ a, H' a = none → H a = none) (h4 : ∀ a, S' a → S a ∨ ∃ o, H' a = some o ∧ ∀ ps, o ≠ .tbl ps) (tt : TbK K H → TbK K H') : Good K H' S' Γ σ E fp ∧ Ev H S fp H' S' fp := by
  have G1 := G.along k tt
  refine ⟨⟨G1.sl.fm (Fm.grow h1) fun _ _ z => z, G1.nd, fun a z y => ?_, ⟨fun a z => ?_, G1.sT.2⟩⟩, ⟨fun a o e _ t => k a o e t, h3, h1, fun a z => (h2 a z).imp id .inr, fun a z => .inl z⟩⟩
  · rcases h2 a y with w | w
    · exact G.nS a z w
    · obtain ⟨xs, e⟩ := G.isl a z
      rw [w] at e
      cases e
  · rcases h4 a z with w | w
    · exact G1.sT.1 a w
    · exact w
end
section
variable {X : Cx} {W : WX} {Γ Γ1 Γ' : List Ow} {a e : Expr} {pos : Pos} {r : List V → Hp → VK → Prop} {g : T → Option T}
theorem se_new {b p : Bool} {f : F0 T} {ρ : Ow} (hR : ∀ {t : TA}, PA X [a] t → PE X e (tCB r t)) (hb : C1n X.K r g) (h1 : OE X W b p Γ a f ρ Γ') (hf : flat ρ = true := by rfl) (hs : starEach [a] X.env = (false, eval a X.env) :: starEach [] X.env := by rfl) : SE X W p Γ e (F0.bind f (lf g)) .sh Γ' := by
  refine pe_imp (hR (pa_cons h1 pa_nil hs)) fun σ H Q ⟨S, E, fp, r, G, er, q⟩ => ?_
  unfold F0.bind at er
  cases e1 : f E with
  | none => rw [e1] at er; cases er
  | some r1 =>
    rw [e1] at er
    refine ⟨S, E, fp, r1, G, e1, ?_⟩
    cases r1 with
    | ex x E1 =>
      have e' : r = .ex x E1 := (Option.some.inj er).symm
      subst e'
      exact q
    | ok t E1 =>
      obtain ⟨d, ed, e'⟩ := lf_some er
      subst e'
      intro v H' S' fp' G' ev pp st
      have s1 := st H' S' fp' (Ev.refl fun _ z => z) (fun _ => Kept.refl _)
      refine hb H' S' _ v t d Q hf s1 ed fun z H2 S2 k h1 h2 h3 h4 tt ro => ?_
      obtain ⟨G2, ev2⟩ := G'.wide k h1 h2 h3 h4 tt
      exact q z H2 S2 fp' [] G2 ro.rp G2.nd (fun a z => by simp at z) (ev.trans ev2) fun z => ⟨(pp z).1, (pp z).2.trans k⟩
end
theorem upd_eq {H : Hp} {p b : Addr} {o : HO} (h : b = p) : upd H p o b = some o := by rw [h]; exact upd_same
/-! ### tuple(..) -/
def rTupC (K : PySem.W.Frag) : List V → Hp → VK → Prop := fun xs H Q => ∃ p ys, xs = [.ref p] ∧ ((SqL K H p ys ∧ ∀ l, H l = none → Q (.ref l) (upd H l (.tup ys))) ∨ (SqT K H p ys ∧ Q (.ref p) H))
def tupleT : T → Option T
  | .lst xs => some (.tup xs)
  | .tup xs => some (.tup xs)
  | _ => none
theorem c_tuple {K : PySem.W.Frag} : C1n K (rTupC K) tupleT := by
  intro H S ρ x a c Q hf ro e q
  unfold tupleT at e
  split at e
  · cases e
    obtain ⟨a, xs, i, rfl, h, r, hi⟩ := ro.seqL
    refine ⟨a, xs, rfl, .inl ⟨h, fun l hl => ?_⟩⟩
    have k : Kept H (upd H l (.tup xs)) := Kept.new hl
    rw [hi hf] at r
    exact q _ _ S k (fun _ z => z) (fun _ z => .inl z) (Ev.new (S := S) (fp := []) hl).dom (fun _ z => .inl z) (TbK.new hl) (.tup (SqT.of upd_same) (RoA.kept k (fun _ z => z) r))
  · cases e
    obtain ⟨a, xs, rfl, h, r⟩ := ro.tupl
    exact ⟨a, xs, rfl, .inr ⟨h, q _ _ S (Kept.refl H) (fun _ z => z) (fun _ z => .inl z) (fun _ z => z) (fun _ z => .inl z) (fun z => z) (.tup h r)⟩⟩
  · cases e
/-! ### dict(pairs) -/
def pair? : T → Option (Int × T)
  | .tup [.int k, v] => some (k, v)
  | _ => none
def pairs? : List T → Option (List (Int × T))
  | [] => some []
  | t :: ts => (pair? t).bind fun p => (pairs? ts).map (p :: ·)
def dctOf (ps : List (Int × T)) : T := .box (.dct (ps.map fun p => .inl p.1)) (ps.map fun p => p.2)
def dictT : T → Option T
  | .lst ts => (pairs? ts).bind fun ps => if (ps.map (·.1)).Nodup then some (dctOf ps) else none
  | _ => none
def rDctC (K : PySem.W.Frag) : List V → Hp → VK → Prop := fun xs H Q => ∃ (a : Addr) (ps : List Addr) (kvs : List (Key × V)), xs = [.ref a] ∧ SqL K H a (ps.map V.ref) ∧ Paired (fun p kv => SqT K H p [kV kv.1, kv.2]) ps kvs ∧
  ∀ p, H p = none → Q (.ref p) (upd H p (.dK (mergeK [] kvs)))
theorem mergeK_nodup : ∀ (l acc : List (Key × V)), ((acc ++ l).map (·.1)).Nodup → mergeK acc l = acc ++ l
  | [], acc, _ => by simp [mergeK]
  | (k, v) :: l, acc, h => by
    have hno : (acc.any fun kv => decide (kv.1 = k)) = false := by
      rw [List.any_eq_false]
      intro x hx e
      simp only [decide_eq_true_eq] at e
      rw [List.map_append, List.nodup_append] at h
      exact h.2.2 x.1 (List.mem_map_of_mem hx) k (by simp) e
    have e : mergeK acc ((k, v) :: l) = mergeK (acc ++ [(k, v)]) l := by
      show List.foldl _ (putK acc k v) l = List.foldl _ (acc ++ [(k, v)]) l
      rw [show putK acc k v = acc ++ [(k, v)] by unfold putK; rw [hno]; rfl]
    rw [e, mergeK_nodup l (acc ++ [(k, v)]) (by simpa using h)]
    simp
theorem pairs_r {K : PySem.W.Frag} {H : Hp} {S : Addr → Prop} : ∀ {xs : List V} {ts : List T} {ps : List (Int × T)}, RoA K H S .sh xs ts → pairs? ts = some ps → ∃ (as : List Addr) (vs : List V), xs = as.map V.ref ∧ vs.length = ps.length ∧
    Paired (fun p (kv : Key × V) => SqT K H p [kV kv.1, kv.2]) as ((ps.map fun p => (Sum.inl p.1 : Key)).zip vs) ∧ RoA K H S .sh vs (ps.map fun p => p.2)
  | _, _, ps, .nil, e => by
    cases e
    exact ⟨[], [], rfl, rfl, .nil, .nil⟩
  | _, _, ps, .cons (t := t) r rs, e => by
    obtain ⟨p, e1, e⟩ := Option.bind_eq_some_iff.mp (show (pair? t).bind _ = some ps from e)
    obtain ⟨qs, e2, e3⟩ := Option.map_eq_some_iff.mp e
    subst e3
    obtain ⟨as, vs, h1, h2, h3, h4⟩ := pairs_r rs e2
    unfold pair? at e1
    split at e1
    case h_2 => cases e1
    rename_i k v
    cases e1
    obtain ⟨a, ys, rfl, hT, r2⟩ := r.tupl
    cases r2 with
    | cons ra rb =>
      cases rb with
      | cons rv rn =>
        cases rn
        cases ra.int_
        exact ⟨a :: as, _ :: vs, by rw [h1]; rfl, by simp [h2], .cons hT h3, .cons rv h4⟩
theorem c_dict {K : PySem.W.Frag} : C1n K (rDctC K) dictT := by
  intro H S ρ x a c Q hf ro e q
  unfold dictT at e
  split at e
  case h_2 => cases e
  obtain ⟨ps, e1, e⟩ := Option.bind_eq_some_iff.mp e
  split at e
  case isFalse => cases e
  rename_i hn
  cases e
  obtain ⟨a, xs, i, rfl, h, r, hi⟩ := ro.seqL
  rw [hi hf] at r
  obtain ⟨as, vs, rfl, hl, hp, hr⟩ := pairs_r r e1
  refine ⟨a, as, _, rfl, h, hp, fun p hp => ?_⟩
  have k : Kept H (upd H p (.dK ((ps.map fun p => (Sum.inl p.1 : Key)).zip vs))) := Kept.new hp
  have hm : mergeK [] ((ps.map fun p => (Sum.inl p.1 : Key)).zip vs) = (ps.map fun p => (Sum.inl p.1 : Key)).zip vs := by
    rw [mergeK_nodup _ [] ?_]
    · rfl
    · rw [List.nil_append]
      have : (((ps.map fun p => (Sum.inl p.1 : Key)).zip vs).map (·.1)) = ps.map fun p => (Sum.inl p.1 : Key) := by
        rw [List.map_fst_zip]
        simp [hl]
      rw [this]
      have h2 : (ps.map fun p => (Sum.inl p.1 : Key)) = (ps.map (·.1)).map Sum.inl := by simp
      rw [h2]
      exact hn.map Sum.inl fun a b h => fun z => h (Sum.inl.inj z)
  rw [hm]
  refine q _ _ (fun b => S b ∨ b = p) k (fun _ z => .inl z) (fun b z => z.imp id fun y => by rw [y]; exact hp) (Ev.new (S := S) (fp := []) hp).dom (fun b z => z.imp id fun y => ⟨_, upd_eq y, fun _ z => nomatch z⟩) (TbK.new hp) ?_
  exact .box ⟨by simp [hl], upd_same, .inr rfl⟩ (RoA.kept k (fun _ z => .inl z) hr)
section
variable {X : Cx} {W : WX} {Γ Γ1 Γ' : List Ow} {a b e : Expr} {pos : Pos}
theorem se_dct0 : SE X W true Γ (.Dict [] [] pos) (F0.pure (.box (.dct []) [])) .sh Γ := by
  refine pe_imp pe_dnewK fun σ H Q ⟨S, E, fp, r, G, er, q⟩ p hp => ?_
  have e' : r = .ok (.box (.dct []) []) E := (Option.some.inj er).symm
  subst e'
  have k : Kept H (upd H p (.dK [])) := Kept.new hp
  obtain ⟨G2, ev⟩ := G.wide (S' := fun b => S b ∨ b = p) k (fun _ z => .inl z) (fun b z => z.imp id fun y => by rw [y]; exact hp) (Ev.new (S := S) (fp := []) hp).dom (fun b z => z.imp id fun y => ⟨_, upd_eq y, fun _ z => nomatch z⟩) (TbK.new hp)
  exact q _ _ _ fp [] G2 (.box ⟨rfl, upd_same, .inr rfl⟩ .nil) G2.nd (fun a z => by simp at z) ev fun _ => ⟨rfl, k⟩
/-- what a dict holds at a whole number -/
def dixT : T → T → Option T
  | .box (.dct ks) ts, .int i => ((ks.zip ts).find? fun p => decide (p.1 = .inl i)).map (·.2)
  | _, _ => none
theorem RoA.find {K : PySem.W.Frag} {H : Hp} {S : Addr → Prop} {f : Key → Bool} : ∀ {ks : List Key} {vs : List V} {ts : List T} {x : T}, RoA K H S .sh vs ts → ((ks.zip ts).find? fun p => f p.1).map (·.2) = some x → ∃ v, ((ks.zip vs).find? fun p => f p.1).map (·.2) = some v ∧ Ro K H S .sh v x
  | [], _, _, _, _, e => by simp at e
  | _ :: _, _, _, _, .nil, e => by simp at e
  | k :: ks, _, _, x, .cons (t := t) (v := v) r rs, e => by
    simp only [List.zip_cons_cons, List.find?_cons] at e ⊢
    cases h : f k with
    | true =>
      rw [h] at e
      cases e
      exact ⟨_, rfl, r⟩
    | false =>
      rw [h] at e
      exact RoA.find rs e
theorem pl_dix {f1 f2 : P0} {ρ1 ρ2 : Ow} (hu : X.A.units + 64 < cLine) (h1 : PL X Γ a f1 ρ1) (h2 : PL X Γ b f2 ρ2) (hs : NoSl b := by intro _ _; rfl) : PL X Γ (.Subscript a b pos) (pp2 dixT f1 f2) .sh := by
  refine pe_imp (pe_dget (by omega) h1 h2 hs) fun σ H Q ⟨S, E, fp, c, G, er, q⟩ => ?_
  unfold pp2 at er
  obtain ⟨t, e1, er1⟩ := Option.bind_eq_some_iff.mp er
  clear er
  obtain ⟨u, e2, er⟩ := Option.bind_eq_some_iff.mp er1
  clear er1
  refine ⟨S, E, fp, t, G, e1, fun v fr R _ => ⟨S, E, fp, u, G, e2, fun w fs R2 _ => ?_⟩⟩
  unfold dixT at er
  split at er
  case h_2 => cases er
  rename_i ks ts i
  cases R2.ro.int_
  cases R.ro with
  | @box _ a _ vs _ hb rb =>
    obtain ⟨hl, hd, _⟩ := hb
    obtain ⟨v, e, r⟩ := RoA.find (f := fun k => decide (k = .inl i)) rb er
    exact ⟨a, v, rfl, .inl ⟨ks.zip vs, .inl i, .inl hd, rfl, e.symm⟩, q v [] r.rp fun a z => by simp at z⟩
end
end Tr

end
section
set_option maxHeartbeats 2000000
/-! TrX: reckoning with exceptions. -/
namespace Tr
open PySem PySem.Spec PyProof.Rows L2
theorem ftry_nx {ks cs : List Str} {i j : Nat} {b : S0} {E E1 : Env} (h : b E = some (.nx E1)) : ftry ks cs i j b E = some (.nx E1) := by
  unfold ftry
  rw [h]
theorem ftry_ex {ks cs : List Str} {i j : Nat} {b : S0} {E E1 : Env} {x : Ex} (h : b E = some (.ex x E1)) (hk : ks.contains x.cls = true) (hc : cs.contains x.cls = true) : ftry ks cs i j b E = some (.nx ((E1.set i none).set j (some (exT x)))) := by
  unfold ftry
  rw [h]
  simp only [hk, hc, if_true]
def Fl.tr (ks cs : List Str) (i j : Nat) (r : Option Fl) : Option Fl := match r with
  | some (.ex x E') => if ks.contains x.cls then (if cs.contains x.cls then some (.nx ((E'.set i none).set j (some (exT x)))) else some (.ex x E')) else none
  | r => r
theorem ev_ftry {ks cs : List Str} {i j : Nat} {b : S0} {E : Env} : ftry ks cs i j b E = Fl.tr ks cs i j (b E) := by
  unfold ftry Fl.tr
  rfl
theorem tr_nx {ks cs : List Str} {i j : Nat} {E : Env} : Fl.tr ks cs i j (some (.nx E)) = some (.nx E) := rfl
theorem tr_ex {ks cs : List Str} {i j : Nat} {x : Ex} {E : Env} (hk : ks.contains x.cls = true) (hc : cs.contains x.cls = true) : Fl.tr ks cs i j (some (.ex x E)) = some (.nx ((E.set i none).set j (some (exT x)))) := by
  show (if ks.contains x.cls = true then (if cs.contains x.cls = true then _ else _) else _) = _
  rw [if_pos hk, if_pos hc]
theorem lose_nil {E : Env} : lose [] E = E := rfl
theorem lose_cons {ms : List (Option Nat)} {E : Env} : lose (none :: ms) E = lose ms E := by
  unfold lose
  rw [hole_no]
theorem lose_so {ms : List (Option Nat)} {j : Nat} {E : Env} : lose (some j :: ms) E = E.set j none := rfl
theorem lose_no {ms : List (Option Nat)} {E : Env} (h : hole ms = none) : lose ms E = E := by
  unfold lose
  rw [h]
/-- a loop whose turns go on up to t, which raises or returns -/
theorem ffor_stop {g : T → Env → Option Env} {b : S0} {t : T} {us : List T} (I : Nat → Env → Prop) (R : Fl → Prop) (hR : ∀ r, R r → (∃ x E, r = .ex x E) ∨ ∃ u E, r = .rt u E) : ∀ {ts : List T} {k : Nat} {E : Env}, I k E →
    (∀ (j : Nat) (t : T) (E : Env), ts[j]? = some t → I (k + j) E → ∃ E1, g t E = some E1 ∧ ∃ E2, (b E1 = some (.nx E2) ∨ b E1 = some (.ct E2)) ∧ I (k + j + 1) E2) →
    (∀ E, I (k + ts.length) E → ∃ E1 r, g t E = some E1 ∧ b E1 = some r ∧ R r) → ∃ r, ffor g b (ts ++ t :: us) E = some r ∧ R r
  | [], k, E, h, _, last => by
    obtain ⟨E1, r, e1, e2, hr⟩ := last E h
    refine ⟨r, ?_, hr⟩
    rw [List.nil_append]
    unfold ffor
    simp only [e1, e2]
    rcases hR r hr with ⟨x, E, rfl⟩ | ⟨u, E, rfl⟩ <;> rfl
  | u :: ts, k, E, h, step, last => by
    obtain ⟨E1, e1, E2, e2, h2⟩ := step 0 u E rfl h
    obtain ⟨r, er, hr⟩ := ffor_stop I R hR (ts := ts) (k := k + 1) (us := us) h2 (fun j w E hj hI => by
      have := step (j + 1) w E (by simpa using hj) (by rw [show k + (j + 1) = k + 1 + j by omega]; exact hI)
      rw [show k + (j + 1) + 1 = k + 1 + j + 1 by omega] at this
      exact this) (fun E hI => last E (by rw [List.length_cons, show k + (ts.length + 1) = k + 1 + ts.length by omega]; exact hI))
    refine ⟨r, ?_, hr⟩
    rw [List.cons_append]
    conv => lhs; unfold ffor
    rw [e1]
    rcases e2 with e2 | e2 <;> simp only [e2] <;> exact er
theorem z_tuple {ts : List T} : tupleT (.lst ts) = some (.tup ts) := rfl
theorem z_fld {ks : List Str} {k f : Str} {t : T} (h : ks.contains k = true) : fldT ks f (exT ⟨k, some (f, t)⟩) = some t := by
  show (if ks.contains k && decide (f = f) then some t else none) = _
  rw [h, decide_eq_true rfl]
  rfl
theorem z_isx {ks cs : List Str} {k : Str} {o : Option (Str × T)} (h : ks.contains k = true) : isxT ks cs (exT ⟨k, o⟩) = some (.bl (cs.contains k)) := by
  cases o with
  | none =>
    show (if ks.contains k then some (T.bl (cs.contains k)) else none) = _
    rw [h]
    rfl
  | some p =>
    show (if ks.contains k then some (T.bl (cs.contains k)) else none) = _
    rw [h]
    rfl
theorem z_isNx {x : Ex} : (exT x).isN = false := by
  obtain ⟨c, o⟩ := x
  cases o <;> rfl
/-- things of plain kinds that are no whole numbers -/
def oddV : T → Bool
  | .non => true
  | .bl _ => true
  | .str _ => true
  | .lst _ => true
  | .tup _ => true
  | .box (.dct _) _ => true
  | _ => false
/-- things of plain kinds that are no lists -/
def notL : T → Bool
  | .non => true
  | .bl _ => true
  | .int _ => true
  | .str _ => true
  | .tup _ => true
  | .box (.dct _) _ => true
  | _ => false
theorem isl_no {t : T} (h : notL t = true) : isiT "list" t = some (.bl false) := by
  cases t with
  | box k ts => cases k <;> first | rfl | cases h
  | _ => first | rfl | cases h
theorem isl_yes {ts : List T} : isiT "list" (.lst ts) = some (.bl true) := rfl
/-! ### a text, so many times -/
def rMulStr : R2 := fun x y H Q => ∃ z n, x = .str z ∧ y = .int n ∧ MulOk z n ∧ Q (.str (Txt.mul z n)) H
theorem op_mul_str {X : Cx} : OpR X (binaryOp .Mult) rMulStr := by
  intro pins s σ H x y v u Q I rx ry h
  obtain ⟨z, n, rfl, rfl, hk, q⟩ := h
  obtain ⟨t, rfl⟩ := rx
  obtain ⟨t2, rfl⟩ := ry
  exact PySem.SB.mul hk fun t' k => ⟨.str _, H, I.tok _, ⟨_, rfl⟩, q⟩
theorem mulOk_of {z : Str} {n : Int} (h1 : 1 ≤ n) (h2 : n ≤ 1000) (h3 : z.length ≤ 1000) : MulOk z n := by
  have hp : z.length * n.toNat ≤ 1000 * 1000 := Nat.mul_le_mul h3 (by omega)
  refine ⟨?_, fun _ _ => ?_, fun _ _ => ?_⟩
  · have a : ¬ n < -(2 ^ 63 : Int) := by omega
    have b : ¬ n ≥ 2 ^ 63 := by omega
    simp only [a, b, decide_false, Bool.or_self]
  · have : (z.length : Int) ≤ (2 ^ 63 - 1) / n := Int.le_ediv_of_mul_le (by omega) (by
      have : ((z.length * n.toNat : Nat) : Int) ≤ 1000 * 1000 := by exact_mod_cast hp
      have e : ((z.length * n.toNat : Nat) : Int) = (z.length : Int) * n := by
        rw [Int.natCast_mul, Int.toNat_of_nonneg (by omega)]
      omega)
    omega
  · show Builtin.Str.tooLong (z.length * n.toNat) = false
    unfold Builtin.Str.tooLong
    simp only [decide_eq_false_iff_not]
    rw [sizeLine_eq]
    omega
def mulX : T → T → Option T
  | .str z, .int n => if 1 ≤ n ∧ n ≤ 1000 ∧ z.length ≤ 1000 then some (.str (Txt.mul z n)) else none
  | a, b => mulS a b
theorem b_mulX {X : Cx} : B2s X.K (fun x y H Q => rI CMul (fun i j => .int (i * j)) x y H Q ∨ rMulStr x y H Q) mulX := by
  intro H S ρ1 ρ2 x y a b c Q ra rb e q
  unfold mulX at e
  split at e
  · rename_i z n
    split at e
    · rename_i h
      cases e
      exact .inr ⟨z, n, ra.str_, rb.int_, mulOk_of h.1 h.2.1 h.2.2, q _ (.str _)⟩
    · cases e
  · exact .inl (b_mul (X := X) H S ρ1 ρ2 x y a b c Q ra rb e q)
end Tr

end
section
set_option maxHeartbeats 2000000
/-! TrY: a def called with a lambda without parameters. -/
namespace Tr
open PySem PySem.Spec PyProof.Rows L2
section
variable {X : Cx} {pins : List (Addr × Obj)} {σ : L2.St} {H : Hp} {s : Shared}
abbrev lamO (qual : Str) (ps : Arguments) (b : Expr) (sc : Scope) (cl : List (Str × Addr)) (pm : Value) (c : Addr) (ct : Value) : Obj := PySem.W.kla_obj "<lambda>" (qual ++ "<lambda>") ps b sc cl pm c ct
/-- the making of a lambda: what is told stays, its code object is known -/
theorem lam_make {c P : Addr} {ps : Arguments} {body : Expr} {scope : Scope} {pos : Pos} {ER QR : Value → Shared → Prop} (I : Inv X pins σ H s) (tb : LamX.TabB X.base X.mg c P) (code_ : X.env.code = .ref c) (tt : LamX.TabS H P (X.env.qual ++ "<lambda>"))
    (noDfl : defaultsOf ps X.env = ([], [])) (free_ : ∀ y ∈ scope.names, y.2 = .free → ∃ c, X.env.cells.lookup y.1 = some c)
    (k : ∀ (f cN : Addr) (pm ct : Value) (H1 : Hp) (s1 : Shared), Inv X pins σ H1 s1 → Kept H H1 → (∀ b, H1 b = none → H b = none) → (∀ P' q', (P' = P → q' = X.env.qual ++ "<lambda>") → LamX.TabS H P' q' → LamX.TabS H1 P' q') →
      s1.heap.get? f = some (lamO X.env.qual ps body scope (cloFrom X.env.cells scope.names []) pm cN ct) → H1 f = none → f ∉ frs X.stack → H1 cN = some (LamX.CodeO cN (X.env.qual ++ "<lambda>")) → QR (.ref f) s1) :
    wpAny (model X.prog X.w) X.A (eval (.Lambda ps body scope pos) X.env) QR ER s := by
  obtain ⟨tbl, atP, trip, all_⟩ := tt
  have bm : s.heap.BuiltinsAt X.mg P := tb.bm.keeps I.bk
  have gP : s.heap.get? P = some { cls := .none, data := .fields tbl } := I.hok P _ atP
  have far : ∀ f, s.heap.objs.size ≤ f → f ∉ frs X.stack := fun f big m => by
    rcases List.mem_cons.mp (I.stkSub _ m) with e | e
    · have lt := I.lt
      rw [← e] at lt
      exact Nat.lt_irrefl _ (Nat.lt_of_lt_of_le lt big)
    · exact I.nofs big e
  refine PySem.W.kla_eval noDfl ?_
  cases am : codeAmong pos tbl.toList with
  | some cv =>
    obtain ⟨cN, rfl, coN⟩ := all_ pos cv am
    refine PySem.W.kla_makeFunctionHit (mg := X.mg) (closure_ok free_) I.ok.glob (I.mod.glob.keeps I.bk) code_ (tb.code.keeps I.bk) gP trip am bm fun ct h1 tk kx sz => ?_
    exact k h1.objs.size cN _ ct H _ (I.kept fun b o e => Heap.get?_push_of_some _ (kx b o e)) (Kept.refl H) (fun _ z => z) (fun _ _ _ z => z) (Heap.get?_push_size _ rfl) (I.hok.fresh sz) (far _ sz) coN
  | none =>
    refine PySem.W.kla_makeFunction (mg := X.mg) (closure_ok free_) I.ok.glob (I.mod.glob.keeps I.bk) code_ (tb.code.keeps I.bk) gP trip am tb.gP bm fun cN ct h1 tk ext ge lt rec_ atP1 => ?_
    obtain ⟨c2, oc, vs, t, e2, g2, d2, v2⟩ := rec_
    cases e2
    have sz : s.heap.objs.size ≤ h1.objs.size := Nat.le_of_lt (Nat.lt_of_le_of_lt ge lt)
    have nN : H cN = none := I.hok.fresh ge
    have nPN : P ≠ cN := ne_of_none atP nN
    let O : Obj := lamO X.env.qual ps body scope (cloFrom X.env.cells scope.names []) ((X.mg "__name__").getD .none) cN ct
    have J := LamX.inv_table (q := X.env.qual ++ "<lambda>") (t' := tk) (more := #[rawInt pos.line, rawInt pos.col, .ref cN]) (h' := h1.push O) (c := cN) I atP
      (fun b o hb e => Heap.get?_push_of_some _ (ext b o hb e)) (Heap.get?_push_of_some _ atP1) ge ⟨oc, vs, t, Heap.get?_push_of_some _ g2, d2, v2⟩
    -- what is told now
    have same : ∀ b o, H b = some o → (∀ l, o ≠ .tbl l) → upd (upd H P (.tbl (tbl ++ #[rawInt pos.line, rawInt pos.col, .ref cN]))) cN (LamX.CodeO cN (X.env.qual ++ "<lambda>")) b = some o := fun b o e no => by
      rw [upd_ne (ne_of_none e nN), upd_ne (fun z => no tbl (by rw [z, atP] at e; exact (Option.some.inj e).symm))]
      exact e
    have toL : (tbl ++ #[rawInt pos.line, rawInt pos.col, .ref cN]).toList = tbl.toList ++ [rawInt pos.line, rawInt pos.col, .ref cN] := by simp
    refine k h1.objs.size cN _ ct _ _ J same (fun b z => ?_) (fun P' q' hq T => ?_) (Heap.get?_push_size _ rfl) ?_ (far _ sz) upd_same
    · by_cases h1 : b = cN
      · rw [h1, upd_same] at z
        cases z
      · rw [upd_ne h1] at z
        by_cases h2 : b = P
        · rw [h2, upd_same] at z
          cases z
        · rwa [upd_ne h2] at z
    · obtain ⟨l, a1, a2, a3⟩ := T
      by_cases hb : P' = P
      · subst hb
        rw [atP] at a1
        cases a1
        rw [hq rfl]
        refine ⟨_, by rw [upd_ne nPN, upd_same], by rw [toL]; exact PySem.TriplesOk_snoc _ _ _ _ trip, fun p' cv e => ?_⟩
        rw [toL] at e
        rcases LamX.among_app _ trip e with z | z
        · obtain ⟨c0, b1, b2⟩ := all_ p' cv z
          exact ⟨c0, b1, same _ _ b2 fun ps => LamX.codeO_ne ps⟩
        · exact ⟨cN, z, upd_same⟩
      · refine ⟨l, by rw [upd_ne (ne_of_none a1 nN), upd_ne hb]; exact a1, a2, fun p' cv e => ?_⟩
        obtain ⟨c0, b1, b2⟩ := a3 p' cv e
        exact ⟨c0, b1, same _ _ b2 fun ps => LamX.codeO_ne ps⟩
    · rw [upd_ne (Nat.ne_of_gt lt), upd_ne (Nat.ne_of_gt (Nat.lt_of_lt_of_le (Heap.lt_size gP) sz))]
      exact I.hok.fresh sz
end
/-! ### what is seen from a lambda -/
def caps : List Nat → Env → Option (List T)
  | [], _ => some []
  | i :: is, E => (vr i E).bind fun t => (caps is E).map (t :: ·)
def bld (n : Nat) : List Nat → List T → Env
  | i :: is, t :: ts => (bld n is ts).set i (some t)
  | _, _ => List.replicate n none
section
variable {K : PySem.W.Frag} {H H' : Hp} {S : Addr → Prop}
theorem sl_put1 : ∀ {n : Nat} {σ : L2.St} {E : Env} {i : Nat} {v : V} {t : T}, Sl K H S (List.replicate n .sh) σ E [] → σ[i]? = some (some v) → Rp K H S .sh v t [] → Sl K H S (List.replicate n .sh) σ (E.set i (some t)) []
  | 0, σ, E, i, v, t, s, h, _ => by
    cases s
    simp at h
  | n + 1, σ, E, i, v, t, s, h, r => by
    rw [List.replicate_succ] at s ⊢
    generalize hf : ([] : List Addr) = f0 at s
    cases s with
    | no s =>
      subst hf
      cases i with
      | zero =>
        simp at h
        subst h
        exact .on (f := []) r s
      | succ i => exact .no (sl_put1 s (by simpa using h) r)
    | on r1 s =>
      have z := r1.sh_nil
      subst z
      have hf' := hf.symm
      rw [List.nil_append] at hf'
      subst hf'
      cases i with
      | zero =>
        simp at h
        subst h
        exact .on (f := []) r s
      | succ i => exact .on (f := []) r1 (sl_put1 s (by simpa using h) r)
theorem sl_none : ∀ {n : Nat} {σ : L2.St}, σ.length = n → Sl K H S (List.replicate n .sh) σ (List.replicate n none) []
  | 0, [], _ => .nil
  | n + 1, v :: σ, h => .no (sl_none (by simpa using h))
/-- the values of the slots is -/
def At (σ : L2.St) : List Nat → List V → Prop
  | [], [] => True
  | i :: is, v :: vs => σ[i]? = some (some v) ∧ At σ is vs
  | _, _ => False
theorem sl_bld {n : Nat} {σ : L2.St} (hn : σ.length = n) : ∀ {is : List Nat} {ws : List V} {ts : List T}, At σ is ws → RpA K H S .sh ws ts [] → Sl K H S (List.replicate n .sh) σ (bld n is ts) []
  | [], [], ts, _, _ => by
    cases ts <;> exact sl_none hn
  | i :: is, v :: ws, [], h, r => by cases r
  | i :: is, v :: ws, t :: ts, h, r => by
    generalize hf : ([] : List Addr) = f0 at r
    cases r with
    | cons r rs =>
      have z := r.sh_nil
      subst z
      have z := rs.sh_nil
      subst z
      exact sl_put1 (sl_bld hn h.2 rs) h.1 r
theorem caps_at {Γ : List Ow} {σ : L2.St} {E : Env} {fp : List Addr} (G : Good K H S Γ σ E fp) : ∀ {is : List Nat} {ts : List T}, (∀ i ∈ is, Γ[i]? = some .sh) → caps is E = some ts → ∃ ws, At σ is ws ∧ RpA K H S .sh ws ts []
  | [], ts, _, e => by
    cases e
    exact ⟨[], trivial, .nil⟩
  | i :: is, ts, h, e => by
    obtain ⟨t, e1, e⟩ := Option.bind_eq_some_iff.mp (show (vr i E).bind _ = some ts from e)
    obtain ⟨us, e2, rfl⟩ := Option.map_eq_some_iff.mp e
    obtain ⟨ws, a, r⟩ := caps_at G (fun j hj => h j (by simp [hj])) e2
    obtain ⟨v, f, h1, h2, _⟩ := G.at_ (vr_some e1) (h i (by simp))
    have z := h2.sh_nil
    subst z
    exact ⟨v :: ws, ⟨h1, a⟩, RpA.cons (f := []) (fs := []) h2 r⟩
end
def outR : Option (Out T) → Option Rs
  | some (.ok t _) => some (.ok t [])
  | some (.ex x _) => some (.ex x)
  | none => none
/-- what a lambda computes from what it sees -/
def lamF (n : Nat) (is : List Nat) (lb : F0 T) (ts : List T) : Option Rs := outR (lb (bld n is ts))
open Classical in
/-- the call of the lambda that slot i holds -/
noncomputable def fask (i : Nat) (f c : Addr) (q : Str) (ws : List V) (F : List T → Option Rs) : F0 T := fun E => match E[i]? with
  | some (some (.box (.clo f1 c1 q1 ws1) ts)) => if f1 = f ∧ c1 = c ∧ q1 = q ∧ ws1 = ws then fcall [] (fun _ => F ts) [] E else none
  | _ => none
/-- the lambda f may be called -/
def ActOk (X : Cx) (f c : Addr) (q : Str) (ws : List V) (F : List T → Option Rs) : Prop :=
  ∀ (W : WX) (pn : List (Addr × Obj)) (xe : Value → Shared → Prop) (Γ : List Ow) (i : Nat) (a : Str) (p1 p2 : Pos), Takes (X.tr pn xe) W → X.N[i]? = some a → Γ[i]? = some .sh → Vis X.env.scope a → (a == ("__debug__" : Str)) = false → (a == ("__classdict__" : Str)) = false →
    SE (X.tr pn xe) W false Γ (.Call (.Name a p1) [] [] p2) (fask i f c q ws F) .sh Γ
end Tr

end
section
set_option maxHeartbeats 2000000
/-! TrZ: x(lambda: body). -/
namespace Tr
open PySem PySem.Spec PyProof.Rows L2
/-- the lambda that a def was handed may be called in it -/
theorem act_ok {X0 : Cx} {pins0 : List (Addr × Obj)} {σ0 : L2.St} {H0 : Hp} {s0 : Shared} {f cN g : Addr} {ws : List V} {ps : Arguments} {body : Expr} {scope sg : Scope} {pm ct cdg : Value} {n k : Nat} {is : List Nat} {lb : F0 T} {pb : Bool} {ρ : Ow} {Γl' : List Ow} {Ng : List Str} {qg : Str} {E : XK}
    (I0 : Inv X0 pins0 σ0 H0 s0) (L : LamX.LamS X0.env.scope scope) (atF : s0.heap.get? f = some (lamO X0.env.qual ps body scope (cloFrom X0.env.cells scope.names []) pm cN ct)) (fno : H0 f = none) (ffr : f ∉ frs X0.stack)
    (bnd : bindArgs (PySem.W.kla_fn "<lambda>" (X0.env.qual ++ "<lambda>") ps body scope (cloFrom X0.env.cells scope.names []) pm (.ref cN) ct) ⟨[], []⟩ = pure []) (hn : σ0.length = n) (hw : At σ0 is ws)
    (hg : (X0.A.deeper (envOfC qg sg s0.heap.objs.size g cdg)).guards = some []) (room : Room (k + 1) (X0.A.deeper (envOfC qg sg s0.heap.objs.size g cdg)))
    (hb : ∀ (A : Around) (outer : List PySem.Env) (s : Shared) (H : Hp) (E : XK), (A.deeper (LamX.lamEnv X0 scope s.heap.objs.size f cN)).guards = some [] → Room k (A.deeper (LamX.lamEnv X0 scope s.heap.objs.size f cN)) →
      SE (LamX.lamCx X0 A outer s H E scope f cN) (fun cls d _ H' => E cls d H') pb (List.replicate n .sh) body lb ρ Γl') :
    ActOk (cxOf (L2.CX X0.prog X0.w) X0.prog X0.w X0.K X0.mg X0.base Ng qg sg g cdg X0.A X0.stack s0 H0 E) f cN (X0.env.qual ++ "<lambda>") ws (lamF n is lb) := by
  intro W pn xe Γ i a p1 p2 tk hN hΓ hv hd hcd
  refine ⟨fun pinsZ sZ σZ HZ Q IZ h => ?_⟩
  obtain ⟨S, E1, fp, r, G, er, q⟩ := h
  unfold fask at er
  split at er
  case h_2 => cases er
  rename_i f1 c1 q1 ws1 ts hslot
  split at er
  case isFalse => cases er
  rename_i hc
  obtain ⟨e1, e2, e3, e4⟩ := hc
  rw [e1, e2, e3, e4] at hslot
  obtain ⟨v, f0, hσ, R, _⟩ := G.at_ hslot hΓ
  have kn : v = .ref f ∧ HZ cN = some (LamX.CodeO cN (X0.env.qual ++ "<lambda>")) ∧ RpA X0.K HZ S .sh ws ts [] := by
    cases R with
    | @box _ b _ vs _ hbx rp =>
      obtain ⟨⟨h1, h2⟩, h3⟩ := hbx
      exact ⟨by rw [h1], h3, by rw [← h2]; exact rp⟩
  obtain ⟨ev, hcode, rp⟩ := kn
  subst ev
  refine wpAny_Call_Name_kw (thn ((pe_var (X := (cxOf (L2.CX X0.prog X0.w) X0.prog X0.w X0.K X0.mg X0.base Ng qg sg g cdg X0.A X0.stack s0 H0 E).tr pn xe) (pos := p1) (i := i) hN hv hd hcd).run pinsZ sZ σZ HZ (fun v H1 => v = .ref f ∧ H1 = HZ) IZ ⟨.ref f, hσ, rfl, rfl⟩) fun u s1 hh => ?_)
  obtain ⟨v, H1, I1, r1, ev, eH⟩ := hh
  subst ev
  rw [eH] at I1
  cases (show u = Value.ref f from r1)
  have of1 : s1.heap.get? f = some (lamO X0.env.qual ps body scope (cloFrom X0.env.cells scope.names []) pm cN ct) := I1.base.keep f _ atF fno ffr (fun z => nomatch (show f ∈ ([] : List Addr) from z))
  refine PySem.W.callWith_F0 ⟨_, _, _, _, of1⟩ ?_
  have un : Un (frs X0.stack) [] H0 HZ s0.heap s1.heap := I1.base
  obtain ⟨⟨oc, vs, t, hoc, hdc, hvc⟩, _, _⟩ := (show ObjOk X0.prog X0.w HZ s1.heap cN (LamX.CodeO cN (X0.env.qual ++ "<lambda>")) from I1.hok cN _ hcode)
  have slB := sl_bld hn hw rp
  have G0 : Good X0.K HZ S (List.replicate n .sh) σ0 (bld n is ts) [] := ⟨slB, .nil, fun a z => by simp at z, G.sT⟩
  -- what the lambda gives goes on
  have fin : tS (V' := V) X0.K (fun cls d _ H' => W cls d σZ H') pb (List.replicate n .sh) lb ρ Γl' σ0 HZ Q := by
    unfold fcall lamF at er
    cases el : lb (bld n is ts) with
    | none =>
      rw [el] at er
      cases er
    | some r' =>
      rw [el] at er
      refine ⟨S, bld n is ts, [], r', G0, el, ?_⟩
      cases r' with
      | ok t E' =>
        have e' : r = .ok t E1 := (Option.some.inj er).symm
        subst e'
        intro v H' S' fp' fr G' R' nd' nS' ev' _
        obtain ⟨G2, ev2⟩ := G.wide (S' := fun a => S' a ∨ a ∈ fr ++ fp') ev'.kept (fun a z => .inl (ev'.mono a z)) (fun a z => z.elim (fun y => (ev'.shr a y).imp id fun w => w.elim (fun u => by simp at u) id) fun y => (ev'.own a y).elim (fun u => by simp at u) .inr) ev'.dom
          (fun a z => .inr (z.elim (G'.sT.1 a) fun y => by
            rcases List.mem_append.mp y with y | y
            · obtain ⟨xs, e⟩ := Rp.isl R' a y
              exact ⟨_, e, fun ps z => nomatch z⟩
            · obtain ⟨xs, e⟩ := G'.isl a y
              exact ⟨_, e, fun ps z => nomatch z⟩)) fun _ => G'.sT.2
        exact q v H' _ fp [] G2 (R'.weak (fun _ h => .inl h) fun a z => .inr (by simp [z])) G2.nd (fun a z => by simp at z) ev2 (fun z => by cases z)
      | ex x E' =>
        have e' : r = .ex x E1 := (Option.some.inj er).symm
        subst e'
        intro cls d H' S' fp' G' xa ev'
        obtain ⟨G2, ev2⟩ := G.wide (S' := S') ev'.kept ev'.mono (fun a z => (ev'.shr a z).imp id fun w => w.elim (fun u => by simp at u) id) ev'.dom (fun a z => .inr (G'.sT.1 a z)) fun _ => G'.sT.2
        obtain ⟨S3, fp3, G3, ev3, _, _⟩ := G2.weak (leq_all Γ)
        exact q cls d H' S3 fp3 G3 (xa.grow ev3.mono) (ev2.trans ev3)
  have rc : codeAny (model X0.prog X0.w) (X0.A.deeper (envOfC qg sg s0.heap.objs.size g cdg)) (.call (.ref f) ⟨[], []⟩) (CR (L2.CX X0.prog X0.w) (envOfC qg sg s0.heap.objs.size g cdg :: X0.stack) X0.prog X0.w HZ s1 Q fun cls d H' => W cls d σZ H') s1 := by
    refine PySem.W.kla_callFunE room.depth of1 rfl L.co L.gen rfl ⟨cN, oc, vs, t, rfl, hoc, hdc, hvc⟩ ?_
    rw [bnd]
    refine wpAny_pure (wpAny_newFunctionEnv (fun y hy => (L.own y hy).2) (fun y z => absurd z (by simp)) (fun h1 ns1 big => ⟨I1.nolimit.fresh _ big, ?_⟩) L.kind)
    have kp : ∀ b o, s1.heap.get? b = some o → h1.get? b = some o := fun b o e => big.extBut b o (Nat.ne_of_lt (Heap.lt_size e)) (Heap.get?_push_of_some _ e)
    have J := LamX.lam_start2 (E := fun cls d H' => W cls d σZ H') (f := f) (c' := cN) (tk := s1.toks + ([] : List (Str × Value)).length) I0 L I1.env0 room.hd un ns1 kp
    have run := (hb (X0.A.deeper (envOfC qg sg s0.heap.objs.size g cdg)) (envOfC qg sg s0.heap.objs.size g cdg :: X0.stack) s1 HZ (fun cls d H' => W cls d σZ H') (guards_deeper.trans hg) (room.deeper _)).run [] _ σ0 HZ Q J fin
    refine PySem.W.kla_codeExpr (wpAny_mono run (fun v s' hq => ?_) fun e s' hq => hq)
    obtain ⟨u, H', J', rv, qq⟩ := hq
    exact ⟨u, H', J'.os, J'.bare, J'.base, J'.hok, rv, qq⟩
  refine wpAny_call (codeAny_mono rc fun r s' hq => ?_)
  match r, hq with
  | .error e, hq => exact tk e s' (XE.of_call I1 (fun _ _ _ z => z) hq)
  | .ok (.ret u), hq => exact I1.after hq
  | .ok .next, hq => exact False.elim hq
  | .ok .brk, hq => exact False.elim hq
  | .ok .cont, hq => exact False.elim hq
/-- a def that gets a lambda: its body, wherever it may call it -/
def GvOk (P : Program) (w : World) (K : PySem.W.Frag) (mg : Str → Option Value) (base : Heap) (k : Nat) (g : Addr) (N : List Str) (qual : Str) (scope : Scope) (body : List Stmt) (C : Cf) (Γ' : List Ow) (q : Str) (F : List T → Option Rs) (sk : Addr → Addr → List V → (List T → Option Rs) → S0) : Prop :=
  ∀ (cdv : Value) (A : Around) (outer : List PySem.Env) (s : Shared) (H : Hp) (E : XK) (f c : Addr) (ws : List V), (A.deeper (envOfC qual scope s.heap.objs.size g cdv)).guards = some [] → Room k (A.deeper (envOfC qual scope s.heap.objs.size g cdv)) →
    ActOk (cxOf (L2.CX P w) P w K mg base N qual scope g cdv A outer s H E) f c q ws F → SSs (cxOf (L2.CX P w) P w K mg base N qual scope g cdv A outer s H E) (fun cls d _ H' => E cls d H') C (List.replicate N.length .sh) body (sk f c ws F) Γ'
theorem lam_at {K : PySem.W.Frag} {f : Addr} {qual : Str} {cdv : Value} (h : lamB K f qual = true) (lk : CodeOf K f cdv) : ∃ c P, cdv = .ref c ∧ (c, P, qual ++ ".<locals>." ++ "<lambda>") ∈ codesK K := by
  obtain ⟨oc, od, fd, osl, e, rfl⟩ := lk
  unfold lamB at h
  rw [e] at h
  simp only at h
  split at h
  case h_2 => cases h
  rename_i c hc
  obtain ⟨⟨c1, P, q⟩, hm, hp⟩ := List.any_eq_true.mp h
  simp only [Bool.and_eq_true, beq_iff_eq, decide_eq_true_eq] at hp
  obtain ⟨rfl, rfl⟩ := hp
  exact ⟨c1, P, hc, hm⟩
theorem ev_fask0 {f c : Addr} {q : Str} {ws : List V} {F : List T → Option Rs} {ts : List T} {E : Env} : fask 0 f c q ws F (some (.box (.clo f c q ws) ts) :: E) = fcall [] (fun _ => F ts) [] (some (.box (.clo f c q ws) ts) :: E) := by
  unfold fask
  show (if f = f ∧ c = c ∧ q = q ∧ ws = ws then _ else _) = _
  rw [if_pos ⟨rfl, rfl, rfl, rfl⟩]
/-- what the callee answers, whatever the lambda's addresses -/
def Ans (N : Nat) (q : Str) (sk : Addr → Addr → List V → (List T → Option Rs) → S0) (F : List T → Option Rs) (ts : List T) (t : T) : Prop := ∀ f c ws, ∃ ts', runF [.sh] N (sk f c ws F) [.box (.clo f c q ws) ts] = some (.ok t ts')
open Classical in
/-- x(lambda: body) -/
noncomputable def flam (N : Nat) (q : Str) (sk : Addr → Addr → List V → (List T → Option Rs) → S0) (n : Nat) (is : List Nat) (lb : F0 T) : F0 T := fun E => (caps is E).bind fun ts =>
  if h : ∃ t, Ans N q sk (lamF n is lb) ts t then some (.ok h.choose E) else none
theorem ans_one {N : Nat} {q : Str} {sk : Addr → Addr → List V → (List T → Option Rs) → S0} {F : List T → Option Rs} {ts : List T} {t u : T} (h : Ans N q sk F ts t) (k : Ans N q sk F ts u) : t = u := by
  obtain ⟨_, e1⟩ := h 0 0 []
  obtain ⟨_, e2⟩ := k 0 0 []
  rw [e1] at e2
  cases e2
  rfl
theorem ev_flam {N : Nat} {q : Str} {sk : Addr → Addr → List V → (List T → Option Rs) → S0} {n : Nat} {is : List Nat} {lb : F0 T} {E : Env} {ts : List T} {t : T} (hc : caps is E = some ts) (h : Ans N q sk (lamF n is lb) ts t) : flam N q sk n is lb E = some (.ok t E) := by
  unfold flam
  rw [hc, Option.bind_some]
  have hx : ∃ t, Ans N q sk (lamF n is lb) ts t := ⟨t, h⟩
  rw [dif_pos hx, ans_one hx.choose_spec h]
theorem se_lam {X : Cx} {W : WX} {Γ : List Ow} {x a qual : Str} {g c P : Addr} {pg ps : Arguments} {bg : List Stmt} {sg scope : Scope} {fd : FuncData} {Ng : List Str} {k : Nat} {C : Cf} {Γg' Γl' : List Ow} {sk : Addr → Addr → List V → (List T → Option Rs) → S0} {body : Expr} {is : List Nat} {lb : F0 T} {pb : Bool} {ρ : Ow} {p lpos pos : Pos}
    (hgl : Gl X x) (hm : X.mg x = some (.ref g)) (F : FunD X.K x qual pg bg sg [] [] g fd) (bd : Binds X.K fd [a] []) (Sg : FnScope Ng [a] sg)
    (gv : GvOk X.prog X.w X.K X.mg X.base (k + 1) g Ng qual sg bg C Γg' (X.env.qual ++ "<lambda>") (lamF X.N.length is lb) sk) (hC : C.ρr = .sh) (hr : C.Γr = List.replicate Ng.length .sh) (hN : Ng.length = 1 + (Ng.length - 1)) (hl : leq Γg' C.Γr = true)
    (tb : TbB X.K X.mg X.base) (un : TabU X.K) (code_ : X.env.code = .ref c) (hm2 : (c, P, X.env.qual ++ "<lambda>") ∈ codesK X.K) (tk : Takes X W) (hg : X.A.guards = some []) (room : Room (k + 2) X.A) (L : LamX.LamS X.env.scope scope) (noDfl : defaultsOf ps X.env = ([], []))
    (bnd : ∀ (q : Str) (cl : List (Str × Addr)) (pm cv ct : Value), bindArgs (PySem.W.kla_fn "<lambda>" q ps body scope cl pm cv ct) ⟨[], []⟩ = pure []) (hΓ : ∀ i ∈ is, Γ[i]? = some .sh)
    (hb : ∀ (A : Around) (outer : List PySem.Env) (s : Shared) (H : Hp) (E : XK) (f cN : Addr), (A.deeper (LamX.lamEnv X scope s.heap.objs.size f cN)).guards = some [] → Room k (A.deeper (LamX.lamEnv X scope s.heap.objs.size f cN)) →
      SE (LamX.lamCx X A outer s H E scope f cN) (fun cls d _ H' => E cls d H') pb (List.replicate X.N.length .sh) body lb ρ Γl') (hdb : (x == ("__debug__" : Str)) = false := by decide) :
    SE X W false Γ (.Call (.Name x p) [.Lambda ps body scope lpos] [] pos) (flam Ng.length (X.env.qual ++ "<lambda>") sk X.N.length is lb) .sh Γ := by
  refine ⟨fun pins s σ H Q I h => ?_⟩
  obtain ⟨S, E, fp, r, G, er, q⟩ := h
  obtain ⟨ts, ec, er⟩ := Option.bind_eq_some_iff.mp (show (caps is E).bind _ = some r from er)
  split at er
  case isFalse => cases er
  rename_i hx
  have ans := hx.choose_spec
  have e' : r = .ok hx.choose E := (Option.some.inj er).symm
  subst e'
  obtain ⟨oc, od, dV, kV, doc, pm, an, cdv, ct, osl, rfl, lk, hcd, _, _⟩ := F.ex
  refine wpAny_Call_Name_kw (ld_glob I hgl hm ?_ hdb)
  refine PySem.W.callWith_K (h₀ := X.base) I.ok.mod.kin F.kp ?_ (by rfl) (by rfl)
  show wpAny _ _ (spliced ((false, eval (.Lambda ps body scope lpos) X.env) :: backTo pos (starEach [] X.env))) _ _ s
  refine Calls.spliced_cons (lam_make I (tb _ hm2) code_ (G.sT.2 _ hm2) noDfl (L.has I.ok) fun f cN pmF ctF H1 s1 I1 kept dom tabs atF fno ffr coN => ?_)
  refine Calls.spliced_nil ⟨I1.kIn, ?_⟩
  have tb1 : TbK X.K H1 := fun p hp => tabs _ _ (fun e => un p hp _ hm2 e) (G.sT.2 p hp)
  have G1 := G.along kept fun _ => tb1
  obtain ⟨ws, atW, rp⟩ := caps_at G1 hΓ ec
  have ev1 : Ev H S fp H1 S fp := ⟨fun a o e _ t => kept a o e t, dom, fun _ h => h, fun _ h => .inl h, fun _ h => .inl h⟩
  obtain ⟨ts', eR⟩ := ans f cN ws
  have fc : fcall [none] (runF [.sh] Ng.length (sk f cN ws (lamF X.N.length is lb))) [.box (.clo f cN (X.env.qual ++ "<lambda>") ws) ts] E = some (.ok hx.choose E) := by
    unfold fcall
    simp only [Tr.fill, eR, Tr.put, Tr.hole, Option.map_some]
  have sp : spG X.K [.sh] C.ρr (runF [.sh] Ng.length (sk f cN ws (lamF X.N.length is lb))) [.ref f] H1 Q fun cls d H' => W cls d σ H' := by
    rw [hC]
    have box : Rp X.K H1 S .sh (.ref f) (.box (.clo f cN (X.env.qual ++ "<lambda>") ws) ts) [] := .box (k := .clo f cN (X.env.qual ++ "<lambda>") ws) ⟨⟨rfl, rfl⟩, coN⟩ rp
    exact call_fin (ms := [none]) (p := false) (Γ0 := Γ) (E0 := E) G1 (.sh box .nil) rfl (fun j z => by cases z) ev1 (fun z => by cases z) fc rfl q
  have rc : codeAny (model X.prog X.w) X.A (.call (.ref g) ⟨[.ref f], []⟩) (CR (L2.CX X.prog X.w) X.stack X.prog X.w H1 s1 Q fun cls d H' => W cls d σ H') s1 := by
    refine LamX.run_ofS (N := Ng) (ps := [a]) (us := [.ref f]) (vs := [.ref f]) lk hcd Sg (room : Room (k + 1 + 1) X.A) I1.env0 (bd s1 [.ref f] I1.kIn rfl) (.cons rfl .nil) rfl fun room1 => ?_
    have act := act_ok (E := fun cls d H' => W cls d σ H') (Ng := Ng) (lb := lb) (is := is) (pb := pb) I1 L atF fno ffr (bnd _ _ _ _ _) I1.len atW (guards_deeper.trans hg) room1 fun A outer s H E => hb A outer s H E f cN
    have der := gv cdv X.A X.stack s1 H1 (fun cls d H' => W cls d σ H') f cN ws (guards_deeper.trans hg) room1 act
    have rl : List.replicate Ng.length Ow.sh = [Ow.sh] ++ List.replicate (Ng.length - [Ow.sh].length) Ow.sh := by
      cases Ng with
      | nil => simp at hN
      | cons y l => simp [List.replicate_succ]
    rw [rl] at der hr
    refine ⟨_, der, sss_start (Γp := [.sh]) hr (fun i ι z => ?_) hl sp⟩
    cases i with
    | zero => cases z
    | succ i => simp at z
  refine wpAny_call (codeAny_mono rc fun r s' hq => ?_)
  match r, hq with
  | .error e, hq => exact tk e s' (XE.of_call I1 (fun _ _ _ z => z) hq)
  | .ok (.ret u), hq => exact I1.after hq
  | .ok .next, hq => exact False.elim hq
  | .ok .brk, hq => exact False.elim hq
  | .ok .cont, hq => exact False.elim hq
end Tr

end
section
set_option maxHeartbeats 2000000
/-! TrAa: sum of lists, shown displays of owned things. -/
namespace Tr
open PySem PySem.Spec PyProof.Rows L2
theorem args_sum2 (a b : Value) : argsOk "sum" ⟨[a, b], []⟩ := by unfold argsOk; kernel_rfl
theorem sub_list_str : isSubtype (.type "list") (.type "str") = pure false := by rw [isSubtype_type]; kernel_rfl
theorem sub_list_bytes : isSubtype (.type "list") (.type "bytes") = pure false := by rw [isSubtype_type]; kernel_rfl
theorem sub_list_bytearray : isSubtype (.type "list") (.type "bytearray") = pure false := by rw [isSubtype_type]; kernel_rfl
/-- a plain list object -/
def LObj (h : Heap) (a : Addr) (vs : List Value) : Prop := ∃ n, h.get? a = some { cls := .type "list", data := .seq vs.toArray n }
theorem LObj.isList {h : Heap} {a : Addr} {vs : List Value} (x : LObj h a vs) : h.IsList a vs.toArray := by
  obtain ⟨n, e⟩ := x
  exact ⟨_, e, rfl, n, rfl⟩
/-- lists of items, one behind the other -/
inductive LObjs (h : Heap) : List Addr → List (List Value) → Prop
  | nil : LObjs h [] []
  | cons {a : Addr} {as : List Addr} {x : List Value} {xs : List (List Value)} : LObj h a x → LObjs h as xs → LObjs h (a :: as) (x :: xs)
section
variable {prog : Program} {w : World} {A : Around} {E : Value → Shared → Prop} {R : Result → Shared → Prop}
theorem ne_lt {a b n : Nat} (h : a < n) (k : n ≤ b) : a ≠ b := Nat.ne_of_lt (Nat.lt_of_lt_of_le h k)
def KeptH (h h' : Heap) : Prop := ∀ b o, h.get? b = some o → h'.get? b = some o
theorem sumL_loop (hh : A.in1.handled = none) {h0 : Heap} {l I S : Addr} {items : List Value} (hI : h0.objs.size ≤ I) (hS : h0.objs.size ≤ S) (hIS : I ≠ S) (hl : l < h0.objs.size) :
    ∀ (las : List Addr) (xss : List (List Value)) (i : Nat) (s : Shared) (total : Addr) (acc : List Value) (c : Nat), items.drop i = las.map Value.ref → LObjs h0 las xss → s.heap.IsListIter I l i → s.heap.IsList l items.toArray → KeptH h0 s.heap →
    s.heap.get? S = some { cls := .type "list", dict := none, data := .seq #[.ref total] c, slots := #[] } → LObj s.heap total acc → (acc ++ xss.flatten).length ≤ sizeLine →
    (∀ h' p tk, KeptH h0 h' → LObj h' p (acc ++ xss.flatten) → (las ≠ [] → h0.objs.size ≤ p) → (las = [] → p = total) → R (.ok (.ret (.ref p))) { s with heap := h', toks := tk }) → codeAny (model prog w) A (.builtin "sum.loop" ⟨[.ref I, .ref S, rawInt 2, rawInt 0], []⟩) R s := by
  intro las
  induction las with
  | nil =>
    intro xss i s total acc c hd hf hit hil hk hst hto hz hR
    cases hf
    have hin : items.length ≤ i := by simpa using hd
    refine codeAny_builtin F.entry_sum_loop ?_
    rw [Around.under_plainId F.plain_sum_loop _]
    show wpAny _ A.in1 (seqItems? (.ref S) >>= _) _ _ s
    refine wpAny_bind (wpAny_seqItems hst rfl ?_)
    show wpAny _ A.in1 (tryCatch (pyNext (.ref I)) _ >>= _) _ _ s
    refine wpAny_bind (wpAny_tryCatch (wpAny_pyNext_list_end hh hit hil (by simp [hin]) fun h' he => ?_))
    refine wpAny_pure (hR h' total s.toks (fun b o e => ?_) ?_ (fun z => absurd rfl z) fun _ => rfl)
    · exact he b o (ne_lt (Heap.lt_size e) hI) (hk b o e)
    · obtain ⟨n, e⟩ := hto
      by_cases q : total = I
      · obtain ⟨o, ho, hc, _⟩ := hit
        rw [← q, e] at ho
        cases ho
        exact absurd (Value.type.inj hc) (by decide)
      · simpa using ⟨n, he total _ q e⟩
  | cons a las ih =>
    intro xss i s total acc c hd hf hit hil hk hst hto hz hR
    cases hf with
    | cons ha hf =>
    rename_i x xs
    have hx : items.toArray[i]? = some (.ref a) := by
      have := congrArg (fun z => z[0]?) hd
      simpa using this
    have hd' : items.drop (i + 1) = las.map Value.ref := by
      have := congrArg List.tail hd
      simpa using this
    refine codeAny_builtin F.entry_sum_loop ?_
    rw [Around.under_plainId F.plain_sum_loop _]
    show wpAny _ A.in1 (seqItems? (.ref S) >>= _) _ _ s
    refine wpAny_bind (wpAny_seqItems hst rfl ?_)
    show wpAny _ A.in1 (tryCatch (pyNext (.ref I)) _ >>= _) _ _ s
    refine wpAny_bind (wpAny_tryCatch (wpAny_pyNext_list_item hit hil hx fun h' hit' hs => ?_))
    have hx1 : ∀ b o, b ≠ I → s.heap.get? b = some o → h'.get? b = some o := fun b o n e => hs.extBut b o n e
    have k1 : KeptH h0 h' := fun b o e => hx1 b o (ne_lt (Heap.lt_size e) hI) (hk b o e)
    have hS' := hx1 S _ (Ne.symm hIS) hst
    obtain ⟨n1, e1⟩ := hto
    have ntI : total ≠ I := fun q => by
      obtain ⟨o, ho, hc, _⟩ := hit
      rw [← q, e1] at ho
      cases ho
      exact absurd (Value.type.inj hc) (by decide)
    have e1' := hx1 total _ ntI e1
    obtain ⟨n2, e2⟩ := ha
    have e2' := k1 a _ e2
    have hlen : acc.length + x.length ≤ sizeLine := by simp at hz; omega
    show wpAny _ A.in1 ((holding [Value.ref a] (binaryOp .Add (.ref total) (.ref a))).attempt >>= _) _ _ _
    refine wpAny_bind (wpAny_attempt (wpAny_holding (PySem.P.add_list e1' e2' ?_ (by simpa using hlen))))
    have ea : acc.toArray ++ x.toArray = (acc ++ x).toArray := by simp
    rw [ea]
    have lS := Heap.lt_size hS'
    have hS2 : (h'.push { cls := .type "list", data := .seq (acc ++ x).toArray }).get? S = some { cls := .type "list", dict := none, data := .seq #[.ref total] c, slots := #[] } := Heap.get?_push_of_some _ hS'
    show wpAny _ A.in1 (updateSeq S (fun _ => #[Value.ref h'.objs.size]) >>= _) _ _ _
    refine wpAny_bind (wpAny_updateSeq hS2 rfl ?_)
    have hS3 := Heap.get?_update_self (Obj.mapSeq fun _ => #[Value.ref h'.objs.size]) hS2 rfl
    refine wpAny_bind (wpAny_letGo ?_)
    refine wpAny_bind (wpAny_updateSeq hS3 rfl ?_)
    have hS4 := Heap.get?_update_self (Obj.mapSeq fun _ => #[Value.ref h'.objs.size]) hS3 rfl
    have up : ∀ b o, b ≠ S → (h'.push { cls := .type "list", data := .seq (acc ++ x).toArray }).get? b = some o → (((h'.push { cls := .type "list", data := .seq (acc ++ x).toArray }).update S (Obj.mapSeq fun _ => #[Value.ref h'.objs.size])).update S (Obj.mapSeq fun _ => #[Value.ref h'.objs.size])).get? b = some o := fun b o n e => by
      exact (Heap.get?_update_other _ _ (Ne.symm n)).trans ((Heap.get?_update_other _ _ (Ne.symm n)).trans e)
    refine wpAny_pure ⟨plainId_quiet F.plain_sum_loop _, ih xs (i + 1) _ h'.objs.size (acc ++ x) _ hd' hf ?_ ?_ ?_ hS4 ?_ (by simpa [List.append_assoc] using hz) ?_⟩
    · exact hit'.at fun o e => up I o hIS (Heap.get?_push_of_some _ e)
    · refine hil.at fun o e => up l o (ne_lt hl hS) (Heap.get?_push_of_some _ (hx1 l o (ne_lt hl hI) e))
    · intro b o e
      exact up b o (ne_lt (Heap.lt_size e) hS) (Heap.get?_push_of_some _ (k1 b o e))
    · exact ⟨0, up _ _ (Ne.symm (Nat.ne_of_lt lS)) (Heap.get?_push_size _ rfl)⟩
    · intro h2 p tk k2 lo n3 n4
      have lo' : LObj h2 p (acc ++ (x :: xs).flatten) := by simpa [List.append_assoc] using lo
      refine hR h2 p tk k2 lo' (fun _ => ?_) (fun z => by cases z)
      by_cases q : las = []
      · rw [n4 q]
        exact Nat.le_of_lt (Nat.lt_of_le_of_lt hS lS)
      · exact n3 q
theorem call_sumL (hh : A.handled = none) {s : Shared} {l b : Addr} {items : List Value} {las : List Addr} {xss : List (List Value)} {Q : Value → Shared → Prop} (hl : s.heap.IsList l items.toArray) (hi : items = las.map Value.ref) (hne : las ≠ []) (hf : LObjs s.heap las xss) (hb : LObj s.heap b []) (hz : xss.flatten.length ≤ sizeLine)
    (h : ∀ h' p tk, KeptH s.heap h' → LObj h' p xss.flatten → s.heap.objs.size ≤ p → Q (.ref p) { s with heap := h', toks := tk }) : wpAny (model prog w) A (call (.builtin "sum") [.ref l, .ref b]) Q E s := by
  refine call_function_tree F.kind_sum F.plain_sum F.entry_sum (args_sum2 _ _) ?_
  unfold Builtin.«sum»
  simp only [List.length_cons, List.length_nil]
  rw [if_neg (by decide)]
  refine wpAny_bind (wpAny_of_eq (show Builtin.Builtins.bindParams "sum" ["start"] 0 ⟨[.ref b], []⟩ = pure [some (.ref b)] from rfl) ?_)
  refine wpAny_bind (L2.iter_anyList hl fun s₂ e st hfp hlI => ?_)
  subst e
  have hb2 := hb.isList.push { cls := .type "list_iterator", data := .fields #[.ref l, .int 0 0] }
  have ty : ({ s with heap := s.heap.push { cls := .type "list_iterator", data := .fields #[.ref l, .int 0 0] } } : Shared).TypeIs (.ref b) "list" := hb2.typeIs
  refine wpAny_bind (wpAny_pure ?_)
  simp only [List.forIn_cons, List.forIn_nil]
  refine wpAny_bind (wpAny_bind (wpAny_bind (wpAny_isInstance (T := "list") (b := false) ty sub_list_str ?_)))
  simp only [Bool.false_eq_true, if_false]
  refine wpAny_pure (wpAny_bind (wpAny_bind (wpAny_isInstance (T := "list") (b := false) ty sub_list_bytes ?_)))
  simp only [Bool.false_eq_true, if_false]
  refine wpAny_pure (wpAny_bind (wpAny_bind (wpAny_isInstance (T := "list") (b := false) ty sub_list_bytearray ?_)))
  simp only [Bool.false_eq_true, if_false]
  refine wpAny_pure (wpAny_pure ?_)
  refine wpAny_bind (wpAny_newObj_type ?_)
  obtain ⟨ol, hol, _⟩ := id hl
  have ll := Heap.lt_size hol
  have sz : (s.heap.push { cls := .type "list_iterator", data := .fields #[.ref l, .int 0 0] }).objs.size = s.heap.objs.size + 1 := Heap.size_push ..
  refine wpAny_pure ⟨plainId_quiet F.plain_sum_loop _, sumL_loop (h0 := s.heap) (l := l) (items := items) hh (Nat.le_refl _) (by rw [sz]; exact Nat.le_succ _) (by rw [sz]; exact Nat.ne_of_lt (Nat.lt_succ_self _)) ll las xss 0 _ b [] 0 (by simpa using hi) hf ?_ ?_ ?_ (Heap.get?_push_size _ rfl) ?_ (by simpa using hz) ?_⟩
  · exact st.1.at fun o e => Heap.get?_push_of_some _ e
  · exact st.2.at fun o e => Heap.get?_push_of_some _ e
  · exact fun b o e => Heap.get?_push_of_some _ (Heap.get?_push_of_some _ e)
  · obtain ⟨n, e⟩ := hb
    exact ⟨n, Heap.get?_push_of_some _ (Heap.get?_push_of_some _ e)⟩
  · intro h' p tk k lo n1 _
    exact h h' p tk k (by simpa using lo) (n1 hne)
end
/-- a list of lists -/
inductive LsV (H : Hp) : List V → List (List V) → Prop
  | nil : LsV H [] []
  | cons {a : Addr} {vs : List V} {x : List V} {xs : List (List V)} : H a = some (.lst x) → LsV H vs xs → LsV H (.ref a :: vs) (x :: xs)
def rSumL : List V → Hp → VK → Prop := fun vs H Q => ∃ l b ls xss, vs = [.ref l, .ref b] ∧ H l = some (.lst ls) ∧ ls ≠ [] ∧ LsV H ls xss ∧ H b = some (.lst []) ∧ xss.flatten.length ≤ sizeLine ∧ ∀ p, H p = none → Q (.ref p) (upd H p (.lst xss.flatten))
theorem LsV.raw {X : Cx} {pins : List (Addr × Obj)} {σ : L2.St} {H : Hp} {s : Shared} (I : Inv X pins σ H s) : ∀ {ls : List V} {xss : List (List V)} {its : List Value}, LsV H ls xss → Vals ls its → ∃ las yss, its = las.map Value.ref ∧ LObjs s.heap las yss ∧ Vals xss.flatten yss.flatten ∧ las.length = ls.length
  | _, _, _, .nil, .nil => ⟨[], [], rfl, .nil, .nil, rfl⟩
  | _, _, _, .cons h t, .cons r rs => by
    obtain ⟨las, yss, e, lo, v, n⟩ := LsV.raw I t rs
    obtain ⟨_, its, n1, r1, _, e1⟩ := I.lstM h
    cases r
    exact ⟨_ :: las, its :: yss, by rw [e]; rfl, .cons ⟨n1, e1⟩ lo, by rw [List.flatten_cons, List.flatten_cons]; exact r1.append v, by simp [n]⟩
theorem cr_sumL {X : Cx} (hc : X.calm = true) : CallR X (.builtin "sum") rSumL := by
  intro pins s σ H vs us Q I r h
  obtain ⟨l, b, ls, xss, rfl, hl, hne, hx, hb, hz, q⟩ := h
  obtain ⟨_, its, n, rv, _, e⟩ := I.lstM hl
  obtain ⟨las, yss, rfl, lo, v, hn⟩ := hx.raw I rv
  obtain ⟨_, its2, n2, rv2, _, e2⟩ := I.lstM hb
  cases rv2
  have ru : us = [.ref l, .ref b] := by
    cases r with
    | cons r t =>
      cases t with
      | cons r2 t2 =>
        cases t2
        cases r
        cases r2
        rfl
  rw [ru]
  refine call_sumL (I.ok.hd hc) (las := las) (LObj.isList ⟨n, e⟩) rfl (fun z => hne (by rw [z] at hn; exact List.length_eq_zero_iff.mp hn.symm)) lo ⟨n2, e2⟩ (by rw [← v.length]; exact hz) fun h' p tk k lp hp => ?_
  obtain ⟨n3, e3⟩ := lp
  exact ⟨.ref p, upd H p (.lst xss.flatten), I.laid (t' := tk) k hp ⟨hz, _, n3, v, e3⟩, rfl, q p (I.hok.fresh hp)⟩
/-! ### the rule -/
def lists? : List T → Option (List (List T))
  | [] => some []
  | .lst xs :: ts => (lists? ts).map (xs :: ·)
  | _ :: _ => none
def sumLT : List T → Option T
  | [.lst (o :: os), .lst []] => (lists? (o :: os)).bind fun xss => if xss.flatten.length ≤ sizeLine then some (.lst xss.flatten) else none
  | _ => none
theorem lists_r {K : PySem.W.Frag} {H : Hp} {S : Addr → Prop} : ∀ {vs : List V} {ts : List T} {xss : List (List T)}, RoA K H S .sh vs ts → lists? ts = some xss → ∃ yss, LsV H vs yss ∧ RoA K H S .sh yss.flatten xss.flatten
  | _, _, _, .nil, h => by
    cases h
    exact ⟨[], .nil, .nil⟩
  | _, t :: ts, xss, .cons (t := _) r rs, h => by
    cases t with
    | lst xs =>
      rw [lists?] at h
      obtain ⟨ms, e, e2⟩ := Option.map_eq_some_iff.mp h
      subst e2
      obtain ⟨yss, h1, h2⟩ := lists_r rs e
      obtain ⟨a, ys, i, rfl, e1, r1, g1, _⟩ := r.lst
      cases g1 rfl
      exact ⟨ys :: yss, .cons e1 h1, by rw [List.flatten_cons, List.flatten_cons]; exact r1.app h2⟩
    | _ => cases h
/-- sum(lists, []): the lists held as shared -/
def CLsh (K : PySem.W.Frag) (r : List V → Hp → VK → Prop) (g : List T → Option T) : Prop := ∀ H S ρ xs ts c Q, flat ρ = true → RoL K H S [.sh, ρ] xs ts → g ts = some c → (∀ z H', Nw K H S z H' c → Q z H') → r xs H Q
theorem c_sumL {K : PySem.W.Frag} : CLsh K rSumL sumLT := by
  intro H S ρ xs ts c Q hf hr e q
  cases hr with
  | cons r1 hr => cases hr with
    | cons r2 hr => cases hr with
      | nil =>
        unfold sumLT at e
        split at e
        case h_2 => cases e
        rename_i o os heq
        cases heq
        obtain ⟨xss, e1, e⟩ := Option.bind_eq_some_iff.mp e
        split at e
        case isFalse => cases e
        rename_i hz
        cases e
        obtain ⟨l, ls, i, rfl, el, rl, g1, _⟩ := r1.lst
        cases g1 rfl
        obtain ⟨b, bs, j, rfl, eb, rb, _, _⟩ := r2.lst
        obtain ⟨yss, h1, h2⟩ := lists_r rl e1
        cases rb
        refine ⟨l, b, ls, yss, rfl, el, fun z => ?_, h1, eb, by rw [h2.len]; exact hz, fun p hp => q _ _ (.lst hp h2)⟩
        rw [z] at rl
        cases rl
section
variable {X : Cx} {W : WX} {Γ Γ1 Γ' : List Ow} {a e : Expr} {es : List Expr} {pos p0 p1 : Pos} {r : List V → Hp → VK → Prop} {gl : List T → Option T}
theorem se_callS {b p : Bool} {f : F0 (List T)} {ρ : Ow} (hR : ∀ {t : TA}, PA X es t → PE X e (tCB r t)) (hb : CLsh X.K r gl) (h1 : OA X W b p Γ es f [.sh, ρ] Γ') (hf : flat ρ = true := by rfl) : SE X W p Γ e (F0.bind f (lf gl)) (.ow .sh) Γ' := by
  refine pe_imp (hR h1) fun σ H Q ⟨S, E, fp, r, G, er, q⟩ => ?_
  unfold F0.bind at er
  cases e1 : f E with
  | none => rw [e1] at er; cases er
  | some r1 =>
    rw [e1] at er
    refine ⟨S, E, fp, r1, G, e1, ?_⟩
    cases r1 with
    | ex x E1 =>
      have e' : r = .ex x E1 := (Option.some.inj er).symm
      subst e'
      exact q
    | ok t E1 =>
      obtain ⟨d, ed, e'⟩ := lf_some er
      subst e'
      intro v H' S' fp' G' ev pp st
      exact hb H' S' _ v t d Q hf (st H' S' fp' (Ev.refl fun _ z => z) (fun _ => Kept.refl _)) ed fun z H' n => nw_pok G' ev pp n q
/-! ### a display that is only read -/
theorem RoL.all {K : PySem.W.Frag} {H : Hp} {S : Addr → Prop} {i : Ow} : ∀ {ρs : List Ow} {vs : List V} {ts : List T}, RoL K H S ρs vs ts → (∀ ρ ∈ ρs, ρ = i) → RoA K H S i vs ts
  | _, _, _, .nil, _ => .nil
  | _, _, _, .cons r rs, h => by
    have e := h _ List.mem_cons_self
    subst e
    exact .cons r (RoL.all rs fun ρ z => h ρ (List.mem_cons_of_mem _ z))
theorem oe_lst {b p : Bool} {f : F0 (List T)} {ρs : List Ow} {i : Ow} (h : OA X W b p Γ es f ρs Γ') (hi : ∀ ρ ∈ ρs, ρ = i) : OE X W b p Γ (.List es pos) (F0.bind f (lf mkL)) (.ow i) Γ' := by
  refine pe_imp (pe_lst h) fun σ H Q ⟨S, E, fp, r, G, er, q⟩ => ?_
  unfold F0.bind at er
  cases e1 : f E with
  | none => rw [e1] at er; cases er
  | some r1 =>
    rw [e1] at er
    refine ⟨S, E, fp, r1, G, e1, ?_⟩
    cases r1 with
    | ex x E1 =>
      have e' : r = .ex x E1 := (Option.some.inj er).symm
      subst e'
      exact q
    | ok t E1 =>
      obtain ⟨d, ed, e'⟩ := lf_some er
      subst e'
      intro v H' S' fp' G' ev pp st
      unfold mkL at ed
      split at ed
      · rename_i hz
        cases ed
        have s0 := (st H' S' fp' (Ev.refl fun _ z => z) (fun _ => Kept.refl _)).all hi
        refine ⟨by rw [s0.len]; exact hz, fun l hl => ?_⟩
        have k : Kept H' (upd H' l (.lst v)) := Kept.new hl
        obtain ⟨n1, n2⟩ := G'.free hl
        refine q _ (upd H' l (.lst v)) S' fp' (G'.along k (TbK.new hl)) (ev.trans ((Ev.new hl).less fun a z => List.mem_cons_of_mem _ z)) (fun pt => ⟨(pp pt).1, (pp pt).2.trans k⟩) fun H2 S2 fp2 ev2 kk => ?_
        have s1 := (st H2 S2 fp2 (((Ev.new hl).less fun a z => List.mem_cons_of_mem _ z).trans ev2) (fun hb => k.trans (kk hb))).all hi
        exact .lstO (ev2.keep _ _ upd_same n1 fun ps z => nomatch z) s1
      · cases ed
end
theorem ev_gt2 {i j : Nat} {a b : T} {E : Env} : gtup 2 (gcons (gset i) (gcons (gset j) gnil)) (.tup [a, b]) E = some ((E.set i (some a)).set j (some b)) := rfl
end Tr

end
section
set_option maxHeartbeats 2000000
/-! TrAb: sorted(..) of data that are alike. -/
namespace Tr
open PySem PySem.Spec PyProof.Rows L2
mutual
theorem toD_py : ∀ {t : T}, t.dat = true → toD t = some t.py
  | .non, _ => by simp [toD, T.py]
  | .bl _, _ => by simp [toD, T.py]
  | .int _, _ => by simp [toD, T.py]
  | .str _, _ => by simp [toD, T.py]
  | .adr _, h => by simp [T.dat] at h
  | .box _ _, h => by simp [T.dat] at h
  | .lst xs, h => by
    simp only [T.dat] at h
    simp only [toD, T.py, toDs_py h, Option.map_some]
  | .tup xs, h => by
    simp only [T.dat] at h
    simp only [toD, T.py, toDs_py h, Option.map_some]
  | .fz xs, h => by
    simp only [T.dat] at h
    simp only [toD, T.py, toDs_py h, Option.map_some]
theorem toDs_py : ∀ {ts : List T}, T.datA ts = true → toDs ts = some (T.pyA ts)
  | [], _ => by simp [toDs, T.pyA]
  | t :: ts, h => by
    rw [T.datA, Bool.and_eq_true] at h
    simp only [toDs, T.pyA, toD_py h.1, toDs_py h.2, Option.bind_some, Option.map_some]
end
def leT (a b : T) : Bool := PySem.W.dataLe false T.py a b
def tup1 (d : PyData) : Bool := match d with
  | .tuple (_ :: _) => true
  | _ => false
def oth1 (d : PyData) : Bool := match d with
  | .none => false
  | .tuple _ => false
  | _ => true
def sortOk (ts : List T) : Bool := ts.all T.dat && (ts.all fun a => ts.all fun b => PySem.W.alike a.py b.py) && (ts.all (fun t => tup1 t.py) || ts.all fun t => oth1 t.py) && ts.all (fun t => decide (t.py.depth ≤ 40)) && decide (ts.length ≤ sizeLine)
def sortDT : T → Option T
  | .lst ts => if sortOk ts = true then some (.lst (ts.mergeSort leT)) else none
  | _ => none
def rSortD (K : PySem.W.Frag) : List V → Hp → VK → Prop := fun vs H Q => ∃ a S ys ts, vs = [V.ref a] ∧ H a = some (.lst ys) ∧ RoA K H S .sh ys ts ∧ sortOk ts = true ∧ ∀ zs p, H p = none → RoA K H S .sh zs (ts.mergeSort leT) → Q (.ref p) (upd H p (.lst zs))
theorem each_of {X : Cx} {pins : List (Addr × Obj)} {σ : L2.St} {H : Hp} {S : Addr → Prop} {s : Shared} (I : Inv X pins σ H s) : ∀ {vs : List V} {us : List Value} {ts : List T}, RoA X.K H S .sh vs ts → Vals vs us → ts.all T.dat = true →
    PySem.W.EachIs (fun u t => ∃ v, RelV v u ∧ Ro X.K H S .sh v t) us ts ∧ PySem.W.EachIs (fun u t => ∃ as, Reads s.heap u (T.py t) as) us ts
  | _, _, _, .nil, .nil, _ => ⟨.nil, .nil⟩
  | _, _, _, .cons r rs, .cons w ws, h => by
    rw [List.all_cons, Bool.and_eq_true] at h
    obtain ⟨a, b⟩ := each_of I rs ws h.2
    exact ⟨.cons ⟨_, w, r⟩ a, .cons (r.reads I w (toD_py h.1)) b⟩
theorem each_back {K : PySem.W.Frag} {H : Hp} {S : Addr → Prop} : ∀ {us : List Value} {ts : List T}, PySem.W.EachIs (fun u t => ∃ v, RelV v u ∧ Ro K H S .sh v t) us ts → ∃ vs, Vals vs us ∧ RoA K H S .sh vs ts
  | _, _, .nil => ⟨[], .nil, .nil⟩
  | _, _, .cons ⟨v, h1, h2⟩ rs => by
    obtain ⟨vs, a, b⟩ := each_back rs
    exact ⟨v :: vs, .cons h1 a, .cons h2 b⟩
theorem cr_sortD {X : Cx} (hu : X.A.units + 64 < cLine) : CallR X (.builtin "sorted") (rSortD X.K) := by
  intro pins s σ H vs us Q I r h
  obtain ⟨a, S, ys, ts, rfl, ha, ro, ok, q⟩ := h
  obtain ⟨z, its, n, rv, hl, e⟩ := I.lstM ha
  rw [Vals.ref1 r]
  unfold sortOk at ok
  simp only [Bool.and_eq_true, Bool.or_eq_true, decide_eq_true_eq] at ok
  obtain ⟨⟨⟨⟨o1, o2⟩, o3⟩, o4⟩, o5⟩ := ok
  obtain ⟨e1, e2⟩ := each_of I ro rv o1
  refine PySem.W.sorted_data (enc := T.py) (LObj.isList ⟨n, e⟩) e1 e2 (fun d hd d' hd' => ?_) ?_ o5 (fun b hb => ?_) fun out hlen ho => ?_
  · obtain ⟨t, ht, rfl⟩ := List.mem_map.mp hd
    obtain ⟨t', ht', rfl⟩ := List.mem_map.mp hd'
    exact List.all_eq_true.mp (List.all_eq_true.mp o2 t ht) t' ht'
  · rcases o3 with o3 | o3
    · refine .inl fun d hd => ?_
      obtain ⟨t, ht, rfl⟩ := List.mem_map.mp hd
      have := List.all_eq_true.mp o3 t ht
      unfold tup1 at this
      split at this
      · rename_i x r heq
        exact ⟨x, r, heq⟩
      · cases this
    · refine .inr fun d hd => ?_
      obtain ⟨t, ht, rfl⟩ := List.mem_map.mp hd
      have := List.all_eq_true.mp o3 t ht
      unfold oth1 at this
      split at this
      · cases this
      · cases this
      · rename_i h1 h2
        exact ⟨h1, h2⟩
  · have := List.all_eq_true.mp o4 b hb
    simp only [decide_eq_true_eq] at this
    omega
  · obtain ⟨zs, h1, h2⟩ := each_back ho
    obtain ⟨ep, he'⟩ := PyProof.Rows.sortedAll_at s.heap its out.toArray
    have hz : zs.length ≤ sizeLine := by
      rw [h1.length, hlen]
      exact o5
    exact ⟨.ref _, upd H (s.heap.objs.size + 1) (.lst zs), I.laid (t' := s.toks) (fun _ _ => PyProof.Rows.sortedAll_old) (Nat.le_succ _) ⟨hz, out, ep, h1, he'⟩, rfl, q zs _ (I.hok.fresh (Nat.le_succ _)) h2⟩
theorem c_sortD {K : PySem.W.Frag} : CL K (rSortD K) (one sortDT) := by
  intro H S ρs xs ts c Q hf hr e q
  cases hr with
  | nil => cases e
  | cons r1 r2 => cases r2 with
    | nil =>
      rename_i t
      have e : sortDT t = some c := e
      cases t <;> simp only [sortDT] at e <;> (try cases e)
      split at e
      case isFalse => cases e
      rename_i ok
      cases e
      obtain ⟨a, ys, i, rfl, h, r3, g1, g2⟩ := r1.lst
      have hi : i = .sh := (flat_or (by simpa using hf)).elim g1 (g2 _)
      subst hi
      exact ⟨a, S, ys, _, rfl, h, r3, ok, fun zs p hp rz => q _ _ (.lst hp rz)⟩
    | cons _ _ => cases e
/-! ### None where something new might stand -/
section
variable {X : Cx} {W : WX} {Γ : List Ow} {pos : Pos} {ρ : Ow}
theorem se_non {j} : SE X W true Γ (.Constant .none j pos) (rd (kc .non)) ρ Γ := by
  refine pe_imp pe_non fun σ H Q ⟨S, E, fp, r, G, er, q⟩ => ?_
  have e' : r = .ok .non E := (Option.some.inj er).symm
  subst e'
  exact q .non H S fp [] G .non G.nd (fun a z => by simp at z) (Ev.refl fun _ z => z) fun _ => ⟨rfl, Kept.refl H⟩
end
end Tr

end
section
set_option maxHeartbeats 2000000
/-! TrAc: list(range(i, j, -1)). -/
namespace Tr
open PySem PySem.Spec PyProof.Rows L2
def rLrg3 : List V → Hp → VK → Prop := fun vs H Q => ∃ (i j k : Int) (n : Nat), vs = [.int i, .int j, .int k] ∧ RgC i j k n ∧ n ≤ 2 ^ 24 ∧ ∀ q, H q = none → Q (.ref q) (upd H q (.lst ((List.range n).map fun m => V.int (i + (m : Nat) * k))))
theorem pe_lrg3 {X : Cx} {a b c : Expr} {t : TA} {p0 p1 pos pos2 : Pos} (hc : X.calm = true) (hg : Gl X "list") (hm : X.mg "list" = none) (hg2 : Gl X "range") (hm2 : X.mg "range" = none) (ha : PA X [a, b, c] t)
    (hs : starEach [a, b, c] X.env = (false, eval a X.env) :: starEach [b, c] X.env := by rfl) (hpl : (backTo pos (starEach [b, c] X.env)).any (·.1) = false := by rfl)
    (na : starEach [.Call (.Name "range" p0) [a, b, c] [] pos] X.env = (false, eval (.Call (.Name "range" p0) [a, b, c] [] pos) X.env) :: starEach [] X.env := by rfl) :
    PE X (.Call (.Name "list" p1) [.Call (.Name "range" p0) [a, b, c] [] pos] [] pos2) (tCB rLrg3 t) := by
  refine ⟨fun pins s σ H Q I h => ?_⟩
  have inner : wpAny (model X.prog X.w) X.A (eval (.Call (.Name "range" p0) [a, b, c] [] pos) X.env) (fun x s' => ∃ r i j k n t u v H', x = .ref r ∧ IsRange s'.heap r i j k t u v ∧ Inv X pins σ H' s' ∧ RgC i j k n ∧ n ≤ 2 ^ 24 ∧ ∀ q, H' q = none → Q (.ref q) (upd H' q (.lst ((List.range n).map fun m => V.int (i + (m : Nat) * k))))) X.xe s := by
    refine Call_ (ld_blt I hg2 hm2 boot_range (PyProof.Rows.callWith_type1 (thn (ha.run pos pins s σ H _ I h) fun us s1 ⟨vs, H1, I1, r1, q1⟩ => ?_) hs hpl))
    obtain ⟨i, j, k, n, e, c0, hn, q⟩ := q1
    subst e
    cases r1 with
    | cons r rr =>
      cases rr with
      | cons r' rr =>
        cases rr with
        | cons r'' rr =>
          cases rr
          obtain ⟨t, rfl⟩ := r
          obtain ⟨t', rfl⟩ := r'
          obtain ⟨t'', rfl⟩ := r''
          refine call_range_3 c0.1 ?_ (.inl (PyProof.noPylong_small c0.2.1))
          exact ⟨_, i, j, k, n, _, _, _, H1, rfl, IsRange.new _ _ _ _ _ _ _, I1.kept fun b u e => Heap.get?_push_of_some _ e, c0, hn, q⟩
  refine Call_ (ld_blt I hg hm boot_list (PyProof.Rows.callWith_type1 (args_cons (thn inner fun x s1 ⟨r, i, j, k, n, t, u, v, H1, ex, hr, I1, ⟨c0, c1, c2, c3⟩, hn, q⟩ => args_nil ?_) na) na))
  subst ex
  refine call_list_range (n := n) (I1.ok.hd hc) hr c2 c3 hn fun h' tk acc c' hk e' hi => ?_
  have hlen : acc.toList.length = n := by rw [Array.length_toList]; exact hi.1
  refine ⟨.ref s1.heap.objs.size, upd H1 s1.heap.objs.size (.lst ((List.range n).map fun m => V.int (i + (m : Nat) * k))), I1.laid hk (Nat.le_refl _) (show ObjOk X.prog X.w _ _ _ (.lst ((List.range n).map fun m => V.int (i + (m : Nat) * k))) from ⟨?_, acc.toList, c', ?_, ?_⟩), rfl, q _ (I1.hok.fresh (Nat.le_refl _))⟩
  · rw [List.length_map, List.length_range, sizeLine_eq]; omega
  · rw [← hlen]
    refine vals_of_get acc.toList _ fun j u hj => ?_
    obtain ⟨t, rfl⟩ := hi.2 j u (by rw [← hj, Array.getElem?_toList])
    exact ⟨t, rfl⟩
  · rw [Array.toArray_toList]; exact e'
def dwnT (i : Int) (n : Nat) : List T := (List.range n).map fun m => T.int (i + (m : Nat) * (-1))
def lrg3 : List T → Option T
  | [.int i, .int j, .int k] => if k = -1 ∧ i.natAbs < 2 ^ 61 ∧ j.natAbs < 2 ^ 61 ∧ (i - j).toNat ≤ 2 ^ 24 then some (.lst (dwnT i (i - j).toNat)) else none
  | _ => none
theorem dwn_r {K : PySem.W.Frag} {H : Hp} {S : Addr → Prop} {ι : Ow} (i : Int) : ∀ l : List Nat, RoA K H S ι (l.map fun m => V.int (i + (m : Nat) * (-1))) (l.map fun m => T.int (i + (m : Nat) * (-1)))
  | [] => .nil
  | _ :: l => .cons (.int _) (dwn_r i l)
theorem c_lrg3 {K : PySem.W.Frag} : CL K rLrg3 lrg3 := by
  intro H S ρs xs ts c Q hf hr e q
  unfold lrg3 at e
  split at e
  case h_2 => cases e
  split at e
  case isFalse => cases e
  rename_i i j k hk
  obtain ⟨rfl, h1, h2, h3⟩ := hk
  cases e
  cases hr with
  | cons r1 hr => cases hr with
    | cons r2 hr => cases hr with
      | cons r3 hr =>
        cases hr
        rw [r1.int_, r2.int_, r3.int_]
        exact ⟨i, j, -1, (i - j).toNat, rfl, RgC.neg (by omega) (by omega) (by omega) (by omega), h3, fun p hp => q _ _ (.lst hp (dwn_r i _))⟩
end Tr

end
section
set_option maxHeartbeats 4000000
namespace Law
open PySem PySem.Spec PyProof.Rows L2 Tr
abbrev top (i : Nat) : Stmt := PySem.Challenge.pw_halfquick_k41_whole_passes_at_one_side.main.body.getD i (.Pass ⟨0, 0, 0, 0⟩)
structure Fc (K : PySem.W.Frag) (mg : Str → Option Value) where
  f_is_whole : Addr
  fd_is_whole : FuncData
  F_is_whole : FunD K "is_whole" "is_whole" (defArgs (top 10)) (defBody (top 10)) (defScope (top 10)) [] [] f_is_whole fd_is_whole
  g_is_whole : mg "is_whole" = some (.ref f_is_whole)
  b_is_whole : Binds K fd_is_whole ["thing"] []
  f_is_entry : Addr
  fd_is_entry : FuncData
  F_is_entry : FunD K "is_entry" "is_entry" (defArgs (top 11)) (defBody (top 11)) (defScope (top 11)) [] [] f_is_entry fd_is_entry
  g_is_entry : mg "is_entry" = some (.ref f_is_entry)
  b_is_entry : Binds K fd_is_entry ["thing", "size"] []
  f_check_plan : Addr
  fd_check_plan : FuncData
  F_check_plan : FunD K "check_plan" "check_plan" (defArgs (top 12)) (defBody (top 12)) (defScope (top 12)) [] [] f_check_plan fd_check_plan
  g_check_plan : mg "check_plan" = some (.ref f_check_plan)
  b_check_plan : Binds K fd_check_plan ["plan"] []
  f_check_values : Addr
  fd_check_values : FuncData
  F_check_values : FunD K "check_values" "check_values" (defArgs (top 13)) (defBody (top 13)) (defScope (top 13)) [] [] f_check_values fd_check_values
  g_check_values : mg "check_values" = some (.ref f_check_values)
  b_check_values : Binds K fd_check_values ["values"] []
  f_check_passes : Addr
  fd_check_passes : FuncData
  F_check_passes : FunD K "check_passes" "check_passes" (defArgs (top 14)) (defBody (top 14)) (defScope (top 14)) [] [] f_check_passes fd_check_passes
  g_check_passes : mg "check_passes" = some (.ref f_check_passes)
  b_check_passes : Binds K fd_check_passes ["passes"] []
  f_check_place : Addr
  fd_check_place : FuncData
  F_check_place : FunD K "check_place" "check_place" (defArgs (top 15)) (defBody (top 15)) (defScope (top 15)) [] [] f_check_place fd_check_place
  g_check_place : mg "check_place" = some (.ref f_check_place)
  b_check_place : Binds K fd_check_place ["values", "place"] []
  f_begin_of : Addr
  fd_begin_of : FuncData
  F_begin_of : FunD K "begin_of" "begin_of" (defArgs (top 16)) (defBody (top 16)) (defScope (top 16)) [] [] f_begin_of fd_begin_of
  g_begin_of : mg "begin_of" = some (.ref f_begin_of)
  b_begin_of : Binds K fd_begin_of ["plan"] []
  f_after : Addr
  fd_after : FuncData
  F_after : FunD K "after" "after" (defArgs (top 17)) (defBody (top 17)) (defScope (top 17)) [] [] f_after fd_after
  g_after : mg "after" = some (.ref f_after)
  b_after : Binds K fd_after ["plan", "place", "values"] []
  f_once : Addr
  fd_once : FuncData
  F_once : FunD K "once" "once" (defArgs (top 18)) (defBody (top 18)) (defScope (top 18)) [] [] f_once fd_once
  g_once : mg "once" = some (.ref f_once)
  b_once : Binds K fd_once ["plan", "values"] []
  f_after_passes : Addr
  fd_after_passes : FuncData
  F_after_passes : FunD K "after_passes" "after_passes" (defArgs (top 19)) (defBody (top 19)) (defScope (top 19)) [] [] f_after_passes fd_after_passes
  g_after_passes : mg "after_passes" = some (.ref f_after_passes)
  b_after_passes : Binds K fd_after_passes ["plan", "values", "passes"] []
  f_carried_out : Addr
  fd_carried_out : FuncData
  F_carried_out : FunD K "carried_out" "carried_out" (defArgs (top 20)) (defBody (top 20)) (defScope (top 20)) [] [("passes", .int 1)] f_carried_out fd_carried_out
  g_carried_out : mg "carried_out" = some (.ref f_carried_out)
  bd_carried_out : ∃ ds, Vals [.int 1] ds ∧ Binds K fd_carried_out ["plan", "values", "passes"] ds
  f_check_number : Addr
  fd_check_number : FuncData
  F_check_number : FunD K "check_number" "check_number" (defArgs (top 23)) (defBody (top 23)) (defScope (top 23)) [] [] f_check_number fd_check_number
  g_check_number : mg "check_number" = some (.ref f_check_number)
  b_check_number : Binds K fd_check_number ["number", "most"] []
  f_falling_ahead : Addr
  fd_falling_ahead : FuncData
  F_falling_ahead : FunD K "falling_ahead" "falling_ahead" (defArgs (top 24)) (defBody (top 24)) (defScope (top 24)) [] [] f_falling_ahead fd_falling_ahead
  g_falling_ahead : mg "falling_ahead" = some (.ref f_falling_ahead)
  b_falling_ahead : Binds K fd_falling_ahead ["values", "place"] []
  f_records_ahead : Addr
  fd_records_ahead : FuncData
  F_records_ahead : FunD K "records_ahead" "records_ahead" (defArgs (top 25)) (defBody (top 25)) (defScope (top 25)) [] [] f_records_ahead fd_records_ahead
  g_records_ahead : mg "records_ahead" = some (.ref f_records_ahead)
  b_records_ahead : Binds K fd_records_ahead ["values", "place"] []
  f_passes_needed : Addr
  fd_passes_needed : FuncData
  F_passes_needed : FunD K "passes_needed" "passes_needed" (defArgs (top 26)) (defBody (top 26)) (defScope (top 26)) [] [] f_passes_needed fd_passes_needed
  g_passes_needed : mg "passes_needed" = some (.ref f_passes_needed)
  b_passes_needed : Binds K fd_passes_needed ["plan", "values"] []
  f_right_passes_needed : Addr
  fd_right_passes_needed : FuncData
  F_right_passes_needed : FunD K "right_passes_needed" "right_passes_needed" (defArgs (top 27)) (defBody (top 27)) (defScope (top 27)) [] [] f_right_passes_needed fd_right_passes_needed
  g_right_passes_needed : mg "right_passes_needed" = some (.ref f_right_passes_needed)
  b_right_passes_needed : Binds K fd_right_passes_needed ["values"] []
  f_levels : Addr
  fd_levels : FuncData
  F_levels : FunD K "levels" "levels" (defArgs (top 28)) (defBody (top 28)) (defScope (top 28)) [] [] f_levels fd_levels
  g_levels : mg "levels" = some (.ref f_levels)
  b_levels : Binds K fd_levels ["number"] []
  f_left_levels : Addr
  fd_left_levels : FuncData
  F_left_levels : FunD K "left_levels" "left_levels" (defArgs (top 29)) (defBody (top 29)) (defScope (top 29)) [] [] f_left_levels fd_left_levels
  g_left_levels : mg "left_levels" = some (.ref f_left_levels)
  b_left_levels : Binds K fd_left_levels ["number"] []
  f__law_draws : Addr
  fd__law_draws : FuncData
  F__law_draws : FunD K "_law_draws" "_law_draws" (defArgs (top 31)) (defBody (top 31)) (defScope (top 31)) [] [] f__law_draws fd__law_draws
  g__law_draws : mg "_law_draws" = some (.ref f__law_draws)
  b__law_draws : Binds K fd__law_draws ["_law_cell"] []
  f__law_next : Addr
  fd__law_next : FuncData
  F__law_next : FunD K "_law_next" "_law_next" (defArgs (top 32)) (defBody (top 32)) (defScope (top 32)) [] [] f__law_next fd__law_next
  g__law_next : mg "_law_next" = some (.ref f__law_next)
  b__law_next : Binds K fd__law_next ["_law_draws_here"] []
  f__law_values : Addr
  fd__law_values : FuncData
  F__law_values : FunD K "_law_values" "_law_values" (defArgs (top 33)) (defBody (top 33)) (defScope (top 33)) [] [] f__law_values fd__law_values
  g__law_values : mg "_law_values" = some (.ref f__law_values)
  b__law_values : Binds K fd__law_values ["_law_draws_here", "_law_most"] []
  f__law_after : Addr
  fd__law_after : FuncData
  F__law_after : FunD K "_law_after" "_law_after" (defArgs (top 34)) (defBody (top 34)) (defScope (top 34)) [] [] f__law_after fd__law_after
  g__law_after : mg "_law_after" = some (.ref f__law_after)
  b__law_after : Binds K fd__law_after ["_law_plan", "_law_place", "_law_a_values"] []
  f__law_once : Addr
  fd__law_once : FuncData
  F__law_once : FunD K "_law_once" "_law_once" (defArgs (top 35)) (defBody (top 35)) (defScope (top 35)) [] [] f__law_once fd__law_once
  g__law_once : mg "_law_once" = some (.ref f__law_once)
  b__law_once : Binds K fd__law_once ["_law_plan", "_law_a_values"] []
  f__law_records : Addr
  fd__law_records : FuncData
  F__law_records : FunD K "_law_records" "_law_records" (defArgs (top 36)) (defBody (top 36)) (defScope (top 36)) [] [] f__law_records fd__law_records
  g__law_records : mg "_law_records" = some (.ref f__law_records)
  b__law_records : Binds K fd__law_records ["_law_a_values", "_law_value"] []
  f__law_all_records : Addr
  fd__law_all_records : FuncData
  F__law_all_records : FunD K "_law_all_records" "_law_all_records" (defArgs (top 37)) (defBody (top 37)) (defScope (top 37)) [] [] f__law_all_records fd__law_all_records
  g__law_all_records : mg "_law_all_records" = some (.ref f__law_all_records)
  b__law_all_records : Binds K fd__law_all_records ["_law_a_values"] []
  f__law_falls_right : Addr
  fd__law_falls_right : FuncData
  F__law_falls_right : FunD K "_law_falls_right" "_law_falls_right" (defArgs (top 38)) (defBody (top 38)) (defScope (top 38)) [] [] f__law_falls_right fd__law_falls_right
  g__law_falls_right : mg "_law_falls_right" = some (.ref f__law_falls_right)
  b__law_falls_right : Binds K fd__law_falls_right ["_law_a_values"] []
  f__law_right : Addr
  fd__law_right : FuncData
  F__law_right : FunD K "_law_right" "_law_right" (defArgs (top 39)) (defBody (top 39)) (defScope (top 39)) [] [] f__law_right fd__law_right
  g__law_right : mg "_law_right" = some (.ref f__law_right)
  b__law_right : Binds K fd__law_right ["_law_draws_here", "_law_a_values"] []
  f_law : Addr
  fd_law : FuncData
  F_law : FunD K "law" "law" (defArgs (top 40)) (defBody (top 40)) (defScope (top 40)) [] [] f_law fd_law
  g_law : mg "law" = some (.ref f_law)
  b_law : Binds K fd_law ["_law_script"] []
  n_len : mg "len" = none
  n_range : mg "range" = none
  n_enumerate : mg "enumerate" = none
  n_isinstance : mg "isinstance" = none
  n_all : mg "all" = none
  n_list : mg "list" = none
  n_repr : mg "repr" = none
  n_int : mg "int" = none
  n_bool : mg "bool" = none
  n_tuple : mg "tuple" = none
  n_sorted : mg "sorted" = none
  n_max : mg "max" = none
  n_min : mg "min" = none
  i_MOST_PLACES : ∃ t, mg "MOST_PLACES" = some (.int 12 t)
  i_MOST_VALUES : ∃ t, mg "MOST_VALUES" = some (.int 60 t)
  i_MOST_PASSES : ∃ t, mg "MOST_PASSES" = some (.int 60 t)
  i_MOST_LEVELS : ∃ t, mg "MOST_LEVELS" = some (.int 12 t)
  kb_right_passes_needed_0_values : KwB K fd_right_passes_needed ["values"] 0 ["values"] [] [0]
  kb_carried_out_2_passes : KwB K fd_carried_out ["plan", "values", "passes"] 2 ["passes"] [] [0, 1, 2]
section
variable {P : Program} {w : World} {K : PySem.W.Frag} {mg : Str → Option Value} {base : Heap}
theorem sc_is_whole : FnScope ["thing"] ["thing"] (defScope (top 10)) := ⟨rfl, rfl, rfl, by decide +kernel, rfl, by decide +kernel, by decide +kernel⟩
def s_is_whole : S0 := (frt (vand (rd (pp1 (isiT "int") (vr 0))) (vnot (rd (pp1 (isiT "bool") (vr 0))))))
theorem ok_is_whole (c : Fc K mg) : FnG P w K mg base 1 c.f_is_whole c.fd_is_whole ["thing"] (spG K [.sh] .sh (runF [.sh] 1 s_is_whole)) :=
  fnG_body c.F_is_whole sc_is_whole (Γp := [.sh]) (ρr := .sh) (C := { Γr := [.sh], ρr := .sh, Γl := [], M := [] }) (Γ' := [.sh]) (b := s_is_whole) rfl rfl rfl (own_in (by rfl)) (by rfl) fun cdv A outer s H E hg room => (ss_one (ss_ret (se_and (PL.se (pl_isi (fun h => pe_callB call_isi (by rfl) c.n_isinstance boot_isinstance h) (by rfl) c.n_int boot_int (pl_var 0))) (se_and1 (se_not (PL.se (pl_isi (fun h => pe_callB call_isi (by rfl) c.n_isinstance boot_isinstance h) (by rfl) c.n_bool boot_bool (pl_var 0))))))))
theorem sc_is_entry : FnScope ["thing", "size"] ["thing", "size"] (defScope (top 11)) := ⟨rfl, rfl, rfl, by decide +kernel, rfl, by decide +kernel, by decide +kernel⟩
def s_is_entry : S0 := (frt (vor (rd (pp2 isN (vr 0) (kc .non))) (vand (F0.bind (F0.bind (rd (vr 0)) fun a => F0.bind (F0.pure []) fun b => F0.pure (a :: b)) fun ts => fcall ([none] ++ ([] : List T).map fun _ => none) (runF [.sh] 1 (s_is_whole)) (ts ++ [])) (rd (pchn (cmpS fun i j => decide (i ≤ j)) (cmpS fun i j => decide (i < j)) (kc (.int 0)) (vr 0) (vr 1))))))
theorem ok_is_entry (c : Fc K mg) : FnG P w K mg base 2 c.f_is_entry c.fd_is_entry ["thing", "size"] (spG K [.sh, .sh] .sh (runF [.sh, .sh] 2 s_is_entry)) :=
  fnG_body c.F_is_entry sc_is_entry (Γp := [.sh, .sh]) (ρr := .sh) (C := { Γr := [.sh, .sh], ρr := .sh, Γl := [], M := [] }) (Γ' := [.sh, .sh]) (b := s_is_entry) rfl rfl rfl (own_in (by rfl)) (by rfl) fun cdv A outer s H E hg room => (ss_one (ss_ret (se_or (PL.se (pl_two (fun a b => pe_cmpR (op_isN) a b (nomark _)) b_isN (pl_var 0) pl_non)) (se_and1 (se_and (se_fn ((ok_is_whole c).mono (by omega)) hg room (takes_of rfl rfl rfl rfl) (by rfl) c.g_is_whole c.F_is_whole.kp c.b_is_whole .nil .nil (ag_cons (PL.se (pl_var 0)) ag_nil) (hh := hh_no (by rfl))) (se_and1 (PL.se (pl_chn (op_le) (op_lt) b_cmp b_cmp pl_int (pl_var 0) (pl_var 1)))))))))
theorem sc_check_plan : FnScope ["plan", "place", "pair", "thing"] ["plan"] (defScope (top 12)) := ⟨rfl, rfl, rfl, by decide +kernel, rfl, by decide +kernel, by decide +kernel⟩
def s_check_plan_C1 : F0 T := (flc (F0.bind (rd (vr 2)) (lf T.tup?)) (gset 3) [3] (F0.pure true) (F0.bind (F0.bind (rd (vr 3)) fun a => F0.bind (F0.bind (rd (pp1 lenT (vr 0))) fun a => F0.bind (F0.pure []) fun b => F0.pure (a :: b)) fun b => F0.pure (a :: b)) fun ts => fcall ([none, none] ++ ([] : List T).map fun _ => none) (runF [.sh, .sh] 2 (s_is_entry)) (ts ++ [])))
def s_check_plan_L1 : S0 := (fif (tor (tnot (F0.bind (rd (pp1 (isiT "tuple") (vr 2))) (lf T.bl?))) (tor (F0.bind (F0.bind (rd (pp1 lenT (vr 2))) fun a => F0.bind (rd (kc (.int 2))) fun b => lf (neT a) b) (lf T.bl?)) (tnot (F0.bind (F0.bind s_check_plan_C1 (lf allT)) (lf T.bl?))))) fno fnx)
def s_check_plan : S0 := (fsq (fif (tor (tnot (F0.bind (rd (pp1 (isiT "list") (vr 0))) (lf T.bl?))) (F0.bind (F0.bind (rd (pp1 lenT (vr 0))) fun a => F0.bind (rd (kc (.int 12))) fun b => lf ((cmpS fun i j => decide (j < i)) a) b) (lf T.bl?))) fno fnx) (afI (F0.bind (F0.bind (rd (vr 0)) (lf T.lst?)) (lf fun ts => some (enumT ts))) (ffor (gtup 2 (gcons (gset 1) (gcons (gset 2) gnil))) s_check_plan_L1)))
theorem ok_check_plan (c : Fc K mg) : FnG P w K mg base 3 c.f_check_plan c.fd_check_plan ["plan"] (spG K [.sh] .sh (runF [.sh] 4 s_check_plan)) :=
  fnG_body c.F_check_plan sc_check_plan (Γp := [.sh]) (ρr := .sh) (C := { Γr := [.sh, .sh, .sh, .sh], ρr := .sh, Γl := [], M := [] }) (Γ' := [.sh, .sh, .sh, .sh]) (b := s_check_plan) rfl rfl rfl (own_in (by rfl)) (by rfl) fun cdv A outer s H E hg room => (ss_cons (ss_if (SW.st (sw_or (st_not (st_pl (pl_isi (fun h => pe_callB call_isi (by rfl) c.n_isinstance boot_isinstance h) (by rfl) c.n_list boot_list (pl_var 0)))) (sw_or1 (st_two (op_gt) b_cmp (SE.oe (PL.se (pl_one (fun h => pe_callB call_len (by rfl) c.n_len boot_len h) c_len (pl_var 0)))) (SE.oe (PL.se (pl_gint (by rfl) c.i_MOST_PLACES))) (nomark _))))) (ss_one ss_never) ss_nil) (ss_one (ss_for (Γl := [.sh, .sh, .sh, .sh]) (passes_of rfl) rfl (si_enum (by rfl) c.n_enumerate (SE.lo (PL.se (pl_var 0)))) (by rfl) (tg_tup (fun h => pg_tup rfl h) (tg_cons (tg_name 1 sc_check_plan.nd) (tg_cons (tg_name 2 sc_check_plan.nd) tg_nil (hp := pgs_cons (tg_name 2 sc_check_plan.nd) tg_nil)) (hp := pgs_cons (tg_name 1 sc_check_plan.nd) (tg_cons (tg_name 2 sc_check_plan.nd) tg_nil (hp := pgs_cons (tg_name 2 sc_check_plan.nd) tg_nil))))) (ss_one (ss_if (SW.st (sw_or (st_not (st_pl (pl_isi (fun h => pe_callB call_isi (by rfl) c.n_isinstance boot_isinstance h) (by rfl) c.n_tuple boot_tuple (pl_var 2)))) (sw_or (st_two ((op_neD room.eq).or op_ne) b_ne (SE.oe (PL.se (pl_one (fun h => pe_callB call_len (by rfl) c.n_len boot_len h) c_len (pl_var 2)))) (SE.oe (PL.se pl_int)) (nomark _)) (sw_or1 (st_not (st_val (se_one (fun h => pe_callB (cr_all (by rfl)) (by rfl) c.n_all boot_all h) c_all (SE.oe (se_lc (Γl := [.sh, .sh, .sh, .sh]) (own := [("thing", 3)]) rfl sc_check_plan.nd (blkOk_by (by rfl)) (si_tup (SE.oe (PL.se (pl_var 2)))) (by decide) (by rfl) (by decide) (by rfl) (cl_name (by decide)) (fun _ _ _ _ _ => (tg_name 3 sc_check_plan.nd)) (fun _ _ _ _ _ => sp_nil) (fun _ _ _ _ _ => (se_fn ((ok_is_entry c).mono (by omega)) hg room takes0 (by rfl) c.g_is_entry c.F_is_entry.kp c.b_is_entry .nil .nil (ag_cons (PL.se (pl_var 3)) (ag_cons (PL.se (pl_one (fun h => pe_callB call_len (by rfl) c.n_len boot_len h) c_len (pl_var 0))) ag_nil)) (hh := hh_no (by rfl)))) (by rfl) (by rfl)))))))))) (ss_one ss_never) ss_nil)) (by rfl))))
theorem sc_check_values : FnScope ["values", "index", "value"] ["values"] (defScope (top 13)) := ⟨rfl, rfl, rfl, by decide +kernel, rfl, by decide +kernel, by decide +kernel⟩
def s_check_values_L1 : S0 := (fif (tnot (F0.bind (F0.bind (F0.bind (rd (vr 2)) fun a => F0.bind (F0.pure []) fun b => F0.pure (a :: b)) fun ts => fcall ([none] ++ ([] : List T).map fun _ => none) (runF [.sh] 1 (s_is_whole)) (ts ++ [])) (lf T.bl?))) fno fnx)
def s_check_values : S0 := (fsq (fif (tor (tnot (F0.bind (rd (pp1 (isiT "list") (vr 0))) (lf T.bl?))) (F0.bind (F0.bind (rd (pp1 lenT (vr 0))) fun a => F0.bind (rd (kc (.int 60))) fun b => lf ((cmpS fun i j => decide (j < i)) a) b) (lf T.bl?))) fno fnx) (afI (F0.bind (F0.bind (rd (vr 0)) (lf T.lst?)) (lf fun ts => some (enumT ts))) (ffor (gtup 2 (gcons (gset 1) (gcons (gset 2) gnil))) s_check_values_L1)))
theorem ok_check_values (c : Fc K mg) : FnG P w K mg base 2 c.f_check_values c.fd_check_values ["values"] (spG K [.sh] .sh (runF [.sh] 3 s_check_values)) :=
  fnG_body c.F_check_values sc_check_values (Γp := [.sh]) (ρr := .sh) (C := { Γr := [.sh, .sh, .sh], ρr := .sh, Γl := [], M := [] }) (Γ' := [.sh, .sh, .sh]) (b := s_check_values) rfl rfl rfl (own_in (by rfl)) (by rfl) fun cdv A outer s H E hg room => (ss_cons (ss_if (SW.st (sw_or (st_not (st_pl (pl_isi (fun h => pe_callB call_isi (by rfl) c.n_isinstance boot_isinstance h) (by rfl) c.n_list boot_list (pl_var 0)))) (sw_or1 (st_two (op_gt) b_cmp (SE.oe (PL.se (pl_one (fun h => pe_callB call_len (by rfl) c.n_len boot_len h) c_len (pl_var 0)))) (SE.oe (PL.se (pl_gint (by rfl) c.i_MOST_VALUES))) (nomark _))))) (ss_one ss_never) ss_nil) (ss_one (ss_for (Γl := [.sh, .sh, .sh]) (passes_of rfl) rfl (si_enum (by rfl) c.n_enumerate (SE.lo (PL.se (pl_var 0)))) (by rfl) (tg_tup (fun h => pg_tup rfl h) (tg_cons (tg_name 1 sc_check_values.nd) (tg_cons (tg_name 2 sc_check_values.nd) tg_nil (hp := pgs_cons (tg_name 2 sc_check_values.nd) tg_nil)) (hp := pgs_cons (tg_name 1 sc_check_values.nd) (tg_cons (tg_name 2 sc_check_values.nd) tg_nil (hp := pgs_cons (tg_name 2 sc_check_values.nd) tg_nil))))) (ss_one (ss_if (st_not (st_val (se_fn ((ok_is_whole c).mono (by omega)) hg room (takes_of rfl rfl rfl rfl) (by rfl) c.g_is_whole c.F_is_whole.kp c.b_is_whole .nil .nil (ag_cons (PL.se (pl_var 2)) ag_nil) (hh := hh_no (by rfl))))) (ss_one ss_never) ss_nil)) (by rfl))))
theorem sc_check_passes : FnScope ["passes"] ["passes"] (defScope (top 14)) := ⟨rfl, rfl, rfl, by decide +kernel, rfl, by decide +kernel, by decide +kernel⟩
def s_check_passes : S0 := (fif (tor (tnot (F0.bind (F0.bind (F0.bind (rd (vr 0)) fun a => F0.bind (F0.pure []) fun b => F0.pure (a :: b)) fun ts => fcall ([none] ++ ([] : List T).map fun _ => none) (runF [.sh] 1 (s_is_whole)) (ts ++ [])) (lf T.bl?))) (tnot (F0.bind (rd (pchn (cmpS fun i j => decide (i ≤ j)) (cmpS fun i j => decide (i ≤ j)) (kc (.int 0)) (vr 0) (kc (.int 60)))) (lf T.bl?)))) fno fnx)
theorem ok_check_passes (c : Fc K mg) : FnG P w K mg base 2 c.f_check_passes c.fd_check_passes ["passes"] (spG K [.sh] .sh (runF [.sh] 1 s_check_passes)) :=
  fnG_body c.F_check_passes sc_check_passes (Γp := [.sh]) (ρr := .sh) (C := { Γr := [.sh], ρr := .sh, Γl := [], M := [] }) (Γ' := [.sh]) (b := s_check_passes) rfl rfl rfl (own_in (by rfl)) (by rfl) fun cdv A outer s H E hg room => (ss_one (ss_if (SW.st (sw_or (st_not (st_val (se_fn ((ok_is_whole c).mono (by omega)) hg room (takes_of rfl rfl rfl rfl) (by rfl) c.g_is_whole c.F_is_whole.kp c.b_is_whole .nil .nil (ag_cons (PL.se (pl_var 0)) ag_nil) (hh := hh_no (by rfl))))) (sw_or1 (st_not (st_chn (op_le) (op_le) b_cmp b_cmp pl_int (pl_var 0) (pl_gint (by rfl) c.i_MOST_PASSES)))))) (ss_one ss_never) ss_nil))
theorem sc_check_place : FnScope ["values", "place"] ["values", "place"] (defScope (top 15)) := ⟨rfl, rfl, rfl, by decide +kernel, rfl, by decide +kernel, by decide +kernel⟩
def s_check_place : S0 := (fif (tor (tnot (F0.bind (F0.bind (F0.bind (rd (vr 1)) fun a => F0.bind (F0.pure []) fun b => F0.pure (a :: b)) fun ts => fcall ([none] ++ ([] : List T).map fun _ => none) (runF [.sh] 1 (s_is_whole)) (ts ++ [])) (lf T.bl?))) (tnot (F0.bind (rd (pchn (cmpS fun i j => decide (i ≤ j)) (cmpS fun i j => decide (i < j)) (kc (.int 0)) (vr 1) (pp1 lenT (vr 0)))) (lf T.bl?)))) fno fnx)
theorem ok_check_place (c : Fc K mg) : FnG P w K mg base 2 c.f_check_place c.fd_check_place ["values", "place"] (spG K [.sh, .sh] .sh (runF [.sh, .sh] 2 s_check_place)) :=
  fnG_body c.F_check_place sc_check_place (Γp := [.sh, .sh]) (ρr := .sh) (C := { Γr := [.sh, .sh], ρr := .sh, Γl := [], M := [] }) (Γ' := [.sh, .sh]) (b := s_check_place) rfl rfl rfl (own_in (by rfl)) (by rfl) fun cdv A outer s H E hg room => (ss_one (ss_if (SW.st (sw_or (st_not (st_val (se_fn ((ok_is_whole c).mono (by omega)) hg room (takes_of rfl rfl rfl rfl) (by rfl) c.g_is_whole c.F_is_whole.kp c.b_is_whole .nil .nil (ag_cons (PL.se (pl_var 1)) ag_nil) (hh := hh_no (by rfl))))) (sw_or1 (st_not (st_chn (op_le) (op_lt) b_cmp b_cmp pl_int (pl_var 1) (pl_one (fun h => pe_callB call_len (by rfl) c.n_len boot_len h) c_len (pl_var 0))))))) (ss_one ss_never) ss_nil))
theorem sc_begin_of : FnScope ["plan"] ["plan"] (defScope (top 16)) := ⟨rfl, rfl, rfl, by decide +kernel, rfl, by decide +kernel, by decide +kernel⟩
def s_begin_of : S0 := (frt (vif (F0.bind (F0.bind (rd (vr 0)) fun a => F0.bind (F0.bind (F0.pure []) (lf mkL)) fun b => lf (neT a) b) (lf T.bl?)) (rd (kc (.int 0))) (rd (kc .non))))
theorem ok_begin_of (c : Fc K mg) : FnG P w K mg base 1 c.f_begin_of c.fd_begin_of ["plan"] (spG K [.sh] .sh (runF [.sh] 1 s_begin_of)) :=
  fnG_body c.F_begin_of sc_begin_of (Γp := [.sh]) (ρr := .sh) (C := { Γr := [.sh], ρr := .sh, Γl := [], M := [] }) (Γ' := [.sh]) (b := s_begin_of) rfl rfl rfl (own_in (by rfl)) (by rfl) fun cdv A outer s H E hg room => (ss_one (ss_ret (se_if (st_two ((op_neD room.eq).or op_ne) b_ne (SE.oe (PL.se (pl_var 0))) (SE.oe (se_lst (i := .sh) sa_nil)) (nomark _)) (PL.se pl_int) (PL.se pl_non))))
theorem sc_after : FnScope ["plan", "place", "values", "pivot", "left", "right", "less", "others", "value"] ["plan", "place", "values"] (defScope (top 17)) := ⟨rfl, rfl, rfl, by decide +kernel, rfl, by decide +kernel, by decide +kernel⟩
def s_after_C1 : F0 T := (flc (F0.bind (F0.bind (rd (vr 2)) fun a => F0.bind (F0.bind (F0.bind (rd (kc (.int 1))) (lf fun t => t.int?.map some)) fun l => F0.bind (F0.pure none) fun u => F0.pure (l, u)) fun p => lf (slT a) p) (lf T.lst?)) (gset 8) [8] (F0.bind (F0.bind (rd (vr 8)) fun a => F0.bind (rd (vr 3)) fun b => lf ((cmpS fun i j => decide (i < j)) a) b) (lf T.bl?)) (rd (vr 8)))
def s_after_C2 : F0 T := (flc (F0.bind (F0.bind (rd (vr 2)) fun a => F0.bind (F0.bind (F0.bind (rd (kc (.int 1))) (lf fun t => t.int?.map some)) fun l => F0.bind (F0.pure none) fun u => F0.pure (l, u)) fun p => lf (slT a) p) (lf T.lst?)) (gset 8) [8] (F0.bind (F0.bind (rd (vr 8)) fun a => F0.bind (rd (vr 3)) fun b => lf ((cmpS fun i j => decide (j ≤ i)) a) b) (lf T.bl?)) (rd (vr 8)))
def s_after : Nat → S0
  | 0 => fno
  | n + 1 => (fsq (fif (tor (F0.bind (F0.bind (rd (vr 1)) fun a => F0.bind (rd (kc .non)) fun b => lf (isN a) b) (lf T.bl?)) (F0.bind (F0.bind (rd (vr 2)) fun a => F0.bind (F0.bind (F0.pure []) (lf mkL)) fun b => lf (eqT a) b) (lf T.bl?))) (frt (F0.bind (F0.bind (rd (vr 2)) fun a => F0.bind (F0.pure []) fun b => F0.pure (a :: b)) (lf (one listT)))) fnx) (fsq (fasg (gtup 3 (gcons (gset 3) (gcons (gset 4) (gcons (gset 5) gnil)))) (F0.bind (F0.bind (rd (pp2 ixT (vr 2) (kc (.int 0)))) fun a => F0.bind (F0.bind (rd (pp2 ixT (pp2 ixT (vr 0) (vr 1)) (kc (.int 0)))) fun a => F0.bind (F0.bind (rd (pp2 ixT (pp2 ixT (vr 0) (vr 1)) (kc (.int 1)))) fun a => F0.bind (F0.pure []) fun b => F0.pure (a :: b)) fun b => F0.pure (a :: b)) fun b => F0.pure (a :: b)) (lf mkT))) (fsq (fset 6 s_after_C1) (fsq (fset 7 s_after_C2) (frt (F0.bind (F0.bind (F0.bind (F0.bind (rd (vr 0)) fun a => F0.bind (F0.bind (rd (vr 4)) fun a => F0.bind (fun E => (vr 6 E).bind fun _ => (F0.bind (F0.pure []) fun b => F0.pure (.non :: b)) E) fun b => F0.pure (a :: b)) fun b => F0.pure (a :: b)) fun ts => fcall ([none, none, some 6] ++ ([] : List T).map fun _ => none) (runF [.sh, .sh, .ow .sh] 9 ((s_after n))) (ts ++ [])) fun a => F0.bind (lf T.seq? a) fun xs => F0.bind (F0.bind (rd (vr 3)) fun a => F0.bind (F0.bind (F0.bind (F0.bind (rd (vr 0)) fun a => F0.bind (F0.bind (rd (vr 5)) fun a => F0.bind (fun E => (vr 7 E).bind fun _ => (F0.bind (F0.pure []) fun b => F0.pure (.non :: b)) E) fun b => F0.pure (a :: b)) fun b => F0.pure (a :: b)) fun ts => fcall ([none, none, some 7] ++ ([] : List T).map fun _ => none) (runF [.sh, .sh, .ow .sh] 9 ((s_after n))) (ts ++ [])) fun a => F0.bind (lf T.seq? a) fun xs => F0.bind (F0.pure []) fun b => F0.pure (xs ++ b)) fun b => F0.pure (a :: b)) fun b => F0.pure (xs ++ b)) (lf mkL)))))))
theorem ok_after (c : Fc K mg) : ∀ n : Nat, FnG P w K mg base (n + 1) c.f_after c.fd_after ["plan", "place", "values"] (spG K [.sh, .sh, .ow .sh] (.ow .sh) (runF [.sh, .sh, .ow .sh] 9 (s_after n)))
  | 0 => fnG_zero
  | n + 1 => by
    have ih := ok_after c n
    exact fnG_body c.F_after sc_after (Γp := [.sh, .sh, .ow .sh]) (ρr := (.ow .sh)) (C := { Γr := [.sh, .sh, .ow .sh, .sh, .sh, .sh, .sh, .sh, .sh], ρr := (.ow .sh), Γl := [], M := [2] }) (Γ' := [.sh, .sh, .ow .sh, .sh, .sh, .sh, .sh, .sh, .sh]) (b := s_after (n + 1)) rfl rfl rfl (own_in (by rfl)) (by rfl) fun cdv A outer s H E hg room => (ss_cons (ss_if (SW.st (sw_or (st_two (op_isN) b_isN (SE.oe (PL.se (pl_var 1))) (SE.oe (PL.se pl_non)) (nomark _)) (sw_or1 (st_two ((op_eqD room.eq).or op_eq) b_eq (PL.oe (pl_var 2)) (SE.oe (se_lst (i := .sh) sa_nil)) (nomark _))))) (ss_one (ss_ret (se_call (fun h => pe_callTy call_list_of (by rfl) c.n_list boot_list h) c_list (oa_cons (PL.oe (pl_var 2)) oa_nil)))) ss_nil) (ss_cons (ss_asg (se_tup (sa_cons (PL.se (pl_ix (pl_var 2) pl_int)) (sa_cons (PL.se (pl_ix (pl_ix (pl_var 0) (pl_var 1)) pl_int)) (sa_cons (PL.se (pl_ix (pl_ix (pl_var 0) (pl_var 1)) pl_int)) sa_nil)))) (tg_tup (fun h => pg_tup rfl h) (tg_cons (tg_name 3 sc_after.nd) (tg_cons (tg_name 4 sc_after.nd) (tg_cons (tg_name 5 sc_after.nd) tg_nil (hp := pgs_cons (tg_name 5 sc_after.nd) tg_nil)) (hp := pgs_cons (tg_name 4 sc_after.nd) (tg_cons (tg_name 5 sc_after.nd) tg_nil (hp := pgs_cons (tg_name 5 sc_after.nd) tg_nil)))) (hp := pgs_cons (tg_name 3 sc_after.nd) (tg_cons (tg_name 4 sc_after.nd) (tg_cons (tg_name 5 sc_after.nd) tg_nil (hp := pgs_cons (tg_name 5 sc_after.nd) tg_nil)) (hp := pgs_cons (tg_name 4 sc_after.nd) (tg_cons (tg_name 5 sc_after.nd) tg_nil (hp := pgs_cons (tg_name 5 sc_after.nd) tg_nil)))))))) (ss_cons (ss_setLc 6 (Γl := [.sh, .sh, .ow .sh, .sh, .sh, .sh, .sh, .sh, .sh]) (own := [("value", 8)]) rfl sc_after.nd (blkOk_by (by rfl)) (si_list (SE.lo (se_sh (se_sl (PL.oe (pl_var 2)) (op_so (SE.oe (PL.se pl_int))) op_no)))) (by decide) (by rfl) (by decide) (by rfl) (cl_name (by decide)) (fun _ _ _ _ _ => (tg_name 8 sc_after.nd)) (fun _ _ _ _ _ => (sp_one (st_two (op_lt) b_cmp (SE.oe (PL.se (pl_var 8))) (SE.oe (PL.se (pl_var 3))) (nomark _)))) (fun _ _ _ _ _ => (PL.se (pl_var 8))) (by rfl) (by rfl) (hsw := sw_true rfl rfl rfl rfl)) (ss_cons (ss_setLc 7 (Γl := [.sh, .sh, .ow .sh, .sh, .sh, .sh, .ow .sh, .sh, .sh]) (own := [("value", 8)]) rfl sc_after.nd (blkOk_by (by rfl)) (si_list (SE.lo (se_sh (se_sl (PL.oe (pl_var 2)) (op_so (SE.oe (PL.se pl_int))) op_no)))) (by decide) (by rfl) (by decide) (by rfl) (cl_name (by decide)) (fun _ _ _ _ _ => (tg_name 8 sc_after.nd)) (fun _ _ _ _ _ => (sp_one (st_two (op_ge) b_cmp (SE.oe (PL.se (pl_var 8))) (SE.oe (PL.se (pl_var 3))) (nomark _)))) (fun _ _ _ _ _ => (PL.se (pl_var 8))) (by rfl) (by rfl) (hsw := sw_true rfl rfl rfl rfl)) (ss_one (ss_ret (se_lst (i := .sh) (sa_star (se_fn ih hg room (takes_of rfl rfl rfl rfl) (by rfl) c.g_after c.F_after.kp c.b_after .nil .nil (ag_cons (PL.se (pl_var 0)) (ag_cons (PL.se (pl_var 4)) (ag_mu 6 ag_nil))) (hh := hh_of 6 (by rfl) ⟨_, by rfl⟩)) (sa_cons (PL.se (pl_var 3)) (sa_star (se_fn ih hg room (takes_of rfl rfl rfl rfl) (by rfl) c.g_after c.F_after.kp c.b_after .nil .nil (ag_cons (PL.se (pl_var 0)) (ag_cons (PL.se (pl_var 5)) (ag_mu 7 ag_nil))) (hh := hh_of 7 (by rfl) ⟨_, by rfl⟩)) sa_nil))))))))))
theorem sc_once : FnScope ["plan", "values"] ["plan", "values"] (defScope (top 18)) := ⟨rfl, rfl, rfl, by decide +kernel, rfl, by decide +kernel, by decide +kernel⟩
def s_once : S0 := (frt (F0.bind (F0.bind (rd (vr 0)) fun a => F0.bind (F0.bind (F0.bind (F0.bind (rd (vr 0)) fun a => F0.bind (F0.pure []) fun b => F0.pure (a :: b)) fun ts => fcall ([none] ++ ([] : List T).map fun _ => none) (runF [.sh] 1 (s_begin_of)) (ts ++ [])) fun a => F0.bind (fun E => (vr 1 E).bind fun _ => (F0.bind (F0.pure []) fun b => F0.pure (.non :: b)) E) fun b => F0.pure (a :: b)) fun b => F0.pure (a :: b)) fun ts => fcall ([none, none, some 1] ++ ([] : List T).map fun _ => none) (runF [.sh, .sh, .ow .sh] 9 (s_after 70)) (ts ++ [])))
theorem ok_once (c : Fc K mg) : FnG P w K mg base 72 c.f_once c.fd_once ["plan", "values"] (spG K [.sh, .ow .sh] (.ow .sh) (runF [.sh, .ow .sh] 2 s_once)) :=
  fnG_body c.F_once sc_once (Γp := [.sh, .ow .sh]) (ρr := (.ow .sh)) (C := { Γr := [.sh, .ow .sh], ρr := (.ow .sh), Γl := [], M := [1] }) (Γ' := [.sh, .ow .sh]) (b := s_once) rfl rfl rfl (own_in (by rfl)) (by rfl) fun cdv A outer s H E hg room => (ss_one (ss_ret (se_fn ((ok_after c 70).mono (by omega)) hg room (takes_of rfl rfl rfl rfl) (by rfl) c.g_after c.F_after.kp c.b_after .nil .nil (ag_cons (PL.se (pl_var 0)) (ag_cons (se_fn ((ok_begin_of c).mono (by omega)) hg room (takes_of rfl rfl rfl rfl) (by rfl) c.g_begin_of c.F_begin_of.kp c.b_begin_of .nil .nil (ag_cons (PL.se (pl_var 0)) ag_nil) (hh := hh_no (by rfl))) (ag_mu 1 ag_nil))) (hh := hh_of 1 (by rfl) ⟨_, by rfl⟩))))
theorem sc_after_passes : FnScope ["plan", "values", "passes", "told", "step", "more"] ["plan", "values", "passes"] (defScope (top 19)) := ⟨rfl, rfl, rfl, by decide +kernel, rfl, by decide +kernel, by decide +kernel⟩
def s_after_passes_L1 : S0 := (fsq (fset 5 (F0.bind (F0.bind (rd (vr 0)) fun a => F0.bind (fun E => (vr 3 E).bind fun _ => (F0.bind (F0.pure []) fun b => F0.pure (.non :: b)) E) fun b => F0.pure (a :: b)) fun ts => fcall ([none, some 3] ++ ([] : List T).map fun _ => none) (runF [.sh, .ow .sh] 2 (s_once)) (ts ++ []))) (fsq (fif (F0.bind (F0.bind (rd (vr 5)) fun a => F0.bind (rd (vr 3)) fun b => lf (eqT a) b) (lf T.bl?)) (frt (mv 3)) fnx) (fset 3 (mv 5))))
def s_after_passes : S0 := (fsq (fset 3 (F0.bind (F0.bind (rd (vr 1)) fun a => F0.bind (F0.pure []) fun b => F0.pure (a :: b)) (lf (one listT)))) (fsq (afI (F0.bind (rd (vr 2)) (lf fun t => rng1 [t])) (ffor (gset 4) s_after_passes_L1)) (frt (mv 3))))
theorem ok_after_passes (c : Fc K mg) : FnG P w K mg base 73 c.f_after_passes c.fd_after_passes ["plan", "values", "passes"] (spG K [.sh, .sh, .sh] (.ow .sh) (runF [.sh, .sh, .sh] 6 s_after_passes)) :=
  fnG_body c.F_after_passes sc_after_passes (Γp := [.sh, .sh, .sh]) (ρr := (.ow .sh)) (C := { Γr := [.sh, .sh, .sh, .sh, .sh, .sh], ρr := (.ow .sh), Γl := [], M := [] }) (Γ' := [.sh, .sh, .sh, .sh, .sh, .sh]) (b := s_after_passes) rfl rfl rfl (own_in (by rfl)) (by rfl) fun cdv A outer s H E hg room => (ss_cons (ss_set 3 (se_call (fun h => pe_callTy call_list_of (by rfl) c.n_list boot_list h) c_list (oa_cons (SE.oe (PL.se (pl_var 1))) oa_nil)) sc_after_passes.nd) (ss_cons (ss_for (Γl := [.sh, .sh, .sh, .ow .sh, .sh, .sh]) (passes_of rfl) rfl (si_rng1 (by rfl) c.n_range (SE.oe (PL.se (pl_var 2)))) (by rfl) (tg_name 4 sc_after_passes.nd) (ss_cons (ss_set 5 (se_fn ((ok_once c).mono (by omega)) hg room (takes_of rfl rfl rfl rfl) (by rfl) c.g_once c.F_once.kp c.b_once .nil .nil (ag_cons (PL.se (pl_var 0)) (ag_mu 3 ag_nil)) (hh := hh_of 3 (by rfl) ⟨_, by rfl⟩)) sc_after_passes.nd) (ss_cons (ss_if (st_two ((op_eqD room.eq).or op_eq) b_eq (PL.oe (pl_var 5)) (PL.oe (pl_var 3)) (nomark _)) (ss_one (ss_ret (se_move 3))) ss_nil) (ss_one (ss_set 3 (se_move 5) sc_after_passes.nd)))) (by rfl)) (ss_one (ss_ret (se_move 3)))))
theorem sc_carried_out : FnScope ["plan", "values", "passes"] ["plan", "values", "passes"] (defScope (top 20)) := ⟨rfl, rfl, rfl, by decide +kernel, rfl, by decide +kernel, by decide +kernel⟩
def s_carried_out : S0 := (fsq (fdo (F0.bind (F0.bind (rd (vr 0)) fun a => F0.bind (F0.pure []) fun b => F0.pure (a :: b)) fun ts => fcall ([none] ++ ([] : List T).map fun _ => none) (runF [.sh] 4 (s_check_plan)) (ts ++ []))) (fsq (fdo (F0.bind (F0.bind (rd (vr 1)) fun a => F0.bind (F0.pure []) fun b => F0.pure (a :: b)) fun ts => fcall ([none] ++ ([] : List T).map fun _ => none) (runF [.sh] 3 (s_check_values)) (ts ++ []))) (fsq (fdo (F0.bind (F0.bind (rd (vr 2)) fun a => F0.bind (F0.pure []) fun b => F0.pure (a :: b)) fun ts => fcall ([none] ++ ([] : List T).map fun _ => none) (runF [.sh] 1 (s_check_passes)) (ts ++ []))) (frt (F0.bind (F0.bind (rd (vr 0)) fun a => F0.bind (F0.bind (rd (vr 1)) fun a => F0.bind (F0.bind (rd (vr 2)) fun a => F0.bind (F0.pure []) fun b => F0.pure (a :: b)) fun b => F0.pure (a :: b)) fun b => F0.pure (a :: b)) fun ts => fcall ([none, none, none] ++ ([] : List T).map fun _ => none) (runF [.sh, .sh, .sh] 6 (s_after_passes)) (ts ++ []))))))
theorem ok_carried_out (c : Fc K mg) : FnG P w K mg base 74 c.f_carried_out c.fd_carried_out ["plan", "values", "passes"] (spG K [.sh, .sh, .sh] (.ow .sh) (runF [.sh, .sh, .sh] 3 s_carried_out)) :=
  fnG_body c.F_carried_out sc_carried_out (Γp := [.sh, .sh, .sh]) (ρr := (.ow .sh)) (C := { Γr := [.sh, .sh, .sh], ρr := (.ow .sh), Γl := [], M := [] }) (Γ' := [.sh, .sh, .sh]) (b := s_carried_out) rfl rfl rfl (own_in (by rfl)) (by rfl) fun cdv A outer s H E hg room => (ss_cons (ss_expr (se_fn ((ok_check_plan c).mono (by omega)) hg room (takes_of rfl rfl rfl rfl) (by rfl) c.g_check_plan c.F_check_plan.kp c.b_check_plan .nil .nil (ag_cons (PL.se (pl_var 0)) ag_nil) (hh := hh_no (by rfl)))) (ss_cons (ss_expr (se_fn ((ok_check_values c).mono (by omega)) hg room (takes_of rfl rfl rfl rfl) (by rfl) c.g_check_values c.F_check_values.kp c.b_check_values .nil .nil (ag_cons (PL.se (pl_var 1)) ag_nil) (hh := hh_no (by rfl)))) (ss_cons (ss_expr (se_fn ((ok_check_passes c).mono (by omega)) hg room (takes_of rfl rfl rfl rfl) (by rfl) c.g_check_passes c.F_check_passes.kp c.b_check_passes .nil .nil (ag_cons (PL.se (pl_var 2)) ag_nil) (hh := hh_no (by rfl)))) (ss_one (ss_ret (se_fn ((ok_after_passes c).mono (by omega)) hg room (takes_of rfl rfl rfl rfl) (by rfl) c.g_after_passes c.F_after_passes.kp c.b_after_passes .nil .nil (ag_cons (PL.se (pl_var 0)) (ag_cons (PL.se (pl_var 1)) (ag_cons (PL.se (pl_var 2)) ag_nil))) (hh := hh_no (by rfl))))))))
theorem sc_check_number : FnScope ["number", "most"] ["number", "most"] (defScope (top 23)) := ⟨rfl, rfl, rfl, by decide +kernel, rfl, by decide +kernel, by decide +kernel⟩
def s_check_number : S0 := (fif (tor (tnot (F0.bind (F0.bind (F0.bind (rd (vr 0)) fun a => F0.bind (F0.pure []) fun b => F0.pure (a :: b)) fun ts => fcall ([none] ++ ([] : List T).map fun _ => none) (runF [.sh] 1 (s_is_whole)) (ts ++ [])) (lf T.bl?))) (tnot (F0.bind (rd (pchn (cmpS fun i j => decide (i ≤ j)) (cmpS fun i j => decide (i ≤ j)) (kc (.int 0)) (vr 0) (vr 1))) (lf T.bl?)))) fno fnx)
theorem ok_check_number (c : Fc K mg) : FnG P w K mg base 2 c.f_check_number c.fd_check_number ["number", "most"] (spG K [.sh, .sh] .sh (runF [.sh, .sh] 2 s_check_number)) :=
  fnG_body c.F_check_number sc_check_number (Γp := [.sh, .sh]) (ρr := .sh) (C := { Γr := [.sh, .sh], ρr := .sh, Γl := [], M := [] }) (Γ' := [.sh, .sh]) (b := s_check_number) rfl rfl rfl (own_in (by rfl)) (by rfl) fun cdv A outer s H E hg room => (ss_one (ss_if (SW.st (sw_or (st_not (st_val (se_fn ((ok_is_whole c).mono (by omega)) hg room (takes_of rfl rfl rfl rfl) (by rfl) c.g_is_whole c.F_is_whole.kp c.b_is_whole .nil .nil (ag_cons (PL.se (pl_var 0)) ag_nil) (hh := hh_no (by rfl))))) (sw_or1 (st_not (st_chn (op_le) (op_le) b_cmp b_cmp pl_int (pl_var 0) (pl_var 1)))))) (ss_one ss_never) ss_nil))
theorem sc_falling_ahead : FnScope ["values", "place", "told", "least", "value"] ["values", "place"] (defScope (top 24)) := ⟨rfl, rfl, rfl, by decide +kernel, rfl, by decide +kernel, by decide +kernel⟩
def s_falling_ahead_L1 : S0 := (fif (tand (F0.bind (F0.bind (rd (vr 4)) fun a => F0.bind (rd (pp2 ixT (vr 0) (vr 1))) fun b => lf ((cmpS fun i j => decide (j < i)) a) b) (lf T.bl?)) (tor (F0.bind (F0.bind (rd (vr 3)) fun a => F0.bind (rd (kc .non)) fun b => lf (isN a) b) (lf T.bl?)) (F0.bind (F0.bind (rd (vr 4)) fun a => F0.bind (rd (vr 3)) fun b => lf ((cmpS fun i j => decide (i < j)) a) b) (lf T.bl?)))) (fpar2 2 3 (F0.bind (rd (pp2 addS (vr 2) (kc (.int 1)))) fun a => F0.bind (F0.bind (rd (vr 4)) fun a => F0.bind (F0.pure []) fun b => F0.pure (a :: b)) fun b => F0.pure (a :: b))) fnx)
def s_falling_ahead : S0 := (fsq (fasg (gtup 2 (gcons (gset 2) (gcons (gset 3) gnil))) (F0.bind (F0.bind (rd (kc (.int 0))) fun a => F0.bind (F0.bind (rd (kc .non)) fun a => F0.bind (F0.pure []) fun b => F0.pure (a :: b)) fun b => F0.pure (a :: b)) (lf mkT))) (fsq (afI (F0.bind (F0.bind (rd (vr 0)) fun a => F0.bind (F0.bind (F0.pure none) fun l => F0.bind (F0.bind (rd (vr 1)) (lf fun t => t.int?.map some)) fun u => F0.pure (l, u)) fun p => lf (slT a) p) (lf T.lst?)) (ffor (gset 4) s_falling_ahead_L1)) (frt (rd (vr 2)))))
theorem ok_falling_ahead (c : Fc K mg) : FnG P w K mg base 1 c.f_falling_ahead c.fd_falling_ahead ["values", "place"] (spG K [.sh, .sh] .sh (runF [.sh, .sh] 5 s_falling_ahead)) :=
  fnG_body c.F_falling_ahead sc_falling_ahead (Γp := [.sh, .sh]) (ρr := .sh) (C := { Γr := [.sh, .sh, .sh, .sh, .sh], ρr := .sh, Γl := [], M := [] }) (Γ' := [.sh, .sh, .sh, .sh, .sh]) (b := s_falling_ahead) rfl rfl rfl (own_in (by rfl)) (by rfl) fun cdv A outer s H E hg room => (ss_cons (ss_asg (se_tup (sa_cons (PL.se pl_int) (sa_cons (PL.se pl_non) sa_nil))) (tg_tup (fun h => pg_tup rfl h) (tg_cons (tg_name 2 sc_falling_ahead.nd) (tg_cons (tg_name 3 sc_falling_ahead.nd) tg_nil (hp := pgs_cons (tg_name 3 sc_falling_ahead.nd) tg_nil)) (hp := pgs_cons (tg_name 2 sc_falling_ahead.nd) (tg_cons (tg_name 3 sc_falling_ahead.nd) tg_nil (hp := pgs_cons (tg_name 3 sc_falling_ahead.nd) tg_nil)))))) (ss_cons (ss_for (Γl := [.sh, .sh, .sh, .sh, .sh]) (passes_of rfl) rfl (si_list (SE.lo (se_sh (se_sl (SE.oe (PL.se (pl_var 0))) op_no (op_so (SE.oe (PL.se (pl_var 1)))))))) (by rfl) (tg_name 4 sc_falling_ahead.nd) (ss_one (ss_if (SW.st (sw_and (st_two (op_gt) b_cmp (SE.oe (PL.se (pl_var 4))) (SE.oe (PL.se (pl_ix (pl_var 0) (pl_var 1)))) (nomark _)) (sw_and1 (SW.st (sw_or (st_two (op_isN) b_isN (SE.oe (PL.se (pl_var 3))) (SE.oe (PL.se pl_non)) (nomark _)) (sw_or1 (st_two (op_lt) b_cmp (SE.oe (PL.se (pl_var 4))) (SE.oe (PL.se (pl_var 3))) (nomark _)))))))) (ss_one (ss_par rfl sc_falling_ahead.nd (sa_cons (PL.se (pl_two (fun a b => pe_op (op_add.or op_add_str) a b) b_add (pl_var 2) pl_int)) (sa_cons (PL.se (pl_var 4)) sa_nil)) rfl rfl)) ss_nil)) (by rfl)) (ss_one (ss_ret (PL.se (pl_var 2))))))
theorem sc_records_ahead : FnScope ["values", "place"] ["values", "place"] (defScope (top 25)) := ⟨rfl, rfl, rfl, by decide +kernel, rfl, by decide +kernel, by decide +kernel⟩
def s_records_ahead : S0 := (fsq (fdo (F0.bind (F0.bind (rd (vr 0)) fun a => F0.bind (F0.pure []) fun b => F0.pure (a :: b)) fun ts => fcall ([none] ++ ([] : List T).map fun _ => none) (runF [.sh] 3 (s_check_values)) (ts ++ []))) (fsq (fdo (F0.bind (F0.bind (rd (vr 0)) fun a => F0.bind (F0.bind (rd (vr 1)) fun a => F0.bind (F0.pure []) fun b => F0.pure (a :: b)) fun b => F0.pure (a :: b)) fun ts => fcall ([none, none] ++ ([] : List T).map fun _ => none) (runF [.sh, .sh] 2 (s_check_place)) (ts ++ []))) (frt (F0.bind (F0.bind (rd (vr 0)) fun a => F0.bind (F0.bind (rd (vr 1)) fun a => F0.bind (F0.pure []) fun b => F0.pure (a :: b)) fun b => F0.pure (a :: b)) fun ts => fcall ([none, none] ++ ([] : List T).map fun _ => none) (runF [.sh, .sh] 5 (s_falling_ahead)) (ts ++ [])))))
theorem ok_records_ahead (c : Fc K mg) : FnG P w K mg base 3 c.f_records_ahead c.fd_records_ahead ["values", "place"] (spG K [.sh, .sh] .sh (runF [.sh, .sh] 2 s_records_ahead)) :=
  fnG_body c.F_records_ahead sc_records_ahead (Γp := [.sh, .sh]) (ρr := .sh) (C := { Γr := [.sh, .sh], ρr := .sh, Γl := [], M := [] }) (Γ' := [.sh, .sh]) (b := s_records_ahead) rfl rfl rfl (own_in (by rfl)) (by rfl) fun cdv A outer s H E hg room => (ss_cons (ss_expr (se_fn ((ok_check_values c).mono (by omega)) hg room (takes_of rfl rfl rfl rfl) (by rfl) c.g_check_values c.F_check_values.kp c.b_check_values .nil .nil (ag_cons (PL.se (pl_var 0)) ag_nil) (hh := hh_no (by rfl)))) (ss_cons (ss_expr (se_fn ((ok_check_place c).mono (by omega)) hg room (takes_of rfl rfl rfl rfl) (by rfl) c.g_check_place c.F_check_place.kp c.b_check_place .nil .nil (ag_cons (PL.se (pl_var 0)) (ag_cons (PL.se (pl_var 1)) ag_nil)) (hh := hh_no (by rfl)))) (ss_one (ss_ret (se_fn ((ok_falling_ahead c).mono (by omega)) hg room (takes_of rfl rfl rfl rfl) (by rfl) c.g_falling_ahead c.F_falling_ahead.kp c.b_falling_ahead .nil .nil (ag_cons (PL.se (pl_var 0)) (ag_cons (PL.se (pl_var 1)) ag_nil)) (hh := hh_no (by rfl)))))))
theorem sc_passes_needed : FnScope ["plan", "values", "told", "here", "left"] ["plan", "values"] (defScope (top 26)) := ⟨rfl, rfl, rfl, by decide +kernel, rfl, by decide +kernel, by decide +kernel⟩
def s_passes_needed_L1 : S0 := (fsq (fpo 2 3 (rd (pp2 addS (vr 2) (kc (.int 1)))) (mv 4)) (fset 4 (F0.bind (F0.bind (rd (vr 0)) fun a => F0.bind (F0.bind (F0.bind (F0.bind (rd (vr 0)) fun a => F0.bind (F0.pure []) fun b => F0.pure (a :: b)) fun ts => fcall ([none] ++ ([] : List T).map fun _ => none) (runF [.sh] 1 (s_begin_of)) (ts ++ [])) fun a => F0.bind (fun E => (vr 3 E).bind fun _ => (F0.bind (F0.pure []) fun b => F0.pure (.non :: b)) E) fun b => F0.pure (a :: b)) fun b => F0.pure (a :: b)) fun ts => fcall ([none, none, some 3] ++ ([] : List T).map fun _ => none) (runF [.sh, .sh, .ow .sh] 9 (s_after 70)) (ts ++ []))))
def s_passes_needed_L1w : F0 Bool := (F0.bind (F0.bind (rd (vr 4)) fun a => F0.bind (rd (vr 3)) fun b => lf (neT a) b) (lf T.bl?))
def s_passes_needed : S0 := (fsq (fdo (F0.bind (F0.bind (rd (vr 0)) fun a => F0.bind (F0.pure []) fun b => F0.pure (a :: b)) fun ts => fcall ([none] ++ ([] : List T).map fun _ => none) (runF [.sh] 4 (s_check_plan)) (ts ++ []))) (fsq (fdo (F0.bind (F0.bind (rd (vr 1)) fun a => F0.bind (F0.pure []) fun b => F0.pure (a :: b)) fun ts => fcall ([none] ++ ([] : List T).map fun _ => none) (runF [.sh] 3 (s_check_values)) (ts ++ []))) (fsq (fpo 2 3 (rd (kc (.int 0))) (F0.bind (F0.bind (rd (vr 1)) fun a => F0.bind (F0.pure []) fun b => F0.pure (a :: b)) (lf (one listT)))) (fsq (fset 4 (F0.bind (F0.bind (rd (vr 0)) fun a => F0.bind (F0.bind (F0.bind (F0.bind (rd (vr 0)) fun a => F0.bind (F0.pure []) fun b => F0.pure (a :: b)) fun ts => fcall ([none] ++ ([] : List T).map fun _ => none) (runF [.sh] 1 (s_begin_of)) (ts ++ [])) fun a => F0.bind (fun E => (vr 3 E).bind fun _ => (F0.bind (F0.pure []) fun b => F0.pure (.non :: b)) E) fun b => F0.pure (a :: b)) fun b => F0.pure (a :: b)) fun ts => fcall ([none, none, some 3] ++ ([] : List T).map fun _ => none) (runF [.sh, .sh, .ow .sh] 9 (s_after 70)) (ts ++ []))) (fsq (fwh s_passes_needed_L1w s_passes_needed_L1 5000) (frt (rd (vr 2))))))))
theorem ok_passes_needed (c : Fc K mg) : FnG P w K mg base 72 c.f_passes_needed c.fd_passes_needed ["plan", "values"] (spG K [.sh, .sh] .sh (runF [.sh, .sh] 5 s_passes_needed)) :=
  fnG_body c.F_passes_needed sc_passes_needed (Γp := [.sh, .sh]) (ρr := .sh) (C := { Γr := [.sh, .sh, .sh, .sh, .sh], ρr := .sh, Γl := [], M := [] }) (Γ' := [.sh, .sh, .sh, .sh, .sh]) (b := s_passes_needed) rfl rfl rfl (own_in (by rfl)) (by rfl) fun cdv A outer s H E hg room => (ss_cons (ss_expr (se_fn ((ok_check_plan c).mono (by omega)) hg room (takes_of rfl rfl rfl rfl) (by rfl) c.g_check_plan c.F_check_plan.kp c.b_check_plan .nil .nil (ag_cons (PL.se (pl_var 0)) ag_nil) (hh := hh_no (by rfl)))) (ss_cons (ss_expr (se_fn ((ok_check_values c).mono (by omega)) hg room (takes_of rfl rfl rfl rfl) (by rfl) c.g_check_values c.F_check_values.kp c.b_check_values .nil .nil (ag_cons (PL.se (pl_var 1)) ag_nil) (hh := hh_no (by rfl)))) (ss_cons (ss_po rfl sc_passes_needed.nd (PL.se pl_int) (se_call (fun h => pe_callTy call_list_of (by rfl) c.n_list boot_list h) c_list (oa_cons (SE.oe (PL.se (pl_var 1))) oa_nil)) rfl rfl) (ss_cons (ss_set 4 (se_fn ((ok_after c 70).mono (by omega)) hg room (takes_of rfl rfl rfl rfl) (by rfl) c.g_after c.F_after.kp c.b_after .nil .nil (ag_cons (PL.se (pl_var 0)) (ag_cons (se_fn ((ok_begin_of c).mono (by omega)) hg room (takes_of rfl rfl rfl rfl) (by rfl) c.g_begin_of c.F_begin_of.kp c.b_begin_of .nil .nil (ag_cons (PL.se (pl_var 0)) ag_nil) (hh := hh_no (by rfl))) (ag_mu 3 ag_nil))) (hh := hh_of 3 (by rfl) ⟨_, by rfl⟩)) sc_passes_needed.nd) (ss_cons (ss_while (Γl := [.sh, .sh, .sh, .ow .sh, .ow .sh]) 5000 (passes_of rfl) (by rfl) (st_two ((op_neD room.eq).or op_ne) b_ne (PL.oe (pl_var 4)) (PL.oe (pl_var 3)) (nomark _)) (ss_cons (ss_po rfl sc_passes_needed.nd (PL.se (pl_two (fun a b => pe_op (op_add.or op_add_str) a b) b_add (pl_var 2) pl_int)) (se_move 4) rfl rfl) (ss_one (ss_set 4 (se_fn ((ok_after c 70).mono (by omega)) hg room (takes_of rfl rfl rfl rfl) (by rfl) c.g_after c.F_after.kp c.b_after .nil .nil (ag_cons (PL.se (pl_var 0)) (ag_cons (se_fn ((ok_begin_of c).mono (by omega)) hg room (takes_of rfl rfl rfl rfl) (by rfl) c.g_begin_of c.F_begin_of.kp c.b_begin_of .nil .nil (ag_cons (PL.se (pl_var 0)) ag_nil) (hh := hh_no (by rfl))) (ag_mu 3 ag_nil))) (hh := hh_of 3 (by rfl) ⟨_, by rfl⟩)) sc_passes_needed.nd))) (by rfl)) (ss_one (ss_ret (PL.se (pl_var 2)))))))))
theorem sc_right_passes_needed : FnScope ["values", "place"] ["values"] (defScope (top 27)) := ⟨rfl, rfl, rfl, by decide +kernel, rfl, by decide +kernel, by decide +kernel⟩
def s_right_passes_needed_C1 : F0 T := (flc (F0.bind (rd (pp1 lenT (vr 0))) (lf fun t => rng1 [t])) (gset 1) [1] (F0.pure true) (F0.bind (F0.bind (rd (vr 0)) fun a => F0.bind (F0.bind (rd (vr 1)) fun a => F0.bind (F0.pure []) fun b => F0.pure (a :: b)) fun b => F0.pure (a :: b)) fun ts => fcall ([none, none] ++ ([] : List T).map fun _ => none) (runF [.sh, .sh] 5 (s_falling_ahead)) (ts ++ [])))
def s_right_passes_needed : S0 := (fsq (fdo (F0.bind (F0.bind (rd (vr 0)) fun a => F0.bind (F0.pure []) fun b => F0.pure (a :: b)) fun ts => fcall ([none] ++ ([] : List T).map fun _ => none) (runF [.sh] 3 (s_check_values)) (ts ++ []))) (frt (F0.bind (F0.bind (F0.bind (F0.bind (rd (kc (.int 0))) fun a => F0.bind (F0.pure []) fun b => F0.pure (a :: b)) (lf mkL)) fun a => F0.bind s_right_passes_needed_C1 fun b => lf (addL a) b) (lf maxT))))
theorem ok_right_passes_needed (c : Fc K mg) : FnG P w K mg base 3 c.f_right_passes_needed c.fd_right_passes_needed ["values"] (spG K [.sh] .sh (runF [.sh] 2 s_right_passes_needed)) :=
  fnG_body c.F_right_passes_needed sc_right_passes_needed (Γp := [.sh]) (ρr := .sh) (C := { Γr := [.sh, .sh], ρr := .sh, Γl := [], M := [] }) (Γ' := [.sh, .sh]) (b := s_right_passes_needed) rfl rfl rfl (own_in (by rfl)) (by rfl) fun cdv A outer s H E hg room => (ss_cons (ss_expr (se_fn ((ok_check_values c).mono (by omega)) hg room (takes_of rfl rfl rfl rfl) (by rfl) c.g_check_values c.F_check_values.kp c.b_check_values .nil .nil (ag_cons (PL.se (pl_var 0)) ag_nil) (hh := hh_no (by rfl)))) (ss_one (ss_ret (se_one (fun h => pe_callB (cr_max (by rfl)) (by rfl) c.n_max boot_max h) c_max (SE.oe (se_two (fun a b => pe_op (op_cat.or (op_add.or op_add_str)) a b) b_addL (SE.oe (se_lst (i := .sh) (sa_cons (PL.se pl_int) sa_nil))) (SE.oe (se_lc (Γl := [.sh, .sh]) (own := [("place", 1)]) rfl sc_right_passes_needed.nd (blkOk_by (by rfl)) (si_rng1 (by rfl) c.n_range (SE.oe (PL.se (pl_one (fun h => pe_callB call_len (by rfl) c.n_len boot_len h) c_len (pl_var 0))))) (by decide) (by rfl) (by decide) (by rfl) (cl_name (by decide)) (fun _ _ _ _ _ => (tg_name 1 sc_right_passes_needed.nd)) (fun _ _ _ _ _ => sp_nil) (fun _ _ _ _ _ => (se_fn ((ok_falling_ahead c).mono (by omega)) hg room takes0 (by rfl) c.g_falling_ahead c.F_falling_ahead.kp c.b_falling_ahead .nil .nil (ag_cons (PL.se (pl_var 0)) (ag_cons (PL.se (pl_var 1)) ag_nil)) (hh := hh_no (by rfl)))) (by rfl) (by rfl)))))))))
theorem sc_levels : FnScope ["number", "at"] ["number"] (defScope (top 28)) := ⟨rfl, rfl, rfl, by decide +kernel, rfl, by decide +kernel, by decide +kernel⟩
def s_levels_C1 : F0 T := (flc (F0.bind (rd (pp2 subS (vr 0) (kc (.int 1)))) (lf fun t => rng1 [t])) (gset 1) [1] (F0.pure true) (F0.bind (F0.bind (rd (pp2 addS (vr 1) (kc (.int 1)))) fun a => F0.bind (F0.bind (rd (pp2 addS (vr 1) (kc (.int 1)))) fun a => F0.bind (F0.pure []) fun b => F0.pure (a :: b)) fun b => F0.pure (a :: b)) (lf mkT)))
def s_levels : S0 := (fsq (fdo (F0.bind (F0.bind (rd (vr 0)) fun a => F0.bind (F0.bind (rd (kc (.int 12))) fun a => F0.bind (F0.pure []) fun b => F0.pure (a :: b)) fun b => F0.pure (a :: b)) fun ts => fcall ([none, none] ++ ([] : List T).map fun _ => none) (runF [.sh, .sh] 2 (s_check_number)) (ts ++ []))) (frt (F0.bind s_levels_C1 fun a => F0.bind (F0.bind (F0.bind (F0.bind (F0.bind (F0.bind (rd (kc .non)) fun a => F0.bind (F0.bind (rd (kc .non)) fun a => F0.bind (F0.pure []) fun b => F0.pure (a :: b)) fun b => F0.pure (a :: b)) (lf mkT)) fun a => F0.bind (F0.pure []) fun b => F0.pure (a :: b)) (lf mkL)) fun a => F0.bind (F0.bind (F0.bind (rd (vr 0)) fun a => F0.bind (F0.bind (rd (kc (.int 1))) fun a => F0.bind (F0.pure []) fun b => F0.pure (a :: b)) fun b => F0.pure (a :: b)) (lf min2T)) fun b => lf (mulL a) b) fun b => lf (addL a) b)))
theorem ok_levels (c : Fc K mg) : FnG P w K mg base 3 c.f_levels c.fd_levels ["number"] (spG K [.sh] (.ow .sh) (runF [.sh] 2 s_levels)) :=
  fnG_body c.F_levels sc_levels (Γp := [.sh]) (ρr := (.ow .sh)) (C := { Γr := [.sh, .sh], ρr := (.ow .sh), Γl := [], M := [] }) (Γ' := [.sh, .sh]) (b := s_levels) rfl rfl rfl (own_in (by rfl)) (by rfl) fun cdv A outer s H E hg room => (ss_cons (ss_expr (se_fn ((ok_check_number c).mono (by omega)) hg room (takes_of rfl rfl rfl rfl) (by rfl) c.g_check_number c.F_check_number.kp c.b_check_number .nil .nil (ag_cons (PL.se (pl_var 0)) (ag_cons (PL.se (pl_gint (by rfl) c.i_MOST_LEVELS)) ag_nil)) (hh := hh_no (by rfl)))) (ss_one (ss_ret (se_two (fun a b => pe_op (op_cat.or (op_add.or op_add_str)) a b) b_addL (SE.oe (se_lc (Γl := [.sh, .sh]) (own := [("at", 1)]) rfl sc_levels.nd (blkOk_by (by rfl)) (si_rng1 (by rfl) c.n_range (SE.oe (PL.se (pl_two (fun a b => pe_op (op_sub) a b) b_sub (pl_var 0) pl_int)))) (by decide) (by rfl) (by decide) (by rfl) (cl_name (by decide)) (fun _ _ _ _ _ => (tg_name 1 sc_levels.nd)) (fun _ _ _ _ _ => sp_nil) (fun _ _ _ _ _ => (se_tup (sa_cons (PL.se (pl_two (fun a b => pe_op (op_add.or op_add_str) a b) b_add (pl_var 1) pl_int)) (sa_cons (PL.se (pl_two (fun a b => pe_op (op_add.or op_add_str) a b) b_add (pl_var 1) pl_int)) sa_nil)))) (by rfl) (by rfl))) (SE.oe (se_two (fun a b => pe_op (op_rep.or op_mul) a b) b_mulL (SE.oe (se_lst (i := .sh) (sa_cons (se_tup (sa_cons (PL.se pl_non) (sa_cons (PL.se pl_non) sa_nil))) sa_nil))) (SE.oe (se_cls (fun h => pe_callB (call_min2 (by rfl)) (by rfl) c.n_min boot_min h) c_min2 (oa_cons (SE.oe (PL.se (pl_var 0))) (oa_cons (SE.oe (PL.se pl_int)) oa_nil))))))))))
theorem sc_left_levels : FnScope ["number", "at"] ["number"] (defScope (top 29)) := ⟨rfl, rfl, rfl, by decide +kernel, rfl, by decide +kernel, by decide +kernel⟩
def s_left_levels_C1 : F0 T := (flc (F0.bind (rd (pp2 subS (vr 0) (kc (.int 1)))) (lf fun t => rng1 [t])) (gset 1) [1] (F0.pure true) (F0.bind (F0.bind (rd (pp2 addS (vr 1) (kc (.int 1)))) fun a => F0.bind (F0.bind (rd (kc .non)) fun a => F0.bind (F0.pure []) fun b => F0.pure (a :: b)) fun b => F0.pure (a :: b)) (lf mkT)))
def s_left_levels : S0 := (fsq (fdo (F0.bind (F0.bind (rd (vr 0)) fun a => F0.bind (F0.bind (rd (kc (.int 12))) fun a => F0.bind (F0.pure []) fun b => F0.pure (a :: b)) fun b => F0.pure (a :: b)) fun ts => fcall ([none, none] ++ ([] : List T).map fun _ => none) (runF [.sh, .sh] 2 (s_check_number)) (ts ++ []))) (frt (F0.bind s_left_levels_C1 fun a => F0.bind (F0.bind (F0.bind (F0.bind (F0.bind (F0.bind (rd (kc .non)) fun a => F0.bind (F0.bind (rd (kc .non)) fun a => F0.bind (F0.pure []) fun b => F0.pure (a :: b)) fun b => F0.pure (a :: b)) (lf mkT)) fun a => F0.bind (F0.pure []) fun b => F0.pure (a :: b)) (lf mkL)) fun a => F0.bind (F0.bind (F0.bind (rd (vr 0)) fun a => F0.bind (F0.bind (rd (kc (.int 1))) fun a => F0.bind (F0.pure []) fun b => F0.pure (a :: b)) fun b => F0.pure (a :: b)) (lf min2T)) fun b => lf (mulL a) b) fun b => lf (addL a) b)))
theorem ok_left_levels (c : Fc K mg) : FnG P w K mg base 3 c.f_left_levels c.fd_left_levels ["number"] (spG K [.sh] (.ow .sh) (runF [.sh] 2 s_left_levels)) :=
  fnG_body c.F_left_levels sc_left_levels (Γp := [.sh]) (ρr := (.ow .sh)) (C := { Γr := [.sh, .sh], ρr := (.ow .sh), Γl := [], M := [] }) (Γ' := [.sh, .sh]) (b := s_left_levels) rfl rfl rfl (own_in (by rfl)) (by rfl) fun cdv A outer s H E hg room => (ss_cons (ss_expr (se_fn ((ok_check_number c).mono (by omega)) hg room (takes_of rfl rfl rfl rfl) (by rfl) c.g_check_number c.F_check_number.kp c.b_check_number .nil .nil (ag_cons (PL.se (pl_var 0)) (ag_cons (PL.se (pl_gint (by rfl) c.i_MOST_LEVELS)) ag_nil)) (hh := hh_no (by rfl)))) (ss_one (ss_ret (se_two (fun a b => pe_op (op_cat.or (op_add.or op_add_str)) a b) b_addL (SE.oe (se_lc (Γl := [.sh, .sh]) (own := [("at", 1)]) rfl sc_left_levels.nd (blkOk_by (by rfl)) (si_rng1 (by rfl) c.n_range (SE.oe (PL.se (pl_two (fun a b => pe_op (op_sub) a b) b_sub (pl_var 0) pl_int)))) (by decide) (by rfl) (by decide) (by rfl) (cl_name (by decide)) (fun _ _ _ _ _ => (tg_name 1 sc_left_levels.nd)) (fun _ _ _ _ _ => sp_nil) (fun _ _ _ _ _ => (se_tup (sa_cons (PL.se (pl_two (fun a b => pe_op (op_add.or op_add_str) a b) b_add (pl_var 1) pl_int)) (sa_cons (PL.se pl_non) sa_nil)))) (by rfl) (by rfl))) (SE.oe (se_two (fun a b => pe_op (op_rep.or op_mul) a b) b_mulL (SE.oe (se_lst (i := .sh) (sa_cons (se_tup (sa_cons (PL.se pl_non) (sa_cons (PL.se pl_non) sa_nil))) sa_nil))) (SE.oe (se_cls (fun h => pe_callB (call_min2 (by rfl)) (by rfl) c.n_min boot_min h) c_min2 (oa_cons (SE.oe (PL.se (pl_var 0))) (oa_cons (SE.oe (PL.se pl_int)) oa_nil))))))))))
theorem sc__law_draws : FnScope ["_law_cell"] ["_law_cell"] (defScope (top 31)) := ⟨rfl, rfl, rfl, by decide +kernel, rfl, by decide +kernel, by decide +kernel⟩
def s__law_draws : S0 := (frt (F0.bind (F0.bind (rd (pp2 modS (pp1 intT (vr 0)) (pp2 powS (pp2 powS (pp2 powS (kc (.int 10)) (kc (.int 60))) (kc (.int 60))) (kc (.int 4))))) fun a => F0.bind (F0.bind (rd (kc (.int 0))) fun a => F0.bind (F0.bind (rd (pp2 (cmpS fun i j => decide (j ≤ i)) (vr 0) (pp2 powS (kc (.int 10)) (kc (.int 18))))) fun a => F0.bind (F0.pure []) fun b => F0.pure (a :: b)) fun b => F0.pure (a :: b)) fun b => F0.pure (a :: b)) (lf mkL)))
theorem ok__law_draws (c : Fc K mg) : FnG P w K mg base 1 c.f__law_draws c.fd__law_draws ["_law_cell"] (spG K [.sh] (.ow .sh) (runF [.sh] 1 s__law_draws)) :=
  fnG_body c.F__law_draws sc__law_draws (Γp := [.sh]) (ρr := (.ow .sh)) (C := { Γr := [.sh], ρr := (.ow .sh), Γl := [], M := [] }) (Γ' := [.sh]) (b := s__law_draws) rfl rfl rfl (own_in (by rfl)) (by rfl) fun cdv A outer s H E hg room => (ss_one (ss_ret (se_lst (i := .sh) (sa_cons (PL.se (pl_two (fun a b => pe_op (op_mod) a b) b_mod (pl_one (fun h => pe_callTy call_int1 (by rfl) c.n_int boot_int h) c_int (pl_var 0)) (pl_two (fun a b => pe_op (op_powW) a b) b_pow (pl_two (fun a b => pe_op (op_powW) a b) b_pow (pl_two (fun a b => pe_op (op_powW) a b) b_pow pl_int pl_int) pl_int) pl_int))) (sa_cons (PL.se pl_int) (sa_cons (PL.se (pl_two (fun a b => pe_cmpR (op_ge) a b (nomark _)) b_cmp (pl_var 0) (pl_two (fun a b => pe_op (op_powW) a b) b_pow pl_int pl_int))) sa_nil))))))
theorem sc__law_next : FnScope ["_law_draws_here", "_law_k", "_law_number"] ["_law_draws_here"] (defScope (top 32)) := ⟨rfl, rfl, rfl, by decide +kernel, rfl, by decide +kernel, by decide +kernel⟩
def s__law_next : S0 := (fsq (fseti (acN 0) (kc (.int 1)) (rd (pp2 addS (pp2 ixT (vr 0) (kc (.int 1))) (kc (.int 1))))) (fsq (fset 1 (rd (pp2 ixT (vr 0) (kc (.int 1))))) (fsq (fif (F0.bind (rd (pp2 ixT (vr 0) (kc (.int 2)))) (lf T.bl?)) (fsq (fset 2 (rd (pp2 modS (pp1 intT (pp2 ixT (vr 0) (kc (.int 0)))) (pp2 powS (kc (.int 10)) (kc (.int 6)))))) (fsq (fseti (acN 0) (kc (.int 0)) (rd (pp2 fdivS (pp2 ixT (vr 0) (kc (.int 0))) (pp2 powS (kc (.int 10)) (kc (.int 6)))))) (frt (rd (vr 2))))) fnx) (fsq (fset 2 (rd (pp2 modS (pp1 intT (pp2 mulS (pp2 addS (pp2 addS (pp2 modS (pp1 intT (pp2 ixT (vr 0) (kc (.int 0)))) (kc (.int 1000003))) (pp2 mulS (pp2 mulS (vr 1) (vr 1)) (kc (.int 7919)))) (vr 1)) (kc (.int 48271)))) (kc (.int 2147483629))))) (fsq (fset 2 (rd (pp2 modS (pp1 intT (pp2 mulS (vr 2) (vr 2))) (kc (.int 2147483587))))) (frt (rd (pp2 fdivS (pp2 modS (pp1 intT (pp2 mulS (vr 2) (pp2 addS (vr 2) (kc (.int 2))))) (kc (.int 2147483579))) (kc (.int 7))))))))))
theorem ok__law_next (c : Fc K mg) : FnG P w K mg base 1 c.f__law_next c.fd__law_next ["_law_draws_here"] (spG K [.ow .sh] .sh (runF [.ow .sh] 3 s__law_next)) :=
  fnG_body c.F__law_next sc__law_next (Γp := [.ow .sh]) (ρr := .sh) (C := { Γr := [.ow .sh, .sh, .sh], ρr := .sh, Γl := [], M := [0] }) (Γ' := [.ow .sh, .sh, .sh]) (b := s__law_next) rfl rfl rfl (own_in (by rfl)) (by rfl) fun cdv A outer s H E hg room => (ss_cons (ss_seti (PL.se (pl_two (fun a b => pe_op (op_add.or op_add_str) a b) b_add (pl_ix (pl_var 0) pl_int) pl_int)) (ol_name 0) pl_int (fun h h2 => pg_sub h h2 set_list)) (ss_cons (ss_set 1 (PL.se (pl_ix (pl_var 0) pl_int)) sc__law_next.nd) (ss_cons (ss_if (st_pl (pl_ix (pl_var 0) pl_int)) (ss_cons (ss_set 2 (PL.se (pl_two (fun a b => pe_op (op_mod) a b) b_mod (pl_one (fun h => pe_callTy call_int1 (by rfl) c.n_int boot_int h) c_int (pl_ix (pl_var 0) pl_int)) (pl_two (fun a b => pe_op (op_powW) a b) b_pow pl_int pl_int))) sc__law_next.nd) (ss_cons (ss_seti (PL.se (pl_two (fun a b => pe_op (op_fdiv) a b) b_fdiv (pl_ix (pl_var 0) pl_int) (pl_two (fun a b => pe_op (op_powW) a b) b_pow pl_int pl_int))) (ol_name 0) pl_int (fun h h2 => pg_sub h h2 set_list)) (ss_one (ss_ret (PL.se (pl_var 2)))))) ss_nil) (ss_cons (ss_set 2 (PL.se (pl_two (fun a b => pe_op (op_mod) a b) b_mod (pl_one (fun h => pe_callTy call_int1 (by rfl) c.n_int boot_int h) c_int (pl_two (fun a b => pe_op (op_mul) a b) b_mul (pl_two (fun a b => pe_op (op_add.or op_add_str) a b) b_add (pl_two (fun a b => pe_op (op_add.or op_add_str) a b) b_add (pl_two (fun a b => pe_op (op_mod) a b) b_mod (pl_one (fun h => pe_callTy call_int1 (by rfl) c.n_int boot_int h) c_int (pl_ix (pl_var 0) pl_int)) pl_int) (pl_two (fun a b => pe_op (op_mul) a b) b_mul (pl_two (fun a b => pe_op (op_mul) a b) b_mul (pl_var 1) (pl_var 1)) pl_int)) (pl_var 1)) pl_int)) pl_int)) sc__law_next.nd) (ss_cons (ss_set 2 (PL.se (pl_two (fun a b => pe_op (op_mod) a b) b_mod (pl_one (fun h => pe_callTy call_int1 (by rfl) c.n_int boot_int h) c_int (pl_two (fun a b => pe_op (op_mul) a b) b_mul (pl_var 2) (pl_var 2))) pl_int)) sc__law_next.nd) (ss_one (ss_ret (PL.se (pl_two (fun a b => pe_op (op_fdiv) a b) b_fdiv (pl_two (fun a b => pe_op (op_mod) a b) b_mod (pl_one (fun h => pe_callTy call_int1 (by rfl) c.n_int boot_int h) c_int (pl_two (fun a b => pe_op (op_mul) a b) b_mul (pl_var 2) (pl_two (fun a b => pe_op (op_add.or op_add_str) a b) b_add (pl_var 2) pl_int))) pl_int) pl_int)))))))))
theorem sc__law_values : FnScope ["_law_draws_here", "_law_most", "_law_kinds", "_law_far", "_law_k"] ["_law_draws_here", "_law_most"] (defScope (top 33)) := ⟨rfl, rfl, rfl, by decide +kernel, rfl, by decide +kernel, by decide +kernel⟩
def s__law_values_C1 : F0 T := (flc (F0.bind (F0.bind (F0.bind (F0.bind (fun E => (vr 0 E).bind fun _ => (F0.bind (F0.pure []) fun b => F0.pure (.non :: b)) E) fun ts => fcall ([some 0] ++ ([] : List T).map fun _ => none) (runF [.ow .sh] 3 (s__law_next)) (ts ++ [])) (lf intT)) fun a => F0.bind (rd (pp2 addS (vr 1) (kc (.int 1)))) fun b => lf (modS a) b) (lf fun t => rng1 [t])) (gset 4) [4] (F0.pure true) (F0.bind (F0.bind (F0.bind (F0.bind (F0.bind (fun E => (vr 0 E).bind fun _ => (F0.bind (F0.pure []) fun b => F0.pure (.non :: b)) E) fun ts => fcall ([some 0] ++ ([] : List T).map fun _ => none) (runF [.ow .sh] 3 (s__law_next)) (ts ++ [])) (lf intT)) fun a => F0.bind (rd (vr 2)) fun b => lf (modS a) b) fun a => F0.bind (rd (kc (.int 3))) fun b => lf (subS a) b) fun a => F0.bind (rd (vr 3)) fun b => lf (mulS a) b))
def s__law_values : S0 := (fsq (fset 2 (F0.bind (F0.bind (F0.bind (rd (kc (.int 2))) fun a => F0.bind (F0.bind (rd (kc (.int 4))) fun a => F0.bind (F0.bind (rd (kc (.int 9))) fun a => F0.bind (F0.bind (rd (kc (.int 60))) fun a => F0.bind (F0.pure []) fun b => F0.pure (a :: b)) fun b => F0.pure (a :: b)) fun b => F0.pure (a :: b)) fun b => F0.pure (a :: b)) (lf mkL)) fun a => F0.bind (F0.bind (F0.bind (F0.bind (fun E => (vr 0 E).bind fun _ => (F0.bind (F0.pure []) fun b => F0.pure (.non :: b)) E) fun ts => fcall ([some 0] ++ ([] : List T).map fun _ => none) (runF [.ow .sh] 3 (s__law_next)) (ts ++ [])) (lf intT)) fun a => F0.bind (rd (kc (.int 4))) fun b => lf (modS a) b) fun b => lf (ixT a) b)) (fsq (fset 3 (F0.bind (F0.bind (F0.bind (rd (kc (.int 1))) fun a => F0.bind (F0.bind (rd (kc (.int 1))) fun a => F0.bind (F0.bind (rd (kc (.int 1))) fun a => F0.bind (F0.bind (rd (pp2 powS (kc (.int 10)) (kc (.int 18)))) fun a => F0.bind (F0.pure []) fun b => F0.pure (a :: b)) fun b => F0.pure (a :: b)) fun b => F0.pure (a :: b)) fun b => F0.pure (a :: b)) (lf mkL)) fun a => F0.bind (F0.bind (F0.bind (F0.bind (fun E => (vr 0 E).bind fun _ => (F0.bind (F0.pure []) fun b => F0.pure (.non :: b)) E) fun ts => fcall ([some 0] ++ ([] : List T).map fun _ => none) (runF [.ow .sh] 3 (s__law_next)) (ts ++ [])) (lf intT)) fun a => F0.bind (rd (kc (.int 4))) fun b => lf (modS a) b) fun b => lf (ixT a) b)) (frt s__law_values_C1)))
theorem ok__law_values (c : Fc K mg) : FnG P w K mg base 2 c.f__law_values c.fd__law_values ["_law_draws_here", "_law_most"] (spG K [.ow .sh, .sh] (.ow .sh) (runF [.ow .sh, .sh] 5 s__law_values)) :=
  fnG_body c.F__law_values sc__law_values (Γp := [.ow .sh, .sh]) (ρr := (.ow .sh)) (C := { Γr := [.ow .sh, .sh, .sh, .sh, .sh], ρr := (.ow .sh), Γl := [], M := [0] }) (Γ' := [.ow .sh, .sh, .sh, .sh, .sh]) (b := s__law_values) rfl rfl rfl (own_in (by rfl)) (by rfl) fun cdv A outer s H E hg room => (ss_cons (ss_set 2 (se_ix (SE.oe (se_lst (i := .sh) (sa_cons (PL.se pl_int) (sa_cons (PL.se pl_int) (sa_cons (PL.se pl_int) (sa_cons (PL.se pl_int) sa_nil)))))) (SE.oe (se_twos (fun a b => pe_op (op_mod) a b) b_mod (SE.oe (se_one (fun h => pe_callTy call_int1 (by rfl) c.n_int boot_int h) c_int (SE.oe (se_fn ((ok__law_next c).mono (by omega)) hg room (takes_of rfl rfl rfl rfl) (by rfl) c.g__law_next c.F__law_next.kp c.b__law_next .nil .nil (ag_mu 0 ag_nil) (hh := hh_of 0 (by rfl) ⟨_, by rfl⟩))))) (SE.oe (PL.se pl_int))))) sc__law_values.nd) (ss_cons (ss_set 3 (se_ix (SE.oe (se_lst (i := .sh) (sa_cons (PL.se pl_int) (sa_cons (PL.se pl_int) (sa_cons (PL.se pl_int) (sa_cons (PL.se (pl_two (fun a b => pe_op (op_powW) a b) b_pow pl_int pl_int)) sa_nil)))))) (SE.oe (se_twos (fun a b => pe_op (op_mod) a b) b_mod (SE.oe (se_one (fun h => pe_callTy call_int1 (by rfl) c.n_int boot_int h) c_int (SE.oe (se_fn ((ok__law_next c).mono (by omega)) hg room (takes_of rfl rfl rfl rfl) (by rfl) c.g__law_next c.F__law_next.kp c.b__law_next .nil .nil (ag_mu 0 ag_nil) (hh := hh_of 0 (by rfl) ⟨_, by rfl⟩))))) (SE.oe (PL.se pl_int))))) sc__law_values.nd) (ss_one (ss_ret (se_lc (Γl := [.ow .sh, .sh, .sh, .sh, .sh]) (own := [("_law_k", 4)]) rfl sc__law_values.nd (blkOk_by (by rfl)) (si_rng1 (by rfl) c.n_range (SE.oe (se_twos (fun a b => pe_op (op_mod) a b) b_mod (SE.oe (se_one (fun h => pe_callTy call_int1 (by rfl) c.n_int boot_int h) c_int (SE.oe (se_fn ((ok__law_next c).mono (by omega)) hg room (takes_of rfl rfl rfl rfl) (by rfl) c.g__law_next c.F__law_next.kp c.b__law_next .nil .nil (ag_mu 0 ag_nil) (hh := hh_of 0 (by rfl) ⟨_, by rfl⟩))))) (SE.oe (PL.se (pl_two (fun a b => pe_op (op_add.or op_add_str) a b) b_add (pl_var 1) pl_int)))))) (by decide) (by rfl) (by decide) (by rfl) (cl_name (by decide)) (fun _ _ _ _ _ => (tg_name 4 sc__law_values.nd)) (fun _ _ _ _ _ => sp_nil) (fun _ _ _ _ _ => (se_twos (fun a b => pe_op (op_mul) a b) b_mul (SE.oe (se_twos (fun a b => pe_op (op_sub) a b) b_sub (SE.oe (se_twos (fun a b => pe_op (op_mod) a b) b_mod (SE.oe (se_one (fun h => pe_callTy call_int1 (by rfl) c.n_int boot_int h) c_int (SE.oe (se_fn ((ok__law_next c).mono (by omega)) hg room takes0 (by rfl) c.g__law_next c.F__law_next.kp c.b__law_next .nil .nil (ag_mu 0 ag_nil) (hh := hh_of 0 (by rfl) ⟨_, by rfl⟩))))) (SE.oe (PL.se (pl_var 2))))) (SE.oe (PL.se pl_int)))) (SE.oe (PL.se (pl_var 3))))) (by rfl) (by rfl))))))
theorem sc__law_after : FnScope ["_law_plan", "_law_place", "_law_a_values", "_law_left", "_law_right_here", "_law_less", "_law_others", "_law_value"] ["_law_plan", "_law_place", "_law_a_values"] (defScope (top 34)) := ⟨rfl, rfl, rfl, by decide +kernel, rfl, by decide +kernel, by decide +kernel⟩
def s__law_after_C1 : F0 T := (flc (F0.bind (F0.bind (rd (vr 2)) fun a => F0.bind (F0.bind (F0.bind (rd (kc (.int 1))) (lf fun t => t.int?.map some)) fun l => F0.bind (F0.pure none) fun u => F0.pure (l, u)) fun p => lf (slT a) p) (lf T.lst?)) (gset 7) [7] (F0.bind (F0.bind (rd (vr 7)) fun a => F0.bind (rd (pp2 ixT (vr 2) (kc (.int 0)))) fun b => lf ((cmpS fun i j => decide (i < j)) a) b) (lf T.bl?)) (rd (vr 7)))
def s__law_after_C2 : F0 T := (flc (F0.bind (F0.bind (rd (vr 2)) fun a => F0.bind (F0.bind (F0.bind (rd (kc (.int 1))) (lf fun t => t.int?.map some)) fun l => F0.bind (F0.pure none) fun u => F0.pure (l, u)) fun p => lf (slT a) p) (lf T.lst?)) (gset 7) [7] (F0.bind (F0.bind (rd (vr 7)) fun a => F0.bind (rd (pp2 ixT (vr 2) (kc (.int 0)))) fun b => lf ((cmpS fun i j => decide (j ≤ i)) a) b) (lf T.bl?)) (rd (vr 7)))
def s__law_after : Nat → S0
  | 0 => fno
  | n + 1 => (fsq (fif (tor (F0.bind (F0.bind (rd (vr 1)) fun a => F0.bind (rd (kc .non)) fun b => lf (isN a) b) (lf T.bl?)) (F0.bind (F0.bind (rd (vr 2)) fun a => F0.bind (F0.bind (F0.pure []) (lf mkL)) fun b => lf (eqT a) b) (lf T.bl?))) (frt (F0.bind (F0.bind (rd (vr 2)) fun a => F0.bind (F0.pure []) fun b => F0.pure (a :: b)) (lf (one listT)))) fnx) (fsq (fasg (gtup 2 (gcons (gset 3) (gcons (gset 4) gnil))) (rd (pp2 ixT (vr 0) (vr 1)))) (fsq (fset 5 s__law_after_C1) (fsq (fset 6 s__law_after_C2) (frt (F0.bind (F0.bind (F0.bind (F0.bind (rd (vr 0)) fun a => F0.bind (F0.bind (rd (vr 3)) fun a => F0.bind (F0.bind (rd (vr 5)) fun a => F0.bind (F0.pure []) fun b => F0.pure (a :: b)) fun b => F0.pure (a :: b)) fun b => F0.pure (a :: b)) fun ts => fcall ([none, none, none] ++ ([] : List T).map fun _ => none) (runF [.sh, .sh, .sh] 8 ((s__law_after n))) (ts ++ [])) fun a => F0.bind (F0.bind (rd (vr 2)) fun a => F0.bind (F0.bind (F0.pure none) fun l => F0.bind (F0.bind (rd (kc (.int 1))) (lf fun t => t.int?.map some)) fun u => F0.pure (l, u)) fun p => lf (slT a) p) fun b => lf (addL a) b) fun a => F0.bind (F0.bind (F0.bind (rd (vr 0)) fun a => F0.bind (F0.bind (rd (vr 4)) fun a => F0.bind (F0.bind (rd (vr 6)) fun a => F0.bind (F0.pure []) fun b => F0.pure (a :: b)) fun b => F0.pure (a :: b)) fun b => F0.pure (a :: b)) fun ts => fcall ([none, none, none] ++ ([] : List T).map fun _ => none) (runF [.sh, .sh, .sh] 8 ((s__law_after n))) (ts ++ [])) fun b => lf (addL a) b))))))
theorem ok__law_after (c : Fc K mg) : ∀ n : Nat, FnG P w K mg base (n + 1) c.f__law_after c.fd__law_after ["_law_plan", "_law_place", "_law_a_values"] (spG K [.sh, .sh, .sh] (.ow .sh) (runF [.sh, .sh, .sh] 8 (s__law_after n)))
  | 0 => fnG_zero
  | n + 1 => by
    have ih := ok__law_after c n
    exact fnG_body c.F__law_after sc__law_after (Γp := [.sh, .sh, .sh]) (ρr := (.ow .sh)) (C := { Γr := [.sh, .sh, .sh, .sh, .sh, .sh, .sh, .sh], ρr := (.ow .sh), Γl := [], M := [] }) (Γ' := [.sh, .sh, .sh, .sh, .sh, .sh, .sh, .sh]) (b := s__law_after (n + 1)) rfl rfl rfl (own_in (by rfl)) (by rfl) fun cdv A outer s H E hg room => (ss_cons (ss_if (SW.st (sw_or (st_two (op_isN) b_isN (SE.oe (PL.se (pl_var 1))) (SE.oe (PL.se pl_non)) (nomark _)) (sw_or1 (st_two ((op_eqD room.eq).or op_eq) b_eq (SE.oe (PL.se (pl_var 2))) (SE.oe (se_lst (i := .sh) sa_nil)) (nomark _))))) (ss_one (ss_ret (se_call (fun h => pe_callTy call_list_of (by rfl) c.n_list boot_list h) c_list (oa_cons (SE.oe (PL.se (pl_var 2))) oa_nil)))) ss_nil) (ss_cons (ss_asg (PL.se (pl_ix (pl_var 0) (pl_var 1))) (tg_tup (fun h => pg_tup rfl h) (tg_cons (tg_name 3 sc__law_after.nd) (tg_cons (tg_name 4 sc__law_after.nd) tg_nil (hp := pgs_cons (tg_name 4 sc__law_after.nd) tg_nil)) (hp := pgs_cons (tg_name 3 sc__law_after.nd) (tg_cons (tg_name 4 sc__law_after.nd) tg_nil (hp := pgs_cons (tg_name 4 sc__law_after.nd) tg_nil)))))) (ss_cons (ss_setLc 5 (Γl := [.sh, .sh, .sh, .sh, .sh, .sh, .sh, .sh]) (own := [("_law_value", 7)]) rfl sc__law_after.nd (blkOk_by (by rfl)) (si_list (SE.lo (se_sh (se_sl (SE.oe (PL.se (pl_var 2))) (op_so (SE.oe (PL.se pl_int))) op_no)))) (by decide) (by rfl) (by decide) (by rfl) (cl_name (by decide)) (fun _ _ _ _ _ => (tg_name 7 sc__law_after.nd)) (fun _ _ _ _ _ => (sp_one (st_two (op_lt) b_cmp (SE.oe (PL.se (pl_var 7))) (SE.oe (PL.se (pl_ix (pl_var 2) pl_int))) (nomark _)))) (fun _ _ _ _ _ => (PL.se (pl_var 7))) (by rfl) (by rfl) (hsw := sw_true rfl rfl rfl rfl)) (ss_cons (ss_setLc 6 (Γl := [.sh, .sh, .sh, .sh, .sh, .ow .sh, .sh, .sh]) (own := [("_law_value", 7)]) rfl sc__law_after.nd (blkOk_by (by rfl)) (si_list (SE.lo (se_sh (se_sl (SE.oe (PL.se (pl_var 2))) (op_so (SE.oe (PL.se pl_int))) op_no)))) (by decide) (by rfl) (by decide) (by rfl) (cl_name (by decide)) (fun _ _ _ _ _ => (tg_name 7 sc__law_after.nd)) (fun _ _ _ _ _ => (sp_one (st_two (op_ge) b_cmp (SE.oe (PL.se (pl_var 7))) (SE.oe (PL.se (pl_ix (pl_var 2) pl_int))) (nomark _)))) (fun _ _ _ _ _ => (PL.se (pl_var 7))) (by rfl) (by rfl) (hsw := sw_true rfl rfl rfl rfl)) (ss_one (ss_ret (se_two (fun a b => pe_op (op_cat.or (op_add.or op_add_str)) a b) b_addL (SE.oe (se_two (fun a b => pe_op (op_cat.or (op_add.or op_add_str)) a b) b_addL (SE.oe (se_fn ih hg room (takes_of rfl rfl rfl rfl) (by rfl) c.g__law_after c.F__law_after.kp c.b__law_after .nil .nil (ag_cons (PL.se (pl_var 0)) (ag_cons (PL.se (pl_var 3)) (ag_cons (se_take 5) ag_nil))) (hh := hh_no (by rfl)))) (SE.oe (se_sl (SE.oe (PL.se (pl_var 2))) op_no (op_so (SE.oe (PL.se pl_int))))))) (SE.oe (se_fn ih hg room (takes_of rfl rfl rfl rfl) (by rfl) c.g__law_after c.F__law_after.kp c.b__law_after .nil .nil (ag_cons (PL.se (pl_var 0)) (ag_cons (PL.se (pl_var 4)) (ag_cons (se_take 6) ag_nil))) (hh := hh_no (by rfl)))))))))))
theorem sc__law_once : FnScope ["_law_plan", "_law_a_values"] ["_law_plan", "_law_a_values"] (defScope (top 35)) := ⟨rfl, rfl, rfl, by decide +kernel, rfl, by decide +kernel, by decide +kernel⟩
def s__law_once : S0 := (frt (vif (F0.bind (F0.bind (rd (vr 0)) fun a => F0.bind (F0.bind (F0.pure []) (lf mkL)) fun b => lf (neT a) b) (lf T.bl?)) (F0.bind (F0.bind (rd (vr 0)) fun a => F0.bind (F0.bind (rd (kc (.int 0))) fun a => F0.bind (F0.bind (rd (vr 1)) fun a => F0.bind (F0.pure []) fun b => F0.pure (a :: b)) fun b => F0.pure (a :: b)) fun b => F0.pure (a :: b)) fun ts => fcall ([none, none, none] ++ ([] : List T).map fun _ => none) (runF [.sh, .sh, .sh] 8 (s__law_after 70)) (ts ++ [])) (F0.bind (F0.bind (rd (vr 1)) fun a => F0.bind (F0.pure []) fun b => F0.pure (a :: b)) (lf (one listT)))))
theorem ok__law_once (c : Fc K mg) : FnG P w K mg base 72 c.f__law_once c.fd__law_once ["_law_plan", "_law_a_values"] (spG K [.sh, .sh] .sh (runF [.sh, .sh] 2 s__law_once)) :=
  fnG_body c.F__law_once sc__law_once (Γp := [.sh, .sh]) (ρr := .sh) (C := { Γr := [.sh, .sh], ρr := .sh, Γl := [], M := [] }) (Γ' := [.sh, .sh]) (b := s__law_once) rfl rfl rfl (own_in (by rfl)) (by rfl) fun cdv A outer s H E hg room => (ss_one (ss_ret (se_if (st_two ((op_neD room.eq).or op_ne) b_ne (SE.oe (PL.se (pl_var 0))) (SE.oe (se_lst (i := .sh) sa_nil)) (nomark _)) (se_sh (se_fn ((ok__law_after c 70).mono (by omega)) hg room (takes_of rfl rfl rfl rfl) (by rfl) c.g__law_after c.F__law_after.kp c.b__law_after .nil .nil (ag_cons (PL.se (pl_var 0)) (ag_cons (PL.se pl_int) (ag_cons (PL.se (pl_var 1)) ag_nil))) (hh := hh_no (by rfl)))) (se_sh (se_call (fun h => pe_callTy call_list_of (by rfl) c.n_list boot_list h) c_list (oa_cons (SE.oe (PL.se (pl_var 1))) oa_nil))))))
theorem sc__law_records : FnScope ["_law_a_values", "_law_value", "_law_ahead", "_law_one", "_law_at", "_law_more"] ["_law_a_values", "_law_value"] (defScope (top 36)) := ⟨rfl, rfl, rfl, by decide +kernel, rfl, by decide +kernel, by decide +kernel⟩
def s__law_records_C1 : F0 T := (flc (F0.bind (rd (vr 0)) (lf T.lst?)) (gset 3) [3] (F0.bind (F0.bind (rd (vr 3)) fun a => F0.bind (rd (vr 1)) fun b => lf ((cmpS fun i j => decide (j < i)) a) b) (lf T.bl?)) (rd (vr 3)))
def s__law_records_C3 : F0 T := (flc (F0.bind (F0.bind (rd (vr 2)) fun a => F0.bind (F0.bind (F0.pure none) fun l => F0.bind (F0.bind (rd (vr 4)) (lf fun t => t.int?.map some)) fun u => F0.pure (l, u)) fun p => lf (slT a) p) (lf T.lst?)) (gset 5) [5] (F0.bind (F0.bind (rd (vr 5)) fun a => F0.bind (rd (vr 3)) fun b => lf ((cmpS fun i j => decide (i ≤ j)) a) b) (lf T.bl?)) (rd (vr 5)))
def s__law_records_C2 : F0 T := (flc (F0.bind (F0.bind (rd (vr 2)) (lf T.lst?)) (lf fun ts => some (enumT ts))) (gtup 2 (gcons (gset 4) (gcons (gset 3) gnil))) [4, 3] (F0.bind (F0.bind s__law_records_C3 fun a => F0.bind (F0.bind (F0.pure []) (lf mkL)) fun b => lf (eqT a) b) (lf T.bl?)) (rd (vr 4)))
def s__law_records : S0 := (fsq (fset 2 s__law_records_C1) (frt (F0.bind s__law_records_C2 (lf lenT))))
theorem ok__law_records (c : Fc K mg) : FnG P w K mg base 1 c.f__law_records c.fd__law_records ["_law_a_values", "_law_value"] (spG K [.sh, .sh] .sh (runF [.sh, .sh] 6 s__law_records)) :=
  fnG_body c.F__law_records sc__law_records (Γp := [.sh, .sh]) (ρr := .sh) (C := { Γr := [.sh, .sh, .sh, .sh, .sh, .sh], ρr := .sh, Γl := [], M := [] }) (Γ' := [.sh, .sh, .sh, .sh, .sh, .sh]) (b := s__law_records) rfl rfl rfl (own_in (by rfl)) (by rfl) fun cdv A outer s H E hg room => (ss_cons (ss_set 2 (se_lc (Γl := [.sh, .sh, .sh, .sh, .sh, .sh]) (own := [("_law_one", 3)]) rfl sc__law_records.nd (blkOk_by (by rfl)) (si_list (SE.lo (PL.se (pl_var 0)))) (by decide) (by rfl) (by decide) (by rfl) (cl_name (by decide)) (fun _ _ _ _ _ => (tg_name 3 sc__law_records.nd)) (fun _ _ _ _ _ => (sp_one (st_two (op_gt) b_cmp (SE.oe (PL.se (pl_var 3))) (SE.oe (PL.se (pl_var 1))) (nomark _)))) (fun _ _ _ _ _ => (PL.se (pl_var 3))) (by rfl) (by rfl)) sc__law_records.nd) (ss_one (ss_ret (se_one (fun h => pe_callB call_len (by rfl) c.n_len boot_len h) c_len (SE.oe (se_lc (Γl := [.sh, .sh, .ow .sh, .sh, .sh, .sh]) (own := [("_law_at", 4), ("_law_one", 3)]) rfl sc__law_records.nd (blkOk_by (by rfl)) (si_enum (by rfl) c.n_enumerate (PL.lo (pl_var 2))) (by decide) (by rfl) (by decide) (by rfl) (cl_tup (cl_cons (cl_name (by decide)) (cl_cons (cl_name (by decide)) cl_nil))) (fun _ _ _ _ _ => (tg_tup (fun h => pg_tup rfl h) (tg_cons (tg_name 4 sc__law_records.nd) (tg_cons (tg_name 3 sc__law_records.nd) tg_nil (hp := pgs_cons (tg_name 3 sc__law_records.nd) tg_nil)) (hp := pgs_cons (tg_name 4 sc__law_records.nd) (tg_cons (tg_name 3 sc__law_records.nd) tg_nil (hp := pgs_cons (tg_name 3 sc__law_records.nd) tg_nil)))))) (fun _ _ _ _ _ => (sp_one (st_two ((op_eqD room.eq).or op_eq) b_eq (SE.oe (se_lc (Γl := [.sh, .sh, .ow .sh, .sh, .sh, .sh]) (own := [("_law_more", 5)]) rfl sc__law_records.nd (blkOk_by (by rfl)) (si_list (SE.lo (se_sh (se_sl (PL.oe (pl_var 2)) op_no (op_so (SE.oe (PL.se (pl_var 4)))))))) (by decide) (by rfl) (by decide) (by rfl) (cl_name (by decide)) (fun _ _ _ _ _ => (tg_name 5 sc__law_records.nd)) (fun _ _ _ _ _ => (sp_one (st_two (op_le) b_cmp (SE.oe (PL.se (pl_var 5))) (SE.oe (PL.se (pl_var 3))) (nomark _)))) (fun _ _ _ _ _ => (PL.se (pl_var 5))) (by rfl) (by rfl))) (SE.oe (se_lst (i := .sh) sa_nil)) (nomark _)))) (fun _ _ _ _ _ => (PL.se (pl_var 4))) (by rfl) (by rfl)))))))
theorem sc__law_all_records : FnScope ["_law_a_values", "_law_at", "_law_value"] ["_law_a_values"] (defScope (top 37)) := ⟨rfl, rfl, rfl, by decide +kernel, rfl, by decide +kernel, by decide +kernel⟩
def s__law_all_records_C1 : F0 T := (flc (F0.bind (F0.bind (rd (vr 0)) (lf T.lst?)) (lf fun ts => some (enumT ts))) (gtup 2 (gcons (gset 1) (gcons (gset 2) gnil))) [1, 2] (F0.pure true) (F0.bind (F0.bind (F0.bind (rd (vr 0)) fun a => F0.bind (F0.bind (F0.pure none) fun l => F0.bind (F0.bind (rd (vr 1)) (lf fun t => t.int?.map some)) fun u => F0.pure (l, u)) fun p => lf (slT a) p) fun a => F0.bind (F0.bind (rd (vr 2)) fun a => F0.bind (F0.pure []) fun b => F0.pure (a :: b)) fun b => F0.pure (a :: b)) fun ts => fcall ([none, none] ++ ([] : List T).map fun _ => none) (runF [.sh, .sh] 6 (s__law_records)) (ts ++ [])))
def s__law_all_records : S0 := (frt s__law_all_records_C1)
theorem ok__law_all_records (c : Fc K mg) : FnG P w K mg base 2 c.f__law_all_records c.fd__law_all_records ["_law_a_values"] (spG K [.sh] (.ow .sh) (runF [.sh] 3 s__law_all_records)) :=
  fnG_body c.F__law_all_records sc__law_all_records (Γp := [.sh]) (ρr := (.ow .sh)) (C := { Γr := [.sh, .sh, .sh], ρr := (.ow .sh), Γl := [], M := [] }) (Γ' := [.sh, .sh, .sh]) (b := s__law_all_records) rfl rfl rfl (own_in (by rfl)) (by rfl) fun cdv A outer s H E hg room => (ss_one (ss_ret (se_lc (Γl := [.sh, .sh, .sh]) (own := [("_law_at", 1), ("_law_value", 2)]) rfl sc__law_all_records.nd (blkOk_by (by rfl)) (si_enum (by rfl) c.n_enumerate (SE.lo (PL.se (pl_var 0)))) (by decide) (by rfl) (by decide) (by rfl) (cl_tup (cl_cons (cl_name (by decide)) (cl_cons (cl_name (by decide)) cl_nil))) (fun _ _ _ _ _ => (tg_tup (fun h => pg_tup rfl h) (tg_cons (tg_name 1 sc__law_all_records.nd) (tg_cons (tg_name 2 sc__law_all_records.nd) tg_nil (hp := pgs_cons (tg_name 2 sc__law_all_records.nd) tg_nil)) (hp := pgs_cons (tg_name 1 sc__law_all_records.nd) (tg_cons (tg_name 2 sc__law_all_records.nd) tg_nil (hp := pgs_cons (tg_name 2 sc__law_all_records.nd) tg_nil)))))) (fun _ _ _ _ _ => sp_nil) (fun _ _ _ _ _ => (se_fn ((ok__law_records c).mono (by omega)) hg room takes0 (by rfl) c.g__law_records c.F__law_records.kp c.b__law_records .nil .nil (ag_cons (se_sh (se_sl (SE.oe (PL.se (pl_var 0))) op_no (op_so (SE.oe (PL.se (pl_var 1)))))) (ag_cons (PL.se (pl_var 2)) ag_nil)) (hh := hh_no (by rfl)))) (by rfl) (by rfl))))
theorem sc__law_falls_right : FnScope ["_law_a_values", "_law_here", "_law_many", "_law_more", "_law_told", "_law_place"] ["_law_a_values"] (defScope (top 38)) := ⟨rfl, rfl, rfl, by decide +kernel, rfl, by decide +kernel, by decide +kernel⟩
def s__law_falls_right_L1 : S0 := (fsq (fset 3 (F0.bind (F0.bind (F0.bind (F0.bind (F0.bind (F0.bind (rd (kc .non)) fun a => F0.bind (F0.bind (rd (kc (.int 0))) fun a => F0.bind (F0.pure []) fun b => F0.pure (a :: b)) fun b => F0.pure (a :: b)) (lf mkT)) fun a => F0.bind (F0.pure []) fun b => F0.pure (a :: b)) (lf mkL)) fun a => F0.bind (F0.bind (rd (vr 1)) fun a => F0.bind (F0.pure []) fun b => F0.pure (a :: b)) fun b => F0.pure (a :: b)) fun ts => fcall ([none, none] ++ ([] : List T).map fun _ => none) (runF [.sh, .sh] 2 (s__law_once)) (ts ++ []))) (fsq (fif (F0.bind (F0.bind (F0.bind (F0.bind (F0.bind (rd (vr 3)) fun a => F0.bind (F0.pure []) fun b => F0.pure (a :: b)) fun ts => fcall ([none] ++ ([] : List T).map fun _ => none) (runF [.sh] 3 (s__law_all_records)) (ts ++ [])) (lf maxT)) fun a => F0.bind (F0.bind (F0.bind (F0.bind (F0.bind (rd (vr 1)) fun a => F0.bind (F0.pure []) fun b => F0.pure (a :: b)) fun ts => fcall ([none] ++ ([] : List T).map fun _ => none) (runF [.sh] 3 (s__law_all_records)) (ts ++ [])) (lf maxT)) fun a => F0.bind (rd (kc (.int 1))) fun b => lf (subS a) b) fun b => lf (neT a) b) (lf T.bl?)) (frt (rd (kc (.bl false)))) fnx) (fsq (fset 1 (rd (vr 3))) (fset 2 (rd (pp2 addS (vr 2) (kc (.int 1))))))))
def s__law_falls_right_L1w : F0 Bool := (F0.bind (F0.bind (rd (vr 1)) fun a => F0.bind (F0.bind (F0.bind (rd (vr 1)) fun a => F0.bind (F0.pure []) fun b => F0.pure (a :: b)) (lf (one sortT))) fun b => lf (neT a) b) (lf T.bl?))
def s__law_falls_right_C1 : F0 T := (flc (F0.bind (rd (pp1 lenT (vr 0))) (lf fun t => rng1 [t])) (gset 5) [5] (F0.pure true) (F0.bind (F0.bind (rd (vr 0)) fun a => F0.bind (F0.bind (rd (vr 5)) fun a => F0.bind (F0.pure []) fun b => F0.pure (a :: b)) fun b => F0.pure (a :: b)) fun ts => fcall ([none, none] ++ ([] : List T).map fun _ => none) (runF [.sh, .sh] 2 (s_records_ahead)) (ts ++ [])))
def s__law_falls_right : S0 := (fsq (fset 1 (F0.bind (F0.bind (rd (vr 0)) fun a => F0.bind (F0.pure []) fun b => F0.pure (a :: b)) (lf (one listT)))) (fsq (fset 2 (rd (kc (.int 0)))) (fsq (fwh s__law_falls_right_L1w s__law_falls_right_L1 5000) (fsq (fif (F0.bind (F0.bind (F0.bind (F0.bind (F0.bind (F0.bind (F0.bind (rd (vr 0)) fun a => F0.bind (F0.pure []) fun b => F0.pure (a :: b)) fun ts => fcall ([none] ++ ([] : List T).map fun _ => none) (runF [.sh] 2 (s_right_passes_needed)) (ts ++ [])) fun a => F0.bind (F0.bind (F0.bind (F0.pure []) fun ts => F0.bind (F0.bind (rd (vr 0)) fun a => F0.bind (F0.pure []) fun b => F0.pure (a :: b)) fun us => fkw [0] (runF [.sh] 2 (s_right_passes_needed)) (ts ++ (us ++ []))) fun a => F0.bind (F0.pure []) fun b => F0.pure (a :: b)) fun b => F0.pure (a :: b)) (lf mkL)) (lf reprT)) fun a => F0.bind (F0.bind (F0.bind (F0.bind (rd (vr 2)) fun a => F0.bind (F0.bind (rd (vr 2)) fun a => F0.bind (F0.pure []) fun b => F0.pure (a :: b)) fun b => F0.pure (a :: b)) (lf mkL)) (lf reprT)) fun b => lf (neT a) b) (lf T.bl?)) (frt (rd (kc (.bl false)))) fnx) (fsq (fif (tor (F0.bind (F0.bind (F0.bind (F0.bind (F0.bind (F0.bind (rd (vr 0)) fun a => F0.bind (F0.pure []) fun b => F0.pure (a :: b)) fun ts => fcall ([none] ++ ([] : List T).map fun _ => none) (runF [.sh] 3 (s__law_all_records)) (ts ++ [])) fun a => F0.bind (F0.bind (F0.bind (rd (kc (.int 0))) fun a => F0.bind (F0.pure []) fun b => F0.pure (a :: b)) (lf mkL)) fun b => lf (addL a) b) (lf maxT)) fun a => F0.bind (rd (vr 2)) fun b => lf (neT a) b) (lf T.bl?)) (F0.bind (F0.bind (F0.bind (F0.bind (F0.bind (F0.bind (F0.bind (F0.bind (rd (kc .non)) fun a => F0.bind (F0.bind (rd (kc (.int 0))) fun a => F0.bind (F0.pure []) fun b => F0.pure (a :: b)) fun b => F0.pure (a :: b)) (lf mkT)) fun a => F0.bind (F0.pure []) fun b => F0.pure (a :: b)) (lf mkL)) fun a => F0.bind (F0.bind (rd (vr 0)) fun a => F0.bind (F0.pure []) fun b => F0.pure (a :: b)) fun b => F0.pure (a :: b)) fun ts => fcall ([none, none] ++ ([] : List T).map fun _ => none) (runF [.sh, .sh] 5 (s_passes_needed)) (ts ++ [])) fun a => F0.bind (rd (vr 2)) fun b => lf (neT a) b) (lf T.bl?))) (frt (rd (kc (.bl false)))) fnx) (fsq (fset 4 s__law_falls_right_C1) (fsq (fif (F0.bind (F0.bind (rd (vr 4)) fun a => F0.bind (F0.bind (F0.bind (rd (vr 0)) fun a => F0.bind (F0.pure []) fun b => F0.pure (a :: b)) fun ts => fcall ([none] ++ ([] : List T).map fun _ => none) (runF [.sh] 3 (s__law_all_records)) (ts ++ [])) fun b => lf (neT a) b) (lf T.bl?)) (frt (rd (kc (.bl false)))) fnx) (frt (F0.bind (F0.bind (F0.bind (F0.bind (F0.bind (F0.bind (F0.bind (rd (kc .non)) fun a => F0.bind (F0.bind (rd (kc (.int 0))) fun a => F0.bind (F0.pure []) fun b => F0.pure (a :: b)) fun b => F0.pure (a :: b)) (lf mkT)) fun a => F0.bind (F0.pure []) fun b => F0.pure (a :: b)) (lf mkL)) fun a => F0.bind (F0.bind (rd (vr 0)) fun a => F0.bind (F0.pure []) fun b => F0.pure (a :: b)) fun b => F0.pure (a :: b)) fun ts => F0.bind (F0.bind (F0.bind (F0.bind (rd (vr 2)) fun a => F0.bind (F0.bind (rd (kc (.int 60))) fun a => F0.bind (F0.pure []) fun b => F0.pure (a :: b)) fun b => F0.pure (a :: b)) (lf min2T)) fun a => F0.bind (F0.pure []) fun b => F0.pure (a :: b)) fun us => fkw [0, 1, 2] (runF [.sh, .sh, .sh] 3 (s_carried_out)) (ts ++ (us ++ []))) fun a => F0.bind (F0.bind (F0.bind (rd (vr 0)) fun a => F0.bind (F0.pure []) fun b => F0.pure (a :: b)) (lf (one sortT))) fun b => lf (eqT a) b)))))))))
theorem ok__law_falls_right (c : Fc K mg) : FnG P w K mg base 75 c.f__law_falls_right c.fd__law_falls_right ["_law_a_values"] (spG K [.sh] .sh (runF [.sh] 6 s__law_falls_right)) :=
  fnG_body c.F__law_falls_right sc__law_falls_right (Γp := [.sh]) (ρr := .sh) (C := { Γr := [.sh, .sh, .sh, .sh, .sh, .sh], ρr := .sh, Γl := [], M := [] }) (Γ' := [.sh, .sh, .sh, .sh, .sh, .sh]) (b := s__law_falls_right) rfl rfl rfl (own_in (by rfl)) (by rfl) fun cdv A outer s H E hg room => (ss_cons (ss_set 1 (se_call (fun h => pe_callTy call_list_of (by rfl) c.n_list boot_list h) c_list (oa_cons (SE.oe (PL.se (pl_var 0))) oa_nil)) sc__law_falls_right.nd) (ss_cons (ss_set 2 (PL.se pl_int) sc__law_falls_right.nd) (ss_cons (ss_while (Γl := [.sh, .sh, .sh, .sh, .sh, .sh]) 5000 (passes_of rfl) (by rfl) (st_two ((op_neD room.eq).or op_ne) b_ne (SE.oe (PL.se (pl_var 1))) (SE.oe (se_call (fun h => pe_callB cr_sortedI (by rfl) c.n_sorted boot_sorted h) c_sorted (oa_cons (SE.oe (PL.se (pl_var 1))) oa_nil))) (nomark _)) (ss_cons (ss_set 3 (se_fn ((ok__law_once c).mono (by omega)) hg room (takes_of rfl rfl rfl rfl) (by rfl) c.g__law_once c.F__law_once.kp c.b__law_once .nil .nil (ag_cons (se_sh (se_lst (i := .sh) (sa_cons (se_tup (sa_cons (PL.se pl_non) (sa_cons (PL.se pl_int) sa_nil))) sa_nil))) (ag_cons (PL.se (pl_var 1)) ag_nil)) (hh := hh_no (by rfl))) sc__law_falls_right.nd) (ss_cons (ss_if (st_two ((op_neD room.eq).or op_ne) b_ne (SE.oe (se_one (fun h => pe_callB (cr_max (by rfl)) (by rfl) c.n_max boot_max h) c_max (SE.oe (se_fn ((ok__law_all_records c).mono (by omega)) hg room (takes_of rfl rfl rfl rfl) (by rfl) c.g__law_all_records c.F__law_all_records.kp c.b__law_all_records .nil .nil (ag_cons (PL.se (pl_var 3)) ag_nil) (hh := hh_no (by rfl)))))) (SE.oe (se_twos (fun a b => pe_op (op_sub) a b) b_sub (SE.oe (se_one (fun h => pe_callB (cr_max (by rfl)) (by rfl) c.n_max boot_max h) c_max (SE.oe (se_fn ((ok__law_all_records c).mono (by omega)) hg room (takes_of rfl rfl rfl rfl) (by rfl) c.g__law_all_records c.F__law_all_records.kp c.b__law_all_records .nil .nil (ag_cons (PL.se (pl_var 1)) ag_nil) (hh := hh_no (by rfl)))))) (SE.oe (PL.se pl_int)))) (nomark _)) (ss_one (ss_ret (PL.se pl_bl))) ss_nil) (ss_cons (ss_set 1 (PL.se (pl_var 3)) sc__law_falls_right.nd) (ss_one (ss_set 2 (PL.se (pl_two (fun a b => pe_op (op_add.or op_add_str) a b) b_add (pl_var 2) pl_int)) sc__law_falls_right.nd))))) (by rfl)) (ss_cons (ss_if (st_two ((op_neD room.eq).or op_ne) b_ne (SE.oe (se_one (fun h => pe_callB (cr_repr hg room.repr) (by rfl) c.n_repr boot_repr h) c_repr (SE.oe (se_lst (i := .sh) (sa_cons (se_fn ((ok_right_passes_needed c).mono (by omega)) hg room (takes_of rfl rfl rfl rfl) (by rfl) c.g_right_passes_needed c.F_right_passes_needed.kp c.b_right_passes_needed .nil .nil (ag_cons (PL.se (pl_var 0)) ag_nil) (hh := hh_no (by rfl))) (sa_cons (se_fnk0 ((ok_right_passes_needed c).mono (by omega)) hg room (takes_of rfl rfl rfl rfl) (by rfl) c.g_right_passes_needed c.F_right_passes_needed.kp c.kb_right_passes_needed_0_values .nil .nil (ak_cons (PL.se (pl_var 0)) ak_nil)) sa_nil)))))) (SE.oe (se_one (fun h => pe_callB (cr_repr hg room.repr) (by rfl) c.n_repr boot_repr h) c_repr (SE.oe (se_lst (i := .sh) (sa_cons (PL.se (pl_var 2)) (sa_cons (PL.se (pl_var 2)) sa_nil)))))) (nomark _)) (ss_one (ss_ret (PL.se pl_bl))) ss_nil) (ss_cons (ss_if (SW.st (sw_or (st_two ((op_neD room.eq).or op_ne) b_ne (SE.oe (se_one (fun h => pe_callB (cr_max (by rfl)) (by rfl) c.n_max boot_max h) c_max (SE.oe (se_two (fun a b => pe_op (op_cat.or (op_add.or op_add_str)) a b) b_addL (SE.oe (se_fn ((ok__law_all_records c).mono (by omega)) hg room (takes_of rfl rfl rfl rfl) (by rfl) c.g__law_all_records c.F__law_all_records.kp c.b__law_all_records .nil .nil (ag_cons (PL.se (pl_var 0)) ag_nil) (hh := hh_no (by rfl)))) (SE.oe (se_lst (i := .sh) (sa_cons (PL.se pl_int) sa_nil))))))) (SE.oe (PL.se (pl_var 2))) (nomark _)) (sw_or1 (st_two ((op_neD room.eq).or op_ne) b_ne (SE.oe (se_fn ((ok_passes_needed c).mono (by omega)) hg room (takes_of rfl rfl rfl rfl) (by rfl) c.g_passes_needed c.F_passes_needed.kp c.b_passes_needed .nil .nil (ag_cons (se_sh (se_lst (i := .sh) (sa_cons (se_tup (sa_cons (PL.se pl_non) (sa_cons (PL.se pl_int) sa_nil))) sa_nil))) (ag_cons (PL.se (pl_var 0)) ag_nil)) (hh := hh_no (by rfl)))) (SE.oe (PL.se (pl_var 2))) (nomark _))))) (ss_one (ss_ret (PL.se pl_bl))) ss_nil) (ss_cons (ss_setLc 4 (Γl := [.sh, .sh, .sh, .sh, .sh, .sh]) (own := [("_law_place", 5)]) rfl sc__law_falls_right.nd (blkOk_by (by rfl)) (si_rng1 (by rfl) c.n_range (SE.oe (PL.se (pl_one (fun h => pe_callB call_len (by rfl) c.n_len boot_len h) c_len (pl_var 0))))) (by decide) (by rfl) (by decide) (by rfl) (cl_name (by decide)) (fun _ _ _ _ _ => (tg_name 5 sc__law_falls_right.nd)) (fun _ _ _ _ _ => sp_nil) (fun _ _ _ _ _ => (se_fn ((ok_records_ahead c).mono (by omega)) hg room takes0 (by rfl) c.g_records_ahead c.F_records_ahead.kp c.b_records_ahead .nil .nil (ag_cons (PL.se (pl_var 0)) (ag_cons (PL.se (pl_var 5)) ag_nil)) (hh := hh_no (by rfl)))) (by rfl) (by rfl) (hsw := sw_true rfl rfl rfl rfl)) (ss_cons (ss_if (st_two ((op_neD room.eq).or op_ne) b_ne (PL.oe (pl_var 4)) (SE.oe (se_fn ((ok__law_all_records c).mono (by omega)) hg room (takes_of rfl rfl rfl rfl) (by rfl) c.g__law_all_records c.F__law_all_records.kp c.b__law_all_records .nil .nil (ag_cons (PL.se (pl_var 0)) ag_nil) (hh := hh_no (by rfl)))) (nomark _)) (ss_one (ss_ret (PL.se pl_bl))) ss_nil) (ss_one (ss_ret (se_twos (fun a b => pe_cmpR ((op_eqD room.eq).or op_eq) a b (nomark _)) b_eq (SE.oe (se_fnk ((ok_carried_out c).mono (by omega)) hg room (takes_of rfl rfl rfl rfl) (by rfl) c.g_carried_out c.F_carried_out.kp c.kb_carried_out_2_passes .nil .nil (ag_cons (se_sh (se_lst (i := .sh) (sa_cons (se_tup (sa_cons (PL.se pl_non) (sa_cons (PL.se pl_int) sa_nil))) sa_nil))) (ag_cons (PL.se (pl_var 0)) ag_nil)) (ak_cons (se_cls (fun h => pe_callB (call_min2 (by rfl)) (by rfl) c.n_min boot_min h) c_min2 (oa_cons (SE.oe (PL.se (pl_var 2))) (oa_cons (SE.oe (PL.se pl_int)) oa_nil))) ak_nil))) (SE.oe (se_call (fun h => pe_callB cr_sortedI (by rfl) c.n_sorted boot_sorted h) c_sorted (oa_cons (SE.oe (PL.se (pl_var 0))) oa_nil)))))))))))))
theorem sc__law_right : FnScope ["_law_draws_here", "_law_a_values", "_law_kept", "_law_left", "_law_here", "_law_many", "_law_plan", "_law_place"] ["_law_draws_here", "_law_a_values"] (defScope (top 39)) := ⟨rfl, rfl, rfl, by decide +kernel, rfl, by decide +kernel, by decide +kernel⟩
def s__law_right_C1 : F0 T := (flc (F0.bind (rd (pp2 subS (vr 5) (kc (.int 1)))) (lf fun t => rng1 [t])) (gset 7) [7] (F0.pure true) (F0.bind (F0.bind (rd (pp2 addS (vr 7) (kc (.int 1)))) fun a => F0.bind (F0.bind (rd (kc .non)) fun a => F0.bind (F0.pure []) fun b => F0.pure (a :: b)) fun b => F0.pure (a :: b)) (lf mkT)))
def s__law_right_L1 : S0 := (fsq (fset 4 (F0.bind (F0.bind (F0.bind (F0.bind (F0.bind (F0.bind (rd (kc .non)) fun a => F0.bind (F0.bind (rd (kc .non)) fun a => F0.bind (F0.pure []) fun b => F0.pure (a :: b)) fun b => F0.pure (a :: b)) (lf mkT)) fun a => F0.bind (F0.pure []) fun b => F0.pure (a :: b)) (lf mkL)) fun a => F0.bind (F0.bind (rd (vr 4)) fun a => F0.bind (F0.pure []) fun b => F0.pure (a :: b)) fun b => F0.pure (a :: b)) fun ts => fcall ([none, none] ++ ([] : List T).map fun _ => none) (runF [.sh, .sh] 2 (s__law_once)) (ts ++ []))) (fsq (fset 6 (F0.bind s__law_right_C1 fun a => F0.bind (F0.bind (F0.bind (F0.bind (F0.bind (rd (kc .non)) fun a => F0.bind (F0.bind (rd (kc .non)) fun a => F0.bind (F0.pure []) fun b => F0.pure (a :: b)) fun b => F0.pure (a :: b)) (lf mkT)) fun a => F0.bind (F0.pure []) fun b => F0.pure (a :: b)) (lf mkL)) fun b => lf (addL a) b)) (fsq (fif (tor (F0.bind (F0.bind (F0.bind (F0.bind (rd (vr 5)) fun a => F0.bind (F0.pure []) fun b => F0.pure (a :: b)) fun ts => fcall ([none] ++ ([] : List T).map fun _ => none) (runF [.sh] 2 (s_left_levels)) (ts ++ [])) fun a => F0.bind (rd (vr 6)) fun b => lf (neT a) b) (lf T.bl?)) (F0.bind (F0.bind (F0.bind (F0.bind (rd (vr 6)) fun a => F0.bind (F0.bind (rd (vr 1)) fun a => F0.bind (F0.pure []) fun b => F0.pure (a :: b)) fun b => F0.pure (a :: b)) fun ts => fcall ([none, none] ++ ([] : List T).map fun _ => none) (runF [.sh, .sh] 2 (s__law_once)) (ts ++ [])) fun a => F0.bind (rd (vr 4)) fun b => lf (neT a) b) (lf T.bl?))) (frt (rd (kc (.bl false)))) fnx) (fif (F0.bind (F0.bind (F0.bind (F0.bind (F0.bind (F0.bind (F0.bind (F0.bind (rd (kc .non)) fun a => F0.bind (F0.bind (rd (kc .non)) fun a => F0.bind (F0.pure []) fun b => F0.pure (a :: b)) fun b => F0.pure (a :: b)) (lf mkT)) fun a => F0.bind (F0.pure []) fun b => F0.pure (a :: b)) (lf mkL)) fun a => F0.bind (F0.bind (rd (vr 1)) fun a => F0.bind (F0.pure []) fun b => F0.pure (a :: b)) fun b => F0.pure (a :: b)) fun ts => F0.bind (F0.bind (rd (vr 5)) fun a => F0.bind (F0.pure []) fun b => F0.pure (a :: b)) fun us => fkw [0, 1, 2] (runF [.sh, .sh, .sh] 3 (s_carried_out)) (ts ++ (us ++ []))) fun a => F0.bind (rd (vr 4)) fun b => lf (neT a) b) (lf T.bl?)) (frt (rd (kc (.bl false)))) fnx))))
def s__law_right : S0 := (fsq (fset 2 (rd (pp1 reprT (vr 1)))) (fsq (fset 3 (F0.bind (F0.bind (F0.bind (F0.bind (F0.bind (F0.bind (rd (kc (.int 0))) fun a => F0.bind (F0.bind (rd (kc .non)) fun a => F0.bind (F0.pure []) fun b => F0.pure (a :: b)) fun b => F0.pure (a :: b)) (lf mkT)) fun a => F0.bind (F0.pure []) fun b => F0.pure (a :: b)) (lf mkL)) fun a => F0.bind (F0.bind (rd (vr 1)) fun a => F0.bind (F0.pure []) fun b => F0.pure (a :: b)) fun b => F0.pure (a :: b)) fun ts => fcall ([none, none] ++ ([] : List T).map fun _ => none) (runF [.sh, .sh] 2 (s__law_once)) (ts ++ []))) (fsq (fif (tor (F0.bind (F0.bind (F0.bind (F0.bind (F0.bind (F0.bind (F0.bind (F0.bind (rd (kc (.int 0))) fun a => F0.bind (F0.bind (rd (kc .non)) fun a => F0.bind (F0.pure []) fun b => F0.pure (a :: b)) fun b => F0.pure (a :: b)) (lf mkT)) fun a => F0.bind (F0.pure []) fun b => F0.pure (a :: b)) (lf mkL)) fun a => F0.bind (F0.bind (rd (vr 3)) fun a => F0.bind (F0.pure []) fun b => F0.pure (a :: b)) fun b => F0.pure (a :: b)) fun ts => fcall ([none, none] ++ ([] : List T).map fun _ => none) (runF [.sh, .sh] 2 (s__law_once)) (ts ++ [])) fun a => F0.bind (rd (vr 3)) fun b => lf (neT a) b) (lf T.bl?)) (F0.bind (F0.bind (F0.bind (F0.bind (F0.bind (F0.bind (F0.bind (F0.bind (rd (kc (.int 0))) fun a => F0.bind (F0.bind (rd (kc .non)) fun a => F0.bind (F0.pure []) fun b => F0.pure (a :: b)) fun b => F0.pure (a :: b)) (lf mkT)) fun a => F0.bind (F0.pure []) fun b => F0.pure (a :: b)) (lf mkL)) fun a => F0.bind (F0.bind (rd (vr 1)) fun a => F0.bind (F0.pure []) fun b => F0.pure (a :: b)) fun b => F0.pure (a :: b)) fun ts => fcall ([none, none] ++ ([] : List T).map fun _ => none) (runF [.sh, .sh] 5 (s_passes_needed)) (ts ++ [])) fun a => F0.bind (rd (pp1 intT (pp2 neT (vr 3) (vr 1)))) fun b => lf (neT a) b) (lf T.bl?))) (frt (rd (kc (.bl false)))) fnx) (fsq (fset 4 (F0.bind (F0.bind (rd (vr 1)) fun a => F0.bind (F0.pure []) fun b => F0.pure (a :: b)) (lf (one listT)))) (fsq (afI (F0.bind (rd (kc (.int 1))) fun x => F0.bind (rd (kc (.int 13))) fun y => lf (fun y => rng2 [x, y]) y) (ffor (gset 5) s__law_right_L1)) (frt (vand (F0.bind (F0.bind (rd (vr 1)) fun a => F0.bind (F0.pure []) fun b => F0.pure (a :: b)) fun ts => fcall ([none] ++ ([] : List T).map fun _ => none) (runF [.sh] 6 (s__law_falls_right)) (ts ++ [])) (rd (pp2 eqT (pp1 reprT (vr 1)) (vr 2))))))))))
theorem ok__law_right (c : Fc K mg) : FnG P w K mg base 76 c.f__law_right c.fd__law_right ["_law_draws_here", "_law_a_values"] (spG K [.sh, .sh] .sh (runF [.sh, .sh] 8 s__law_right)) :=
  fnG_body c.F__law_right sc__law_right (Γp := [.sh, .sh]) (ρr := .sh) (C := { Γr := [.sh, .sh, .sh, .sh, .sh, .sh, .sh, .sh], ρr := .sh, Γl := [], M := [] }) (Γ' := [.sh, .sh, .sh, .sh, .sh, .sh, .sh, .sh]) (b := s__law_right) rfl rfl rfl (own_in (by rfl)) (by rfl) fun cdv A outer s H E hg room => (ss_cons (ss_set 2 (PL.se (pl_one (fun h => pe_callB (cr_repr hg room.repr) (by rfl) c.n_repr boot_repr h) c_repr (pl_var 1))) sc__law_right.nd) (ss_cons (ss_set 3 (se_fn ((ok__law_once c).mono (by omega)) hg room (takes_of rfl rfl rfl rfl) (by rfl) c.g__law_once c.F__law_once.kp c.b__law_once .nil .nil (ag_cons (se_sh (se_lst (i := .sh) (sa_cons (se_tup (sa_cons (PL.se pl_int) (sa_cons (PL.se pl_non) sa_nil))) sa_nil))) (ag_cons (PL.se (pl_var 1)) ag_nil)) (hh := hh_no (by rfl))) sc__law_right.nd) (ss_cons (ss_if (SW.st (sw_or (st_two ((op_neD room.eq).or op_ne) b_ne (SE.oe (se_fn ((ok__law_once c).mono (by omega)) hg room (takes_of rfl rfl rfl rfl) (by rfl) c.g__law_once c.F__law_once.kp c.b__law_once .nil .nil (ag_cons (se_sh (se_lst (i := .sh) (sa_cons (se_tup (sa_cons (PL.se pl_int) (sa_cons (PL.se pl_non) sa_nil))) sa_nil))) (ag_cons (PL.se (pl_var 3)) ag_nil)) (hh := hh_no (by rfl)))) (SE.oe (PL.se (pl_var 3))) (nomark _)) (sw_or1 (st_two ((op_neD room.eq).or op_ne) b_ne (SE.oe (se_fn ((ok_passes_needed c).mono (by omega)) hg room (takes_of rfl rfl rfl rfl) (by rfl) c.g_passes_needed c.F_passes_needed.kp c.b_passes_needed .nil .nil (ag_cons (se_sh (se_lst (i := .sh) (sa_cons (se_tup (sa_cons (PL.se pl_int) (sa_cons (PL.se pl_non) sa_nil))) sa_nil))) (ag_cons (PL.se (pl_var 1)) ag_nil)) (hh := hh_no (by rfl)))) (SE.oe (PL.se (pl_one (fun h => pe_callTy call_int1 (by rfl) c.n_int boot_int h) c_int (pl_two (fun a b => pe_cmpR ((op_neD room.eq).or op_ne) a b (nomark _)) b_ne (pl_var 3) (pl_var 1))))) (nomark _))))) (ss_one (ss_ret (PL.se pl_bl))) ss_nil) (ss_cons (ss_set 4 (se_call (fun h => pe_callTy call_list_of (by rfl) c.n_list boot_list h) c_list (oa_cons (SE.oe (PL.se (pl_var 1))) oa_nil)) sc__law_right.nd) (ss_cons (ss_for (Γl := [.sh, .sh, .sh, .sh, .sh, .sh, .sh, .sh]) (passes_of rfl) rfl (si_rng2 (by rfl) c.n_range (SE.oe (PL.se pl_int)) (SE.oe (PL.se pl_int))) (by rfl) (tg_name 5 sc__law_right.nd) (ss_cons (ss_set 4 (se_fn ((ok__law_once c).mono (by omega)) hg room (takes_of rfl rfl rfl rfl) (by rfl) c.g__law_once c.F__law_once.kp c.b__law_once .nil .nil (ag_cons (se_sh (se_lst (i := .sh) (sa_cons (se_tup (sa_cons (PL.se pl_non) (sa_cons (PL.se pl_non) sa_nil))) sa_nil))) (ag_cons (PL.se (pl_var 4)) ag_nil)) (hh := hh_no (by rfl))) sc__law_right.nd) (ss_cons (ss_set 6 (se_two (fun a b => pe_op (op_cat.or (op_add.or op_add_str)) a b) b_addL (SE.oe (se_lc (Γl := [.sh, .sh, .sh, .sh, .sh, .sh, .sh, .sh]) (own := [("_law_place", 7)]) rfl sc__law_right.nd (blkOk_by (by rfl)) (si_rng1 (by rfl) c.n_range (SE.oe (PL.se (pl_two (fun a b => pe_op (op_sub) a b) b_sub (pl_var 5) pl_int)))) (by decide) (by rfl) (by decide) (by rfl) (cl_name (by decide)) (fun _ _ _ _ _ => (tg_name 7 sc__law_right.nd)) (fun _ _ _ _ _ => sp_nil) (fun _ _ _ _ _ => (se_tup (sa_cons (PL.se (pl_two (fun a b => pe_op (op_add.or op_add_str) a b) b_add (pl_var 7) pl_int)) (sa_cons (PL.se pl_non) sa_nil)))) (by rfl) (by rfl))) (SE.oe (se_lst (i := .sh) (sa_cons (se_tup (sa_cons (PL.se pl_non) (sa_cons (PL.se pl_non) sa_nil))) sa_nil)))) sc__law_right.nd) (ss_cons (ss_if (SW.st (sw_or (st_two ((op_neD room.eq).or op_ne) b_ne (SE.oe (se_fn ((ok_left_levels c).mono (by omega)) hg room (takes_of rfl rfl rfl rfl) (by rfl) c.g_left_levels c.F_left_levels.kp c.b_left_levels .nil .nil (ag_cons (PL.se (pl_var 5)) ag_nil) (hh := hh_no (by rfl)))) (PL.oe (pl_var 6)) (nomark _)) (sw_or1 (st_two ((op_neD room.eq).or op_ne) b_ne (SE.oe (se_fn ((ok__law_once c).mono (by omega)) hg room (takes_of rfl rfl rfl rfl) (by rfl) c.g__law_once c.F__law_once.kp c.b__law_once .nil .nil (ag_cons (se_take 6) (ag_cons (PL.se (pl_var 1)) ag_nil)) (hh := hh_no (by rfl)))) (SE.oe (PL.se (pl_var 4))) (nomark _))))) (ss_one (ss_ret (PL.se pl_bl))) ss_nil) (ss_one (ss_if (st_two ((op_neD room.eq).or op_ne) b_ne (SE.oe (se_fnk ((ok_carried_out c).mono (by omega)) hg room (takes_of rfl rfl rfl rfl) (by rfl) c.g_carried_out c.F_carried_out.kp c.kb_carried_out_2_passes .nil .nil (ag_cons (se_sh (se_lst (i := .sh) (sa_cons (se_tup (sa_cons (PL.se pl_non) (sa_cons (PL.se pl_non) sa_nil))) sa_nil))) (ag_cons (PL.se (pl_var 1)) ag_nil)) (ak_cons (PL.se (pl_var 5)) ak_nil))) (SE.oe (PL.se (pl_var 4))) (nomark _)) (ss_one (ss_ret (PL.se pl_bl))) ss_nil))))) (by rfl)) (ss_one (ss_ret (se_and (se_fn ((ok__law_falls_right c).mono (by omega)) hg room (takes_of rfl rfl rfl rfl) (by rfl) c.g__law_falls_right c.F__law_falls_right.kp c.b__law_falls_right .nil .nil (ag_cons (PL.se (pl_var 1)) ag_nil) (hh := hh_no (by rfl))) (se_and1 (PL.se (pl_two (fun a b => pe_cmpR ((op_eqD room.eq).or op_eq) a b (nomark _)) b_eq (pl_one (fun h => pe_callB (cr_repr hg room.repr) (by rfl) c.n_repr boot_repr h) c_repr (pl_var 1)) (pl_var 2))))))))))))
theorem sc__law_right__o : FnScope ["_law_draws_here", "_law_a_values", "_law_kept", "_law_left", "_law_here", "_law_many", "_law_plan", "_law_place"] ["_law_draws_here", "_law_a_values"] (defScope (top 39)) := ⟨rfl, rfl, rfl, by decide +kernel, rfl, by decide +kernel, by decide +kernel⟩
def s__law_right__o_C1 : F0 T := (flc (F0.bind (rd (pp2 subS (vr 5) (kc (.int 1)))) (lf fun t => rng1 [t])) (gset 7) [7] (F0.pure true) (F0.bind (F0.bind (rd (pp2 addS (vr 7) (kc (.int 1)))) fun a => F0.bind (F0.bind (rd (kc .non)) fun a => F0.bind (F0.pure []) fun b => F0.pure (a :: b)) fun b => F0.pure (a :: b)) (lf mkT)))
def s__law_right__o_L1 : S0 := (fsq (fset 4 (F0.bind (F0.bind (F0.bind (F0.bind (F0.bind (F0.bind (rd (kc .non)) fun a => F0.bind (F0.bind (rd (kc .non)) fun a => F0.bind (F0.pure []) fun b => F0.pure (a :: b)) fun b => F0.pure (a :: b)) (lf mkT)) fun a => F0.bind (F0.pure []) fun b => F0.pure (a :: b)) (lf mkL)) fun a => F0.bind (F0.bind (rd (vr 4)) fun a => F0.bind (F0.pure []) fun b => F0.pure (a :: b)) fun b => F0.pure (a :: b)) fun ts => fcall ([none, none] ++ ([] : List T).map fun _ => none) (runF [.sh, .sh] 2 (s__law_once)) (ts ++ []))) (fsq (fset 6 (F0.bind s__law_right__o_C1 fun a => F0.bind (F0.bind (F0.bind (F0.bind (F0.bind (rd (kc .non)) fun a => F0.bind (F0.bind (rd (kc .non)) fun a => F0.bind (F0.pure []) fun b => F0.pure (a :: b)) fun b => F0.pure (a :: b)) (lf mkT)) fun a => F0.bind (F0.pure []) fun b => F0.pure (a :: b)) (lf mkL)) fun b => lf (addL a) b)) (fsq (fif (tor (F0.bind (F0.bind (F0.bind (F0.bind (rd (vr 5)) fun a => F0.bind (F0.pure []) fun b => F0.pure (a :: b)) fun ts => fcall ([none] ++ ([] : List T).map fun _ => none) (runF [.sh] 2 (s_left_levels)) (ts ++ [])) fun a => F0.bind (rd (vr 6)) fun b => lf (neT a) b) (lf T.bl?)) (F0.bind (F0.bind (F0.bind (F0.bind (rd (vr 6)) fun a => F0.bind (F0.bind (rd (vr 1)) fun a => F0.bind (F0.pure []) fun b => F0.pure (a :: b)) fun b => F0.pure (a :: b)) fun ts => fcall ([none, none] ++ ([] : List T).map fun _ => none) (runF [.sh, .sh] 2 (s__law_once)) (ts ++ [])) fun a => F0.bind (rd (vr 4)) fun b => lf (neT a) b) (lf T.bl?))) (frt (rd (kc (.bl false)))) fnx) (fif (F0.bind (F0.bind (F0.bind (F0.bind (F0.bind (F0.bind (F0.bind (F0.bind (rd (kc .non)) fun a => F0.bind (F0.bind (rd (kc .non)) fun a => F0.bind (F0.pure []) fun b => F0.pure (a :: b)) fun b => F0.pure (a :: b)) (lf mkT)) fun a => F0.bind (F0.pure []) fun b => F0.pure (a :: b)) (lf mkL)) fun a => F0.bind (F0.bind (rd (vr 1)) fun a => F0.bind (F0.pure []) fun b => F0.pure (a :: b)) fun b => F0.pure (a :: b)) fun ts => F0.bind (F0.bind (rd (vr 5)) fun a => F0.bind (F0.pure []) fun b => F0.pure (a :: b)) fun us => fkw [0, 1, 2] (runF [.sh, .sh, .sh] 3 (s_carried_out)) (ts ++ (us ++ []))) fun a => F0.bind (rd (vr 4)) fun b => lf (neT a) b) (lf T.bl?)) (frt (rd (kc (.bl false)))) fnx))))
def s__law_right__o : S0 := (fsq (fset 2 (rd (pp1 reprT (vr 1)))) (fsq (fset 3 (F0.bind (F0.bind (F0.bind (F0.bind (F0.bind (F0.bind (rd (kc (.int 0))) fun a => F0.bind (F0.bind (rd (kc .non)) fun a => F0.bind (F0.pure []) fun b => F0.pure (a :: b)) fun b => F0.pure (a :: b)) (lf mkT)) fun a => F0.bind (F0.pure []) fun b => F0.pure (a :: b)) (lf mkL)) fun a => F0.bind (F0.bind (rd (vr 1)) fun a => F0.bind (F0.pure []) fun b => F0.pure (a :: b)) fun b => F0.pure (a :: b)) fun ts => fcall ([none, none] ++ ([] : List T).map fun _ => none) (runF [.sh, .sh] 2 (s__law_once)) (ts ++ []))) (fsq (fif (tor (F0.bind (F0.bind (F0.bind (F0.bind (F0.bind (F0.bind (F0.bind (F0.bind (rd (kc (.int 0))) fun a => F0.bind (F0.bind (rd (kc .non)) fun a => F0.bind (F0.pure []) fun b => F0.pure (a :: b)) fun b => F0.pure (a :: b)) (lf mkT)) fun a => F0.bind (F0.pure []) fun b => F0.pure (a :: b)) (lf mkL)) fun a => F0.bind (F0.bind (rd (vr 3)) fun a => F0.bind (F0.pure []) fun b => F0.pure (a :: b)) fun b => F0.pure (a :: b)) fun ts => fcall ([none, none] ++ ([] : List T).map fun _ => none) (runF [.sh, .sh] 2 (s__law_once)) (ts ++ [])) fun a => F0.bind (rd (vr 3)) fun b => lf (neT a) b) (lf T.bl?)) (F0.bind (F0.bind (F0.bind (F0.bind (F0.bind (F0.bind (F0.bind (F0.bind (rd (kc (.int 0))) fun a => F0.bind (F0.bind (rd (kc .non)) fun a => F0.bind (F0.pure []) fun b => F0.pure (a :: b)) fun b => F0.pure (a :: b)) (lf mkT)) fun a => F0.bind (F0.pure []) fun b => F0.pure (a :: b)) (lf mkL)) fun a => F0.bind (F0.bind (rd (vr 1)) fun a => F0.bind (F0.pure []) fun b => F0.pure (a :: b)) fun b => F0.pure (a :: b)) fun ts => fcall ([none, none] ++ ([] : List T).map fun _ => none) (runF [.sh, .sh] 5 (s_passes_needed)) (ts ++ [])) fun a => F0.bind (rd (pp1 intT (pp2 neT (vr 3) (vr 1)))) fun b => lf (neT a) b) (lf T.bl?))) (frt (rd (kc (.bl false)))) fnx) (fsq (fset 4 (F0.bind (F0.bind (rd (vr 1)) fun a => F0.bind (F0.pure []) fun b => F0.pure (a :: b)) (lf (one listT)))) (fsq (afI (F0.bind (rd (kc (.int 1))) fun x => F0.bind (rd (kc (.int 13))) fun y => lf (fun y => rng2 [x, y]) y) (ffor (gset 5) s__law_right__o_L1)) (frt (vand (F0.bind (F0.bind (rd (vr 1)) fun a => F0.bind (F0.pure []) fun b => F0.pure (a :: b)) fun ts => fcall ([none] ++ ([] : List T).map fun _ => none) (runF [.sh] 6 (s__law_falls_right)) (ts ++ [])) (rd (pp2 eqT (pp1 reprT (vr 1)) (vr 2))))))))))
theorem ok__law_right__o (c : Fc K mg) : FnG P w K mg base 76 c.f__law_right c.fd__law_right ["_law_draws_here", "_law_a_values"] (spG K [.ow .sh, .sh] .sh (runF [.ow .sh, .sh] 8 s__law_right__o)) :=
  fnG_body c.F__law_right sc__law_right__o (Γp := [.ow .sh, .sh]) (ρr := .sh) (C := { Γr := [.ow .sh, .sh, .sh, .sh, .sh, .sh, .sh, .sh], ρr := .sh, Γl := [], M := [0] }) (Γ' := [.ow .sh, .sh, .sh, .sh, .sh, .sh, .sh, .sh]) (b := s__law_right__o) rfl rfl rfl (own_in (by rfl)) (by rfl) fun cdv A outer s H E hg room => (ss_cons (ss_set 2 (PL.se (pl_one (fun h => pe_callB (cr_repr hg room.repr) (by rfl) c.n_repr boot_repr h) c_repr (pl_var 1))) sc__law_right__o.nd) (ss_cons (ss_set 3 (se_fn ((ok__law_once c).mono (by omega)) hg room (takes_of rfl rfl rfl rfl) (by rfl) c.g__law_once c.F__law_once.kp c.b__law_once .nil .nil (ag_cons (se_sh (se_lst (i := .sh) (sa_cons (se_tup (sa_cons (PL.se pl_int) (sa_cons (PL.se pl_non) sa_nil))) sa_nil))) (ag_cons (PL.se (pl_var 1)) ag_nil)) (hh := hh_no (by rfl))) sc__law_right__o.nd) (ss_cons (ss_if (SW.st (sw_or (st_two ((op_neD room.eq).or op_ne) b_ne (SE.oe (se_fn ((ok__law_once c).mono (by omega)) hg room (takes_of rfl rfl rfl rfl) (by rfl) c.g__law_once c.F__law_once.kp c.b__law_once .nil .nil (ag_cons (se_sh (se_lst (i := .sh) (sa_cons (se_tup (sa_cons (PL.se pl_int) (sa_cons (PL.se pl_non) sa_nil))) sa_nil))) (ag_cons (PL.se (pl_var 3)) ag_nil)) (hh := hh_no (by rfl)))) (SE.oe (PL.se (pl_var 3))) (nomark _)) (sw_or1 (st_two ((op_neD room.eq).or op_ne) b_ne (SE.oe (se_fn ((ok_passes_needed c).mono (by omega)) hg room (takes_of rfl rfl rfl rfl) (by rfl) c.g_passes_needed c.F_passes_needed.kp c.b_passes_needed .nil .nil (ag_cons (se_sh (se_lst (i := .sh) (sa_cons (se_tup (sa_cons (PL.se pl_int) (sa_cons (PL.se pl_non) sa_nil))) sa_nil))) (ag_cons (PL.se (pl_var 1)) ag_nil)) (hh := hh_no (by rfl)))) (SE.oe (PL.se (pl_one (fun h => pe_callTy call_int1 (by rfl) c.n_int boot_int h) c_int (pl_two (fun a b => pe_cmpR ((op_neD room.eq).or op_ne) a b (nomark _)) b_ne (pl_var 3) (pl_var 1))))) (nomark _))))) (ss_one (ss_ret (PL.se pl_bl))) ss_nil) (ss_cons (ss_set 4 (se_call (fun h => pe_callTy call_list_of (by rfl) c.n_list boot_list h) c_list (oa_cons (SE.oe (PL.se (pl_var 1))) oa_nil)) sc__law_right__o.nd) (ss_cons (ss_for (Γl := [.ow .sh, .sh, .sh, .sh, .sh, .sh, .sh, .sh]) (passes_of rfl) rfl (si_rng2 (by rfl) c.n_range (SE.oe (PL.se pl_int)) (SE.oe (PL.se pl_int))) (by rfl) (tg_name 5 sc__law_right__o.nd) (ss_cons (ss_set 4 (se_fn ((ok__law_once c).mono (by omega)) hg room (takes_of rfl rfl rfl rfl) (by rfl) c.g__law_once c.F__law_once.kp c.b__law_once .nil .nil (ag_cons (se_sh (se_lst (i := .sh) (sa_cons (se_tup (sa_cons (PL.se pl_non) (sa_cons (PL.se pl_non) sa_nil))) sa_nil))) (ag_cons (PL.se (pl_var 4)) ag_nil)) (hh := hh_no (by rfl))) sc__law_right__o.nd) (ss_cons (ss_set 6 (se_two (fun a b => pe_op (op_cat.or (op_add.or op_add_str)) a b) b_addL (SE.oe (se_lc (Γl := [.ow .sh, .sh, .sh, .sh, .sh, .sh, .sh, .sh]) (own := [("_law_place", 7)]) rfl sc__law_right__o.nd (blkOk_by (by rfl)) (si_rng1 (by rfl) c.n_range (SE.oe (PL.se (pl_two (fun a b => pe_op (op_sub) a b) b_sub (pl_var 5) pl_int)))) (by decide) (by rfl) (by decide) (by rfl) (cl_name (by decide)) (fun _ _ _ _ _ => (tg_name 7 sc__law_right__o.nd)) (fun _ _ _ _ _ => sp_nil) (fun _ _ _ _ _ => (se_tup (sa_cons (PL.se (pl_two (fun a b => pe_op (op_add.or op_add_str) a b) b_add (pl_var 7) pl_int)) (sa_cons (PL.se pl_non) sa_nil)))) (by rfl) (by rfl))) (SE.oe (se_lst (i := .sh) (sa_cons (se_tup (sa_cons (PL.se pl_non) (sa_cons (PL.se pl_non) sa_nil))) sa_nil)))) sc__law_right__o.nd) (ss_cons (ss_if (SW.st (sw_or (st_two ((op_neD room.eq).or op_ne) b_ne (SE.oe (se_fn ((ok_left_levels c).mono (by omega)) hg room (takes_of rfl rfl rfl rfl) (by rfl) c.g_left_levels c.F_left_levels.kp c.b_left_levels .nil .nil (ag_cons (PL.se (pl_var 5)) ag_nil) (hh := hh_no (by rfl)))) (PL.oe (pl_var 6)) (nomark _)) (sw_or1 (st_two ((op_neD room.eq).or op_ne) b_ne (SE.oe (se_fn ((ok__law_once c).mono (by omega)) hg room (takes_of rfl rfl rfl rfl) (by rfl) c.g__law_once c.F__law_once.kp c.b__law_once .nil .nil (ag_cons (se_take 6) (ag_cons (PL.se (pl_var 1)) ag_nil)) (hh := hh_no (by rfl)))) (SE.oe (PL.se (pl_var 4))) (nomark _))))) (ss_one (ss_ret (PL.se pl_bl))) ss_nil) (ss_one (ss_if (st_two ((op_neD room.eq).or op_ne) b_ne (SE.oe (se_fnk ((ok_carried_out c).mono (by omega)) hg room (takes_of rfl rfl rfl rfl) (by rfl) c.g_carried_out c.F_carried_out.kp c.kb_carried_out_2_passes .nil .nil (ag_cons (se_sh (se_lst (i := .sh) (sa_cons (se_tup (sa_cons (PL.se pl_non) (sa_cons (PL.se pl_non) sa_nil))) sa_nil))) (ag_cons (PL.se (pl_var 1)) ag_nil)) (ak_cons (PL.se (pl_var 5)) ak_nil))) (SE.oe (PL.se (pl_var 4))) (nomark _)) (ss_one (ss_ret (PL.se pl_bl))) ss_nil))))) (by rfl)) (ss_one (ss_ret (se_and (se_fn ((ok__law_falls_right c).mono (by omega)) hg room (takes_of rfl rfl rfl rfl) (by rfl) c.g__law_falls_right c.F__law_falls_right.kp c.b__law_falls_right .nil .nil (ag_cons (PL.se (pl_var 1)) ag_nil) (hh := hh_no (by rfl))) (se_and1 (PL.se (pl_two (fun a b => pe_cmpR ((op_eqD room.eq).or op_eq) a b (nomark _)) b_eq (pl_one (fun h => pe_callB (cr_repr hg room.repr) (by rfl) c.n_repr boot_repr h) c_repr (pl_var 1)) (pl_var 2))))))))))))
theorem sc_law : FnScope ["_law_script", "_law_draws_here", "_law_turn", "_law_many", "_law_far", "_law_cell"] ["_law_script"] (defScope (top 40)) := ⟨rfl, rfl, rfl, by decide +kernel, rfl, by decide +kernel, by decide +kernel⟩
def s_law_C1 : F0 T := (flc (F0.bind (F0.bind (F0.bind (rd (vr 0)) fun a => F0.bind (F0.bind (F0.pure none) fun l => F0.bind (F0.bind (rd (kc (.int 6))) (lf fun t => t.int?.map some)) fun u => F0.pure (l, u)) fun p => lf (slT a) p) fun a => F0.bind (F0.bind (F0.bind (rd (kc (.int 0))) fun a => F0.bind (F0.pure []) fun b => F0.pure (a :: b)) (lf mkL)) fun b => lf (addL a) b) (lf T.lst?)) (gset 5) [5] (F0.pure true) (F0.bind (F0.bind (rd (vr 5)) fun a => F0.bind (F0.pure []) fun b => F0.pure (a :: b)) fun ts => fcall ([none] ++ ([] : List T).map fun _ => none) (runF [.sh] 1 (s__law_draws)) (ts ++ [])))
def s_law_L3 : S0 := (fif (tnot (F0.bind (F0.bind (fun E => (vr 1 E).bind fun _ => (F0.bind (F0.bind (F0.bind (fun E => (vr 1 E).bind fun _ => (F0.bind (F0.bind (rd (kc (.int 60))) fun a => F0.bind (F0.pure []) fun b => F0.pure (a :: b)) fun b => F0.pure (.non :: b)) E) fun ts => fcall ([some 1, none] ++ ([] : List T).map fun _ => none) (runF [.ow .sh, .sh] 5 (s__law_values)) (ts ++ [])) fun a => F0.bind (F0.pure []) fun b => F0.pure (a :: b)) fun b => F0.pure (.non :: b)) E) fun ts => fcall ([some 1, none] ++ ([] : List T).map fun _ => none) (runF [.ow .sh, .sh] 8 (s__law_right__o)) (ts ++ [])) (lf T.bl?))) (frt (rd (kc (.bl false)))) fnx)
def s_law_L1 : S0 := (afI (F0.bind (rd (kc (.int 2))) (lf fun t => rng1 [t])) (ffor (gset 2) s_law_L3))
def s_law_L2 : S0 := (fif (F0.bind (F0.bind (F0.bind (F0.bind (F0.bind (F0.bind (rd (vr 3)) fun a => F0.bind (F0.bind (rd (pp1 negT (kc (.int 1)))) fun a => F0.bind (F0.bind (rd (pp1 negT (kc (.int 1)))) fun a => F0.bind (F0.pure []) fun b => F0.pure (a :: b)) fun b => F0.pure (a :: b)) fun b => F0.pure (a :: b)) (lf lrg3)) fun a => F0.bind (F0.pure []) fun b => F0.pure (a :: b)) fun ts => fcall ([none] ++ ([] : List T).map fun _ => none) (runF [.sh] 2 (s_right_passes_needed)) (ts ++ [])) fun a => F0.bind (rd (vr 3)) fun b => lf (neT a) b) (lf T.bl?)) (frt (rd (kc (.bl false)))) fnx)
def s_law : S0 := (fsq (afI (F0.bind s_law_C1 (lf T.lst?)) (ffor (gset 1) s_law_L1)) (fsq (afI (F0.bind (F0.bind (F0.bind (rd (kc (.int 0))) fun a => F0.bind (F0.bind (rd (kc (.int 1))) fun a => F0.bind (F0.bind (rd (kc (.int 2))) fun a => F0.bind (F0.bind (rd (kc (.int 12))) fun a => F0.bind (F0.bind (rd (kc (.int 59))) fun a => F0.bind (F0.pure []) fun b => F0.pure (a :: b)) fun b => F0.pure (a :: b)) fun b => F0.pure (a :: b)) fun b => F0.pure (a :: b)) fun b => F0.pure (a :: b)) (lf mkL)) (lf T.lst?)) (ffor (gset 3) s_law_L2)) (fsq (fset 4 (rd (pp2 subS (pp2 powS (kc (.int 10)) (kc (.int 20))) (kc (.int 1))))) (fsq (fif (tor (F0.bind (F0.bind (F0.bind (F0.bind (F0.bind (F0.bind (rd (vr 4)) fun a => F0.bind (F0.bind (rd (kc (.int 0))) fun a => F0.bind (F0.pure []) fun b => F0.pure (a :: b)) fun b => F0.pure (a :: b)) (lf mkL)) fun a => F0.bind (F0.pure []) fun b => F0.pure (a :: b)) fun ts => fcall ([none] ++ ([] : List T).map fun _ => none) (runF [.sh] 2 (s_right_passes_needed)) (ts ++ [])) fun a => F0.bind (rd (kc (.int 1))) fun b => lf (neT a) b) (lf T.bl?)) (F0.bind (F0.bind (F0.bind (F0.bind (F0.bind (F0.bind (rd (vr 4)) fun a => F0.bind (F0.bind (rd (kc (.int 0))) fun a => F0.bind (F0.bind (rd (pp1 negT (vr 4))) fun a => F0.bind (F0.pure []) fun b => F0.pure (a :: b)) fun b => F0.pure (a :: b)) fun b => F0.pure (a :: b)) (lf mkL)) fun a => F0.bind (F0.pure []) fun b => F0.pure (a :: b)) fun ts => fcall ([none] ++ ([] : List T).map fun _ => none) (runF [.sh] 2 (s_right_passes_needed)) (ts ++ [])) fun a => F0.bind (rd (kc (.int 2))) fun b => lf (neT a) b) (lf T.bl?))) (frt (rd (kc (.bl false)))) fnx) (fsq (fif (tor (tnot (F0.bind (F0.bind (F0.bind (rd (vr 1)) fun a => F0.bind (F0.bind (F0.bind (F0.pure []) (lf mkL)) fun a => F0.bind (F0.pure []) fun b => F0.pure (a :: b)) fun b => F0.pure (a :: b)) fun ts => fcall ([none, none] ++ ([] : List T).map fun _ => none) (runF [.sh, .sh] 8 (s__law_right)) (ts ++ [])) (lf T.bl?))) (tnot (F0.bind (F0.bind (F0.bind (rd (vr 1)) fun a => F0.bind (F0.bind (F0.bind (F0.bind (rd (vr 4)) fun a => F0.bind (F0.bind (rd (kc (.int 0))) fun a => F0.bind (F0.bind (rd (pp1 negT (vr 4))) fun a => F0.bind (F0.pure []) fun b => F0.pure (a :: b)) fun b => F0.pure (a :: b)) fun b => F0.pure (a :: b)) (lf mkL)) fun a => F0.bind (F0.pure []) fun b => F0.pure (a :: b)) fun b => F0.pure (a :: b)) fun ts => fcall ([none, none] ++ ([] : List T).map fun _ => none) (runF [.sh, .sh] 8 (s__law_right)) (ts ++ [])) (lf T.bl?)))) (frt (rd (kc (.bl false)))) fnx) (frt (vand (F0.bind (F0.bind (F0.bind (rd (kc (.int 0))) fun a => F0.bind (F0.pure []) fun b => F0.pure (a :: b)) fun ts => fcall ([none] ++ ([] : List T).map fun _ => none) (runF [.sh] 2 (s_levels)) (ts ++ [])) fun a => F0.bind (F0.bind (F0.pure []) (lf mkL)) fun b => lf (eqT a) b) (vand (F0.bind (F0.bind (F0.bind (rd (kc (.int 0))) fun a => F0.bind (F0.pure []) fun b => F0.pure (a :: b)) fun ts => fcall ([none] ++ ([] : List T).map fun _ => none) (runF [.sh] 2 (s_left_levels)) (ts ++ [])) fun a => F0.bind (F0.bind (F0.pure []) (lf mkL)) fun b => lf (eqT a) b) (F0.bind (F0.bind (rd (vr 1)) fun a => F0.bind (F0.bind (F0.bind (F0.bind (rd (kc (.int 3))) fun a => F0.bind (F0.bind (rd (kc (.int 3))) fun a => F0.bind (F0.bind (rd (kc (.int 2))) fun a => F0.bind (F0.bind (rd (kc (.int 2))) fun a => F0.bind (F0.bind (rd (kc (.int 1))) fun a => F0.bind (F0.bind (rd (kc (.int 1))) fun a => F0.bind (F0.pure []) fun b => F0.pure (a :: b)) fun b => F0.pure (a :: b)) fun b => F0.pure (a :: b)) fun b => F0.pure (a :: b)) fun b => F0.pure (a :: b)) fun b => F0.pure (a :: b)) (lf mkL)) fun a => F0.bind (F0.pure []) fun b => F0.pure (a :: b)) fun b => F0.pure (a :: b)) fun ts => fcall ([none, none] ++ ([] : List T).map fun _ => none) (runF [.sh, .sh] 8 (s__law_right)) (ts ++ []))))))))))
theorem ok_law (c : Fc K mg) : FnG P w K mg base 77 c.f_law c.fd_law ["_law_script"] (spG K [.sh] .sh (runF [.sh] 6 s_law)) :=
  fnG_body c.F_law sc_law (Γp := [.sh]) (ρr := .sh) (C := { Γr := [.sh, .sh, .sh, .sh, .sh, .sh], ρr := .sh, Γl := [], M := [] }) (Γ' := [.sh, .sh, .sh, .sh, .sh, .sh]) (b := s_law) rfl rfl rfl (own_in (by rfl)) (by rfl) fun cdv A outer s H E hg room => (ss_cons (ss_for (Γl := [.sh, .sh, .sh, .sh, .sh, .sh]) (passes_of rfl) rfl (si_own (ι := (.ow .sh)) (se_lc (Γl := [.sh, .sh, .sh, .sh, .sh, .sh]) (own := [("_law_cell", 5)]) rfl sc_law.nd (blkOk_by (by rfl)) (si_list (SE.lo (se_sh (se_two (fun a b => pe_op (op_cat.or (op_add.or op_add_str)) a b) b_addL (SE.oe (se_sl (SE.oe (PL.se (pl_var 0))) op_no (op_so (SE.oe (PL.se pl_int))))) (SE.oe (se_lst (i := .sh) (sa_cons (PL.se pl_int) sa_nil))))))) (by decide) (by rfl) (by decide) (by rfl) (cl_name (by decide)) (fun _ _ _ _ _ => (tg_name 5 sc_law.nd)) (fun _ _ _ _ _ => sp_nil) (fun _ _ _ _ _ => (se_fn ((ok__law_draws c).mono (by omega)) hg room takes0 (by rfl) c.g__law_draws c.F__law_draws.kp c.b__law_draws .nil .nil (ag_cons (PL.se (pl_var 5)) ag_nil) (hh := hh_no (by rfl)))) (by rfl) (by rfl))) (by rfl) (tg_name 1 sc_law.nd) (ss_one (ss_for (Γl := [.sh, .ow .sh, .sh, .sh, .sh, .sh]) (passes_of rfl) rfl (si_rng1 (by rfl) c.n_range (SE.oe (PL.se pl_int))) (by rfl) (tg_name 2 sc_law.nd) (ss_one (ss_if (st_not (st_val (se_fn ((ok__law_right__o c).mono (by omega)) hg room (takes_of rfl rfl rfl rfl) (by rfl) c.g__law_right c.F__law_right.kp c.b__law_right .nil .nil (ag_mu 1 (ag_cons (se_sh (se_fn ((ok__law_values c).mono (by omega)) hg room (takes_of rfl rfl rfl rfl) (by rfl) c.g__law_values c.F__law_values.kp c.b__law_values .nil .nil (ag_mu 1 (ag_cons (PL.se pl_int) ag_nil)) (hh := hh_of 1 (by rfl) ⟨_, by rfl⟩))) ag_nil)) (hh := hh_of 1 (by rfl) ⟨_, by rfl⟩)))) (ss_one (ss_ret (PL.se pl_bl))) ss_nil)) (by rfl))) (by rfl)) (ss_cons (ss_for (Γl := [.sh, .sh, .sh, .sh, .sh, .sh]) (passes_of rfl) rfl (si_list (SE.lo (se_sh (se_lst (i := .sh) (sa_cons (PL.se pl_int) (sa_cons (PL.se pl_int) (sa_cons (PL.se pl_int) (sa_cons (PL.se pl_int) (sa_cons (PL.se pl_int) sa_nil))))))))) (by rfl) (tg_name 3 sc_law.nd) (ss_one (ss_if (st_two ((op_neD room.eq).or op_ne) b_ne (SE.oe (se_fn ((ok_right_passes_needed c).mono (by omega)) hg room (takes_of rfl rfl rfl rfl) (by rfl) c.g_right_passes_needed c.F_right_passes_needed.kp c.b_right_passes_needed .nil .nil (ag_cons (se_sh (se_call (fun h => pe_lrg3 (by rfl) (by rfl) c.n_list (by rfl) c.n_range h) c_lrg3 (oa_cons (SE.oe (PL.se (pl_var 3))) (oa_cons (SE.oe (PL.se (pl_neg pl_int))) (oa_cons (SE.oe (PL.se (pl_neg pl_int))) oa_nil))))) ag_nil) (hh := hh_no (by rfl)))) (SE.oe (PL.se (pl_var 3))) (nomark _)) (ss_one (ss_ret (PL.se pl_bl))) ss_nil)) (by rfl)) (ss_cons (ss_set 4 (PL.se (pl_two (fun a b => pe_op (op_sub) a b) b_sub (pl_two (fun a b => pe_op (op_powW) a b) b_pow pl_int pl_int) pl_int)) sc_law.nd) (ss_cons (ss_if (SW.st (sw_or (st_two ((op_neD room.eq).or op_ne) b_ne (SE.oe (se_fn ((ok_right_passes_needed c).mono (by omega)) hg room (takes_of rfl rfl rfl rfl) (by rfl) c.g_right_passes_needed c.F_right_passes_needed.kp c.b_right_passes_needed .nil .nil (ag_cons (se_sh (se_lst (i := .sh) (sa_cons (PL.se (pl_var 4)) (sa_cons (PL.se pl_int) sa_nil)))) ag_nil) (hh := hh_no (by rfl)))) (SE.oe (PL.se pl_int)) (nomark _)) (sw_or1 (st_two ((op_neD room.eq).or op_ne) b_ne (SE.oe (se_fn ((ok_right_passes_needed c).mono (by omega)) hg room (takes_of rfl rfl rfl rfl) (by rfl) c.g_right_passes_needed c.F_right_passes_needed.kp c.b_right_passes_needed .nil .nil (ag_cons (se_sh (se_lst (i := .sh) (sa_cons (PL.se (pl_var 4)) (sa_cons (PL.se pl_int) (sa_cons (PL.se (pl_neg (pl_var 4))) sa_nil))))) ag_nil) (hh := hh_no (by rfl)))) (SE.oe (PL.se pl_int)) (nomark _))))) (ss_one (ss_ret (PL.se pl_bl))) ss_nil) (ss_cons (ss_if (SW.st (sw_or (st_not (st_val (se_fn ((ok__law_right c).mono (by omega)) hg room (takes_of rfl rfl rfl rfl) (by rfl) c.g__law_right c.F__law_right.kp c.b__law_right .nil .nil (ag_cons (PL.se (pl_var 1)) (ag_cons (se_sh (se_lst (i := .sh) sa_nil)) ag_nil)) (hh := hh_no (by rfl))))) (sw_or1 (st_not (st_val (se_fn ((ok__law_right c).mono (by omega)) hg room (takes_of rfl rfl rfl rfl) (by rfl) c.g__law_right c.F__law_right.kp c.b__law_right .nil .nil (ag_cons (PL.se (pl_var 1)) (ag_cons (se_sh (se_lst (i := .sh) (sa_cons (PL.se (pl_var 4)) (sa_cons (PL.se pl_int) (sa_cons (PL.se (pl_neg (pl_var 4))) sa_nil))))) ag_nil)) (hh := hh_no (by rfl)))))))) (ss_one (ss_ret (PL.se pl_bl))) ss_nil) (ss_one (ss_ret (se_and (se_twos (fun a b => pe_cmpR ((op_eqD room.eq).or op_eq) a b (nomark _)) b_eq (SE.oe (se_fn ((ok_levels c).mono (by omega)) hg room (takes_of rfl rfl rfl rfl) (by rfl) c.g_levels c.F_levels.kp c.b_levels .nil .nil (ag_cons (PL.se pl_int) ag_nil) (hh := hh_no (by rfl)))) (SE.oe (se_lst (i := .sh) sa_nil))) (se_and (se_twos (fun a b => pe_cmpR ((op_eqD room.eq).or op_eq) a b (nomark _)) b_eq (SE.oe (se_fn ((ok_left_levels c).mono (by omega)) hg room (takes_of rfl rfl rfl rfl) (by rfl) c.g_left_levels c.F_left_levels.kp c.b_left_levels .nil .nil (ag_cons (PL.se pl_int) ag_nil) (hh := hh_no (by rfl)))) (SE.oe (se_lst (i := .sh) sa_nil))) (se_and1 (se_fn ((ok__law_right c).mono (by omega)) hg room (takes_of rfl rfl rfl rfl) (by rfl) c.g__law_right c.F__law_right.kp c.b__law_right .nil .nil (ag_cons (PL.se (pl_var 1)) (ag_cons (se_sh (se_lst (i := .sh) (sa_cons (PL.se pl_int) (sa_cons (PL.se pl_int) (sa_cons (PL.se pl_int) (sa_cons (PL.se pl_int) (sa_cons (PL.se pl_int) (sa_cons (PL.se pl_int) sa_nil)))))))) ag_nil)) (hh := hh_no (by rfl)))))))))))))
end
/-! ### the head -/
def d_is_whole : He.DefD := ⟨("is_whole", none), "is_whole", "is_whole", defArgs (top 10), defBody (top 10), defScope (top 10), [], []⟩
def d_is_entry : He.DefD := ⟨("is_entry", none), "is_entry", "is_entry", defArgs (top 11), defBody (top 11), defScope (top 11), [], []⟩
def d_check_plan : He.DefD := ⟨("check_plan", none), "check_plan", "check_plan", defArgs (top 12), defBody (top 12), defScope (top 12), [], []⟩
def d_check_values : He.DefD := ⟨("check_values", none), "check_values", "check_values", defArgs (top 13), defBody (top 13), defScope (top 13), [], []⟩
def d_check_passes : He.DefD := ⟨("check_passes", none), "check_passes", "check_passes", defArgs (top 14), defBody (top 14), defScope (top 14), [], []⟩
def d_check_place : He.DefD := ⟨("check_place", none), "check_place", "check_place", defArgs (top 15), defBody (top 15), defScope (top 15), [], []⟩
def d_begin_of : He.DefD := ⟨("begin_of", none), "begin_of", "begin_of", defArgs (top 16), defBody (top 16), defScope (top 16), [], []⟩
def d_after : He.DefD := ⟨("after", none), "after", "after", defArgs (top 17), defBody (top 17), defScope (top 17), [], []⟩
def d_once : He.DefD := ⟨("once", none), "once", "once", defArgs (top 18), defBody (top 18), defScope (top 18), [], []⟩
def d_after_passes : He.DefD := ⟨("after_passes", none), "after_passes", "after_passes", defArgs (top 19), defBody (top 19), defScope (top 19), [], []⟩
def d_carried_out : He.DefD := ⟨("carried_out", none), "carried_out", "carried_out", defArgs (top 20), defBody (top 20), defScope (top 20), [], [("passes", .int 1)]⟩
def d_check_number : He.DefD := ⟨("check_number", none), "check_number", "check_number", defArgs (top 23), defBody (top 23), defScope (top 23), [], []⟩
def d_falling_ahead : He.DefD := ⟨("falling_ahead", none), "falling_ahead", "falling_ahead", defArgs (top 24), defBody (top 24), defScope (top 24), [], []⟩
def d_records_ahead : He.DefD := ⟨("records_ahead", none), "records_ahead", "records_ahead", defArgs (top 25), defBody (top 25), defScope (top 25), [], []⟩
def d_passes_needed : He.DefD := ⟨("passes_needed", none), "passes_needed", "passes_needed", defArgs (top 26), defBody (top 26), defScope (top 26), [], []⟩
def d_right_passes_needed : He.DefD := ⟨("right_passes_needed", none), "right_passes_needed", "right_passes_needed", defArgs (top 27), defBody (top 27), defScope (top 27), [], []⟩
def d_levels : He.DefD := ⟨("levels", none), "levels", "levels", defArgs (top 28), defBody (top 28), defScope (top 28), [], []⟩
def d_left_levels : He.DefD := ⟨("left_levels", none), "left_levels", "left_levels", defArgs (top 29), defBody (top 29), defScope (top 29), [], []⟩
def d__law_draws : He.DefD := ⟨("_law_draws", none), "_law_draws", "_law_draws", defArgs (top 31), defBody (top 31), defScope (top 31), [], []⟩
def d__law_next : He.DefD := ⟨("_law_next", none), "_law_next", "_law_next", defArgs (top 32), defBody (top 32), defScope (top 32), [], []⟩
def d__law_values : He.DefD := ⟨("_law_values", none), "_law_values", "_law_values", defArgs (top 33), defBody (top 33), defScope (top 33), [], []⟩
def d__law_after : He.DefD := ⟨("_law_after", none), "_law_after", "_law_after", defArgs (top 34), defBody (top 34), defScope (top 34), [], []⟩
def d__law_once : He.DefD := ⟨("_law_once", none), "_law_once", "_law_once", defArgs (top 35), defBody (top 35), defScope (top 35), [], []⟩
def d__law_records : He.DefD := ⟨("_law_records", none), "_law_records", "_law_records", defArgs (top 36), defBody (top 36), defScope (top 36), [], []⟩
def d__law_all_records : He.DefD := ⟨("_law_all_records", none), "_law_all_records", "_law_all_records", defArgs (top 37), defBody (top 37), defScope (top 37), [], []⟩
def d__law_falls_right : He.DefD := ⟨("_law_falls_right", none), "_law_falls_right", "_law_falls_right", defArgs (top 38), defBody (top 38), defScope (top 38), [], []⟩
def d__law_right : He.DefD := ⟨("_law_right", none), "_law_right", "_law_right", defArgs (top 39), defBody (top 39), defScope (top 39), [], []⟩
def d_law : He.DefD := ⟨("law", none), "law", "law", defArgs (top 40), defBody (top 40), defScope (top 40), [], []⟩
def fn : List He.DefD := [d_is_whole, d_is_entry, d_check_plan, d_check_values, d_check_passes, d_check_place, d_begin_of, d_after, d_once, d_after_passes, d_carried_out, d_check_number, d_falling_ahead, d_records_ahead, d_passes_needed, d_right_passes_needed, d_levels, d_left_levels, d__law_draws, d__law_next, d__law_values, d__law_after, d__law_once, d__law_records, d__law_all_records, d__law_falls_right, d__law_right, d_law]
def xa : List Xf := []
def fa : List He.Fa := [.glo "is_whole", .glo "is_entry", .glo "check_plan", .glo "check_values", .glo "check_passes", .glo "check_place", .glo "begin_of", .glo "after", .glo "once", .glo "after_passes", .glo "carried_out", .glo "check_number", .glo "falling_ahead", .glo "records_ahead", .glo "passes_needed", .glo "right_passes_needed", .glo "levels", .glo "left_levels", .glo "_law_draws", .glo "_law_next", .glo "_law_values", .glo "_law_after", .glo "_law_once", .glo "_law_records", .glo "_law_all_records", .glo "_law_falls_right", .glo "_law_right", .glo "law", .free "len", .free "range", .free "enumerate", .free "isinstance", .free "all", .free "list", .free "repr", .free "int", .free "bool", .free "tuple", .free "sorted", .free "max", .free "min", .int "MOST_PLACES" 12, .int "MOST_VALUES" 60, .int "MOST_PASSES" 60, .int "MOST_LEVELS" 12]
abbrev R : PySem.W.OpenRow := PySem.W.OpenLaw.row PySem.Challenge.rw_halfquick_k41_whole_passes_at_one_side
abbrev hk : PySem.W.Hook := hookX 5 fa xa fn
def ob (s : PySem.W.SharedT) : He.AlD := obsXG 5 fa xa fn (HandSHeadRun.getT s)
theorem ob_eq (s : PySem.W.SharedT) : ob s = hk.obs s.abs := obsXG_eq (HandSHeadRun.getT_eq s)
theorem run (w : World) : HandSHeadRun.RunEq R (PySem.W.view R.prog [40]) hk ob 4000 ("InvalidPlan" :: "InvalidPlace" :: "InvalidValues" :: "InvalidPasses" :: "InvalidNumber" :: "MOST_PLACES" :: "MOST_VALUES" :: "MOST_PASSES" :: "is_whole" :: "is_entry" :: "check_plan" :: "check_values" :: "check_passes" :: "check_place" :: "begin_of" :: "after" :: "once" :: "after_passes" :: "carried_out" :: "MOST_LEVELS" :: "check_number" :: "falling_ahead" :: "records_ahead" :: "passes_needed" :: "right_passes_needed" :: "levels" :: "left_levels" :: "_law_draws" :: "_law_next" :: "_law_values" :: "_law_after" :: "_law_once" :: "_law_records" :: "_law_all_records" :: "_law_falls_right" :: "_law_right" :: [] : List Str) w := by
  intro os
  kernel_rfl
noncomputable def fcs {K : PySem.W.Frag} {h : Heap} {mg : Str → Option Value} (X : K.In h) (G : h.Ns mainGlobals mg) (c0 : SaysX fa xa fn K) : Fc K mg where
  f_is_whole := He.fAd K d_is_whole.at_
  fd_is_whole := (c0.d.def_ 0 (d := d_is_whole) rfl).choose
  F_is_whole := (c0.d.def_ 0 (d := d_is_whole) rfl).choose_spec
  g_is_whole := He.glo_ok X G (c0.d.fact 0 (f := .glo "is_whole") rfl)
  b_is_whole := (c0.d.def_ 0 (d := d_is_whole) rfl).choose_spec.bindsN fun _ _ _ _ _ _ us hl => match us, hl with | [_], _ => rfl
  f_is_entry := He.fAd K d_is_entry.at_
  fd_is_entry := (c0.d.def_ 1 (d := d_is_entry) rfl).choose
  F_is_entry := (c0.d.def_ 1 (d := d_is_entry) rfl).choose_spec
  g_is_entry := He.glo_ok X G (c0.d.fact 1 (f := .glo "is_entry") rfl)
  b_is_entry := (c0.d.def_ 1 (d := d_is_entry) rfl).choose_spec.bindsN fun _ _ _ _ _ _ us hl => match us, hl with | [_, _], _ => rfl
  f_check_plan := He.fAd K d_check_plan.at_
  fd_check_plan := (c0.d.def_ 2 (d := d_check_plan) rfl).choose
  F_check_plan := (c0.d.def_ 2 (d := d_check_plan) rfl).choose_spec
  g_check_plan := He.glo_ok X G (c0.d.fact 2 (f := .glo "check_plan") rfl)
  b_check_plan := (c0.d.def_ 2 (d := d_check_plan) rfl).choose_spec.bindsN fun _ _ _ _ _ _ us hl => match us, hl with | [_], _ => rfl
  f_check_values := He.fAd K d_check_values.at_
  fd_check_values := (c0.d.def_ 3 (d := d_check_values) rfl).choose
  F_check_values := (c0.d.def_ 3 (d := d_check_values) rfl).choose_spec
  g_check_values := He.glo_ok X G (c0.d.fact 3 (f := .glo "check_values") rfl)
  b_check_values := (c0.d.def_ 3 (d := d_check_values) rfl).choose_spec.bindsN fun _ _ _ _ _ _ us hl => match us, hl with | [_], _ => rfl
  f_check_passes := He.fAd K d_check_passes.at_
  fd_check_passes := (c0.d.def_ 4 (d := d_check_passes) rfl).choose
  F_check_passes := (c0.d.def_ 4 (d := d_check_passes) rfl).choose_spec
  g_check_passes := He.glo_ok X G (c0.d.fact 4 (f := .glo "check_passes") rfl)
  b_check_passes := (c0.d.def_ 4 (d := d_check_passes) rfl).choose_spec.bindsN fun _ _ _ _ _ _ us hl => match us, hl with | [_], _ => rfl
  f_check_place := He.fAd K d_check_place.at_
  fd_check_place := (c0.d.def_ 5 (d := d_check_place) rfl).choose
  F_check_place := (c0.d.def_ 5 (d := d_check_place) rfl).choose_spec
  g_check_place := He.glo_ok X G (c0.d.fact 5 (f := .glo "check_place") rfl)
  b_check_place := (c0.d.def_ 5 (d := d_check_place) rfl).choose_spec.bindsN fun _ _ _ _ _ _ us hl => match us, hl with | [_, _], _ => rfl
  f_begin_of := He.fAd K d_begin_of.at_
  fd_begin_of := (c0.d.def_ 6 (d := d_begin_of) rfl).choose
  F_begin_of := (c0.d.def_ 6 (d := d_begin_of) rfl).choose_spec
  g_begin_of := He.glo_ok X G (c0.d.fact 6 (f := .glo "begin_of") rfl)
  b_begin_of := (c0.d.def_ 6 (d := d_begin_of) rfl).choose_spec.bindsN fun _ _ _ _ _ _ us hl => match us, hl with | [_], _ => rfl
  f_after := He.fAd K d_after.at_
  fd_after := (c0.d.def_ 7 (d := d_after) rfl).choose
  F_after := (c0.d.def_ 7 (d := d_after) rfl).choose_spec
  g_after := He.glo_ok X G (c0.d.fact 7 (f := .glo "after") rfl)
  b_after := (c0.d.def_ 7 (d := d_after) rfl).choose_spec.bindsN fun _ _ _ _ _ _ us hl => match us, hl with | [_, _, _], _ => rfl
  f_once := He.fAd K d_once.at_
  fd_once := (c0.d.def_ 8 (d := d_once) rfl).choose
  F_once := (c0.d.def_ 8 (d := d_once) rfl).choose_spec
  g_once := He.glo_ok X G (c0.d.fact 8 (f := .glo "once") rfl)
  b_once := (c0.d.def_ 8 (d := d_once) rfl).choose_spec.bindsN fun _ _ _ _ _ _ us hl => match us, hl with | [_, _], _ => rfl
  f_after_passes := He.fAd K d_after_passes.at_
  fd_after_passes := (c0.d.def_ 9 (d := d_after_passes) rfl).choose
  F_after_passes := (c0.d.def_ 9 (d := d_after_passes) rfl).choose_spec
  g_after_passes := He.glo_ok X G (c0.d.fact 9 (f := .glo "after_passes") rfl)
  b_after_passes := (c0.d.def_ 9 (d := d_after_passes) rfl).choose_spec.bindsN fun _ _ _ _ _ _ us hl => match us, hl with | [_, _, _], _ => rfl
  f_carried_out := He.fAd K d_carried_out.at_
  fd_carried_out := (c0.d.def_ 10 (d := d_carried_out) rfl).choose
  F_carried_out := (c0.d.def_ 10 (d := d_carried_out) rfl).choose_spec
  g_carried_out := He.glo_ok X G (c0.d.fact 10 (f := .glo "carried_out") rfl)
  bd_carried_out := (c0.d.def_ 10 (d := d_carried_out) rfl).choose_spec.binds0 2 (List.cons_ne_nil _ _) rfl fun _ _ _ _ _ _ us ks h1 h2 => match us, ks, h1, h2 with | [_, _], [_], _, _ => ⟨_, _, _, _, _, _, rfl, rfl, rfl⟩
  f_check_number := He.fAd K d_check_number.at_
  fd_check_number := (c0.d.def_ 11 (d := d_check_number) rfl).choose
  F_check_number := (c0.d.def_ 11 (d := d_check_number) rfl).choose_spec
  g_check_number := He.glo_ok X G (c0.d.fact 11 (f := .glo "check_number") rfl)
  b_check_number := (c0.d.def_ 11 (d := d_check_number) rfl).choose_spec.bindsN fun _ _ _ _ _ _ us hl => match us, hl with | [_, _], _ => rfl
  f_falling_ahead := He.fAd K d_falling_ahead.at_
  fd_falling_ahead := (c0.d.def_ 12 (d := d_falling_ahead) rfl).choose
  F_falling_ahead := (c0.d.def_ 12 (d := d_falling_ahead) rfl).choose_spec
  g_falling_ahead := He.glo_ok X G (c0.d.fact 12 (f := .glo "falling_ahead") rfl)
  b_falling_ahead := (c0.d.def_ 12 (d := d_falling_ahead) rfl).choose_spec.bindsN fun _ _ _ _ _ _ us hl => match us, hl with | [_, _], _ => rfl
  f_records_ahead := He.fAd K d_records_ahead.at_
  fd_records_ahead := (c0.d.def_ 13 (d := d_records_ahead) rfl).choose
  F_records_ahead := (c0.d.def_ 13 (d := d_records_ahead) rfl).choose_spec
  g_records_ahead := He.glo_ok X G (c0.d.fact 13 (f := .glo "records_ahead") rfl)
  b_records_ahead := (c0.d.def_ 13 (d := d_records_ahead) rfl).choose_spec.bindsN fun _ _ _ _ _ _ us hl => match us, hl with | [_, _], _ => rfl
  f_passes_needed := He.fAd K d_passes_needed.at_
  fd_passes_needed := (c0.d.def_ 14 (d := d_passes_needed) rfl).choose
  F_passes_needed := (c0.d.def_ 14 (d := d_passes_needed) rfl).choose_spec
  g_passes_needed := He.glo_ok X G (c0.d.fact 14 (f := .glo "passes_needed") rfl)
  b_passes_needed := (c0.d.def_ 14 (d := d_passes_needed) rfl).choose_spec.bindsN fun _ _ _ _ _ _ us hl => match us, hl with | [_, _], _ => rfl
  f_right_passes_needed := He.fAd K d_right_passes_needed.at_
  fd_right_passes_needed := (c0.d.def_ 15 (d := d_right_passes_needed) rfl).choose
  F_right_passes_needed := (c0.d.def_ 15 (d := d_right_passes_needed) rfl).choose_spec
  g_right_passes_needed := He.glo_ok X G (c0.d.fact 15 (f := .glo "right_passes_needed") rfl)
  b_right_passes_needed := (c0.d.def_ 15 (d := d_right_passes_needed) rfl).choose_spec.bindsN fun _ _ _ _ _ _ us hl => match us, hl with | [_], _ => rfl
  f_levels := He.fAd K d_levels.at_
  fd_levels := (c0.d.def_ 16 (d := d_levels) rfl).choose
  F_levels := (c0.d.def_ 16 (d := d_levels) rfl).choose_spec
  g_levels := He.glo_ok X G (c0.d.fact 16 (f := .glo "levels") rfl)
  b_levels := (c0.d.def_ 16 (d := d_levels) rfl).choose_spec.bindsN fun _ _ _ _ _ _ us hl => match us, hl with | [_], _ => rfl
  f_left_levels := He.fAd K d_left_levels.at_
  fd_left_levels := (c0.d.def_ 17 (d := d_left_levels) rfl).choose
  F_left_levels := (c0.d.def_ 17 (d := d_left_levels) rfl).choose_spec
  g_left_levels := He.glo_ok X G (c0.d.fact 17 (f := .glo "left_levels") rfl)
  b_left_levels := (c0.d.def_ 17 (d := d_left_levels) rfl).choose_spec.bindsN fun _ _ _ _ _ _ us hl => match us, hl with | [_], _ => rfl
  f__law_draws := He.fAd K d__law_draws.at_
  fd__law_draws := (c0.d.def_ 18 (d := d__law_draws) rfl).choose
  F__law_draws := (c0.d.def_ 18 (d := d__law_draws) rfl).choose_spec
  g__law_draws := He.glo_ok X G (c0.d.fact 18 (f := .glo "_law_draws") rfl)
  b__law_draws := (c0.d.def_ 18 (d := d__law_draws) rfl).choose_spec.bindsN fun _ _ _ _ _ _ us hl => match us, hl with | [_], _ => rfl
  f__law_next := He.fAd K d__law_next.at_
  fd__law_next := (c0.d.def_ 19 (d := d__law_next) rfl).choose
  F__law_next := (c0.d.def_ 19 (d := d__law_next) rfl).choose_spec
  g__law_next := He.glo_ok X G (c0.d.fact 19 (f := .glo "_law_next") rfl)
  b__law_next := (c0.d.def_ 19 (d := d__law_next) rfl).choose_spec.bindsN fun _ _ _ _ _ _ us hl => match us, hl with | [_], _ => rfl
  f__law_values := He.fAd K d__law_values.at_
  fd__law_values := (c0.d.def_ 20 (d := d__law_values) rfl).choose
  F__law_values := (c0.d.def_ 20 (d := d__law_values) rfl).choose_spec
  g__law_values := He.glo_ok X G (c0.d.fact 20 (f := .glo "_law_values") rfl)
  b__law_values := (c0.d.def_ 20 (d := d__law_values) rfl).choose_spec.bindsN fun _ _ _ _ _ _ us hl => match us, hl with | [_, _], _ => rfl
  f__law_after := He.fAd K d__law_after.at_
  fd__law_after := (c0.d.def_ 21 (d := d__law_after) rfl).choose
  F__law_after := (c0.d.def_ 21 (d := d__law_after) rfl).choose_spec
  g__law_after := He.glo_ok X G (c0.d.fact 21 (f := .glo "_law_after") rfl)
  b__law_after := (c0.d.def_ 21 (d := d__law_after) rfl).choose_spec.bindsN fun _ _ _ _ _ _ us hl => match us, hl with | [_, _, _], _ => rfl
  f__law_once := He.fAd K d__law_once.at_
  fd__law_once := (c0.d.def_ 22 (d := d__law_once) rfl).choose
  F__law_once := (c0.d.def_ 22 (d := d__law_once) rfl).choose_spec
  g__law_once := He.glo_ok X G (c0.d.fact 22 (f := .glo "_law_once") rfl)
  b__law_once := (c0.d.def_ 22 (d := d__law_once) rfl).choose_spec.bindsN fun _ _ _ _ _ _ us hl => match us, hl with | [_, _], _ => rfl
  f__law_records := He.fAd K d__law_records.at_
  fd__law_records := (c0.d.def_ 23 (d := d__law_records) rfl).choose
  F__law_records := (c0.d.def_ 23 (d := d__law_records) rfl).choose_spec
  g__law_records := He.glo_ok X G (c0.d.fact 23 (f := .glo "_law_records") rfl)
  b__law_records := (c0.d.def_ 23 (d := d__law_records) rfl).choose_spec.bindsN fun _ _ _ _ _ _ us hl => match us, hl with | [_, _], _ => rfl
  f__law_all_records := He.fAd K d__law_all_records.at_
  fd__law_all_records := (c0.d.def_ 24 (d := d__law_all_records) rfl).choose
  F__law_all_records := (c0.d.def_ 24 (d := d__law_all_records) rfl).choose_spec
  g__law_all_records := He.glo_ok X G (c0.d.fact 24 (f := .glo "_law_all_records") rfl)
  b__law_all_records := (c0.d.def_ 24 (d := d__law_all_records) rfl).choose_spec.bindsN fun _ _ _ _ _ _ us hl => match us, hl with | [_], _ => rfl
  f__law_falls_right := He.fAd K d__law_falls_right.at_
  fd__law_falls_right := (c0.d.def_ 25 (d := d__law_falls_right) rfl).choose
  F__law_falls_right := (c0.d.def_ 25 (d := d__law_falls_right) rfl).choose_spec
  g__law_falls_right := He.glo_ok X G (c0.d.fact 25 (f := .glo "_law_falls_right") rfl)
  b__law_falls_right := (c0.d.def_ 25 (d := d__law_falls_right) rfl).choose_spec.bindsN fun _ _ _ _ _ _ us hl => match us, hl with | [_], _ => rfl
  f__law_right := He.fAd K d__law_right.at_
  fd__law_right := (c0.d.def_ 26 (d := d__law_right) rfl).choose
  F__law_right := (c0.d.def_ 26 (d := d__law_right) rfl).choose_spec
  g__law_right := He.glo_ok X G (c0.d.fact 26 (f := .glo "_law_right") rfl)
  b__law_right := (c0.d.def_ 26 (d := d__law_right) rfl).choose_spec.bindsN fun _ _ _ _ _ _ us hl => match us, hl with | [_, _], _ => rfl
  f_law := He.fAd K d_law.at_
  fd_law := (c0.d.def_ 27 (d := d_law) rfl).choose
  F_law := (c0.d.def_ 27 (d := d_law) rfl).choose_spec
  g_law := He.glo_ok X G (c0.d.fact 27 (f := .glo "law") rfl)
  b_law := (c0.d.def_ 27 (d := d_law) rfl).choose_spec.bindsN fun _ _ _ _ _ _ us hl => match us, hl with | [_], _ => rfl
  n_len := He.free_ok X G (c0.d.fact 28 (f := .free "len") rfl)
  n_range := He.free_ok X G (c0.d.fact 29 (f := .free "range") rfl)
  n_enumerate := He.free_ok X G (c0.d.fact 30 (f := .free "enumerate") rfl)
  n_isinstance := He.free_ok X G (c0.d.fact 31 (f := .free "isinstance") rfl)
  n_all := He.free_ok X G (c0.d.fact 32 (f := .free "all") rfl)
  n_list := He.free_ok X G (c0.d.fact 33 (f := .free "list") rfl)
  n_repr := He.free_ok X G (c0.d.fact 34 (f := .free "repr") rfl)
  n_int := He.free_ok X G (c0.d.fact 35 (f := .free "int") rfl)
  n_bool := He.free_ok X G (c0.d.fact 36 (f := .free "bool") rfl)
  n_tuple := He.free_ok X G (c0.d.fact 37 (f := .free "tuple") rfl)
  n_sorted := He.free_ok X G (c0.d.fact 38 (f := .free "sorted") rfl)
  n_max := He.free_ok X G (c0.d.fact 39 (f := .free "max") rfl)
  n_min := He.free_ok X G (c0.d.fact 40 (f := .free "min") rfl)
  i_MOST_PLACES := He.int_ok X G (c0.d.fact 41 (f := .int "MOST_PLACES" 12) rfl)
  i_MOST_VALUES := He.int_ok X G (c0.d.fact 42 (f := .int "MOST_VALUES" 60) rfl)
  i_MOST_PASSES := He.int_ok X G (c0.d.fact 43 (f := .int "MOST_PASSES" 60) rfl)
  i_MOST_LEVELS := He.int_ok X G (c0.d.fact 44 (f := .int "MOST_LEVELS" 12) rfl)
  kb_right_passes_needed_0_values := kwb_of (c0.d.def_ 15 (d := d_right_passes_needed) rfl).choose_spec fun _ _ _ _ _ _ us ws h1 h2 => match us, ws, h1, h2 with | [], [_], _, _ => rfl
  kb_carried_out_2_passes := kwb_of (c0.d.def_ 10 (d := d_carried_out) rfl).choose_spec fun _ _ _ _ _ _ us ws h1 h2 => match us, ws, h1, h2 with | [_, _], [_], _, _ => rfl
/-- the mathematics: what the law computes is True -/
abbrev Due : Prop := ∀ ns : List Int, ns.length ≤ 63 → (∀ z ∈ ns, Builtin.Int.intBits z ≤ 1048576) → ∃ ts, runF [.sh] 6 s_law [.fz (ns.map T.int)] = some (.ok (.bl true) ts)
end Law
open PySem PySem.W PySem.Calls PyProof.Rows
theorem Law.holds (due : Law.Due) : PySem.Challenge.rw_halfquick_k41_whole_passes_at_one_side.Holds := by
  w_on; o_law
  refine HandSHeadRun.head_any (r := OpenLaw.row PySem.Challenge.rw_halfquick_k41_whole_passes_at_one_side) (q := view (OpenLaw.row PySem.Challenge.rw_halfquick_k41_whole_passes_at_one_side).prog [40]) (H := Law.hk) (ob := Law.ob) (M := 4000) (loose := ("InvalidPlan" :: "InvalidPlace" :: "InvalidValues" :: "InvalidPasses" :: "InvalidNumber" :: "MOST_PLACES" :: "MOST_VALUES" :: "MOST_PASSES" :: "is_whole" :: "is_entry" :: "check_plan" :: "check_values" :: "check_passes" :: "check_place" :: "begin_of" :: "after" :: "once" :: "after_passes" :: "carried_out" :: "MOST_LEVELS" :: "check_number" :: "falling_ahead" :: "records_ahead" :: "passes_needed" :: "right_passes_needed" :: "levels" :: "left_levels" :: "_law_draws" :: "_law_next" :: "_law_values" :: "_law_after" :: "_law_once" :: "_law_records" :: "_law_all_records" :: "_law_falls_right" :: "_law_right" :: [] : List Str)) (d := HandSHeadRun.topDef (OpenLaw.row PySem.Challenge.rw_halfquick_k41_whole_passes_at_one_side).prog 40) (kwd := []) Law.ob_eq
    (by kernel_rfl) (fun s => by kernel_rfl) Law.run (by kernel_rfl) (by kernel_rfl) (by kernel_rfl) (by rfl) (by first | assumption | decide +kernel) (by decide +kernel) ⟨rfl, rfl, rfl, rfl, rfl, by decide +kernel⟩ ?hw ?hc
  case hw => w_witness2
  case hc =>
    refine Tr.walkG (l := PySem.Challenge.rw_halfquick_k41_whole_passes_at_one_side) (n := 63) (k := 77) (x := "_law_script") rfl (by decide) (by kernel_rfl) ⟨rfl, by decide, by decide⟩ ?F
    intro w mg fa h Y G at_
    obtain ⟨K, lf⟩ := Y
    have inK := lf.in_
    have hmg : mg ("law" : PySem.Str) = some (.ref fa) := by
      have e : (HandSHeadRun.topDef (OpenLaw.row PySem.Challenge.rw_halfquick_k41_whole_passes_at_one_side).prog 40).name = ("law" : PySem.Str) := by kernel_rfl
      rw [← e]
      exact at_
    have fc := Law.fcs inK G lf.says
    have same := hmg.symm.trans fc.g_law
    cases same
    have bnd := L2.FunD.bindsA (ps := ["_law_script"]) fc.F_law fun _ _ _ _ _ _ us hl => match us, hl with | [_], _ => rfl
    exact ⟨K, fc.fd_law, _, inK, lf.tabs, fun p hp => Tr.codeHdB_ok inK (lf.codes p hp), fun s u => bnd s [u] rfl, due, fun base _ _ tb => Law.ok_law fc⟩

end
section
set_option maxHeartbeats 4000000
namespace Law
open PySem PySem.Spec PyProof.Rows L2 Tr
def entT : Option Nat → T
  | none => .non
  | some i => .int (i : Int)
theorem ent_s (i : Nat) : entT (some i) = .int (i : Int) := rfl
theorem ent_n : entT none = .non := rfl
abbrev pairT (p : Option Nat × Option Nat) : T := .tup [entT p.1, entT p.2]
abbrev Plan := List (Option Nat × Option Nat)
abbrev planT (pl : Plan) : T := .lst (pl.map pairT)
abbrev intsT (vs : List Int) : T := .lst (vs.map T.int)
def okE (n : Nat) (e : Option Nat) : Prop := ∀ i, e = some i → i < n
structure PlanOk (pl : Plan) : Prop where
  few : pl.length ≤ 12
  fst : ∀ p ∈ pl, okE pl.length p.1
  snd : ∀ p ∈ pl, okE pl.length p.2
theorem e_is_whole (i : Int) : runF [.sh] 1 s_is_whole [.int i] = some (.ok (.bl true) [.int i]) := by
  rfl
theorem e_is_entry_non (n : Int) : runF [.sh, .sh] 2 s_is_entry [.non, .int n] = some (.ok (.bl true) [.non, .int n]) := by
  rfl
theorem e_is_entry_int (i n : Int) (h : 0 ≤ i) (h2 : i < n) : runF [.sh, .sh] 2 s_is_entry [.int i, .int n] = some (.ok (.bl true) [.int i, .int n]) := by
  refine run_rt (E0 := [some (.int i), some (.int n)]) (E := [some (.int i), some (.int n)]) rfl (rt_ok ?_) rfl
  refine vor_f (E1 := [some (.int i), some (.int n)]) (by rfl) (vand_t (E1 := [some (.int i), some (.int n)]) (by rfl) ?_)
  have e1 : pchn (cmpS fun i j => decide (i ≤ j)) (cmpS fun i j => decide (i < j)) (kc (T.int 0)) (vr 0) (vr 1) [some (.int i), some (.int n)] = some (.bl true) := by
    simp [pchn, cmpS, kc, vr, h, h2]
  unfold rd
  rw [e1]
  rfl
theorem e_is_entry (n : Nat) (e : Option Nat) (h : okE n e) : runF [.sh, .sh] 2 s_is_entry [entT e, .int (n : Int)] = some (.ok (.bl true) [entT e, .int (n : Int)]) := by
  cases e with
  | none => exact e_is_entry_non n
  | some i => exact e_is_entry_int i n (by omega) (by have := h i rfl; omega)
theorem e_check_plan_L (pl : Plan) (h : PlanOk pl) (j : Nat) (p : Option Nat × Option Nat) (hp : p ∈ pl) : s_check_plan_L1 [some (planT pl), some (.int (j : Int)), some (pairT p), none] = some (.nx [some (planT pl), some (.int (j : Int)), some (pairT p), none]) := by
  have key : flc ((rd (vr 2)).bind (lf T.tup?)) (gset 3) [3] (F0.pure true) (((rd (vr 3)).bind fun a => ((rd (pp1 lenT (vr 0))).bind fun a => (F0.pure []).bind fun b => F0.pure (a :: b)).bind fun b => F0.pure (a :: b)).bind fun ts =>
      fcall ([none, none] ++ ([] : List T).map fun _ => none) (runF [.sh, .sh] 2 s_is_entry) (ts ++ [])) [some (planT pl), some (.int (j : Int)), some (pairT p), none] = some (.ok (.lst [.bl true, .bl true]) [some (planT pl), some (.int (j : Int)), some (pairT p), none]) := by
    refine flc_ok (ts := [entT p.1, entT p.2]) (fun _ => some (.bl true)) (by rfl) (by rfl) (by rw [sizeLine_eq]; simp) fun z hz => ?_
    refine ⟨_, rfl, rfl, .inl ⟨.bl true, rfl, rfl, ?_⟩⟩
    have hz' : ∃ e, z = entT e ∧ okE pl.length e := by
      rcases List.mem_cons.mp hz with hz | hz
      · exact ⟨p.1, hz, h.fst p hp⟩
      · rcases List.mem_cons.mp hz with hz | hz
        · exact ⟨p.2, hz, h.snd p hp⟩
        · simp at hz
    obtain ⟨e, rfl, he⟩ := hz'
    have hl : ((pl.map pairT).length : Int) = (pl.length : Int) := by rw [List.length_map]
    have hc := e_is_entry pl.length e he
    rw [← hl] at hc
    exact bd (a := [entT e, .int ((pl.map pairT).length : Nat)]) (E1 := [some (planT pl), some (.int (j : Int)), some (pairT p), some (entT e)]) (by rfl) (call_ok (us := [entT e, .int ((pl.map pairT).length : Nat)]) (by rfl) hc (by rfl))
  refine if_f (E1 := [some (planT pl), some (.int (j : Int)), some (pairT p), none]) ?_ (by rfl)
  refine tor_f (E1 := [some (planT pl), some (.int (j : Int)), some (pairT p), none]) (by rfl) (tor_f (E1 := [some (planT pl), some (.int (j : Int)), some (pairT p), none]) (by rfl) ?_)
  exact tnot_v (b := true) (bl_v (bd key (by rfl)))
theorem e_check_plan (pl : Plan) (h : PlanOk pl) : runF [.sh] 4 s_check_plan [planT pl] = some (.ok .non [planT pl]) := by
  obtain ⟨E', e, a, c, rfl⟩ := ffor_inv (g := gtup 2 (gcons (gset 1) (gcons (gset 2) gnil))) (b := s_check_plan_L1) (fun _ E => ∃ a c, E = [some (planT pl), a, c, none]) (ts := enumT (pl.map pairT)) (k := 0) (E := [some (planT pl), none, none, none]) ⟨none, none, rfl⟩ (by
    rintro j t E hj ⟨a, c, rfl⟩
    obtain ⟨u, hu, rfl⟩ := enumT_get hj
    rw [List.getElem?_map] at hu
    obtain ⟨p, hp, rfl⟩ := Option.map_eq_some_iff.mp hu
    exact ⟨_, _, rfl, .inl (e_check_plan_L pl h j p (List.mem_of_getElem? hp)), _, _, rfl⟩)
  refine run_nx (E0 := [some (planT pl), none, none, none]) rfl (sq_nx (E1 := [some (planT pl), none, none, none]) ?_ (for_ok (E1 := [some (planT pl), none, none, none]) (by rfl) e)) rfl
  refine if_f (E1 := [some (planT pl), none, none, none]) ?_ (by rfl)
  show some (Out.ok (decide ((12 : Int) < ((pl.map pairT).length : Nat))) _) = _
  rw [decide_eq_false (by have := h.few; rw [List.length_map]; omega)]
theorem e_check_values (vs : List Int) (h : vs.length ≤ 60) : runF [.sh] 3 s_check_values [intsT vs] = some (.ok .non [intsT vs]) := by
  obtain ⟨E', e, a, c, rfl⟩ := ffor_inv (g := gtup 2 (gcons (gset 1) (gcons (gset 2) gnil))) (b := s_check_values_L1) (fun _ E => ∃ a c, E = [some (intsT vs), a, c]) (ts := enumT (vs.map T.int)) (k := 0) (E := [some (intsT vs), none, none]) ⟨none, none, rfl⟩ (by
    rintro j t E hj ⟨a, c, rfl⟩
    obtain ⟨u, hu, rfl⟩ := enumT_get hj
    rw [List.getElem?_map] at hu
    obtain ⟨i, hp, rfl⟩ := Option.map_eq_some_iff.mp hu
    exact ⟨_, _, rfl, .inl (by rfl), _, _, rfl⟩)
  refine run_nx (E0 := [some (intsT vs), none, none]) rfl (sq_nx (E1 := [some (intsT vs), none, none]) ?_ (for_ok (E1 := [some (intsT vs), none, none]) (by rfl) e)) rfl
  refine if_f (E1 := [some (intsT vs), none, none]) ?_ (by rfl)
  show some (Out.ok (decide ((60 : Int) < ((vs.map T.int).length : Nat))) _) = _
  rw [decide_eq_false (by rw [List.length_map]; omega)]
theorem eqf_ent : EqF entT := fun a b => by
  cases a <;> cases b <;> simp only [entT, T.py, PyData.eqv]
  · rfl
  · simp
  · simp
  · exact Bool.eq_iff_iff.mpr (by simp; omega)
theorem pl_ent (e : Option Nat) : Pl 0 (entT e) := by
  cases e with
  | none => exact Pl.non
  | some i => exact Pl.int _
theorem eqf_pair : EqF pairT := fun a b => by
  obtain ⟨a1, a2⟩ := a
  obtain ⟨b1, b2⟩ := b
  simp only [pairT, T.py, T.pyA, PyData.eqv, PyData.eqvAll, eqf_ent a1 b1, eqf_ent a2 b2]
  by_cases h : a1 = b1 <;> by_cases k : a2 = b2 <;> simp [h, k]
theorem pl_pair (p : Option Nat × Option Nat) : Pl 1 (pairT p) := by
  obtain ⟨h1, h2, h3⟩ := pl_ent p.1
  obtain ⟨k1, k2, k3⟩ := pl_ent p.2
  refine ⟨?_, ?_, ?_⟩
  · simp only [pairT, T.dat, T.datA, h1, k1]; rfl
  · simp only [pairT, T.py, T.pyA, PyData.canLay0, PyData.canLayAll0, h2, k2]; rfl
  · simp only [pairT, T.py, T.pyA, PyData.depth, PyData.depthAll]; omega
theorem eqf_plan : EqF planT := eqf_lst eqf_pair
theorem pl_plan (pl : Plan) : Pl 2 (planT pl) := Pl.lst pl_pair pl
theorem eqf_ints : EqF intsT := eqf_lst eqf_int
theorem pl_ints (vs : List Int) : Pl 1 (intsT vs) := Pl.lst Pl.int vs
def begM (pl : Plan) : Option Nat := if pl = [] then none else some 0
theorem e_begin_of (pl : Plan) : runF [.sh] 1 s_begin_of [planT pl] = some (.ok (entT (begM pl)) [planT pl]) := by
  have e0 : neT (planT pl) (.lst []) = some (.bl (!decide (pl = []))) := neT_of eqf_plan pl_plan pl []
  have e1 : (F0.bind (F0.bind (rd (vr 0)) fun a => F0.bind (F0.bind (F0.pure []) (lf mkL)) fun b => lf (neT a) b) (lf T.bl?)) [some (planT pl)] = some (.ok (!decide (pl = [])) [some (planT pl)]) := by
    refine bl_v (bd (a := planT pl) (by rfl) (bd (a := .lst []) (E1 := [some (planT pl)]) (by rfl) ?_))
    unfold lf
    rw [e0]
    rfl
  refine run_rt (E0 := [some (planT pl)]) rfl (rt_ok (E1 := [some (planT pl)]) ?_) rfl
  by_cases h : pl = []
  · rw [begM, if_pos h]
    exact vif_f (E1 := [some (planT pl)]) (by rw [e1, decide_eq_true h]; rfl) (by rfl)
  · rw [begM, if_neg h]
    exact vif_t (E1 := [some (planT pl)]) (by rw [e1, decide_eq_false h]; rfl) (by rfl)
theorem begM_ok (pl : Plan) : okE pl.length (begM pl) := by
  intro i e
  unfold begM at e
  split at e
  · cases e
  · rename_i h
    cases e
    exact List.length_pos_iff.mpr h
/-! what a pass does -/
def entAt (pl : Plan) (p : Nat) : Option Nat × Option Nat := pl.getD p (none, none)

theorem e_check_passes (p : Nat) (h : p ≤ 60) : runF [.sh] 1 s_check_passes [.int p] = some (.ok .non [.int p]) := by
  have e1 : pchn (cmpS fun i j => decide (i ≤ j)) (cmpS fun i j => decide (i ≤ j)) (kc (T.int 0)) (vr 0) (kc (T.int 60)) [some (.int (p : Int))] = some (.bl true) := by
    have : (p : Int) ≤ 60 := by omega
    simp [pchn, cmpS, kc, vr, this]
  refine run_nx (E0 := [some (.int p)]) rfl (if_f (E1 := [some (.int p)]) (tor_f (E1 := [some (.int p)]) (by rfl) (tnot_v (b := true) (bl_v ?_))) (by rfl)) rfl
  unfold rd
  rw [e1]
  rfl

/-! ### the draws -/
abbrev drT (N k : Int) (b : Bool) : T := .lst [.int N, .int k, .bl b]
theorem mul_ok {i j : Int} (h : i.natAbs < 2 ^ 64 ∨ j.natAbs < 2 ^ 64) : mulS (.int i) (.int j) = some (.int (i * j)) := by
  show (if _ then _ else _) = _
  rw [if_pos (by simpa using h)]
theorem e_next0 (N k : Int) (b : Bool) (h0 : 0 ≤ k) (hk : k < 2 ^ 62) : ∃ v N' : Int, runF [.ow .sh] 3 s__law_next [drT N k b] = some (.ok (.int v) [drT N' (k + 1) b]) := by
  let E0 : Tr.Env := [some (drT N k b), none, none]
  let E1 : Tr.Env := [some (drT N (k + 1) b), none, none]
  let E2 : Tr.Env := [some (drT N (k + 1) b), some (.int (k + 1)), none]
  have t0 : (F0.bind (rd (pp2 ixT (vr 0) (kc (.int 2)))) (lf T.bl?)) E2 = some (.ok b E2) := by rfl
  cases b with
  | true =>
    refine ⟨N % 10 ^ 6, N / 10 ^ 6, run_rt (E0 := E0) (E := [some (drT (N / 10 ^ 6) (k + 1) true), some (.int (k + 1)), some (.int (N % 10 ^ 6))]) rfl (sq_nx (E1 := E1) (by rfl) (sq_nx (E1 := E2) (by rfl) (sq_rt (if_t t0 ?_)))) rfl⟩
    refine sq_nx (E1 := [some (drT N (k + 1) true), some (.int (k + 1)), some (.int (N % 10 ^ 6))]) (by rfl) (sq_nx (E1 := [some (drT (N / 10 ^ 6) (k + 1) true), some (.int (k + 1)), some (.int (N % 10 ^ 6))]) (by rfl) (by rfl))
  | false =>
    obtain ⟨c, hc⟩ : ∃ c : Int, c = k + 1 := ⟨_, rfl⟩
    obtain ⟨u, hu⟩ : ∃ u : Int, u = ((N % 1000003 + c * c * 7919 + c) * 48271) % 2147483629 := ⟨_, rfl⟩
    obtain ⟨v, hv⟩ : ∃ v : Int, v = (u * u) % 2147483587 := ⟨_, rfl⟩
    have u1 : 0 ≤ u ∧ u < 2147483629 := by omega
    have v1 : 0 ≤ v ∧ v < 2147483587 := by rw [hv]; exact ⟨Int.emod_nonneg _ (by decide), Int.emod_lt_of_pos _ (by decide)⟩
    have m1 : mulS (.int c) (.int c) = some (.int (c * c)) := mul_ok (.inl (by omega))
    have m2 : mulS (.int (c * c)) (.int 7919) = some (.int (c * c * 7919)) := mul_ok (.inr (by decide))
    have m3 : mulS (.int (N % 1000003 + c * c * 7919 + c)) (.int 48271) = some (.int ((N % 1000003 + c * c * 7919 + c) * 48271)) := mul_ok (.inr (by decide))
    have m4 : mulS (.int u) (.int u) = some (.int (u * u)) := mul_ok (.inl (by omega))
    have m5 : mulS (.int v) (.int (v + 2)) = some (.int (v * (v + 2))) := mul_ok (.inl (by omega))
    refine ⟨(v * (v + 2)) % 2147483579 / 7, N, ?_⟩
    have E2e : E2 = [some (drT N c false), some (.int c), none] := by rw [hc]
    have r1 : (pp2 modS (pp1 intT (pp2 mulS (pp2 addS (pp2 addS (pp2 modS (pp1 intT (pp2 ixT (vr 0) (kc (.int 0)))) (kc (.int 1000003))) (pp2 mulS (pp2 mulS (vr 1) (vr 1)) (kc (.int 7919)))) (vr 1)) (kc (.int 48271)))) (kc (.int 2147483629))) [some (drT N c false), some (.int c), none] = some (.int u) := by
      rw [hu]
      exact p2_ok (a := .int ((N % 1000003 + c * c * 7919 + c) * 48271)) (by
        unfold pp1
        rw [p2_ok (a := .int (N % 1000003 + c * c * 7919 + c)) (b := .int 48271) (p2_ok (a := .int (N % 1000003 + c * c * 7919)) (b := .int c) (p2_ok (a := .int (N % 1000003)) (b := .int (c * c * 7919)) (by rfl) (p2_ok (a := .int (c * c)) (b := .int 7919) (p2_ok (a := .int c) (b := .int c) (by rfl) (by rfl) m1) (by rfl) m2) (by rfl)) (by rfl) (by rfl)) (by rfl) m3]
        rfl) (by rfl) (by rfl)
    have r2 : (pp2 modS (pp1 intT (pp2 mulS (vr 2) (vr 2))) (kc (.int 2147483587))) [some (drT N c false), some (.int c), some (.int u)] = some (.int v) := by
      rw [hv]
      exact p2_ok (a := .int (u * u)) (by
        unfold pp1
        rw [p2_ok (a := .int u) (b := .int u) (by rfl) (by rfl) m4]
        rfl) (by rfl) (by rfl)
    have r3 : (pp2 fdivS (pp2 modS (pp1 intT (pp2 mulS (vr 2) (pp2 addS (vr 2) (kc (.int 2))))) (kc (.int 2147483579))) (kc (.int 7))) [some (drT N c false), some (.int c), some (.int v)] = some (.int ((v * (v + 2)) % 2147483579 / 7)) :=
      p2_ok (a := .int ((v * (v + 2)) % 2147483579)) (p2_ok (a := .int (v * (v + 2))) (by
        unfold pp1
        rw [p2_ok (a := .int v) (b := .int (v + 2)) (by rfl) (by rfl) m5]
        rfl) (by rfl) (by rfl)) (by rfl) (by rfl)
    rw [← hc]
    refine run_rt (E0 := E0) (E := [some (drT N c false), some (.int c), some (.int v)]) rfl (sq_nx (E1 := E1) (by rfl) (sq_nx (E1 := E2) (by rfl) (sq_nx (E1 := E2) (if_f t0 (by rfl)) ?_))) rfl
    rw [E2e]
    exact sq_nx (set_ok (rd_ok r1)) (sq_nx (set_ok (rd_ok r2)) (rt_ok (rd_ok r3)))
theorem e_next (d : Dr) (m : Nat) (h : d.ok (m + 1)) : ∃ (v : Int) (d' : Dr), d'.ok m ∧ runF [.ow .sh] 3 s__law_next [d.t] = some (.ok (.int v) [d'.t]) := by
  obtain ⟨N, k, b⟩ := d
  obtain ⟨h1, h2⟩ := h
  simp only at h1 h2
  obtain ⟨v, N', e⟩ := e_next0 N k b h1 (by omega)
  exact ⟨v, ⟨N', k + 1, b⟩, ⟨by simp only; omega, by simp only; omega⟩, e⟩

/-! ### lists that are drawn (the values family) -/
def small (v : Int) : Prop := v.natAbs < 10 ^ 21
theorem e_values_C1 (d : Dr) (m most kinds : Nat) (far : Int) (hm : most ≤ 60) (hk : 0 < kinds ∧ kinds ≤ 60) (hf : far = 1 ∨ far = 10 ^ 18) (h : d.ok (m + 1 + most)) : ∃ (vs : List Int) (d' : Dr), d'.ok m ∧ vs.length ≤ most ∧ (∀ v ∈ vs, small v) ∧
    s__law_values_C1 [some d.t, some (.int (most : Int)), some (.int (kinds : Int)), some (.int far), none] = some (.ok (intsT vs) [some d'.t, some (.int (most : Int)), some (.int (kinds : Int)), some (.int far), none]) := by
  obtain ⟨v, d1, h1, e1⟩ := e_next d (m + most) (h.le (by omega))
  have m1 : modS (.int v) (.int ((most : Int) + 1)) = some (.int (v % ((most : Int) + 1))) := z_mod (by omega)
  obtain ⟨n, hn⟩ : ∃ n : Nat, v % ((most : Int) + 1) = (n : Int) := ⟨(v % ((most : Int) + 1)).toNat, by have := Int.emod_nonneg v (show ((most : Int) + 1) ≠ 0 by omega); omega⟩
  have hnm : n ≤ most := by have := Int.emod_lt_of_pos v (show 0 < (most : Int) + 1 by omega); omega
  have rn : rng1 [.int (n : Int)] = some (rngT 0 n) := by rw [z_rng1 (by omega), Int.toNat_natCast]
  obtain ⟨us, E', e, d', vs, ok, hl, hs, rfl, rfl⟩ := flc_inv (g := gset 4) (vs := [4]) (t := F0.pure true) (ts := rngT 0 n) (E := [some d.t, some (.int (most : Int)), some (.int (kinds : Int)), some (.int far), none]) (E0 := [some d1.t, some (.int (most : Int)), some (.int (kinds : Int)), some (.int far), none])
    (fi := (F0.bind (F0.bind (F0.bind (F0.bind (fun E => (vr 0 E).bind fun _ => (F0.bind (F0.pure []) fun b => F0.pure (.non :: b)) E) fun ts => fcall ([some 0] ++ ([] : List T).map fun _ => none) (runF [.ow .sh] 3 (s__law_next)) (ts ++ [])) (lf intT)) fun a => F0.bind (rd (pp2 addS (vr 1) (kc (.int 1)))) fun b => lf (modS a) b) (lf fun t => rng1 [t])))
    (e := (F0.bind (F0.bind (F0.bind (F0.bind (F0.bind (fun E => (vr 0 E).bind fun _ => (F0.bind (F0.pure []) fun b => F0.pure (.non :: b)) E) fun ts => fcall ([some 0] ++ ([] : List T).map fun _ => none) (runF [.ow .sh] 3 (s__law_next)) (ts ++ [])) (lf intT)) fun a => F0.bind (rd (vr 2)) fun b => lf (modS a) b) fun a => F0.bind (rd (kc (.int 3))) fun b => lf (subS a) b) fun a => F0.bind (rd (vr 3)) fun b => lf (mulS a) b))
    (fun j acc E => ∃ (d' : Dr) (vs : List Int), d'.ok (m + (n - j)) ∧ vs.length = j ∧ (∀ v ∈ vs, small v) ∧ acc = vs.map T.int ∧ E = [some d'.t, some (.int (most : Int)), some (.int (kinds : Int)), some (.int far), none])
    (by simp only [↓ev_bind, ↓ev_pure, ↓ev_rd, ↓ev_lf, ↓ev_vr, ↓ev_kc, ↓ev_mv, ↓ev_pp2, ↓ev_pp1, ↓ev_tnot, ↓ev_tand, ↓ev_tor, ↓ev_vand, ↓ev_vor, ↓ev_vnot, ↓ev_vif, ↓ev_fset, ↓ev_fdo, ↓ev_frt, ↓ev_fif, ↓ev_fnx, ↓ev_fbk, ↓ev_fct, ↓ev_fno, ↓ev_fsq, ↓ev_afI, ↓ev_fasg, ↓ev_faug, ↓ev_fseti, ↓ev_fpar2, ↓ev_fcall, ↓ev_fkw, ↓ev_fmu0, ↓ev_fmu1, ↓ev_pchn, ev_acn, ↓ev_aci, z_ixN0, pick, List.getD_cons_zero, List.getD_cons_succ, eq_self, ev_gset, ev_gnil, ev_gcons, ↓ev_go, ↓ev_fl, ↓ev_flgo, ↓ev_rsgo, z_add, z_addL, z_sub, z_cmp, z_int, z_intb, z_len, z_lent, z_bl, z_int?, z_lst, z_tup, z_seq, z_neg, z_isN, z_notN, z_isNi, z_isNn, z_isNl, z_isNs, z_isNt, z_list, z_listt, z_rev, z_eqi, z_nei, z_eqs, z_nes, z_eqb, z_neb, z_ixif, z_ml0, z_ml1, z_mt1, z_ml2, z_mt2, z_ml3, z_mt3, z_ml4, z_mt4, z_ml5, z_mt5, z_ml6, z_ml7, z_ml8, z_ml9, z_ml10, z_ml11, z_ml12, z_ml13, z_ml14, z_ixl0, z_ixt0, z_ixl1, z_ixt1, z_ixl2, z_ixt2, z_ixl3, z_ixt3, z_ixl4, z_ixt4, z_ixl5, z_ixl6, z_ixl7, z_ixl8, z_ixl9, z_ixl10, z_ixl11, z_ixl12, z_ixl13, fill_nil, fill_no, fill_so, put_of, hole_nil, hole_no, hole_so, back_no, back_so, fin_rt, fin_nx, fin_ex, mix_nil, mix_sh, mix_ow, Option.map_some, Option.bind_some, Option.join_some, Option.bind_none, Option.map_none, List.getElem?_cons_zero, List.getElem?_cons_succ, List.set_cons_zero, List.set_cons_succ, List.map_nil, List.map_cons, List.append_nil, List.nil_append, List.cons_append, List.length_cons, List.length_nil, List.replicate_succ, List.replicate_zero, Nat.reduceAdd, Nat.reduceSub, ↓reduceIte, Bool.not_true, Bool.not_false, Bool.false_eq_true, Bool.true_eq_false, Int.reduceLT, Int.reduceLE, Int.reduceAdd, Int.reduceSub, Int.reduceMul, Int.reduceNeg, Int.reduceEq, decide_true, decide_false, decide_eq_true_eq, Bool.not_eq_true, decide_eq_false_iff_not, ↓ev_fraise, ↓ev_ftry, tr_nx, lose_nil, lose_cons, lose_so, z_isNx, z_tuple, e1, m1, hn, rn]) (by rfl) (by rw [sizeLine_eq, rngT_len]; omega) ⟨d1, [], h1.le (by omega), rfl, fun w h => by simp at h, rfl, rfl⟩ (by
    rintro j u acc E hj ⟨d', vs, ok, hl, hs, rfl, rfl⟩
    obtain ⟨hj', rfl⟩ := rngT_get hj
    obtain ⟨w, d2, o2, e2⟩ := e_next d' (m + (n - (j + 1))) (ok.le (by omega))
    have m2 : modS (.int w) (.int (kinds : Int)) = some (.int (w % (kinds : Int))) := z_mod (by omega)
    have ml : mulS (.int (w % (kinds : Int) - 3)) (.int far) = some (.int ((w % (kinds : Int) - 3) * far)) := mul_ok (.inr (by rcases hf with rfl | rfl <;> decide))
    have r1 := Int.emod_nonneg w (show (kinds : Int) ≠ 0 by omega)
    have r2 := Int.emod_lt_of_pos w (show 0 < (kinds : Int) by omega)
    refine ⟨_, _, [some d2.t, some (.int (most : Int)), some (.int (kinds : Int)), some (.int far), some (.int (0 + (j : Int)))], .int ((w % (kinds : Int) - 3) * far), rfl, rfl, ?_, d2, vs ++ [(w % (kinds : Int) - 3) * far], o2, by simp; omega, fun x hx => ?_, by simp, rfl⟩
    · simp only [↓ev_bind, ↓ev_pure, ↓ev_rd, ↓ev_lf, ↓ev_vr, ↓ev_kc, ↓ev_mv, ↓ev_pp2, ↓ev_pp1, ↓ev_tnot, ↓ev_tand, ↓ev_tor, ↓ev_vand, ↓ev_vor, ↓ev_vnot, ↓ev_vif, ↓ev_fset, ↓ev_fdo, ↓ev_frt, ↓ev_fif, ↓ev_fnx, ↓ev_fbk, ↓ev_fct, ↓ev_fno, ↓ev_fsq, ↓ev_afI, ↓ev_fasg, ↓ev_faug, ↓ev_fseti, ↓ev_fpar2, ↓ev_fcall, ↓ev_fkw, ↓ev_fmu0, ↓ev_fmu1, ↓ev_pchn, ev_acn, ↓ev_aci, z_ixN0, pick, List.getD_cons_zero, List.getD_cons_succ, eq_self, ev_gset, ev_gnil, ev_gcons, ↓ev_go, ↓ev_fl, ↓ev_flgo, ↓ev_rsgo, z_add, z_addL, z_sub, z_cmp, z_int, z_intb, z_len, z_lent, z_bl, z_int?, z_lst, z_tup, z_seq, z_neg, z_isN, z_notN, z_isNi, z_isNn, z_isNl, z_isNs, z_isNt, z_list, z_listt, z_rev, z_eqi, z_nei, z_eqs, z_nes, z_eqb, z_neb, z_ixif, z_ml0, z_ml1, z_mt1, z_ml2, z_mt2, z_ml3, z_mt3, z_ml4, z_mt4, z_ml5, z_mt5, z_ml6, z_ml7, z_ml8, z_ml9, z_ml10, z_ml11, z_ml12, z_ml13, z_ml14, z_ixl0, z_ixt0, z_ixl1, z_ixt1, z_ixl2, z_ixt2, z_ixl3, z_ixt3, z_ixl4, z_ixt4, z_ixl5, z_ixl6, z_ixl7, z_ixl8, z_ixl9, z_ixl10, z_ixl11, z_ixl12, z_ixl13, fill_nil, fill_no, fill_so, put_of, hole_nil, hole_no, hole_so, back_no, back_so, fin_rt, fin_nx, fin_ex, mix_nil, mix_sh, mix_ow, Option.map_some, Option.bind_some, Option.join_some, Option.bind_none, Option.map_none, List.getElem?_cons_zero, List.getElem?_cons_succ, List.set_cons_zero, List.set_cons_succ, List.map_nil, List.map_cons, List.append_nil, List.nil_append, List.cons_append, List.length_cons, List.length_nil, List.replicate_succ, List.replicate_zero, Nat.reduceAdd, Nat.reduceSub, ↓reduceIte, Bool.not_true, Bool.not_false, Bool.false_eq_true, Bool.true_eq_false, Int.reduceLT, Int.reduceLE, Int.reduceAdd, Int.reduceSub, Int.reduceMul, Int.reduceNeg, Int.reduceEq, decide_true, decide_false, decide_eq_true_eq, Bool.not_eq_true, decide_eq_false_iff_not, ↓ev_fraise, ↓ev_ftry, tr_nx, lose_nil, lose_cons, lose_so, z_isNx, z_tuple, e2, m2, ml]
    · rcases List.mem_append.mp hx with hx | hx
      · exact hs x hx
      · simp at hx
        rw [hx]
        unfold small
        rcases hf with rfl | rfl <;> omega)
  rw [rngT_len] at hl ok
  exact ⟨vs, d', ok.le (by omega), by omega, hs, e⟩
theorem e_values (d : Dr) (m most : Nat) (hm : most ≤ 60) (h : d.ok (m + 3 + most)) : ∃ (vs : List Int) (d' : Dr), d'.ok m ∧ vs.length ≤ most ∧ (∀ v ∈ vs, small v) ∧
    runF [.ow .sh, .sh] 5 s__law_values [d.t, .int (most : Int)] = some (.ok (intsT vs) [d'.t, .int (most : Int)]) := by
  obtain ⟨v, d1, h1, e1⟩ := e_next d (m + 2 + most) (h.le (by omega))
  obtain ⟨w, d2, h2, e2⟩ := e_next d1 (m + 1 + most) (h1.le (by omega))
  have m1 : modS (.int v) (.int 4) = some (.int (v % 4)) := z_mod (by decide)
  have m2 : modS (.int w) (.int 4) = some (.int (w % 4)) := z_mod (by decide)
  have kE : ∃ q : Nat, (0 < q ∧ q ≤ 60) ∧ ixT (.lst [.int 2, .int 4, .int 9, .int 60]) (.int (v % 4)) = some (.int (q : Int)) := by
    have : v % 4 = 0 ∨ v % 4 = 1 ∨ v % 4 = 2 ∨ v % 4 = 3 := by omega
    rcases this with e | e | e | e <;> rw [e]
    · exact ⟨2, by decide, rfl⟩
    · exact ⟨4, by decide, rfl⟩
    · exact ⟨9, by decide, rfl⟩
    · exact ⟨60, by decide, rfl⟩
  have fE : ∃ q : Int, (q = 1 ∨ q = 10 ^ 18) ∧ ixT (.lst [.int 1, .int 1, .int 1, .int (10 ^ 18)]) (.int (w % 4)) = some (.int q) := by
    have : w % 4 = 0 ∨ w % 4 = 1 ∨ w % 4 = 2 ∨ w % 4 = 3 := by omega
    rcases this with e | e | e | e <;> rw [e]
    · exact ⟨1, .inl rfl, rfl⟩
    · exact ⟨1, .inl rfl, rfl⟩
    · exact ⟨1, .inl rfl, rfl⟩
    · exact ⟨10 ^ 18, .inr rfl, rfl⟩
  obtain ⟨kinds, hk, ix1⟩ := kE
  obtain ⟨far, hf, ix2⟩ := fE
  obtain ⟨vs, d3, h3, hl, hs, e3⟩ := e_values_C1 d2 m most kinds far hm hk hf (h2.le (by omega))
  refine ⟨vs, d3, h3, hl, hs, ?_⟩
  rw [run_ev]
  simp only [s__law_values, ↓ev_bind, ↓ev_pure, ↓ev_rd, ↓ev_lf, ↓ev_vr, ↓ev_kc, ↓ev_mv, ↓ev_pp2, ↓ev_pp1, ↓ev_tnot, ↓ev_tand, ↓ev_tor, ↓ev_vand, ↓ev_vor, ↓ev_vnot, ↓ev_vif, ↓ev_fset, ↓ev_fdo, ↓ev_frt, ↓ev_fif, ↓ev_fnx, ↓ev_fbk, ↓ev_fct, ↓ev_fno, ↓ev_fsq, ↓ev_afI, ↓ev_fasg, ↓ev_faug, ↓ev_fseti, ↓ev_fpar2, ↓ev_fcall, ↓ev_fkw, ↓ev_fmu0, ↓ev_fmu1, ↓ev_pchn, ev_acn, ↓ev_aci, z_ixN0, pick, List.getD_cons_zero, List.getD_cons_succ, eq_self, ev_gset, ev_gnil, ev_gcons, ↓ev_go, ↓ev_fl, ↓ev_flgo, ↓ev_rsgo, z_add, z_addL, z_sub, z_cmp, z_int, z_intb, z_len, z_lent, z_bl, z_int?, z_lst, z_tup, z_seq, z_neg, z_isN, z_notN, z_isNi, z_isNn, z_isNl, z_isNs, z_isNt, z_list, z_listt, z_rev, z_eqi, z_nei, z_eqs, z_nes, z_eqb, z_neb, z_ixif, z_ml0, z_ml1, z_mt1, z_ml2, z_mt2, z_ml3, z_mt3, z_ml4, z_mt4, z_ml5, z_mt5, z_ml6, z_ml7, z_ml8, z_ml9, z_ml10, z_ml11, z_ml12, z_ml13, z_ml14, z_ixl0, z_ixt0, z_ixl1, z_ixt1, z_ixl2, z_ixt2, z_ixl3, z_ixt3, z_ixl4, z_ixt4, z_ixl5, z_ixl6, z_ixl7, z_ixl8, z_ixl9, z_ixl10, z_ixl11, z_ixl12, z_ixl13, fill_nil, fill_no, fill_so, put_of, hole_nil, hole_no, hole_so, back_no, back_so, fin_rt, fin_nx, fin_ex, mix_nil, mix_sh, mix_ow, Option.map_some, Option.bind_some, Option.join_some, Option.bind_none, Option.map_none, List.getElem?_cons_zero, List.getElem?_cons_succ, List.set_cons_zero, List.set_cons_succ, List.map_nil, List.map_cons, List.append_nil, List.nil_append, List.cons_append, List.length_cons, List.length_nil, List.replicate_succ, List.replicate_zero, Nat.reduceAdd, Nat.reduceSub, ↓reduceIte, Bool.not_true, Bool.not_false, Bool.false_eq_true, Bool.true_eq_false, Int.reduceLT, Int.reduceLE, Int.reduceAdd, Int.reduceSub, Int.reduceMul, Int.reduceNeg, Int.reduceEq, decide_true, decide_false, decide_eq_true_eq, Bool.not_eq_true, decide_eq_false_iff_not, ↓ev_fraise, ↓ev_ftry, tr_nx, lose_nil, lose_cons, lose_so, z_isNx, z_tuple, e1, m1, ix1, e2, m2, pow_10_18, ix2, e3]

end Law

end
section
set_option maxHeartbeats 4000000
namespace Law
open PySem PySem.Spec PyProof.Rows L2 Tr
/-! ### words of values, in plain Lean -/
def inb (lo hi : Option Int) (u : Int) : Bool := (match lo with | none => true | some l => decide (l ≤ u)) && (match hi with | none => true | some h => decide (u < h))
/-- the word of x behind the values us, within bounds; true stands for a step r -/
def wd (x : Int) : Option Int → Option Int → List Int → List Bool
  | _, _, [] => []
  | lo, hi, u :: us => if inb lo hi u = true then (if x < u then false :: wd x lo (some u) us else true :: wd x (some u) hi us) else wd x lo hi us
theorem inb_hi {lo : Option Int} {u w : Int} : inb lo (some u) w = true ↔ inb lo none w = true ∧ w < u := by
  cases lo <;> simp [inb]
theorem inb_lo {hi : Option Int} {u w : Int} : inb (some u) hi w = true ↔ inb none hi w = true ∧ u ≤ w := by
  cases hi <;> simp [inb, and_comm]
theorem inb_and {lo hi : Option Int} {w : Int} : inb lo hi w = true ↔ inb lo none w = true ∧ inb none hi w = true := by
  cases hi <;> cases lo <;> simp [inb]
theorem inb_lo_mono {lo : Option Int} {u w : Int} (h : inb lo none u = true) (k : u ≤ w) : inb lo none w = true := by
  cases lo with
  | none => rfl
  | some l =>
    simp only [inb, Bool.and_true, decide_eq_true_eq] at h ⊢
    omega
theorem inb_hi_mono {hi : Option Int} {u w : Int} (h : inb none hi u = true) (k : w ≤ u) : inb none hi w = true := by
  cases hi with
  | none => rfl
  | some l =>
    simp only [inb, Bool.true_and, decide_eq_true_eq] at h ⊢
    omega
theorem wd_drop (x : Int) (P : Int → Bool) : ∀ (us : List Int) (lo hi : Option Int), (∀ u ∈ us, inb lo hi u = true → P u = true) → wd x lo hi us = wd x lo hi (us.filter P)
  | [], lo, hi, _ => rfl
  | u :: us, lo, hi, h => by
    have ht : ∀ w ∈ us, inb lo hi w = true → P w = true := fun w hw => h w (List.mem_cons_of_mem _ hw)
    by_cases hu : inb lo hi u = true
    · have hp := h u (by simp) hu
      rw [List.filter_cons, if_pos hp, wd, wd, if_pos hu, if_pos hu]
      obtain ⟨u1, u2⟩ := inb_and.mp hu
      by_cases hx : x < u
      · rw [if_pos hx, if_pos hx, wd_drop x P us lo (some u) fun w hw hb => ht w hw (by
          obtain ⟨b1, b2⟩ := inb_hi.mp hb
          exact inb_and.mpr ⟨b1, inb_hi_mono u2 (by omega)⟩)]
      · rw [if_neg hx, if_neg hx, wd_drop x P us (some u) hi fun w hw hb => ht w hw (by
          obtain ⟨b1, b2⟩ := inb_lo.mp hb
          exact inb_and.mpr ⟨inb_lo_mono u1 b2, b1⟩)]
    · rw [wd, if_neg hu, wd_drop x P us lo hi ht, List.filter_cons]
      by_cases hp : P u = true
      · rw [if_pos hp, wd, if_neg hu]
      · rw [if_neg hp]
theorem wd_bounds (x : Int) : ∀ (us : List Int) (lo hi lo' hi' : Option Int), (∀ u ∈ us, inb lo hi u = inb lo' hi' u) → wd x lo hi us = wd x lo' hi' us
  | [], _, _, _, _, _ => rfl
  | u :: us, lo, hi, lo', hi', h => by
    have h0 := h u (by simp)
    have ht : ∀ w ∈ us, inb lo hi w = inb lo' hi' w := fun w hw => h w (List.mem_cons_of_mem _ hw)
    rw [wd, wd, ← h0]
    by_cases hu : inb lo hi u = true
    · rw [if_pos hu, if_pos hu]
      have hu' : inb lo' hi' u = true := by rw [← h0]; exact hu
      obtain ⟨u1, u2⟩ := inb_and.mp hu
      obtain ⟨v1, v2⟩ := inb_and.mp hu'
      by_cases hx : x < u
      · rw [if_pos hx, if_pos hx, wd_bounds x us lo (some u) lo' (some u) fun w hw => Bool.eq_iff_iff.mpr ?_]
        rw [inb_hi, inb_hi]
        constructor
        · rintro ⟨a, b⟩
          have := ht w hw
          rw [inb_and.mpr ⟨a, inb_hi_mono u2 (by omega)⟩] at this
          exact ⟨(inb_and.mp this.symm).1, b⟩
        · rintro ⟨a, b⟩
          have := ht w hw
          rw [inb_and.mpr ⟨a, inb_hi_mono v2 (by omega)⟩] at this
          exact ⟨(inb_and.mp this).1, b⟩
      · rw [if_neg hx, if_neg hx, wd_bounds x us (some u) hi (some u) hi' fun w hw => Bool.eq_iff_iff.mpr ?_]
        rw [inb_lo, inb_lo]
        constructor
        · rintro ⟨a, b⟩
          have := ht w hw
          rw [inb_and.mpr ⟨inb_lo_mono u1 b, a⟩] at this
          exact ⟨(inb_and.mp this.symm).2, b⟩
        · rintro ⟨a, b⟩
          have := ht w hw
          rw [inb_and.mpr ⟨inb_lo_mono v1 b, a⟩] at this
          exact ⟨(inb_and.mp this).2, b⟩
    · rw [if_neg hu, if_neg hu, wd_bounds x us lo hi lo' hi' ht]
/-- the first step; the others are the word in that part -/
theorem wd_cons (x v : Int) (us : List Int) : wd x none none (v :: us) = if x < v then false :: wd x none none (us.filter fun y => decide (y < v)) else true :: wd x none none (us.filter fun y => decide (v ≤ y)) := by
  rw [wd, if_pos (show inb none none v = true from rfl)]
  by_cases h : x < v
  · rw [if_pos h, if_pos h, wd_drop x (fun y => decide (y < v)) us none (some v) (fun u _ hb => by simpa using (inb_hi.mp hb).2)]
    rw [wd_bounds x _ none (some v) none none fun u hu => ?_]
    have := (List.mem_filter.mp hu).2
    simp only [decide_eq_true_eq] at this
    simp [inb, this]
  · rw [if_neg h, if_neg h, wd_drop x (fun y => decide (v ≤ y)) us (some v) none (fun u _ hb => by simpa using (inb_lo.mp hb).2)]
    rw [wd_bounds x _ (some v) none none none fun u hu => ?_]
    have := (List.mem_filter.mp hu).2
    simp only [decide_eq_true_eq] at this
    simp [inb, this]
/-- the place to which a row of steps leads -/
def stp (pl : Plan) (p : Option Nat) (b : Bool) : Option Nat := match p with
  | none => none
  | some q => if b then (entAt pl q).2 else (entAt pl q).1
def beh (pl : Plan) (p : Option Nat) (w : List Bool) : Option Nat := w.foldl (stp pl) p
theorem beh_none (pl : Plan) (w : List Bool) : beh pl none w = none := by
  unfold beh
  induction w with
  | nil => rfl
  | cons b w ih => exact ih
theorem beh_cons (pl : Plan) (p : Option Nat) (b : Bool) (w : List Bool) : beh pl p (b :: w) = beh pl (stp pl p b) w := rfl
/-- the value that stands behind pre becomes a pivot -/
def piv (pl : Plan) (p : Option Nat) (pre : List Int) (x : Int) : Bool := (beh pl p (wd x none none pre)).isSome
theorem piv_none (pl : Plan) (pre : List Int) (x : Int) : piv pl none pre x = false := by
  unfold piv
  rw [beh_none]
  rfl
theorem piv_nil (pl : Plan) (p : Nat) (x : Int) : piv pl (some p) [] x = true := rfl
theorem piv_lt (pl : Plan) (p : Nat) {x v : Int} (pre : List Int) (h : x < v) : piv pl (some p) (v :: pre) x = piv pl (entAt pl p).1 (pre.filter fun y => decide (y < v)) x := by
  unfold piv
  rw [wd_cons, if_pos h, beh_cons]
  rfl
theorem piv_ge (pl : Plan) (p : Nat) {x v : Int} (pre : List Int) (h : ¬ x < v) : piv pl (some p) (v :: pre) x = piv pl (entAt pl p).2 (pre.filter fun y => decide (v ≤ y)) x := by
  unfold piv
  rw [wd_cons, if_neg h, beh_cons]
  rfl

/-! ### words, places behind rows, pivots -/
def stS (w : List Bool) : Str := ⟨(w.map fun b => if b then 114 else 108).toArray⟩
theorem stS_len (w : List Bool) : (stS w).length = w.length := by simp [stS, Str.length]
theorem stS_l (w : List Bool) : addS (.str (stS w)) (.str "l") = if w.length + 1 ≤ sizeLine then some (.str (stS (w ++ [false]))) else none := by
  show (if (stS w).length + ("l" : Str).length ≤ sizeLine then _ else _) = _
  rw [stS_len]
  have e : stS w ++ ("l" : Str) = stS (w ++ [false]) := by
    show (⟨(stS w).cps ++ ("l" : Str).cps⟩ : Str) = _
    simp [stS]
    rfl
  rw [e]
  rfl
theorem stS_r (w : List Bool) : addS (.str (stS w)) (.str "r") = if w.length + 1 ≤ sizeLine then some (.str (stS (w ++ [true]))) else none := by
  show (if (stS w).length + ("r" : Str).length ≤ sizeLine then _ else _) = _
  rw [stS_len]
  have e : stS w ++ ("r" : Str) = stS (w ++ [true]) := by
    show (⟨(stS w).cps ++ ("r" : Str).cps⟩ : Str) = _
    simp [stS]
    rfl
  rw [e]
  rfl
def sgB (b : Bool) : T := .str ⟨#[if b then 114 else 108]⟩
theorem sgn_stS (w : List Bool) : T.sgn? (.str (stS w)) = some (w.map sgB) := by
  simp only [T.sgn?, sgnT, stS, List.map_map]
  congr 1
theorem ix_lr (b : Bool) : sindexT (.str "lr") [sgB b] = some (.int (if b then 1 else 0)) := by
  have h0 : (Builtin.Str.occurrences ("lr" : Str) ⟨#[108]⟩ 0 ("lr" : Str).length 1).head? = some 0 := by decide +kernel
  have h1 : (Builtin.Str.occurrences ("lr" : Str) ⟨#[114]⟩ 0 ("lr" : Str).length 1).head? = some 1 := by decide +kernel
  cases b
  · show Option.map _ (Builtin.Str.occurrences ("lr" : Str) ⟨#[108]⟩ 0 ("lr" : Str).length 1).head? = _
    rw [h0]
    rfl
  · show Option.map _ (Builtin.Str.occurrences ("lr" : Str) ⟨#[114]⟩ 0 ("lr" : Str).length 1).head? = _
    rw [h1]
    rfl
theorem ent_ix (pl : Plan) (p : Nat) (hp : p < pl.length) : ixT (planT pl) (.int (p : Int)) = some (pairT (entAt pl p)) := by
  have hx : pl[p]? = some pl[p] := List.getElem?_eq_getElem hp
  have hg : entAt pl p = pl[p] := by simp [entAt, List.getD, hx]
  rw [hg]
  exact ix_lst (by rw [List.getElem?_map, hx]; rfl)
theorem ent_b (q : Option Nat × Option Nat) (b : Bool) : ixT (pairT q) (.int (if b then 1 else 0)) = some (entT (if b then q.2 else q.1)) := by
  cases b <;> rfl
theorem stp_ok (pl : Plan) (h : PlanOk pl) (p : Option Nat) (b : Bool) (hp : okE pl.length p) : okE pl.length (stp pl p b) := by
  cases p with
  | none => exact hp
  | some q =>
    have hq := hp q rfl
    have hm : entAt pl q ∈ pl := by
      have hx : pl[q]? = some pl[q] := List.getElem?_eq_getElem hq
      have hg : entAt pl q = pl[q] := by simp [entAt, List.getD, hx]
      rw [hg]
      exact List.getElem_mem hq
    cases b
    · exact h.fst _ hm
    · exact h.snd _ hm
theorem beh_ok (pl : Plan) (h : PlanOk pl) : ∀ (w : List Bool) (p : Option Nat), okE pl.length p → okE pl.length (beh pl p w)
  | [], _, hp => hp
  | b :: w, p, hp => beh_ok pl h w _ (stp_ok pl h p b hp)

def at0 (vs : List Int) (i : Nat) : Int := vs.getD i 0
theorem at0_some {vs : List Int} {i : Nat} (h : i < vs.length) : vs[i]? = some (at0 vs i) := by
  simp [at0, List.getD, List.getElem?_eq_getElem h]
theorem enum_rng (vs : List Int) : enumT (vs.map T.int) = (List.range vs.length).map fun i => .tup [.int (i : Int), .int (at0 vs i)] := by
  apply List.ext_getElem?
  intro i
  unfold enumT
  rw [List.getElem?_map, List.getElem?_map]
  by_cases h : i < vs.length
  · rw [List.getElem?_range h]
    simp [List.getElem?_zipIdx, at0_some h]
  · rw [List.getElem?_eq_none (by simpa using h), List.getElem?_eq_none (by simpa using h)]
    rfl
theorem at0_mem {vs : List Int} {i : Nat} (h : i < vs.length) : at0 vs i ∈ vs := List.mem_of_getElem? (at0_some h)

theorem mulL_1 (t : T) (n : Nat) (hn : n ≤ 1000) : mulL (.lst [t]) (.int (n : Int)) = some (.lst (List.replicate n t)) := by
  have h1 : (n : Int).natAbs < 2 ^ 62 := by omega
  have h2 : [t].length * (n : Int).toNat ≤ sizeLine := by rw [sizeLine_eq]; simp; omega
  show (if (decide ((n : Int).natAbs < 2 ^ 62) && decide ([t].length * (n : Int).toNat ≤ sizeLine)) = true then some (T.lst (List.replicate (n : Int).toNat [t]).flatten) else none) = _
  rw [if_pos (by simp only [h1, h2, decide_true, Bool.and_self]), Int.toNat_natCast]
  rw [List.flatten_replicate_singleton]
theorem sl_to (vs : List Int) (i : Nat) : slT (intsT vs) (none, some (i : Int)) = some (intsT (vs.take i)) := by
  show some (T.lst (cutT (vs.map T.int) none (some (i : Int)))) = _
  rw [cut_to]
  simp [intsT, List.map_take]
theorem z_addL {xs ys : List T} (h : xs.length + ys.length ≤ 1000) : addL (.lst xs) (.lst ys) = some (.lst (xs ++ ys)) := by
  show (if _ then _ else _) = _
  rw [if_pos (by rw [sizeLine_eq]; omega)]

theorem z_eqc {t : T} {ts : List T} (h : (T.lst (t :: ts)).cmp = true) : eqT (.lst (t :: ts)) (.lst []) = some (.bl false) := by
  unfold Tr.eqT
  rw [h]
  simp [T.cmp, T.dat, T.datA, T.py, T.pyA, SeqAt.shaped, PyData.canLay0, PyData.canLayAll0, PyData.depth, PyData.depthAll, PyData.eqv, PyData.eqvAll]
theorem slT_1 {α : Type} (f : α → T) (v : α) (r : List α) : slT (.lst ((v :: r).map f)) (some 1, none) = some (.lst (r.map f)) := by
  show some (T.lst (cutT ((v :: r).map f) (some ((1 : Nat) : Int)) none)) = _
  rw [cut_from]
  rfl
theorem slT_1c {t : T} {r : List T} : slT (.lst (t :: r)) (some 1, none) = some (.lst r) := by
  have := slT_1 id t r
  simpa using this
theorem ent_ok1 (pl : Plan) (h : PlanOk pl) (p : Nat) (hp : p < pl.length) : okE pl.length (entAt pl p).1 := stp_ok pl h (some p) false (fun i e => by cases e; exact hp)
theorem ent_ok2 (pl : Plan) (h : PlanOk pl) (p : Nat) (hp : p < pl.length) : okE pl.length (entAt pl p).2 := stp_ok pl h (some p) true (fun i e => by cases e; exact hp)

def aft (pl : Plan) : Nat → Option Nat → List Int → List Int
  | _, none, vs => vs
  | _, _, [] => []
  | 0, _, vs => vs
  | n + 1, some p, v :: r => aft pl n (entAt pl p).1 (r.filter fun x => decide (x < v)) ++ v :: aft pl n (entAt pl p).2 (r.filter fun x => decide (v ≤ x))
theorem cut1 (vs : List Int) : cutT (vs.map T.int) (some 1) none = (vs.drop 1).map T.int := by
  cases vs with
  | nil => rfl
  | cons v r =>
    unfold cutT HT.sIx
    simp
    exact List.take_of_length_le (by simp)
/-- a part of a list, by a test of its values -/
theorem part {E : Tr.Env} {f : F0 (List T)} {t : F0 Bool} {xs : List Int} {i : Nat} (P : Int → Bool) (hz : xs.length ≤ sizeLine) (hf : f E = some (.ok (xs.map T.int) E)) (hu : unset [i] E = true) (hc : clrs [i] E = E) (ht : ∀ x : Int, t (E.set i (some (.int x))) = some (.ok (P x) (E.set i (some (.int x))))) (hv : ∀ x : Int, vr i (E.set i (some (.int x))) = some (.int x)) :
    flc f (gset i) [i] t (rd (vr i)) E = some (.ok (intsT (xs.filter P)) E) := by
  have h := flc_ok (e := rd (vr i)) (t := t) (g := gset i) (vs := [i]) (fun y => match y with | .int x => if P x = true then some y else none | _ => none) hf hu (by rw [List.length_map]; exact hz) fun y hy => by
    obtain ⟨x, _, rfl⟩ := List.mem_map.mp hy
    refine ⟨E.set i (some (.int x)), rfl, by rw [clrs_set (by simp)]; exact hc, ?_⟩
    by_cases hx : P x = true
    · exact .inl ⟨.int x, by simp [hx], by rw [ht, hx], rd_ok (hv x)⟩
    · exact .inr ⟨by simp [hx], by rw [ht]; simp [hx]⟩
  rw [h]
  have : ∀ xs : List Int, (xs.map T.int).filterMap (fun y => match y with | .int x => if P x = true then some y else none | _ => none) = (xs.filter P).map T.int := by
    intro xs
    induction xs with
    | nil => rfl
    | cons x xs ih =>
      by_cases hx : P x = true
      · simp [hx, ih]
      · simp [hx, ih]
  rw [this]
theorem aft_none (pl : Plan) (n : Nat) (vs : List Int) : aft pl n none vs = vs := by cases n <;> rfl
theorem aft_nil (pl : Plan) (n : Nat) (p : Option Nat) : aft pl n p [] = [] := by cases n <;> cases p <;> rfl
theorem parts_len (v : Int) : ∀ r : List Int, (r.filter fun x => decide (x < v)).length + (r.filter fun x => decide (v ≤ x)).length = r.length
  | [] => rfl
  | x :: r => by
    have := parts_len v r
    by_cases h : x < v
    · have h2 : ¬ v ≤ x := by omega
      simp [h, h2]
      omega
    · have h2 : v ≤ x := by omega
      simp [h, h2]
      omega
theorem aft_len (pl : Plan) : ∀ (n : Nat) (p : Option Nat) (vs : List Int), (aft pl n p vs).length = vs.length
  | n, none, vs => by rw [aft_none]
  | n, some p, [] => by rw [aft_nil]
  | 0, some p, v :: r => rfl
  | n + 1, some p, v :: r => by
    rw [aft, List.length_append, List.length_cons, aft_len pl n, aft_len pl n, List.length_cons]
    have := parts_len v r
    omega
/-- one pass -/
def onc (pl : Plan) (vs : List Int) : List Int := aft pl 70 (begM pl) vs
theorem onc_len (pl : Plan) (vs : List Int) : (onc pl vs).length = vs.length := aft_len _ _ _ _

theorem e_after (pl : Plan) (h : PlanOk pl) : ∀ (n : Nat) (place : Option Nat) (vs : List Int), vs.length < n → vs.length ≤ 60 → okE pl.length place →
    runF [.sh, .sh, .ow .sh] 9 (s_after n) [planT pl, entT place, intsT vs] = some (.ok (intsT (aft pl n place vs)) [planT pl, entT place, intsT vs])
  | 0, _, vs, hl, _, _ => by omega
  | n + 1, none, vs, _, _, _ => by
    rw [aft_none]
    refine run_rt (E0 := [some (planT pl), some .non, some (intsT vs), none, none, none, none, none, none]) (E := [some (planT pl), some .non, some (intsT vs), none, none, none, none, none, none]) rfl (sq_rt (if_t (E1 := [some (planT pl), some .non, some (intsT vs), none, none, none, none, none, none]) (tor_t (by rfl)) (rt_ok (by rfl)))) rfl
  | n + 1, some p, [], _, _, _ => by
    rw [aft_nil]
    refine run_rt (E0 := [some (planT pl), some (entT (some p)), some (intsT []), none, none, none, none, none, none]) (E := [some (planT pl), some (entT (some p)), some (intsT []), none, none, none, none, none, none]) rfl (sq_rt (if_t (E1 := [some (planT pl), some (entT (some p)), some (intsT []), none, none, none, none, none, none]) (tor_f (E1 := [some (planT pl), some (entT (some p)), some (intsT []), none, none, none, none, none, none]) (by rfl) (by rfl)) (rt_ok (by rfl)))) rfl
  | n + 1, some p, v :: r, hl, h60, hp => by
    have hpl : p < pl.length := hp p rfl
    obtain ⟨⟨a, b⟩, hab⟩ : ∃ q, pl[p]? = some q := ⟨_, List.getElem?_eq_getElem hpl⟩
    have hmem := List.mem_of_getElem? hab
    have hat : entAt pl p = (a, b) := by unfold entAt; rw [List.getD, hab]; rfl
    have hz : r.length ≤ sizeLine := by rw [sizeLine_eq]; simp at h60; omega
    simp only [List.length_cons] at hl h60
    have l1 : (r.filter fun x => decide (x < v)).length ≤ r.length := List.length_filter_le _ _
    have l2 : (r.filter fun x => decide (v ≤ x)).length ≤ r.length := List.length_filter_le _ _
    have i1 := e_after pl h n a (r.filter fun x => decide (x < v)) (by omega) (by omega) (h.fst _ hmem)
    have i2 := e_after pl h n b (r.filter fun x => decide (v ≤ x)) (by omega) (by omega) (h.snd _ hmem)
    have tst : eqT (intsT (v :: r)) (.lst []) = some (.bl false) := by
      have := eqT_of eqf_ints pl_ints (v :: r) []
      rw [decide_eq_false (by simp)] at this
      exact this
    have ixp : (pl.map pairT)[p]? = some (pairT (a, b)) := by rw [List.getElem?_map, hab]; rfl
    have g0 : pp2 ixT (vr 2) (kc (.int 0)) [some (planT pl), some (.int (p : Int)), some (intsT (v :: r)), none, none, none, none, none, none] = some (.int v) := p2_ok (by rfl) (by rfl) (ix_lst (k := 0) rfl)
    have gp : pp2 ixT (vr 0) (vr 1) [some (planT pl), some (.int (p : Int)), some (intsT (v :: r)), none, none, none, none, none, none] = some (pairT (a, b)) := p2_ok (by rfl) (by rfl) (ix_lst (k := p) ixp)
    have g1 : pp2 ixT (pp2 ixT (vr 0) (vr 1)) (kc (.int 0)) [some (planT pl), some (.int (p : Int)), some (intsT (v :: r)), none, none, none, none, none, none] = some (entT a) := p2_ok gp (by rfl) (ix_tup (k := 0) rfl)
    have g2 : pp2 ixT (pp2 ixT (vr 0) (vr 1)) (kc (.int 1)) [some (planT pl), some (.int (p : Int)), some (intsT (v :: r)), none, none, none, none, none, none] = some (entT b) := p2_ok gp (by rfl) (ix_tup (k := 1) rfl)
    have cutE : ∀ E : Tr.Env, vr 2 E = some (intsT (v :: r)) → (F0.bind (F0.bind (rd (vr 2)) fun a => F0.bind (F0.bind (F0.bind (rd (kc (.int 1))) (lf fun t => t.int?.map some)) fun l => F0.bind (F0.pure none) fun u => F0.pure (l, u)) fun p => lf (slT a) p) (lf T.lst?)) E = some (.ok (r.map T.int) E) := by
      intro E hE
      have e2 : slT (intsT (v :: r)) (some 1, none) = some (.lst (r.map T.int)) := by
        show some (T.lst (cutT ((v :: r).map T.int) (some 1) none)) = _
        rw [cut1]
        rfl
      exact bd (bd (rd_ok hE) (bd (a := (some 1, none)) (E1 := E) (by rfl) (lf_ok e2))) (by rfl)
    have ab : aft pl (n + 1) (some p) (v :: r) = aft pl n a (r.filter fun x => decide (x < v)) ++ v :: aft pl n b (r.filter fun x => decide (v ≤ x)) := by
      rw [aft, hat]
    refine run_rt (E0 := [some (planT pl), some (.int (p : Int)), some (intsT (v :: r)), none, none, none, none, none, none]) (E := [some (planT pl), some (.int (p : Int)), some (intsT (v :: r)), some (.int v), some (entT a), some (entT b), some (intsT (r.filter fun x => decide (x < v))), some (intsT (r.filter fun x => decide (v ≤ x))), none]) rfl ?_ rfl
    refine sq_nx (if_f (tor_f (E1 := [some (planT pl), some (.int (p : Int)), some (intsT (v :: r)), none, none, none, none, none, none]) (by rfl) (bl_v (bd (a := intsT (v :: r)) (E1 := [some (planT pl), some (.int (p : Int)), some (intsT (v :: r)), none, none, none, none, none, none]) (by rfl) (bd (a := .lst []) (E1 := [some (planT pl), some (.int (p : Int)), some (intsT (v :: r)), none, none, none, none, none, none]) (by rfl) (lf_ok tst))))) (by rfl)) ?_
    refine sq_nx (asg_ok (bd (bd (rd_ok g0) (bd (bd (rd_ok g1) (bd (bd (rd_ok g2) (by rfl)) (by rfl))) (by rfl))) (by rfl)) (by rfl)) ?_
    refine sq_nx (set_ok (part (fun x => decide (x < v)) hz (cutE _ (by rfl)) (by rfl) (by rfl) (fun x => by rfl) (fun x => by rfl))) ?_
    refine sq_nx (set_ok (part (fun x => decide (v ≤ x)) hz (cutE _ (by rfl)) (by rfl) (by rfl) (fun x => by rfl) (fun x => by rfl))) ?_
    refine rt_ok ?_
    rw [ab]
    let E3 : Tr.Env := [some (planT pl), some (.int (p : Int)), some (intsT (v :: r)), some (.int v), some (entT a), some (entT b), some (intsT (r.filter fun x => decide (x < v))), some (intsT (r.filter fun x => decide (v ≤ x))), none]
    have c1 : fcall ([none, none, some 6] ++ ([] : List T).map fun _ => none) (runF [.sh, .sh, .ow .sh] 9 (s_after n)) ([planT pl, entT a, .non] ++ []) E3 = some (.ok (intsT (aft pl n a (r.filter fun x => decide (x < v)))) E3) := call_ok (us := [planT pl, entT a, intsT (r.filter fun x => decide (x < v))]) (by rfl) i1 (by rfl)
    have c2 : fcall ([none, none, some 7] ++ ([] : List T).map fun _ => none) (runF [.sh, .sh, .ow .sh] 9 (s_after n)) ([planT pl, entT b, .non] ++ []) E3 = some (.ok (intsT (aft pl n b (r.filter fun x => decide (v ≤ x)))) E3) := call_ok (us := [planT pl, entT b, intsT (r.filter fun x => decide (v ≤ x))]) (by rfl) i2 (by rfl)
    have fin : intsT (aft pl n a (r.filter fun x => decide (x < v)) ++ v :: aft pl n b (r.filter fun x => decide (v ≤ x))) = .lst ((aft pl n a (r.filter fun x => decide (x < v))).map T.int ++ (T.int v :: ((aft pl n b (r.filter fun x => decide (v ≤ x))).map T.int ++ []))) := by
      simp [intsT]
    rw [fin]
    have few : ((aft pl n a (r.filter fun x => decide (x < v))).map T.int ++ (T.int v :: ((aft pl n b (r.filter fun x => decide (v ≤ x))).map T.int ++ []))).length ≤ sizeLine := by
      have := parts_len v r
      rw [sizeLine_eq]
      simp [aft_len]
      omega
    have mk : mkL ((aft pl n a (r.filter fun x => decide (x < v))).map T.int ++ (T.int v :: ((aft pl n b (r.filter fun x => decide (v ≤ x))).map T.int ++ []))) = some (.lst ((aft pl n a (r.filter fun x => decide (x < v))).map T.int ++ (T.int v :: ((aft pl n b (r.filter fun x => decide (v ≤ x))).map T.int ++ [])))) := by
      unfold mkL
      rw [if_pos few]
    exact bd (E1 := E3) (bd (E1 := E3) (bd (a := [planT pl, entT a, .non]) (E1 := E3) (by rfl) c1) (bd (a := (aft pl n a (r.filter fun x => decide (x < v))).map T.int) (E1 := E3) (by rfl) (bd (a := .int v :: ((aft pl n b (r.filter fun x => decide (v ≤ x))).map T.int ++ [])) (E1 := E3) (bd (a := .int v) (E1 := E3) (by rfl) (bd (E1 := E3) (bd (E1 := E3) (bd (a := [planT pl, entT b, .non]) (E1 := E3) (by rfl) c2) (bd (a := (aft pl n b (r.filter fun x => decide (v ≤ x))).map T.int) (E1 := E3) (by rfl) (by rfl))) (by rfl))) (by rfl)))) (lf_ok mk)

/-! ### the law's own pass -/
theorem sl_1 (v : Int) (r : List Int) : slT (intsT (v :: r)) (some 1, none) = some (intsT r) := slT_1 T.int v r
theorem sl_h (v : Int) (r : List Int) : slT (intsT (v :: r)) (none, some 1) = some (intsT [v]) := by
  have := sl_to (v :: r) 1
  simpa using this
theorem ix_h (v : Int) (r : List Int) : ixT (intsT (v :: r)) (.int 0) = some (.int v) := ix_lst (k := 0) rfl
theorem e_laf_C1 (a0 a1 : Option T) (v : Int) (r : List Int) (hz : r.length ≤ 1000) (a3 a4 a5 a6 : Option T) : s__law_after_C1 [a0, a1, some (intsT (v :: r)), a3, a4, a5, a6, none] = some (.ok (intsT (r.filter fun x => decide (x < v))) [a0, a1, some (intsT (v :: r)), a3, a4, a5, a6, none]) := by
  unfold s__law_after_C1
  refine part (fun x => decide (x < v)) (by rw [sizeLine_eq]; omega) ?_ (by rfl) (by rfl) (fun x => by simp only [↓ev_bind, ↓ev_pure, ↓ev_rd, ↓ev_lf, ↓ev_vr, ↓ev_kc, ↓ev_mv, ↓ev_pp2, ↓ev_pp1, ↓ev_tnot, ↓ev_tand, ↓ev_tor, ↓ev_vand, ↓ev_vor, ↓ev_vnot, ↓ev_vif, ↓ev_fset, ↓ev_fdo, ↓ev_frt, ↓ev_fif, ↓ev_fnx, ↓ev_fbk, ↓ev_fct, ↓ev_fno, ↓ev_fsq, ↓ev_afI, ↓ev_fasg, ↓ev_faug, ↓ev_fseti, ↓ev_fpar2, ↓ev_fcall, ↓ev_fkw, ↓ev_fmu0, ↓ev_fmu1, ↓ev_pchn, ev_acn, ↓ev_aci, z_ixN0, pick, List.getD_cons_zero, List.getD_cons_succ, eq_self, ev_gset, ev_gnil, ev_gcons, ↓ev_go, ↓ev_fl, ↓ev_flgo, ↓ev_rsgo, z_add, z_addL, z_sub, z_cmp, z_int, z_intb, z_len, z_lent, z_bl, z_int?, z_lst, z_tup, z_seq, z_neg, z_isN, z_notN, z_isNi, z_isNn, z_isNl, z_isNs, z_isNt, z_list, z_listt, z_rev, z_eqi, z_nei, z_eqs, z_nes, z_eqb, z_neb, z_ixif, z_ml0, z_ml1, z_mt1, z_ml2, z_mt2, z_ml3, z_mt3, z_ml4, z_mt4, z_ml5, z_mt5, z_ml6, z_ml7, z_ml8, z_ml9, z_ml10, z_ml11, z_ml12, z_ml13, z_ml14, z_ixl0, z_ixt0, z_ixl1, z_ixt1, z_ixl2, z_ixt2, z_ixl3, z_ixt3, z_ixl4, z_ixt4, z_ixl5, z_ixl6, z_ixl7, z_ixl8, z_ixl9, z_ixl10, z_ixl11, z_ixl12, z_ixl13, fill_nil, fill_no, fill_so, put_of, hole_nil, hole_no, hole_so, back_no, back_so, fin_rt, fin_nx, fin_ex, mix_nil, mix_sh, mix_ow, Option.map_some, Option.bind_some, Option.join_some, Option.bind_none, Option.map_none, List.getElem?_cons_zero, List.getElem?_cons_succ, List.set_cons_zero, List.set_cons_succ, List.map_nil, List.map_cons, List.append_nil, List.nil_append, List.cons_append, List.length_cons, List.length_nil, List.replicate_succ, List.replicate_zero, Nat.reduceAdd, Nat.reduceSub, ↓reduceIte, Bool.not_true, Bool.not_false, Bool.false_eq_true, Bool.true_eq_false, Int.reduceLT, Int.reduceLE, Int.reduceAdd, Int.reduceSub, Int.reduceMul, Int.reduceNeg, Int.reduceEq, decide_true, decide_false, decide_eq_true_eq, Bool.not_eq_true, decide_eq_false_iff_not, ↓ev_fraise, ↓ev_ftry, tr_nx, lose_nil, lose_cons, lose_so, z_isNx, z_tuple, ix_h]) (fun x => by rfl)
  simp only [↓ev_bind, ↓ev_pure, ↓ev_rd, ↓ev_lf, ↓ev_vr, ↓ev_kc, ↓ev_mv, ↓ev_pp2, ↓ev_pp1, ↓ev_tnot, ↓ev_tand, ↓ev_tor, ↓ev_vand, ↓ev_vor, ↓ev_vnot, ↓ev_vif, ↓ev_fset, ↓ev_fdo, ↓ev_frt, ↓ev_fif, ↓ev_fnx, ↓ev_fbk, ↓ev_fct, ↓ev_fno, ↓ev_fsq, ↓ev_afI, ↓ev_fasg, ↓ev_faug, ↓ev_fseti, ↓ev_fpar2, ↓ev_fcall, ↓ev_fkw, ↓ev_fmu0, ↓ev_fmu1, ↓ev_pchn, ev_acn, ↓ev_aci, z_ixN0, pick, List.getD_cons_zero, List.getD_cons_succ, eq_self, ev_gset, ev_gnil, ev_gcons, ↓ev_go, ↓ev_fl, ↓ev_flgo, ↓ev_rsgo, z_add, z_addL, z_sub, z_cmp, z_int, z_intb, z_len, z_lent, z_bl, z_int?, z_lst, z_tup, z_seq, z_neg, z_isN, z_notN, z_isNi, z_isNn, z_isNl, z_isNs, z_isNt, z_list, z_listt, z_rev, z_eqi, z_nei, z_eqs, z_nes, z_eqb, z_neb, z_ixif, z_ml0, z_ml1, z_mt1, z_ml2, z_mt2, z_ml3, z_mt3, z_ml4, z_mt4, z_ml5, z_mt5, z_ml6, z_ml7, z_ml8, z_ml9, z_ml10, z_ml11, z_ml12, z_ml13, z_ml14, z_ixl0, z_ixt0, z_ixl1, z_ixt1, z_ixl2, z_ixt2, z_ixl3, z_ixt3, z_ixl4, z_ixt4, z_ixl5, z_ixl6, z_ixl7, z_ixl8, z_ixl9, z_ixl10, z_ixl11, z_ixl12, z_ixl13, fill_nil, fill_no, fill_so, put_of, hole_nil, hole_no, hole_so, back_no, back_so, fin_rt, fin_nx, fin_ex, mix_nil, mix_sh, mix_ow, Option.map_some, Option.bind_some, Option.join_some, Option.bind_none, Option.map_none, List.getElem?_cons_zero, List.getElem?_cons_succ, List.set_cons_zero, List.set_cons_succ, List.map_nil, List.map_cons, List.append_nil, List.nil_append, List.cons_append, List.length_cons, List.length_nil, List.replicate_succ, List.replicate_zero, Nat.reduceAdd, Nat.reduceSub, ↓reduceIte, Bool.not_true, Bool.not_false, Bool.false_eq_true, Bool.true_eq_false, Int.reduceLT, Int.reduceLE, Int.reduceAdd, Int.reduceSub, Int.reduceMul, Int.reduceNeg, Int.reduceEq, decide_true, decide_false, decide_eq_true_eq, Bool.not_eq_true, decide_eq_false_iff_not, ↓ev_fraise, ↓ev_ftry, tr_nx, lose_nil, lose_cons, lose_so, z_isNx, z_tuple, sl_1]
theorem e_laf_C2 (a0 a1 : Option T) (v : Int) (r : List Int) (hz : r.length ≤ 1000) (a3 a4 a5 a6 : Option T) : s__law_after_C2 [a0, a1, some (intsT (v :: r)), a3, a4, a5, a6, none] = some (.ok (intsT (r.filter fun x => decide (v ≤ x))) [a0, a1, some (intsT (v :: r)), a3, a4, a5, a6, none]) := by
  unfold s__law_after_C2
  refine part (fun x => decide (v ≤ x)) (by rw [sizeLine_eq]; omega) ?_ (by rfl) (by rfl) (fun x => by simp only [↓ev_bind, ↓ev_pure, ↓ev_rd, ↓ev_lf, ↓ev_vr, ↓ev_kc, ↓ev_mv, ↓ev_pp2, ↓ev_pp1, ↓ev_tnot, ↓ev_tand, ↓ev_tor, ↓ev_vand, ↓ev_vor, ↓ev_vnot, ↓ev_vif, ↓ev_fset, ↓ev_fdo, ↓ev_frt, ↓ev_fif, ↓ev_fnx, ↓ev_fbk, ↓ev_fct, ↓ev_fno, ↓ev_fsq, ↓ev_afI, ↓ev_fasg, ↓ev_faug, ↓ev_fseti, ↓ev_fpar2, ↓ev_fcall, ↓ev_fkw, ↓ev_fmu0, ↓ev_fmu1, ↓ev_pchn, ev_acn, ↓ev_aci, z_ixN0, pick, List.getD_cons_zero, List.getD_cons_succ, eq_self, ev_gset, ev_gnil, ev_gcons, ↓ev_go, ↓ev_fl, ↓ev_flgo, ↓ev_rsgo, z_add, z_addL, z_sub, z_cmp, z_int, z_intb, z_len, z_lent, z_bl, z_int?, z_lst, z_tup, z_seq, z_neg, z_isN, z_notN, z_isNi, z_isNn, z_isNl, z_isNs, z_isNt, z_list, z_listt, z_rev, z_eqi, z_nei, z_eqs, z_nes, z_eqb, z_neb, z_ixif, z_ml0, z_ml1, z_mt1, z_ml2, z_mt2, z_ml3, z_mt3, z_ml4, z_mt4, z_ml5, z_mt5, z_ml6, z_ml7, z_ml8, z_ml9, z_ml10, z_ml11, z_ml12, z_ml13, z_ml14, z_ixl0, z_ixt0, z_ixl1, z_ixt1, z_ixl2, z_ixt2, z_ixl3, z_ixt3, z_ixl4, z_ixt4, z_ixl5, z_ixl6, z_ixl7, z_ixl8, z_ixl9, z_ixl10, z_ixl11, z_ixl12, z_ixl13, fill_nil, fill_no, fill_so, put_of, hole_nil, hole_no, hole_so, back_no, back_so, fin_rt, fin_nx, fin_ex, mix_nil, mix_sh, mix_ow, Option.map_some, Option.bind_some, Option.join_some, Option.bind_none, Option.map_none, List.getElem?_cons_zero, List.getElem?_cons_succ, List.set_cons_zero, List.set_cons_succ, List.map_nil, List.map_cons, List.append_nil, List.nil_append, List.cons_append, List.length_cons, List.length_nil, List.replicate_succ, List.replicate_zero, Nat.reduceAdd, Nat.reduceSub, ↓reduceIte, Bool.not_true, Bool.not_false, Bool.false_eq_true, Bool.true_eq_false, Int.reduceLT, Int.reduceLE, Int.reduceAdd, Int.reduceSub, Int.reduceMul, Int.reduceNeg, Int.reduceEq, decide_true, decide_false, decide_eq_true_eq, Bool.not_eq_true, decide_eq_false_iff_not, ↓ev_fraise, ↓ev_ftry, tr_nx, lose_nil, lose_cons, lose_so, z_isNx, z_tuple, ix_h]) (fun x => by rfl)
  simp only [↓ev_bind, ↓ev_pure, ↓ev_rd, ↓ev_lf, ↓ev_vr, ↓ev_kc, ↓ev_mv, ↓ev_pp2, ↓ev_pp1, ↓ev_tnot, ↓ev_tand, ↓ev_tor, ↓ev_vand, ↓ev_vor, ↓ev_vnot, ↓ev_vif, ↓ev_fset, ↓ev_fdo, ↓ev_frt, ↓ev_fif, ↓ev_fnx, ↓ev_fbk, ↓ev_fct, ↓ev_fno, ↓ev_fsq, ↓ev_afI, ↓ev_fasg, ↓ev_faug, ↓ev_fseti, ↓ev_fpar2, ↓ev_fcall, ↓ev_fkw, ↓ev_fmu0, ↓ev_fmu1, ↓ev_pchn, ev_acn, ↓ev_aci, z_ixN0, pick, List.getD_cons_zero, List.getD_cons_succ, eq_self, ev_gset, ev_gnil, ev_gcons, ↓ev_go, ↓ev_fl, ↓ev_flgo, ↓ev_rsgo, z_add, z_addL, z_sub, z_cmp, z_int, z_intb, z_len, z_lent, z_bl, z_int?, z_lst, z_tup, z_seq, z_neg, z_isN, z_notN, z_isNi, z_isNn, z_isNl, z_isNs, z_isNt, z_list, z_listt, z_rev, z_eqi, z_nei, z_eqs, z_nes, z_eqb, z_neb, z_ixif, z_ml0, z_ml1, z_mt1, z_ml2, z_mt2, z_ml3, z_mt3, z_ml4, z_mt4, z_ml5, z_mt5, z_ml6, z_ml7, z_ml8, z_ml9, z_ml10, z_ml11, z_ml12, z_ml13, z_ml14, z_ixl0, z_ixt0, z_ixl1, z_ixt1, z_ixl2, z_ixt2, z_ixl3, z_ixt3, z_ixl4, z_ixt4, z_ixl5, z_ixl6, z_ixl7, z_ixl8, z_ixl9, z_ixl10, z_ixl11, z_ixl12, z_ixl13, fill_nil, fill_no, fill_so, put_of, hole_nil, hole_no, hole_so, back_no, back_so, fin_rt, fin_nx, fin_ex, mix_nil, mix_sh, mix_ow, Option.map_some, Option.bind_some, Option.join_some, Option.bind_none, Option.map_none, List.getElem?_cons_zero, List.getElem?_cons_succ, List.set_cons_zero, List.set_cons_succ, List.map_nil, List.map_cons, List.append_nil, List.nil_append, List.cons_append, List.length_cons, List.length_nil, List.replicate_succ, List.replicate_zero, Nat.reduceAdd, Nat.reduceSub, ↓reduceIte, Bool.not_true, Bool.not_false, Bool.false_eq_true, Bool.true_eq_false, Int.reduceLT, Int.reduceLE, Int.reduceAdd, Int.reduceSub, Int.reduceMul, Int.reduceNeg, Int.reduceEq, decide_true, decide_false, decide_eq_true_eq, Bool.not_eq_true, decide_eq_false_iff_not, ↓ev_fraise, ↓ev_ftry, tr_nx, lose_nil, lose_cons, lose_so, z_isNx, z_tuple, sl_1]
theorem addI {a b : List Int} (h : a.length + b.length ≤ 1000) : addL (intsT a) (intsT b) = some (intsT (a ++ b)) := by
  rw [z_addL (by simpa using h), intsT, List.map_append]
theorem e_lafter (pl : Plan) (h : PlanOk pl) : ∀ (n : Nat) (place : Option Nat) (vs : List Int), vs.length < n → vs.length ≤ 1000 → okE pl.length place →
    runF [.sh, .sh, .sh] 8 (s__law_after n) [planT pl, entT place, intsT vs] = some (.ok (intsT (aft pl n place vs)) [planT pl, entT place, intsT vs])
  | 0, _, vs, hl, _, _ => by omega
  | n + 1, none, vs, _, _, _ => by
    rw [aft_none, run_ev]
    simp only [s__law_after, ↓ev_bind, ↓ev_pure, ↓ev_rd, ↓ev_lf, ↓ev_vr, ↓ev_kc, ↓ev_mv, ↓ev_pp2, ↓ev_pp1, ↓ev_tnot, ↓ev_tand, ↓ev_tor, ↓ev_vand, ↓ev_vor, ↓ev_vnot, ↓ev_vif, ↓ev_fset, ↓ev_fdo, ↓ev_frt, ↓ev_fif, ↓ev_fnx, ↓ev_fbk, ↓ev_fct, ↓ev_fno, ↓ev_fsq, ↓ev_afI, ↓ev_fasg, ↓ev_faug, ↓ev_fseti, ↓ev_fpar2, ↓ev_fcall, ↓ev_fkw, ↓ev_fmu0, ↓ev_fmu1, ↓ev_pchn, ev_acn, ↓ev_aci, z_ixN0, pick, List.getD_cons_zero, List.getD_cons_succ, eq_self, ev_gset, ev_gnil, ev_gcons, ↓ev_go, ↓ev_fl, ↓ev_flgo, ↓ev_rsgo, z_add, z_addL, z_sub, z_cmp, z_int, z_intb, z_len, z_lent, z_bl, z_int?, z_lst, z_tup, z_seq, z_neg, z_isN, z_notN, z_isNi, z_isNn, z_isNl, z_isNs, z_isNt, z_list, z_listt, z_rev, z_eqi, z_nei, z_eqs, z_nes, z_eqb, z_neb, z_ixif, z_ml0, z_ml1, z_mt1, z_ml2, z_mt2, z_ml3, z_mt3, z_ml4, z_mt4, z_ml5, z_mt5, z_ml6, z_ml7, z_ml8, z_ml9, z_ml10, z_ml11, z_ml12, z_ml13, z_ml14, z_ixl0, z_ixt0, z_ixl1, z_ixt1, z_ixl2, z_ixt2, z_ixl3, z_ixt3, z_ixl4, z_ixt4, z_ixl5, z_ixl6, z_ixl7, z_ixl8, z_ixl9, z_ixl10, z_ixl11, z_ixl12, z_ixl13, fill_nil, fill_no, fill_so, put_of, hole_nil, hole_no, hole_so, back_no, back_so, fin_rt, fin_nx, fin_ex, mix_nil, mix_sh, mix_ow, Option.map_some, Option.bind_some, Option.join_some, Option.bind_none, Option.map_none, List.getElem?_cons_zero, List.getElem?_cons_succ, List.set_cons_zero, List.set_cons_succ, List.map_nil, List.map_cons, List.append_nil, List.nil_append, List.cons_append, List.length_cons, List.length_nil, List.replicate_succ, List.replicate_zero, Nat.reduceAdd, Nat.reduceSub, ↓reduceIte, Bool.not_true, Bool.not_false, Bool.false_eq_true, Bool.true_eq_false, Int.reduceLT, Int.reduceLE, Int.reduceAdd, Int.reduceSub, Int.reduceMul, Int.reduceNeg, Int.reduceEq, decide_true, decide_false, decide_eq_true_eq, Bool.not_eq_true, decide_eq_false_iff_not, ↓ev_fraise, ↓ev_ftry, tr_nx, lose_nil, lose_cons, lose_so, z_isNx, z_tuple, ent_n]
  | n + 1, some p, [], _, _, _ => by
    have q : eqT (intsT []) (.lst []) = some (.bl true) := rfl
    have q2 : one listT [intsT []] = some (intsT []) := rfl
    rw [aft_nil, run_ev]
    simp only [s__law_after, ↓ev_bind, ↓ev_pure, ↓ev_rd, ↓ev_lf, ↓ev_vr, ↓ev_kc, ↓ev_mv, ↓ev_pp2, ↓ev_pp1, ↓ev_tnot, ↓ev_tand, ↓ev_tor, ↓ev_vand, ↓ev_vor, ↓ev_vnot, ↓ev_vif, ↓ev_fset, ↓ev_fdo, ↓ev_frt, ↓ev_fif, ↓ev_fnx, ↓ev_fbk, ↓ev_fct, ↓ev_fno, ↓ev_fsq, ↓ev_afI, ↓ev_fasg, ↓ev_faug, ↓ev_fseti, ↓ev_fpar2, ↓ev_fcall, ↓ev_fkw, ↓ev_fmu0, ↓ev_fmu1, ↓ev_pchn, ev_acn, ↓ev_aci, z_ixN0, pick, List.getD_cons_zero, List.getD_cons_succ, eq_self, ev_gset, ev_gnil, ev_gcons, ↓ev_go, ↓ev_fl, ↓ev_flgo, ↓ev_rsgo, z_add, z_addL, z_sub, z_cmp, z_int, z_intb, z_len, z_lent, z_bl, z_int?, z_lst, z_tup, z_seq, z_neg, z_isN, z_notN, z_isNi, z_isNn, z_isNl, z_isNs, z_isNt, z_list, z_listt, z_rev, z_eqi, z_nei, z_eqs, z_nes, z_eqb, z_neb, z_ixif, z_ml0, z_ml1, z_mt1, z_ml2, z_mt2, z_ml3, z_mt3, z_ml4, z_mt4, z_ml5, z_mt5, z_ml6, z_ml7, z_ml8, z_ml9, z_ml10, z_ml11, z_ml12, z_ml13, z_ml14, z_ixl0, z_ixt0, z_ixl1, z_ixt1, z_ixl2, z_ixt2, z_ixl3, z_ixt3, z_ixl4, z_ixt4, z_ixl5, z_ixl6, z_ixl7, z_ixl8, z_ixl9, z_ixl10, z_ixl11, z_ixl12, z_ixl13, fill_nil, fill_no, fill_so, put_of, hole_nil, hole_no, hole_so, back_no, back_so, fin_rt, fin_nx, fin_ex, mix_nil, mix_sh, mix_ow, Option.map_some, Option.bind_some, Option.join_some, Option.bind_none, Option.map_none, List.getElem?_cons_zero, List.getElem?_cons_succ, List.set_cons_zero, List.set_cons_succ, List.map_nil, List.map_cons, List.append_nil, List.nil_append, List.cons_append, List.length_cons, List.length_nil, List.replicate_succ, List.replicate_zero, Nat.reduceAdd, Nat.reduceSub, ↓reduceIte, Bool.not_true, Bool.not_false, Bool.false_eq_true, Bool.true_eq_false, Int.reduceLT, Int.reduceLE, Int.reduceAdd, Int.reduceSub, Int.reduceMul, Int.reduceNeg, Int.reduceEq, decide_true, decide_false, decide_eq_true_eq, Bool.not_eq_true, decide_eq_false_iff_not, ↓ev_fraise, ↓ev_ftry, tr_nx, lose_nil, lose_cons, lose_so, z_isNx, z_tuple, ent_s, q, q2]
  | n + 1, some p, v :: r, hl, hk, hp => by
    have hpl : p < pl.length := hp p rfl
    have ix := ent_ix pl p hpl
    simp only [List.length_cons] at hl hk
    have l1 : (r.filter fun x => decide (x < v)).length ≤ r.length := List.length_filter_le _ _
    have l2 : (r.filter fun x => decide (v ≤ x)).length ≤ r.length := List.length_filter_le _ _
    have i1 := e_lafter pl h n (entAt pl p).1 (r.filter fun x => decide (x < v)) (by omega) (by omega) (ent_ok1 pl h p hpl)
    have i2 := e_lafter pl h n (entAt pl p).2 (r.filter fun x => decide (v ≤ x)) (by omega) (by omega) (ent_ok2 pl h p hpl)
    have tst : eqT (intsT (v :: r)) (.lst []) = some (.bl false) := by
      have := eqT_of eqf_ints pl_ints (v :: r) []
      rw [decide_eq_false (by simp)] at this
      exact this
    have pn := parts_len v r
    have c1 := fun a3 a4 a5 a6 => e_laf_C1 (some (planT pl)) (some (.int (p : Int))) v r (by omega) a3 a4 a5 a6
    have c2 := fun a3 a4 a5 a6 => e_laf_C2 (some (planT pl)) (some (.int (p : Int))) v r (by omega) a3 a4 a5 a6
    have ad1 := addI (a := aft pl n (entAt pl p).1 (r.filter fun x => decide (x < v))) (b := [v]) (by rw [aft_len]; simp; omega)
    have ad2 := addI (a := aft pl n (entAt pl p).1 (r.filter fun x => decide (x < v)) ++ [v]) (b := aft pl n (entAt pl p).2 (r.filter fun x => decide (v ≤ x))) (by simp [aft_len]; omega)
    have sh := sl_h v r
    have fin : intsT (aft pl (n + 1) (some p) (v :: r)) = intsT (aft pl n (entAt pl p).1 (r.filter fun x => decide (x < v)) ++ [v] ++ aft pl n (entAt pl p).2 (r.filter fun x => decide (v ≤ x))) := by
      rw [aft]
      simp [intsT]
    rw [fin, run_ev]
    generalize (entAt pl p) = ab at *
    obtain ⟨ea, eb⟩ := ab
    dsimp only at i1 i2
    have gt : ∀ E : Tr.Env, gtup 2 (gcons (gset 3) (gcons (gset 4) gnil)) (pairT (ea, eb)) E = some ((E.set 3 (some (entT ea))).set 4 (some (entT eb))) := fun _ => rfl
    generalize hA : aft pl n ea (r.filter fun x => decide (x < v)) = A at *
    generalize hB : aft pl n eb (r.filter fun x => decide (v ≤ x)) = B at *
    generalize hT : intsT (v :: r) = VT at *
    simp only [s__law_after, ↓ev_bind, ↓ev_pure, ↓ev_rd, ↓ev_lf, ↓ev_vr, ↓ev_kc, ↓ev_mv, ↓ev_pp2, ↓ev_pp1, ↓ev_tnot, ↓ev_tand, ↓ev_tor, ↓ev_vand, ↓ev_vor, ↓ev_vnot, ↓ev_vif, ↓ev_fset, ↓ev_fdo, ↓ev_frt, ↓ev_fif, ↓ev_fnx, ↓ev_fbk, ↓ev_fct, ↓ev_fno, ↓ev_fsq, ↓ev_afI, ↓ev_fasg, ↓ev_faug, ↓ev_fseti, ↓ev_fpar2, ↓ev_fcall, ↓ev_fkw, ↓ev_fmu0, ↓ev_fmu1, ↓ev_pchn, ev_acn, ↓ev_aci, z_ixN0, pick, List.getD_cons_zero, List.getD_cons_succ, eq_self, ev_gset, ev_gnil, ev_gcons, ↓ev_go, ↓ev_fl, ↓ev_flgo, ↓ev_rsgo, z_add, z_addL, z_sub, z_cmp, z_int, z_intb, z_len, z_lent, z_bl, z_int?, z_lst, z_tup, z_seq, z_neg, z_isN, z_notN, z_isNi, z_isNn, z_isNl, z_isNs, z_isNt, z_list, z_listt, z_rev, z_eqi, z_nei, z_eqs, z_nes, z_eqb, z_neb, z_ixif, z_ml0, z_ml1, z_mt1, z_ml2, z_mt2, z_ml3, z_mt3, z_ml4, z_mt4, z_ml5, z_mt5, z_ml6, z_ml7, z_ml8, z_ml9, z_ml10, z_ml11, z_ml12, z_ml13, z_ml14, z_ixl0, z_ixt0, z_ixl1, z_ixt1, z_ixl2, z_ixt2, z_ixl3, z_ixt3, z_ixl4, z_ixt4, z_ixl5, z_ixl6, z_ixl7, z_ixl8, z_ixl9, z_ixl10, z_ixl11, z_ixl12, z_ixl13, fill_nil, fill_no, fill_so, put_of, hole_nil, hole_no, hole_so, back_no, back_so, fin_rt, fin_nx, fin_ex, mix_nil, mix_sh, mix_ow, Option.map_some, Option.bind_some, Option.join_some, Option.bind_none, Option.map_none, List.getElem?_cons_zero, List.getElem?_cons_succ, List.set_cons_zero, List.set_cons_succ, List.map_nil, List.map_cons, List.append_nil, List.nil_append, List.cons_append, List.length_cons, List.length_nil, List.replicate_succ, List.replicate_zero, Nat.reduceAdd, Nat.reduceSub, ↓reduceIte, Bool.not_true, Bool.not_false, Bool.false_eq_true, Bool.true_eq_false, Int.reduceLT, Int.reduceLE, Int.reduceAdd, Int.reduceSub, Int.reduceMul, Int.reduceNeg, Int.reduceEq, decide_true, decide_false, decide_eq_true_eq, Bool.not_eq_true, decide_eq_false_iff_not, ↓ev_fraise, ↓ev_ftry, tr_nx, lose_nil, lose_cons, lose_so, z_isNx, z_tuple, ent_s, tst, ix, gt, c1, c2, i1, i2, sh, ad1, ad2]
theorem e_lonce (pl : Plan) (h : PlanOk pl) (vs : List Int) (h60 : vs.length ≤ 62) : runF [.sh, .sh] 2 s__law_once [planT pl, intsT vs] = some (.ok (intsT (onc pl vs)) [planT pl, intsT vs]) := by
  have e := e_lafter pl h 70 (begM pl) vs (by omega) (by omega) (begM_ok pl)
  have q : neT (planT pl) (.lst []) = some (.bl (!decide (pl = []))) := neT_of eqf_plan pl_plan pl []
  rw [run_ev]
  by_cases hp : pl = []
  · have o : onc pl vs = vs := by rw [onc, begM, if_pos hp, aft_none]
    rw [decide_eq_true hp] at q
    simp only [s__law_once, ↓ev_bind, ↓ev_pure, ↓ev_rd, ↓ev_lf, ↓ev_vr, ↓ev_kc, ↓ev_mv, ↓ev_pp2, ↓ev_pp1, ↓ev_tnot, ↓ev_tand, ↓ev_tor, ↓ev_vand, ↓ev_vor, ↓ev_vnot, ↓ev_vif, ↓ev_fset, ↓ev_fdo, ↓ev_frt, ↓ev_fif, ↓ev_fnx, ↓ev_fbk, ↓ev_fct, ↓ev_fno, ↓ev_fsq, ↓ev_afI, ↓ev_fasg, ↓ev_faug, ↓ev_fseti, ↓ev_fpar2, ↓ev_fcall, ↓ev_fkw, ↓ev_fmu0, ↓ev_fmu1, ↓ev_pchn, ev_acn, ↓ev_aci, z_ixN0, pick, List.getD_cons_zero, List.getD_cons_succ, eq_self, ev_gset, ev_gnil, ev_gcons, ↓ev_go, ↓ev_fl, ↓ev_flgo, ↓ev_rsgo, z_add, z_addL, z_sub, z_cmp, z_int, z_intb, z_len, z_lent, z_bl, z_int?, z_lst, z_tup, z_seq, z_neg, z_isN, z_notN, z_isNi, z_isNn, z_isNl, z_isNs, z_isNt, z_list, z_listt, z_rev, z_eqi, z_nei, z_eqs, z_nes, z_eqb, z_neb, z_ixif, z_ml0, z_ml1, z_mt1, z_ml2, z_mt2, z_ml3, z_mt3, z_ml4, z_mt4, z_ml5, z_mt5, z_ml6, z_ml7, z_ml8, z_ml9, z_ml10, z_ml11, z_ml12, z_ml13, z_ml14, z_ixl0, z_ixt0, z_ixl1, z_ixt1, z_ixl2, z_ixt2, z_ixl3, z_ixt3, z_ixl4, z_ixt4, z_ixl5, z_ixl6, z_ixl7, z_ixl8, z_ixl9, z_ixl10, z_ixl11, z_ixl12, z_ixl13, fill_nil, fill_no, fill_so, put_of, hole_nil, hole_no, hole_so, back_no, back_so, fin_rt, fin_nx, fin_ex, mix_nil, mix_sh, mix_ow, Option.map_some, Option.bind_some, Option.join_some, Option.bind_none, Option.map_none, List.getElem?_cons_zero, List.getElem?_cons_succ, List.set_cons_zero, List.set_cons_succ, List.map_nil, List.map_cons, List.append_nil, List.nil_append, List.cons_append, List.length_cons, List.length_nil, List.replicate_succ, List.replicate_zero, Nat.reduceAdd, Nat.reduceSub, ↓reduceIte, Bool.not_true, Bool.not_false, Bool.false_eq_true, Bool.true_eq_false, Int.reduceLT, Int.reduceLE, Int.reduceAdd, Int.reduceSub, Int.reduceMul, Int.reduceNeg, Int.reduceEq, decide_true, decide_false, decide_eq_true_eq, Bool.not_eq_true, decide_eq_false_iff_not, ↓ev_fraise, ↓ev_ftry, tr_nx, lose_nil, lose_cons, lose_so, z_isNx, z_tuple, q, o]
  · rw [begM, if_neg hp, ent_s] at e
    have o : onc pl vs = aft pl 70 (some 0) vs := by rw [onc, begM, if_neg hp]
    have e' : runF [.sh, .sh, .sh] 8 (s__law_after 70) [planT pl, .int 0, intsT vs] = some (.ok (intsT (aft pl 70 (some 0) vs)) [planT pl, .int 0, intsT vs]) := e
    rw [decide_eq_false hp] at q
    simp only [s__law_once, ↓ev_bind, ↓ev_pure, ↓ev_rd, ↓ev_lf, ↓ev_vr, ↓ev_kc, ↓ev_mv, ↓ev_pp2, ↓ev_pp1, ↓ev_tnot, ↓ev_tand, ↓ev_tor, ↓ev_vand, ↓ev_vor, ↓ev_vnot, ↓ev_vif, ↓ev_fset, ↓ev_fdo, ↓ev_frt, ↓ev_fif, ↓ev_fnx, ↓ev_fbk, ↓ev_fct, ↓ev_fno, ↓ev_fsq, ↓ev_afI, ↓ev_fasg, ↓ev_faug, ↓ev_fseti, ↓ev_fpar2, ↓ev_fcall, ↓ev_fkw, ↓ev_fmu0, ↓ev_fmu1, ↓ev_pchn, ev_acn, ↓ev_aci, z_ixN0, pick, List.getD_cons_zero, List.getD_cons_succ, eq_self, ev_gset, ev_gnil, ev_gcons, ↓ev_go, ↓ev_fl, ↓ev_flgo, ↓ev_rsgo, z_add, z_addL, z_sub, z_cmp, z_int, z_intb, z_len, z_lent, z_bl, z_int?, z_lst, z_tup, z_seq, z_neg, z_isN, z_notN, z_isNi, z_isNn, z_isNl, z_isNs, z_isNt, z_list, z_listt, z_rev, z_eqi, z_nei, z_eqs, z_nes, z_eqb, z_neb, z_ixif, z_ml0, z_ml1, z_mt1, z_ml2, z_mt2, z_ml3, z_mt3, z_ml4, z_mt4, z_ml5, z_mt5, z_ml6, z_ml7, z_ml8, z_ml9, z_ml10, z_ml11, z_ml12, z_ml13, z_ml14, z_ixl0, z_ixt0, z_ixl1, z_ixt1, z_ixl2, z_ixt2, z_ixl3, z_ixt3, z_ixl4, z_ixt4, z_ixl5, z_ixl6, z_ixl7, z_ixl8, z_ixl9, z_ixl10, z_ixl11, z_ixl12, z_ixl13, fill_nil, fill_no, fill_so, put_of, hole_nil, hole_no, hole_so, back_no, back_so, fin_rt, fin_nx, fin_ex, mix_nil, mix_sh, mix_ow, Option.map_some, Option.bind_some, Option.join_some, Option.bind_none, Option.map_none, List.getElem?_cons_zero, List.getElem?_cons_succ, List.set_cons_zero, List.set_cons_succ, List.map_nil, List.map_cons, List.append_nil, List.nil_append, List.cons_append, List.length_cons, List.length_nil, List.replicate_succ, List.replicate_zero, Nat.reduceAdd, Nat.reduceSub, ↓reduceIte, Bool.not_true, Bool.not_false, Bool.false_eq_true, Bool.true_eq_false, Int.reduceLT, Int.reduceLE, Int.reduceAdd, Int.reduceSub, Int.reduceMul, Int.reduceNeg, Int.reduceEq, decide_true, decide_false, decide_eq_true_eq, Bool.not_eq_true, decide_eq_false_iff_not, ↓ev_fraise, ↓ev_ftry, tr_nx, lose_nil, lose_cons, lose_so, z_isNx, z_tuple, q, o, e']

theorem e_once (pl : Plan) (h : PlanOk pl) (vs : List Int) (h60 : vs.length ≤ 60) : runF [.sh, .ow .sh] 2 s_once [planT pl, intsT vs] = some (.ok (intsT (onc pl vs)) [planT pl, intsT vs]) := by
  let E : Tr.Env := [some (planT pl), some (intsT vs)]
  have c0 : fcall ([none] ++ ([] : List T).map fun _ => none) (runF [.sh] 1 s_begin_of) ([planT pl] ++ []) E = some (.ok (entT (begM pl)) E) := call_ok (us := [planT pl]) (by rfl) (e_begin_of pl) (by rfl)
  have c1 : fcall ([none, none, some 1] ++ ([] : List T).map fun _ => none) (runF [.sh, .sh, .ow .sh] 9 (s_after 70)) ([planT pl, entT (begM pl), .non] ++ []) E = some (.ok (intsT (onc pl vs)) E) := call_ok (us := [planT pl, entT (begM pl), intsT vs]) (by rfl) (e_after pl h 70 (begM pl) vs (by omega) h60 (begM_ok pl)) (by rfl)
  refine run_rt (E0 := E) (E := E) rfl (rt_ok (bd (a := [planT pl, entT (begM pl), .non]) (E1 := E) ?_ c1)) rfl
  exact bd (a := planT pl) (E1 := E) (by rfl) (bd (a := [entT (begM pl), .non]) (E1 := E) (bd (a := entT (begM pl)) (E1 := E) (bd (a := [planT pl]) (E1 := E) (by rfl) c0) (by rfl)) (by rfl))

/-- so many passes -/
def pss (pl : Plan) : Nat → List Int → List Int
  | 0, vs => vs
  | n + 1, vs => pss pl n (onc pl vs)
theorem pss_len (pl : Plan) : ∀ (n : Nat) (vs : List Int), (pss pl n vs).length = vs.length
  | 0, _ => rfl
  | n + 1, vs => by rw [pss, pss_len pl n, onc_len]
theorem pss_stay (pl : Plan) {vs : List Int} (h : onc pl vs = vs) : ∀ n : Nat, pss pl n vs = vs
  | 0 => rfl
  | n + 1 => by rw [pss, h, pss_stay pl h n]
theorem pss_succ (pl : Plan) : ∀ (n : Nat) (vs : List Int), pss pl (n + 1) vs = onc pl (pss pl n vs)
  | 0, _ => rfl
  | n + 1, vs => by
    rw [pss, pss_succ pl n, pss]

theorem e_passes_L (pl : Plan) (h : PlanOk pl) (b c : Option T) : ∀ (l : List T) (t : List Int) (x y : Option T), t.length ≤ 60 →
    (∃ z' x' y', ffor (gset 4) s_after_passes_L1 l [some (planT pl), b, c, some (intsT t), x, y] = some (.rt (intsT (pss pl l.length t)) [some (planT pl), b, c, z', x', y'])) ∨
    (∃ x' y', ffor (gset 4) s_after_passes_L1 l [some (planT pl), b, c, some (intsT t), x, y] = some (.nx [some (planT pl), b, c, some (intsT (pss pl l.length t)), x', y']))
  | [], t, x, y, _ => .inr ⟨x, y, rfl⟩
  | u :: l, t, x, y, ht => by
    let E : Tr.Env := [some (planT pl), b, c, some (intsT t), some u, y]
    let E2 : Tr.Env := [some (planT pl), b, c, some (intsT t), some u, some (intsT (onc pl t))]
    have c1 : fcall ([none, some 3] ++ ([] : List T).map fun _ => none) (runF [.sh, .ow .sh] 2 s_once) ([planT pl, .non] ++ []) E = some (.ok (intsT (onc pl t)) E) := call_ok (us := [planT pl, intsT t]) (by rfl) (e_once pl h t ht) (by rfl)
    have q : eqT (intsT (onc pl t)) (intsT t) = some (.bl (decide (onc pl t = t))) := eqT_of eqf_ints pl_ints _ _
    have tst : (F0.bind (F0.bind (rd (vr 5)) fun a => F0.bind (rd (vr 3)) fun b => lf (eqT a) b) (lf T.bl?)) E2 = some (.ok (decide (onc pl t = t)) E2) := bl_v (bd (a := intsT (onc pl t)) (E1 := E2) (by rfl) (bd (a := intsT t) (E1 := E2) (by rfl) (lf_ok q)))
    have first : ∀ g : S0, fsq (fset 5 (F0.bind (F0.bind (rd (vr 0)) fun a => F0.bind (fun E => (vr 3 E).bind fun _ => (F0.bind (F0.pure []) fun b => F0.pure (.non :: b)) E) fun b => F0.pure (a :: b)) fun ts => fcall ([none, some 3] ++ ([] : List T).map fun _ => none) (runF [.sh, .ow .sh] 2 s_once) (ts ++ []))) g E = g E2 := fun g =>
      sq_nx (E1 := E2) (set_ok (t := intsT (onc pl t)) (E1 := E) (bd (a := [planT pl, .non]) (E1 := E) (by rfl) c1)) rfl
    by_cases e : onc pl t = t
    · left
      rw [decide_eq_true e] at tst
      have body : s_after_passes_L1 E = some (.rt (intsT t) [some (planT pl), b, c, none, some u, some (intsT (onc pl t))]) := by
        unfold s_after_passes_L1
        rw [first]
        exact sq_rt (if_t tst (rt_ok (by rfl)))
      refine ⟨none, some u, some (intsT (onc pl t)), ?_⟩
      rw [List.length_cons, pss_stay pl e]
      unfold ffor
      show (match s_after_passes_L1 E with
        | some (.nx E2) => ffor (gset 4) s_after_passes_L1 l E2
        | some (.ct E2) => ffor (gset 4) s_after_passes_L1 l E2
        | some (.bk E2) => some (.nx E2)
        | r => r) = _
      rw [body]
    · rw [decide_eq_false e] at tst
      have body : s_after_passes_L1 E = some (.nx [some (planT pl), b, c, some (intsT (onc pl t)), some u, none]) := by
        unfold s_after_passes_L1
        rw [first]
        exact sq_nx (if_f tst (by rfl)) (set_ok (t := intsT (onc pl t)) (E1 := [some (planT pl), b, c, some (intsT t), some u, none]) (by rfl))
      have ih := e_passes_L pl h b c l (onc pl t) (some u) none (by rw [onc_len]; exact ht)
      have step : ffor (gset 4) s_after_passes_L1 (u :: l) [some (planT pl), b, c, some (intsT t), x, y] = ffor (gset 4) s_after_passes_L1 l [some (planT pl), b, c, some (intsT (onc pl t)), some u, none] := by
        rw [ffor]
        show (match s_after_passes_L1 E with
          | some (.nx E2) => ffor (gset 4) s_after_passes_L1 l E2
          | some (.ct E2) => ffor (gset 4) s_after_passes_L1 l E2
          | some (.bk E2) => some (.nx E2)
          | r => r) = _
        rw [body]
      rw [step, List.length_cons, pss]
      exact ih
theorem e_after_passes (pl : Plan) (h : PlanOk pl) (vs : List Int) (h60 : vs.length ≤ 60) (k : Nat) (hk : k ≤ 60) : runF [.sh, .sh, .sh] 6 s_after_passes [planT pl, intsT vs, .int (k : Int)] = some (.ok (intsT (pss pl k vs)) [planT pl, intsT vs, .int (k : Int)]) := by
  let E : Tr.Env := [some (planT pl), some (intsT vs), some (.int (k : Int)), some (intsT vs), none, none]
  have hl : (rngT 0 k).length = k := by simp [rngT]
  have rg : (F0.bind (rd (vr 2)) (lf fun t => rng1 [t])) E = some (.ok (rngT 0 k) E) := by
    refine bd (a := .int (k : Int)) (E1 := E) (by rfl) (lf_ok ?_)
    show (if (k : Int).natAbs < 2 ^ 61 then some (rngT 0 (k : Int).toNat) else none) = _
    rw [if_pos (by omega), Int.toNat_natCast]
  have s1 : fset 3 (F0.bind (F0.bind (rd (vr 1)) fun a => F0.bind (F0.pure []) fun b => F0.pure (a :: b)) (lf (one listT))) [some (planT pl), some (intsT vs), some (.int (k : Int)), none, none, none] = some (.nx E) := set_ok (t := intsT vs) (E1 := [some (planT pl), some (intsT vs), some (.int (k : Int)), none, none, none]) (by rfl)
  rcases e_passes_L pl h (some (intsT vs)) (some (.int (k : Int))) (rngT 0 k) vs none none h60 with ⟨z', x', y', e⟩ | ⟨x', y', e⟩
  · rw [hl] at e
    exact run_rt (E0 := [some (planT pl), some (intsT vs), some (.int (k : Int)), none, none, none]) (E := [some (planT pl), some (intsT vs), some (.int (k : Int)), z', x', y']) rfl (sq_nx s1 (sq_rt (for_ok rg e))) rfl
  · rw [hl] at e
    exact run_rt (E0 := [some (planT pl), some (intsT vs), some (.int (k : Int)), none, none, none]) (E := [some (planT pl), some (intsT vs), some (.int (k : Int)), none, x', y']) rfl (sq_nx s1 (sq_nx (for_ok rg e) (rt_ok (by rfl)))) rfl
theorem e_carried_out (pl : Plan) (h : PlanOk pl) (vs : List Int) (h60 : vs.length ≤ 60) (k : Nat) (hk : k ≤ 60) : runF [.sh, .sh, .sh] 3 s_carried_out [planT pl, intsT vs, .int (k : Int)] = some (.ok (intsT (pss pl k vs)) [planT pl, intsT vs, .int (k : Int)]) := by
  let E : Tr.Env := [some (planT pl), some (intsT vs), some (.int (k : Int))]
  have c1 := e_check_plan pl h
  have c2 := e_check_values vs h60
  have c3 := e_check_passes k hk
  have c4 := e_after_passes pl h vs h60 k hk
  refine run_rt (E0 := E) (E := E) rfl ?_ rfl
  refine sq_nx (E1 := E) (do_ok (t := .non) (bd (a := [planT pl]) (E1 := E) (by rfl) (call_ok (us := [planT pl]) (by rfl) c1 (by rfl)))) ?_
  refine sq_nx (E1 := E) (do_ok (t := .non) (bd (a := [intsT vs]) (E1 := E) (by rfl) (call_ok (us := [intsT vs]) (by rfl) c2 (by rfl)))) ?_
  refine sq_nx (E1 := E) (do_ok (t := .non) (bd (a := [.int (k : Int)]) (E1 := E) (by rfl) (call_ok (us := [.int (k : Int)]) (by rfl) c3 (by rfl)))) ?_
  exact rt_ok (bd (a := [planT pl, intsT vs, .int (k : Int)]) (E1 := E) (by rfl) (call_ok (us := [planT pl, intsT vs, .int (k : Int)]) (by rfl) c4 (by rfl)))

/-! ### what repr shows of plans and lists -/
theorem parts_mem (v x : Int) (r : List Int) (f : Int → Bool) : x ∈ r.filter f → x ∈ r := fun h => (List.mem_filter.mp h).1
theorem filter_two_perm (v : Int) : ∀ r : List Int, ((r.filter fun x => decide (x < v)) ++ (r.filter fun x => decide (v ≤ x))).Perm r
  | [] => List.Perm.refl _
  | x :: r => by
    have ih := filter_two_perm v r
    by_cases h : x < v
    · have h2 : ¬ v ≤ x := by omega
      simp only [List.filter_cons, h, h2, decide_true, decide_false, if_true, Bool.false_eq_true, if_false, List.cons_append]
      exact ih.cons x
    · have h2 : v ≤ x := by omega
      simp only [List.filter_cons, h, h2, decide_true, decide_false, if_true, Bool.false_eq_true, if_false]
      exact List.perm_middle.trans (ih.cons x)
theorem sw_ent {n : Nat} (e : Option Nat) (h : okE n e) (hn : n ≤ 1000) : Sw 41 0 (entT e) := by
  cases e with
  | none => exact Sw.non.le (by decide) (by decide)
  | some i =>
    have := h i rfl
    exact Sw.int (by omega)
theorem sw_plan {pl : Plan} (h : PlanOk pl) : Sw 1200 2 (planT pl) :=
  (Sw.lstl (n := 89) (d := 1) (m := 12) (fun t ht => by
    obtain ⟨p, hp, rfl⟩ := List.mem_map.mp ht
    exact Sw.t2 (sw_ent p.1 (h.fst p hp) (by have := h.few; omega)) (sw_ent p.2 (h.snd p hp) (by have := h.few; omega))) (by simpa using h.few)).le (by decide) (by decide)

theorem sw_int (v : Int) (h : small v) : Sw 41 0 (.int v) := Sw.int (Nat.lt_trans h (by decide))
theorem sw_ints {vs : List Int} (h : ∀ v ∈ vs, small v) (l : vs.length ≤ 60) : Sw 2700 1 (intsT vs) :=
  (Sw.lstl (n := 41) (d := 0) (m := 60) (fun t ht => by
    obtain ⟨v, hv, rfl⟩ := List.mem_map.mp ht
    exact sw_int v (h v hv)) (by simpa using l)).le (by decide) (by decide)

theorem aft_perm (pl : Plan) : ∀ (n : Nat) (p : Option Nat) (vs : List Int), (aft pl n p vs).Perm vs
  | n, none, vs => by rw [aft_none]
  | n, some p, [] => by rw [aft_nil]
  | 0, some p, v :: r => List.Perm.refl _
  | n + 1, some p, v :: r => by
    rw [aft]
    exact List.perm_middle.trans ((((aft_perm pl n _ _).append (aft_perm pl n _ _)).trans (filter_two_perm v r)).cons v)
theorem onc_perm (pl : Plan) (vs : List Int) : (onc pl vs).Perm vs := aft_perm pl 70 _ vs
theorem pss_perm (pl : Plan) : ∀ (n : Nat) (vs : List Int), (pss pl n vs).Perm vs
  | 0, _ => List.Perm.refl _
  | n + 1, vs => (pss_perm pl n _).trans (onc_perm pl vs)

end Law

end
section
set_option maxHeartbeats 4000000
namespace Law
open PySem PySem.Spec PyProof.Rows L2 Tr
theorem ev_gt2 {i j : Nat} {a b : T} {E : Tr.Env} : gtup 2 (gcons (gset i) (gcons (gset j) gnil)) (.tup [a, b]) E = some ((E.set i (some a)).set j (some b)) := rfl

/-! ### pairs out of order -/
def lows (v : Int) (r : List Int) : Nat := (r.filter fun x => decide (x < v)).length
def dis : List Int → Nat
  | [] => 0
  | v :: r => lows v r + dis r
theorem lows_app (v : Int) (a b : List Int) : lows v (a ++ b) = lows v a + lows v b := by simp [lows]
theorem lows_perm (v : Int) {a b : List Int} (h : a.Perm b) : lows v a = lows v b := (h.filter _).length_eq
theorem lows_zero (v : Int) {a : List Int} (h : ∀ x ∈ a, v ≤ x) : lows v a = 0 := by
  unfold lows
  rw [List.filter_eq_nil_iff.mpr fun x hx => by have := h x hx; simp; omega]
  rfl
theorem lows_le (v : Int) (f : Int → Bool) (r : List Int) : lows v (r.filter f) ≤ lows v r := by
  exact ((List.filter_sublist (p := f) (l := r)).filter _).length_le
/-- all of a less than all of b -/
theorem dis_app {a b : List Int} (h : ∀ x ∈ a, ∀ y ∈ b, x ≤ y) : dis (a ++ b) = dis a + dis b := by
  induction a with
  | nil => simp [dis]
  | cons x a ih =>
    rw [List.cons_append, dis, dis, ih (fun x hx => h x (List.mem_cons_of_mem _ hx)), lows_app, lows_zero x (a := b) (fun y hy => h x List.mem_cons_self y hy)]
    omega
theorem dis_two (v : Int) : ∀ r : List Int, dis (r.filter fun x => decide (x < v)) + dis (r.filter fun x => decide (v ≤ x)) ≤ dis r
  | [] => by simp [dis]
  | x :: r => by
    have ih := dis_two v r
    by_cases h : x < v
    · have h2 : ¬ v ≤ x := by omega
      simp only [List.filter_cons, h, h2, decide_true, decide_false, if_true, Bool.false_eq_true, if_false, dis]
      have := lows_le x (fun x => decide (x < v)) r
      omega
    · have h2 : v ≤ x := by omega
      simp only [List.filter_cons, h, h2, decide_true, decide_false, if_true, Bool.false_eq_true, if_false, dis]
      have := lows_le x (fun x => decide (v ≤ x)) r
      omega
theorem dis_parts {a b r : List Int} {v : Int} (ha : a.Perm (r.filter fun x => decide (x < v))) (hb : b.Perm (r.filter fun x => decide (v ≤ x))) : dis (a ++ v :: b) = dis a + dis b := by
  have ha' : ∀ x ∈ a, x < v := fun x hx => by have := ha.mem_iff.mp hx; simp at this; exact this.2
  have hb' : ∀ x ∈ b, v ≤ x := fun x hx => by have := hb.mem_iff.mp hx; simp at this; exact this.2
  rw [dis_app (fun x hx y hy => ?_), dis, lows_zero v hb', Nat.zero_add]
  have := ha' x hx
  rcases List.mem_cons.mp hy with e | e
  · omega
  · have := hb' y e; omega
theorem lows_none {v : Int} {r : List Int} (h : lows v r = 0) : (r.filter fun x => decide (x < v)) = [] ∧ (r.filter fun x => decide (v ≤ x)) = r := by
  have h1 := List.length_eq_zero_iff.mp h
  refine ⟨h1, List.filter_eq_self.mpr fun x hx => ?_⟩
  have := List.filter_eq_nil_iff.mp h1 x hx
  simp at this ⊢
  exact this
/-- a pass changes nothing, or leaves fewer pairs out of order -/
theorem aft_dis (pl : Plan) : ∀ (n : Nat) (p : Option Nat) (vs : List Int), aft pl n p vs = vs ∨ dis (aft pl n p vs) < dis vs
  | n, none, vs => .inl (aft_none pl n vs)
  | n, some p, [] => .inl (aft_nil pl n _)
  | 0, some p, v :: r => .inl rfl
  | n + 1, some p, v :: r => by
    rw [aft, dis_parts (aft_perm pl n _ _) (aft_perm pl n _ _), dis]
    have two := dis_two v r
    have i1 := aft_dis pl n (entAt pl p).1 (r.filter fun x => decide (x < v))
    have i2 := aft_dis pl n (entAt pl p).2 (r.filter fun x => decide (v ≤ x))
    by_cases h : lows v r = 0
    · obtain ⟨h1, h2⟩ := lows_none h
      rw [h2] at i2
      rw [h1, h2, aft_nil]
      rcases i2 with i2 | i2
      · rw [i2]
        exact .inl rfl
      · right
        simp [dis]
        omega
    · right
      have l1 : dis (aft pl n (entAt pl p).1 (r.filter fun x => decide (x < v))) ≤ dis (r.filter fun x => decide (x < v)) := by
        rcases i1 with i1 | i1
        · rw [i1]; exact Nat.le_refl _
        · omega
      have l2 : dis (aft pl n (entAt pl p).2 (r.filter fun x => decide (v ≤ x))) ≤ dis (r.filter fun x => decide (v ≤ x)) := by
        rcases i2 with i2 | i2
        · rw [i2]; exact Nat.le_refl _
        · omega
      omega
theorem onc_dis (pl : Plan) (vs : List Int) : onc pl vs = vs ∨ dis (onc pl vs) < dis vs := aft_dis pl 70 _ vs
theorem lows_bd (v : Int) (r : List Int) : lows v r ≤ r.length := List.length_filter_le _ _
theorem dis_bd : ∀ (vs : List Int) (n : Nat), vs.length ≤ n → dis vs ≤ vs.length * n
  | [], n, _ => by simp [dis]
  | v :: r, n, h => by
    have := dis_bd r n (by simp at h; omega)
    have := lows_bd v r
    simp only [List.length_cons] at h
    rw [dis, List.length_cons, Nat.succ_mul]
    omega
/-- the passes that change something -/
def nps (pl : Plan) : Nat → List Int → Nat
  | 0, _ => 0
  | n + 1, vs => if onc pl vs = vs then 0 else nps pl n (onc pl vs) + 1

/-! ### falling records -/
def frec (x : Int) : Option Int → List Int → Nat
  | _, [] => 0
  | m, v :: l => if x < v ∧ (∀ a, m = some a → v < a) then frec x (some v) l + 1 else frec x m l
def lrec : List Int → List Int → Nat
  | _, [] => 0
  | b, v :: l => (if b.filter (fun y => decide (y ≤ v)) = [] then 1 else 0) + lrec (b ++ [v]) l
def LeastOf (m : Option Int) (b : List Int) : Prop := (∀ y ∈ b, ∃ a, m = some a ∧ a ≤ y) ∧ ∀ a, m = some a → a ∈ b
theorem least_test {m : Option Int} {b : List Int} (h : LeastOf m b) (v : Int) : b.filter (fun y => decide (y ≤ v)) = [] ↔ ∀ a, m = some a → v < a := by
  rw [List.filter_eq_nil_iff]
  constructor
  · intro q a e
    have := q a (h.2 a e)
    simp at this
    exact this
  · intro q y hy
    obtain ⟨a, e, l⟩ := h.1 y hy
    have := q a e
    simp
    omega
theorem lrec_frec (x : Int) : ∀ (l : List Int) (m : Option Int) (b : List Int), LeastOf m b → lrec b (l.filter fun v => decide (x < v)) = frec x m l
  | [], m, b, _ => rfl
  | v :: l, m, b, h => by
    by_cases hx : x < v
    · simp only [List.filter_cons, hx, decide_true, if_true, lrec, frec, true_and]
      by_cases ht : ∀ a, m = some a → v < a
      · rw [if_pos ht, if_pos ((least_test h v).mpr ht), lrec_frec x l (some v) (b ++ [v]) ⟨fun y hy => ⟨v, rfl, ?_⟩, fun a e => by cases e; simp⟩, Nat.add_comm]
        rcases List.mem_append.mp hy with z | z
        · obtain ⟨a, e, l⟩ := h.1 y z
          have := ht a e
          omega
        · simp at z; omega
      · rw [if_neg ht, if_neg (fun z => ht ((least_test h v).mp z)), lrec_frec x l m (b ++ [v]) ⟨fun y hy => ?_, fun a e => List.mem_append_left _ (h.2 a e)⟩, Nat.zero_add]
        rcases List.mem_append.mp hy with z | z
        · exact h.1 y z
        · simp at z
          subst z
          cases m with
          | none => exact absurd (fun a e => by cases e) ht
          | some a =>
            refine ⟨a, rfl, ?_⟩
            apply Classical.byContradiction
            intro q
            exact ht fun a' e => by cases e; omega
    · simp only [List.filter_cons, hx, decide_false, frec, false_and, if_false, Bool.false_eq_true]
      exact lrec_frec x l m b h
theorem rng_lrec : ∀ (l b : List Int), ((List.range l.length).filter fun i => decide ((b ++ l.take i).filter (fun y => decide (y ≤ l.getD i 0)) = [])).length = lrec b l
  | [], b => rfl
  | v :: l, b => by
    rw [List.length_cons, List.range_succ_eq_map, List.filter_cons, List.filter_map, lrec, ← rng_lrec l (b ++ [v])]
    simp only [List.take_zero, List.append_nil, List.getD_cons_zero, Function.comp_def, List.take_succ_cons, List.getD_cons_succ, List.append_assoc, List.singleton_append]
    by_cases h : b.filter (fun y => decide (y ≤ v)) = []
    · simp [h]; omega
    · simp [h]

/-! ### places -/
theorem at_ix (vs : List Int) (i : Nat) (h : i < vs.length) : ixT (intsT vs) (.int (i : Int)) = some (.int (at0 vs i)) := ix_lst (k := i) (by rw [List.getElem?_map, at0_some h]; rfl)
theorem e_check_place (vs : List Int) (i : Nat) (h : i < vs.length) : runF [.sh, .sh] 2 s_check_place [intsT vs, .int (i : Int)] = some (.ok .non [intsT vs, .int (i : Int)]) := by
  have h1 : (i : Int) < (vs.length : Int) := by omega
  have h0 : (0 : Int) ≤ (i : Int) := by omega
  rw [run_ev]
  simp only [s_check_place, ↓ev_bind, ↓ev_pure, ↓ev_rd, ↓ev_lf, ↓ev_vr, ↓ev_kc, ↓ev_mv, ↓ev_pp2, ↓ev_pp1, ↓ev_tnot, ↓ev_tand, ↓ev_tor, ↓ev_vand, ↓ev_vor, ↓ev_vnot, ↓ev_vif, ↓ev_fset, ↓ev_fdo, ↓ev_frt, ↓ev_fif, ↓ev_fnx, ↓ev_fbk, ↓ev_fct, ↓ev_fno, ↓ev_fsq, ↓ev_afI, ↓ev_fasg, ↓ev_faug, ↓ev_fseti, ↓ev_fpar2, ↓ev_fcall, ↓ev_fkw, ↓ev_fmu0, ↓ev_fmu1, ↓ev_pchn, ev_acn, ↓ev_aci, z_ixN0, pick, List.getD_cons_zero, List.getD_cons_succ, eq_self, ev_gset, ev_gnil, ev_gcons, ↓ev_go, ↓ev_fl, ↓ev_flgo, ↓ev_rsgo, z_add, z_addL, z_sub, z_cmp, z_int, z_intb, z_len, z_lent, z_bl, z_int?, z_lst, z_tup, z_seq, z_neg, z_isN, z_notN, z_isNi, z_isNn, z_isNl, z_isNs, z_isNt, z_list, z_listt, z_rev, z_eqi, z_nei, z_eqs, z_nes, z_eqb, z_neb, z_ixif, z_ml0, z_ml1, z_mt1, z_ml2, z_mt2, z_ml3, z_mt3, z_ml4, z_mt4, z_ml5, z_mt5, z_ml6, z_ml7, z_ml8, z_ml9, z_ml10, z_ml11, z_ml12, z_ml13, z_ml14, z_ixl0, z_ixt0, z_ixl1, z_ixt1, z_ixl2, z_ixt2, z_ixl3, z_ixt3, z_ixl4, z_ixt4, z_ixl5, z_ixl6, z_ixl7, z_ixl8, z_ixl9, z_ixl10, z_ixl11, z_ixl12, z_ixl13, fill_nil, fill_no, fill_so, put_of, hole_nil, hole_no, hole_so, back_no, back_so, fin_rt, fin_nx, fin_ex, mix_nil, mix_sh, mix_ow, Option.map_some, Option.bind_some, Option.join_some, Option.bind_none, Option.map_none, List.getElem?_cons_zero, List.getElem?_cons_succ, List.set_cons_zero, List.set_cons_succ, List.map_nil, List.map_cons, List.append_nil, List.nil_append, List.cons_append, List.length_cons, List.length_nil, List.replicate_succ, List.replicate_zero, Nat.reduceAdd, Nat.reduceSub, ↓reduceIte, Bool.not_true, Bool.not_false, Bool.false_eq_true, Bool.true_eq_false, Int.reduceLT, Int.reduceLE, Int.reduceAdd, Int.reduceSub, Int.reduceMul, Int.reduceNeg, Int.reduceEq, decide_true, decide_false, decide_eq_true_eq, Bool.not_eq_true, decide_eq_false_iff_not, ↓ev_fraise, ↓ev_ftry, tr_nx, lose_nil, lose_cons, lose_so, z_isNx, z_tuple, e_is_whole, h0, h1, intsT, List.length_map]

/-! ### the program's falling records -/
def optT : Option Int → T
  | none => .non
  | some a => .int a
theorem opt_s (a : Int) : optT (some a) = .int a := rfl
theorem opt_n : optT none = .non := rfl
theorem z_eqI (a b : List Int) : eqT (intsT a) (intsT b) = some (.bl (decide (a = b))) := eqT_of eqf_ints pl_ints a b
theorem z_neI (a b : List Int) : neT (intsT a) (intsT b) = some (.bl (!decide (a = b))) := neT_of eqf_ints pl_ints a b
theorem e_fa_L1 (vs : List Int) (i : Nat) (h : i < vs.length) (n : Nat) (m : Option Int) (v : Int) : s_falling_ahead_L1 [some (intsT vs), some (.int (i : Int)), some (.int (n : Int)), some (optT m), some (.int v)] =
    if at0 vs i < v ∧ (∀ a, m = some a → v < a) then some (.nx [some (intsT vs), some (.int (i : Int)), some (.int ((n + 1 : Nat) : Int)), some (optT (some v)), some (.int v)]) else some (.nx [some (intsT vs), some (.int (i : Int)), some (.int (n : Int)), some (optT m), some (.int v)]) := by
  have ix := at_ix vs i h
  by_cases h1 : at0 vs i < v
  · cases m with
    | none =>
      rw [if_pos ⟨h1, fun a e => by cases e⟩]
      simp only [s_falling_ahead_L1, ↓ev_bind, ↓ev_pure, ↓ev_rd, ↓ev_lf, ↓ev_vr, ↓ev_kc, ↓ev_mv, ↓ev_pp2, ↓ev_pp1, ↓ev_tnot, ↓ev_tand, ↓ev_tor, ↓ev_vand, ↓ev_vor, ↓ev_vnot, ↓ev_vif, ↓ev_fset, ↓ev_fdo, ↓ev_frt, ↓ev_fif, ↓ev_fnx, ↓ev_fbk, ↓ev_fct, ↓ev_fno, ↓ev_fsq, ↓ev_afI, ↓ev_fasg, ↓ev_faug, ↓ev_fseti, ↓ev_fpar2, ↓ev_fcall, ↓ev_fkw, ↓ev_fmu0, ↓ev_fmu1, ↓ev_pchn, ev_acn, ↓ev_aci, z_ixN0, pick, List.getD_cons_zero, List.getD_cons_succ, eq_self, ev_gset, ev_gnil, ev_gcons, ↓ev_go, ↓ev_fl, ↓ev_flgo, ↓ev_rsgo, z_add, z_addL, z_sub, z_cmp, z_int, z_intb, z_len, z_lent, z_bl, z_int?, z_lst, z_tup, z_seq, z_neg, z_isN, z_notN, z_isNi, z_isNn, z_isNl, z_isNs, z_isNt, z_list, z_listt, z_rev, z_eqi, z_nei, z_eqs, z_nes, z_eqb, z_neb, z_ixif, z_ml0, z_ml1, z_mt1, z_ml2, z_mt2, z_ml3, z_mt3, z_ml4, z_mt4, z_ml5, z_mt5, z_ml6, z_ml7, z_ml8, z_ml9, z_ml10, z_ml11, z_ml12, z_ml13, z_ml14, z_ixl0, z_ixt0, z_ixl1, z_ixt1, z_ixl2, z_ixt2, z_ixl3, z_ixt3, z_ixl4, z_ixt4, z_ixl5, z_ixl6, z_ixl7, z_ixl8, z_ixl9, z_ixl10, z_ixl11, z_ixl12, z_ixl13, fill_nil, fill_no, fill_so, put_of, hole_nil, hole_no, hole_so, back_no, back_so, fin_rt, fin_nx, fin_ex, mix_nil, mix_sh, mix_ow, Option.map_some, Option.bind_some, Option.join_some, Option.bind_none, Option.map_none, List.getElem?_cons_zero, List.getElem?_cons_succ, List.set_cons_zero, List.set_cons_succ, List.map_nil, List.map_cons, List.append_nil, List.nil_append, List.cons_append, List.length_cons, List.length_nil, List.replicate_succ, List.replicate_zero, Nat.reduceAdd, Nat.reduceSub, ↓reduceIte, Bool.not_true, Bool.not_false, Bool.false_eq_true, Bool.true_eq_false, Int.reduceLT, Int.reduceLE, Int.reduceAdd, Int.reduceSub, Int.reduceMul, Int.reduceNeg, Int.reduceEq, decide_true, decide_false, decide_eq_true_eq, Bool.not_eq_true, decide_eq_false_iff_not, ↓ev_fraise, ↓ev_ftry, tr_nx, lose_nil, lose_cons, lose_so, z_isNx, z_tuple, opt_n, opt_s, ix, h1, Int.natCast_add, Int.natCast_one]
    | some a =>
      by_cases h2 : v < a
      · rw [if_pos ⟨h1, fun b e => by cases e; exact h2⟩]
        simp only [s_falling_ahead_L1, ↓ev_bind, ↓ev_pure, ↓ev_rd, ↓ev_lf, ↓ev_vr, ↓ev_kc, ↓ev_mv, ↓ev_pp2, ↓ev_pp1, ↓ev_tnot, ↓ev_tand, ↓ev_tor, ↓ev_vand, ↓ev_vor, ↓ev_vnot, ↓ev_vif, ↓ev_fset, ↓ev_fdo, ↓ev_frt, ↓ev_fif, ↓ev_fnx, ↓ev_fbk, ↓ev_fct, ↓ev_fno, ↓ev_fsq, ↓ev_afI, ↓ev_fasg, ↓ev_faug, ↓ev_fseti, ↓ev_fpar2, ↓ev_fcall, ↓ev_fkw, ↓ev_fmu0, ↓ev_fmu1, ↓ev_pchn, ev_acn, ↓ev_aci, z_ixN0, pick, List.getD_cons_zero, List.getD_cons_succ, eq_self, ev_gset, ev_gnil, ev_gcons, ↓ev_go, ↓ev_fl, ↓ev_flgo, ↓ev_rsgo, z_add, z_addL, z_sub, z_cmp, z_int, z_intb, z_len, z_lent, z_bl, z_int?, z_lst, z_tup, z_seq, z_neg, z_isN, z_notN, z_isNi, z_isNn, z_isNl, z_isNs, z_isNt, z_list, z_listt, z_rev, z_eqi, z_nei, z_eqs, z_nes, z_eqb, z_neb, z_ixif, z_ml0, z_ml1, z_mt1, z_ml2, z_mt2, z_ml3, z_mt3, z_ml4, z_mt4, z_ml5, z_mt5, z_ml6, z_ml7, z_ml8, z_ml9, z_ml10, z_ml11, z_ml12, z_ml13, z_ml14, z_ixl0, z_ixt0, z_ixl1, z_ixt1, z_ixl2, z_ixt2, z_ixl3, z_ixt3, z_ixl4, z_ixt4, z_ixl5, z_ixl6, z_ixl7, z_ixl8, z_ixl9, z_ixl10, z_ixl11, z_ixl12, z_ixl13, fill_nil, fill_no, fill_so, put_of, hole_nil, hole_no, hole_so, back_no, back_so, fin_rt, fin_nx, fin_ex, mix_nil, mix_sh, mix_ow, Option.map_some, Option.bind_some, Option.join_some, Option.bind_none, Option.map_none, List.getElem?_cons_zero, List.getElem?_cons_succ, List.set_cons_zero, List.set_cons_succ, List.map_nil, List.map_cons, List.append_nil, List.nil_append, List.cons_append, List.length_cons, List.length_nil, List.replicate_succ, List.replicate_zero, Nat.reduceAdd, Nat.reduceSub, ↓reduceIte, Bool.not_true, Bool.not_false, Bool.false_eq_true, Bool.true_eq_false, Int.reduceLT, Int.reduceLE, Int.reduceAdd, Int.reduceSub, Int.reduceMul, Int.reduceNeg, Int.reduceEq, decide_true, decide_false, decide_eq_true_eq, Bool.not_eq_true, decide_eq_false_iff_not, ↓ev_fraise, ↓ev_ftry, tr_nx, lose_nil, lose_cons, lose_so, z_isNx, z_tuple, opt_s, ix, h1, h2, Int.natCast_add, Int.natCast_one]
      · rw [if_neg (fun z => h2 (z.2 a rfl))]
        simp only [s_falling_ahead_L1, ↓ev_bind, ↓ev_pure, ↓ev_rd, ↓ev_lf, ↓ev_vr, ↓ev_kc, ↓ev_mv, ↓ev_pp2, ↓ev_pp1, ↓ev_tnot, ↓ev_tand, ↓ev_tor, ↓ev_vand, ↓ev_vor, ↓ev_vnot, ↓ev_vif, ↓ev_fset, ↓ev_fdo, ↓ev_frt, ↓ev_fif, ↓ev_fnx, ↓ev_fbk, ↓ev_fct, ↓ev_fno, ↓ev_fsq, ↓ev_afI, ↓ev_fasg, ↓ev_faug, ↓ev_fseti, ↓ev_fpar2, ↓ev_fcall, ↓ev_fkw, ↓ev_fmu0, ↓ev_fmu1, ↓ev_pchn, ev_acn, ↓ev_aci, z_ixN0, pick, List.getD_cons_zero, List.getD_cons_succ, eq_self, ev_gset, ev_gnil, ev_gcons, ↓ev_go, ↓ev_fl, ↓ev_flgo, ↓ev_rsgo, z_add, z_addL, z_sub, z_cmp, z_int, z_intb, z_len, z_lent, z_bl, z_int?, z_lst, z_tup, z_seq, z_neg, z_isN, z_notN, z_isNi, z_isNn, z_isNl, z_isNs, z_isNt, z_list, z_listt, z_rev, z_eqi, z_nei, z_eqs, z_nes, z_eqb, z_neb, z_ixif, z_ml0, z_ml1, z_mt1, z_ml2, z_mt2, z_ml3, z_mt3, z_ml4, z_mt4, z_ml5, z_mt5, z_ml6, z_ml7, z_ml8, z_ml9, z_ml10, z_ml11, z_ml12, z_ml13, z_ml14, z_ixl0, z_ixt0, z_ixl1, z_ixt1, z_ixl2, z_ixt2, z_ixl3, z_ixt3, z_ixl4, z_ixt4, z_ixl5, z_ixl6, z_ixl7, z_ixl8, z_ixl9, z_ixl10, z_ixl11, z_ixl12, z_ixl13, fill_nil, fill_no, fill_so, put_of, hole_nil, hole_no, hole_so, back_no, back_so, fin_rt, fin_nx, fin_ex, mix_nil, mix_sh, mix_ow, Option.map_some, Option.bind_some, Option.join_some, Option.bind_none, Option.map_none, List.getElem?_cons_zero, List.getElem?_cons_succ, List.set_cons_zero, List.set_cons_succ, List.map_nil, List.map_cons, List.append_nil, List.nil_append, List.cons_append, List.length_cons, List.length_nil, List.replicate_succ, List.replicate_zero, Nat.reduceAdd, Nat.reduceSub, ↓reduceIte, Bool.not_true, Bool.not_false, Bool.false_eq_true, Bool.true_eq_false, Int.reduceLT, Int.reduceLE, Int.reduceAdd, Int.reduceSub, Int.reduceMul, Int.reduceNeg, Int.reduceEq, decide_true, decide_false, decide_eq_true_eq, Bool.not_eq_true, decide_eq_false_iff_not, ↓ev_fraise, ↓ev_ftry, tr_nx, lose_nil, lose_cons, lose_so, z_isNx, z_tuple, opt_s, ix, h1, h2]
  · rw [if_neg (fun z => h1 z.1)]
    simp only [s_falling_ahead_L1, ↓ev_bind, ↓ev_pure, ↓ev_rd, ↓ev_lf, ↓ev_vr, ↓ev_kc, ↓ev_mv, ↓ev_pp2, ↓ev_pp1, ↓ev_tnot, ↓ev_tand, ↓ev_tor, ↓ev_vand, ↓ev_vor, ↓ev_vnot, ↓ev_vif, ↓ev_fset, ↓ev_fdo, ↓ev_frt, ↓ev_fif, ↓ev_fnx, ↓ev_fbk, ↓ev_fct, ↓ev_fno, ↓ev_fsq, ↓ev_afI, ↓ev_fasg, ↓ev_faug, ↓ev_fseti, ↓ev_fpar2, ↓ev_fcall, ↓ev_fkw, ↓ev_fmu0, ↓ev_fmu1, ↓ev_pchn, ev_acn, ↓ev_aci, z_ixN0, pick, List.getD_cons_zero, List.getD_cons_succ, eq_self, ev_gset, ev_gnil, ev_gcons, ↓ev_go, ↓ev_fl, ↓ev_flgo, ↓ev_rsgo, z_add, z_addL, z_sub, z_cmp, z_int, z_intb, z_len, z_lent, z_bl, z_int?, z_lst, z_tup, z_seq, z_neg, z_isN, z_notN, z_isNi, z_isNn, z_isNl, z_isNs, z_isNt, z_list, z_listt, z_rev, z_eqi, z_nei, z_eqs, z_nes, z_eqb, z_neb, z_ixif, z_ml0, z_ml1, z_mt1, z_ml2, z_mt2, z_ml3, z_mt3, z_ml4, z_mt4, z_ml5, z_mt5, z_ml6, z_ml7, z_ml8, z_ml9, z_ml10, z_ml11, z_ml12, z_ml13, z_ml14, z_ixl0, z_ixt0, z_ixl1, z_ixt1, z_ixl2, z_ixt2, z_ixl3, z_ixt3, z_ixl4, z_ixt4, z_ixl5, z_ixl6, z_ixl7, z_ixl8, z_ixl9, z_ixl10, z_ixl11, z_ixl12, z_ixl13, fill_nil, fill_no, fill_so, put_of, hole_nil, hole_no, hole_so, back_no, back_so, fin_rt, fin_nx, fin_ex, mix_nil, mix_sh, mix_ow, Option.map_some, Option.bind_some, Option.join_some, Option.bind_none, Option.map_none, List.getElem?_cons_zero, List.getElem?_cons_succ, List.set_cons_zero, List.set_cons_succ, List.map_nil, List.map_cons, List.append_nil, List.nil_append, List.cons_append, List.length_cons, List.length_nil, List.replicate_succ, List.replicate_zero, Nat.reduceAdd, Nat.reduceSub, ↓reduceIte, Bool.not_true, Bool.not_false, Bool.false_eq_true, Bool.true_eq_false, Int.reduceLT, Int.reduceLE, Int.reduceAdd, Int.reduceSub, Int.reduceMul, Int.reduceNeg, Int.reduceEq, decide_true, decide_false, decide_eq_true_eq, Bool.not_eq_true, decide_eq_false_iff_not, ↓ev_fraise, ↓ev_ftry, tr_nx, lose_nil, lose_cons, lose_so, z_isNx, z_tuple, ix, h1]
theorem e_fa_loop (vs : List Int) (i : Nat) (h : i < vs.length) : ∀ (l : List Int) (n : Nat) (m : Option Int) (a4 : Option T), ∃ b3 b4, ffor (gset 4) s_falling_ahead_L1 (l.map T.int) [some (intsT vs), some (.int (i : Int)), some (.int (n : Int)), some (optT m), a4] = some (.nx [some (intsT vs), some (.int (i : Int)), some (.int ((n + frec (at0 vs i) m l : Nat) : Int)), b3, b4])
  | [], n, m, a4 => ⟨_, _, rfl⟩
  | v :: l, n, m, a4 => by
    rw [List.map_cons, ffor]
    simp only [gset, List.set_cons_zero, List.set_cons_succ, e_fa_L1 vs i h, frec]
    by_cases c : at0 vs i < v ∧ (∀ a, m = some a → v < a)
    · rw [if_pos c, if_pos c]
      obtain ⟨b3, b4, e⟩ := e_fa_loop vs i h l (n + 1) (some v) (some (.int v))
      refine ⟨b3, b4, ?_⟩
      simp only [e]
      rw [show n + 1 + frec (at0 vs i) (some v) l = n + (frec (at0 vs i) (some v) l + 1) by omega]
    · rw [if_neg c, if_neg c]
      obtain ⟨b3, b4, e⟩ := e_fa_loop vs i h l n m (some (.int v))
      exact ⟨b3, b4, by simp only [e]⟩
/-- the number of a value -/
def recN (vs : List Int) (i : Nat) : Nat := frec (at0 vs i) none (vs.take i)
theorem e_falling_ahead (vs : List Int) (i : Nat) (h : i < vs.length) : runF [.sh, .sh] 5 s_falling_ahead [intsT vs, .int (i : Int)] = some (.ok (.int (recN vs i : Nat)) [intsT vs, .int (i : Int)]) := by
  obtain ⟨b3, b4, e⟩ := e_fa_loop vs i h (vs.take i) 0 none none
  have sl := sl_to vs i
  rw [Nat.zero_add] at e
  have e' : ffor (gset 4) s_falling_ahead_L1 ((vs.take i).map T.int) [some (intsT vs), some (.int (i : Int)), some (.int 0), some .non, none] = _ := e
  have mk : mkT [.int 0, .non] = some (.tup [.int 0, .non]) := rfl
  rw [run_ev]
  simp only [s_falling_ahead, ev_gt2, ↓ev_bind, ↓ev_pure, ↓ev_rd, ↓ev_lf, ↓ev_vr, ↓ev_kc, ↓ev_mv, ↓ev_pp2, ↓ev_pp1, ↓ev_tnot, ↓ev_tand, ↓ev_tor, ↓ev_vand, ↓ev_vor, ↓ev_vnot, ↓ev_vif, ↓ev_fset, ↓ev_fdo, ↓ev_frt, ↓ev_fif, ↓ev_fnx, ↓ev_fbk, ↓ev_fct, ↓ev_fno, ↓ev_fsq, ↓ev_afI, ↓ev_fasg, ↓ev_faug, ↓ev_fseti, ↓ev_fpar2, ↓ev_fcall, ↓ev_fkw, ↓ev_fmu0, ↓ev_fmu1, ↓ev_pchn, ev_acn, ↓ev_aci, z_ixN0, pick, List.getD_cons_zero, List.getD_cons_succ, eq_self, ev_gset, ev_gnil, ev_gcons, ↓ev_go, ↓ev_fl, ↓ev_flgo, ↓ev_rsgo, z_add, z_addL, z_sub, z_cmp, z_int, z_intb, z_len, z_lent, z_bl, z_int?, z_lst, z_tup, z_seq, z_neg, z_isN, z_notN, z_isNi, z_isNn, z_isNl, z_isNs, z_isNt, z_list, z_listt, z_rev, z_eqi, z_nei, z_eqs, z_nes, z_eqb, z_neb, z_ixif, z_ml0, z_ml1, z_mt1, z_ml2, z_mt2, z_ml3, z_mt3, z_ml4, z_mt4, z_ml5, z_mt5, z_ml6, z_ml7, z_ml8, z_ml9, z_ml10, z_ml11, z_ml12, z_ml13, z_ml14, z_ixl0, z_ixt0, z_ixl1, z_ixt1, z_ixl2, z_ixt2, z_ixl3, z_ixt3, z_ixl4, z_ixt4, z_ixl5, z_ixl6, z_ixl7, z_ixl8, z_ixl9, z_ixl10, z_ixl11, z_ixl12, z_ixl13, fill_nil, fill_no, fill_so, put_of, hole_nil, hole_no, hole_so, back_no, back_so, fin_rt, fin_nx, fin_ex, mix_nil, mix_sh, mix_ow, Option.map_some, Option.bind_some, Option.join_some, Option.bind_none, Option.map_none, List.getElem?_cons_zero, List.getElem?_cons_succ, List.set_cons_zero, List.set_cons_succ, List.map_nil, List.map_cons, List.append_nil, List.nil_append, List.cons_append, List.length_cons, List.length_nil, List.replicate_succ, List.replicate_zero, Nat.reduceAdd, Nat.reduceSub, ↓reduceIte, Bool.not_true, Bool.not_false, Bool.false_eq_true, Bool.true_eq_false, Int.reduceLT, Int.reduceLE, Int.reduceAdd, Int.reduceSub, Int.reduceMul, Int.reduceNeg, Int.reduceEq, decide_true, decide_false, decide_eq_true_eq, Bool.not_eq_true, decide_eq_false_iff_not, ↓ev_fraise, ↓ev_ftry, tr_nx, lose_nil, lose_cons, lose_so, z_isNx, z_tuple, mk, sl, e', recN]
theorem e_records_ahead (vs : List Int) (h60 : vs.length ≤ 60) (i : Nat) (h : i < vs.length) : runF [.sh, .sh] 2 s_records_ahead [intsT vs, .int (i : Int)] = some (.ok (.int (recN vs i : Nat)) [intsT vs, .int (i : Int)]) := by
  rw [run_ev]
  simp only [s_records_ahead, ↓ev_bind, ↓ev_pure, ↓ev_rd, ↓ev_lf, ↓ev_vr, ↓ev_kc, ↓ev_mv, ↓ev_pp2, ↓ev_pp1, ↓ev_tnot, ↓ev_tand, ↓ev_tor, ↓ev_vand, ↓ev_vor, ↓ev_vnot, ↓ev_vif, ↓ev_fset, ↓ev_fdo, ↓ev_frt, ↓ev_fif, ↓ev_fnx, ↓ev_fbk, ↓ev_fct, ↓ev_fno, ↓ev_fsq, ↓ev_afI, ↓ev_fasg, ↓ev_faug, ↓ev_fseti, ↓ev_fpar2, ↓ev_fcall, ↓ev_fkw, ↓ev_fmu0, ↓ev_fmu1, ↓ev_pchn, ev_acn, ↓ev_aci, z_ixN0, pick, List.getD_cons_zero, List.getD_cons_succ, eq_self, ev_gset, ev_gnil, ev_gcons, ↓ev_go, ↓ev_fl, ↓ev_flgo, ↓ev_rsgo, z_add, z_addL, z_sub, z_cmp, z_int, z_intb, z_len, z_lent, z_bl, z_int?, z_lst, z_tup, z_seq, z_neg, z_isN, z_notN, z_isNi, z_isNn, z_isNl, z_isNs, z_isNt, z_list, z_listt, z_rev, z_eqi, z_nei, z_eqs, z_nes, z_eqb, z_neb, z_ixif, z_ml0, z_ml1, z_mt1, z_ml2, z_mt2, z_ml3, z_mt3, z_ml4, z_mt4, z_ml5, z_mt5, z_ml6, z_ml7, z_ml8, z_ml9, z_ml10, z_ml11, z_ml12, z_ml13, z_ml14, z_ixl0, z_ixt0, z_ixl1, z_ixt1, z_ixl2, z_ixt2, z_ixl3, z_ixt3, z_ixl4, z_ixt4, z_ixl5, z_ixl6, z_ixl7, z_ixl8, z_ixl9, z_ixl10, z_ixl11, z_ixl12, z_ixl13, fill_nil, fill_no, fill_so, put_of, hole_nil, hole_no, hole_so, back_no, back_so, fin_rt, fin_nx, fin_ex, mix_nil, mix_sh, mix_ow, Option.map_some, Option.bind_some, Option.join_some, Option.bind_none, Option.map_none, List.getElem?_cons_zero, List.getElem?_cons_succ, List.set_cons_zero, List.set_cons_succ, List.map_nil, List.map_cons, List.append_nil, List.nil_append, List.cons_append, List.length_cons, List.length_nil, List.replicate_succ, List.replicate_zero, Nat.reduceAdd, Nat.reduceSub, ↓reduceIte, Bool.not_true, Bool.not_false, Bool.false_eq_true, Bool.true_eq_false, Int.reduceLT, Int.reduceLE, Int.reduceAdd, Int.reduceSub, Int.reduceMul, Int.reduceNeg, Int.reduceEq, decide_true, decide_false, decide_eq_true_eq, Bool.not_eq_true, decide_eq_false_iff_not, ↓ev_fraise, ↓ev_ftry, tr_nx, lose_nil, lose_cons, lose_so, z_isNx, z_tuple, e_check_values vs h60, e_check_place vs i h, e_falling_ahead vs i h]
/-! ### the program's passes -/
theorem nps_stay (pl : Plan) {vs : List Int} (h : onc pl vs = vs) (n : Nat) : nps pl n vs = 0 := by
  cases n with
  | zero => rfl
  | succ n => rw [nps, if_pos h]
theorem e_pn_L1 (pl : Plan) (hp : PlanOk pl) (a1 : Option T) (k : Nat) (vs ws : List Int) (h60 : ws.length ≤ 60) : s_passes_needed_L1 [some (planT pl), a1, some (.int (k : Int)), some (intsT vs), some (intsT ws)] = some (.nx [some (planT pl), a1, some (.int ((k + 1 : Nat) : Int)), some (intsT ws), some (intsT (onc pl ws))]) := by
  have e1 := e_after pl hp 70 (begM pl) ws (by omega) h60 (begM_ok pl)
  simp only [s_passes_needed_L1, ev_fpo, ↓ev_bind, ↓ev_pure, ↓ev_rd, ↓ev_lf, ↓ev_vr, ↓ev_kc, ↓ev_mv, ↓ev_pp2, ↓ev_pp1, ↓ev_tnot, ↓ev_tand, ↓ev_tor, ↓ev_vand, ↓ev_vor, ↓ev_vnot, ↓ev_vif, ↓ev_fset, ↓ev_fdo, ↓ev_frt, ↓ev_fif, ↓ev_fnx, ↓ev_fbk, ↓ev_fct, ↓ev_fno, ↓ev_fsq, ↓ev_afI, ↓ev_fasg, ↓ev_faug, ↓ev_fseti, ↓ev_fpar2, ↓ev_fcall, ↓ev_fkw, ↓ev_fmu0, ↓ev_fmu1, ↓ev_pchn, ev_acn, ↓ev_aci, z_ixN0, pick, List.getD_cons_zero, List.getD_cons_succ, eq_self, ev_gset, ev_gnil, ev_gcons, ↓ev_go, ↓ev_fl, ↓ev_flgo, ↓ev_rsgo, z_add, z_addL, z_sub, z_cmp, z_int, z_intb, z_len, z_lent, z_bl, z_int?, z_lst, z_tup, z_seq, z_neg, z_isN, z_notN, z_isNi, z_isNn, z_isNl, z_isNs, z_isNt, z_list, z_listt, z_rev, z_eqi, z_nei, z_eqs, z_nes, z_eqb, z_neb, z_ixif, z_ml0, z_ml1, z_mt1, z_ml2, z_mt2, z_ml3, z_mt3, z_ml4, z_mt4, z_ml5, z_mt5, z_ml6, z_ml7, z_ml8, z_ml9, z_ml10, z_ml11, z_ml12, z_ml13, z_ml14, z_ixl0, z_ixt0, z_ixl1, z_ixt1, z_ixl2, z_ixt2, z_ixl3, z_ixt3, z_ixl4, z_ixt4, z_ixl5, z_ixl6, z_ixl7, z_ixl8, z_ixl9, z_ixl10, z_ixl11, z_ixl12, z_ixl13, fill_nil, fill_no, fill_so, put_of, hole_nil, hole_no, hole_so, back_no, back_so, fin_rt, fin_nx, fin_ex, mix_nil, mix_sh, mix_ow, Option.map_some, Option.bind_some, Option.join_some, Option.bind_none, Option.map_none, List.getElem?_cons_zero, List.getElem?_cons_succ, List.set_cons_zero, List.set_cons_succ, List.map_nil, List.map_cons, List.append_nil, List.nil_append, List.cons_append, List.length_cons, List.length_nil, List.replicate_succ, List.replicate_zero, Nat.reduceAdd, Nat.reduceSub, ↓reduceIte, Bool.not_true, Bool.not_false, Bool.false_eq_true, Bool.true_eq_false, Int.reduceLT, Int.reduceLE, Int.reduceAdd, Int.reduceSub, Int.reduceMul, Int.reduceNeg, Int.reduceEq, decide_true, decide_false, decide_eq_true_eq, Bool.not_eq_true, decide_eq_false_iff_not, ↓ev_fraise, ↓ev_ftry, tr_nx, lose_nil, lose_cons, lose_so, z_isNx, z_tuple, e_begin_of, e1, Int.natCast_add, Int.natCast_one, onc]
theorem e_pn_while (pl : Plan) (hp : PlanOk pl) (a1 : Option T) : ∀ (n f : Nat) (vs : List Int) (k : Nat), dis vs ≤ n → n < f → vs.length ≤ 60 → ∃ b3 b4, fwh s_passes_needed_L1w s_passes_needed_L1 f [some (planT pl), a1, some (.int (k : Int)), some (intsT vs), some (intsT (onc pl vs))] = some (.nx [some (planT pl), a1, some (.int ((k + nps pl n vs : Nat) : Int)), b3, b4])
  | n, 0, vs, k, _, hf, _ => by omega
  | n, f + 1, vs, k, hd, hf, h60 => by
    have hc : s_passes_needed_L1w [some (planT pl), a1, some (.int (k : Int)), some (intsT vs), some (intsT (onc pl vs))] = some (.ok (!decide (onc pl vs = vs)) [some (planT pl), a1, some (.int (k : Int)), some (intsT vs), some (intsT (onc pl vs))]) := by
      simp only [s_passes_needed_L1w, ↓ev_bind, ↓ev_pure, ↓ev_rd, ↓ev_lf, ↓ev_vr, ↓ev_kc, ↓ev_mv, ↓ev_pp2, ↓ev_pp1, ↓ev_tnot, ↓ev_tand, ↓ev_tor, ↓ev_vand, ↓ev_vor, ↓ev_vnot, ↓ev_vif, ↓ev_fset, ↓ev_fdo, ↓ev_frt, ↓ev_fif, ↓ev_fnx, ↓ev_fbk, ↓ev_fct, ↓ev_fno, ↓ev_fsq, ↓ev_afI, ↓ev_fasg, ↓ev_faug, ↓ev_fseti, ↓ev_fpar2, ↓ev_fcall, ↓ev_fkw, ↓ev_fmu0, ↓ev_fmu1, ↓ev_pchn, ev_acn, ↓ev_aci, z_ixN0, pick, List.getD_cons_zero, List.getD_cons_succ, eq_self, ev_gset, ev_gnil, ev_gcons, ↓ev_go, ↓ev_fl, ↓ev_flgo, ↓ev_rsgo, z_add, z_addL, z_sub, z_cmp, z_int, z_intb, z_len, z_lent, z_bl, z_int?, z_lst, z_tup, z_seq, z_neg, z_isN, z_notN, z_isNi, z_isNn, z_isNl, z_isNs, z_isNt, z_list, z_listt, z_rev, z_eqi, z_nei, z_eqs, z_nes, z_eqb, z_neb, z_ixif, z_ml0, z_ml1, z_mt1, z_ml2, z_mt2, z_ml3, z_mt3, z_ml4, z_mt4, z_ml5, z_mt5, z_ml6, z_ml7, z_ml8, z_ml9, z_ml10, z_ml11, z_ml12, z_ml13, z_ml14, z_ixl0, z_ixt0, z_ixl1, z_ixt1, z_ixl2, z_ixt2, z_ixl3, z_ixt3, z_ixl4, z_ixt4, z_ixl5, z_ixl6, z_ixl7, z_ixl8, z_ixl9, z_ixl10, z_ixl11, z_ixl12, z_ixl13, fill_nil, fill_no, fill_so, put_of, hole_nil, hole_no, hole_so, back_no, back_so, fin_rt, fin_nx, fin_ex, mix_nil, mix_sh, mix_ow, Option.map_some, Option.bind_some, Option.join_some, Option.bind_none, Option.map_none, List.getElem?_cons_zero, List.getElem?_cons_succ, List.set_cons_zero, List.set_cons_succ, List.map_nil, List.map_cons, List.append_nil, List.nil_append, List.cons_append, List.length_cons, List.length_nil, List.replicate_succ, List.replicate_zero, Nat.reduceAdd, Nat.reduceSub, ↓reduceIte, Bool.not_true, Bool.not_false, Bool.false_eq_true, Bool.true_eq_false, Int.reduceLT, Int.reduceLE, Int.reduceAdd, Int.reduceSub, Int.reduceMul, Int.reduceNeg, Int.reduceEq, decide_true, decide_false, decide_eq_true_eq, Bool.not_eq_true, decide_eq_false_iff_not, ↓ev_fraise, ↓ev_ftry, tr_nx, lose_nil, lose_cons, lose_so, z_isNx, z_tuple, z_neI]
    by_cases h : onc pl vs = vs
    · refine ⟨some (intsT vs), some (intsT (onc pl vs)), ?_⟩
      rw [fwh, hc, nps_stay pl h, decide_eq_true h]
      rfl
    · have q := (onc_dis pl vs).resolve_left h
      cases n with
      | zero => omega
      | succ n =>
        obtain ⟨b3, b4, e⟩ := e_pn_while pl hp a1 n f (onc pl vs) (k + 1) (by omega) (by omega) (by rw [onc_len]; exact h60)
        refine ⟨b3, b4, ?_⟩
        rw [fwh, nps, if_neg h, hc, decide_eq_false h]
        simp only [↓ev_bind, ↓ev_pure, ↓ev_rd, ↓ev_lf, ↓ev_vr, ↓ev_kc, ↓ev_mv, ↓ev_pp2, ↓ev_pp1, ↓ev_tnot, ↓ev_tand, ↓ev_tor, ↓ev_vand, ↓ev_vor, ↓ev_vnot, ↓ev_vif, ↓ev_fset, ↓ev_fdo, ↓ev_frt, ↓ev_fif, ↓ev_fnx, ↓ev_fbk, ↓ev_fct, ↓ev_fno, ↓ev_fsq, ↓ev_afI, ↓ev_fasg, ↓ev_faug, ↓ev_fseti, ↓ev_fpar2, ↓ev_fcall, ↓ev_fkw, ↓ev_fmu0, ↓ev_fmu1, ↓ev_pchn, ev_acn, ↓ev_aci, z_ixN0, pick, List.getD_cons_zero, List.getD_cons_succ, eq_self, ev_gset, ev_gnil, ev_gcons, ↓ev_go, ↓ev_fl, ↓ev_flgo, ↓ev_rsgo, z_add, z_addL, z_sub, z_cmp, z_int, z_intb, z_len, z_lent, z_bl, z_int?, z_lst, z_tup, z_seq, z_neg, z_isN, z_notN, z_isNi, z_isNn, z_isNl, z_isNs, z_isNt, z_list, z_listt, z_rev, z_eqi, z_nei, z_eqs, z_nes, z_eqb, z_neb, z_ixif, z_ml0, z_ml1, z_mt1, z_ml2, z_mt2, z_ml3, z_mt3, z_ml4, z_mt4, z_ml5, z_mt5, z_ml6, z_ml7, z_ml8, z_ml9, z_ml10, z_ml11, z_ml12, z_ml13, z_ml14, z_ixl0, z_ixt0, z_ixl1, z_ixt1, z_ixl2, z_ixt2, z_ixl3, z_ixt3, z_ixl4, z_ixt4, z_ixl5, z_ixl6, z_ixl7, z_ixl8, z_ixl9, z_ixl10, z_ixl11, z_ixl12, z_ixl13, fill_nil, fill_no, fill_so, put_of, hole_nil, hole_no, hole_so, back_no, back_so, fin_rt, fin_nx, fin_ex, mix_nil, mix_sh, mix_ow, Option.map_some, Option.bind_some, Option.join_some, Option.bind_none, Option.map_none, List.getElem?_cons_zero, List.getElem?_cons_succ, List.set_cons_zero, List.set_cons_succ, List.map_nil, List.map_cons, List.append_nil, List.nil_append, List.cons_append, List.length_cons, List.length_nil, List.replicate_succ, List.replicate_zero, Nat.reduceAdd, Nat.reduceSub, ↓reduceIte, Bool.not_true, Bool.not_false, Bool.false_eq_true, Bool.true_eq_false, Int.reduceLT, Int.reduceLE, Int.reduceAdd, Int.reduceSub, Int.reduceMul, Int.reduceNeg, Int.reduceEq, decide_true, decide_false, decide_eq_true_eq, Bool.not_eq_true, decide_eq_false_iff_not, ↓ev_fraise, ↓ev_ftry, tr_nx, lose_nil, lose_cons, lose_so, z_isNx, z_tuple, e_pn_L1 pl hp a1 k vs (onc pl vs) (by rw [onc_len]; exact h60), e]
        rw [show k + 1 + nps pl n (onc pl vs) = k + (nps pl n (onc pl vs) + 1) by omega]
/-- the passes that are needed -/
def pnd (pl : Plan) (vs : List Int) : Nat := nps pl 3600 vs
theorem dis_60 {vs : List Int} (h : vs.length ≤ 60) : dis vs ≤ 3600 := by
  have := dis_bd vs 60 h
  have := Nat.mul_le_mul_right 60 h
  omega
theorem e_passes_needed (pl : Plan) (hp : PlanOk pl) (vs : List Int) (h60 : vs.length ≤ 60) : runF [.sh, .sh] 5 s_passes_needed [planT pl, intsT vs] = some (.ok (.int (pnd pl vs : Nat)) [planT pl, intsT vs]) := by
  obtain ⟨b3, b4, e⟩ := e_pn_while pl hp (some (intsT vs)) 3600 5000 vs 0 (dis_60 h60) (by decide) h60
  rw [Nat.zero_add] at e
  have e' : fwh s_passes_needed_L1w s_passes_needed_L1 5000 [some (planT pl), some (intsT vs), some (.int 0), some (intsT vs), some (intsT (onc pl vs))] = _ := e
  have e1 : runF [.sh, .sh, .ow .sh] 9 (s_after 70) [planT pl, entT (begM pl), intsT vs] = some (.ok (intsT (onc pl vs)) [planT pl, entT (begM pl), intsT vs]) := e_after pl hp 70 (begM pl) vs (by omega) h60 (begM_ok pl)
  rw [run_ev]
  simp only [s_passes_needed, ev_fpo, ↓ev_bind, ↓ev_pure, ↓ev_rd, ↓ev_lf, ↓ev_vr, ↓ev_kc, ↓ev_mv, ↓ev_pp2, ↓ev_pp1, ↓ev_tnot, ↓ev_tand, ↓ev_tor, ↓ev_vand, ↓ev_vor, ↓ev_vnot, ↓ev_vif, ↓ev_fset, ↓ev_fdo, ↓ev_frt, ↓ev_fif, ↓ev_fnx, ↓ev_fbk, ↓ev_fct, ↓ev_fno, ↓ev_fsq, ↓ev_afI, ↓ev_fasg, ↓ev_faug, ↓ev_fseti, ↓ev_fpar2, ↓ev_fcall, ↓ev_fkw, ↓ev_fmu0, ↓ev_fmu1, ↓ev_pchn, ev_acn, ↓ev_aci, z_ixN0, pick, List.getD_cons_zero, List.getD_cons_succ, eq_self, ev_gset, ev_gnil, ev_gcons, ↓ev_go, ↓ev_fl, ↓ev_flgo, ↓ev_rsgo, z_add, z_addL, z_sub, z_cmp, z_int, z_intb, z_len, z_lent, z_bl, z_int?, z_lst, z_tup, z_seq, z_neg, z_isN, z_notN, z_isNi, z_isNn, z_isNl, z_isNs, z_isNt, z_list, z_listt, z_rev, z_eqi, z_nei, z_eqs, z_nes, z_eqb, z_neb, z_ixif, z_ml0, z_ml1, z_mt1, z_ml2, z_mt2, z_ml3, z_mt3, z_ml4, z_mt4, z_ml5, z_mt5, z_ml6, z_ml7, z_ml8, z_ml9, z_ml10, z_ml11, z_ml12, z_ml13, z_ml14, z_ixl0, z_ixt0, z_ixl1, z_ixt1, z_ixl2, z_ixt2, z_ixl3, z_ixt3, z_ixl4, z_ixt4, z_ixl5, z_ixl6, z_ixl7, z_ixl8, z_ixl9, z_ixl10, z_ixl11, z_ixl12, z_ixl13, fill_nil, fill_no, fill_so, put_of, hole_nil, hole_no, hole_so, back_no, back_so, fin_rt, fin_nx, fin_ex, mix_nil, mix_sh, mix_ow, Option.map_some, Option.bind_some, Option.join_some, Option.bind_none, Option.map_none, List.getElem?_cons_zero, List.getElem?_cons_succ, List.set_cons_zero, List.set_cons_succ, List.map_nil, List.map_cons, List.append_nil, List.nil_append, List.cons_append, List.length_cons, List.length_nil, List.replicate_succ, List.replicate_zero, Nat.reduceAdd, Nat.reduceSub, ↓reduceIte, Bool.not_true, Bool.not_false, Bool.false_eq_true, Bool.true_eq_false, Int.reduceLT, Int.reduceLE, Int.reduceAdd, Int.reduceSub, Int.reduceMul, Int.reduceNeg, Int.reduceEq, decide_true, decide_false, decide_eq_true_eq, Bool.not_eq_true, decide_eq_false_iff_not, ↓ev_fraise, ↓ev_ftry, tr_nx, lose_nil, lose_cons, lose_so, z_isNx, z_tuple, e_check_plan pl hp, e_check_values vs h60, e_begin_of, e1, e', pnd]

/-! ### one-sided passes -/
theorem aft_len' (pl : Plan) (n : Nat) (p : Option Nat) (vs : List Int) : (aft pl n p vs).length = vs.length := (aft_perm pl n p vs).length_eq
theorem lt_all {v : Int} {r x : List Int} (h : x.Perm (r.filter fun y => decide (y < v))) : ∀ y ∈ x, y < v := fun y hy => by
  have := h.mem_iff.mp hy
  simp at this
  exact this.2
theorem ge_all {v : Int} {r x : List Int} (h : x.Perm (r.filter fun y => decide (v ≤ y))) : ∀ y ∈ x, v ≤ y := fun y hy => by
  have := h.mem_iff.mp hy
  simp at this
  exact this.2
theorem fil_allI {r : List Int} {f : Int → Bool} (h : ∀ x ∈ r, f x = true) : r.filter f = r := List.filter_eq_self.mpr h
theorem fil_noI {r : List Int} {f : Int → Bool} (h : ∀ x ∈ r, f x = false) : r.filter f = [] := List.filter_eq_nil_iff.mpr fun x hx => by simp [h x hx]
/-- the left only -/
abbrev plL : Plan := [(some 0, none)]
theorem aftL (n : Nat) (v : Int) (r : List Int) : aft plL (n + 1) (some 0) (v :: r) = aft plL n (some 0) (r.filter fun x => decide (x < v)) ++ v :: (r.filter fun x => decide (v ≤ x)) := by
  rw [aft]
  show aft plL n (some 0) _ ++ v :: aft plL n none _ = _
  rw [aft_none]
theorem aftL_head : ∀ (n : Nat) (vs : List Int), vs.length < n → ∀ (a : Int) (t : List Int), aft plL n (some 0) vs = a :: t → ∀ y ∈ t, a ≤ y
  | 0, vs, h, _, _, _ => by omega
  | n + 1, [], h, a, t, e => by simp [aft] at e
  | n + 1, v :: r, h, a, t, e => by
    rw [aftL] at e
    have pe := aft_perm plL n (some 0) (r.filter fun x => decide (x < v))
    have hl : (r.filter fun x => decide (x < v)).length < n := by
      have := List.length_filter_le (fun x => decide (x < v)) r
      simp at h
      omega
    cases hA : aft plL n (some 0) (r.filter fun x => decide (x < v)) with
    | nil =>
      rw [hA, List.nil_append] at e
      obtain ⟨rfl, rfl⟩ := List.cons.inj e
      intro y hy
      simp at hy
      exact hy.2
    | cons b s =>
      rw [hA, List.cons_append] at e
      obtain ⟨rfl, rfl⟩ := List.cons.inj e
      have ih := aftL_head n _ hl b s hA
      have hb : b < v := lt_all pe b (by rw [hA]; simp)
      intro y hy
      rcases List.mem_append.mp hy with z | z
      · exact ih y z
      · rcases List.mem_cons.mp z with z | z
        · omega
        · simp at z
          omega
theorem aftL_stay (n : Nat) (a : Int) (t : List Int) (h : ∀ y ∈ t, a ≤ y) : aft plL (n + 1) (some 0) (a :: t) = a :: t := by
  rw [aftL, fil_noI (fun x hx => by have := h x hx; simp; omega), fil_allI (fun x hx => by have := h x hx; simp; omega), aft_nil]
  rfl
theorem oncL (vs : List Int) : onc plL vs = aft plL 70 (some 0) vs := rfl
theorem oncL_two (vs : List Int) (h : vs.length < 70) : onc plL (onc plL vs) = onc plL vs := by
  rw [oncL, oncL]
  cases e : aft plL 70 (some 0) vs with
  | nil => rw [aft_nil]
  | cons a t => exact aftL_stay 69 a t (aftL_head 70 vs h a t e)
theorem pndL (vs : List Int) (h : vs.length < 70) : pnd plL vs = if onc plL vs = vs then 0 else 1 := by
  unfold pnd
  by_cases e : onc plL vs = vs
  · rw [nps_stay _ e, if_pos e]
  · rw [show 3600 = 3599 + 1 from rfl, nps, if_neg e, if_neg e, nps_stay _ (oncL_two vs h)]
/-- parted once -/
abbrev plP : Plan := [(none, none)]
theorem aftP (n : Nat) (v : Int) (r : List Int) : aft plP (n + 1) (some 0) (v :: r) = (r.filter fun x => decide (x < v)) ++ v :: (r.filter fun x => decide (v ≤ x)) := by
  rw [aft]
  show aft plP n none _ ++ v :: aft plP n none _ = _
  rw [aft_none, aft_none]
theorem oncP_cons (v : Int) (r : List Int) : onc plP (v :: r) = (r.filter fun x => decide (x < v)) ++ v :: (r.filter fun x => decide (v ≤ x)) := aftP 69 v r
theorem oncP_nil : onc plP [] = [] := rfl
theorem oncP_split (A B : List Int) (v : Int) (hA : ∀ x ∈ A, x < v) (hB : ∀ x ∈ B, v ≤ x) : onc plP (A ++ v :: B) = onc plP A ++ v :: B := by
  cases A with
  | nil =>
    rw [List.nil_append, oncP_cons, fil_noI (fun x hx => by have := hB x hx; simp; omega), fil_allI (fun x hx => by have := hB x hx; simp; omega)]
    rfl
  | cons a A =>
    have ha := hA a (by simp)
    have vB : ∀ x ∈ v :: B, a ≤ x := fun x hx => by
      rcases List.mem_cons.mp hx with z | z
      · omega
      · have := hB x z; omega
    rw [List.cons_append, oncP_cons, oncP_cons, List.filter_append, List.filter_append, fil_noI (r := v :: B) (f := fun x => decide (x < a)) (fun x hx => by have := vB x hx; simp; omega), fil_allI (r := v :: B) (f := fun x => decide (a ≤ x)) (fun x hx => by have := vB x hx; simp; omega)]
    simp
theorem pssP_split : ∀ (n : Nat) (A B : List Int) (v : Int), (∀ x ∈ A, x < v) → (∀ x ∈ B, v ≤ x) → pss plP n (A ++ v :: B) = pss plP n A ++ v :: B
  | 0, A, B, v, _, _ => rfl
  | n + 1, A, B, v, hA, hB => by
    rw [pss, oncP_split A B v hA hB, pssP_split n (onc plP A) B v (fun x hx => hA x ((onc_perm plP A).mem_iff.mp hx)) hB, pss]
/-- the left for so many levels -/
def lvl (m : Nat) : Plan := ((List.range (m - 1)).map fun k => (some (k + 1), none)) ++ [(none, none)]
theorem lvl_at (m k : Nat) (h : k + 1 < m) : entAt (lvl m) k = (some (k + 1), none) := by
  unfold entAt lvl
  rw [List.getD_eq_getElem?_getD, List.getElem?_append_left (by simp; omega), List.getElem?_map, List.getElem?_range (by omega)]
  rfl
theorem lvl_last (m : Nat) (h : 1 ≤ m) : entAt (lvl m) (m - 1) = (none, none) := by
  unfold entAt lvl
  rw [List.getD_eq_getElem?_getD, List.getElem?_append_right (by simp)]
  simp
theorem aft_lvl (m : Nat) : ∀ (j n k : Nat) (vs : List Int), k + j = m → 1 ≤ j → vs.length < n → aft (lvl m) n (some k) vs = pss plP j vs
  | 0, n, k, vs, _, h, _ => by omega
  | j + 1, 0, k, vs, _, _, h => by omega
  | j + 1, n + 1, k, [], hk, _, _ => by
    rw [aft_nil]
    have : ∀ j, pss plP j [] = [] := by
      intro j
      induction j with
      | zero => rfl
      | succ j ih => rw [pss, oncP_nil, ih]
    rw [this]
  | j + 1, n + 1, k, v :: r, hk, _, hn => by
    have hl : (r.filter fun x => decide (x < v)).length < n := by
      have := List.length_filter_le (fun x => decide (x < v)) r
      simp at hn
      omega
    have lt : ∀ x ∈ (r.filter fun x => decide (x < v)), x < v := fun x hx => by simp at hx; exact hx.2
    have ge : ∀ x ∈ (r.filter fun x => decide (v ≤ x)), v ≤ x := fun x hx => by simp at hx; exact hx.2
    rw [aft, pss, oncP_cons, pssP_split j _ _ v lt ge]
    by_cases hj : j = 0
    · subst hj
      have e := lvl_last m (by omega)
      rw [show m - 1 = k by omega] at e
      rw [e, aft_none, aft_none]
      rfl
    · rw [lvl_at m k (by omega)]
      show aft (lvl m) n (some (k + 1)) _ ++ v :: aft (lvl m) n none _ = _
      rw [aft_none, aft_lvl m j n (k + 1) _ (by omega) (by omega) hl]
theorem onc_lvl (m : Nat) (h : 1 ≤ m) (vs : List Int) (hl : vs.length < 70) : onc (lvl m) vs = pss plP m vs := by
  have hne : lvl m ≠ [] := by unfold lvl; simp
  unfold onc begM
  rw [if_neg hne]
  exact aft_lvl m m 70 0 vs (by omega) h hl
/-- the right only -/
abbrev plR : Plan := [(none, some 0)]
theorem aftR (n : Nat) (v : Int) (r : List Int) : aft plR (n + 1) (some 0) (v :: r) = (r.filter fun x => decide (x < v)) ++ v :: aft plR n (some 0) (r.filter fun x => decide (v ≤ x)) := by
  rw [aft]
  show aft plR n none _ ++ v :: aft plR n (some 0) _ = _
  rw [aft_none]
/-! ### the greatest number of falling records -/
def recL : List Int → List Int → List Nat
  | _, [] => []
  | pre, x :: l => frec x none pre :: recL (pre ++ [x]) l
def mxL (l : List Nat) : Nat := l.foldr max 0
theorem mxL_app (a b : List Nat) : mxL (a ++ b) = max (mxL a) (mxL b) := by
  induction a with
  | nil => simp [mxL]
  | cons x a ih =>
    show max x (mxL (a ++ b)) = max (max x (mxL a)) (mxL b)
    rw [ih]
    omega
theorem frec_low (x : Int) : ∀ (l : List Int) (m : Option Int), (∀ v ∈ l, v ≤ x) → frec x m l = 0
  | [], _, _ => rfl
  | v :: l, m, h => by
    have := h v (by simp)
    rw [frec, if_neg (fun z => by omega), frec_low x l m fun y hy => h y (by simp [hy])]
theorem frec_app (x : Int) : ∀ (a b : List Int) (m : Option Int), (∀ v ∈ a, v ≤ x) → frec x m (a ++ b) = frec x m b
  | [], _, _, _ => rfl
  | v :: a, b, m, h => by
    have := h v (by simp)
    rw [List.cons_append, frec, if_neg (fun z => by omega), frec_app x a b m fun y hy => h y (by simp [hy])]
/-- only the values that are greater than x, and less than the least so far, count -/
theorem frec_ge (x v : Int) (hx : v ≤ x) : ∀ (l : List Int) (m : Option Int), frec x m l = frec x m (l.filter fun y => decide (v ≤ y))
  | [], _ => rfl
  | y :: l, m => by
    by_cases h : v ≤ y
    · rw [List.filter_cons, if_pos (by simpa using h), frec, frec, frec_ge x v hx l, frec_ge x v hx l]
    · rw [List.filter_cons, if_neg (by simpa using h), frec, if_neg (fun z => by omega), frec_ge x v hx l]
def mo (v : Int) : Option Int → Option Int
  | none => some v
  | some a => if a < v then some a else some v
theorem frec_lt (x v : Int) : ∀ (l : List Int) (m : Option Int), (∀ a, m = some a → a < v) → frec x (mo v m) l = frec x m (l.filter fun y => decide (y < v))
  | [], _, _ => rfl
  | y :: l, m, hm => by
    have mv : mo v m = some v ∧ m = none ∨ ∃ a, m = some a ∧ mo v m = some a ∧ a < v := by
      cases m with
      | none => exact .inl ⟨rfl, rfl⟩
      | some a => exact .inr ⟨a, rfl, by rw [mo, if_pos (hm a rfl)], hm a rfl⟩
    by_cases h : y < v
    · rw [List.filter_cons, if_pos (by simpa using h), frec, frec]
      have key : (x < y ∧ ∀ a, mo v m = some a → y < a) ↔ (x < y ∧ ∀ a, m = some a → y < a) := by
        rcases mv with ⟨e1, e2⟩ | ⟨a, e1, e2, _⟩
        · rw [e1, e2]
          exact ⟨fun z => ⟨z.1, fun a e => by cases e⟩, fun z => ⟨z.1, fun a e => by cases e; exact h⟩⟩
        · rw [e2, e1]
      by_cases c : x < y ∧ ∀ a, m = some a → y < a
      · rw [if_pos (key.mpr c), if_pos c]
        have ih := frec_lt x v l (some y) (fun a e => by cases e; exact h)
        have e : mo v (some y) = some y := by rw [mo, if_pos h]
        rw [e] at ih
        rw [ih]
      · rw [if_neg (fun z => c (key.mp z)), if_neg c, frec_lt x v l m hm]
    · rw [List.filter_cons, if_neg (by simpa using h), frec, if_neg, frec_lt x v l m hm]
      rintro ⟨_, z⟩
      rcases mv with ⟨e1, _⟩ | ⟨a, _, e2, h3⟩
      · have := z v e1; omega
      · have := z a e2; omega
theorem frec_cons_lt (x v : Int) (h : x < v) (l : List Int) : frec x none (v :: l) = frec x none (l.filter fun y => decide (y < v)) + 1 := by
  rw [frec, if_pos ⟨h, fun a e => by cases e⟩, ← frec_lt x v l none (fun a e => by cases e)]
  rfl
theorem frec_cons_ge (x v : Int) (h : v ≤ x) (l : List Int) : frec x none (v :: l) = frec x none (l.filter fun y => decide (v ≤ y)) := by
  rw [frec, if_neg (fun z => by omega), ← frec_ge x v h l]
theorem recL_split (v : Int) : ∀ (l pre : List Int), mxL (recL (v :: pre) l) = max (if l.filter (fun y => decide (y < v)) = [] then 0 else mxL (recL (pre.filter fun y => decide (y < v)) (l.filter fun y => decide (y < v))) + 1) (mxL (recL (pre.filter fun y => decide (v ≤ y)) (l.filter fun y => decide (v ≤ y))))
  | [], pre => by simp [recL, mxL]
  | x :: l, pre => by
    have ih := recL_split v l (pre ++ [x])
    rw [recL, List.cons_append]
    show max (frec x none (v :: pre)) (mxL (recL (v :: (pre ++ [x])) l)) = _
    rw [ih, List.filter_append, List.filter_append]
    by_cases h : x < v
    · have h2 : ¬ v ≤ x := by omega
      simp only [List.filter_cons, List.filter_nil, h, h2, decide_true, decide_false, if_true, if_false, Bool.false_eq_true, List.append_nil]
      have e1 : (x :: l.filter (fun y => decide (y < v))) ≠ [] := List.cons_ne_nil _ _
      rw [frec_cons_lt x v h, if_neg e1, recL]
      show max _ (max _ _) = max (max (frec x none _) (mxL _) + 1) _
      by_cases e : l.filter (fun y => decide (y < v)) = []
      · rw [if_pos e, e]
        simp only [recL, mxL, List.foldr_nil]
        omega
      · rw [if_neg e]
        omega
    · have h2 : v ≤ x := by omega
      simp only [List.filter_cons, List.filter_nil, h, h2, decide_true, decide_false, if_true, if_false, Bool.false_eq_true, List.append_nil]
      rw [frec_cons_ge x v h2, recL]
      show max _ (max _ _) = max _ (max (frec x none _) (mxL _))
      omega
/-- the greatest number of a list -/
def mxR (vs : List Int) : Nat := mxL (recL [] vs)
theorem mxR_cons (v : Int) (r : List Int) : mxR (v :: r) = max (if r.filter (fun y => decide (y < v)) = [] then 0 else mxR (r.filter fun y => decide (y < v)) + 1) (mxR (r.filter fun y => decide (v ≤ y))) := by
  unfold mxR
  rw [recL]
  show max (frec v none []) (mxL (recL [v] r)) = _
  rw [recL_split v r [], List.filter_nil, List.filter_nil]
  exact Nat.zero_max _
theorem recL_high (A : List Int) : ∀ (X pre : List Int), (∀ a ∈ A, ∀ x ∈ X, a ≤ x) → recL (A ++ pre) X = recL pre X
  | [], _, _ => rfl
  | x :: X, pre, h => by
    rw [recL, recL, frec_app x A pre none fun a ha => h a ha x (by simp), List.append_assoc, recL_high A X (pre ++ [x]) fun a ha y hy => h a ha y (by simp [hy])]
theorem recL_app : ∀ (A X pre : List Int), recL pre (A ++ X) = recL pre A ++ recL (pre ++ A) X
  | [], X, pre => by simp [recL]
  | a :: A, X, pre => by
    rw [List.cons_append, recL, recL, recL_app A X (pre ++ [a])]
    simp
theorem mxR_parts (A X : List Int) (v : Int) (hA : ∀ a ∈ A, a < v) (hX : ∀ x ∈ X, v ≤ x) : mxR (A ++ v :: X) = max (mxR A) (mxR X) := by
  unfold mxR
  rw [recL_app, mxL_app, List.nil_append, recL, frec_low v A none (fun a ha => by have := hA a ha; omega)]
  have e := recL_high (A ++ [v]) X [] (fun a ha x hx => by
    have := hX x hx
    rcases List.mem_append.mp ha with z | z
    · have := hA a z; omega
    · simp at z; omega)
  rw [List.append_nil] at e
  rw [e]
  show max (mxL (recL [] A)) (max 0 (mxL (recL [] X))) = max (mxL (recL [] A)) (mxL (recL [] X))
  omega
/-- a pass at the right only takes away just one -/
theorem mxR_aft : ∀ (n : Nat) (vs : List Int), vs.length < n → mxR (aft plR n (some 0) vs) = mxR vs - 1
  | 0, _, h => by omega
  | n + 1, [], _ => by rw [aft_nil]; rfl
  | n + 1, v :: r, h => by
    have hl : (r.filter fun x => decide (v ≤ x)).length < n := by
      have := List.length_filter_le (fun x => decide (v ≤ x)) r
      simp at h
      omega
    rw [aftR, mxR_parts _ _ v (fun a ha => by simp at ha; exact ha.2) (ge_all (aft_perm plR n (some 0) _)), mxR_aft n _ hl, mxR_cons]
    by_cases e : r.filter (fun y => decide (y < v)) = []
    · rw [if_pos e, e]
      have : mxR ([] : List Int) = 0 := rfl
      omega
    · rw [if_neg e]
      omega
theorem mxR_onc (vs : List Int) (h : vs.length < 70) : mxR (onc plR vs) = mxR vs - 1 := mxR_aft 70 vs h
theorem mxR_zero : ∀ (n : Nat) (vs : List Int), vs.length ≤ n → (mxR vs = 0 ↔ vs.Pairwise (· ≤ ·))
  | 0, vs, h => by
    have : vs = [] := List.length_eq_zero_iff.mp (by omega)
    subst this
    exact ⟨fun _ => List.Pairwise.nil, fun _ => rfl⟩
  | n + 1, [], h => ⟨fun _ => List.Pairwise.nil, fun _ => rfl⟩
  | n + 1, v :: r, h => by
    rw [mxR_cons, List.pairwise_cons]
    by_cases e : r.filter (fun y => decide (y < v)) = []
    · have hv : ∀ y ∈ r, v ≤ y := fun y hy => by
        have := List.filter_eq_nil_iff.mp e y hy
        simp at this
        exact this
      rw [if_pos e, fil_allI (r := r) (f := fun y => decide (v ≤ y)) (fun y hy => by simpa using hv y hy), Nat.zero_max, mxR_zero n r (by simpa using h)]
      exact ⟨fun z => ⟨hv, z⟩, fun z => z.2⟩
    · rw [if_neg e]
      constructor
      · intro z; omega
      · intro z
        exact absurd (List.filter_eq_nil_iff.mpr fun y hy => by have := z.1 y hy; simp; omega) e
theorem oncR_stay (vs : List Int) (h : vs.length < 70) : onc plR vs = vs ↔ mxR vs = 0 := by
  constructor
  · intro e
    have := mxR_onc vs h
    rw [e] at this
    omega
  · intro e
    have sd := (mxR_zero _ vs (Nat.le_refl _)).mp e
    have : ∀ (n : Nat) (vs : List Int), vs.length < n → vs.Pairwise (· ≤ ·) → aft plR n (some 0) vs = vs := by
      intro n
      induction n with
      | zero => intro vs h; omega
      | succ n ih =>
        intro vs h sd
        cases vs with
        | nil => rw [aft_nil]
        | cons v r =>
          obtain ⟨h1, h2⟩ := List.pairwise_cons.mp sd
          rw [aftR, fil_noI (fun x hx => by have := h1 x hx; simp; omega), fil_allI (r := r) (f := fun x => decide (v ≤ x)) (fun x hx => by have := h1 x hx; simp; omega), ih r (by simp at h; omega) h2]
          rfl
    exact this 70 vs h sd
theorem npsR : ∀ (n : Nat) (vs : List Int), vs.length < 70 → mxR vs ≤ n → nps plR n vs = mxR vs
  | 0, vs, _, h => by rw [nps]; omega
  | n + 1, vs, hl, h => by
    rw [nps]
    by_cases e : onc plR vs = vs
    · rw [if_pos e, (oncR_stay vs hl).mp e]
    · have h0 : mxR vs ≠ 0 := fun z => e ((oncR_stay vs hl).mpr z)
      have := mxR_onc vs hl
      rw [if_neg e, npsR n (onc plR vs) (by rw [(onc_perm plR vs).length_eq]; exact hl) (by omega), this]
      omega
theorem pssR_mx : ∀ (n : Nat) (vs : List Int), vs.length < 70 → mxR (pss plR n vs) = mxR vs - n
  | 0, _, _ => rfl
  | n + 1, vs, h => by
    rw [pss, pssR_mx n _ (by rw [(onc_perm plR vs).length_eq]; exact h), mxR_onc vs h]
    omega
theorem recL_eq (vs : List Int) : ∀ (k : Nat), recL (vs.take k) (vs.drop k) = (List.range (vs.length - k)).map fun i => recN vs (k + i) := by
  have main : ∀ (m k : Nat), vs.length - k = m → recL (vs.take k) (vs.drop k) = (List.range m).map fun i => recN vs (k + i) := by
    intro m
    induction m with
    | zero =>
      intro k h
      rw [List.drop_of_length_le (by omega)]
      rfl
    | succ m ih =>
      intro k h
      have hk : k < vs.length := by omega
      have e := List.drop_eq_getElem_cons hk
      rw [e, recL, ← List.take_succ_eq_append_getElem hk, ih (k + 1) (by omega), List.range_succ_eq_map, List.map_cons, List.map_map]
      have a0 : at0 vs k = vs[k] := by simp [at0, List.getD_eq_getElem?_getD, List.getElem?_eq_getElem hk]
      congr 1
      · unfold recN
        rw [Nat.add_zero, a0]
      · apply List.map_congr_left
        intro i _
        simp only [Function.comp_apply]
        congr 1
        omega
  intro k
  exact main _ k rfl
theorem recL_all (vs : List Int) : recL [] vs = (List.range vs.length).map fun i => recN vs i := by
  have := recL_eq vs 0
  simpa using this

end Law

end
section
set_option maxHeartbeats 4000000
namespace Law
open PySem PySem.Spec PyProof.Rows L2 Tr
/-! ### the law's numbers -/
theorem maxI_go : ∀ (l : List Nat) (n : Nat), (l.map fun (k : Nat) => (k : Int)).foldl max (n : Int) = ((max n (mxL l) : Nat) : Int)
  | [], n => by
    show (n : Int) = ((max n 0 : Nat) : Int)
    rw [Nat.max_zero]
  | x :: l, n => by
    rw [List.map_cons, List.foldl_cons, show max (n : Int) (x : Int) = ((max n x : Nat) : Int) by omega, maxI_go l (max n x)]
    show _ = ((max n (max x (mxL l)) : Nat) : Int)
    rw [Nat.max_assoc]
theorem maxI (l : List Nat) (h : l ≠ []) : maxT (intsT (l.map fun (k : Nat) => (k : Int))) = some (.int (mxL l : Nat)) := by
  cases l with
  | nil => exact absurd rfl h
  | cons x l =>
    show (ints? (((x :: l).map fun (k : Nat) => (k : Int)).map T.int)).bind (fun bs => (maxL bs).map T.int) = _
    rw [z_ints?, Option.bind_some]
    show some (T.int ((l.map fun (k : Nat) => (k : Int)).foldl max (x : Int))) = _
    rw [maxI_go l x]
    rfl
theorem z_eqI0 (a : List Int) : eqT (intsT a) (.lst []) = some (.bl (decide (a = []))) := z_eqI a []
theorem e_lr_C1 (pre : List Int) (h60 : pre.length ≤ 60) (x : Int) : s__law_records_C1 [some (intsT pre), some (.int x), none, none, none, none] = some (.ok (intsT (pre.filter fun v => decide (x < v))) [some (intsT pre), some (.int x), none, none, none, none]) := by
  unfold s__law_records_C1
  refine part (fun v => decide (x < v)) (by rw [sizeLine_eq]; omega) ?_ (by rfl) (by rfl) (fun y => ?_) (fun y => by rfl)
  · simp only [↓ev_bind, ↓ev_pure, ↓ev_rd, ↓ev_lf, ↓ev_vr, ↓ev_kc, ↓ev_mv, ↓ev_pp2, ↓ev_pp1, ↓ev_tnot, ↓ev_tand, ↓ev_tor, ↓ev_vand, ↓ev_vor, ↓ev_vnot, ↓ev_vif, ↓ev_fset, ↓ev_fdo, ↓ev_frt, ↓ev_fif, ↓ev_fnx, ↓ev_fbk, ↓ev_fct, ↓ev_fno, ↓ev_fsq, ↓ev_afI, ↓ev_fasg, ↓ev_faug, ↓ev_fseti, ↓ev_fpar2, ↓ev_fcall, ↓ev_fkw, ↓ev_fmu0, ↓ev_fmu1, ↓ev_pchn, ev_acn, ↓ev_aci, z_ixN0, pick, List.getD_cons_zero, List.getD_cons_succ, eq_self, ev_gset, ev_gnil, ev_gcons, ↓ev_go, ↓ev_fl, ↓ev_flgo, ↓ev_rsgo, z_add, z_addL, z_sub, z_cmp, z_int, z_intb, z_len, z_lent, z_bl, z_int?, z_lst, z_tup, z_seq, z_neg, z_isN, z_notN, z_isNi, z_isNn, z_isNl, z_isNs, z_isNt, z_list, z_listt, z_rev, z_eqi, z_nei, z_eqs, z_nes, z_eqb, z_neb, z_ixif, z_ml0, z_ml1, z_mt1, z_ml2, z_mt2, z_ml3, z_mt3, z_ml4, z_mt4, z_ml5, z_mt5, z_ml6, z_ml7, z_ml8, z_ml9, z_ml10, z_ml11, z_ml12, z_ml13, z_ml14, z_ixl0, z_ixt0, z_ixl1, z_ixt1, z_ixl2, z_ixt2, z_ixl3, z_ixt3, z_ixl4, z_ixt4, z_ixl5, z_ixl6, z_ixl7, z_ixl8, z_ixl9, z_ixl10, z_ixl11, z_ixl12, z_ixl13, fill_nil, fill_no, fill_so, put_of, hole_nil, hole_no, hole_so, back_no, back_so, fin_rt, fin_nx, fin_ex, mix_nil, mix_sh, mix_ow, Option.map_some, Option.bind_some, Option.join_some, Option.bind_none, Option.map_none, List.getElem?_cons_zero, List.getElem?_cons_succ, List.set_cons_zero, List.set_cons_succ, List.map_nil, List.map_cons, List.append_nil, List.nil_append, List.cons_append, List.length_cons, List.length_nil, List.replicate_succ, List.replicate_zero, Nat.reduceAdd, Nat.reduceSub, ↓reduceIte, Bool.not_true, Bool.not_false, Bool.false_eq_true, Bool.true_eq_false, Int.reduceLT, Int.reduceLE, Int.reduceAdd, Int.reduceSub, Int.reduceMul, Int.reduceNeg, Int.reduceEq, decide_true, decide_false, decide_eq_true_eq, Bool.not_eq_true, decide_eq_false_iff_not, ↓ev_fraise, ↓ev_ftry, tr_nx, lose_nil, lose_cons, lose_so, z_isNx, z_tuple]
  · simp only [↓ev_bind, ↓ev_pure, ↓ev_rd, ↓ev_lf, ↓ev_vr, ↓ev_kc, ↓ev_mv, ↓ev_pp2, ↓ev_pp1, ↓ev_tnot, ↓ev_tand, ↓ev_tor, ↓ev_vand, ↓ev_vor, ↓ev_vnot, ↓ev_vif, ↓ev_fset, ↓ev_fdo, ↓ev_frt, ↓ev_fif, ↓ev_fnx, ↓ev_fbk, ↓ev_fct, ↓ev_fno, ↓ev_fsq, ↓ev_afI, ↓ev_fasg, ↓ev_faug, ↓ev_fseti, ↓ev_fpar2, ↓ev_fcall, ↓ev_fkw, ↓ev_fmu0, ↓ev_fmu1, ↓ev_pchn, ev_acn, ↓ev_aci, z_ixN0, pick, List.getD_cons_zero, List.getD_cons_succ, eq_self, ev_gset, ev_gnil, ev_gcons, ↓ev_go, ↓ev_fl, ↓ev_flgo, ↓ev_rsgo, z_add, z_addL, z_sub, z_cmp, z_int, z_intb, z_len, z_lent, z_bl, z_int?, z_lst, z_tup, z_seq, z_neg, z_isN, z_notN, z_isNi, z_isNn, z_isNl, z_isNs, z_isNt, z_list, z_listt, z_rev, z_eqi, z_nei, z_eqs, z_nes, z_eqb, z_neb, z_ixif, z_ml0, z_ml1, z_mt1, z_ml2, z_mt2, z_ml3, z_mt3, z_ml4, z_mt4, z_ml5, z_mt5, z_ml6, z_ml7, z_ml8, z_ml9, z_ml10, z_ml11, z_ml12, z_ml13, z_ml14, z_ixl0, z_ixt0, z_ixl1, z_ixt1, z_ixl2, z_ixt2, z_ixl3, z_ixt3, z_ixl4, z_ixt4, z_ixl5, z_ixl6, z_ixl7, z_ixl8, z_ixl9, z_ixl10, z_ixl11, z_ixl12, z_ixl13, fill_nil, fill_no, fill_so, put_of, hole_nil, hole_no, hole_so, back_no, back_so, fin_rt, fin_nx, fin_ex, mix_nil, mix_sh, mix_ow, Option.map_some, Option.bind_some, Option.join_some, Option.bind_none, Option.map_none, List.getElem?_cons_zero, List.getElem?_cons_succ, List.set_cons_zero, List.set_cons_succ, List.map_nil, List.map_cons, List.append_nil, List.nil_append, List.cons_append, List.length_cons, List.length_nil, List.replicate_succ, List.replicate_zero, Nat.reduceAdd, Nat.reduceSub, ↓reduceIte, Bool.not_true, Bool.not_false, Bool.false_eq_true, Bool.true_eq_false, Int.reduceLT, Int.reduceLE, Int.reduceAdd, Int.reduceSub, Int.reduceMul, Int.reduceNeg, Int.reduceEq, decide_true, decide_false, decide_eq_true_eq, Bool.not_eq_true, decide_eq_false_iff_not, ↓ev_fraise, ↓ev_ftry, tr_nx, lose_nil, lose_cons, lose_so, z_isNx, z_tuple]
theorem e_lr_C3 (a0 a1 : Option T) (a : List Int) (h60 : a.length ≤ 60) (v : Int) (k : Nat) : s__law_records_C3 [a0, a1, some (intsT a), some (.int v), some (.int (k : Int)), none] = some (.ok (intsT ((a.take k).filter fun y => decide (y ≤ v))) [a0, a1, some (intsT a), some (.int v), some (.int (k : Int)), none]) := by
  unfold s__law_records_C3
  have sl := sl_to a k
  refine part (fun y => decide (y ≤ v)) (by rw [sizeLine_eq, List.length_take]; omega) ?_ (by rfl) (by rfl) (fun x => ?_) (fun x => by rfl)
  · simp only [↓ev_bind, ↓ev_pure, ↓ev_rd, ↓ev_lf, ↓ev_vr, ↓ev_kc, ↓ev_mv, ↓ev_pp2, ↓ev_pp1, ↓ev_tnot, ↓ev_tand, ↓ev_tor, ↓ev_vand, ↓ev_vor, ↓ev_vnot, ↓ev_vif, ↓ev_fset, ↓ev_fdo, ↓ev_frt, ↓ev_fif, ↓ev_fnx, ↓ev_fbk, ↓ev_fct, ↓ev_fno, ↓ev_fsq, ↓ev_afI, ↓ev_fasg, ↓ev_faug, ↓ev_fseti, ↓ev_fpar2, ↓ev_fcall, ↓ev_fkw, ↓ev_fmu0, ↓ev_fmu1, ↓ev_pchn, ev_acn, ↓ev_aci, z_ixN0, pick, List.getD_cons_zero, List.getD_cons_succ, eq_self, ev_gset, ev_gnil, ev_gcons, ↓ev_go, ↓ev_fl, ↓ev_flgo, ↓ev_rsgo, z_add, z_addL, z_sub, z_cmp, z_int, z_intb, z_len, z_lent, z_bl, z_int?, z_lst, z_tup, z_seq, z_neg, z_isN, z_notN, z_isNi, z_isNn, z_isNl, z_isNs, z_isNt, z_list, z_listt, z_rev, z_eqi, z_nei, z_eqs, z_nes, z_eqb, z_neb, z_ixif, z_ml0, z_ml1, z_mt1, z_ml2, z_mt2, z_ml3, z_mt3, z_ml4, z_mt4, z_ml5, z_mt5, z_ml6, z_ml7, z_ml8, z_ml9, z_ml10, z_ml11, z_ml12, z_ml13, z_ml14, z_ixl0, z_ixt0, z_ixl1, z_ixt1, z_ixl2, z_ixt2, z_ixl3, z_ixt3, z_ixl4, z_ixt4, z_ixl5, z_ixl6, z_ixl7, z_ixl8, z_ixl9, z_ixl10, z_ixl11, z_ixl12, z_ixl13, fill_nil, fill_no, fill_so, put_of, hole_nil, hole_no, hole_so, back_no, back_so, fin_rt, fin_nx, fin_ex, mix_nil, mix_sh, mix_ow, Option.map_some, Option.bind_some, Option.join_some, Option.bind_none, Option.map_none, List.getElem?_cons_zero, List.getElem?_cons_succ, List.set_cons_zero, List.set_cons_succ, List.map_nil, List.map_cons, List.append_nil, List.nil_append, List.cons_append, List.length_cons, List.length_nil, List.replicate_succ, List.replicate_zero, Nat.reduceAdd, Nat.reduceSub, ↓reduceIte, Bool.not_true, Bool.not_false, Bool.false_eq_true, Bool.true_eq_false, Int.reduceLT, Int.reduceLE, Int.reduceAdd, Int.reduceSub, Int.reduceMul, Int.reduceNeg, Int.reduceEq, decide_true, decide_false, decide_eq_true_eq, Bool.not_eq_true, decide_eq_false_iff_not, ↓ev_fraise, ↓ev_ftry, tr_nx, lose_nil, lose_cons, lose_so, z_isNx, z_tuple, sl]
  · simp only [↓ev_bind, ↓ev_pure, ↓ev_rd, ↓ev_lf, ↓ev_vr, ↓ev_kc, ↓ev_mv, ↓ev_pp2, ↓ev_pp1, ↓ev_tnot, ↓ev_tand, ↓ev_tor, ↓ev_vand, ↓ev_vor, ↓ev_vnot, ↓ev_vif, ↓ev_fset, ↓ev_fdo, ↓ev_frt, ↓ev_fif, ↓ev_fnx, ↓ev_fbk, ↓ev_fct, ↓ev_fno, ↓ev_fsq, ↓ev_afI, ↓ev_fasg, ↓ev_faug, ↓ev_fseti, ↓ev_fpar2, ↓ev_fcall, ↓ev_fkw, ↓ev_fmu0, ↓ev_fmu1, ↓ev_pchn, ev_acn, ↓ev_aci, z_ixN0, pick, List.getD_cons_zero, List.getD_cons_succ, eq_self, ev_gset, ev_gnil, ev_gcons, ↓ev_go, ↓ev_fl, ↓ev_flgo, ↓ev_rsgo, z_add, z_addL, z_sub, z_cmp, z_int, z_intb, z_len, z_lent, z_bl, z_int?, z_lst, z_tup, z_seq, z_neg, z_isN, z_notN, z_isNi, z_isNn, z_isNl, z_isNs, z_isNt, z_list, z_listt, z_rev, z_eqi, z_nei, z_eqs, z_nes, z_eqb, z_neb, z_ixif, z_ml0, z_ml1, z_mt1, z_ml2, z_mt2, z_ml3, z_mt3, z_ml4, z_mt4, z_ml5, z_mt5, z_ml6, z_ml7, z_ml8, z_ml9, z_ml10, z_ml11, z_ml12, z_ml13, z_ml14, z_ixl0, z_ixt0, z_ixl1, z_ixt1, z_ixl2, z_ixt2, z_ixl3, z_ixt3, z_ixl4, z_ixt4, z_ixl5, z_ixl6, z_ixl7, z_ixl8, z_ixl9, z_ixl10, z_ixl11, z_ixl12, z_ixl13, fill_nil, fill_no, fill_so, put_of, hole_nil, hole_no, hole_so, back_no, back_so, fin_rt, fin_nx, fin_ex, mix_nil, mix_sh, mix_ow, Option.map_some, Option.bind_some, Option.join_some, Option.bind_none, Option.map_none, List.getElem?_cons_zero, List.getElem?_cons_succ, List.set_cons_zero, List.set_cons_succ, List.map_nil, List.map_cons, List.append_nil, List.nil_append, List.cons_append, List.length_cons, List.length_nil, List.replicate_succ, List.replicate_zero, Nat.reduceAdd, Nat.reduceSub, ↓reduceIte, Bool.not_true, Bool.not_false, Bool.false_eq_true, Bool.true_eq_false, Int.reduceLT, Int.reduceLE, Int.reduceAdd, Int.reduceSub, Int.reduceMul, Int.reduceNeg, Int.reduceEq, decide_true, decide_false, decide_eq_true_eq, Bool.not_eq_true, decide_eq_false_iff_not, ↓ev_fraise, ↓ev_ftry, tr_nx, lose_nil, lose_cons, lose_so, z_isNx, z_tuple]
theorem e_lr_C2 (a0 a1 : Option T) (a : List Int) (h60 : a.length ≤ 60) : s__law_records_C2 [a0, a1, some (intsT a), none, none, none] = some (.ok (.lst (((List.range a.length).filter fun k => decide ((a.take k).filter (fun y => decide (y ≤ at0 a k)) = [])).map fun (k : Nat) => T.int (k : Int))) [a0, a1, some (intsT a), none, none, none]) := by
  unfold s__law_records_C2
  refine flc_fm (vs := [4, 3]) (E1 := [a0, a1, some (intsT a), none, none, none]) (xs := List.range a.length) (fun (k : Nat) => .tup [.int (k : Int), .int (at0 a k)]) (fun (k : Nat) => .int (k : Int)) (fun k => decide ((a.take k).filter (fun y => decide (y ≤ at0 a k)) = [])) ?_ (by rfl) (by rw [sizeLine_eq, List.length_range]; omega) (fun k hk => ⟨[a0, a1, some (intsT a), some (.int (at0 a k)), some (.int (k : Int)), none], rfl, rfl, ?_, fun _ => by simp only [↓ev_bind, ↓ev_pure, ↓ev_rd, ↓ev_lf, ↓ev_vr, ↓ev_kc, ↓ev_mv, ↓ev_pp2, ↓ev_pp1, ↓ev_tnot, ↓ev_tand, ↓ev_tor, ↓ev_vand, ↓ev_vor, ↓ev_vnot, ↓ev_vif, ↓ev_fset, ↓ev_fdo, ↓ev_frt, ↓ev_fif, ↓ev_fnx, ↓ev_fbk, ↓ev_fct, ↓ev_fno, ↓ev_fsq, ↓ev_afI, ↓ev_fasg, ↓ev_faug, ↓ev_fseti, ↓ev_fpar2, ↓ev_fcall, ↓ev_fkw, ↓ev_fmu0, ↓ev_fmu1, ↓ev_pchn, ev_acn, ↓ev_aci, z_ixN0, pick, List.getD_cons_zero, List.getD_cons_succ, eq_self, ev_gset, ev_gnil, ev_gcons, ↓ev_go, ↓ev_fl, ↓ev_flgo, ↓ev_rsgo, z_add, z_addL, z_sub, z_cmp, z_int, z_intb, z_len, z_lent, z_bl, z_int?, z_lst, z_tup, z_seq, z_neg, z_isN, z_notN, z_isNi, z_isNn, z_isNl, z_isNs, z_isNt, z_list, z_listt, z_rev, z_eqi, z_nei, z_eqs, z_nes, z_eqb, z_neb, z_ixif, z_ml0, z_ml1, z_mt1, z_ml2, z_mt2, z_ml3, z_mt3, z_ml4, z_mt4, z_ml5, z_mt5, z_ml6, z_ml7, z_ml8, z_ml9, z_ml10, z_ml11, z_ml12, z_ml13, z_ml14, z_ixl0, z_ixt0, z_ixl1, z_ixt1, z_ixl2, z_ixt2, z_ixl3, z_ixt3, z_ixl4, z_ixt4, z_ixl5, z_ixl6, z_ixl7, z_ixl8, z_ixl9, z_ixl10, z_ixl11, z_ixl12, z_ixl13, fill_nil, fill_no, fill_so, put_of, hole_nil, hole_no, hole_so, back_no, back_so, fin_rt, fin_nx, fin_ex, mix_nil, mix_sh, mix_ow, Option.map_some, Option.bind_some, Option.join_some, Option.bind_none, Option.map_none, List.getElem?_cons_zero, List.getElem?_cons_succ, List.set_cons_zero, List.set_cons_succ, List.map_nil, List.map_cons, List.append_nil, List.nil_append, List.cons_append, List.length_cons, List.length_nil, List.replicate_succ, List.replicate_zero, Nat.reduceAdd, Nat.reduceSub, ↓reduceIte, Bool.not_true, Bool.not_false, Bool.false_eq_true, Bool.true_eq_false, Int.reduceLT, Int.reduceLE, Int.reduceAdd, Int.reduceSub, Int.reduceMul, Int.reduceNeg, Int.reduceEq, decide_true, decide_false, decide_eq_true_eq, Bool.not_eq_true, decide_eq_false_iff_not, ↓ev_fraise, ↓ev_ftry, tr_nx, lose_nil, lose_cons, lose_so, z_isNx, z_tuple]⟩)
  · simp only [↓ev_bind, ↓ev_pure, ↓ev_rd, ↓ev_lf, ↓ev_vr, ↓ev_kc, ↓ev_mv, ↓ev_pp2, ↓ev_pp1, ↓ev_tnot, ↓ev_tand, ↓ev_tor, ↓ev_vand, ↓ev_vor, ↓ev_vnot, ↓ev_vif, ↓ev_fset, ↓ev_fdo, ↓ev_frt, ↓ev_fif, ↓ev_fnx, ↓ev_fbk, ↓ev_fct, ↓ev_fno, ↓ev_fsq, ↓ev_afI, ↓ev_fasg, ↓ev_faug, ↓ev_fseti, ↓ev_fpar2, ↓ev_fcall, ↓ev_fkw, ↓ev_fmu0, ↓ev_fmu1, ↓ev_pchn, ev_acn, ↓ev_aci, z_ixN0, pick, List.getD_cons_zero, List.getD_cons_succ, eq_self, ev_gset, ev_gnil, ev_gcons, ↓ev_go, ↓ev_fl, ↓ev_flgo, ↓ev_rsgo, z_add, z_addL, z_sub, z_cmp, z_int, z_intb, z_len, z_lent, z_bl, z_int?, z_lst, z_tup, z_seq, z_neg, z_isN, z_notN, z_isNi, z_isNn, z_isNl, z_isNs, z_isNt, z_list, z_listt, z_rev, z_eqi, z_nei, z_eqs, z_nes, z_eqb, z_neb, z_ixif, z_ml0, z_ml1, z_mt1, z_ml2, z_mt2, z_ml3, z_mt3, z_ml4, z_mt4, z_ml5, z_mt5, z_ml6, z_ml7, z_ml8, z_ml9, z_ml10, z_ml11, z_ml12, z_ml13, z_ml14, z_ixl0, z_ixt0, z_ixl1, z_ixt1, z_ixl2, z_ixt2, z_ixl3, z_ixt3, z_ixl4, z_ixt4, z_ixl5, z_ixl6, z_ixl7, z_ixl8, z_ixl9, z_ixl10, z_ixl11, z_ixl12, z_ixl13, fill_nil, fill_no, fill_so, put_of, hole_nil, hole_no, hole_so, back_no, back_so, fin_rt, fin_nx, fin_ex, mix_nil, mix_sh, mix_ow, Option.map_some, Option.bind_some, Option.join_some, Option.bind_none, Option.map_none, List.getElem?_cons_zero, List.getElem?_cons_succ, List.set_cons_zero, List.set_cons_succ, List.map_nil, List.map_cons, List.append_nil, List.nil_append, List.cons_append, List.length_cons, List.length_nil, List.replicate_succ, List.replicate_zero, Nat.reduceAdd, Nat.reduceSub, ↓reduceIte, Bool.not_true, Bool.not_false, Bool.false_eq_true, Bool.true_eq_false, Int.reduceLT, Int.reduceLE, Int.reduceAdd, Int.reduceSub, Int.reduceMul, Int.reduceNeg, Int.reduceEq, decide_true, decide_false, decide_eq_true_eq, Bool.not_eq_true, decide_eq_false_iff_not, ↓ev_fraise, ↓ev_ftry, tr_nx, lose_nil, lose_cons, lose_so, z_isNx, z_tuple, enum_rng]
  · simp only [↓ev_bind, ↓ev_pure, ↓ev_rd, ↓ev_lf, ↓ev_vr, ↓ev_kc, ↓ev_mv, ↓ev_pp2, ↓ev_pp1, ↓ev_tnot, ↓ev_tand, ↓ev_tor, ↓ev_vand, ↓ev_vor, ↓ev_vnot, ↓ev_vif, ↓ev_fset, ↓ev_fdo, ↓ev_frt, ↓ev_fif, ↓ev_fnx, ↓ev_fbk, ↓ev_fct, ↓ev_fno, ↓ev_fsq, ↓ev_afI, ↓ev_fasg, ↓ev_faug, ↓ev_fseti, ↓ev_fpar2, ↓ev_fcall, ↓ev_fkw, ↓ev_fmu0, ↓ev_fmu1, ↓ev_pchn, ev_acn, ↓ev_aci, z_ixN0, pick, List.getD_cons_zero, List.getD_cons_succ, eq_self, ev_gset, ev_gnil, ev_gcons, ↓ev_go, ↓ev_fl, ↓ev_flgo, ↓ev_rsgo, z_add, z_addL, z_sub, z_cmp, z_int, z_intb, z_len, z_lent, z_bl, z_int?, z_lst, z_tup, z_seq, z_neg, z_isN, z_notN, z_isNi, z_isNn, z_isNl, z_isNs, z_isNt, z_list, z_listt, z_rev, z_eqi, z_nei, z_eqs, z_nes, z_eqb, z_neb, z_ixif, z_ml0, z_ml1, z_mt1, z_ml2, z_mt2, z_ml3, z_mt3, z_ml4, z_mt4, z_ml5, z_mt5, z_ml6, z_ml7, z_ml8, z_ml9, z_ml10, z_ml11, z_ml12, z_ml13, z_ml14, z_ixl0, z_ixt0, z_ixl1, z_ixt1, z_ixl2, z_ixt2, z_ixl3, z_ixt3, z_ixl4, z_ixt4, z_ixl5, z_ixl6, z_ixl7, z_ixl8, z_ixl9, z_ixl10, z_ixl11, z_ixl12, z_ixl13, fill_nil, fill_no, fill_so, put_of, hole_nil, hole_no, hole_so, back_no, back_so, fin_rt, fin_nx, fin_ex, mix_nil, mix_sh, mix_ow, Option.map_some, Option.bind_some, Option.join_some, Option.bind_none, Option.map_none, List.getElem?_cons_zero, List.getElem?_cons_succ, List.set_cons_zero, List.set_cons_succ, List.map_nil, List.map_cons, List.append_nil, List.nil_append, List.cons_append, List.length_cons, List.length_nil, List.replicate_succ, List.replicate_zero, Nat.reduceAdd, Nat.reduceSub, ↓reduceIte, Bool.not_true, Bool.not_false, Bool.false_eq_true, Bool.true_eq_false, Int.reduceLT, Int.reduceLE, Int.reduceAdd, Int.reduceSub, Int.reduceMul, Int.reduceNeg, Int.reduceEq, decide_true, decide_false, decide_eq_true_eq, Bool.not_eq_true, decide_eq_false_iff_not, ↓ev_fraise, ↓ev_ftry, tr_nx, lose_nil, lose_cons, lose_so, z_isNx, z_tuple, e_lr_C3 _ _ a h60, z_eqI0]
theorem e_lrecords (pre : List Int) (h60 : pre.length ≤ 60) (x : Int) : runF [.sh, .sh] 6 s__law_records [intsT pre, .int x] = some (.ok (.int (frec x none pre : Nat)) [intsT pre, .int x]) := by
  have hl : (pre.filter fun v => decide (x < v)).length ≤ 60 := Nat.le_trans (List.length_filter_le _ _) h60
  have e2 := e_lr_C2 (some (intsT pre)) (some (.int x)) _ hl
  have r := rng_lrec (pre.filter fun v => decide (x < v)) []
  rw [lrec_frec x pre none [] ⟨fun y hy => by simp at hy, fun a e => by cases e⟩] at r
  simp only [List.nil_append] at r
  rw [run_ev]
  simp only [s__law_records, ↓ev_bind, ↓ev_pure, ↓ev_rd, ↓ev_lf, ↓ev_vr, ↓ev_kc, ↓ev_mv, ↓ev_pp2, ↓ev_pp1, ↓ev_tnot, ↓ev_tand, ↓ev_tor, ↓ev_vand, ↓ev_vor, ↓ev_vnot, ↓ev_vif, ↓ev_fset, ↓ev_fdo, ↓ev_frt, ↓ev_fif, ↓ev_fnx, ↓ev_fbk, ↓ev_fct, ↓ev_fno, ↓ev_fsq, ↓ev_afI, ↓ev_fasg, ↓ev_faug, ↓ev_fseti, ↓ev_fpar2, ↓ev_fcall, ↓ev_fkw, ↓ev_fmu0, ↓ev_fmu1, ↓ev_pchn, ev_acn, ↓ev_aci, z_ixN0, pick, List.getD_cons_zero, List.getD_cons_succ, eq_self, ev_gset, ev_gnil, ev_gcons, ↓ev_go, ↓ev_fl, ↓ev_flgo, ↓ev_rsgo, z_add, z_addL, z_sub, z_cmp, z_int, z_intb, z_len, z_lent, z_bl, z_int?, z_lst, z_tup, z_seq, z_neg, z_isN, z_notN, z_isNi, z_isNn, z_isNl, z_isNs, z_isNt, z_list, z_listt, z_rev, z_eqi, z_nei, z_eqs, z_nes, z_eqb, z_neb, z_ixif, z_ml0, z_ml1, z_mt1, z_ml2, z_mt2, z_ml3, z_mt3, z_ml4, z_mt4, z_ml5, z_mt5, z_ml6, z_ml7, z_ml8, z_ml9, z_ml10, z_ml11, z_ml12, z_ml13, z_ml14, z_ixl0, z_ixt0, z_ixl1, z_ixt1, z_ixl2, z_ixt2, z_ixl3, z_ixt3, z_ixl4, z_ixt4, z_ixl5, z_ixl6, z_ixl7, z_ixl8, z_ixl9, z_ixl10, z_ixl11, z_ixl12, z_ixl13, fill_nil, fill_no, fill_so, put_of, hole_nil, hole_no, hole_so, back_no, back_so, fin_rt, fin_nx, fin_ex, mix_nil, mix_sh, mix_ow, Option.map_some, Option.bind_some, Option.join_some, Option.bind_none, Option.map_none, List.getElem?_cons_zero, List.getElem?_cons_succ, List.set_cons_zero, List.set_cons_succ, List.map_nil, List.map_cons, List.append_nil, List.nil_append, List.cons_append, List.length_cons, List.length_nil, List.replicate_succ, List.replicate_zero, Nat.reduceAdd, Nat.reduceSub, ↓reduceIte, Bool.not_true, Bool.not_false, Bool.false_eq_true, Bool.true_eq_false, Int.reduceLT, Int.reduceLE, Int.reduceAdd, Int.reduceSub, Int.reduceMul, Int.reduceNeg, Int.reduceEq, decide_true, decide_false, decide_eq_true_eq, Bool.not_eq_true, decide_eq_false_iff_not, ↓ev_fraise, ↓ev_ftry, tr_nx, lose_nil, lose_cons, lose_so, z_isNx, z_tuple, e_lr_C1 pre h60 x, e2, List.length_map]
  rw [show frec x none pre = _ from r.symm]
  rfl
def recs (vs : List Int) : List Nat := (List.range vs.length).map fun i => recN vs i
theorem mx_recs (vs : List Int) : mxL (recs vs) = mxR vs := by
  unfold mxR
  rw [recL_all]
  rfl
abbrev recsI (vs : List Int) : List Int := (recs vs).map fun (k : Nat) => (k : Int)
theorem recsI_T (vs : List Int) : intsT (recsI vs) = .lst ((List.range vs.length).map fun i => T.int (recN vs i : Nat)) := by
  simp only [intsT, recsI, recs, List.map_map]
  rfl
theorem recs_len (vs : List Int) : (recs vs).length = vs.length := by simp [recs]
theorem e_all_records (vs : List Int) (h60 : vs.length ≤ 60) : runF [.sh] 3 s__law_all_records [intsT vs] = some (.ok (intsT (recsI vs)) [intsT vs]) := by
  have c1 : s__law_all_records_C1 [some (intsT vs), none, none] = some (.ok (intsT (recsI vs)) [some (intsT vs), none, none]) := by
    rw [recsI_T]
    unfold s__law_all_records_C1
    refine flc_map (vs := [1, 2]) (E1 := [some (intsT vs), none, none]) (xs := List.range vs.length) (fun (k : Nat) => .tup [.int (k : Int), .int (at0 vs k)]) (fun (k : Nat) => T.int (recN vs k : Nat)) ?_ (by rfl) (by rw [sizeLine_eq, List.length_range]; omega) (fun k hk => ⟨[some (intsT vs), some (.int (k : Int)), some (.int (at0 vs k))], rfl, rfl, rfl, ?_⟩)
    · simp only [↓ev_bind, ↓ev_pure, ↓ev_rd, ↓ev_lf, ↓ev_vr, ↓ev_kc, ↓ev_mv, ↓ev_pp2, ↓ev_pp1, ↓ev_tnot, ↓ev_tand, ↓ev_tor, ↓ev_vand, ↓ev_vor, ↓ev_vnot, ↓ev_vif, ↓ev_fset, ↓ev_fdo, ↓ev_frt, ↓ev_fif, ↓ev_fnx, ↓ev_fbk, ↓ev_fct, ↓ev_fno, ↓ev_fsq, ↓ev_afI, ↓ev_fasg, ↓ev_faug, ↓ev_fseti, ↓ev_fpar2, ↓ev_fcall, ↓ev_fkw, ↓ev_fmu0, ↓ev_fmu1, ↓ev_pchn, ev_acn, ↓ev_aci, z_ixN0, pick, List.getD_cons_zero, List.getD_cons_succ, eq_self, ev_gset, ev_gnil, ev_gcons, ↓ev_go, ↓ev_fl, ↓ev_flgo, ↓ev_rsgo, z_add, z_addL, z_sub, z_cmp, z_int, z_intb, z_len, z_lent, z_bl, z_int?, z_lst, z_tup, z_seq, z_neg, z_isN, z_notN, z_isNi, z_isNn, z_isNl, z_isNs, z_isNt, z_list, z_listt, z_rev, z_eqi, z_nei, z_eqs, z_nes, z_eqb, z_neb, z_ixif, z_ml0, z_ml1, z_mt1, z_ml2, z_mt2, z_ml3, z_mt3, z_ml4, z_mt4, z_ml5, z_mt5, z_ml6, z_ml7, z_ml8, z_ml9, z_ml10, z_ml11, z_ml12, z_ml13, z_ml14, z_ixl0, z_ixt0, z_ixl1, z_ixt1, z_ixl2, z_ixt2, z_ixl3, z_ixt3, z_ixl4, z_ixt4, z_ixl5, z_ixl6, z_ixl7, z_ixl8, z_ixl9, z_ixl10, z_ixl11, z_ixl12, z_ixl13, fill_nil, fill_no, fill_so, put_of, hole_nil, hole_no, hole_so, back_no, back_so, fin_rt, fin_nx, fin_ex, mix_nil, mix_sh, mix_ow, Option.map_some, Option.bind_some, Option.join_some, Option.bind_none, Option.map_none, List.getElem?_cons_zero, List.getElem?_cons_succ, List.set_cons_zero, List.set_cons_succ, List.map_nil, List.map_cons, List.append_nil, List.nil_append, List.cons_append, List.length_cons, List.length_nil, List.replicate_succ, List.replicate_zero, Nat.reduceAdd, Nat.reduceSub, ↓reduceIte, Bool.not_true, Bool.not_false, Bool.false_eq_true, Bool.true_eq_false, Int.reduceLT, Int.reduceLE, Int.reduceAdd, Int.reduceSub, Int.reduceMul, Int.reduceNeg, Int.reduceEq, decide_true, decide_false, decide_eq_true_eq, Bool.not_eq_true, decide_eq_false_iff_not, ↓ev_fraise, ↓ev_ftry, tr_nx, lose_nil, lose_cons, lose_so, z_isNx, z_tuple, enum_rng]
    · have sl := sl_to vs k
      have e := e_lrecords (vs.take k) (by rw [List.length_take]; omega) (at0 vs k)
      simp only [↓ev_bind, ↓ev_pure, ↓ev_rd, ↓ev_lf, ↓ev_vr, ↓ev_kc, ↓ev_mv, ↓ev_pp2, ↓ev_pp1, ↓ev_tnot, ↓ev_tand, ↓ev_tor, ↓ev_vand, ↓ev_vor, ↓ev_vnot, ↓ev_vif, ↓ev_fset, ↓ev_fdo, ↓ev_frt, ↓ev_fif, ↓ev_fnx, ↓ev_fbk, ↓ev_fct, ↓ev_fno, ↓ev_fsq, ↓ev_afI, ↓ev_fasg, ↓ev_faug, ↓ev_fseti, ↓ev_fpar2, ↓ev_fcall, ↓ev_fkw, ↓ev_fmu0, ↓ev_fmu1, ↓ev_pchn, ev_acn, ↓ev_aci, z_ixN0, pick, List.getD_cons_zero, List.getD_cons_succ, eq_self, ev_gset, ev_gnil, ev_gcons, ↓ev_go, ↓ev_fl, ↓ev_flgo, ↓ev_rsgo, z_add, z_addL, z_sub, z_cmp, z_int, z_intb, z_len, z_lent, z_bl, z_int?, z_lst, z_tup, z_seq, z_neg, z_isN, z_notN, z_isNi, z_isNn, z_isNl, z_isNs, z_isNt, z_list, z_listt, z_rev, z_eqi, z_nei, z_eqs, z_nes, z_eqb, z_neb, z_ixif, z_ml0, z_ml1, z_mt1, z_ml2, z_mt2, z_ml3, z_mt3, z_ml4, z_mt4, z_ml5, z_mt5, z_ml6, z_ml7, z_ml8, z_ml9, z_ml10, z_ml11, z_ml12, z_ml13, z_ml14, z_ixl0, z_ixt0, z_ixl1, z_ixt1, z_ixl2, z_ixt2, z_ixl3, z_ixt3, z_ixl4, z_ixt4, z_ixl5, z_ixl6, z_ixl7, z_ixl8, z_ixl9, z_ixl10, z_ixl11, z_ixl12, z_ixl13, fill_nil, fill_no, fill_so, put_of, hole_nil, hole_no, hole_so, back_no, back_so, fin_rt, fin_nx, fin_ex, mix_nil, mix_sh, mix_ow, Option.map_some, Option.bind_some, Option.join_some, Option.bind_none, Option.map_none, List.getElem?_cons_zero, List.getElem?_cons_succ, List.set_cons_zero, List.set_cons_succ, List.map_nil, List.map_cons, List.append_nil, List.nil_append, List.cons_append, List.length_cons, List.length_nil, List.replicate_succ, List.replicate_zero, Nat.reduceAdd, Nat.reduceSub, ↓reduceIte, Bool.not_true, Bool.not_false, Bool.false_eq_true, Bool.true_eq_false, Int.reduceLT, Int.reduceLE, Int.reduceAdd, Int.reduceSub, Int.reduceMul, Int.reduceNeg, Int.reduceEq, decide_true, decide_false, decide_eq_true_eq, Bool.not_eq_true, decide_eq_false_iff_not, ↓ev_fraise, ↓ev_ftry, tr_nx, lose_nil, lose_cons, lose_so, z_isNx, z_tuple, sl, e]
      rfl
  rw [run_ev]
  simp only [s__law_all_records, ↓ev_bind, ↓ev_pure, ↓ev_rd, ↓ev_lf, ↓ev_vr, ↓ev_kc, ↓ev_mv, ↓ev_pp2, ↓ev_pp1, ↓ev_tnot, ↓ev_tand, ↓ev_tor, ↓ev_vand, ↓ev_vor, ↓ev_vnot, ↓ev_vif, ↓ev_fset, ↓ev_fdo, ↓ev_frt, ↓ev_fif, ↓ev_fnx, ↓ev_fbk, ↓ev_fct, ↓ev_fno, ↓ev_fsq, ↓ev_afI, ↓ev_fasg, ↓ev_faug, ↓ev_fseti, ↓ev_fpar2, ↓ev_fcall, ↓ev_fkw, ↓ev_fmu0, ↓ev_fmu1, ↓ev_pchn, ev_acn, ↓ev_aci, z_ixN0, pick, List.getD_cons_zero, List.getD_cons_succ, eq_self, ev_gset, ev_gnil, ev_gcons, ↓ev_go, ↓ev_fl, ↓ev_flgo, ↓ev_rsgo, z_add, z_addL, z_sub, z_cmp, z_int, z_intb, z_len, z_lent, z_bl, z_int?, z_lst, z_tup, z_seq, z_neg, z_isN, z_notN, z_isNi, z_isNn, z_isNl, z_isNs, z_isNt, z_list, z_listt, z_rev, z_eqi, z_nei, z_eqs, z_nes, z_eqb, z_neb, z_ixif, z_ml0, z_ml1, z_mt1, z_ml2, z_mt2, z_ml3, z_mt3, z_ml4, z_mt4, z_ml5, z_mt5, z_ml6, z_ml7, z_ml8, z_ml9, z_ml10, z_ml11, z_ml12, z_ml13, z_ml14, z_ixl0, z_ixt0, z_ixl1, z_ixt1, z_ixl2, z_ixt2, z_ixl3, z_ixt3, z_ixl4, z_ixt4, z_ixl5, z_ixl6, z_ixl7, z_ixl8, z_ixl9, z_ixl10, z_ixl11, z_ixl12, z_ixl13, fill_nil, fill_no, fill_so, put_of, hole_nil, hole_no, hole_so, back_no, back_so, fin_rt, fin_nx, fin_ex, mix_nil, mix_sh, mix_ow, Option.map_some, Option.bind_some, Option.join_some, Option.bind_none, Option.map_none, List.getElem?_cons_zero, List.getElem?_cons_succ, List.set_cons_zero, List.set_cons_succ, List.map_nil, List.map_cons, List.append_nil, List.nil_append, List.cons_append, List.length_cons, List.length_nil, List.replicate_succ, List.replicate_zero, Nat.reduceAdd, Nat.reduceSub, ↓reduceIte, Bool.not_true, Bool.not_false, Bool.false_eq_true, Bool.true_eq_false, Int.reduceLT, Int.reduceLE, Int.reduceAdd, Int.reduceSub, Int.reduceMul, Int.reduceNeg, Int.reduceEq, decide_true, decide_false, decide_eq_true_eq, Bool.not_eq_true, decide_eq_false_iff_not, ↓ev_fraise, ↓ev_ftry, tr_nx, lose_nil, lose_cons, lose_so, z_isNx, z_tuple, c1]
theorem max_recs (vs : List Int) (h : vs ≠ []) : maxT (intsT (recsI vs)) = some (.int (mxR vs : Nat)) := by
  rw [← mx_recs]
  refine maxI _ fun z => h ?_
  have := congrArg List.length z
  rw [recs_len] at this
  exact List.length_eq_zero_iff.mp this
theorem mxL_le {l : List Nat} {b : Nat} (h : ∀ x ∈ l, x ≤ b) : mxL l ≤ b := by
  induction l with
  | nil => exact Nat.zero_le _
  | cons x l ih =>
    have := h x (by simp)
    have := ih fun y hy => h y (by simp [hy])
    show max x (mxL l) ≤ b
    omega
theorem recN_le (vs : List Int) (i : Nat) : recN vs i ≤ vs.length := by
  have : ∀ (l : List Int) (m : Option Int), frec (at0 vs i) m l ≤ l.length := by
    intro l
    induction l with
    | nil => intro m; exact Nat.le_refl 0
    | cons v l ih =>
      intro m
      rw [frec]
      split
      · have := ih (some v)
        simp only [List.length_cons]
        omega
      · have := ih m
        simp only [List.length_cons]
        omega
  have h := this (vs.take i) none
  rw [List.length_take] at h
  unfold recN
  omega
theorem mxR_le (vs : List Int) : mxR vs ≤ vs.length := by
  rw [← mx_recs]
  refine mxL_le fun x hx => ?_
  obtain ⟨i, _, rfl⟩ := List.mem_map.mp hx
  exact recN_le vs i
theorem e_rpn (vs : List Int) (h60 : vs.length ≤ 60) : runF [.sh] 2 s_right_passes_needed [intsT vs] = some (.ok (.int (mxR vs : Nat)) [intsT vs]) := by
  have c1 : s_right_passes_needed_C1 [some (intsT vs), none] = some (.ok (intsT (recsI vs)) [some (intsT vs), none]) := by
    have rn : rng1 [.int (vs.length : Int)] = some (rngT 0 vs.length) := by rw [z_rng1 (by omega), Int.toNat_natCast]
    rw [recsI_T]
    unfold s_right_passes_needed_C1
    refine flc_map (vs := [1]) (E1 := [some (intsT vs), none]) (xs := List.range vs.length) (fun i => .int (i : Int)) (fun i => .int (recN vs i : Nat)) ?_ (by rfl) (by rw [sizeLine_eq, List.length_range]; omega) (fun i hi => ⟨_, rfl, rfl, rfl, ?_⟩)
    · simp only [↓ev_bind, ↓ev_pure, ↓ev_rd, ↓ev_lf, ↓ev_vr, ↓ev_kc, ↓ev_mv, ↓ev_pp2, ↓ev_pp1, ↓ev_tnot, ↓ev_tand, ↓ev_tor, ↓ev_vand, ↓ev_vor, ↓ev_vnot, ↓ev_vif, ↓ev_fset, ↓ev_fdo, ↓ev_frt, ↓ev_fif, ↓ev_fnx, ↓ev_fbk, ↓ev_fct, ↓ev_fno, ↓ev_fsq, ↓ev_afI, ↓ev_fasg, ↓ev_faug, ↓ev_fseti, ↓ev_fpar2, ↓ev_fcall, ↓ev_fkw, ↓ev_fmu0, ↓ev_fmu1, ↓ev_pchn, ev_acn, ↓ev_aci, z_ixN0, pick, List.getD_cons_zero, List.getD_cons_succ, eq_self, ev_gset, ev_gnil, ev_gcons, ↓ev_go, ↓ev_fl, ↓ev_flgo, ↓ev_rsgo, z_add, z_addL, z_sub, z_cmp, z_int, z_intb, z_len, z_lent, z_bl, z_int?, z_lst, z_tup, z_seq, z_neg, z_isN, z_notN, z_isNi, z_isNn, z_isNl, z_isNs, z_isNt, z_list, z_listt, z_rev, z_eqi, z_nei, z_eqs, z_nes, z_eqb, z_neb, z_ixif, z_ml0, z_ml1, z_mt1, z_ml2, z_mt2, z_ml3, z_mt3, z_ml4, z_mt4, z_ml5, z_mt5, z_ml6, z_ml7, z_ml8, z_ml9, z_ml10, z_ml11, z_ml12, z_ml13, z_ml14, z_ixl0, z_ixt0, z_ixl1, z_ixt1, z_ixl2, z_ixt2, z_ixl3, z_ixt3, z_ixl4, z_ixt4, z_ixl5, z_ixl6, z_ixl7, z_ixl8, z_ixl9, z_ixl10, z_ixl11, z_ixl12, z_ixl13, fill_nil, fill_no, fill_so, put_of, hole_nil, hole_no, hole_so, back_no, back_so, fin_rt, fin_nx, fin_ex, mix_nil, mix_sh, mix_ow, Option.map_some, Option.bind_some, Option.join_some, Option.bind_none, Option.map_none, List.getElem?_cons_zero, List.getElem?_cons_succ, List.set_cons_zero, List.set_cons_succ, List.map_nil, List.map_cons, List.append_nil, List.nil_append, List.cons_append, List.length_cons, List.length_nil, List.replicate_succ, List.replicate_zero, Nat.reduceAdd, Nat.reduceSub, ↓reduceIte, Bool.not_true, Bool.not_false, Bool.false_eq_true, Bool.true_eq_false, Int.reduceLT, Int.reduceLE, Int.reduceAdd, Int.reduceSub, Int.reduceMul, Int.reduceNeg, Int.reduceEq, decide_true, decide_false, decide_eq_true_eq, Bool.not_eq_true, decide_eq_false_iff_not, ↓ev_fraise, ↓ev_ftry, tr_nx, lose_nil, lose_cons, lose_so, z_isNx, z_tuple, List.length_map, rn, z_rngT]
    · have e := e_falling_ahead vs i (List.mem_range.mp hi)
      simp only [↓ev_bind, ↓ev_pure, ↓ev_rd, ↓ev_lf, ↓ev_vr, ↓ev_kc, ↓ev_mv, ↓ev_pp2, ↓ev_pp1, ↓ev_tnot, ↓ev_tand, ↓ev_tor, ↓ev_vand, ↓ev_vor, ↓ev_vnot, ↓ev_vif, ↓ev_fset, ↓ev_fdo, ↓ev_frt, ↓ev_fif, ↓ev_fnx, ↓ev_fbk, ↓ev_fct, ↓ev_fno, ↓ev_fsq, ↓ev_afI, ↓ev_fasg, ↓ev_faug, ↓ev_fseti, ↓ev_fpar2, ↓ev_fcall, ↓ev_fkw, ↓ev_fmu0, ↓ev_fmu1, ↓ev_pchn, ev_acn, ↓ev_aci, z_ixN0, pick, List.getD_cons_zero, List.getD_cons_succ, eq_self, ev_gset, ev_gnil, ev_gcons, ↓ev_go, ↓ev_fl, ↓ev_flgo, ↓ev_rsgo, z_add, z_addL, z_sub, z_cmp, z_int, z_intb, z_len, z_lent, z_bl, z_int?, z_lst, z_tup, z_seq, z_neg, z_isN, z_notN, z_isNi, z_isNn, z_isNl, z_isNs, z_isNt, z_list, z_listt, z_rev, z_eqi, z_nei, z_eqs, z_nes, z_eqb, z_neb, z_ixif, z_ml0, z_ml1, z_mt1, z_ml2, z_mt2, z_ml3, z_mt3, z_ml4, z_mt4, z_ml5, z_mt5, z_ml6, z_ml7, z_ml8, z_ml9, z_ml10, z_ml11, z_ml12, z_ml13, z_ml14, z_ixl0, z_ixt0, z_ixl1, z_ixt1, z_ixl2, z_ixt2, z_ixl3, z_ixt3, z_ixl4, z_ixt4, z_ixl5, z_ixl6, z_ixl7, z_ixl8, z_ixl9, z_ixl10, z_ixl11, z_ixl12, z_ixl13, fill_nil, fill_no, fill_so, put_of, hole_nil, hole_no, hole_so, back_no, back_so, fin_rt, fin_nx, fin_ex, mix_nil, mix_sh, mix_ow, Option.map_some, Option.bind_some, Option.join_some, Option.bind_none, Option.map_none, List.getElem?_cons_zero, List.getElem?_cons_succ, List.set_cons_zero, List.set_cons_succ, List.map_nil, List.map_cons, List.append_nil, List.nil_append, List.cons_append, List.length_cons, List.length_nil, List.replicate_succ, List.replicate_zero, Nat.reduceAdd, Nat.reduceSub, ↓reduceIte, Bool.not_true, Bool.not_false, Bool.false_eq_true, Bool.true_eq_false, Int.reduceLT, Int.reduceLE, Int.reduceAdd, Int.reduceSub, Int.reduceMul, Int.reduceNeg, Int.reduceEq, decide_true, decide_false, decide_eq_true_eq, Bool.not_eq_true, decide_eq_false_iff_not, ↓ev_fraise, ↓ev_ftry, tr_nx, lose_nil, lose_cons, lose_so, z_isNx, z_tuple, e]
  have ad : addL (.lst [.int 0]) (intsT (recsI vs)) = some (intsT ((0 :: recs vs).map fun (k : Nat) => (k : Int))) := by
    rw [z_addL (by simp [recs_len]; omega)]
    rfl
  have mx := maxI (0 :: recs vs) (List.cons_ne_nil _ _)
  have e : mxL (0 :: recs vs) = mxR vs := by
    rw [← mx_recs]
    exact Nat.zero_max _
  rw [e] at mx
  rw [List.map_cons] at mx
  rw [run_ev]
  simp only [s_right_passes_needed, ↓ev_bind, ↓ev_pure, ↓ev_rd, ↓ev_lf, ↓ev_vr, ↓ev_kc, ↓ev_mv, ↓ev_pp2, ↓ev_pp1, ↓ev_tnot, ↓ev_tand, ↓ev_tor, ↓ev_vand, ↓ev_vor, ↓ev_vnot, ↓ev_vif, ↓ev_fset, ↓ev_fdo, ↓ev_frt, ↓ev_fif, ↓ev_fnx, ↓ev_fbk, ↓ev_fct, ↓ev_fno, ↓ev_fsq, ↓ev_afI, ↓ev_fasg, ↓ev_faug, ↓ev_fseti, ↓ev_fpar2, ↓ev_fcall, ↓ev_fkw, ↓ev_fmu0, ↓ev_fmu1, ↓ev_pchn, ev_acn, ↓ev_aci, z_ixN0, pick, List.getD_cons_zero, List.getD_cons_succ, eq_self, ev_gset, ev_gnil, ev_gcons, ↓ev_go, ↓ev_fl, ↓ev_flgo, ↓ev_rsgo, z_add, z_addL, z_sub, z_cmp, z_int, z_intb, z_len, z_lent, z_bl, z_int?, z_lst, z_tup, z_seq, z_neg, z_isN, z_notN, z_isNi, z_isNn, z_isNl, z_isNs, z_isNt, z_list, z_listt, z_rev, z_eqi, z_nei, z_eqs, z_nes, z_eqb, z_neb, z_ixif, z_ml0, z_ml1, z_mt1, z_ml2, z_mt2, z_ml3, z_mt3, z_ml4, z_mt4, z_ml5, z_mt5, z_ml6, z_ml7, z_ml8, z_ml9, z_ml10, z_ml11, z_ml12, z_ml13, z_ml14, z_ixl0, z_ixt0, z_ixl1, z_ixt1, z_ixl2, z_ixt2, z_ixl3, z_ixt3, z_ixl4, z_ixt4, z_ixl5, z_ixl6, z_ixl7, z_ixl8, z_ixl9, z_ixl10, z_ixl11, z_ixl12, z_ixl13, fill_nil, fill_no, fill_so, put_of, hole_nil, hole_no, hole_so, back_no, back_so, fin_rt, fin_nx, fin_ex, mix_nil, mix_sh, mix_ow, Option.map_some, Option.bind_some, Option.join_some, Option.bind_none, Option.map_none, List.getElem?_cons_zero, List.getElem?_cons_succ, List.set_cons_zero, List.set_cons_succ, List.map_nil, List.map_cons, List.append_nil, List.nil_append, List.cons_append, List.length_cons, List.length_nil, List.replicate_succ, List.replicate_zero, Nat.reduceAdd, Nat.reduceSub, ↓reduceIte, Bool.not_true, Bool.not_false, Bool.false_eq_true, Bool.true_eq_false, Int.reduceLT, Int.reduceLE, Int.reduceAdd, Int.reduceSub, Int.reduceMul, Int.reduceNeg, Int.reduceEq, decide_true, decide_false, decide_eq_true_eq, Bool.not_eq_true, decide_eq_false_iff_not, ↓ev_fraise, ↓ev_ftry, tr_nx, lose_nil, lose_cons, lose_so, z_isNx, z_tuple, e_check_values vs h60, c1, ad, mx]

/-! ### levels -/
theorem lvl_T (m : Nat) : planT (lvl m) = .lst ((List.range (m - 1)).map (fun (k : Nat) => T.tup [.int ((k : Int) + 1), .non]) ++ [.tup [.non, .non]]) := by
  simp only [planT, lvl, List.map_append, List.map_map]
  congr 2
theorem lvl_ok (m : Nat) (h : m ≤ 12) (h1 : 1 ≤ m) : PlanOk (lvl m) := by
  have hl : (lvl m).length = m := by unfold lvl; simp; omega
  refine ⟨by omega, fun p hp => ?_, fun p hp => ?_⟩
  · rw [hl]
    intro i e
    unfold lvl at hp
    rcases List.mem_append.mp hp with z | z
    · obtain ⟨k, hk, rfl⟩ := List.mem_map.mp z
      have := List.mem_range.mp hk
      cases e
      omega
    · simp at z
      subst z
      cases e
  · rw [hl]
    intro i e
    unfold lvl at hp
    rcases List.mem_append.mp hp with z | z
    · obtain ⟨k, hk, rfl⟩ := List.mem_map.mp z
      cases e
    · simp at z
      subst z
      cases e
theorem lvl_add (m : Nat) (h : m ≤ 12) : addL (.lst ((List.range (m - 1)).map (fun (k : Nat) => T.tup [.int ((k : Int) + 1), .non]))) (.lst [.tup [.non, .non]]) = some (planT (lvl m)) := by
  rw [z_addL (by simp; omega), lvl_T]
theorem e_check_number (n most : Int) (h0 : 0 ≤ n) (h1 : n ≤ most) : runF [.sh, .sh] 2 s_check_number [.int n, .int most] = some (.ok .non [.int n, .int most]) := by
  rw [run_ev]
  simp only [s_check_number, ↓ev_bind, ↓ev_pure, ↓ev_rd, ↓ev_lf, ↓ev_vr, ↓ev_kc, ↓ev_mv, ↓ev_pp2, ↓ev_pp1, ↓ev_tnot, ↓ev_tand, ↓ev_tor, ↓ev_vand, ↓ev_vor, ↓ev_vnot, ↓ev_vif, ↓ev_fset, ↓ev_fdo, ↓ev_frt, ↓ev_fif, ↓ev_fnx, ↓ev_fbk, ↓ev_fct, ↓ev_fno, ↓ev_fsq, ↓ev_afI, ↓ev_fasg, ↓ev_faug, ↓ev_fseti, ↓ev_fpar2, ↓ev_fcall, ↓ev_fkw, ↓ev_fmu0, ↓ev_fmu1, ↓ev_pchn, ev_acn, ↓ev_aci, z_ixN0, pick, List.getD_cons_zero, List.getD_cons_succ, eq_self, ev_gset, ev_gnil, ev_gcons, ↓ev_go, ↓ev_fl, ↓ev_flgo, ↓ev_rsgo, z_add, z_addL, z_sub, z_cmp, z_int, z_intb, z_len, z_lent, z_bl, z_int?, z_lst, z_tup, z_seq, z_neg, z_isN, z_notN, z_isNi, z_isNn, z_isNl, z_isNs, z_isNt, z_list, z_listt, z_rev, z_eqi, z_nei, z_eqs, z_nes, z_eqb, z_neb, z_ixif, z_ml0, z_ml1, z_mt1, z_ml2, z_mt2, z_ml3, z_mt3, z_ml4, z_mt4, z_ml5, z_mt5, z_ml6, z_ml7, z_ml8, z_ml9, z_ml10, z_ml11, z_ml12, z_ml13, z_ml14, z_ixl0, z_ixt0, z_ixl1, z_ixt1, z_ixl2, z_ixt2, z_ixl3, z_ixt3, z_ixl4, z_ixt4, z_ixl5, z_ixl6, z_ixl7, z_ixl8, z_ixl9, z_ixl10, z_ixl11, z_ixl12, z_ixl13, fill_nil, fill_no, fill_so, put_of, hole_nil, hole_no, hole_so, back_no, back_so, fin_rt, fin_nx, fin_ex, mix_nil, mix_sh, mix_ow, Option.map_some, Option.bind_some, Option.join_some, Option.bind_none, Option.map_none, List.getElem?_cons_zero, List.getElem?_cons_succ, List.set_cons_zero, List.set_cons_succ, List.map_nil, List.map_cons, List.append_nil, List.nil_append, List.cons_append, List.length_cons, List.length_nil, List.replicate_succ, List.replicate_zero, Nat.reduceAdd, Nat.reduceSub, ↓reduceIte, Bool.not_true, Bool.not_false, Bool.false_eq_true, Bool.true_eq_false, Int.reduceLT, Int.reduceLE, Int.reduceAdd, Int.reduceSub, Int.reduceMul, Int.reduceNeg, Int.reduceEq, decide_true, decide_false, decide_eq_true_eq, Bool.not_eq_true, decide_eq_false_iff_not, ↓ev_fraise, ↓ev_ftry, tr_nx, lose_nil, lose_cons, lose_so, z_isNx, z_tuple, e_is_whole, h0, h1]
theorem rng_m1 (m : Nat) (h1 : 1 ≤ m) (h : m ≤ 12) : rng1 [.int ((m : Int) - 1)] = some (rngT 0 (m - 1)) := by
  rw [show (m : Int) - 1 = ((m - 1 : Nat) : Int) by omega, z_rng1 (by omega), Int.toNat_natCast]
theorem e_ll_C1 (m : Nat) (h1 : 1 ≤ m) (h : m ≤ 12) : s_left_levels_C1 [some (.int (m : Int)), none] = some (.ok (.lst ((List.range (m - 1)).map (fun (k : Nat) => T.tup [.int ((k : Int) + 1), .non]))) [some (.int (m : Int)), none]) := by
  unfold s_left_levels_C1
  refine flc_map (vs := [1]) (E1 := [some (.int (m : Int)), none]) (xs := List.range (m - 1)) (fun (k : Nat) => .int (k : Int)) (fun (k : Nat) => T.tup [.int ((k : Int) + 1), .non]) ?_ (by rfl) (by rw [sizeLine_eq, List.length_range]; omega) (fun k hk => ⟨_, rfl, rfl, rfl, ?_⟩)
  · simp only [↓ev_bind, ↓ev_pure, ↓ev_rd, ↓ev_lf, ↓ev_vr, ↓ev_kc, ↓ev_mv, ↓ev_pp2, ↓ev_pp1, ↓ev_tnot, ↓ev_tand, ↓ev_tor, ↓ev_vand, ↓ev_vor, ↓ev_vnot, ↓ev_vif, ↓ev_fset, ↓ev_fdo, ↓ev_frt, ↓ev_fif, ↓ev_fnx, ↓ev_fbk, ↓ev_fct, ↓ev_fno, ↓ev_fsq, ↓ev_afI, ↓ev_fasg, ↓ev_faug, ↓ev_fseti, ↓ev_fpar2, ↓ev_fcall, ↓ev_fkw, ↓ev_fmu0, ↓ev_fmu1, ↓ev_pchn, ev_acn, ↓ev_aci, z_ixN0, pick, List.getD_cons_zero, List.getD_cons_succ, eq_self, ev_gset, ev_gnil, ev_gcons, ↓ev_go, ↓ev_fl, ↓ev_flgo, ↓ev_rsgo, z_add, z_addL, z_sub, z_cmp, z_int, z_intb, z_len, z_lent, z_bl, z_int?, z_lst, z_tup, z_seq, z_neg, z_isN, z_notN, z_isNi, z_isNn, z_isNl, z_isNs, z_isNt, z_list, z_listt, z_rev, z_eqi, z_nei, z_eqs, z_nes, z_eqb, z_neb, z_ixif, z_ml0, z_ml1, z_mt1, z_ml2, z_mt2, z_ml3, z_mt3, z_ml4, z_mt4, z_ml5, z_mt5, z_ml6, z_ml7, z_ml8, z_ml9, z_ml10, z_ml11, z_ml12, z_ml13, z_ml14, z_ixl0, z_ixt0, z_ixl1, z_ixt1, z_ixl2, z_ixt2, z_ixl3, z_ixt3, z_ixl4, z_ixt4, z_ixl5, z_ixl6, z_ixl7, z_ixl8, z_ixl9, z_ixl10, z_ixl11, z_ixl12, z_ixl13, fill_nil, fill_no, fill_so, put_of, hole_nil, hole_no, hole_so, back_no, back_so, fin_rt, fin_nx, fin_ex, mix_nil, mix_sh, mix_ow, Option.map_some, Option.bind_some, Option.join_some, Option.bind_none, Option.map_none, List.getElem?_cons_zero, List.getElem?_cons_succ, List.set_cons_zero, List.set_cons_succ, List.map_nil, List.map_cons, List.append_nil, List.nil_append, List.cons_append, List.length_cons, List.length_nil, List.replicate_succ, List.replicate_zero, Nat.reduceAdd, Nat.reduceSub, ↓reduceIte, Bool.not_true, Bool.not_false, Bool.false_eq_true, Bool.true_eq_false, Int.reduceLT, Int.reduceLE, Int.reduceAdd, Int.reduceSub, Int.reduceMul, Int.reduceNeg, Int.reduceEq, decide_true, decide_false, decide_eq_true_eq, Bool.not_eq_true, decide_eq_false_iff_not, ↓ev_fraise, ↓ev_ftry, tr_nx, lose_nil, lose_cons, lose_so, z_isNx, z_tuple, rng_m1 m h1 h, z_rngT]
  · simp only [↓ev_bind, ↓ev_pure, ↓ev_rd, ↓ev_lf, ↓ev_vr, ↓ev_kc, ↓ev_mv, ↓ev_pp2, ↓ev_pp1, ↓ev_tnot, ↓ev_tand, ↓ev_tor, ↓ev_vand, ↓ev_vor, ↓ev_vnot, ↓ev_vif, ↓ev_fset, ↓ev_fdo, ↓ev_frt, ↓ev_fif, ↓ev_fnx, ↓ev_fbk, ↓ev_fct, ↓ev_fno, ↓ev_fsq, ↓ev_afI, ↓ev_fasg, ↓ev_faug, ↓ev_fseti, ↓ev_fpar2, ↓ev_fcall, ↓ev_fkw, ↓ev_fmu0, ↓ev_fmu1, ↓ev_pchn, ev_acn, ↓ev_aci, z_ixN0, pick, List.getD_cons_zero, List.getD_cons_succ, eq_self, ev_gset, ev_gnil, ev_gcons, ↓ev_go, ↓ev_fl, ↓ev_flgo, ↓ev_rsgo, z_add, z_addL, z_sub, z_cmp, z_int, z_intb, z_len, z_lent, z_bl, z_int?, z_lst, z_tup, z_seq, z_neg, z_isN, z_notN, z_isNi, z_isNn, z_isNl, z_isNs, z_isNt, z_list, z_listt, z_rev, z_eqi, z_nei, z_eqs, z_nes, z_eqb, z_neb, z_ixif, z_ml0, z_ml1, z_mt1, z_ml2, z_mt2, z_ml3, z_mt3, z_ml4, z_mt4, z_ml5, z_mt5, z_ml6, z_ml7, z_ml8, z_ml9, z_ml10, z_ml11, z_ml12, z_ml13, z_ml14, z_ixl0, z_ixt0, z_ixl1, z_ixt1, z_ixl2, z_ixt2, z_ixl3, z_ixt3, z_ixl4, z_ixt4, z_ixl5, z_ixl6, z_ixl7, z_ixl8, z_ixl9, z_ixl10, z_ixl11, z_ixl12, z_ixl13, fill_nil, fill_no, fill_so, put_of, hole_nil, hole_no, hole_so, back_no, back_so, fin_rt, fin_nx, fin_ex, mix_nil, mix_sh, mix_ow, Option.map_some, Option.bind_some, Option.join_some, Option.bind_none, Option.map_none, List.getElem?_cons_zero, List.getElem?_cons_succ, List.set_cons_zero, List.set_cons_succ, List.map_nil, List.map_cons, List.append_nil, List.nil_append, List.cons_append, List.length_cons, List.length_nil, List.replicate_succ, List.replicate_zero, Nat.reduceAdd, Nat.reduceSub, ↓reduceIte, Bool.not_true, Bool.not_false, Bool.false_eq_true, Bool.true_eq_false, Int.reduceLT, Int.reduceLE, Int.reduceAdd, Int.reduceSub, Int.reduceMul, Int.reduceNeg, Int.reduceEq, decide_true, decide_false, decide_eq_true_eq, Bool.not_eq_true, decide_eq_false_iff_not, ↓ev_fraise, ↓ev_ftry, tr_nx, lose_nil, lose_cons, lose_so, z_isNx, z_tuple]
theorem e_left_levels (m : Nat) (h1 : 1 ≤ m) (h : m ≤ 12) : runF [.sh] 2 s_left_levels [.int (m : Int)] = some (.ok (planT (lvl m)) [.int (m : Int)]) := by
  have cn := e_check_number (m : Int) 12 (by omega) (by omega)
  have mn : min2T [.int (m : Int), .int 1] = some (.int 1) := by
    show some (T.int (if (1 : Int) < (m : Int) then 1 else (m : Int))) = _
    by_cases e : (1 : Int) < (m : Int)
    · rw [if_pos e]
    · rw [if_neg e, show (m : Int) = 1 by omega]
  have ml : mulL (.lst [.tup [.non, .non]]) (.int 1) = some (.lst [.tup [.non, .non]]) := mulL_1 _ 1 (by decide)
  have c1 := e_ll_C1 m h1 h
  have ad := lvl_add m h
  generalize hX : (T.lst ((List.range (m - 1)).map (fun (k : Nat) => T.tup [.int ((k : Int) + 1), .non]))) = X at *
  generalize hP : planT (lvl m) = PL at *
  rw [run_ev]
  simp only [s_left_levels, ↓ev_bind, ↓ev_pure, ↓ev_rd, ↓ev_lf, ↓ev_vr, ↓ev_kc, ↓ev_mv, ↓ev_pp2, ↓ev_pp1, ↓ev_tnot, ↓ev_tand, ↓ev_tor, ↓ev_vand, ↓ev_vor, ↓ev_vnot, ↓ev_vif, ↓ev_fset, ↓ev_fdo, ↓ev_frt, ↓ev_fif, ↓ev_fnx, ↓ev_fbk, ↓ev_fct, ↓ev_fno, ↓ev_fsq, ↓ev_afI, ↓ev_fasg, ↓ev_faug, ↓ev_fseti, ↓ev_fpar2, ↓ev_fcall, ↓ev_fkw, ↓ev_fmu0, ↓ev_fmu1, ↓ev_pchn, ev_acn, ↓ev_aci, z_ixN0, pick, List.getD_cons_zero, List.getD_cons_succ, eq_self, ev_gset, ev_gnil, ev_gcons, ↓ev_go, ↓ev_fl, ↓ev_flgo, ↓ev_rsgo, z_add, z_addL, z_sub, z_cmp, z_int, z_intb, z_len, z_lent, z_bl, z_int?, z_lst, z_tup, z_seq, z_neg, z_isN, z_notN, z_isNi, z_isNn, z_isNl, z_isNs, z_isNt, z_list, z_listt, z_rev, z_eqi, z_nei, z_eqs, z_nes, z_eqb, z_neb, z_ixif, z_ml0, z_ml1, z_mt1, z_ml2, z_mt2, z_ml3, z_mt3, z_ml4, z_mt4, z_ml5, z_mt5, z_ml6, z_ml7, z_ml8, z_ml9, z_ml10, z_ml11, z_ml12, z_ml13, z_ml14, z_ixl0, z_ixt0, z_ixl1, z_ixt1, z_ixl2, z_ixt2, z_ixl3, z_ixt3, z_ixl4, z_ixt4, z_ixl5, z_ixl6, z_ixl7, z_ixl8, z_ixl9, z_ixl10, z_ixl11, z_ixl12, z_ixl13, fill_nil, fill_no, fill_so, put_of, hole_nil, hole_no, hole_so, back_no, back_so, fin_rt, fin_nx, fin_ex, mix_nil, mix_sh, mix_ow, Option.map_some, Option.bind_some, Option.join_some, Option.bind_none, Option.map_none, List.getElem?_cons_zero, List.getElem?_cons_succ, List.set_cons_zero, List.set_cons_succ, List.map_nil, List.map_cons, List.append_nil, List.nil_append, List.cons_append, List.length_cons, List.length_nil, List.replicate_succ, List.replicate_zero, Nat.reduceAdd, Nat.reduceSub, ↓reduceIte, Bool.not_true, Bool.not_false, Bool.false_eq_true, Bool.true_eq_false, Int.reduceLT, Int.reduceLE, Int.reduceAdd, Int.reduceSub, Int.reduceMul, Int.reduceNeg, Int.reduceEq, decide_true, decide_false, decide_eq_true_eq, Bool.not_eq_true, decide_eq_false_iff_not, ↓ev_fraise, ↓ev_ftry, tr_nx, lose_nil, lose_cons, lose_so, z_isNx, z_tuple, cn, c1, mn, ml, ad]
theorem e_ll0 : runF [.sh] 2 s_left_levels [.int 0] = some (.ok (.lst []) [.int 0]) := by rfl
theorem e_lv0 : runF [.sh] 2 s_levels [.int 0] = some (.ok (.lst []) [.int 0]) := by rfl

end Law

end
section
set_option maxHeartbeats 4000000
namespace Law
open PySem PySem.Spec PyProof.Rows L2 Tr
/-! ### the law of k41: passes at the right only -/
theorem okL : PlanOk plL := ⟨by decide, by simp [okE], by simp [okE]⟩
theorem okR : PlanOk plR := ⟨by decide, by simp [okE], by simp [okE]⟩
theorem okP : PlanOk plP := ⟨by decide, by simp [okE], by simp [okE]⟩
theorem srt_iff (vs : List Int) : vs = srt vs ↔ mxR vs = 0 := by
  rw [mxR_zero _ vs (Nat.le_refl _)]
  constructor
  · intro e
    rw [e]
    exact srt_le vs
  · intro h
    exact srt_uniq (srt_perm vs).symm h (srt_le vs)
theorem z_sortO (ns : List Int) : one sortT [intsT ns] = some (intsT (srt ns)) := z_sort ns
abbrev tR : T := .lst [.tup [.non, .int 0]]
abbrev tL : T := .lst [.tup [.int 0, .non]]
abbrev tP : T := .lst [.tup [.non, .non]]
theorem e_f_L1 (a0 a3 a4 a5 : Option T) (vs : List Int) (h60 : vs.length ≤ 60) (k : Nat) (h : mxR vs ≠ 0) : s__law_falls_right_L1 [a0, some (intsT vs), some (.int (k : Int)), a3, a4, a5] = some (.nx [a0, some (intsT (onc plR vs)), some (.int ((k + 1 : Nat) : Int)), some (intsT (onc plR vs)), a4, a5]) := by
  have e1 : runF [.sh, .sh] 2 s__law_once [tR, intsT vs] = some (.ok (intsT (onc plR vs)) [tR, intsT vs]) := e_lonce plR okR vs (by omega)
  have hn : vs ≠ [] := fun z => h (by rw [z]; rfl)
  have hl : (onc plR vs).length = vs.length := (onc_perm plR vs).length_eq
  have hn2 : onc plR vs ≠ [] := fun z => hn (by
    have := congrArg List.length z
    rw [hl] at this
    exact List.length_eq_zero_iff.mp this)
  have e2 := e_all_records vs h60
  have e3 := e_all_records (onc plR vs) (by omega)
  have m1 := max_recs vs hn
  have m2 := max_recs (onc plR vs) hn2
  rw [mxR_onc vs (by omega)] at m2
  have sb : ((mxR vs - 1 : Nat) : Int) = (mxR vs : Int) - 1 := by omega
  rw [sb] at m2
  have hd : ∀ i : Int, decide (i = i) = true := fun i => decide_eq_true rfl
  simp only [s__law_falls_right_L1, ↓ev_bind, ↓ev_pure, ↓ev_rd, ↓ev_lf, ↓ev_vr, ↓ev_kc, ↓ev_mv, ↓ev_pp2, ↓ev_pp1, ↓ev_tnot, ↓ev_tand, ↓ev_tor, ↓ev_vand, ↓ev_vor, ↓ev_vnot, ↓ev_vif, ↓ev_fset, ↓ev_fdo, ↓ev_frt, ↓ev_fif, ↓ev_fnx, ↓ev_fbk, ↓ev_fct, ↓ev_fno, ↓ev_fsq, ↓ev_afI, ↓ev_fasg, ↓ev_faug, ↓ev_fseti, ↓ev_fpar2, ↓ev_fcall, ↓ev_fkw, ↓ev_fmu0, ↓ev_fmu1, ↓ev_pchn, ev_acn, ↓ev_aci, z_ixN0, pick, List.getD_cons_zero, List.getD_cons_succ, eq_self, ev_gset, ev_gnil, ev_gcons, ↓ev_go, ↓ev_fl, ↓ev_flgo, ↓ev_rsgo, z_add, z_addL, z_sub, z_cmp, z_int, z_intb, z_len, z_lent, z_bl, z_int?, z_lst, z_tup, z_seq, z_neg, z_isN, z_notN, z_isNi, z_isNn, z_isNl, z_isNs, z_isNt, z_list, z_listt, z_rev, z_eqi, z_nei, z_eqs, z_nes, z_eqb, z_neb, z_ixif, z_ml0, z_ml1, z_mt1, z_ml2, z_mt2, z_ml3, z_mt3, z_ml4, z_mt4, z_ml5, z_mt5, z_ml6, z_ml7, z_ml8, z_ml9, z_ml10, z_ml11, z_ml12, z_ml13, z_ml14, z_ixl0, z_ixt0, z_ixl1, z_ixt1, z_ixl2, z_ixt2, z_ixl3, z_ixt3, z_ixl4, z_ixt4, z_ixl5, z_ixl6, z_ixl7, z_ixl8, z_ixl9, z_ixl10, z_ixl11, z_ixl12, z_ixl13, fill_nil, fill_no, fill_so, put_of, hole_nil, hole_no, hole_so, back_no, back_so, fin_rt, fin_nx, fin_ex, mix_nil, mix_sh, mix_ow, Option.map_some, Option.bind_some, Option.join_some, Option.bind_none, Option.map_none, List.getElem?_cons_zero, List.getElem?_cons_succ, List.set_cons_zero, List.set_cons_succ, List.map_nil, List.map_cons, List.append_nil, List.nil_append, List.cons_append, List.length_cons, List.length_nil, List.replicate_succ, List.replicate_zero, Nat.reduceAdd, Nat.reduceSub, ↓reduceIte, Bool.not_true, Bool.not_false, Bool.false_eq_true, Bool.true_eq_false, Int.reduceLT, Int.reduceLE, Int.reduceAdd, Int.reduceSub, Int.reduceMul, Int.reduceNeg, Int.reduceEq, decide_true, decide_false, decide_eq_true_eq, Bool.not_eq_true, decide_eq_false_iff_not, ↓ev_fraise, ↓ev_ftry, tr_nx, lose_nil, lose_cons, lose_so, z_isNx, z_tuple, e1, e2, e3, m1, m2, hd, Int.natCast_add, Int.natCast_one]
theorem e_f_while (a0 a4 a5 : Option T) : ∀ (n f : Nat) (vs : List Int) (k : Nat) (a3 : Option T), mxR vs = n → n < f → vs.length ≤ 60 → ∃ b1 b3, fwh s__law_falls_right_L1w s__law_falls_right_L1 f [a0, some (intsT vs), some (.int (k : Int)), a3, a4, a5] = some (.nx [a0, b1, some (.int ((k + n : Nat) : Int)), b3, a4, a5])
  | n, 0, vs, k, a3, _, hf, _ => by omega
  | n, f + 1, vs, k, a3, hm, hf, h60 => by
    have so := z_sortO vs
    have hc : s__law_falls_right_L1w [a0, some (intsT vs), some (.int (k : Int)), a3, a4, a5] = some (.ok (!decide (vs = srt vs)) [a0, some (intsT vs), some (.int (k : Int)), a3, a4, a5]) := by
      simp only [s__law_falls_right_L1w, ↓ev_bind, ↓ev_pure, ↓ev_rd, ↓ev_lf, ↓ev_vr, ↓ev_kc, ↓ev_mv, ↓ev_pp2, ↓ev_pp1, ↓ev_tnot, ↓ev_tand, ↓ev_tor, ↓ev_vand, ↓ev_vor, ↓ev_vnot, ↓ev_vif, ↓ev_fset, ↓ev_fdo, ↓ev_frt, ↓ev_fif, ↓ev_fnx, ↓ev_fbk, ↓ev_fct, ↓ev_fno, ↓ev_fsq, ↓ev_afI, ↓ev_fasg, ↓ev_faug, ↓ev_fseti, ↓ev_fpar2, ↓ev_fcall, ↓ev_fkw, ↓ev_fmu0, ↓ev_fmu1, ↓ev_pchn, ev_acn, ↓ev_aci, z_ixN0, pick, List.getD_cons_zero, List.getD_cons_succ, eq_self, ev_gset, ev_gnil, ev_gcons, ↓ev_go, ↓ev_fl, ↓ev_flgo, ↓ev_rsgo, z_add, z_addL, z_sub, z_cmp, z_int, z_intb, z_len, z_lent, z_bl, z_int?, z_lst, z_tup, z_seq, z_neg, z_isN, z_notN, z_isNi, z_isNn, z_isNl, z_isNs, z_isNt, z_list, z_listt, z_rev, z_eqi, z_nei, z_eqs, z_nes, z_eqb, z_neb, z_ixif, z_ml0, z_ml1, z_mt1, z_ml2, z_mt2, z_ml3, z_mt3, z_ml4, z_mt4, z_ml5, z_mt5, z_ml6, z_ml7, z_ml8, z_ml9, z_ml10, z_ml11, z_ml12, z_ml13, z_ml14, z_ixl0, z_ixt0, z_ixl1, z_ixt1, z_ixl2, z_ixt2, z_ixl3, z_ixt3, z_ixl4, z_ixt4, z_ixl5, z_ixl6, z_ixl7, z_ixl8, z_ixl9, z_ixl10, z_ixl11, z_ixl12, z_ixl13, fill_nil, fill_no, fill_so, put_of, hole_nil, hole_no, hole_so, back_no, back_so, fin_rt, fin_nx, fin_ex, mix_nil, mix_sh, mix_ow, Option.map_some, Option.bind_some, Option.join_some, Option.bind_none, Option.map_none, List.getElem?_cons_zero, List.getElem?_cons_succ, List.set_cons_zero, List.set_cons_succ, List.map_nil, List.map_cons, List.append_nil, List.nil_append, List.cons_append, List.length_cons, List.length_nil, List.replicate_succ, List.replicate_zero, Nat.reduceAdd, Nat.reduceSub, ↓reduceIte, Bool.not_true, Bool.not_false, Bool.false_eq_true, Bool.true_eq_false, Int.reduceLT, Int.reduceLE, Int.reduceAdd, Int.reduceSub, Int.reduceMul, Int.reduceNeg, Int.reduceEq, decide_true, decide_false, decide_eq_true_eq, Bool.not_eq_true, decide_eq_false_iff_not, ↓ev_fraise, ↓ev_ftry, tr_nx, lose_nil, lose_cons, lose_so, z_isNx, z_tuple, so, z_neI]
    by_cases h : mxR vs = 0
    · have hn : n = 0 := by omega
      subst hn
      refine ⟨some (intsT vs), a3, ?_⟩
      rw [fwh, hc, decide_eq_true ((srt_iff vs).mpr h)]
      rfl
    · have hm2 := mxR_onc vs (by omega)
      obtain ⟨b1, b3, e⟩ := e_f_while a0 a4 a5 (n - 1) f (onc plR vs) (k + 1) (some (intsT (onc plR vs))) (by omega) (by omega) (by rw [(onc_perm plR vs).length_eq]; exact h60)
      refine ⟨b1, b3, ?_⟩
      rw [fwh, hc, decide_eq_false (fun z => h ((srt_iff vs).mp z))]
      simp only [↓ev_bind, ↓ev_pure, ↓ev_rd, ↓ev_lf, ↓ev_vr, ↓ev_kc, ↓ev_mv, ↓ev_pp2, ↓ev_pp1, ↓ev_tnot, ↓ev_tand, ↓ev_tor, ↓ev_vand, ↓ev_vor, ↓ev_vnot, ↓ev_vif, ↓ev_fset, ↓ev_fdo, ↓ev_frt, ↓ev_fif, ↓ev_fnx, ↓ev_fbk, ↓ev_fct, ↓ev_fno, ↓ev_fsq, ↓ev_afI, ↓ev_fasg, ↓ev_faug, ↓ev_fseti, ↓ev_fpar2, ↓ev_fcall, ↓ev_fkw, ↓ev_fmu0, ↓ev_fmu1, ↓ev_pchn, ev_acn, ↓ev_aci, z_ixN0, pick, List.getD_cons_zero, List.getD_cons_succ, eq_self, ev_gset, ev_gnil, ev_gcons, ↓ev_go, ↓ev_fl, ↓ev_flgo, ↓ev_rsgo, z_add, z_addL, z_sub, z_cmp, z_int, z_intb, z_len, z_lent, z_bl, z_int?, z_lst, z_tup, z_seq, z_neg, z_isN, z_notN, z_isNi, z_isNn, z_isNl, z_isNs, z_isNt, z_list, z_listt, z_rev, z_eqi, z_nei, z_eqs, z_nes, z_eqb, z_neb, z_ixif, z_ml0, z_ml1, z_mt1, z_ml2, z_mt2, z_ml3, z_mt3, z_ml4, z_mt4, z_ml5, z_mt5, z_ml6, z_ml7, z_ml8, z_ml9, z_ml10, z_ml11, z_ml12, z_ml13, z_ml14, z_ixl0, z_ixt0, z_ixl1, z_ixt1, z_ixl2, z_ixt2, z_ixl3, z_ixt3, z_ixl4, z_ixt4, z_ixl5, z_ixl6, z_ixl7, z_ixl8, z_ixl9, z_ixl10, z_ixl11, z_ixl12, z_ixl13, fill_nil, fill_no, fill_so, put_of, hole_nil, hole_no, hole_so, back_no, back_so, fin_rt, fin_nx, fin_ex, mix_nil, mix_sh, mix_ow, Option.map_some, Option.bind_some, Option.join_some, Option.bind_none, Option.map_none, List.getElem?_cons_zero, List.getElem?_cons_succ, List.set_cons_zero, List.set_cons_succ, List.map_nil, List.map_cons, List.append_nil, List.nil_append, List.cons_append, List.length_cons, List.length_nil, List.replicate_succ, List.replicate_zero, Nat.reduceAdd, Nat.reduceSub, ↓reduceIte, Bool.not_true, Bool.not_false, Bool.false_eq_true, Bool.true_eq_false, Int.reduceLT, Int.reduceLE, Int.reduceAdd, Int.reduceSub, Int.reduceMul, Int.reduceNeg, Int.reduceEq, decide_true, decide_false, decide_eq_true_eq, Bool.not_eq_true, decide_eq_false_iff_not, ↓ev_fraise, ↓ev_ftry, tr_nx, lose_nil, lose_cons, lose_so, z_isNx, z_tuple, e_f_L1 a0 a3 a4 a5 vs h60 k h, e]
      rw [show k + 1 + (n - 1) = k + n by omega]
theorem e_f_C1 (a1 a2 a3 a4 : Option T) (vs : List Int) (h60 : vs.length ≤ 60) : s__law_falls_right_C1 [some (intsT vs), a1, a2, a3, a4, none] = some (.ok (intsT (recsI vs)) [some (intsT vs), a1, a2, a3, a4, none]) := by
  have rn : rng1 [.int (vs.length : Int)] = some (rngT 0 vs.length) := by rw [z_rng1 (by omega), Int.toNat_natCast]
  rw [recsI_T]
  unfold s__law_falls_right_C1
  refine flc_map (vs := [5]) (E1 := [some (intsT vs), a1, a2, a3, a4, none]) (xs := List.range vs.length) (fun i => .int (i : Int)) (fun i => .int (recN vs i : Nat)) ?_ (by rfl) (by rw [sizeLine_eq, List.length_range]; omega) (fun i hi => ⟨_, rfl, rfl, rfl, ?_⟩)
  · simp only [↓ev_bind, ↓ev_pure, ↓ev_rd, ↓ev_lf, ↓ev_vr, ↓ev_kc, ↓ev_mv, ↓ev_pp2, ↓ev_pp1, ↓ev_tnot, ↓ev_tand, ↓ev_tor, ↓ev_vand, ↓ev_vor, ↓ev_vnot, ↓ev_vif, ↓ev_fset, ↓ev_fdo, ↓ev_frt, ↓ev_fif, ↓ev_fnx, ↓ev_fbk, ↓ev_fct, ↓ev_fno, ↓ev_fsq, ↓ev_afI, ↓ev_fasg, ↓ev_faug, ↓ev_fseti, ↓ev_fpar2, ↓ev_fcall, ↓ev_fkw, ↓ev_fmu0, ↓ev_fmu1, ↓ev_pchn, ev_acn, ↓ev_aci, z_ixN0, pick, List.getD_cons_zero, List.getD_cons_succ, eq_self, ev_gset, ev_gnil, ev_gcons, ↓ev_go, ↓ev_fl, ↓ev_flgo, ↓ev_rsgo, z_add, z_addL, z_sub, z_cmp, z_int, z_intb, z_len, z_lent, z_bl, z_int?, z_lst, z_tup, z_seq, z_neg, z_isN, z_notN, z_isNi, z_isNn, z_isNl, z_isNs, z_isNt, z_list, z_listt, z_rev, z_eqi, z_nei, z_eqs, z_nes, z_eqb, z_neb, z_ixif, z_ml0, z_ml1, z_mt1, z_ml2, z_mt2, z_ml3, z_mt3, z_ml4, z_mt4, z_ml5, z_mt5, z_ml6, z_ml7, z_ml8, z_ml9, z_ml10, z_ml11, z_ml12, z_ml13, z_ml14, z_ixl0, z_ixt0, z_ixl1, z_ixt1, z_ixl2, z_ixt2, z_ixl3, z_ixt3, z_ixl4, z_ixt4, z_ixl5, z_ixl6, z_ixl7, z_ixl8, z_ixl9, z_ixl10, z_ixl11, z_ixl12, z_ixl13, fill_nil, fill_no, fill_so, put_of, hole_nil, hole_no, hole_so, back_no, back_so, fin_rt, fin_nx, fin_ex, mix_nil, mix_sh, mix_ow, Option.map_some, Option.bind_some, Option.join_some, Option.bind_none, Option.map_none, List.getElem?_cons_zero, List.getElem?_cons_succ, List.set_cons_zero, List.set_cons_succ, List.map_nil, List.map_cons, List.append_nil, List.nil_append, List.cons_append, List.length_cons, List.length_nil, List.replicate_succ, List.replicate_zero, Nat.reduceAdd, Nat.reduceSub, ↓reduceIte, Bool.not_true, Bool.not_false, Bool.false_eq_true, Bool.true_eq_false, Int.reduceLT, Int.reduceLE, Int.reduceAdd, Int.reduceSub, Int.reduceMul, Int.reduceNeg, Int.reduceEq, decide_true, decide_false, decide_eq_true_eq, Bool.not_eq_true, decide_eq_false_iff_not, ↓ev_fraise, ↓ev_ftry, tr_nx, lose_nil, lose_cons, lose_so, z_isNx, z_tuple, List.length_map, rn, z_rngT]
  · have e := e_records_ahead vs h60 i (List.mem_range.mp hi)
    simp only [↓ev_bind, ↓ev_pure, ↓ev_rd, ↓ev_lf, ↓ev_vr, ↓ev_kc, ↓ev_mv, ↓ev_pp2, ↓ev_pp1, ↓ev_tnot, ↓ev_tand, ↓ev_tor, ↓ev_vand, ↓ev_vor, ↓ev_vnot, ↓ev_vif, ↓ev_fset, ↓ev_fdo, ↓ev_frt, ↓ev_fif, ↓ev_fnx, ↓ev_fbk, ↓ev_fct, ↓ev_fno, ↓ev_fsq, ↓ev_afI, ↓ev_fasg, ↓ev_faug, ↓ev_fseti, ↓ev_fpar2, ↓ev_fcall, ↓ev_fkw, ↓ev_fmu0, ↓ev_fmu1, ↓ev_pchn, ev_acn, ↓ev_aci, z_ixN0, pick, List.getD_cons_zero, List.getD_cons_succ, eq_self, ev_gset, ev_gnil, ev_gcons, ↓ev_go, ↓ev_fl, ↓ev_flgo, ↓ev_rsgo, z_add, z_addL, z_sub, z_cmp, z_int, z_intb, z_len, z_lent, z_bl, z_int?, z_lst, z_tup, z_seq, z_neg, z_isN, z_notN, z_isNi, z_isNn, z_isNl, z_isNs, z_isNt, z_list, z_listt, z_rev, z_eqi, z_nei, z_eqs, z_nes, z_eqb, z_neb, z_ixif, z_ml0, z_ml1, z_mt1, z_ml2, z_mt2, z_ml3, z_mt3, z_ml4, z_mt4, z_ml5, z_mt5, z_ml6, z_ml7, z_ml8, z_ml9, z_ml10, z_ml11, z_ml12, z_ml13, z_ml14, z_ixl0, z_ixt0, z_ixl1, z_ixt1, z_ixl2, z_ixt2, z_ixl3, z_ixt3, z_ixl4, z_ixt4, z_ixl5, z_ixl6, z_ixl7, z_ixl8, z_ixl9, z_ixl10, z_ixl11, z_ixl12, z_ixl13, fill_nil, fill_no, fill_so, put_of, hole_nil, hole_no, hole_so, back_no, back_so, fin_rt, fin_nx, fin_ex, mix_nil, mix_sh, mix_ow, Option.map_some, Option.bind_some, Option.join_some, Option.bind_none, Option.map_none, List.getElem?_cons_zero, List.getElem?_cons_succ, List.set_cons_zero, List.set_cons_succ, List.map_nil, List.map_cons, List.append_nil, List.nil_append, List.cons_append, List.length_cons, List.length_nil, List.replicate_succ, List.replicate_zero, Nat.reduceAdd, Nat.reduceSub, ↓reduceIte, Bool.not_true, Bool.not_false, Bool.false_eq_true, Bool.true_eq_false, Int.reduceLT, Int.reduceLE, Int.reduceAdd, Int.reduceSub, Int.reduceMul, Int.reduceNeg, Int.reduceEq, decide_true, decide_false, decide_eq_true_eq, Bool.not_eq_true, decide_eq_false_iff_not, ↓ev_fraise, ↓ev_ftry, tr_nx, lose_nil, lose_cons, lose_so, z_isNx, z_tuple, e]
theorem e_falls (vs : List Int) (h60 : vs.length ≤ 60) : runF [.sh] 6 s__law_falls_right [intsT vs] = some (.ok (.bl true) [intsT vs]) := by
  obtain ⟨b1, b3, ew⟩ := e_f_while (some (intsT vs)) none none (mxR vs) 5000 vs 0 none rfl (by have := mxR_le vs; omega) h60
  rw [Nat.zero_add] at ew
  have ew' : fwh s__law_falls_right_L1w s__law_falls_right_L1 5000 [some (intsT vs), some (intsT vs), some (.int 0), none, none, none] = some (.nx [some (intsT vs), b1, some (.int (mxR vs : Nat)), b3, none, none]) := ew
  have hm := mxR_le vs
  have e1 := e_rpn vs h60
  have hn : (mxR vs : Int).natAbs < 10 ^ 40 := by omega
  obtain ⟨c1, r1⟩ := (Sw.l2 (Sw.int hn) (Sw.int hn)).repr
  have e2 := e_all_records vs h60
  have ad : addL (intsT (recsI vs)) (.lst [.int 0]) = some (intsT ((recs vs ++ [0]).map fun (k : Nat) => (k : Int))) := by
    rw [z_addL (by simp [recs_len]; omega)]
    simp [recsI, intsT]
  have mx := maxI (recs vs ++ [0]) (by simp)
  have em : mxL (recs vs ++ [0]) = mxR vs := by
    rw [mxL_app, mx_recs]
    exact Nat.max_zero _
  rw [em] at mx
  have e3 : runF [.sh, .sh] 5 s_passes_needed [tR, intsT vs] = some (.ok (.int (mxR vs : Nat)) [tR, intsT vs]) := by
    have e := e_passes_needed plR okR vs h60
    have : pnd plR vs = mxR vs := npsR 3600 vs (by omega) (by omega)
    rw [this] at e
    exact e
  have f1 := e_f_C1 b1 (some (.int (mxR vs : Nat))) b3 none vs h60
  have ne := z_neI (recsI vs) (recsI vs)
  rw [decide_eq_true rfl] at ne
  have mn : min2T [.int (mxR vs : Nat), .int 60] = some (.int (mxR vs : Nat)) := by
    show some (T.int (if (60 : Int) < (mxR vs : Int) then 60 else (mxR vs : Int))) = _
    rw [if_neg (by omega)]
  have e4 : runF [.sh, .sh, .sh] 3 s_carried_out [tR, intsT vs, .int (mxR vs : Nat)] = some (.ok (intsT (srt vs)) [tR, intsT vs, .int (mxR vs : Nat)]) := by
    have e := e_carried_out plR okR vs h60 (mxR vs) (by omega)
    have h0 : mxR (pss plR (mxR vs) vs) = 0 := by
      rw [pssR_mx _ vs (by omega)]
      omega
    have : pss plR (mxR vs) vs = srt vs := srt_uniq ((pss_perm plR _ vs).trans (srt_perm vs).symm) ((mxR_zero _ _ (Nat.le_refl _)).mp h0) (srt_le vs)
    rw [this] at e
    exact e
  have so := z_sortO vs
  have eq := z_eqI (srt vs) (srt vs)
  rw [decide_eq_true rfl] at eq
  have hd : ∀ i : Int, decide (i = i) = true := fun i => decide_eq_true rfl
  rw [run_ev]
  simp only [s__law_falls_right, ↓ev_bind, ↓ev_pure, ↓ev_rd, ↓ev_lf, ↓ev_vr, ↓ev_kc, ↓ev_mv, ↓ev_pp2, ↓ev_pp1, ↓ev_tnot, ↓ev_tand, ↓ev_tor, ↓ev_vand, ↓ev_vor, ↓ev_vnot, ↓ev_vif, ↓ev_fset, ↓ev_fdo, ↓ev_frt, ↓ev_fif, ↓ev_fnx, ↓ev_fbk, ↓ev_fct, ↓ev_fno, ↓ev_fsq, ↓ev_afI, ↓ev_fasg, ↓ev_faug, ↓ev_fseti, ↓ev_fpar2, ↓ev_fcall, ↓ev_fkw, ↓ev_fmu0, ↓ev_fmu1, ↓ev_pchn, ev_acn, ↓ev_aci, z_ixN0, pick, List.getD_cons_zero, List.getD_cons_succ, eq_self, ev_gset, ev_gnil, ev_gcons, ↓ev_go, ↓ev_fl, ↓ev_flgo, ↓ev_rsgo, z_add, z_addL, z_sub, z_cmp, z_int, z_intb, z_len, z_lent, z_bl, z_int?, z_lst, z_tup, z_seq, z_neg, z_isN, z_notN, z_isNi, z_isNn, z_isNl, z_isNs, z_isNt, z_list, z_listt, z_rev, z_eqi, z_nei, z_eqs, z_nes, z_eqb, z_neb, z_ixif, z_ml0, z_ml1, z_mt1, z_ml2, z_mt2, z_ml3, z_mt3, z_ml4, z_mt4, z_ml5, z_mt5, z_ml6, z_ml7, z_ml8, z_ml9, z_ml10, z_ml11, z_ml12, z_ml13, z_ml14, z_ixl0, z_ixt0, z_ixl1, z_ixt1, z_ixl2, z_ixt2, z_ixl3, z_ixt3, z_ixl4, z_ixt4, z_ixl5, z_ixl6, z_ixl7, z_ixl8, z_ixl9, z_ixl10, z_ixl11, z_ixl12, z_ixl13, fill_nil, fill_no, fill_so, put_of, hole_nil, hole_no, hole_so, back_no, back_so, fin_rt, fin_nx, fin_ex, mix_nil, mix_sh, mix_ow, Option.map_some, Option.bind_some, Option.join_some, Option.bind_none, Option.map_none, List.getElem?_cons_zero, List.getElem?_cons_succ, List.set_cons_zero, List.set_cons_succ, List.map_nil, List.map_cons, List.append_nil, List.nil_append, List.cons_append, List.length_cons, List.length_nil, List.replicate_succ, List.replicate_zero, Nat.reduceAdd, Nat.reduceSub, ↓reduceIte, Bool.not_true, Bool.not_false, Bool.false_eq_true, Bool.true_eq_false, Int.reduceLT, Int.reduceLE, Int.reduceAdd, Int.reduceSub, Int.reduceMul, Int.reduceNeg, Int.reduceEq, decide_true, decide_false, decide_eq_true_eq, Bool.not_eq_true, decide_eq_false_iff_not, ↓ev_fraise, ↓ev_ftry, tr_nx, lose_nil, lose_cons, lose_so, z_isNx, z_tuple, ew', e1, r1, e2, ad, mx, e3, hd, f1, ne, mn, e4, so, eq]
/-! ### the law's passes that part a list once -/
theorem e_r_C1 (a0 a1 a2 a3 a4 a6 : Option T) (m : Nat) (h1 : 1 ≤ m) (h : m ≤ 12) : s__law_right_C1 [a0, a1, a2, a3, a4, some (.int (m : Int)), a6, none] = some (.ok (.lst ((List.range (m - 1)).map (fun (k : Nat) => T.tup [.int ((k : Int) + 1), .non]))) [a0, a1, a2, a3, a4, some (.int (m : Int)), a6, none]) := by
  unfold s__law_right_C1
  refine flc_map (vs := [7]) (E1 := [a0, a1, a2, a3, a4, some (.int (m : Int)), a6, none]) (xs := List.range (m - 1)) (fun (k : Nat) => .int (k : Int)) (fun (k : Nat) => T.tup [.int ((k : Int) + 1), .non]) ?_ (by rfl) (by rw [sizeLine_eq, List.length_range]; omega) (fun k hk => ⟨_, rfl, rfl, rfl, ?_⟩)
  · simp only [↓ev_bind, ↓ev_pure, ↓ev_rd, ↓ev_lf, ↓ev_vr, ↓ev_kc, ↓ev_mv, ↓ev_pp2, ↓ev_pp1, ↓ev_tnot, ↓ev_tand, ↓ev_tor, ↓ev_vand, ↓ev_vor, ↓ev_vnot, ↓ev_vif, ↓ev_fset, ↓ev_fdo, ↓ev_frt, ↓ev_fif, ↓ev_fnx, ↓ev_fbk, ↓ev_fct, ↓ev_fno, ↓ev_fsq, ↓ev_afI, ↓ev_fasg, ↓ev_faug, ↓ev_fseti, ↓ev_fpar2, ↓ev_fcall, ↓ev_fkw, ↓ev_fmu0, ↓ev_fmu1, ↓ev_pchn, ev_acn, ↓ev_aci, z_ixN0, pick, List.getD_cons_zero, List.getD_cons_succ, eq_self, ev_gset, ev_gnil, ev_gcons, ↓ev_go, ↓ev_fl, ↓ev_flgo, ↓ev_rsgo, z_add, z_addL, z_sub, z_cmp, z_int, z_intb, z_len, z_lent, z_bl, z_int?, z_lst, z_tup, z_seq, z_neg, z_isN, z_notN, z_isNi, z_isNn, z_isNl, z_isNs, z_isNt, z_list, z_listt, z_rev, z_eqi, z_nei, z_eqs, z_nes, z_eqb, z_neb, z_ixif, z_ml0, z_ml1, z_mt1, z_ml2, z_mt2, z_ml3, z_mt3, z_ml4, z_mt4, z_ml5, z_mt5, z_ml6, z_ml7, z_ml8, z_ml9, z_ml10, z_ml11, z_ml12, z_ml13, z_ml14, z_ixl0, z_ixt0, z_ixl1, z_ixt1, z_ixl2, z_ixt2, z_ixl3, z_ixt3, z_ixl4, z_ixt4, z_ixl5, z_ixl6, z_ixl7, z_ixl8, z_ixl9, z_ixl10, z_ixl11, z_ixl12, z_ixl13, fill_nil, fill_no, fill_so, put_of, hole_nil, hole_no, hole_so, back_no, back_so, fin_rt, fin_nx, fin_ex, mix_nil, mix_sh, mix_ow, Option.map_some, Option.bind_some, Option.join_some, Option.bind_none, Option.map_none, List.getElem?_cons_zero, List.getElem?_cons_succ, List.set_cons_zero, List.set_cons_succ, List.map_nil, List.map_cons, List.append_nil, List.nil_append, List.cons_append, List.length_cons, List.length_nil, List.replicate_succ, List.replicate_zero, Nat.reduceAdd, Nat.reduceSub, ↓reduceIte, Bool.not_true, Bool.not_false, Bool.false_eq_true, Bool.true_eq_false, Int.reduceLT, Int.reduceLE, Int.reduceAdd, Int.reduceSub, Int.reduceMul, Int.reduceNeg, Int.reduceEq, decide_true, decide_false, decide_eq_true_eq, Bool.not_eq_true, decide_eq_false_iff_not, ↓ev_fraise, ↓ev_ftry, tr_nx, lose_nil, lose_cons, lose_so, z_isNx, z_tuple, rng_m1 m h1 h, z_rngT]
  · simp only [↓ev_bind, ↓ev_pure, ↓ev_rd, ↓ev_lf, ↓ev_vr, ↓ev_kc, ↓ev_mv, ↓ev_pp2, ↓ev_pp1, ↓ev_tnot, ↓ev_tand, ↓ev_tor, ↓ev_vand, ↓ev_vor, ↓ev_vnot, ↓ev_vif, ↓ev_fset, ↓ev_fdo, ↓ev_frt, ↓ev_fif, ↓ev_fnx, ↓ev_fbk, ↓ev_fct, ↓ev_fno, ↓ev_fsq, ↓ev_afI, ↓ev_fasg, ↓ev_faug, ↓ev_fseti, ↓ev_fpar2, ↓ev_fcall, ↓ev_fkw, ↓ev_fmu0, ↓ev_fmu1, ↓ev_pchn, ev_acn, ↓ev_aci, z_ixN0, pick, List.getD_cons_zero, List.getD_cons_succ, eq_self, ev_gset, ev_gnil, ev_gcons, ↓ev_go, ↓ev_fl, ↓ev_flgo, ↓ev_rsgo, z_add, z_addL, z_sub, z_cmp, z_int, z_intb, z_len, z_lent, z_bl, z_int?, z_lst, z_tup, z_seq, z_neg, z_isN, z_notN, z_isNi, z_isNn, z_isNl, z_isNs, z_isNt, z_list, z_listt, z_rev, z_eqi, z_nei, z_eqs, z_nes, z_eqb, z_neb, z_ixif, z_ml0, z_ml1, z_mt1, z_ml2, z_mt2, z_ml3, z_mt3, z_ml4, z_mt4, z_ml5, z_mt5, z_ml6, z_ml7, z_ml8, z_ml9, z_ml10, z_ml11, z_ml12, z_ml13, z_ml14, z_ixl0, z_ixt0, z_ixl1, z_ixt1, z_ixl2, z_ixt2, z_ixl3, z_ixt3, z_ixl4, z_ixt4, z_ixl5, z_ixl6, z_ixl7, z_ixl8, z_ixl9, z_ixl10, z_ixl11, z_ixl12, z_ixl13, fill_nil, fill_no, fill_so, put_of, hole_nil, hole_no, hole_so, back_no, back_so, fin_rt, fin_nx, fin_ex, mix_nil, mix_sh, mix_ow, Option.map_some, Option.bind_some, Option.join_some, Option.bind_none, Option.map_none, List.getElem?_cons_zero, List.getElem?_cons_succ, List.set_cons_zero, List.set_cons_succ, List.map_nil, List.map_cons, List.append_nil, List.nil_append, List.cons_append, List.length_cons, List.length_nil, List.replicate_succ, List.replicate_zero, Nat.reduceAdd, Nat.reduceSub, ↓reduceIte, Bool.not_true, Bool.not_false, Bool.false_eq_true, Bool.true_eq_false, Int.reduceLT, Int.reduceLE, Int.reduceAdd, Int.reduceSub, Int.reduceMul, Int.reduceNeg, Int.reduceEq, decide_true, decide_false, decide_eq_true_eq, Bool.not_eq_true, decide_eq_false_iff_not, ↓ev_fraise, ↓ev_ftry, tr_nx, lose_nil, lose_cons, lose_so, z_isNx, z_tuple]
theorem e_r_L1 (a0 a2 a3 a6 : Option T) (vs : List Int) (h60 : vs.length ≤ 60) (m : Nat) (h : m + 1 ≤ 12) : s__law_right_L1 [a0, some (intsT vs), a2, a3, some (intsT (pss plP m vs)), some (.int ((m + 1 : Nat) : Int)), a6, none] = some (.nx [a0, some (intsT vs), a2, a3, some (intsT (pss plP (m + 1) vs)), some (.int ((m + 1 : Nat) : Int)), some (planT (lvl (m + 1))), none]) := by
  have hl : (pss plP m vs).length = vs.length := pss_len plP m vs
  have e1 : runF [.sh, .sh] 2 s__law_once [tP, intsT (pss plP m vs)] = some (.ok (intsT (pss plP (m + 1) vs)) [tP, intsT (pss plP m vs)]) := by
    have e := e_lonce plP okP (pss plP m vs) (by omega)
    rw [← pss_succ] at e
    exact e
  have c1 := fun a6 => e_r_C1 a0 (some (intsT vs)) a2 a3 (some (intsT (pss plP (m + 1) vs))) a6 (m + 1) (by omega) h
  have ad := lvl_add (m + 1) h
  have e2 := e_left_levels (m + 1) (by omega) h
  have ne : neT (planT (lvl (m + 1))) (planT (lvl (m + 1))) = some (.bl false) := by
    rw [neT_of eqf_plan pl_plan, decide_eq_true rfl]
    rfl
  have e3 := e_lonce (lvl (m + 1)) (lvl_ok (m + 1) h (by omega)) vs (by omega)
  rw [onc_lvl (m + 1) (by omega) vs (by omega)] at e3
  have e4 : runF [.sh, .sh, .sh] 3 s_carried_out [tP, intsT vs, .int ((m + 1 : Nat) : Int)] = some (.ok (intsT (pss plP (m + 1) vs)) [tP, intsT vs, .int ((m + 1 : Nat) : Int)]) := e_carried_out plP okP vs h60 (m + 1) (by omega)
  have ni := z_neI (pss plP (m + 1) vs) (pss plP (m + 1) vs)
  rw [decide_eq_true rfl] at ni
  generalize hM : ((m + 1 : Nat) : Int) = M at *
  generalize hX : (T.lst ((List.range (m + 1 - 1)).map (fun (k : Nat) => T.tup [.int ((k : Int) + 1), .non]))) = X at *
  generalize hP : planT (lvl (m + 1)) = PL at *
  simp only [s__law_right_L1, ↓ev_bind, ↓ev_pure, ↓ev_rd, ↓ev_lf, ↓ev_vr, ↓ev_kc, ↓ev_mv, ↓ev_pp2, ↓ev_pp1, ↓ev_tnot, ↓ev_tand, ↓ev_tor, ↓ev_vand, ↓ev_vor, ↓ev_vnot, ↓ev_vif, ↓ev_fset, ↓ev_fdo, ↓ev_frt, ↓ev_fif, ↓ev_fnx, ↓ev_fbk, ↓ev_fct, ↓ev_fno, ↓ev_fsq, ↓ev_afI, ↓ev_fasg, ↓ev_faug, ↓ev_fseti, ↓ev_fpar2, ↓ev_fcall, ↓ev_fkw, ↓ev_fmu0, ↓ev_fmu1, ↓ev_pchn, ev_acn, ↓ev_aci, z_ixN0, pick, List.getD_cons_zero, List.getD_cons_succ, eq_self, ev_gset, ev_gnil, ev_gcons, ↓ev_go, ↓ev_fl, ↓ev_flgo, ↓ev_rsgo, z_add, z_addL, z_sub, z_cmp, z_int, z_intb, z_len, z_lent, z_bl, z_int?, z_lst, z_tup, z_seq, z_neg, z_isN, z_notN, z_isNi, z_isNn, z_isNl, z_isNs, z_isNt, z_list, z_listt, z_rev, z_eqi, z_nei, z_eqs, z_nes, z_eqb, z_neb, z_ixif, z_ml0, z_ml1, z_mt1, z_ml2, z_mt2, z_ml3, z_mt3, z_ml4, z_mt4, z_ml5, z_mt5, z_ml6, z_ml7, z_ml8, z_ml9, z_ml10, z_ml11, z_ml12, z_ml13, z_ml14, z_ixl0, z_ixt0, z_ixl1, z_ixt1, z_ixl2, z_ixt2, z_ixl3, z_ixt3, z_ixl4, z_ixt4, z_ixl5, z_ixl6, z_ixl7, z_ixl8, z_ixl9, z_ixl10, z_ixl11, z_ixl12, z_ixl13, fill_nil, fill_no, fill_so, put_of, hole_nil, hole_no, hole_so, back_no, back_so, fin_rt, fin_nx, fin_ex, mix_nil, mix_sh, mix_ow, Option.map_some, Option.bind_some, Option.join_some, Option.bind_none, Option.map_none, List.getElem?_cons_zero, List.getElem?_cons_succ, List.set_cons_zero, List.set_cons_succ, List.map_nil, List.map_cons, List.append_nil, List.nil_append, List.cons_append, List.length_cons, List.length_nil, List.replicate_succ, List.replicate_zero, Nat.reduceAdd, Nat.reduceSub, ↓reduceIte, Bool.not_true, Bool.not_false, Bool.false_eq_true, Bool.true_eq_false, Int.reduceLT, Int.reduceLE, Int.reduceAdd, Int.reduceSub, Int.reduceMul, Int.reduceNeg, Int.reduceEq, decide_true, decide_false, decide_eq_true_eq, Bool.not_eq_true, decide_eq_false_iff_not, ↓ev_fraise, ↓ev_ftry, tr_nx, lose_nil, lose_cons, lose_so, z_isNx, z_tuple, e1, c1, ad, e2, ne, e3, ni, e4]
theorem e_right_core (t0 : T) (vs : List Int) (h60 : vs.length ≤ 60) (hs : ∀ v ∈ vs, small v) : ∃ b2 b3 b4 b5 b6 : Option T, s__law_right [some t0, some (intsT vs), none, none, none, none, none, none] = some (.rt (.bl true) [some t0, some (intsT vs), b2, b3, b4, b5, b6, none]) := by
  obtain ⟨c0, r0⟩ := (sw_ints hs h60).repr
  have hl : (onc plL vs).length = vs.length := (onc_perm plL vs).length_eq
  have e1 : runF [.sh, .sh] 2 s__law_once [tL, intsT vs] = some (.ok (intsT (onc plL vs)) [tL, intsT vs]) := e_lonce plL okL vs (by omega)
  have e2 : runF [.sh, .sh] 2 s__law_once [tL, intsT (onc plL vs)] = some (.ok (intsT (onc plL vs)) [tL, intsT (onc plL vs)]) := by
    have e := e_lonce plL okL (onc plL vs) (by omega)
    rw [oncL_two vs (by omega)] at e
    exact e
  have n1 := z_neI (onc plL vs) (onc plL vs)
  rw [decide_eq_true rfl] at n1
  have n2 := z_neI (onc plL vs) vs
  have e3 : runF [.sh, .sh] 5 s_passes_needed [tL, intsT vs] = some (.ok (.int (pnd plL vs : Nat)) [tL, intsT vs]) := e_passes_needed plL okL vs h60
  have key : ∃ b : Bool, neT (intsT (onc plL vs)) (intsT vs) = some (.bl b) ∧ intT (.bl b) = some (.int (pnd plL vs : Nat)) := by
    refine ⟨_, n2, ?_⟩
    rw [pndL vs (by omega)]
    by_cases e : onc plL vs = vs
    · rw [if_pos e, decide_eq_true e]
      rfl
    · rw [if_neg e, decide_eq_false e]
      rfl
  obtain ⟨b, k1, k2⟩ := key
  obtain ⟨E', L, a5, a6, rfl⟩ := ffor_inv (g := gset 5) (b := s__law_right_L1) (fun j E => ∃ a5 a6 : Option T, E = [some t0, some (intsT vs), some (.str c0), some (intsT (onc plL vs)), some (intsT (pss plP j vs)), a5, a6, none])
    (ts := rngT 1 12) (k := 0) (E := [some t0, some (intsT vs), some (.str c0), some (intsT (onc plL vs)), some (intsT vs), none, none, none]) ⟨none, none, rfl⟩ (by
    rintro j t E hj ⟨a5, a6, rfl⟩
    obtain ⟨hj', rfl⟩ := rngT_get hj
    have e := e_r_L1 (some t0) (some (.str c0)) (some (intsT (onc plL vs))) a6 vs h60 j (by omega)
    rw [show ((j + 1 : Nat) : Int) = 1 + (j : Int) by omega] at e
    rw [Nat.zero_add]
    exact ⟨_, _, rfl, .inl e, _, _, rfl⟩)
  have rn : rng2 [.int 1, .int 13] = some (rngT 1 12) := rfl
  have e5 := e_falls vs h60
  have hd : ∀ i : Int, decide (i = i) = true := fun i => decide_eq_true rfl
  refine ⟨some (.str c0), some (intsT (onc plL vs)), some (intsT (pss plP (0 + (rngT 1 12).length) vs)), a5, a6, ?_⟩
  simp only [s__law_right, ↓ev_bind, ↓ev_pure, ↓ev_rd, ↓ev_lf, ↓ev_vr, ↓ev_kc, ↓ev_mv, ↓ev_pp2, ↓ev_pp1, ↓ev_tnot, ↓ev_tand, ↓ev_tor, ↓ev_vand, ↓ev_vor, ↓ev_vnot, ↓ev_vif, ↓ev_fset, ↓ev_fdo, ↓ev_frt, ↓ev_fif, ↓ev_fnx, ↓ev_fbk, ↓ev_fct, ↓ev_fno, ↓ev_fsq, ↓ev_afI, ↓ev_fasg, ↓ev_faug, ↓ev_fseti, ↓ev_fpar2, ↓ev_fcall, ↓ev_fkw, ↓ev_fmu0, ↓ev_fmu1, ↓ev_pchn, ev_acn, ↓ev_aci, z_ixN0, pick, List.getD_cons_zero, List.getD_cons_succ, eq_self, ev_gset, ev_gnil, ev_gcons, ↓ev_go, ↓ev_fl, ↓ev_flgo, ↓ev_rsgo, z_add, z_addL, z_sub, z_cmp, z_int, z_intb, z_len, z_lent, z_bl, z_int?, z_lst, z_tup, z_seq, z_neg, z_isN, z_notN, z_isNi, z_isNn, z_isNl, z_isNs, z_isNt, z_list, z_listt, z_rev, z_eqi, z_nei, z_eqs, z_nes, z_eqb, z_neb, z_ixif, z_ml0, z_ml1, z_mt1, z_ml2, z_mt2, z_ml3, z_mt3, z_ml4, z_mt4, z_ml5, z_mt5, z_ml6, z_ml7, z_ml8, z_ml9, z_ml10, z_ml11, z_ml12, z_ml13, z_ml14, z_ixl0, z_ixt0, z_ixl1, z_ixt1, z_ixl2, z_ixt2, z_ixl3, z_ixt3, z_ixl4, z_ixt4, z_ixl5, z_ixl6, z_ixl7, z_ixl8, z_ixl9, z_ixl10, z_ixl11, z_ixl12, z_ixl13, fill_nil, fill_no, fill_so, put_of, hole_nil, hole_no, hole_so, back_no, back_so, fin_rt, fin_nx, fin_ex, mix_nil, mix_sh, mix_ow, Option.map_some, Option.bind_some, Option.join_some, Option.bind_none, Option.map_none, List.getElem?_cons_zero, List.getElem?_cons_succ, List.set_cons_zero, List.set_cons_succ, List.map_nil, List.map_cons, List.append_nil, List.nil_append, List.cons_append, List.length_cons, List.length_nil, List.replicate_succ, List.replicate_zero, Nat.reduceAdd, Nat.reduceSub, ↓reduceIte, Bool.not_true, Bool.not_false, Bool.false_eq_true, Bool.true_eq_false, Int.reduceLT, Int.reduceLE, Int.reduceAdd, Int.reduceSub, Int.reduceMul, Int.reduceNeg, Int.reduceEq, decide_true, decide_false, decide_eq_true_eq, Bool.not_eq_true, decide_eq_false_iff_not, ↓ev_fraise, ↓ev_ftry, tr_nx, lose_nil, lose_cons, lose_so, z_isNx, z_tuple, r0, e1, e2, n1, e3, k1, k2, hd, rn, L, e5]

end Law

end
section
set_option maxHeartbeats 4000000
namespace Law
open PySem PySem.Spec PyProof.Rows L2 Tr
/-! ### the law of k41 -/
theorem e_right_s (t0 : T) (vs : List Int) (h60 : vs.length ≤ 60) (hs : ∀ v ∈ vs, small v) : runF [.sh, .sh] 8 s__law_right [t0, intsT vs] = some (.ok (.bl true) [t0, intsT vs]) := by
  obtain ⟨b2, b3, b4, b5, b6, e⟩ := e_right_core t0 vs h60 hs
  exact run_rt (E0 := [some t0, some (intsT vs), none, none, none, none, none, none]) rfl e rfl
theorem right_o : s__law_right__o = s__law_right := rfl
theorem e_right_o (t0 : T) (vs : List Int) (h60 : vs.length ≤ 60) (hs : ∀ v ∈ vs, small v) : runF [.ow .sh, .sh] 8 s__law_right__o [t0, intsT vs] = some (.ok (.bl true) [t0, intsT vs]) := by
  obtain ⟨b2, b3, b4, b5, b6, e⟩ := e_right_core t0 vs h60 hs
  rw [right_o]
  exact run_rt (E0 := [some t0, some (intsT vs), none, none, none, none, none, none]) rfl e rfl
/-! ### the law: draws of the script's cells -/
def dr0 (c : Int) : Dr := ⟨c % ((10 ^ 60) ^ 60) ^ 4, 0, decide (10 ^ 18 ≤ c)⟩
theorem dr0_ok (c : Int) : (dr0 c).ok (2 ^ 59) := ⟨Int.le_refl 0, by simp [dr0]⟩
theorem e_draws (c : Int) : runF [.sh] 1 s__law_draws [.int c] = some (.ok (dr0 c).t [.int c]) := by
  have h : modS (.int c) (.int (((10 ^ 60) ^ 60) ^ 4)) = some (.int (c % ((10 ^ 60) ^ 60) ^ 4)) := z_mod (by decide)
  rw [run_ev]
  simp only [s__law_draws, ↓ev_bind, ↓ev_pure, ↓ev_rd, ↓ev_lf, ↓ev_vr, ↓ev_kc, ↓ev_mv, ↓ev_pp2, ↓ev_pp1, ↓ev_tnot, ↓ev_tand, ↓ev_tor, ↓ev_vand, ↓ev_vor, ↓ev_vnot, ↓ev_vif, ↓ev_fset, ↓ev_fdo, ↓ev_frt, ↓ev_fif, ↓ev_fnx, ↓ev_fbk, ↓ev_fct, ↓ev_fno, ↓ev_fsq, ↓ev_afI, ↓ev_fasg, ↓ev_faug, ↓ev_fseti, ↓ev_fpar2, ↓ev_fcall, ↓ev_fkw, ↓ev_fmu0, ↓ev_fmu1, ↓ev_pchn, ev_acn, ↓ev_aci, z_ixN0, pick, List.getD_cons_zero, List.getD_cons_succ, eq_self, ev_gset, ev_gnil, ev_gcons, ↓ev_go, ↓ev_fl, ↓ev_flgo, ↓ev_rsgo, z_add, z_addL, z_sub, z_cmp, z_int, z_intb, z_len, z_lent, z_bl, z_int?, z_lst, z_tup, z_seq, z_neg, z_isN, z_notN, z_isNi, z_isNn, z_isNl, z_isNs, z_isNt, z_list, z_listt, z_rev, z_eqi, z_nei, z_eqs, z_nes, z_eqb, z_neb, z_ixif, z_ml0, z_ml1, z_mt1, z_ml2, z_mt2, z_ml3, z_mt3, z_ml4, z_mt4, z_ml5, z_mt5, z_ml6, z_ml7, z_ml8, z_ml9, z_ml10, z_ml11, z_ml12, z_ml13, z_ml14, z_ixl0, z_ixt0, z_ixl1, z_ixt1, z_ixl2, z_ixt2, z_ixl3, z_ixt3, z_ixl4, z_ixt4, z_ixl5, z_ixl6, z_ixl7, z_ixl8, z_ixl9, z_ixl10, z_ixl11, z_ixl12, z_ixl13, fill_nil, fill_no, fill_so, put_of, hole_nil, hole_no, hole_so, back_no, back_so, fin_rt, fin_nx, fin_ex, mix_nil, mix_sh, mix_ow, Option.map_some, Option.bind_some, Option.join_some, Option.bind_none, Option.map_none, List.getElem?_cons_zero, List.getElem?_cons_succ, List.set_cons_zero, List.set_cons_succ, List.map_nil, List.map_cons, List.append_nil, List.nil_append, List.cons_append, List.length_cons, List.length_nil, List.replicate_succ, List.replicate_zero, Nat.reduceAdd, Nat.reduceSub, ↓reduceIte, Bool.not_true, Bool.not_false, Bool.false_eq_true, Bool.true_eq_false, Int.reduceLT, Int.reduceLE, Int.reduceAdd, Int.reduceSub, Int.reduceMul, Int.reduceNeg, Int.reduceEq, decide_true, decide_false, decide_eq_true_eq, Bool.not_eq_true, decide_eq_false_iff_not, pow_10_60, pow_60_60, pow_3600_4, pow_10_18, h]
  rfl

theorem e_law_C1 (ns : List Int) (a1 a2 a3 a4 : Option T) : ∃ ds : List Dr, (∀ d ∈ ds, d.ok (2 ^ 59)) ∧ ds ≠ [] ∧ s_law_C1 [some (.fz (ns.map T.int)), a1, a2, a3, a4, none] = some (.ok (.lst (ds.map Dr.t)) [some (.fz (ns.map T.int)), a1, a2, a3, a4, none]) := by
  have tk : slT (.fz (ns.map T.int)) (none, some 6) = some (.lst ((ns.take 6).map T.int)) := by
    show some (T.lst (cutT (ns.map T.int) none (some ((6 : Nat) : Int)))) = _
    rw [cut_to, List.map_take]
  have ad : addL (.lst ((ns.take 6).map T.int)) (.lst [.int 0]) = some (.lst ((ns.take 6 ++ [0]).map T.int)) := by
    show (if _ then _ else _) = _
    rw [if_pos (by rw [sizeLine_eq]; simp; omega)]
    simp
  refine ⟨(ns.take 6 ++ [0]).map dr0, fun d hd => ?_, by simp, ?_⟩
  · obtain ⟨c, _, rfl⟩ := List.mem_map.mp hd
    exact dr0_ok c
  · unfold s_law_C1
    refine (flc_map (xs := ns.take 6 ++ [0]) (E1 := [some (.fz (ns.map T.int)), a1, a2, a3, a4, none]) T.int (fun c => (dr0 c).t) ?_ (by rfl) (by rw [sizeLine_eq]; simp; omega) (fun c _ => ⟨_, rfl, rfl, rfl, by
      simp only [↓ev_bind, ↓ev_pure, ↓ev_rd, ↓ev_lf, ↓ev_vr, ↓ev_kc, ↓ev_mv, ↓ev_pp2, ↓ev_pp1, ↓ev_tnot, ↓ev_tand, ↓ev_tor, ↓ev_vand, ↓ev_vor, ↓ev_vnot, ↓ev_vif, ↓ev_fset, ↓ev_fdo, ↓ev_frt, ↓ev_fif, ↓ev_fnx, ↓ev_fbk, ↓ev_fct, ↓ev_fno, ↓ev_fsq, ↓ev_afI, ↓ev_fasg, ↓ev_faug, ↓ev_fseti, ↓ev_fpar2, ↓ev_fcall, ↓ev_fkw, ↓ev_fmu0, ↓ev_fmu1, ↓ev_pchn, ev_acn, ↓ev_aci, z_ixN0, pick, List.getD_cons_zero, List.getD_cons_succ, eq_self, ev_gset, ev_gnil, ev_gcons, ↓ev_go, ↓ev_fl, ↓ev_flgo, ↓ev_rsgo, z_add, z_addL, z_sub, z_cmp, z_int, z_intb, z_len, z_lent, z_bl, z_int?, z_lst, z_tup, z_seq, z_neg, z_isN, z_notN, z_isNi, z_isNn, z_isNl, z_isNs, z_isNt, z_list, z_listt, z_rev, z_eqi, z_nei, z_eqs, z_nes, z_eqb, z_neb, z_ixif, z_ml0, z_ml1, z_mt1, z_ml2, z_mt2, z_ml3, z_mt3, z_ml4, z_mt4, z_ml5, z_mt5, z_ml6, z_ml7, z_ml8, z_ml9, z_ml10, z_ml11, z_ml12, z_ml13, z_ml14, z_ixl0, z_ixt0, z_ixl1, z_ixt1, z_ixl2, z_ixt2, z_ixl3, z_ixt3, z_ixl4, z_ixt4, z_ixl5, z_ixl6, z_ixl7, z_ixl8, z_ixl9, z_ixl10, z_ixl11, z_ixl12, z_ixl13, fill_nil, fill_no, fill_so, put_of, hole_nil, hole_no, hole_so, back_no, back_so, fin_rt, fin_nx, fin_ex, mix_nil, mix_sh, mix_ow, Option.map_some, Option.bind_some, Option.join_some, Option.bind_none, Option.map_none, List.getElem?_cons_zero, List.getElem?_cons_succ, List.set_cons_zero, List.set_cons_succ, List.map_nil, List.map_cons, List.append_nil, List.nil_append, List.cons_append, List.length_cons, List.length_nil, List.replicate_succ, List.replicate_zero, Nat.reduceAdd, Nat.reduceSub, ↓reduceIte, Bool.not_true, Bool.not_false, Bool.false_eq_true, Bool.true_eq_false, Int.reduceLT, Int.reduceLE, Int.reduceAdd, Int.reduceSub, Int.reduceMul, Int.reduceNeg, Int.reduceEq, decide_true, decide_false, decide_eq_true_eq, Bool.not_eq_true, decide_eq_false_iff_not, ↓ev_fraise, ↓ev_ftry, tr_nx, lose_nil, lose_cons, lose_so, z_isNx, z_tuple, e_draws c]⟩)).trans ?_
    · simp only [↓ev_bind, ↓ev_pure, ↓ev_rd, ↓ev_lf, ↓ev_vr, ↓ev_kc, ↓ev_mv, ↓ev_pp2, ↓ev_pp1, ↓ev_tnot, ↓ev_tand, ↓ev_tor, ↓ev_vand, ↓ev_vor, ↓ev_vnot, ↓ev_vif, ↓ev_fset, ↓ev_fdo, ↓ev_frt, ↓ev_fif, ↓ev_fnx, ↓ev_fbk, ↓ev_fct, ↓ev_fno, ↓ev_fsq, ↓ev_afI, ↓ev_fasg, ↓ev_faug, ↓ev_fseti, ↓ev_fpar2, ↓ev_fcall, ↓ev_fkw, ↓ev_fmu0, ↓ev_fmu1, ↓ev_pchn, ev_acn, ↓ev_aci, z_ixN0, pick, List.getD_cons_zero, List.getD_cons_succ, eq_self, ev_gset, ev_gnil, ev_gcons, ↓ev_go, ↓ev_fl, ↓ev_flgo, ↓ev_rsgo, z_add, z_addL, z_sub, z_cmp, z_int, z_intb, z_len, z_lent, z_bl, z_int?, z_lst, z_tup, z_seq, z_neg, z_isN, z_notN, z_isNi, z_isNn, z_isNl, z_isNs, z_isNt, z_list, z_listt, z_rev, z_eqi, z_nei, z_eqs, z_nes, z_eqb, z_neb, z_ixif, z_ml0, z_ml1, z_mt1, z_ml2, z_mt2, z_ml3, z_mt3, z_ml4, z_mt4, z_ml5, z_mt5, z_ml6, z_ml7, z_ml8, z_ml9, z_ml10, z_ml11, z_ml12, z_ml13, z_ml14, z_ixl0, z_ixt0, z_ixl1, z_ixt1, z_ixl2, z_ixt2, z_ixl3, z_ixt3, z_ixl4, z_ixt4, z_ixl5, z_ixl6, z_ixl7, z_ixl8, z_ixl9, z_ixl10, z_ixl11, z_ixl12, z_ixl13, fill_nil, fill_no, fill_so, put_of, hole_nil, hole_no, hole_so, back_no, back_so, fin_rt, fin_nx, fin_ex, mix_nil, mix_sh, mix_ow, Option.map_some, Option.bind_some, Option.join_some, Option.bind_none, Option.map_none, List.getElem?_cons_zero, List.getElem?_cons_succ, List.set_cons_zero, List.set_cons_succ, List.map_nil, List.map_cons, List.append_nil, List.nil_append, List.cons_append, List.length_cons, List.length_nil, List.replicate_succ, List.replicate_zero, Nat.reduceAdd, Nat.reduceSub, ↓reduceIte, Bool.not_true, Bool.not_false, Bool.false_eq_true, Bool.true_eq_false, Int.reduceLT, Int.reduceLE, Int.reduceAdd, Int.reduceSub, Int.reduceMul, Int.reduceNeg, Int.reduceEq, decide_true, decide_false, decide_eq_true_eq, Bool.not_eq_true, decide_eq_false_iff_not, ↓ev_fraise, ↓ev_ftry, tr_nx, lose_nil, lose_cons, lose_so, z_isNx, z_tuple, tk, ad]
    · rw [List.map_map]
      rfl
theorem e_l_L3 (d : Dr) (m : Nat) (h : d.ok (m + 63)) (a0 a2 a3 a4 a5 : Option T) : ∃ d' : Dr, d'.ok m ∧ s_law_L3 [a0, some d.t, a2, a3, a4, a5] = some (.nx [a0, some d'.t, a2, a3, a4, a5]) := by
  obtain ⟨vs, d1, h1, h60, hs, e1⟩ := e_values d m 60 (by decide) h
  have e1' : runF [.ow .sh, .sh] 5 s__law_values [d.t, .int 60] = some (.ok (intsT vs) [d1.t, .int 60]) := e1
  have e2 := e_right_o d1.t vs h60 hs
  refine ⟨d1, h1, ?_⟩
  simp only [s_law_L3, ↓ev_bind, ↓ev_pure, ↓ev_rd, ↓ev_lf, ↓ev_vr, ↓ev_kc, ↓ev_mv, ↓ev_pp2, ↓ev_pp1, ↓ev_tnot, ↓ev_tand, ↓ev_tor, ↓ev_vand, ↓ev_vor, ↓ev_vnot, ↓ev_vif, ↓ev_fset, ↓ev_fdo, ↓ev_frt, ↓ev_fif, ↓ev_fnx, ↓ev_fbk, ↓ev_fct, ↓ev_fno, ↓ev_fsq, ↓ev_afI, ↓ev_fasg, ↓ev_faug, ↓ev_fseti, ↓ev_fpar2, ↓ev_fcall, ↓ev_fkw, ↓ev_fmu0, ↓ev_fmu1, ↓ev_pchn, ev_acn, ↓ev_aci, z_ixN0, pick, List.getD_cons_zero, List.getD_cons_succ, eq_self, ev_gset, ev_gnil, ev_gcons, ↓ev_go, ↓ev_fl, ↓ev_flgo, ↓ev_rsgo, z_add, z_addL, z_sub, z_cmp, z_int, z_intb, z_len, z_lent, z_bl, z_int?, z_lst, z_tup, z_seq, z_neg, z_isN, z_notN, z_isNi, z_isNn, z_isNl, z_isNs, z_isNt, z_list, z_listt, z_rev, z_eqi, z_nei, z_eqs, z_nes, z_eqb, z_neb, z_ixif, z_ml0, z_ml1, z_mt1, z_ml2, z_mt2, z_ml3, z_mt3, z_ml4, z_mt4, z_ml5, z_mt5, z_ml6, z_ml7, z_ml8, z_ml9, z_ml10, z_ml11, z_ml12, z_ml13, z_ml14, z_ixl0, z_ixt0, z_ixl1, z_ixt1, z_ixl2, z_ixt2, z_ixl3, z_ixt3, z_ixl4, z_ixt4, z_ixl5, z_ixl6, z_ixl7, z_ixl8, z_ixl9, z_ixl10, z_ixl11, z_ixl12, z_ixl13, fill_nil, fill_no, fill_so, put_of, hole_nil, hole_no, hole_so, back_no, back_so, fin_rt, fin_nx, fin_ex, mix_nil, mix_sh, mix_ow, Option.map_some, Option.bind_some, Option.join_some, Option.bind_none, Option.map_none, List.getElem?_cons_zero, List.getElem?_cons_succ, List.set_cons_zero, List.set_cons_succ, List.map_nil, List.map_cons, List.append_nil, List.nil_append, List.cons_append, List.length_cons, List.length_nil, List.replicate_succ, List.replicate_zero, Nat.reduceAdd, Nat.reduceSub, ↓reduceIte, Bool.not_true, Bool.not_false, Bool.false_eq_true, Bool.true_eq_false, Int.reduceLT, Int.reduceLE, Int.reduceAdd, Int.reduceSub, Int.reduceMul, Int.reduceNeg, Int.reduceEq, decide_true, decide_false, decide_eq_true_eq, Bool.not_eq_true, decide_eq_false_iff_not, ↓ev_fraise, ↓ev_ftry, tr_nx, lose_nil, lose_cons, lose_so, z_isNx, z_tuple, e1', e2]
theorem e_law_L1 (d : Dr) (m : Nat) (h : d.ok (m + 200)) (a0 a2 a3 a4 a5 : Option T) : ∃ d' : Dr, d'.ok m ∧ s_law_L1 [a0, some d.t, a2, a3, a4, a5] = some (.nx [a0, some d'.t, some (.int 1), a3, a4, a5]) := by
  have r2 : rng1 [.int 2] = some (rngT 0 2) := z_rng1 (by decide)
  obtain ⟨d1, h1, e1⟩ := e_l_L3 d (m + 63) (h.le (by omega)) a0 (some (.int 0)) a3 a4 a5
  obtain ⟨d2, h2, e2⟩ := e_l_L3 d1 m h1 a0 (some (.int 1)) a3 a4 a5
  refine ⟨d2, h2, ?_⟩
  have lp : ffor (gset 2) s_law_L3 (rngT 0 2) [a0, some d.t, a2, a3, a4, a5] = some (.nx [a0, some d2.t, some (.int 1), a3, a4, a5]) := by
    have q1 : s_law_L3 [a0, some d.t, some (.int (0 + ((0 : Nat) : Int))), a3, a4, a5] = _ := e1
    have q2 : s_law_L3 [a0, some d1.t, some (.int (0 + ((1 : Nat) : Int))), a3, a4, a5] = _ := e2
    simp only [rngT, List.range, List.range.loop, List.map_cons, List.map_nil, ffor, gset, List.set_cons_zero, List.set_cons_succ, q1, q2]
  simp only [s_law_L1, ↓ev_bind, ↓ev_pure, ↓ev_rd, ↓ev_lf, ↓ev_vr, ↓ev_kc, ↓ev_mv, ↓ev_pp2, ↓ev_pp1, ↓ev_tnot, ↓ev_tand, ↓ev_tor, ↓ev_vand, ↓ev_vor, ↓ev_vnot, ↓ev_vif, ↓ev_fset, ↓ev_fdo, ↓ev_frt, ↓ev_fif, ↓ev_fnx, ↓ev_fbk, ↓ev_fct, ↓ev_fno, ↓ev_fsq, ↓ev_afI, ↓ev_fasg, ↓ev_faug, ↓ev_fseti, ↓ev_fpar2, ↓ev_fcall, ↓ev_fkw, ↓ev_fmu0, ↓ev_fmu1, ↓ev_pchn, ev_acn, ↓ev_aci, z_ixN0, pick, List.getD_cons_zero, List.getD_cons_succ, eq_self, ev_gset, ev_gnil, ev_gcons, ↓ev_go, ↓ev_fl, ↓ev_flgo, ↓ev_rsgo, z_add, z_addL, z_sub, z_cmp, z_int, z_intb, z_len, z_lent, z_bl, z_int?, z_lst, z_tup, z_seq, z_neg, z_isN, z_notN, z_isNi, z_isNn, z_isNl, z_isNs, z_isNt, z_list, z_listt, z_rev, z_eqi, z_nei, z_eqs, z_nes, z_eqb, z_neb, z_ixif, z_ml0, z_ml1, z_mt1, z_ml2, z_mt2, z_ml3, z_mt3, z_ml4, z_mt4, z_ml5, z_mt5, z_ml6, z_ml7, z_ml8, z_ml9, z_ml10, z_ml11, z_ml12, z_ml13, z_ml14, z_ixl0, z_ixt0, z_ixl1, z_ixt1, z_ixl2, z_ixt2, z_ixl3, z_ixt3, z_ixl4, z_ixt4, z_ixl5, z_ixl6, z_ixl7, z_ixl8, z_ixl9, z_ixl10, z_ixl11, z_ixl12, z_ixl13, fill_nil, fill_no, fill_so, put_of, hole_nil, hole_no, hole_so, back_no, back_so, fin_rt, fin_nx, fin_ex, mix_nil, mix_sh, mix_ow, Option.map_some, Option.bind_some, Option.join_some, Option.bind_none, Option.map_none, List.getElem?_cons_zero, List.getElem?_cons_succ, List.set_cons_zero, List.set_cons_succ, List.map_nil, List.map_cons, List.append_nil, List.nil_append, List.cons_append, List.length_cons, List.length_nil, List.replicate_succ, List.replicate_zero, Nat.reduceAdd, Nat.reduceSub, ↓reduceIte, Bool.not_true, Bool.not_false, Bool.false_eq_true, Bool.true_eq_false, Int.reduceLT, Int.reduceLE, Int.reduceAdd, Int.reduceSub, Int.reduceMul, Int.reduceNeg, Int.reduceEq, decide_true, decide_false, decide_eq_true_eq, Bool.not_eq_true, decide_eq_false_iff_not, ↓ev_fraise, ↓ev_ftry, tr_nx, lose_nil, lose_cons, lose_so, z_isNx, z_tuple, r2, lp]
def dwnI (n : Nat) : List Int := (List.range (n + 1)).map fun m => (n : Int) + (m : Nat) * (-1)
theorem dwn_T (n : Nat) (h : n ≤ 59) : lrg3 [.int (n : Int), .int (-1), .int (-1)] = some (intsT (dwnI n)) := by
  have e : ((n : Int) - (-1)).toNat = n + 1 := by omega
  show (if (-1 : Int) = -1 ∧ (n : Int).natAbs < 2 ^ 61 ∧ (-1 : Int).natAbs < 2 ^ 61 ∧ ((n : Int) - (-1)).toNat ≤ 2 ^ 24 then some (T.lst (dwnT (n : Int) ((n : Int) - (-1)).toNat)) else none) = _
  rw [if_pos ⟨rfl, by omega, by decide, by omega⟩, e, dwnI, intsT, List.map_map]
  rfl
theorem dwn_mx : ∀ n ∈ [0, 1, 2, 12, 59], mxR (dwnI n) = n := by decide +kernel
theorem e_l_L2 (n : Nat) (hn : n ∈ [0, 1, 2, 12, 59]) (a0 a1 a2 a4 a5 : Option T) : s_law_L2 [a0, a1, a2, some (.int (n : Int)), a4, a5] = some (.nx [a0, a1, a2, some (.int (n : Int)), a4, a5]) := by
  have h59 : n ≤ 59 := by
    simp only [List.mem_cons, List.not_mem_nil, or_false] at hn
    omega
  have e := e_rpn (dwnI n) (by unfold dwnI; simp; omega)
  rw [dwn_mx n hn] at e
  have l := dwn_T n h59
  have ng : negT (.int 1) = some (.int (-1)) := rfl
  have hd : ∀ i : Int, decide (i = i) = true := fun i => decide_eq_true rfl
  simp only [s_law_L2, ↓ev_bind, ↓ev_pure, ↓ev_rd, ↓ev_lf, ↓ev_vr, ↓ev_kc, ↓ev_mv, ↓ev_pp2, ↓ev_pp1, ↓ev_tnot, ↓ev_tand, ↓ev_tor, ↓ev_vand, ↓ev_vor, ↓ev_vnot, ↓ev_vif, ↓ev_fset, ↓ev_fdo, ↓ev_frt, ↓ev_fif, ↓ev_fnx, ↓ev_fbk, ↓ev_fct, ↓ev_fno, ↓ev_fsq, ↓ev_afI, ↓ev_fasg, ↓ev_faug, ↓ev_fseti, ↓ev_fpar2, ↓ev_fcall, ↓ev_fkw, ↓ev_fmu0, ↓ev_fmu1, ↓ev_pchn, ev_acn, ↓ev_aci, z_ixN0, pick, List.getD_cons_zero, List.getD_cons_succ, eq_self, ev_gset, ev_gnil, ev_gcons, ↓ev_go, ↓ev_fl, ↓ev_flgo, ↓ev_rsgo, z_add, z_addL, z_sub, z_cmp, z_int, z_intb, z_len, z_lent, z_bl, z_int?, z_lst, z_tup, z_seq, z_neg, z_isN, z_notN, z_isNi, z_isNn, z_isNl, z_isNs, z_isNt, z_list, z_listt, z_rev, z_eqi, z_nei, z_eqs, z_nes, z_eqb, z_neb, z_ixif, z_ml0, z_ml1, z_mt1, z_ml2, z_mt2, z_ml3, z_mt3, z_ml4, z_mt4, z_ml5, z_mt5, z_ml6, z_ml7, z_ml8, z_ml9, z_ml10, z_ml11, z_ml12, z_ml13, z_ml14, z_ixl0, z_ixt0, z_ixl1, z_ixt1, z_ixl2, z_ixt2, z_ixl3, z_ixt3, z_ixl4, z_ixt4, z_ixl5, z_ixl6, z_ixl7, z_ixl8, z_ixl9, z_ixl10, z_ixl11, z_ixl12, z_ixl13, fill_nil, fill_no, fill_so, put_of, hole_nil, hole_no, hole_so, back_no, back_so, fin_rt, fin_nx, fin_ex, mix_nil, mix_sh, mix_ow, Option.map_some, Option.bind_some, Option.join_some, Option.bind_none, Option.map_none, List.getElem?_cons_zero, List.getElem?_cons_succ, List.set_cons_zero, List.set_cons_succ, List.map_nil, List.map_cons, List.append_nil, List.nil_append, List.cons_append, List.length_cons, List.length_nil, List.replicate_succ, List.replicate_zero, Nat.reduceAdd, Nat.reduceSub, ↓reduceIte, Bool.not_true, Bool.not_false, Bool.false_eq_true, Bool.true_eq_false, Int.reduceLT, Int.reduceLE, Int.reduceAdd, Int.reduceSub, Int.reduceMul, Int.reduceNeg, Int.reduceEq, decide_true, decide_false, decide_eq_true_eq, Bool.not_eq_true, decide_eq_false_iff_not, ↓ev_fraise, ↓ev_ftry, tr_nx, lose_nil, lose_cons, lose_so, z_isNx, z_tuple, ng, l, e, hd]
abbrev farI : Int := 99999999999999999999
theorem rpn_2 : runF [.sh] 2 s_right_passes_needed [.lst [.int farI, .int 0]] = some (.ok (.int 1) [.lst [.int farI, .int 0]]) := by
  have e := e_rpn [farI, 0] (by decide)
  rw [show mxR [farI, 0] = 1 by decide +kernel] at e
  exact e
theorem rpn_3 : runF [.sh] 2 s_right_passes_needed [.lst [.int farI, .int 0, .int (-farI)]] = some (.ok (.int 2) [.lst [.int farI, .int 0, .int (-farI)]]) := by
  have e := e_rpn [farI, 0, -farI] (by decide)
  rw [show mxR [farI, 0, -farI] = 2 by decide +kernel] at e
  exact e
theorem due : Due := by
  intro ns _ _
  obtain ⟨ds, hds, hne, eC⟩ := e_law_C1 ns none none none none
  obtain ⟨E1, L1, a1, a2, h1, rfl⟩ := ffor_inv (g := gset 1) (b := s_law_L1) (fun j E => ∃ a1 a2 : Option T, (0 < j → ∃ t, a1 = some t) ∧ E = [some (.fz (ns.map T.int)), a1, a2, none, none, none])
    (ts := ds.map Dr.t) (k := 0) (E := [some (.fz (ns.map T.int)), none, none, none, none, none]) ⟨none, none, fun z => absurd z (by decide), rfl⟩ (by
    rintro j t E hj ⟨a1, a2, _, rfl⟩
    rw [List.getElem?_map] at hj
    obtain ⟨d, hd, rfl⟩ := Option.map_eq_some_iff.mp hj
    obtain ⟨d', _, e⟩ := e_law_L1 d (2 ^ 59 - 200) (hds d (List.mem_of_getElem? hd)) (some (.fz (ns.map T.int))) a2 none none none
    exact ⟨_, _, rfl, .inl e, _, _, fun _ => ⟨_, rfl⟩, rfl⟩)
  obtain ⟨t0, rfl⟩ := h1 (by rw [List.length_map, Nat.zero_add]; exact List.length_pos_iff.mpr hne)
  obtain ⟨E2, L2, a3, rfl⟩ := ffor_inv (g := gset 3) (b := s_law_L2) (fun j E => ∃ a3 : Option T, E = [some (.fz (ns.map T.int)), some t0, a2, a3, none, none])
    (ts := ([0, 1, 2, 12, 59] : List Nat).map fun (n : Nat) => T.int (n : Int)) (k := 0) (E := [some (.fz (ns.map T.int)), some t0, a2, none, none, none]) ⟨none, rfl⟩ (by
    rintro j t E hj ⟨a3, rfl⟩
    rw [List.getElem?_map] at hj
    obtain ⟨n, hn, rfl⟩ := Option.map_eq_some_iff.mp hj
    exact ⟨_, _, rfl, .inl (e_l_L2 n (List.mem_of_getElem? hn) _ _ _ _ _), _, rfl⟩)
  have L2' : ffor (gset 3) s_law_L2 [.int 0, .int 1, .int 2, .int 12, .int 59] [some (.fz (ns.map T.int)), some t0, a2, none, none, none] = some (.nx [some (.fz (ns.map T.int)), some t0, a2, a3, none, none]) := L2
  have ng : negT (.int farI) = some (.int (-farI)) := rfl
  have sb : (100000000000000000000 : Int) - 1 = farI := rfl
  have p2 := rpn_2
  have p3 := rpn_3
  have q1 : runF [.sh, .sh] 8 s__law_right [t0, .lst []] = some (.ok (.bl true) [t0, .lst []]) := e_right_s t0 [] (by decide) (fun v h => by simp at h)
  have q2 : runF [.sh, .sh] 8 s__law_right [t0, .lst [.int farI, .int 0, .int (-farI)]] = some (.ok (.bl true) [t0, .lst [.int farI, .int 0, .int (-farI)]]) := e_right_s t0 [farI, 0, -farI] (by decide) (fun v h => by
    simp only [List.mem_cons, List.not_mem_nil, or_false] at h
    unfold small
    rcases h with rfl | rfl | rfl <;> decide)
  have q3 : runF [.sh, .sh] 8 s__law_right [t0, .lst [.int 3, .int 3, .int 2, .int 2, .int 1, .int 1]] = some (.ok (.bl true) [t0, .lst [.int 3, .int 3, .int 2, .int 2, .int 1, .int 1]]) := e_right_s t0 [3, 3, 2, 2, 1, 1] (by decide) (fun v h => by
    simp only [List.mem_cons, List.not_mem_nil, or_false] at h
    unfold small
    omega)
  have z0 : eqT (.lst []) (.lst []) = some (.bl true) := rfl
  generalize hF : farI = F at *
  refine ⟨[.fz (ns.map T.int)], ?_⟩
  rw [run_ev]
  simp only [s_law, ↓ev_bind, ↓ev_pure, ↓ev_rd, ↓ev_lf, ↓ev_vr, ↓ev_kc, ↓ev_mv, ↓ev_pp2, ↓ev_pp1, ↓ev_tnot, ↓ev_tand, ↓ev_tor, ↓ev_vand, ↓ev_vor, ↓ev_vnot, ↓ev_vif, ↓ev_fset, ↓ev_fdo, ↓ev_frt, ↓ev_fif, ↓ev_fnx, ↓ev_fbk, ↓ev_fct, ↓ev_fno, ↓ev_fsq, ↓ev_afI, ↓ev_fasg, ↓ev_faug, ↓ev_fseti, ↓ev_fpar2, ↓ev_fcall, ↓ev_fkw, ↓ev_fmu0, ↓ev_fmu1, ↓ev_pchn, ev_acn, ↓ev_aci, z_ixN0, pick, List.getD_cons_zero, List.getD_cons_succ, eq_self, ev_gset, ev_gnil, ev_gcons, ↓ev_go, ↓ev_fl, ↓ev_flgo, ↓ev_rsgo, z_add, z_addL, z_sub, z_cmp, z_int, z_intb, z_len, z_lent, z_bl, z_int?, z_lst, z_tup, z_seq, z_neg, z_isN, z_notN, z_isNi, z_isNn, z_isNl, z_isNs, z_isNt, z_list, z_listt, z_rev, z_eqi, z_nei, z_eqs, z_nes, z_eqb, z_neb, z_ixif, z_ml0, z_ml1, z_mt1, z_ml2, z_mt2, z_ml3, z_mt3, z_ml4, z_mt4, z_ml5, z_mt5, z_ml6, z_ml7, z_ml8, z_ml9, z_ml10, z_ml11, z_ml12, z_ml13, z_ml14, z_ixl0, z_ixt0, z_ixl1, z_ixt1, z_ixl2, z_ixt2, z_ixl3, z_ixt3, z_ixl4, z_ixt4, z_ixl5, z_ixl6, z_ixl7, z_ixl8, z_ixl9, z_ixl10, z_ixl11, z_ixl12, z_ixl13, fill_nil, fill_no, fill_so, put_of, hole_nil, hole_no, hole_so, back_no, back_so, fin_rt, fin_nx, fin_ex, mix_nil, mix_sh, mix_ow, Option.map_some, Option.bind_some, Option.join_some, Option.bind_none, Option.map_none, List.getElem?_cons_zero, List.getElem?_cons_succ, List.set_cons_zero, List.set_cons_succ, List.map_nil, List.map_cons, List.append_nil, List.nil_append, List.cons_append, List.length_cons, List.length_nil, List.replicate_succ, List.replicate_zero, Nat.reduceAdd, Nat.reduceSub, ↓reduceIte, Bool.not_true, Bool.not_false, Bool.false_eq_true, Bool.true_eq_false, Int.reduceLT, Int.reduceLE, Int.reduceAdd, Int.reduceSub, Int.reduceMul, Int.reduceNeg, Int.reduceEq, decide_true, decide_false, decide_eq_true_eq, Bool.not_eq_true, decide_eq_false_iff_not, ↓ev_fraise, ↓ev_ftry, tr_nx, lose_nil, lose_cons, lose_so, z_isNx, z_tuple, eC, L1, L2', pow_10_20n, sb, p2, ng, p3, q1, q2, e_lv0, e_ll0, z0, q3]

end Law

end
theorem PySem.Challenge.cw_halfquick_k41_whole_passes_at_one_side_holds : PySem.Challenge.rw_halfquick_k41_whole_passes_at_one_side.Holds := by
  exact Law.holds Law.due
