import PyProof.Rows.All
import Wide.All
import OpenK.AllK
import Wide.FinOn
import HandS.ForMost
import HandS.ForExc
import HandS.More
import HandS.Defaults
import HandS.Flow
import HandS.Style
import HandS.Wide
import HandS.IsInst
import HandS.TupAny
import HandS.TupMul
import HandS.Zip
import HandS.Codes
import HandS.HeadHook2
import HandS.Deep
import HandS.TupLen
import KE.KStateDown
import HandS.Ends
import HandS.MakeKwOnly
import KE.DataMinMax
import HandS.Exc
import HandS.ExcIs
import HandS.TryOnly
import HandS.TryMany
import HandS.Head0
import HandS.Head1
import HandS.Head2
import HandS.HeadEnd
import HandS.HeadHook1
import HandS.Dict
import HandS.DictTup
import KE.SortData
import HandS.Conv
import KE.KDictWalk
import KE.KDictSum
import KE.KDictList
import KE.KEqDict
import KE.GoesEnum
import KE.GoesMore
import PySem.Challenge.RW_vastview_k05_best_ways
set_option Elab.async false
set_option linter.all false
set_option maxRecDepth 100000
set_option maxHeartbeats 4000000
/-! VVa: plain data, results, and how they lie in the abstract heap. -/
namespace VV
open PySem PySem.Spec L2
open PyProof.Rows hiding St

abbrev D := PyData
abbrev Ad := Addr → Prop
/-- a list that is only read: the law's script -/
def rdL (ns : List Int) : D := .dict [(.none, .list (ns.map PyData.int))]
def keyD : Key → D
  | .inl i => .int i
  | .inr x => .str x
/-- a list that never changes: locked, or the top's own -/
def SqF (K : PySem.W.Frag) (H : Hp) (a : Addr) (xs : List V) : Prop :=
  (∃ o, H a = some (.frz o (.lst xs))) ∨ SqL K (fun _ => none) a xs
theorem SqF.sq {K : PySem.W.Frag} {H : Hp} {a : Addr} {xs : List V} (h : SqF K H a xs) : SqL K H a xs := by
  rcases h with h | (h | ⟨_, h⟩) | h
  · exact .inl (.inr h)
  · cases h
  · cases h
  · exact .inr h

/-! ### how data lie in the heap; L: the addresses that may still be changed -/
mutual
inductive Rp (K : PySem.W.Frag) (H : Hp) (L : Ad) : D → V → Prop
  | non : Rp K H L .none .non
  | bl (b : Bool) : Rp K H L (.bool b) (.bl b)
  | int (i : Int) : Rp K H L (.int i) (.int i)
  | str (x : Str) : Rp K H L (.str x) (.str x)
  | tup {a : Addr} {vs : List V} {ds : List D} : H a = some (.tup vs) → RpL K H L ds vs → Rp K H L (.tuple ds) (.ref a)
  | lst {a : Addr} {vs : List V} {ds : List D} : H a = some (.lst vs) → ¬ L a → RpL K H L ds vs → Rp K H L (.list ds) (.ref a)
  | rd {a : Addr} {ns : List Int} : SqF K H a (ns.map V.int) → Rp K H L (rdL ns) (.ref a)
  | dk {a : Addr} {kvs : List (Key × V)} {ps : List (D × D)} : H a = some (.dK kvs) → ¬ L a → ps.map (·.1) = kvs.map (fun q => keyD q.1) → RpL K H L (ps.map (·.2)) (kvs.map (·.2)) → Rp K H L (.dict ps) (.ref a)
  | dt {a : Addr} {kvs : List (List Key × V)} {ps : List (D × D)} : H a = some (.dT kvs) → ¬ L a → ps.map (·.1) = kvs.map (fun q => PyData.tuple (q.1.map keyD)) → RpL K H L (ps.map (·.2)) (kvs.map (·.2)) → Rp K H L (.dict ((PyData.none, PyData.none) :: ps)) (.ref a)
inductive RpL (K : PySem.W.Frag) (H : Hp) (L : Ad) : List D → List V → Prop
  | nil : RpL K H L [] []
  | cons {d : D} {v : V} {ds : List D} {vs : List V} : Rp K H L d v → RpL K H L ds vs → RpL K H L (d :: ds) (v :: vs)
end
section
variable {K : PySem.W.Frag} {H H' : Hp} {L L' : Ad}
theorem SqF.mono {a : Addr} {xs : List V} (s : Same H H') (h : SqF K H a xs) : SqF K H' a xs := by
  rcases h with ⟨o, h⟩ | h
  · exact .inl ⟨o, s _ _ h⟩
  · exact .inr h
mutual
theorem Rp.mono (s : Same H H') : ∀ {d : D} {v : V}, Rp K H L d v → Rp K H' L d v
  | _, _, .non => .non
  | _, _, .bl b => .bl b
  | _, _, .int i => .int i
  | _, _, .str x => .str x
  | _, _, .tup h r => .tup (s _ _ h) (RpL.mono s r)
  | _, _, .lst h n r => .lst (s _ _ h) n (RpL.mono s r)
  | _, _, .rd h => .rd (h.mono s)
  | _, _, .dk h n e r => .dk (s _ _ h) n e (RpL.mono s r)
  | _, _, .dt h n e r => .dt (s _ _ h) n e (RpL.mono s r)
theorem RpL.mono (s : Same H H') : ∀ {ds : List D} {vs : List V}, RpL K H L ds vs → RpL K H' L ds vs
  | _, _, .nil => .nil
  | _, _, .cons h r => .cons (Rp.mono s h) (RpL.mono s r)
end
/- another set of addresses: fewer, or new ones -/
mutual
theorem Rp.lives (s : ∀ a, L' a → L a ∨ H a = none) : ∀ {d : D} {v : V}, Rp K H L d v → Rp K H L' d v
  | _, _, .non => .non
  | _, _, .bl b => .bl b
  | _, _, .int i => .int i
  | _, _, .str x => .str x
  | _, _, .tup h r => .tup h (RpL.lives s r)
  | _, _, .lst h n r => .lst h (fun z => (s _ z).elim n fun q => by rw [q] at h; cases h) (RpL.lives s r)
  | _, _, .rd h => .rd h
  | _, _, .dk h n e r => .dk h (fun z => (s _ z).elim n fun q => by rw [q] at h; cases h) e (RpL.lives s r)
  | _, _, .dt h n e r => .dt h (fun z => (s _ z).elim n fun q => by rw [q] at h; cases h) e (RpL.lives s r)
theorem RpL.lives (s : ∀ a, L' a → L a ∨ H a = none) : ∀ {ds : List D} {vs : List V}, RpL K H L ds vs → RpL K H L' ds vs
  | _, _, .nil => .nil
  | _, _, .cons h r => .cons (Rp.lives s h) (RpL.lives s r)
end
/-- what is no tuple and not locked -/
def Chg : HO → Prop
  | .lst _ => True
  | .dK _ => True
  | .dT _ => True
  | _ => False
theorem SqF.upd {a b : Addr} {o o' : HO} {xs : List V} (hb : H b = some o) (c : Chg o) (h : SqF K H a xs) : SqF K (upd H b o') a xs := by
  rcases h with ⟨q, h⟩ | h
  · refine .inl ⟨q, ?_⟩
    rw [upd_ne]
    · exact h
    · intro e; subst e; rw [hb] at h; cases h; exact c
  · exact .inr h
/- a changeable object is written -/
mutual
theorem Rp.upd {b : Addr} {o o' : HO} (hb : H b = some o) (c : Chg o) (hl : L b) : ∀ {d : D} {v : V}, Rp K H L d v → Rp K (upd H b o') L d v
  | _, _, .non => .non
  | _, _, .bl b => .bl b
  | _, _, .int i => .int i
  | _, _, .str x => .str x
  | _, _, .tup h r => .tup (by rw [upd_ne (by intro e; subst e; rw [hb] at h; cases h; exact c)]; exact h) (RpL.upd hb c hl r)
  | _, _, .lst h n r => .lst (by rw [upd_ne (by intro e; subst e; exact n hl)]; exact h) n (RpL.upd hb c hl r)
  | _, _, .rd h => .rd (SqF.upd hb c h)
  | _, _, .dk h n e r => .dk (by rw [upd_ne (by intro e; subst e; exact n hl)]; exact h) n e (RpL.upd hb c hl r)
  | _, _, .dt h n e r => .dt (by rw [upd_ne (by intro e; subst e; exact n hl)]; exact h) n e (RpL.upd hb c hl r)
theorem RpL.upd {b : Addr} {o o' : HO} (hb : H b = some o) (c : Chg o) (hl : L b) : ∀ {ds : List D} {vs : List V}, RpL K H L ds vs → RpL K (upd H b o') L ds vs
  | _, _, .nil => .nil
  | _, _, .cons h r => .cons (Rp.upd hb c hl h) (RpL.upd hb c hl r)
end
/-! ### lists of data -/
theorem RpL.length : ∀ {ds : List D} {vs : List V}, RpL K H L ds vs → ds.length = vs.length
  | _, _, .nil => rfl
  | _, _, .cons _ r => by simp [RpL.length r]
theorem RpL.get : ∀ {ds : List D} {vs : List V} {i : Nat} {d : D}, RpL K H L ds vs → ds[i]? = some d → ∃ v, vs[i]? = some v ∧ Rp K H L d v
  | _, _, _, _, .nil, h => by simp at h
  | _, _, 0, _, .cons r _, h => by simp at h; subst h; exact ⟨_, rfl, r⟩
  | _, _, i + 1, d, .cons _ r, h => by
    obtain ⟨v, e, q⟩ := RpL.get (i := i) (d := d) r (by simpa using h)
    exact ⟨v, by simpa using e, q⟩
theorem RpL.getV : ∀ {ds : List D} {vs : List V} {i : Nat} {v : V}, RpL K H L ds vs → vs[i]? = some v → ∃ d, ds[i]? = some d ∧ Rp K H L d v
  | _, _, _, _, .nil, h => by simp at h
  | _, _, 0, _, .cons r _, h => by simp at h; subst h; exact ⟨_, rfl, r⟩
  | _, _, i + 1, v, .cons _ r, h => by
    obtain ⟨d, e, q⟩ := RpL.getV (i := i) (v := v) r (by simpa using h)
    exact ⟨d, by simpa using e, q⟩
theorem RpL.append : ∀ {ds es : List D} {vs us : List V}, RpL K H L ds vs → RpL K H L es us → RpL K H L (ds ++ es) (vs ++ us)
  | _, _, _, _, .nil, s => s
  | _, _, _, _, .cons r t, s => .cons r (RpL.append t s)
theorem RpL.take (n : Nat) : ∀ {ds : List D} {vs : List V}, RpL K H L ds vs → RpL K H L (ds.take n) (vs.take n) := by
  induction n with
  | zero => intro ds vs _; simp; exact .nil
  | succ n ih =>
    intro ds vs h
    cases h with
    | nil => exact .nil
    | cons r t => exact .cons r (ih t)
theorem RpL.drop (n : Nat) : ∀ {ds : List D} {vs : List V}, RpL K H L ds vs → RpL K H L (ds.drop n) (vs.drop n) := by
  induction n with
  | zero => intro ds vs h; exact h
  | succ n ih =>
    intro ds vs h
    cases h with
    | nil => exact .nil
    | cons r t => exact ih t
theorem RpL.set {d : D} {v : V} (r : Rp K H L d v) (i : Nat) : ∀ {ds : List D} {vs : List V}, RpL K H L ds vs → RpL K H L (ds.set i d) (vs.set i v) := by
  induction i with
  | zero =>
    intro ds vs h
    cases h with
    | nil => exact .nil
    | cons q t => exact .cons r t
  | succ n ih =>
    intro ds vs h
    cases h with
    | nil => exact .nil
    | cons q t => exact .cons q (ih t)
theorem RpL.reverse {ds : List D} {vs : List V} (h : RpL K H L ds vs) : RpL K H L ds.reverse vs.reverse := by
  induction ds generalizing vs with
  | nil => cases h; exact .nil
  | cons d ds ih =>
    cases h with
    | cons r t =>
      simpa only [List.reverse_cons] using (ih t).append (.cons r .nil)
theorem RpL.rep {ds : List D} {vs : List V} (h : RpL K H L ds vs) : ∀ n : Nat, RpL K H L (List.replicate n ds).flatten (List.replicate n vs).flatten
  | 0 => by simp; exact .nil
  | n + 1 => by
    simpa only [List.replicate_succ, List.flatten_cons] using h.append (RpL.rep h n)
theorem RpL.eraseIdx : ∀ {ds : List D} {vs : List V} (i : Nat), RpL K H L ds vs → RpL K H L (ds.eraseIdx i) (vs.eraseIdx i)
  | _, _, _, .nil => by simp; exact .nil
  | _, _, 0, .cons _ t => t
  | _, _, i + 1, .cons q t => .cons q (RpL.eraseIdx i t)
/-- plain ints -/
theorem RpL.ints : ∀ {ns : List Int} {vs : List V}, RpL K H L (ns.map PyData.int) vs → vs = ns.map V.int
  | [], _, h => by cases h; rfl
  | n :: ns, _, h => by
    cases h with
    | cons r t =>
      cases r
      rw [RpL.ints t]
      rfl
theorem RpL.ofInts (ns : List Int) : RpL K H L (ns.map PyData.int) (ns.map V.int) := by
  induction ns with
  | nil => exact .nil
  | cons n ns ih => exact .cons (.int n) ih
theorem Rp.intV {i : Int} {v : V} (h : Rp K H L (.int i) v) : v = .int i := by cases h; rfl
theorem Rp.blV {b : Bool} {v : V} (h : Rp K H L (.bool b) v) : v = .bl b := by cases h; rfl
theorem Rp.strV {x : Str} {v : V} (h : Rp K H L (.str x) v) : v = .str x := by cases h; rfl
theorem Rp.nonV {v : V} (h : Rp K H L .none v) : v = .non := by cases h; rfl
theorem Rp.tupV {ds : List D} {v : V} (h : Rp K H L (.tuple ds) v) : ∃ a vs, v = .ref a ∧ H a = some (.tup vs) ∧ RpL K H L ds vs := by
  cases h with
  | tup h r => exact ⟨_, _, rfl, h, r⟩
theorem Rp.non_iff {d : D} {v : V} (h : Rp K H L d v) : v = .non ↔ d = .none := by
  cases h <;> simp [rdL]
end

/-! ### what may be changed is held by a slot; a value that is looked at for a moment may be such -/
/-- the object at a bears the list or dict d -/
inductive Ow (K : PySem.W.Frag) (H : Hp) (L : Ad) : D → Addr → Prop
  | lst {a : Addr} {vs : List V} {ds : List D} : H a = some (.lst vs) → RpL K H L ds vs → Ow K H L (.list ds) a
  | dk {a : Addr} {kvs : List (Key × V)} {ps : List (D × D)} : H a = some (.dK kvs) → ps.map (·.1) = kvs.map (fun q => keyD q.1) → RpL K H L (ps.map (·.2)) (kvs.map (·.2)) → Ow K H L (.dict ps) a
  | dt {a : Addr} {kvs : List (List Key × V)} {ps : List (D × D)} : H a = some (.dT kvs) → ps.map (·.1) = kvs.map (fun q => PyData.tuple (q.1.map keyD)) → RpL K H L (ps.map (·.2)) (kvs.map (·.2)) → Ow K H L (.dict ((PyData.none, PyData.none) :: ps)) a
def Rb (K : PySem.W.Frag) (H : Hp) (L : Ad) (d : D) (v : V) : Prop := Rp K H L d v ∨ ∃ a, v = .ref a ∧ Ow K H L d a
section
variable {K : PySem.W.Frag} {H H' : Hp} {L L' : Ad} {d : D} {v : V}
theorem Rp.rb (h : Rp K H L d v) : Rb K H L d v := .inl h
theorem Ow.mono {a : Addr} (s : Same H H') (h : Ow K H L d a) : Ow K H' L d a := by
  cases h with
  | lst h r => exact .lst (s _ _ h) (r.mono s)
  | dk h e r => exact .dk (s _ _ h) e (r.mono s)
  | dt h e r => exact .dt (s _ _ h) e (r.mono s)
theorem Ow.lives {a : Addr} (s : ∀ a, L' a → L a ∨ H a = none) (h : Ow K H L d a) : Ow K H L' d a := by
  cases h with
  | lst h r => exact .lst h (r.lives s)
  | dk h e r => exact .dk h e (r.lives s)
  | dt h e r => exact .dt h e (r.lives s)
theorem Ow.upd {a b : Addr} {o o' : HO} (hb : H b = some o) (c : Chg o) (hl : L b) (ne : a ≠ b) (h : Ow K H L d a) : Ow K (L2.upd H b o') L d a := by
  cases h with
  | lst h r => exact .lst (by rw [upd_ne ne]; exact h) (r.upd hb c hl)
  | dk h e r => exact .dk (by rw [upd_ne ne]; exact h) e (r.upd hb c hl)
  | dt h e r => exact .dt (by rw [upd_ne ne]; exact h) e (r.upd hb c hl)
theorem Ow.rp {a : Addr} (h : Ow K H L d a) (n : ¬ L a) : Rp K H L d (.ref a) := by
  cases h with
  | lst h r => exact .lst h n r
  | dk h e r => exact .dk h n e r
  | dt h e r => exact .dt h n e r
theorem Ow.chg {a : Addr} (h : Ow K H L d a) : ∃ o, H a = some o ∧ Chg o := by
  cases h with
  | lst h r => exact ⟨_, h, trivial⟩
  | dk h e r => exact ⟨_, h, trivial⟩
  | dt h e r => exact ⟨_, h, trivial⟩
theorem Rb.mono (s : Same H H') (h : Rb K H L d v) : Rb K H' L d v := by
  rcases h with h | ⟨a, e, h⟩
  · exact .inl (h.mono s)
  · exact .inr ⟨a, e, h.mono s⟩
theorem Rb.lstV {ds : List D} (h : Rb K H L (.list ds) v) : ∃ a vs, v = .ref a ∧ H a = some (.lst vs) ∧ RpL K H L ds vs := by
  rcases h with h | ⟨a, e, h⟩
  · cases h with
    | lst h n r => exact ⟨_, _, rfl, h, r⟩
  · cases h with
    | lst h r => exact ⟨a, _, e, h, r⟩
theorem Rb.tupV {ds : List D} (h : Rb K H L (.tuple ds) v) : ∃ a vs, v = .ref a ∧ H a = some (.tup vs) ∧ RpL K H L ds vs := by
  rcases h with h | ⟨a, e, h⟩
  · exact h.tupV
  · cases h
theorem Rb.intV {i : Int} (h : Rb K H L (.int i) v) : v = .int i := by
  rcases h with h | ⟨a, e, h⟩
  · exact h.intV
  · cases h
theorem Rb.blV {b : Bool} (h : Rb K H L (.bool b) v) : v = .bl b := by
  rcases h with h | ⟨a, e, h⟩
  · exact h.blV
  · cases h
theorem Rb.strV {x : Str} (h : Rb K H L (.str x) v) : v = .str x := by
  rcases h with h | ⟨a, e, h⟩
  · exact h.strV
  · cases h
theorem Rb.nonV (h : Rb K H L .none v) : v = .non := by
  rcases h with h | ⟨a, e, h⟩
  · exact h.nonV
  · cases h
theorem Rb.non_iff (h : Rb K H L d v) : v = .non ↔ d = .none := by
  rcases h with h | ⟨a, e, h⟩
  · exact h.non_iff
  · subst e
    cases h <;> simp
end
end VV

set_option Elab.async false
set_option linter.all false
set_option maxRecDepth 100000
set_option maxHeartbeats 4000000
/-! VVb: results, slots, the judgements of this layer, expressions. -/
namespace VV
open PySem PySem.Spec L2
open PyProof.Rows hiding St

/-! ### what an expression, a statement comes to -/
inductive Rs where
  | ok (d : D)
  | exc (c : Str) (fs : List (Str × D))
  | bad
def Rs.bind (r : Rs) (k : D → Rs) : Rs := match r with
  | .ok d => k d
  | .exc c fs => .exc c fs
  | .bad => .bad
def Rs.of : Option D → Rs
  | some d => .ok d
  | none => .bad
@[simp] theorem Rs.bind_ok (d : D) (k : D → Rs) : (Rs.ok d).bind k = k d := rfl
@[simp] theorem Rs.bind_exc (c : Str) (fs : List (Str × D)) (k : D → Rs) : (Rs.exc c fs).bind k = .exc c fs := rfl
@[simp] theorem Rs.bind_bad (k : D → Rs) : Rs.bad.bind k = .bad := rfl
@[simp] theorem Rs.of_some (d : D) : Rs.of (some d) = .ok d := rfl
@[simp] theorem Rs.of_none : Rs.of none = .bad := rfl
/-- a slot: a value; a list or dict that this frame alone holds -/
inductive Sl where
  | val (d : D)
  | own (d : D)
abbrev En := List (Option Sl)
abbrev EF := En → Rs
inductive Out where
  | nx (ρ : En)
  | rt (d : D)
  | bk (ρ : En)
  | ct (ρ : En)
  | exc (c : Str) (fs : List (Str × D)) (ρ : En)
  | bad
abbrev SF := En → Out
/-- live addresses are tracked -/
def LvOk (H : Hp) (L : Ad) : Prop := ∀ a, L a → H a ≠ none
theorem LvOk.mono {H H' : Hp} {L : Ad} (h : LvOk H L) (s : Same H H') : LvOk H' L := fun a z e => h a z (s.free e)
def SlR (K : PySem.W.Frag) (H : Hp) (L : Ad) : Sl → Option V → Prop
  | .val d, o => ∃ v, o = some v ∧ Rp K H L d v
  | .own d, o => ∃ a, o = some (.ref a) ∧ Ow K H L d a
/-- the slots, read -/
structure RE (K : PySem.W.Frag) (H : Hp) (L : Ad) (ρ : En) (σ : St) : Prop where
  lv : LvOk H L
  len : ρ.length = σ.length
  sl : ∀ (i : Nat) (x : Sl), ρ[i]? = some (some x) → ∃ o, σ[i]? = some o ∧ SlR K H L x o
theorem SlR.mono {K : PySem.W.Frag} {H H' : Hp} {L : Ad} {x : Sl} {o : Option V} (s : Same H H') (h : SlR K H L x o) : SlR K H' L x o := by
  cases x with
  | val d => obtain ⟨v, e, r⟩ := h; exact ⟨v, e, r.mono s⟩
  | own d => obtain ⟨a, e, r⟩ := h; exact ⟨a, e, r.mono s⟩
theorem RE.mono {K : PySem.W.Frag} {H H' : Hp} {L : Ad} {ρ : En} {σ : St} (h : RE K H L ρ σ) (s : Same H H') : RE K H' L ρ σ :=
  ⟨h.lv.mono s, h.len, fun i x e => let ⟨o, e1, r⟩ := h.sl i x e; ⟨o, e1, r.mono s⟩⟩
/-- an exception's fields -/
def XR (K : PySem.W.Frag) (H : Hp) (L : Ad) (fs : List (Str × D)) (x : Option Addr) : Prop :=
  (fs = [] ∧ x = none) ∨ ∃ (dd : Addr) (gs : List (Str × V)), fs ≠ [] ∧ x = some dd ∧ H dd = some (.xd gs) ∧ gs.map (·.1) = fs.map (·.1) ∧ RpL K H L (fs.map (·.2)) (gs.map (·.2))
def Post (K : PySem.W.Frag) (W : WX) (L : Ad) (σ : St) (H : Hp) (r : Rs) (Q : VK) : Prop := match r with
  | .ok d => ∀ (H' : Hp) (v : V), Same H H' → Rp K H' L d v → Q v H'
  | .exc c fs => ∀ (H' : Hp) (x : Option Addr), Same H H' → XR K H' L fs x → W (.ref (He.ga K c)) x σ H'
  | .bad => False
def PostB (K : PySem.W.Frag) (W : WX) (L : Ad) (σ : St) (H : Hp) (r : Rs) (Q : VK) : Prop := match r with
  | .ok d => ∀ (H' : Hp) (v : V), Same H H' → Rb K H' L d v → Q v H'
  | .exc c fs => ∀ (H' : Hp) (x : Option Addr), Same H H' → XR K H' L fs x → W (.ref (He.ga K c)) x σ H'
  | .bad => False
/-- L and one more -/
def Lp (L : Ad) (a : Addr) : Ad := fun z => L z ∨ z = a
/-- a new list or dict -/
def PostN (K : PySem.W.Frag) (W : WX) (L : Ad) (σ : St) (H : Hp) (r : Rs) (Q : VK) : Prop := match r with
  | .ok d => ∀ (H' : Hp) (a : Addr), Same H H' → H a = none → Ow K H' (Lp L a) d a → Q (.ref a) H'
  | .exc c fs => ∀ (H' : Hp) (x : Option Addr), Same H H' → XR K H' L fs x → W (.ref (He.ga K c)) x σ H'
  | .bad => False
/-- a test -/
def PostT (K : PySem.W.Frag) (W : WX) (L : Ad) (σ : St) (H : Hp) (r : Rs) (Q : Bool → Hp → Prop) : Prop := match r with
  | .ok (.bool b) => ∀ (H' : Hp), Same H H' → Q b H'
  | .exc c fs => ∀ (H' : Hp) (x : Option Addr), Same H H' → XR K H' L fs x → W (.ref (He.ga K c)) x σ H'
  | _ => False
section
variable {K : PySem.W.Frag} {W : WX} {L : Ad} {σ : St} {H H1 : Hp} {r : Rs} {Q R : VK}
theorem Post.mono (h : Post K W L σ H r Q) (s : Same H H1) : Post K W L σ H1 r Q := by
  cases r with
  | ok d => exact fun H' v s' => h H' v (s.trans s')
  | exc c fs => exact fun H' x s' => h H' x (s.trans s')
  | bad => exact h
theorem PostB.mono (h : PostB K W L σ H r Q) (s : Same H H1) : PostB K W L σ H1 r Q := by
  cases r with
  | ok d => exact fun H' v s' => h H' v (s.trans s')
  | exc c fs => exact fun H' x s' => h H' x (s.trans s')
  | bad => exact h
theorem PostT.mono {QT : Bool → Hp → Prop} (h : PostT K W L σ H r QT) (s : Same H H1) : PostT K W L σ H1 r QT := by
  cases r with
  | ok d =>
    cases d with
    | bool b => exact fun H' s' => h H' (s.trans s')
    | _ => exact h
  | exc c fs => exact fun H' x s' => h H' x (s.trans s')
  | bad => exact h
/-- one after the other -/
theorem Post.step {k : D → Rs} (h : Post K W L σ H (r.bind k) Q) (hk : ∀ d H1 v, Same H H1 → Rb K H1 L d v → Post K W L σ H1 (k d) Q → R v H1) : PostB K W L σ H r R := by
  cases r with
  | ok d => exact fun H' v s' rv => hk d H' v s' rv (Post.mono h s')
  | exc c fs => exact h
  | bad => exact h
theorem Post.stepE {k : D → Rs} (h : Post K W L σ H (r.bind k) Q) (hk : ∀ d H1 v, Same H H1 → Rp K H1 L d v → Post K W L σ H1 (k d) Q → R v H1) : Post K W L σ H r R := by
  cases r with
  | ok d => exact fun H' v s' rv => hk d H' v s' rv (Post.mono h s')
  | exc c fs => exact h
  | bad => exact h
theorem PostT.step {k : D → Rs} {QT : Bool → Hp → Prop} (h : PostT K W L σ H (r.bind k) QT) (hk : ∀ d H1 v, Same H H1 → Rb K H1 L d v → PostT K W L σ H1 (k d) QT → R v H1) : PostB K W L σ H r R := by
  cases r with
  | ok d => exact fun H' v s' rv => hk d H' v s' rv (PostT.mono h s')
  | exc c fs => exact h
  | bad => exact h
theorem PostT.stepT {k : D → Rs} {QT RT : Bool → Hp → Prop} (h : PostT K W L σ H (r.bind k) QT) (hb : ∀ d, (∀ b, d ≠ .bool b) → k d = .bad) (hk : ∀ b H1, Same H H1 → PostT K W L σ H1 (k (.bool b)) QT → RT b H1) : PostT K W L σ H r RT := by
  have key : ∀ d : D, (∀ b, d ≠ .bool b) → PostT K W L σ H ((Rs.ok d).bind k) QT → False := fun d hd h => by
    simp only [Rs.bind_ok] at h
    rw [hb d hd] at h
    exact h
  cases r with
  | ok d =>
    cases d with
    | bool b => exact fun H' s' => hk b H' s' (PostT.mono h s')
    | _ => exact (key _ (by intro b z; cases z) h).elim
  | exc c fs => exact h
  | bad => exact h
end
def tE (K : PySem.W.Frag) (W : WX) (f : EF) : TE := fun σ H Q => ∃ L ρ, RE K H L ρ σ ∧ Post K W L σ H (f ρ) Q
def tB (K : PySem.W.Frag) (W : WX) (f : EF) : TE := fun σ H Q => ∃ L ρ, RE K H L ρ σ ∧ PostB K W L σ H (f ρ) Q
def tN (K : PySem.W.Frag) (W : WX) (f : EF) : TE := fun σ H Q => ∃ L ρ, RE K H L ρ σ ∧ PostN K W L σ H (f ρ) Q
def tT (K : PySem.W.Frag) (W : WX) (f : EF) : TT := fun σ H Q => ∃ L ρ, RE K H L ρ σ ∧ PostT K W L σ H (f ρ) Q
/-- an expression has a value; .. for a moment; .. a new list or dict; a test -/
abbrev SE (X : Cx) (W : WX) (e : Expr) (f : EF) : Prop := PE X e (tE X.K W f)
abbrev SB (X : Cx) (W : WX) (e : Expr) (f : EF) : Prop := PE X e (tB X.K W f)
abbrev SN (X : Cx) (W : WX) (e : Expr) (f : EF) : Prop := PE X e (tN X.K W f)
abbrev ST (X : Cx) (W : WX) (e : Expr) (f : EF) : Prop := PT X e (tT X.K W f)
section
variable {X : Cx} {W : WX} {e : Expr} {f : EF}
theorem _root_.L2.PE.weak {t t' : TE} (h : PE X e t) (hw : ∀ σ H Q, t' σ H Q → t σ H Q) : PE X e t' := ⟨fun pins s σ H Q I q => h.run pins s σ H Q I (hw σ H Q q)⟩
theorem _root_.L2.PT.weak {t t' : TT} (h : PT X e t) (hw : ∀ σ H Q, t' σ H Q → t σ H Q) : PT X e t' := ⟨fun pins s σ H Q I q => h.run pins s σ H Q I (hw σ H Q q)⟩
theorem seb (h : SE X W e f) : SB X W e f := L2.PE.weak h fun σ H Q ⟨L, ρ, re, p⟩ => ⟨L, ρ, re, by
  cases hf : f ρ with
  | ok d => rw [hf] at p; exact fun H' v s r => p H' v s r.rb
  | exc c fs => rw [hf] at p; exact p
  | bad => rw [hf] at p; exact p⟩
theorem sne (h : SN X W e f) : SE X W e f := L2.PE.weak h fun σ H Q ⟨L, ρ, re, p⟩ => ⟨L, ρ, re, by
  cases hf : f ρ with
  | ok d => rw [hf] at p; exact fun H' a s n r => p H' (.ref a) s ((r.lives fun z q => .inl (.inl q)).rp fun z => re.lv a z n)
  | exc c fs => rw [hf] at p; exact p
  | bad => rw [hf] at p; exact p⟩
theorem snb (h : SN X W e f) : SB X W e f := seb (sne h)
end

/-! ### names, constants -/
def eV (i : Nat) : EF := fun ρ => match ρ[i]? with
  | some (some (.val d)) => .ok d
  | _ => .bad
def eB (i : Nat) : EF := fun ρ => match ρ[i]? with
  | some (some (.val d)) => .ok d
  | some (some (.own d)) => .ok d
  | _ => .bad
def eC (d : D) : EF := fun _ => .ok d
section
variable {X : Cx} {W : WX}
theorem se_v (i : Nat) {x : Str} {pos : Pos} (hN : X.N[i]? = some x := by rfl) (hv : Vis X.env.scope x := by first | exact Or.inl rfl | exact Or.inr (Or.inl rfl) | exact Or.inr (Or.inr rfl)) (hd : (x == ("__debug__" : Str)) = false := by decide)
    (hcd : (x == ("__classdict__" : Str)) = false := by decide) : SE X W (.Name x pos) (eV i) := (pe_var hN hv hd hcd).weak fun σ H Q ⟨L, ρ, re, p⟩ => by
  unfold eV at p
  cases hx : ρ[i]? with
  | none => simp only [hx] at p; exact p.elim
  | some o =>
    cases o with
    | none => simp only [hx] at p; exact p.elim
    | some x =>
      cases x with
      | own d => simp only [hx] at p; exact p.elim
      | val d =>
        simp only [hx] at p
        obtain ⟨o, e1, v, e2, r⟩ := re.sl i _ hx
        subst e2
        exact ⟨v, e1, p H v (Same.refl H) r⟩
theorem sb_v (i : Nat) {x : Str} {pos : Pos} (hN : X.N[i]? = some x := by rfl) (hv : Vis X.env.scope x := by first | exact Or.inl rfl | exact Or.inr (Or.inl rfl) | exact Or.inr (Or.inr rfl)) (hd : (x == ("__debug__" : Str)) = false := by decide)
    (hcd : (x == ("__classdict__" : Str)) = false := by decide) : SB X W (.Name x pos) (eB i) := (pe_var hN hv hd hcd).weak fun σ H Q ⟨L, ρ, re, p⟩ => by
  unfold eB at p
  cases hx : ρ[i]? with
  | none => simp only [hx] at p; exact p.elim
  | some o =>
    cases o with
    | none => simp only [hx] at p; exact p.elim
    | some x =>
      cases x with
      | own d =>
        simp only [hx] at p
        obtain ⟨o, e1, a, e2, r⟩ := re.sl i _ hx
        subst e2
        exact ⟨_, e1, p H _ (Same.refl H) (.inr ⟨a, rfl, r⟩)⟩
      | val d =>
        simp only [hx] at p
        obtain ⟨o, e1, v, e2, r⟩ := re.sl i _ hx
        subst e2
        exact ⟨v, e1, p H v (Same.refl H) r.rb⟩
theorem se_int {i j pos} : SE X W (.Constant (.int i) j pos) (eC (.int i)) := pe_int.weak fun σ H Q ⟨L, ρ, re, p⟩ => p H _ (Same.refl H) (.int i)
theorem se_bl {b j pos} : SE X W (.Constant (.bool b) j pos) (eC (.bool b)) := pe_bl.weak fun σ H Q ⟨L, ρ, re, p⟩ => p H _ (Same.refl H) (.bl b)
theorem se_non {j pos} : SE X W (.Constant .none j pos) (eC .none) := pe_non.weak fun σ H Q ⟨L, ρ, re, p⟩ => p H _ (Same.refl H) .non
theorem se_str {x j pos} : SE X W (.Constant (.str x) j pos) (eC (.str x)) := pe_str.weak fun σ H Q ⟨L, ρ, re, p⟩ => p H _ (Same.refl H) (.str x)
/-- a module's constant: an int, a text -/
theorem se_globI {x : Str} {i : Int} {pos : Pos} (hm : ∃ t, X.mg x = some (.int i t)) (hg : Gl X x := by rfl) (hd : (x == ("__debug__" : Str)) = false := by decide) : SE X W (.Name x pos) (eC (.int i)) := by
  obtain ⟨t, hm⟩ := hm
  exact (pe_glob (v := .int i) hg hm ⟨t, rfl⟩ hd).weak fun σ H Q ⟨L, ρ, re, p⟩ => p H _ (Same.refl H) (.int i)
theorem se_globS {x z : Str} {pos : Pos} (hm : ∃ t, X.mg x = some (.str z t)) (hg : Gl X x := by rfl) (hd : (x == ("__debug__" : Str)) = false := by decide) : SE X W (.Name x pos) (eC (.str z)) := by
  obtain ⟨t, hm⟩ := hm
  exact (pe_glob (v := .str z) hg hm ⟨t, rfl⟩ hd).weak fun σ H Q ⟨L, ρ, re, p⟩ => p H _ (Same.refl H) (.str z)
end

/-! ### operators -/
def eOp (fn : D → D → Option D) (f g : EF) : EF := fun ρ => (f ρ).bind fun x => (g ρ).bind fun y => Rs.of (fn x y)
def eUn (fn : D → Option D) (f : EF) : EF := fun ρ => (f ρ).bind fun x => Rs.of (fn x)
/-- an operation by values, as a function of data -/
def rD2 (K : PySem.W.Frag) (fn : D → D → Option D) : R2 := fun x y H Q => ∃ L dx dy d, LvOk H L ∧ Rb K H L dx x ∧ Rb K H L dy y ∧ fn dx dy = some d ∧ ∀ H' v, Same H H' → Rp K H' L d v → Q v H'
abbrev OpD (X : Cx) (op : Operator) (fn : D → D → Option D) : Prop := OpR X (binaryOp op) (rD2 X.K fn)
abbrev CmD (X : Cx) (op : CmpOp) (fn : D → D → Option D) : Prop := OpR X (compareOp op) (rD2 X.K fn)
def rD1 (K : PySem.W.Frag) (fn : D → Option D) : V → Hp → VK → Prop := fun x H Q => ∃ L dx d, LvOk H L ∧ Rb K H L dx x ∧ fn dx = some d ∧ ∀ H' v, Same H H' → Rp K H' L d v → Q v H'
section
variable {X : Cx} {W : WX} {a b c : Expr} {f g h : EF} {pos : Pos}
theorem tOp_of {K : PySem.W.Frag} {fn : D → D → Option D} : ∀ σ H Q, tE K W (eOp fn f g) σ H Q → tOp (rD2 K fn) (tB K W f) (tB K W g) σ H Q := fun σ H Q ⟨L, ρ, re, p⟩ =>
  ⟨L, ρ, re, p.step fun dx H1 x s1 rx p1 => ⟨L, ρ, re.mono s1, p1.step fun dy H2 y s2 ry p2 => by
    cases hd : fn dx dy with
    | none => rw [hd] at p2; exact p2.elim
    | some d => rw [hd] at p2; exact ⟨L, dx, dy, d, re.lv.mono (s1.trans s2), rx.mono s2, ry, hd, p2⟩⟩⟩
theorem se_op {op : Operator} {fn : D → D → Option D} (ho : OpD X op fn) (ha : SB X W a f) (hb : SB X W b g) : SE X W (.BinOp a op b pos) (eOp fn f g) := (pe_op ho ha hb).weak tOp_of
theorem se_cmp {op : CmpOp} {fn : D → D → Option D} (ho : CmD X op fn) (ha : SB X W a f) (hb : SB X W b g) (hm : behindInMarks op b = false := by first | exact nomark _ | rfl) : SE X W (.Compare a [op] [b] pos) (eOp fn f g) := (pe_cmpR ho ha hb hm).weak tOp_of
/-- the same as a test -/
theorem st_cmp {op : CmpOp} {fn : D → D → Option D} (ho : CmD X op fn) (hfn : ∀ x y d, fn x y = some d → ∃ b, d = .bool b) (ha : SB X W a f) (hb : SB X W b g) (hm : behindInMarks op b = false := by first | exact nomark _ | rfl) :
    ST X W (.Compare a [op] [b] pos) (eOp fn f g) := (pt_cmpR ho ha hb hm).weak fun σ H Q ⟨L, ρ, re, p⟩ =>
  ⟨L, ρ, re, p.step fun dx H1 x s1 rx p1 => ⟨L, ρ, re.mono s1, p1.step fun dy H2 y s2 ry p2 => by
    cases hd : fn dx dy with
    | none => rw [hd] at p2; exact p2.elim
    | some d =>
      obtain ⟨b, e⟩ := hfn _ _ _ hd
      subst e
      rw [hd] at p2
      exact ⟨L, dx, dy, _, re.lv.mono (s1.trans s2), rx.mono s2, ry, hd, fun H' v s r => ⟨b, r.blV, p2 H' s⟩⟩⟩⟩
/-- a op b op' c -/
def eChain (fn fn' : D → D → Option D) (f g h : EF) : EF := fun ρ => (f ρ).bind fun x => (g ρ).bind fun y => (Rs.of (fn x y)).bind fun b => match b with
  | .bool true => (h ρ).bind fun z => Rs.of (fn' y z)
  | .bool false => .ok (.bool false)
  | _ => .bad
theorem se_un {op : UnaryOp} {fn : D → Option D} (ho : UnR X (unaryOp op) (rD1 X.K fn)) (ha : SB X W a f) : SE X W (.UnaryOp op a pos) (eUn fn f) := (pe_un ho ha).weak fun σ H Q ⟨L, ρ, re, p⟩ =>
  ⟨L, ρ, re, p.step fun dx H1 x s1 rx p1 => by
    cases hd : fn dx with
    | none => rw [hd] at p1; exact p1.elim
    | some d => rw [hd] at p1; exact ⟨L, dx, d, re.lv.mono s1, rx, hd, p1⟩⟩
end
end VV

set_option Elab.async false
set_option linter.all false
set_option maxRecDepth 100000
set_option maxHeartbeats 4000000
/-! VVc: operators and comparisons as functions of data. -/
namespace VV
open PySem PySem.Spec L2
open PyProof.Rows hiding St

theorem same_upd {H : Hp} {p : Addr} {o : HO} (free : H p = none) : Same H (upd H p o) := fun _ _ e => (upd_ne (ne_of_none e free)).trans e
theorem new_not {H : Hp} {L : Ad} {p : Addr} (lv : LvOk H L) (h : H p = none) : ¬ L p := fun z => lv p z h

theorem Lp_new {H : Hp} {L : Ad} {p : Addr} (h : H p = none) : ∀ a, Lp L p a → L a ∨ H a = none := fun a z => z.elim .inl fun e => by subst e; exact .inr h

/-! ### arithmetic -/
def mulOk (i j : Int) : Bool := decide ((-(2 ^ 64) < i ∧ i < 2 ^ 64) ∨ (-(2 ^ 64) < j ∧ j < 2 ^ 64)) || decide (i.natAbs.log2 + j.natAbs.log2 < 1000000)
def divOk (j : Int) : Bool := decide (j ≠ 0) && decide (j.natAbs.log2 < 9000)
def addF : D → D → Option D
  | .int i, .int j => some (.int (i + j))
  | .str x, .str y => if x.length + y.length ≤ sizeLine then some (.str (x ++ y)) else none
  | .list xs, .list ys => if xs.length + ys.length ≤ sizeLine then some (.list (xs ++ ys)) else none
  | .tuple xs, .tuple ys => if xs.length + ys.length ≤ sizeLine then some (.tuple (xs ++ ys)) else none
  | _, _ => none
def subF : D → D → Option D
  | .int i, .int j => some (.int (i - j))
  | _, _ => none
def mulF : D → D → Option D
  | .int i, .int j => if mulOk i j = true then some (.int (i * j)) else none
  | .list xs, .int k => if (decide (-(2 ^ 63) ≤ k) && decide (k < 2 ^ 63) && decide (xs.length * k.toNat ≤ sizeLine)) = true then some (.list (List.replicate k.toNat xs).flatten) else none
  | .tuple xs, .int k => if (!xs.isEmpty && decide (2 ≤ k) && decide (k ≤ 1000) && decide (xs.length ≤ 1000)) = true then some (.tuple (List.replicate k.toNat xs).flatten) else none
  | _, _ => none
def divF : D → D → Option D
  | .int i, .int j => if divOk j = true then some (.int (i.fdiv j)) else none
  | _, _ => none
def modF : D → D → Option D
  | .int i, .int j => if j = 0 then none else some (.int (i.fmod j))
  | _, _ => none
def powF : D → D → Option D
  | .int i, .int j => if (decide (0 ≤ j) && decide (j ≤ 1000000) && decide (i.natAbs < 2 ^ 64)) = true then some (.int (i ^ j.toNat)) else none
  | _, _ => none
def negF : D → Option D
  | .int i => some (.int (-i))
  | _ => none
section
variable {X : Cx}
theorem op_addD : OpD X .Add addF := by
  intro pn s σ H x y v u Q I rx ry h
  obtain ⟨L, dx, dy, d, lv, bx, by', hf, k⟩ := h
  unfold addF at hf
  split at hf
  · obtain rfl := bx.intV
    obtain rfl := by'.intV
    cases hf
    exact op_add pn s σ H _ _ v u Q I rx ry ⟨_, _, rfl, rfl, k H _ (Same.refl H) (.int _)⟩
  · obtain rfl := bx.strV
    obtain rfl := by'.strV
    split at hf
    · cases hf
      exact op_add_str pn s σ H _ _ v u Q I rx ry ⟨_, _, rfl, rfl, by assumption, k H _ (Same.refl H) (.str _)⟩
    · cases hf
  · obtain ⟨a, vs, rfl, ha, ra⟩ := bx.lstV
    obtain ⟨b, us, rfl, hb, rb⟩ := by'.lstV
    split at hf
    · cases hf
      rename_i hz
      rw [ra.length, rb.length] at hz
      exact op_cat pn s σ H _ _ v u Q I rx ry ⟨a, b, vs, us, rfl, rfl, ha, hb, hz, fun p hp => k _ _ (same_upd hp) (.lst upd_same (new_not lv hp) ((ra.append rb).mono (same_upd hp)))⟩
    · cases hf
  · obtain ⟨a, vs, rfl, ha, ra⟩ := bx.tupV
    obtain ⟨b, us, rfl, hb, rb⟩ := by'.tupV
    split at hf
    · cases hf
      rename_i hz
      rw [ra.length, rb.length] at hz
      refine op_catA pn s σ H _ _ v u Q I rx ry ⟨a, b, vs, us, rfl, rfl, SqT.of ha, SqT.of hb, hz, ?_, ?_, ?_⟩
      · intro e
        subst e
        cases ra
        exact k H _ (Same.refl H) (.tup hb rb)
      · intro _ e
        subst e
        cases rb
        rw [List.append_nil] at k
        exact k H _ (Same.refl H) (.tup ha ra)
      · intro _ _ p hp
        exact k _ _ (same_upd hp) (.tup upd_same ((ra.append rb).mono (same_upd hp)))
    · cases hf
  · cases hf
theorem op_subD : OpD X .Sub subF := by
  intro pn s σ H x y v u Q I rx ry h
  obtain ⟨L, dx, dy, d, lv, bx, by', hf, k⟩ := h
  unfold subF at hf
  split at hf
  · obtain rfl := bx.intV
    obtain rfl := by'.intV
    cases hf
    exact op_sub pn s σ H _ _ v u Q I rx ry ⟨_, _, rfl, rfl, k H _ (Same.refl H) (.int _)⟩
  · cases hf
theorem op_mulD : OpD X .Mult mulF := by
  intro pn s σ H x y v u Q I rx ry h
  obtain ⟨L, dx, dy, d, lv, bx, by', hf, k⟩ := h
  unfold mulF at hf
  split at hf
  · obtain rfl := bx.intV
    obtain rfl := by'.intV
    split at hf
    · cases hf
      rename_i hz
      unfold mulOk at hz
      rcases Bool.or_eq_true_iff.mp hz with q | q
      · have q' := of_decide_eq_true q
        exact op_mul pn s σ H _ _ v u Q I rx ry ⟨_, _, rfl, rfl, q', k H _ (Same.refl H) (.int _)⟩
      · have q' := of_decide_eq_true q
        exact op_mulW pn s σ H _ _ v u Q I rx ry ⟨_, _, rfl, rfl, q', k H _ (Same.refl H) (.int _)⟩
    · cases hf
  · obtain ⟨a, vs, rfl, ha, ra⟩ := bx.lstV
    obtain rfl := by'.intV
    split at hf
    · cases hf
      rename_i hz
      simp only [Bool.and_eq_true, decide_eq_true_eq] at hz
      obtain ⟨⟨h1, h2⟩, h3⟩ := hz
      rw [ra.length] at h3
      exact op_rep pn s σ H _ _ v u Q I rx ry ⟨a, _, vs, rfl, rfl, ha, h1, h2, h3, fun p hp => k _ _ (same_upd hp) (.lst upd_same (new_not lv hp) ((ra.rep _).mono (same_upd hp)))⟩
    · cases hf
  · obtain ⟨a, vs, rfl, ha, ra⟩ := bx.tupV
    obtain rfl := by'.intV
    split at hf
    · cases hf
      rename_i hz
      simp only [Bool.and_eq_true, decide_eq_true_eq, Bool.not_eq_true'] at hz
      obtain ⟨⟨⟨h0, h1⟩, h2⟩, h3⟩ := hz
      rw [ra.length] at h3
      refine op_repT pn s σ H _ _ v u Q I rx ry ⟨a, _, vs, rfl, rfl, SqT.of ha, ?_, h1, h2, h3, fun p hp => k _ _ (same_upd hp) (.tup upd_same ((ra.rep _).mono (same_upd hp)))⟩
      intro e
      subst e
      cases ra
      cases h0
    · cases hf
  · cases hf
theorem op_divD : OpD X .FloorDiv divF := by
  intro pn s σ H x y v u Q I rx ry h
  obtain ⟨L, dx, dy, d, lv, bx, by', hf, k⟩ := h
  unfold divF at hf
  split at hf
  · obtain rfl := bx.intV
    obtain rfl := by'.intV
    split at hf
    · cases hf
      rename_i hz
      unfold divOk at hz
      simp only [Bool.and_eq_true, decide_eq_true_eq] at hz
      obtain ⟨t, rfl⟩ := rx
      obtain ⟨t', rfl⟩ := ry
      exact floordiv_int hz.1 ⟨.int _, H, I.tok _, ⟨_, rfl⟩, k H _ (Same.refl H) (.int _)⟩ (.inl (PyProof.noPylong_of_log2 hz.2))
    · cases hf
  · cases hf
theorem op_modD : OpD X .Mod modF := by
  intro pn s σ H x y v u Q I rx ry h
  obtain ⟨L, dx, dy, d, lv, bx, by', hf, k⟩ := h
  unfold modF at hf
  split at hf
  · obtain rfl := bx.intV
    obtain rfl := by'.intV
    split at hf
    · cases hf
    · cases hf
      exact op_modN pn s σ H _ _ v u Q I rx ry ⟨_, _, rfl, rfl, by assumption, k H _ (Same.refl H) (.int _)⟩
  · cases hf
theorem op_powD : OpD X .Pow powF := by
  intro pn s σ H x y v u Q I rx ry h
  obtain ⟨L, dx, dy, d, lv, bx, by', hf, k⟩ := h
  unfold powF at hf
  split at hf
  · obtain rfl := bx.intV
    obtain rfl := by'.intV
    split at hf
    · cases hf
      rename_i hz
      simp only [Bool.and_eq_true, decide_eq_true_eq] at hz
      exact op_pow pn s σ H _ _ v u Q I rx ry ⟨_, _, rfl, rfl, ⟨hz.1.1, hz.1.2, hz.2⟩, k H _ (Same.refl H) (.int _)⟩
    · cases hf
  · cases hf
theorem un_negD : UnR X (unaryOp .USub) (rD1 X.K negF) := by
  intro pn s σ H x v Q I rx h
  obtain ⟨L, dx, d, lv, bx, hf, k⟩ := h
  unfold negF at hf
  split at hf
  · obtain rfl := bx.intV
    cases hf
    exact un_neg pn s σ H _ v Q I rx ⟨_, rfl, k H _ (Same.refl H) (.int _)⟩
  · cases hf
end

/-! ### comparisons -/
def cmpF (p : Int → Int → Bool) (q : List Nat → List Nat → Bool) : D → D → Option D
  | .int i, .int j => some (.bool (p i j))
  | .str x, .str y => some (.bool (q x.cps.toList y.cps.toList))
  | _, _ => none
def ltF := cmpF (fun i j => decide (i < j)) fun x y => decide (x < y)
def leF := cmpF (fun i j => decide (i ≤ j)) fun x y => !decide (y < x)
def gtF := cmpF (fun i j => decide (j < i)) fun x y => decide (y < x)
def geF := cmpF (fun i j => decide (j ≤ i)) fun x y => !decide (x < y)
def eqF : D → D → Option D := fun x y => if (SeqAt.shaped x && SeqAt.shaped y) = true then some (.bool (PyData.eqv x y)) else none
def neF : D → D → Option D := fun x y => if (SeqAt.shaped x && SeqAt.shaped y) = true then some (.bool (!PyData.eqv x y)) else none
def isNone : D → Bool
  | .none => true
  | _ => false
def isF : D → D → Option D := fun x y => if isNone y = true then some (.bool (isNone x)) else none
def isNotF : D → D → Option D := fun x y => if isNone y = true then some (.bool (!isNone x)) else none
theorem isNone_iff {d : D} : isNone d = true ↔ d = .none := by cases d <;> simp [isNone]
theorem cmpF_b {p q x y d} (h : cmpF p q x y = some d) : ∃ b, d = .bool b := by
  unfold cmpF at h
  split at h <;> cases h <;> exact ⟨_, rfl⟩
theorem eqF_b {x y d} (h : eqF x y = some d) : ∃ b, d = .bool b := by
  unfold eqF at h
  split at h <;> cases h; exact ⟨_, rfl⟩
theorem neF_b {x y d} (h : neF x y = some d) : ∃ b, d = .bool b := by
  unfold neF at h
  split at h <;> cases h; exact ⟨_, rfl⟩
theorem isF_b {x y d} (h : isF x y = some d) : ∃ b, d = .bool b := by
  unfold isF at h
  split at h <;> cases h; exact ⟨_, rfl⟩
theorem isNotF_b {x y d} (h : isNotF x y = some d) : ∃ b, d = .bool b := by
  unfold isNotF at h
  split at h <;> cases h; exact ⟨_, rfl⟩
/-! data with no dict in it read as the library reads them -/
theorem not_lay_dict {ps : List (D × D)} : ¬ (PyData.dict ps).canLay0 = true := by simp [PyData.canLay0]
section
variable {K : PySem.W.Frag} {H : Hp} {L : Ad}
mutual
theorem Rp.dp : ∀ {d : D} {v : V}, Rp K H L d v → d.canLay0 = true → Dp K H v d
  | _, _, .non, _ => .non
  | _, _, .bl b, _ => .bl b
  | _, _, .int i, _ => .int i
  | _, _, .str x, _ => .str x
  | _, _, .tup h r, c => .tup (SqT.of h) (RpL.dp r (by simpa [PyData.canLay0] using c))
  | _, _, .lst h n r, c => .lst (SqL.of h) (RpL.dp r (by simpa [PyData.canLay0] using c))
  | _, _, .rd h, c => (not_lay_dict c).elim
  | _, _, .dk _ _ _ _, c => (not_lay_dict c).elim
  | _, _, .dt _ _ _ _, c => (not_lay_dict c).elim
theorem RpL.dp : ∀ {ds : List D} {vs : List V}, RpL K H L ds vs → PyData.canLayAll0 ds = true → DpAll K H vs ds
  | _, _, .nil, _ => .nil
  | _, _, .cons h r, c => by
    rw [PyData.canLayAll0, Bool.and_eq_true] at c
    exact .cons (Rp.dp h c.1) (RpL.dp r c.2)
end
theorem Rb.dp {d : D} {v : V} (h : Rb K H L d v) (c : d.canLay0 = true) : Dp K H v d := by
  rcases h with h | ⟨a, e, h⟩
  · exact h.dp c
  · subst e
    cases h with
    | lst h r => exact .lst (SqL.of h) (RpL.dp r (by simpa [PyData.canLay0] using c))
    | dk _ _ _ => exact (not_lay_dict c).elim
    | dt _ _ _ => exact (not_lay_dict c).elim
end
section
variable {X : Cx}
theorem op_cmpD {op : CmpOp} {p : Int → Int → Bool} {q : List Nat → List Nat → Bool} (h1 : OpR X (compareOp op) (rI0 fun i j => .bl (p i j))) (h2 : OpR X (compareOp op) (fun x y H Q => ∃ i j, x = .str i ∧ y = .str j ∧ Q (.bl (q i.cps.toList j.cps.toList)) H)) : CmD X op (cmpF p q) := by
  intro pn s σ H x y v u Q I rx ry h
  obtain ⟨L, dx, dy, d, lv, bx, by', hf, k⟩ := h
  unfold cmpF at hf
  split at hf
  · obtain rfl := bx.intV
    obtain rfl := by'.intV
    cases hf
    exact h1 pn s σ H _ _ v u Q I rx ry ⟨_, _, rfl, rfl, k H _ (Same.refl H) (.bl _)⟩
  · obtain rfl := bx.strV
    obtain rfl := by'.strV
    cases hf
    exact h2 pn s σ H _ _ v u Q I rx ry ⟨_, _, rfl, rfl, k H _ (Same.refl H) (.bl _)⟩
  · cases hf
theorem op_ltD : CmD X .Lt ltF := op_cmpD op_lt op_lt_str
theorem op_leD : CmD X .LtE leF := op_cmpD op_le op_le_str
theorem op_gtD : CmD X .Gt gtF := op_cmpD op_gt op_gt_str
theorem op_geD : CmD X .GtE geF := op_cmpD op_ge op_ge_str
theorem op_eqX {k : Nat} (hr : Room k X.A) : CmD X .Eq eqF := by
  intro pn s σ H x y v u Q I rx ry h
  obtain ⟨L, dx, dy, d, lv, bx, by', hf, k⟩ := h
  unfold eqF at hf
  split at hf
  · cases hf
    rename_i hz
    rw [Bool.and_eq_true] at hz
    exact op_eqD hr.units pn s σ H _ _ v u Q I rx ry ⟨dx, dy, bx.dp (SeqAt.canLay_of_shaped hz.1), by'.dp (SeqAt.canLay_of_shaped hz.2), hz.1, hz.2, k H _ (Same.refl H) (.bl _)⟩
  · cases hf
theorem op_neX {k : Nat} (hr : Room k X.A) : CmD X .NotEq neF := by
  intro pn s σ H x y v u Q I rx ry h
  obtain ⟨L, dx, dy, d, lv, bx, by', hf, k⟩ := h
  unfold neF at hf
  split at hf
  · cases hf
    rename_i hz
    rw [Bool.and_eq_true] at hz
    exact op_neD hr.units pn s σ H _ _ v u Q I rx ry ⟨dx, dy, bx.dp (SeqAt.canLay_of_shaped hz.1), by'.dp (SeqAt.canLay_of_shaped hz.2), hz.1, hz.2, k H _ (Same.refl H) (.bl _)⟩
  · cases hf
theorem op_isX : CmD X .Is isF := by
  intro pn s σ H x y v u Q I rx ry h
  obtain ⟨L, dx, dy, d, lv, bx, by', hf, k⟩ := h
  unfold isF at hf
  split at hf
  · cases hf
    rename_i hz
    have e := isNone_iff.mp hz
    subst e
    obtain rfl := by'.nonV
    refine op_isN pn s σ H _ _ v u Q I rx ry ⟨rfl, k H _ (Same.refl H) ?_⟩
    have e2 : decide (x = .non) = isNone dx := by
      cases hx : isNone dx with
      | true => exact decide_eq_true (bx.non_iff.mpr (isNone_iff.mp hx))
      | false => exact decide_eq_false fun z => by rw [isNone_iff.mpr (bx.non_iff.mp z)] at hx; cases hx
    rw [e2]
    exact .bl _
  · cases hf
theorem op_isNotX : CmD X .IsNot isNotF := by
  intro pn s σ H x y v u Q I rx ry h
  obtain ⟨L, dx, dy, d, lv, bx, by', hf, k⟩ := h
  unfold isNotF at hf
  split at hf
  · cases hf
    rename_i hz
    have e := isNone_iff.mp hz
    subst e
    obtain rfl := by'.nonV
    refine op_notN pn s σ H _ _ v u Q I rx ry ⟨rfl, k H _ (Same.refl H) ?_⟩
    have e2 : decide (x = .non) = isNone dx := by
      cases hx : isNone dx with
      | true => exact decide_eq_true (bx.non_iff.mpr (isNone_iff.mp hx))
      | false => exact decide_eq_false fun z => by rw [isNone_iff.mpr (bx.non_iff.mp z)] at hx; cases hx
    rw [e2]
    exact .bl _
  · cases hf
end
end VV

set_option Elab.async false
set_option linter.all false
set_option maxRecDepth 100000
set_option maxHeartbeats 4000000
/-! VVd: tests, and, or, not; arguments; calls; displays; subscripts. -/
namespace VV
open PySem PySem.Spec L2
open PyProof.Rows hiding St

/-! ### truth -/
def tru : D → Option Bool
  | .none => some false
  | .bool b => some b
  | .int i => some (i != 0)
  | .str x => if x.length ≤ sizeLine then some ((x.length : Int) != 0) else none
  | .list ds => some (!ds.isEmpty)
  | .tuple ds => some (!ds.isEmpty)
  | .dict _ => none
theorem isEmpty_len {α β : Type} {xs : List α} {ys : List β} (h : xs.length = ys.length) : xs.isEmpty = ys.isEmpty := by
  cases xs <;> cases ys <;> simp at h ⊢
theorem Rb.tru {K : PySem.W.Frag} {H : Hp} {L : Ad} {d : D} {v : V} {k : Bool} (h : Rb K H L d v) (e : tru d = some k) : TruV K v H k := by
  cases d with
  | none => obtain rfl := h.nonV; cases e; rfl
  | bool b => obtain rfl := h.blV; cases e; rfl
  | int i => obtain rfl := h.intV; cases e; rfl
  | str x =>
    obtain rfl := h.strV
    simp only [VV.tru] at e
    split at e
    · cases e; exact ⟨by assumption, rfl⟩
    · cases e
  | list ds =>
    obtain ⟨a, vs, rfl, ha, r⟩ := h.lstV
    cases e
    exact .inl ⟨vs, SqL.of ha, by rw [isEmpty_len r.length]⟩
  | tuple ds =>
    obtain ⟨a, vs, rfl, ha, r⟩ := h.tupV
    cases e
    exact .inr (.inl ⟨vs, SqT.of ha, by rw [isEmpty_len r.length]⟩)
  | dict ps => cases e
def truR (d : D) : Rs := match tru d with
  | some b => .ok (.bool b)
  | none => .bad
def gTru (f : EF) : EF := fun ρ => (f ρ).bind truR
def notR : D → Rs
  | .bool b => .ok (.bool (!b))
  | _ => .bad
def gNot (f : EF) : EF := fun ρ => (f ρ).bind notR
def andR (r : Rs) : D → Rs
  | .bool true => r
  | .bool false => .ok (.bool false)
  | _ => .bad
def orR (r : Rs) : D → Rs
  | .bool false => r
  | .bool true => .ok (.bool true)
  | _ => .bad
def gAnd (f g : EF) : EF := fun ρ => (f ρ).bind (andR (g ρ))
def gOr (f g : EF) : EF := fun ρ => (f ρ).bind (orR (g ρ))
/-- values -/
def eAnd (f g : EF) : EF := fun ρ => (f ρ).bind fun d => match tru d with
  | some true => g ρ
  | some false => .ok d
  | none => .bad
def eOr (f g : EF) : EF := fun ρ => (f ρ).bind fun d => match tru d with
  | some true => .ok d
  | some false => g ρ
  | none => .bad
def eNot (f : EF) : EF := fun ρ => (f ρ).bind fun d => match tru d with
  | some b => .ok (.bool (!b))
  | none => .bad
def ifR (r1 r2 : Rs) : D → Rs
  | .bool true => r1
  | .bool false => r2
  | _ => .bad
def eIf (c f g : EF) : EF := fun ρ => (c ρ).bind (ifR (f ρ) (g ρ))
abbrev SW (X : Cx) (W : WX) (e : Expr) (f : EF) : Prop := PW X e (tT X.K W f)
section
variable {X : Cx} {W : WX} {a b c : Expr} {f g h : EF} {pos : Pos} {rest : List Expr}
theorem _root_.L2.PW.weak {e : Expr} {t t' : TT} (h : PW X e t) (hw : ∀ σ H Q, t' σ H Q → t σ H Q) : PW X e t' := ⟨fun wh pn s σ H Q I q => h.run wh pn s σ H Q I (hw σ H Q q)⟩
theorem st_tru (ha : SB X W a f) (he : ∀ whole, isTrue a X.env whole = (do let v ← whole; standAt a.pos; holding [v] (truthy v)) := by intro _; rfl) : ST X W a (gTru f) := (pt_truth ha he).weak fun σ H Q ⟨L, ρ, re, p⟩ =>
  ⟨L, ρ, re, p.step fun d H1 v s1 r p1 => by
    unfold truR at p1
    cases e : tru d with
    | none => simp only [e] at p1; exact p1.elim
    | some k => simp only [e] at p1; exact ⟨k, r.tru e, p1 H1 (Same.refl H1)⟩⟩
theorem notR_bad (d : D) (h : ∀ b, d ≠ .bool b) : notR d = .bad := by
  cases d with
  | bool b => exact absurd rfl (h b)
  | _ => rfl
theorem andR_bad {r : Rs} (d : D) (h : ∀ b, d ≠ .bool b) : andR r d = .bad := by
  cases d with
  | bool b => exact absurd rfl (h b)
  | _ => rfl
theorem orR_bad {r : Rs} (d : D) (h : ∀ b, d ≠ .bool b) : orR r d = .bad := by
  cases d with
  | bool b => exact absurd rfl (h b)
  | _ => rfl
theorem ifR_bad {r r' : Rs} (d : D) (h : ∀ b, d ≠ .bool b) : ifR r r' d = .bad := by
  cases d with
  | bool b => exact absurd rfl (h b)
  | _ => rfl
theorem st_not (ha : ST X W a f) : ST X W (.UnaryOp .Not a pos) (gNot f) := (pt_not ha).weak fun σ H Q ⟨L, ρ, re, p⟩ =>
  ⟨L, ρ, re, p.stepT notR_bad fun b H1 s1 p1 => p1 H1 (Same.refl H1)⟩
theorem sw_and1 (ha : ST X W a f) : SW X W (.BoolOp .And [a] pos) f := pw_and1 ha
theorem sw_or1 (ha : ST X W a f) : SW X W (.BoolOp .Or [a] pos) f := pw_or1 ha
theorem sw_and (ha : ST X W a f) (hb : SW X W (.BoolOp .And (b :: rest) pos) g) : SW X W (.BoolOp .And (a :: b :: rest) pos) (gAnd f g) := (pw_and ha hb).weak fun σ H Q ⟨L, ρ, re, p⟩ =>
  ⟨L, ρ, re, p.stepT andR_bad fun b H1 s1 p1 => by
    cases b with
    | true => rw [if_pos rfl]; exact ⟨L, ρ, re.mono s1, p1⟩
    | false => rw [if_neg Bool.false_ne_true]; exact p1 H1 (Same.refl H1)⟩
theorem sw_or (ha : ST X W a f) (hb : SW X W (.BoolOp .Or (b :: rest) pos) g) : SW X W (.BoolOp .Or (a :: b :: rest) pos) (gOr f g) := (pw_or ha hb).weak fun σ H Q ⟨L, ρ, re, p⟩ =>
  ⟨L, ρ, re, p.stepT orR_bad fun b H1 s1 p1 => by
    cases b with
    | true => rw [if_pos rfl]; exact p1 H1 (Same.refl H1)
    | false => rw [if_neg Bool.false_ne_true]; exact ⟨L, ρ, re.mono s1, p1⟩⟩
theorem st_w (h : SW X W a f) : ST X W a f := PW.pt h
theorem se_one {op} (h : SE X W a f) : SE X W (.BoolOp op [a] pos) f := pe_one h
theorem se_and (ha : SE X W a f) (hb : SE X W (.BoolOp .And (b :: rest) pos) g) : SE X W (.BoolOp .And (a :: b :: rest) pos) (eAnd f g) := (pe_andT ha hb).weak fun σ H Q ⟨L, ρ, re, p⟩ =>
  ⟨L, ρ, re, p.stepE fun d H1 v s1 r p1 => by
    cases e : tru d with
    | none => simp only [e] at p1; exact p1.elim
    | some k =>
      simp only [e] at p1
      refine ⟨k, r.rb.tru e, ?_⟩
      cases k with
      | true => rw [if_pos rfl]; exact ⟨L, ρ, re.mono s1, p1⟩
      | false => rw [if_neg Bool.false_ne_true]; exact p1 H1 v (Same.refl H1) r⟩
theorem se_or (ha : SE X W a f) (hb : SE X W (.BoolOp .Or (b :: rest) pos) g) : SE X W (.BoolOp .Or (a :: b :: rest) pos) (eOr f g) := (pe_orT ha hb).weak fun σ H Q ⟨L, ρ, re, p⟩ =>
  ⟨L, ρ, re, p.stepE fun d H1 v s1 r p1 => by
    cases e : tru d with
    | none => simp only [e] at p1; exact p1.elim
    | some k =>
      simp only [e] at p1
      refine ⟨k, r.rb.tru e, ?_⟩
      cases k with
      | true => rw [if_pos rfl]; exact p1 H1 v (Same.refl H1) r
      | false => rw [if_neg Bool.false_ne_true]; exact ⟨L, ρ, re.mono s1, p1⟩⟩
theorem se_not (ha : SB X W a f) : SE X W (.UnaryOp .Not a pos) (eNot f) := (pe_notT ha).weak fun σ H Q ⟨L, ρ, re, p⟩ =>
  ⟨L, ρ, re, p.step fun d H1 v s1 r p1 => by
    cases e : tru d with
    | none => simp only [e] at p1; exact p1.elim
    | some k => simp only [e] at p1; exact ⟨k, r.tru e, p1 H1 _ (Same.refl H1) (.bl _)⟩⟩
theorem se_if (hc : ST X W c h) (ha : SE X W a f) (hb : SE X W b g) : SE X W (.IfExp c a b pos) (eIf h f g) := (pe_ifExp hc ha hb).weak fun σ H Q ⟨L, ρ, re, p⟩ => by
  refine ⟨L, ρ, re, ?_⟩
  unfold eIf at p
  cases hr : h ρ with
  | bad => rw [hr] at p; exact p
  | exc c fs => rw [hr] at p; exact p
  | ok d =>
    rw [hr] at p
    cases d with
    | bool k =>
      intro H1 s1
      have p1 := p.mono s1
      cases k with
      | true => rw [if_pos rfl]; exact ⟨L, ρ, re.mono s1, p1⟩
      | false => rw [if_neg Bool.false_ne_true]; exact ⟨L, ρ, re.mono s1, p1⟩
    | _ => exact p
/-- a op b op' c -/
theorem se_chain {op op' : CmpOp} {fn fn' : D → D → Option D} {h : EF} (ho : CmD X op fn) (ho' : CmD X op' fn') (hfn : ∀ x y d, fn x y = some d → ∃ b, d = .bool b) (ha : SB X W a f) (hb : SB X W b g) (hc : SB X W c h)
    (hm : lastMarks [op, op'] [b, c] = false := by with_unfolding_all rfl) : SE X W (.Compare a [op, op'] [b, c] pos) (eChain fn fn' f g h) :=
  (pe_chain ho ho' ha hb hc hm).weak fun σ H Q ⟨L, ρ, re, p⟩ =>
  ⟨L, ρ, re, p.step fun dx H1 x s1 rx p1 => ⟨L, ρ, re.mono s1, p1.step fun dy H2 y s2 ry p2 => by
    cases hd : fn dx dy with
    | none => rw [hd] at p2; exact p2.elim
    | some d =>
      obtain ⟨k, e⟩ := hfn _ _ _ hd
      subst e
      rw [hd] at p2
      refine ⟨L, dx, dy, _, re.lv.mono (s1.trans s2), rx.mono s2, ry, hd, fun H3 v s3 r => ⟨k, r.blV, ?_⟩⟩
      simp only [Rs.of_some, Rs.bind_ok] at p2
      have p3 := p2.mono s3
      cases k with
      | false => exact p3 H3 _ (Same.refl H3) (.bl _)
      | true =>
        refine ⟨L, ρ, re.mono (s1.trans (s2.trans s3)), p3.step fun dz H4 z s4 rz p4 => ?_⟩
        cases hz : fn' dy dz with
        | none => rw [hz] at p4; exact p4.elim
        | some d' => rw [hz] at p4; exact ⟨L, dy, dz, d', re.lv.mono (s1.trans (s2.trans (s3.trans s4))), ry.mono (s3.trans s4), rz, hz, p4⟩⟩⟩
theorem st_chain {op op' : CmpOp} {fn fn' : D → D → Option D} {h : EF} (ho : CmD X op fn) (ho' : CmD X op' fn') (hfn : ∀ x y d, fn x y = some d → ∃ b, d = .bool b) (hfn' : ∀ x y d, fn' x y = some d → ∃ b, d = .bool b) (ha : SB X W a f) (hb : SB X W b g) (hc : SB X W c h)
    (hm : lastMarks [op, op'] [b, c] = false := by with_unfolding_all rfl) : ST X W (.Compare a [op, op'] [b, c] pos) (eChain fn fn' f g h) :=
  (pt_chain ho ho' ha hb hc hm).weak fun σ H Q ⟨L, ρ, re, p⟩ =>
  ⟨L, ρ, re, p.step fun dx H1 x s1 rx p1 => ⟨L, ρ, re.mono s1, p1.step fun dy H2 y s2 ry p2 => by
    cases hd : fn dx dy with
    | none => rw [hd] at p2; exact p2.elim
    | some d =>
      obtain ⟨k, e⟩ := hfn _ _ _ hd
      subst e
      rw [hd] at p2
      refine ⟨L, dx, dy, _, re.lv.mono (s1.trans s2), rx.mono s2, ry, hd, fun H3 v s3 r => ⟨k, r.blV, ?_⟩⟩
      simp only [Rs.of_some, Rs.bind_ok] at p2
      have p3 := p2.mono s3
      cases k with
      | false => exact ⟨false, rfl, p3 H3 (Same.refl H3)⟩
      | true =>
        refine ⟨L, ρ, re.mono (s1.trans (s2.trans s3)), p3.step fun dz H4 z s4 rz p4 => ?_⟩
        cases hz : fn' dy dz with
        | none => rw [hz] at p4; exact p4.elim
        | some d' =>
          obtain ⟨k', e'⟩ := hfn' _ _ _ hz
          subst e'
          rw [hz] at p4
          exact ⟨L, dy, dz, _, re.lv.mono (s1.trans (s2.trans (s3.trans s4))), ry.mono (s3.trans s4), rz, hz, fun H5 v s5 r => ⟨k', r.blV, p4 H5 s5⟩⟩⟩⟩
end
end VV

set_option Elab.async false
set_option linter.all false
set_option maxRecDepth 100000
set_option maxHeartbeats 4000000
/-! VVe: arguments, calls, displays, subscripts. -/
namespace VV
open PySem PySem.Spec L2
open PyProof.Rows hiding St

/-! ### several expressions -/
inductive RL where
  | ok (ds : List D)
  | exc (c : Str) (fs : List (Str × D))
  | bad
def RL.bind (r : RL) (k : List D → Rs) : Rs := match r with
  | .ok ds => k ds
  | .exc c fs => .exc c fs
  | .bad => .bad
@[simp] theorem RL.bind_ok (d : List D) (k : List D → Rs) : (RL.ok d).bind k = k d := rfl
@[simp] theorem RL.bind_exc (c : Str) (fs : List (Str × D)) (k : List D → Rs) : (RL.exc c fs).bind k = .exc c fs := rfl
@[simp] theorem RL.bind_bad (k : List D → Rs) : RL.bad.bind k = .bad := rfl
def RL.cons (r : Rs) (q : RL) : RL := match r with
  | .ok d => (match q with
    | .ok ds => .ok (d :: ds)
    | .exc c fs => .exc c fs
    | .bad => .bad)
  | .exc c fs => .exc c fs
  | .bad => .bad
@[simp] theorem RL.cons_ok (d : D) (ds : List D) : RL.cons (.ok d) (.ok ds) = .ok (d :: ds) := rfl
@[simp] theorem RL.cons_exc (c : Str) (fs : List (Str × D)) (q : RL) : RL.cons (.exc c fs) q = .exc c fs := rfl
@[simp] theorem RL.cons_bad (q : RL) : RL.cons .bad q = .bad := rfl
@[simp] theorem RL.cons_ok_exc (d : D) (c : Str) (fs : List (Str × D)) : RL.cons (.ok d) (.exc c fs) = .exc c fs := rfl
@[simp] theorem RL.cons_ok_bad (d : D) : RL.cons (.ok d) .bad = .bad := rfl
def evA : List EF → En → RL
  | [], _ => .ok []
  | f :: fs, ρ => RL.cons (f ρ) (evA fs ρ)
@[simp] theorem evA_nil (ρ : En) : evA [] ρ = .ok [] := rfl
@[simp] theorem evA_cons (f : EF) (fs : List EF) (ρ : En) : evA (f :: fs) ρ = RL.cons (f ρ) (evA fs ρ) := rfl
inductive RbL (K : PySem.W.Frag) (H : Hp) (L : Ad) : List D → List V → Prop
  | nil : RbL K H L [] []
  | cons {d : D} {v : V} {ds : List D} {vs : List V} : Rb K H L d v → RbL K H L ds vs → RbL K H L (d :: ds) (v :: vs)
def PostA (K : PySem.W.Frag) (W : WX) (L : Ad) (σ : St) (H : Hp) (r : RL) (Q : List V → Hp → Prop) : Prop := match r with
  | .ok ds => ∀ (H' : Hp) (vs : List V), Same H H' → RpL K H' L ds vs → Q vs H'
  | .exc c fs => ∀ (H' : Hp) (x : Option Addr), Same H H' → XR K H' L fs x → W (.ref (He.ga K c)) x σ H'
  | .bad => False
def PostBA (K : PySem.W.Frag) (W : WX) (L : Ad) (σ : St) (H : Hp) (r : RL) (Q : List V → Hp → Prop) : Prop := match r with
  | .ok ds => ∀ (H' : Hp) (vs : List V), Same H H' → RbL K H' L ds vs → Q vs H'
  | .exc c fs => ∀ (H' : Hp) (x : Option Addr), Same H H' → XR K H' L fs x → W (.ref (He.ga K c)) x σ H'
  | .bad => False
section
variable {K : PySem.W.Frag} {W : WX} {L : Ad} {σ : St} {H H1 : Hp} {Q : VK} {QL : List V → Hp → Prop}
theorem RbL.mono {ds : List D} {vs : List V} (s : Same H H1) (h : RbL K H L ds vs) : RbL K H1 L ds vs := by
  induction h with
  | nil => exact .nil
  | cons r _ ih => exact .cons (r.mono s) ih
theorem PostA.mono {r : RL} (h : PostA K W L σ H r QL) (s : Same H H1) : PostA K W L σ H1 r QL := by
  cases r with
  | ok d => exact fun H' v s' => h H' v (s.trans s')
  | exc c fs => exact fun H' x s' => h H' x (s.trans s')
  | bad => exact h
theorem PostBA.mono {r : RL} (h : PostBA K W L σ H r QL) (s : Same H H1) : PostBA K W L σ H1 r QL := by
  cases r with
  | ok d => exact fun H' v s' => h H' v (s.trans s')
  | exc c fs => exact fun H' x s' => h H' x (s.trans s')
  | bad => exact h
theorem PostN.mono {r : Rs} (h : PostN K W L σ H r Q) (s : Same H H1) : PostN K W L σ H1 r Q := by
  cases r with
  | ok d => exact fun H' v s' n => h H' v (s.trans s') (s.free n)
  | exc c fs => exact fun H' x s' => h H' x (s.trans s')
  | bad => exact h
theorem Post.stepA {r : RL} {k : List D → Rs} (h : Post K W L σ H (r.bind k) Q) (hk : ∀ ds H1 vs, Same H H1 → RpL K H1 L ds vs → Post K W L σ H1 (k ds) Q → QL vs H1) : PostA K W L σ H r QL := by
  cases r with
  | ok d => exact fun H' v s' rv => hk d H' v s' rv (Post.mono h s')
  | exc c fs => exact h
  | bad => exact h
theorem Post.stepBA {r : RL} {k : List D → Rs} (h : Post K W L σ H (r.bind k) Q) (hk : ∀ ds H1 vs, Same H H1 → RbL K H1 L ds vs → Post K W L σ H1 (k ds) Q → QL vs H1) : PostBA K W L σ H r QL := by
  cases r with
  | ok d => exact fun H' v s' rv => hk d H' v s' rv (Post.mono h s')
  | exc c fs => exact h
  | bad => exact h
theorem PostN.stepA {r : RL} {k : List D → Rs} (h : PostN K W L σ H (r.bind k) Q) (hk : ∀ ds H1 vs, Same H H1 → RpL K H1 L ds vs → PostN K W L σ H1 (k ds) Q → QL vs H1) : PostA K W L σ H r QL := by
  cases r with
  | ok d => exact fun H' v s' rv => hk d H' v s' rv (PostN.mono h s')
  | exc c fs => exact h
  | bad => exact h
theorem PostN.stepBA {r : RL} {k : List D → Rs} (h : PostN K W L σ H (r.bind k) Q) (hk : ∀ ds H1 vs, Same H H1 → RbL K H1 L ds vs → PostN K W L σ H1 (k ds) Q → QL vs H1) : PostBA K W L σ H r QL := by
  cases r with
  | ok d => exact fun H' v s' rv => hk d H' v s' rv (PostN.mono h s')
  | exc c fs => exact h
  | bad => exact h
theorem PostN.stepB {r : Rs} {k : D → Rs} {R : VK} (h : PostN K W L σ H (r.bind k) Q) (hk : ∀ d H1 v, Same H H1 → Rb K H1 L d v → PostN K W L σ H1 (k d) Q → R v H1) : PostB K W L σ H r R := by
  cases r with
  | ok d => exact fun H' v s' rv => hk d H' v s' rv (PostN.mono h s')
  | exc c fs => exact h
  | bad => exact h
theorem RbL.one {d : D} {vs : List V} (h : RbL K H L [d] vs) : ∃ v, vs = [v] ∧ Rb K H L d v := by
  cases h with
  | cons r t => cases t; exact ⟨_, rfl, r⟩
theorem RbL.two {d e : D} {vs : List V} (h : RbL K H L [d, e] vs) : ∃ v w, vs = [v, w] ∧ Rb K H L d v ∧ Rb K H L e w := by
  cases h with
  | cons r t =>
    cases t with
    | cons r' t' => cases t'; exact ⟨_, _, rfl, r, r'⟩
end
def tA (K : PySem.W.Frag) (W : WX) (fs : List EF) : TA := fun σ H Q => ∃ L ρ, RE K H L ρ σ ∧ PostA K W L σ H (evA fs ρ) Q
def tBA (K : PySem.W.Frag) (W : WX) (fs : List EF) : TA := fun σ H Q => ∃ L ρ, RE K H L ρ σ ∧ PostBA K W L σ H (evA fs ρ) Q
abbrev SA (X : Cx) (W : WX) (es : List Expr) (fs : List EF) : Prop := PA X es (tA X.K W fs)
abbrev SBA (X : Cx) (W : WX) (es : List Expr) (fs : List EF) : Prop := PA X es (tBA X.K W fs)
section
variable {X : Cx} {W : WX} {e : Expr} {es : List Expr} {f : EF} {fs : List EF} {pos : Pos}
theorem _root_.L2.PA.weak {t t' : TA} (h : PA X es t) (hw : ∀ σ H Q, t' σ H Q → t σ H Q) : PA X es t' := ⟨fun p pn s σ H Q I q => h.run p pn s σ H Q I (hw σ H Q q)⟩
theorem sa_nil : SA X W [] [] := pa_nil.weak fun σ H Q ⟨L, ρ, re, p⟩ => p H [] (Same.refl H) .nil
theorem sba_nil : SBA X W [] [] := pa_nil.weak fun σ H Q ⟨L, ρ, re, p⟩ => p H [] (Same.refl H) .nil
theorem sa_cons (ha : SE X W e f) (hr : SA X W es fs) (hs : starEach (e :: es) X.env = (false, eval e X.env) :: starEach es X.env := by rfl) : SA X W (e :: es) (f :: fs) := (pa_cons ha hr hs).weak fun σ H Q ⟨L, ρ, re, p⟩ => by
  refine ⟨L, ρ, re, ?_⟩
  simp only [evA_cons] at p
  cases hf : f ρ with
  | bad => rw [hf] at p; exact p
  | exc c fs => rw [hf] at p; exact p
  | ok d =>
    rw [hf] at p
    intro H1 v s1 r1
    refine ⟨L, ρ, re.mono s1, ?_⟩
    cases hg : evA fs ρ with
    | bad => rw [hg] at p; exact p
    | exc c fs => rw [hg] at p; exact fun H' x s' => p H' x (s1.trans s')
    | ok ds => rw [hg] at p; exact fun H' vs s' r' => p H' (v :: vs) (s1.trans s') (.cons (r1.mono s') r')
theorem sba_cons (ha : SB X W e f) (hr : SBA X W es fs) (hs : starEach (e :: es) X.env = (false, eval e X.env) :: starEach es X.env := by rfl) : SBA X W (e :: es) (f :: fs) := (pa_cons ha hr hs).weak fun σ H Q ⟨L, ρ, re, p⟩ => by
  refine ⟨L, ρ, re, ?_⟩
  simp only [evA_cons] at p
  cases hf : f ρ with
  | bad => rw [hf] at p; exact p
  | exc c fs => rw [hf] at p; exact p
  | ok d =>
    rw [hf] at p
    intro H1 v s1 r1
    refine ⟨L, ρ, re.mono s1, ?_⟩
    cases hg : evA fs ρ with
    | bad => rw [hg] at p; exact p
    | exc c fs => rw [hg] at p; exact fun H' x s' => p H' x (s1.trans s')
    | ok ds => rw [hg] at p; exact fun H' vs s' r' => p H' (v :: vs) (s1.trans s') (.cons (r1.mono s') r')

/-! ### displays -/
def tupR (ds : List D) : Rs := if ds.length ≤ sizeLine then .ok (.tuple ds) else .bad
def lstR (ds : List D) : Rs := if ds.length ≤ sizeLine then .ok (.list ds) else .bad
def eTup (fs : List EF) : EF := fun ρ => (evA fs ρ).bind tupR
def eLst (fs : List EF) : EF := fun ρ => (evA fs ρ).bind lstR
theorem se_tup {x1} (h : SA X W es fs) : SE X W (.Tuple es x1 pos) (eTup fs) := (pe_tup h).weak fun σ H Q ⟨L, ρ, re, p⟩ =>
  ⟨L, ρ, re, p.stepA fun ds H1 vs s1 r p1 => by
    unfold tupR at p1
    split at p1
    · rename_i hz
      rw [r.length] at hz
      exact ⟨hz, fun q hq => p1 _ _ (same_upd hq) (.tup upd_same (r.mono (same_upd hq)))⟩
    · exact p1.elim⟩
theorem sn_lst (h : SA X W es fs) : SN X W (.List es pos) (eLst fs) := (pe_lst h).weak fun σ H Q ⟨L, ρ, re, p⟩ =>
  ⟨L, ρ, re, p.stepA fun ds H1 vs s1 r p1 => by
    unfold lstR at p1
    split at p1
    · rename_i hz
      rw [r.length] at hz
      exact ⟨hz, fun q hq => p1 _ _ (same_upd hq) hq (.lst upd_same ((r.lives (Lp_new hq)).mono (same_upd hq)))⟩
    · exact p1.elim⟩
theorem sn_dk : SN X W (.Dict [] [] pos) (eC (.dict [])) := pe_dnewK.weak fun σ H Q ⟨L, ρ, re, p⟩ => fun q hq => p _ _ (same_upd hq) hq (.dk upd_same rfl .nil)
theorem sn_dt : SN X W (.Dict [] [] pos) (eC (.dict [(.none, .none)])) := pe_dnewT.weak fun σ H Q ⟨L, ρ, re, p⟩ => fun q hq => p _ _ (same_upd hq) hq (.dt upd_same rfl .nil)

/-! ### built-in functions and classes called -/
def rDL (K : PySem.W.Frag) (fn : List D → Option D) : List V → Hp → VK → Prop := fun xs H Q => ∃ L ds d, LvOk H L ∧ RbL K H L ds xs ∧ fn ds = some d ∧ ∀ H' v, Same H H' → Rp K H' L d v → Q v H'
def rDN (K : PySem.W.Frag) (fn : List D → Option D) : List V → Hp → VK → Prop := fun xs H Q => ∃ L ds d, LvOk H L ∧ RbL K H L ds xs ∧ fn ds = some d ∧ ∀ H' a, Same H H' → H a = none → Ow K H' (Lp L a) d a → Q (.ref a) H'
abbrev ClD (X : Cx) (f : Value) (fn : List D → Option D) : Prop := CallR X f (rDL X.K fn)
abbrev ClN (X : Cx) (f : Value) (fn : List D → Option D) : Prop := CallR X f (rDN X.K fn)
def eCB (fn : List D → Option D) (fs : List EF) : EF := fun ρ => (evA fs ρ).bind fun ds => Rs.of (fn ds)
theorem tCB_of {K : PySem.W.Frag} {fn : List D → Option D} : ∀ σ H Q, tE K W (eCB fn fs) σ H Q → tCB (rDL K fn) (tBA K W fs) σ H Q := fun σ H Q ⟨L, ρ, re, p⟩ =>
  ⟨L, ρ, re, p.stepBA fun ds H1 vs s1 r p1 => by
    cases hd : fn ds with
    | none => rw [hd] at p1; exact p1.elim
    | some d => rw [hd] at p1; exact ⟨L, ds, d, re.lv.mono s1, r, hd, p1⟩⟩
theorem tCBN_of {K : PySem.W.Frag} {fn : List D → Option D} : ∀ σ H Q, tN K W (eCB fn fs) σ H Q → tCB (rDN K fn) (tBA K W fs) σ H Q := fun σ H Q ⟨L, ρ, re, p⟩ =>
  ⟨L, ρ, re, p.stepBA fun ds H1 vs s1 r p1 => by
    cases hd : fn ds with
    | none => rw [hd] at p1; exact p1.elim
    | some d => rw [hd] at p1; exact ⟨L, ds, d, re.lv.mono s1, r, hd, p1⟩⟩
variable {x : Str} {p : Pos} {id T : String} {fn : List D → Option D}
theorem se_cb (hc : ClD X (.builtin id) fn) (hm : X.mg x = none) (ha : SBA X W (e :: es) fs) (hg : Gl X x := by rfl) (hv : bootBuiltins x = some (.builtin id) := by decide +kernel) (hn : x ≠ "__name__" := by decide) (hdb : (x == ("__debug__" : Str)) = false := by decide)
    (he : starEach (e :: es) X.env = (false, eval e X.env) :: starEach es X.env := by rfl) (hpl : (backTo pos (starEach es X.env)).any (·.1) = false := by rfl) : SE X W (.Call (.Name x p) (e :: es) [] pos) (eCB fn fs) :=
  (pe_callB hc hg hm hv ha hn hdb he hpl).weak tCB_of
theorem sn_cb (hc : ClN X (.builtin id) fn) (hm : X.mg x = none) (ha : SBA X W (e :: es) fs) (hg : Gl X x := by rfl) (hv : bootBuiltins x = some (.builtin id) := by decide +kernel) (hn : x ≠ "__name__" := by decide) (hdb : (x == ("__debug__" : Str)) = false := by decide)
    (he : starEach (e :: es) X.env = (false, eval e X.env) :: starEach es X.env := by rfl) (hpl : (backTo pos (starEach es X.env)).any (·.1) = false := by rfl) : SN X W (.Call (.Name x p) (e :: es) [] pos) (eCB fn fs) :=
  (pe_callB hc hg hm hv ha hn hdb he hpl).weak tCBN_of
theorem se_ct (hc : ClD X (.type T) fn) (hm : X.mg x = none) (ha : SBA X W (e :: es) fs) (hg : Gl X x := by rfl) (hv : bootBuiltins x = some (.type T) := by decide +kernel) (hn : x ≠ "__name__" := by decide) (hdb : (x == ("__debug__" : Str)) = false := by decide)
    (he : starEach (e :: es) X.env = (false, eval e X.env) :: starEach es X.env := by rfl) (hpl : (backTo pos (starEach es X.env)).any (·.1) = false := by rfl) : SE X W (.Call (.Name x p) (e :: es) [] pos) (eCB fn fs) :=
  (pe_callTy hc hg hm hv ha hn hdb he hpl).weak tCB_of
theorem sn_ct (hc : ClN X (.type T) fn) (hm : X.mg x = none) (ha : SBA X W (e :: es) fs) (hg : Gl X x := by rfl) (hv : bootBuiltins x = some (.type T) := by decide +kernel) (hn : x ≠ "__name__" := by decide) (hdb : (x == ("__debug__" : Str)) = false := by decide)
    (he : starEach (e :: es) X.env = (false, eval e X.env) :: starEach es X.env := by rfl) (hpl : (backTo pos (starEach es X.env)).any (·.1) = false := by rfl) : SN X W (.Call (.Name x p) (e :: es) [] pos) (eCB fn fs) :=
  (pe_callTy hc hg hm hv ha hn hdb he hpl).weak tCBN_of

/-! ### own defs called -/
/-- the promise of a def that is a function of its arguments' data, and changes nothing -/
def spP (K : PySem.W.Frag) (n : Nat) (f : List D → Rs) : Sp := fun vs H Q E => ∃ L ds, LvOk H L ∧ ds.length = n ∧ RpL K H L ds vs ∧ match f ds with
  | .ok d => ∀ H' v, Same H H' → Rp K H' L d v → Q v H'
  | .exc c fs => ∀ H' x, Same H H' → XR K H' L fs x → E (.ref (He.ga K c)) x H'
  | .bad => False
structure Dn (P : Program) (w : World) (K : PySem.W.Frag) (mg : Str → Option Value) (base : Heap) (x : Str) (k n : Nat) (f : List D → Rs) : Prop where
  ex : ∃ (fa : Addr) (fd : FuncData) (ps : List Str), mg x = some (.ref fa) ∧ FnOk P w K mg base (L2.CX P w) k fa fd ps (spP K n f) ∧ PySem.W.keepIn K (.ref fa) = true ∧ Binds K fd ps []
def eCall (f : List D → Rs) (fs : List EF) : EF := fun ρ => (evA fs ρ).bind f
theorem se_call {k n : Nat} {g : List D → Rs} (F : Dn X.prog X.w X.K X.mg X.base x k n g) (hr : Room k X.A) (tk : Takes X W) (ha : SA X W (e :: es) fs) (hlen : (e :: es).length = n := by rfl) (hfl : fs.length = n := by rfl) (hg : Gl X x := by rfl) (hdb : (x == ("__debug__" : Str)) = false := by decide)
    (he : starEach (e :: es) X.env = (false, eval e X.env) :: starEach es X.env := by rfl) (hpl : (backTo pos (starEach es X.env)).any (·.1) = false := by rfl) : SE X W (.Call (.Name x p) (e :: es) [] pos) (eCall g fs) := by
  obtain ⟨fa, fd, ps, hm, F, hk, hb⟩ := F.ex
  have len : ∀ (gs : List EF) (ρ : En) (ds : List D), evA gs ρ = .ok ds → ds.length = gs.length := by
    intro gs
    induction gs with
    | nil => intro ρ ds h; cases h; rfl
    | cons g gs ih =>
      intro ρ ds h
      rw [evA_cons] at h
      cases hg : g ρ with
      | bad => rw [hg] at h; cases h
      | exc c fs => rw [hg] at h; cases h
      | ok d =>
        rw [hg] at h
        cases hq : evA gs ρ with
        | bad => rw [hq] at h; cases h
        | exc c fs => rw [hq] at h; cases h
        | ok es => rw [hq] at h; cases h; simp [ih ρ es hq]
  refine (pe_callS (E := WE W) F hr hg hm hk hb (fun σ => passAt tk σ) ha hdb he hpl).weak fun σ H Q ⟨L, ρ, re, p⟩ => ⟨L, ρ, re, ?_⟩
  unfold eCall at p
  cases hA : evA fs ρ with
  | bad => rw [hA] at p; exact p
  | exc c fs => rw [hA] at p; exact p
  | ok ds =>
    rw [hA] at p
    simp only [RL.bind_ok] at p
    refine fun H1 vs s1 r => ⟨L, ds, re.lv.mono s1, (len fs ρ ds hA).trans hfl, r, ?_⟩
    have p1 := p.mono s1
    cases hg : g ds with
    | bad => rw [hg] at p1; exact p1.elim
    | exc c fs => rw [hg] at p1; exact p1
    | ok d => rw [hg] at p1; exact p1
end
end VV

set_option Elab.async false
set_option linter.all false
set_option maxRecDepth 100000
set_option maxHeartbeats 4000000
/-! VVf: subscripts, slices, built-in functions. -/
namespace VV
open PySem PySem.Spec L2
open PyProof.Rows hiding St

/-! ### subscripts -/
def asRd : D → Option (List D)
  | .dict [(.none, .list ds)] => some ds
  | _ => none
def ixF : D → D → Option D
  | .list ds, .int i => atI ds i
  | .tuple ds, .int i => atI ds i
  | .str z, .int i => if z.length ≤ sizeLine then (atI z.cps.toList i).map fun c => .str ⟨#[c]⟩ else none
  | .dict ps, .int i => (asRd (.dict ps)).bind fun ds => atI ds i
  | _, _ => none
section
variable {K : PySem.W.Frag} {H : Hp} {L : Ad}
theorem RpL.atI {ds : List D} {vs : List V} {i : Int} {d : D} (r : RpL K H L ds vs) (h : L2.atI ds i = some d) : ∃ v, L2.atI vs i = some v ∧ Rp K H L d v := by
  unfold L2.atI at h
  cases e : ixN ds.length i with
  | none => exact absurd h (by rw [e]; simp)
  | some j =>
    rw [e] at h
    obtain ⟨v, e1, rv⟩ := r.get (i := j) h
    refine ⟨v, ?_, rv⟩
    unfold L2.atI
    rw [← r.length, e]
    exact e1
theorem keyD_ne (k : Key) : keyD k ≠ .none := by cases k <;> simp [keyD]
theorem Rb.rdV {ps : List (D × D)} {ds : List D} {v : V} (h : Rb K H L (.dict ps) v) (e : asRd (.dict ps) = some ds) : ∃ (a : Addr) (ns : List Int), v = .ref a ∧ SqL K H a (ns.map V.int) ∧ ds = ns.map PyData.int := by
  have hp : ps = [(.none, .list ds)] := by
    unfold asRd at e
    split at e
    · rename_i h1
      cases h1
      cases e
      rfl
    · cases e
  subst hp
  have nk : ∀ {kvs : List (Key × V)}, ([(PyData.none, PyData.list ds)] : List (D × D)).map (·.1) = kvs.map (fun q => keyD q.1) → False := fun {kvs} z => by
    cases kvs with
    | nil => cases z
    | cons q r =>
      simp only [List.map_cons, List.cons.injEq] at z
      exact keyD_ne _ z.1.symm
  have nt : ∀ {kvs : List (List Key × V)}, ([(PyData.none, PyData.list ds)] : List (D × D)).map (·.1) = kvs.map (fun q => PyData.tuple (q.1.map keyD)) → False := fun {kvs} z => by
    cases kvs with
    | nil => cases z
    | cons q r =>
      simp only [List.map_cons, List.cons.injEq] at z
      exact nomatch z.1
  rcases h with h | ⟨a, e1, h⟩
  · generalize hd : (PyData.dict [(PyData.none, PyData.list ds)]) = dd at h
    cases h with
    | rd h =>
      unfold rdL at hd
      simp only [PyData.dict.injEq, List.cons.injEq, Prod.mk.injEq, PyData.list.injEq, and_true, true_and] at hd
      exact ⟨_, _, rfl, h.sq, hd⟩
    | dk _ _ z _ => cases hd; exact (nk z).elim
    | dt _ _ z _ => cases hd
    | _ => cases hd
  · cases h with
    | dk _ z _ => exact (nk z).elim
end
section
variable {X : Cx} {W : WX} {a b : Expr} {f g : EF} {pos : Pos}
theorem ix_D : IxR X (rD2 X.K ixF) := by
  intro value slice pn s σ H x y v u Q I rx ry h hs
  obtain ⟨L, dx, dy, d, lv, bx, by', hf, k⟩ := h
  unfold ixF at hf
  split at hf
  · obtain ⟨p, vs, rfl, hp, r⟩ := bx.lstV
    obtain rfl := by'.intV
    obtain ⟨z, e, rz⟩ := r.atI hf
    exact ix_list value slice pn s σ H _ _ v u Q I rx ry ⟨p, vs, _, z, rfl, rfl, SqL.of hp, e, k H z (Same.refl H) rz⟩ hs
  · obtain ⟨p, vs, rfl, hp, r⟩ := bx.tupV
    obtain rfl := by'.intV
    obtain ⟨z, e, rz⟩ := r.atI hf
    exact ix_tup value slice pn s σ H _ _ v u Q I rx ry ⟨p, vs, _, z, rfl, rfl, SqT.of hp, e, k H z (Same.refl H) rz⟩ hs
  · obtain rfl := bx.strV
    obtain rfl := by'.intV
    split at hf
    · rename_i hz
      obtain ⟨c, e, rfl⟩ := Option.map_eq_some_iff.mp hf
      exact ix_str value slice pn s σ H _ _ v u Q I rx ry ⟨_, _, c, rfl, rfl, hz, e, k H _ (Same.refl H) (.str _)⟩ hs
    · cases hf
  · obtain rfl := by'.intV
    cases e : asRd (.dict _) with
    | none => rw [e] at hf; cases hf
    | some ds =>
      rw [e] at hf
      obtain ⟨p, ns, rfl, hp, rfl⟩ := bx.rdV e
      have hf' : L2.atI (ns.map PyData.int) _ = some d := hf
      obtain ⟨z, e2, rz⟩ := (RpL.ofInts (K := X.K) (H := H) (L := L) ns).atI hf'
      exact ix_list value slice pn s σ H _ _ v u Q I rx ry ⟨p, _, _, z, rfl, rfl, hp, e2, k H z (Same.refl H) rz⟩ hs
  · cases hf
theorem se_ix (ha : SB X W a f) (hb : SB X W b g) (hs : PlainIx b := by exact fun _ _ => rfl) : SE X W (.Subscript a b pos) (eOp ixF f g) := (pe_ix ix_D ha hb hs).weak tOp_of

/-! ### slices -/
def cutL {α : Type} (xs : List α) (lo hi : Option Int) : List α := (xs.drop (HT.sIx xs.length 0 lo)).take (HT.sIx xs.length xs.length hi - HT.sIx xs.length 0 lo)
def slF : D → Option Int → Option Int → Option D
  | .list ds, lo, hi => some (.list (cutL ds lo hi))
  | .tuple ds, lo, hi => some (.tuple (cutL ds lo hi))
  | .str z, lo, hi => if z.length ≤ sizeLine then some (.str (cutS z lo hi)) else none
  | _, _, _ => none
def optI (g : Option EF) (ρ : En) (k : Option Int → Rs) : Rs := match g with
  | none => k none
  | some g => (g ρ).bind fun d => match d with
    | .int i => k (some i)
    | _ => .bad
def eSl (f : EF) (lo hi : Option EF) : EF := fun ρ => (f ρ).bind fun x => optI lo ρ fun l => optI hi ρ fun h => Rs.of (slF x l h)
def tSO (K : PySem.W.Frag) (W : WX) : Option EF → TO
  | none => tNoPart
  | some g => tPart (tB K W g)
abbrev SO (X : Cx) (W : WX) (e : Option Expr) (g : Option EF) : Prop := PO X e (tSO X.K W g)
theorem so_none : SO X W none none := po_none
theorem so_some (h : SB X W a f) : SO X W (some a) (some f) := po_some h
theorem RpL.cut {K : PySem.W.Frag} {H : Hp} {L : Ad} {ds : List D} {vs : List V} (r : RpL K H L ds vs) (lo hi : Option Int) : RpL K H L (cutL ds lo hi) (cutV vs lo hi) := by
  unfold cutL cutV
  rw [r.length]
  exact (r.drop _).take _
theorem cutL_whole {α : Type} {xs : List α} {lo hi : Option Int} (h : HT.sIx xs.length 0 lo = 0 ∧ HT.sIx xs.length xs.length hi = xs.length) : cutL xs lo hi = xs := by
  unfold cutL
  rw [h.1, h.2, List.drop_zero, Nat.sub_zero, List.take_length]
theorem sl_D : L2.SlR X (fun x lo hi H Q => ∃ L dx d, LvOk H L ∧ Rb X.K H L dx x ∧ slF dx lo hi = some d ∧ ∀ H' v, Same H H' → Rp X.K H' L d v → Q v H') := by
  intro pn s σ H x v vl vu lo hi sl Q I rx hs pl pu h
  obtain ⟨L, dx, d, lv, bx, hf, k⟩ := h
  unfold slF at hf
  split at hf
  · obtain ⟨p, vs, rfl, hp, r⟩ := bx.lstV
    cases hf
    exact sl_list pn s σ H _ v vl vu lo hi sl Q I rx hs pl pu ⟨p, vs, rfl, SqL.of hp, fun q hq => k _ _ (same_upd hq) (.lst upd_same (new_not lv hq) ((r.cut lo hi).mono (same_upd hq)))⟩
  · obtain ⟨p, vs, rfl, hp, r⟩ := bx.tupV
    cases hf
    refine sl_tupA pn s σ H _ v vl vu lo hi sl Q I rx hs pl pu ⟨p, vs, rfl, SqT.of hp, fun hw => ?_, fun _ q hq => k _ _ (same_upd hq) (.tup upd_same ((r.cut lo hi).mono (same_upd hq)))⟩
    rw [← r.length] at hw
    rw [cutL_whole hw] at k
    exact k H _ (Same.refl H) (.tup hp r)
  · obtain rfl := bx.strV
    split at hf
    · cases hf
      exact sl_str pn s σ H _ v vl vu lo hi sl Q I rx hs pl pu ⟨_, rfl, by assumption, k H _ (Same.refl H) (.str _)⟩
    · cases hf
  · cases hf
theorem Post.stepO {K : PySem.W.Frag} {L : Ad} {σ : St} {H : Hp} {ρ : En} {go : Option EF} {k : Option Int → Rs} {Q : VK} {R : Option Int → Hp → Prop} (re : RE K H L ρ σ) (h : Post K W L σ H (optI go ρ k) Q)
    (hk : ∀ o H1, Same H H1 → Post K W L σ H1 (k o) Q → R o H1) : tSO K W go σ H R := by
  cases go with
  | none => exact hk none H (Same.refl H) h
  | some g =>
    refine ⟨L, ρ, re, h.step fun d H1 v s1 r p1 => ?_⟩
    cases d with
    | int i => exact ⟨i, r.intV, hk (some i) H1 s1 p1⟩
    | _ => exact p1.elim
theorem se_sl {lo hi : Option Expr} {gl gh : Option EF} {p2 : Pos} (ha : SB X W a f) (hl : SO X W lo gl) (hh : SO X W hi gh) : SE X W (.Subscript a (.Slice lo hi none p2) pos) (eSl f gl gh) := (pe_slice sl_D ha hl hh).weak fun σ H Q ⟨L, ρ, re, p⟩ =>
  ⟨L, ρ, re, p.step fun dx H1 x s1 rx p1 => Post.stepO (re.mono s1) p1 fun l H2 s2 p2 => Post.stepO (re.mono (s1.trans s2)) p2 fun h H3 s3 p3 => by
    cases hd : slF dx l h with
    | none => rw [hd] at p3; exact p3.elim
    | some d => rw [hd] at p3; exact ⟨L, dx, d, re.lv.mono (s1.trans (s2.trans s3)), rx.mono (s2.trans s3), hd, p3⟩⟩
end

/-! ### numbers out of data -/
def intsOf : List D → Option (List Int)
  | [] => some []
  | .int i :: r => (intsOf r).map fun is => i :: is
  | _ => none
theorem intsOf_eq : ∀ {ds : List D} {ns : List Int}, intsOf ds = some ns → ds = ns.map PyData.int
  | [], ns, h => by cases h; rfl
  | d :: ds, ns, h => by
    cases d with
    | int i =>
      unfold intsOf at h
      obtain ⟨is, e, rfl⟩ := Option.map_eq_some_iff.mp h
      rw [intsOf_eq e]
      rfl
    | _ => cases h
@[simp] theorem intsOf_map (ns : List Int) : intsOf (ns.map PyData.int) = some ns := by
  induction ns with
  | nil => rfl
  | cons n ns ih => simp [intsOf, ih]
def minI : List Int → Int
  | [] => 0
  | [n] => n
  | n :: m :: r => let z := minI (m :: r); if z < n then z else n
def maxI : List Int → Int
  | [] => 0
  | [n] => n
  | n :: m :: r => let z := maxI (m :: r); if n < z then z else n
theorem minI_mem : ∀ {ns : List Int}, 0 < ns.length → minI ns ∈ ns ∧ ∀ y ∈ ns, minI ns ≤ y
  | [], h => by cases h
  | [n], _ => by simp [minI]
  | n :: m :: r, _ => by
    have ih := minI_mem (ns := m :: r) (by simp)
    simp only [minI]
    generalize minI (m :: r) = z at ih
    split
    · refine ⟨List.mem_cons_of_mem _ ih.1, fun y hy => ?_⟩
      obtain e | e := List.mem_cons.mp hy
      · omega
      · exact ih.2 y e
    · refine ⟨List.mem_cons_self, fun y hy => ?_⟩
      obtain e | e := List.mem_cons.mp hy
      · omega
      · have := ih.2 y e; omega
theorem maxI_mem : ∀ {ns : List Int}, 0 < ns.length → maxI ns ∈ ns ∧ ∀ y ∈ ns, y ≤ maxI ns
  | [], h => by cases h
  | [n], _ => by simp [maxI]
  | n :: m :: r, _ => by
    have ih := maxI_mem (ns := m :: r) (by simp)
    simp only [maxI]
    generalize maxI (m :: r) = z at ih
    split
    · refine ⟨List.mem_cons_of_mem _ ih.1, fun y hy => ?_⟩
      obtain e | e := List.mem_cons.mp hy
      · omega
      · exact ih.2 y e
    · refine ⟨List.mem_cons_self, fun y hy => ?_⟩
      obtain e | e := List.mem_cons.mp hy
      · omega
      · have := ih.2 y e; omega

/-! ### built-in functions -/
/-- how many keys; a dict of tuples is marked by its first pair -/
def dLen : List (D × D) → Nat
  | (.none, .none) :: ps => ps.length
  | ps => ps.length
theorem dLen_dk {ps : List (D × D)} {kvs : List (Key × V)} (z : ps.map (·.1) = kvs.map (fun q => keyD q.1)) : dLen ps = ps.length := by
  unfold dLen
  split
  · cases kvs with
    | nil => simp at z
    | cons q r =>
      simp only [List.map_cons, List.cons.injEq] at z
      obtain ⟨z, _⟩ := z
      obtain ⟨qk, qv⟩ := q
      cases qk <;> cases z
  · rfl
def lenF : List D → Option D
  | [.list ds] => some (.int ds.length)
  | [.tuple ds] => some (.int ds.length)
  | [.str z] => if z.length ≤ sizeLine then some (.int z.length) else none
  | [.dict ps] => (match asRd (.dict ps) with
    | some ds => some (.int ds.length)
    | none => some (.int (dLen ps)))
  | _ => none
def absF : List D → Option D
  | [.int i] => some (.int (if i < 0 then -i else i))
  | _ => none
def intF : List D → Option D
  | [.int i] => some (.int i)
  | [.bool b] => some (.int (if b then 1 else 0))
  | _ => none
def tupF : List D → Option D
  | [.list ds] => some (.tuple ds)
  | [.tuple ds] => some (.tuple ds)
  | _ => none
def lstF : List D → Option D
  | [.list ds] => some (.list ds)
  | [.tuple ds] => some (.list ds)
  | _ => none
def sumF : List D → Option D
  | [.list ds] => (intsOf ds).map fun ns => .int ns.sum
  | [.tuple ds] => (intsOf ds).map fun ns => .int ns.sum
  | _ => none
def max2F : List D → Option D
  | [.int i, .int j] => some (.int (if j > i then j else i))
  | _ => none
def min2F : List D → Option D
  | [.int i, .int j] => some (.int (if j < i then j else i))
  | _ => none
def minF : List D → Option D
  | [.list ds] => (intsOf ds).bind fun ns => if ns = [] then none else some (.int (minI ns))
  | _ => none
def maxF : List D → Option D
  | [.list ds] => (intsOf ds).bind fun ns => if ns = [] then none else some (.int (maxI ns))
  | _ => none
section
variable {X : Cx}
theorem Rb.dictV {K : PySem.W.Frag} {H : Hp} {L : Ad} {ps : List (D × D)} {v : V} (h : Rb K H L (.dict ps) v) (e : asRd (.dict ps) = none) : ∃ a, v = .ref a ∧ Ow K H L (.dict ps) a := by
  rcases h with h | ⟨a, e1, h⟩
  · generalize hd : (PyData.dict ps) = dd at h e
    cases h with
    | rd h => unfold rdL at e; simp [asRd] at e
    | dk h1 _ z r => exact ⟨_, rfl, .dk h1 z r⟩
    | dt h1 _ z r => exact ⟨_, rfl, .dt h1 z r⟩
    | _ => cases hd
  · exact ⟨a, e1, h⟩
theorem cl_abs : ClD X (.builtin "abs") absF := by
  intro pn s σ H xs us Q I rs h
  obtain ⟨L, ds, d, lv, rb, hf, k⟩ := h
  unfold absF at hf
  split at hf
  · obtain ⟨v, rfl, r⟩ := rb.one
    obtain rfl := r.intV
    cases hf
    exact call_abs pn s σ H _ us Q I rs ⟨_, rfl, k H _ (Same.refl H) (.int _)⟩
  · cases hf
theorem cl_int : ClD X (.type "int") intF := by
  intro pn s σ H xs us Q I rs h
  obtain ⟨L, ds, d, lv, rb, hf, k⟩ := h
  unfold intF at hf
  split at hf
  · obtain ⟨v, rfl, r⟩ := rb.one
    obtain rfl := r.intV
    cases hf
    exact call_int1 pn s σ H _ us Q I rs (.inl ⟨_, rfl, k H _ (Same.refl H) (.int _)⟩)
  · obtain ⟨v, rfl, r⟩ := rb.one
    obtain rfl := r.blV
    cases hf
    exact call_int1 pn s σ H _ us Q I rs (.inr ⟨_, rfl, k H _ (Same.refl H) (.int _)⟩)
  · cases hf
theorem cl_max2 (hc : X.calm = true) : ClD X (.builtin "max") max2F := by
  intro pn s σ H xs us Q I rs h
  obtain ⟨L, ds, d, lv, rb, hf, k⟩ := h
  unfold max2F at hf
  split at hf
  · obtain ⟨v, w, rfl, r, r'⟩ := rb.two
    obtain rfl := r.intV
    obtain rfl := r'.intV
    cases hf
    exact call_max2 hc pn s σ H _ us Q I rs ⟨_, _, rfl, k H _ (Same.refl H) (.int _)⟩
  · cases hf
theorem cl_min2 (hc : X.calm = true) : ClD X (.builtin "min") min2F := by
  intro pn s σ H xs us Q I rs h
  obtain ⟨L, ds, d, lv, rb, hf, k⟩ := h
  unfold min2F at hf
  split at hf
  · obtain ⟨v, w, rfl, r, r'⟩ := rb.two
    obtain rfl := r.intV
    obtain rfl := r'.intV
    cases hf
    exact call_min2 hc pn s σ H _ us Q I rs ⟨_, _, rfl, k H _ (Same.refl H) (.int _)⟩
  · cases hf
theorem cl_minI (hc : X.calm = true) : ClD X (.builtin "min") minF := by
  intro pn s σ H xs us Q I rs h
  obtain ⟨L, ds, d, lv, rb, hf, k⟩ := h
  unfold minF at hf
  split at hf
  · obtain ⟨v, rfl, r⟩ := rb.one
    obtain ⟨a, vs, rfl, ha, rl⟩ := r.lstV
    obtain ⟨ns, e, hf2⟩ := Option.bind_eq_some_iff.mp hf
    clear hf
    have ed := intsOf_eq e
    subst ed
    have ev := rl.ints
    subst ev
    split at hf2
    · cases hf2
    · cases hf2
      rename_i hne
      have hl : 0 < ns.length := by cases ns with
        | nil => exact absurd rfl hne
        | cons _ _ => simp
      refine cr_min hc pn s σ H _ us Q I rs ⟨a, ns, rfl, SqL.of ha, hl, fun m hm hle => ?_⟩
      obtain ⟨h1, h2⟩ := minI_mem hl
      have e : m = minI ns := by have := hle _ h1; have := h2 _ hm; omega
      subst e
      exact k H _ (Same.refl H) (.int _)
  · cases hf
theorem cl_maxI (hc : X.calm = true) : ClD X (.builtin "max") maxF := by
  intro pn s σ H xs us Q I rs h
  obtain ⟨L, ds, d, lv, rb, hf, k⟩ := h
  unfold maxF at hf
  split at hf
  · obtain ⟨v, rfl, r⟩ := rb.one
    obtain ⟨a, vs, rfl, ha, rl⟩ := r.lstV
    obtain ⟨ns, e, hf2⟩ := Option.bind_eq_some_iff.mp hf
    clear hf
    have ed := intsOf_eq e
    subst ed
    have ev := rl.ints
    subst ev
    split at hf2
    · cases hf2
    · cases hf2
      rename_i hne
      have hl : 0 < ns.length := by cases ns with
        | nil => exact absurd rfl hne
        | cons _ _ => simp
      refine cr_max hc pn s σ H _ us Q I rs ⟨a, ns, rfl, SqL.of ha, hl, fun m hm hle => ?_⟩
      obtain ⟨h1, h2⟩ := maxI_mem hl
      have e : m = maxI ns := by have := hle _ h1; have := h2 _ hm; omega
      subst e
      exact k H _ (Same.refl H) (.int _)
  · cases hf
theorem cl_tup : ClD X (.type "tuple") tupF := by
  intro pn s σ H xs us Q I rs h
  obtain ⟨L, ds, d, lv, rb, hf, k⟩ := h
  unfold tupF at hf
  split at hf
  · obtain ⟨v, rfl, r⟩ := rb.one
    obtain ⟨a, vs, rfl, ha, rl⟩ := r.lstV
    cases hf
    exact call_tuple_of pn s σ H _ us Q I rs ⟨a, vs, rfl, .inl ⟨SqL.of ha, fun p hp => k _ _ (same_upd hp) (.tup upd_same (rl.mono (same_upd hp)))⟩⟩
  · obtain ⟨v, rfl, r⟩ := rb.one
    obtain ⟨a, vs, rfl, ha, rl⟩ := r.tupV
    cases hf
    exact call_tuple_of pn s σ H _ us Q I rs ⟨a, vs, rfl, .inr ⟨SqT.of ha, k H _ (Same.refl H) (.tup ha rl)⟩⟩
  · cases hf
theorem cl_lst : ClN X (.type "list") lstF := by
  intro pn s σ H xs us Q I rs h
  obtain ⟨L, ds, d, lv, rb, hf, k⟩ := h
  unfold lstF at hf
  split at hf
  · obtain ⟨v, rfl, r⟩ := rb.one
    obtain ⟨a, vs, rfl, ha, rl⟩ := r.lstV
    cases hf
    exact call_list_of pn s σ H _ us Q I rs ⟨a, vs, rfl, .inl (SqL.of ha), fun p hp => k _ _ (same_upd hp) hp (.lst upd_same ((rl.lives (Lp_new hp)).mono (same_upd hp)))⟩
  · obtain ⟨v, rfl, r⟩ := rb.one
    obtain ⟨a, vs, rfl, ha, rl⟩ := r.tupV
    cases hf
    exact call_list_of pn s σ H _ us Q I rs ⟨a, vs, rfl, .inr (SqT.of ha), fun p hp => k _ _ (same_upd hp) hp (.lst upd_same ((rl.lives (Lp_new hp)).mono (same_upd hp)))⟩
  · cases hf
theorem cl_len : ClD X (.builtin "len") lenF := by
  intro pn s σ H xs us Q I rs h
  obtain ⟨L, ds, d, lv, rb, hf, k⟩ := h
  unfold lenF at hf
  split at hf
  · obtain ⟨v, rfl, r⟩ := rb.one
    obtain ⟨a, vs, rfl, ha, rl⟩ := r.lstV
    cases hf
    rw [rl.length] at k
    exact call_len pn s σ H _ us Q I rs ⟨_, _, rfl, .inl ⟨vs, SqL.of ha, rfl⟩, k H _ (Same.refl H) (.int _)⟩
  · obtain ⟨v, rfl, r⟩ := rb.one
    obtain ⟨a, vs, rfl, ha, rl⟩ := r.tupV
    cases hf
    rw [rl.length] at k
    exact call_len pn s σ H _ us Q I rs ⟨_, _, rfl, .inr ⟨vs, SqT.of ha, rfl⟩, k H _ (Same.refl H) (.int _)⟩
  · obtain ⟨v, rfl, r⟩ := rb.one
    obtain rfl := r.strV
    split at hf
    · cases hf
      exact call_len pn s σ H _ us Q I rs ⟨_, _, rfl, ⟨by assumption, rfl⟩, k H _ (Same.refl H) (.int _)⟩
    · cases hf
  · obtain ⟨v, rfl, r⟩ := rb.one
    split at hf
    · rename_i e
      obtain ⟨a, ns, rfl, ha, rfl⟩ := r.rdV e
      cases hf
      have e2 : ((ns.map PyData.int).length : Int) = ((ns.map V.int).length : Int) := by simp
      rw [e2] at k
      exact call_len pn s σ H _ us Q I rs ⟨_, _, rfl, .inl ⟨_, ha, rfl⟩, k H _ (Same.refl H) (.int _)⟩
    · rename_i e
      obtain ⟨a, rfl, ow⟩ := r.dictV e
      cases hf
      obtain ⟨u, rfl, ru⟩ := vals1 rs
      cases ru
      cases ow with
      | dk h1 z rl =>
        have e2 := congrArg List.length z
        rw [List.length_map, List.length_map] at e2
        rw [dLen_dk z, e2] at k
        exact d_len I (.inl h1) fun t s' I' => ⟨.int _, H, I', ⟨t, rfl⟩, k H _ (Same.refl H) (.int _)⟩
      | dt h1 z rl =>
        have e2 := congrArg List.length z
        rw [List.length_map, List.length_map] at e2
        simp only [dLen] at k
        rw [e2] at k
        exact call_len_dT pn s σ H [.ref a] [.ref a] Q I (.cons rfl .nil) ⟨a, _, rfl, h1, k H _ (Same.refl H) (.int _)⟩
  · cases hf
/-! sum -/
theorem preSum_take (ns : List Int) : ∀ k : Nat, k ≤ ns.length → preSum (fun i => ns.getD i 0) k = (ns.take k).sum
  | 0, _ => by simp [preSum]
  | k + 1, hk => by
    have hlt : k < ns.length := hk
    have tk : ns.take (k + 1) = ns.take k ++ [ns.getD k 0] := by
      rw [List.take_add_one, List.getElem?_eq_getElem hlt, List.getD_eq_getElem?_getD, List.getElem?_eq_getElem hlt]
      simp
    rw [tk, List.sum_append, ← preSum_take ns k (by omega)]
    simp [preSum]
/-- sum(t), t a tuple of ints: over the library's walk of a tuple -/
theorem sum_tuple {prog : Program} {w : World} {A : Around} {E : Value → Shared → Prop} {s : Shared} {l : Addr} {its : List Value} {ns : List Int} {Q : Value → Shared → Prop} (hh : A.handled = none) (hl : s.heap.IsTuple l its.toArray) (hi : IntsAre its ns)
    (hq : ∀ hp tk t, (∀ b o, s.heap.get? b = some o → hp.get? b = some o) → Q (.int ns.sum t) { s with heap := hp, toks := tk }) : wpAny (model prog w) A (call (.builtin "sum") [.ref l]) Q E s := by
  have below : l < s.heap.objs.size := let ⟨_, ho, _⟩ := hl; Heap.lt_size ho
  have size : its.toArray.size = ns.length := by rw [List.size_toArray]; exact hi.length
  refine call_sum_walkG (wpAny_pyIter_tuple hl ⟨_, _, _, _, _, _, fun i => ns.getD i 0, rfl, Walks.tuple (A := A.in1) hh _ l (Nat.ne_of_lt below) its.toArray, ⟨⟨_, Heap.get?_push_size _ rfl, rfl, rfl⟩, hl.push _⟩, fun b hb => ?_, fun i v hv => ?_, fun hp tk t keep => ?_⟩)
  · have two : b = s.heap.objs.size ∨ b = l := by simpa using hb
    have grown : (s.heap.push { cls := .type "tuple_iterator", data := .fields #[.ref l, .int 0 0] }).objs.size = s.heap.objs.size + 1 := Heap.size_push ..
    show b < (s.heap.push { cls := .type "tuple_iterator", data := .fields #[.ref l, .int 0 0] }).objs.size
    rw [grown]
    rcases two with z | z
    · rw [z]; exact Nat.lt_succ_self _
    · rw [z]; exact Nat.lt_succ_of_lt below
  · exact PyProof.Rows.IntsAre.int_at hi i v (by simpa using hv)
  · rw [size, preSum_take ns _ (Nat.le_refl _), List.take_length]
    refine hq hp tk t fun b o ho => keep b o (fun z => ?_) (Heap.get?_push_of_some _ ho)
    have eb : b = s.heap.objs.size := by simpa using z
    have lb := Heap.lt_size ho
    rw [eb] at lb
    exact Nat.lt_irrefl _ lb
theorem cl_sum (hc : X.calm = true) : ClD X (.builtin "sum") sumF := by
  intro pn s σ H xs us Q I rs h
  obtain ⟨L, ds, d, lv, rb, hf, k⟩ := h
  unfold sumF at hf
  split at hf
  · obtain ⟨v, rfl, r⟩ := rb.one
    obtain ⟨a, vs, rfl, ha, rl⟩ := r.lstV
    obtain ⟨ns, e, rfl⟩ := Option.map_eq_some_iff.mp hf
    have ed := intsOf_eq e
    subst ed
    have ev := rl.ints
    subst ev
    exact cr_sum hc pn s σ H _ us Q I rs ⟨a, ns, rfl, SqL.of ha, k H _ (Same.refl H) (.int _)⟩
  · obtain ⟨v, rfl, r⟩ := rb.one
    obtain ⟨a, vs, rfl, ha, rl⟩ := r.tupV
    obtain ⟨ns, e, rfl⟩ := Option.map_eq_some_iff.mp hf
    have ed := intsOf_eq e
    subst ed
    have ev := rl.ints
    subst ev
    obtain ⟨u, rfl, ru⟩ := vals1 rs
    cases ru
    obtain ⟨its, rv, pl, hz⟩ := I.tuple (SqT.of ha)
    exact sum_tuple (I.ok.hd hc) pl (Vals.ints rv) fun h' tk t' kp => ⟨.int _, H, I.kept kp, ⟨t', rfl⟩, k H _ (Same.refl H) (.int _)⟩
  · cases hf
/-! isinstance(x, T), T a built-in class -/
def tyN : D → Option String
  | .none => some "NoneType"
  | .bool _ => some "bool"
  | .int _ => some "int"
  | .str _ => some "str"
  | .list _ => some "list"
  | .tuple _ => some "tuple"
  | .dict _ => none
def isInt : D → Bool
  | .int _ => true
  | .bool _ => true
  | _ => false
def isBool : D → Bool
  | .bool _ => true
  | _ => false
def isTup : D → Bool
  | .tuple _ => true
  | _ => false
def isLst : D → Bool
  | .list _ => true
  | _ => false
def isStr : D → Bool
  | .str _ => true
  | _ => false
def eIsi (g : D → Bool) (f : EF) : EF := fun ρ => (f ρ).bind fun d => match d with
  | .dict _ => .bad
  | d => .ok (.bool (g d))
theorem kit_int (d : D) (t : String) (h : tyN d = some t) : kitB t "int" = some (isInt d) := by
  cases d <;> cases h <;> first | rfl | decide +kernel
theorem kit_bool (d : D) (t : String) (h : tyN d = some t) : kitB t "bool" = some (isBool d) := by
  cases d <;> cases h <;> first | rfl | decide +kernel
theorem kit_tup (d : D) (t : String) (h : tyN d = some t) : kitB t "tuple" = some (isTup d) := by
  cases d <;> cases h <;> first | rfl | decide +kernel
theorem kit_lst (d : D) (t : String) (h : tyN d = some t) : kitB t "list" = some (isLst d) := by
  cases d <;> cases h <;> first | rfl | decide +kernel
theorem kit_str (d : D) (t : String) (h : tyN d = some t) : kitB t "str" = some (isStr d) := by
  cases d <;> cases h <;> first | rfl | decide +kernel
theorem Rb.ty {K : PySem.W.Frag} {H : Hp} {L : Ad} {d : D} {v : V} {t : String} (h : Rb K H L d v) (e : tyN d = some t) : TyX K H v (.type t) := by
  cases d with
  | none => obtain rfl := h.nonV; cases e; exact .base .non
  | bool b => obtain rfl := h.blV; cases e; exact .base (.bl b)
  | int i => obtain rfl := h.intV; cases e; exact .base (.int i)
  | str x => obtain rfl := h.strV; cases e; exact .base (.str x)
  | list ds => obtain ⟨a, vs, rfl, ha, r⟩ := h.lstV; cases e; exact .base (.lst ha)
  | tuple ds => obtain ⟨a, vs, rfl, ha, r⟩ := h.tupV; cases e; exact .base (.tup ha)
  | dict ps => cases e
theorem se_isi {W : WX} {a : Expr} {f : EF} {T : String} {x : Str} {g : D → Bool} {p p2 pos : Pos} (hT : ∀ d t, tyN d = some t → kitB t T = some (g d)) (hm : X.mg "isinstance" = none) (hmT : X.mg x = none) (ha : SB X W a f)
    (hg : Gl X "isinstance" := by rfl) (hgT : Gl X x := by rfl) (hv : bootBuiltins "isinstance" = some (.builtin "isinstance") := by decide +kernel) (hvT : bootBuiltins x = some (.type T) := by decide +kernel)
    (hn : x ≠ "__name__" := by decide) (hd : (x == ("__debug__" : Str)) = false := by decide)
    (he : starEach (a :: [Expr.Name x p2]) X.env = (false, eval a X.env) :: starEach [Expr.Name x p2] X.env := by rfl) (he2 : starEach (Expr.Name x p2 :: []) X.env = (false, eval (Expr.Name x p2) X.env) :: starEach [] X.env := by rfl) (hpl : (backTo pos (starEach [Expr.Name x p2] X.env)).any (·.1) = false := by rfl) :
    SE X W (.Call (.Name "isinstance" p) [a, .Name x p2] [] pos) (eIsi g f) :=
  (pe_callB call_isi hg hm hv (pa_cons ha (pa_cons (pe_bltn (v := .ty T) hgT hmT hvT rfl hn hd) pa_nil he2) he) (by decide) (by decide) he hpl).weak fun σ H Q ⟨L, ρ, re, pp⟩ =>
    ⟨L, ρ, re, pp.step fun d H1 v s1 r p1 => by
      cases e : tyN d with
      | none =>
        cases d with
        | dict _ => exact p1.elim
        | _ => cases e
      | some t =>
        refine ⟨v, .ty T, .type t, .type T, g d, rfl, .ty T, r.ty e, kit_ty (hT d t e), ?_⟩
        cases d with
        | dict _ => cases e
        | _ => exact p1 H1 _ (Same.refl H1) (.bl _)⟩
end
end VV

set_option Elab.async false
set_option linter.all false
set_option maxRecDepth 100000
set_option maxHeartbeats 4000000
/-! VVg: what is walked, targets, comprehensions. -/
namespace VV
open PySem PySem.Spec L2
open PyProof.Rows hiding St

section
variable {K : PySem.W.Frag} {H H' : Hp} {L L' : Ad} {d : D} {v : V}
theorem Rb.lives (s : ∀ a, L' a → L a ∨ H a = none) (h : Rb K H L d v) : Rb K H L' d v := by
  rcases h with h | ⟨a, e, h⟩
  · exact .inl (h.lives s)
  · exact .inr ⟨a, e, h.lives s⟩
theorem SlR.lives {x : Sl} {o : Option V} (s : ∀ a, L' a → L a ∨ H a = none) (h : SlR K H L x o) : SlR K H L' x o := by
  cases x with
  | val d => obtain ⟨v, e, r⟩ := h; exact ⟨v, e, r.lives s⟩
  | own d => obtain ⟨a, e, r⟩ := h; exact ⟨a, e, r.lives s⟩
theorem RE.lives {ρ : En} {σ : St} (s : ∀ a, L' a → L a ∨ H a = none) (lv : LvOk H L') (h : RE K H L ρ σ) : RE K H L' ρ σ :=
  ⟨lv, h.len, fun i x e => let ⟨o, e1, r⟩ := h.sl i x e; ⟨o, e1, r.lives s⟩⟩
end

/-! ### what is walked -/
structure ItB (K : PySem.W.Frag) (ds : List D) (J : It) (S : Hp → Ad → Prop) : Prop where
  go : ∀ i H L, S H L → i < ds.length → J.go i H
  stop : ∀ i H L, S H L → ds.length ≤ i → J.stop i H
  yld : ∀ i H L x H', S H L → J.yld i H x H' → Same H H' ∧ ∀ d, ds[i]? = some d → Rp K H' L d x
  keep : ∀ H L H' L', S H L → Same H H' → (∀ a, L' a → L a ∨ H a = none) → S H' L'
structure ItS (K : PySem.W.Frag) (ds : List D) (J : It) (S : Hp → Ad → Prop) : Prop extends ItB K ds J S where
  evo : ∀ H L H' L', S H L → (∀ d v, Rp K H L d v → Rp K H' L' d v) → S H' L'
def PostI (K : PySem.W.Frag) (W : WX) (L : Ad) (σ : St) (H : Hp) (r : RL) (R : It → Hp → Prop) : Prop := match r with
  | .ok ds => ∀ (J : It) (S : Hp → Ad → Prop) (H' : Hp), Same H H' → ItB K ds J S → S H' L → R J H'
  | .exc c fs => ∀ (H' : Hp) (x : Option Addr), Same H H' → XR K H' L fs x → W (.ref (He.ga K c)) x σ H'
  | .bad => False
def PostIS (K : PySem.W.Frag) (W : WX) (L : Ad) (σ : St) (H : Hp) (r : RL) (R : It → Hp → Prop) : Prop := match r with
  | .ok ds => ∀ (J : It) (S : Hp → Ad → Prop) (H' : Hp), Same H H' → ItS K ds J S → S H' L → R J H'
  | .exc c fs => ∀ (H' : Hp) (x : Option Addr), Same H H' → XR K H' L fs x → W (.ref (He.ga K c)) x σ H'
  | .bad => False
abbrev IF := En → RL
def tI (K : PySem.W.Frag) (W : WX) (f : IF) : TI := fun σ H R => ∃ L ρ, RE K H L ρ σ ∧ PostI K W L σ H (f ρ) R
def tIS (K : PySem.W.Frag) (W : WX) (f : IF) : TI := fun σ H R => ∃ L ρ, RE K H L ρ σ ∧ PostIS K W L σ H (f ρ) R
/-- what a comprehension walks; what a for walks -/
abbrev SI (X : Cx) (W : WX) (tg e : Expr) (f : IF) : Prop := PI X tg e (tI X.K W f)
abbrev SIS (X : Cx) (W : WX) (tg e : Expr) (f : IF) : Prop := PI X tg e (tIS X.K W f)
def Rs.items (r : Rs) (fn : D → Option (List D)) : RL := match r with
  | .ok d => (match fn d with
    | some ds => .ok ds
    | none => .bad)
  | .exc c fs => .exc c fs
  | .bad => .bad
def itF : D → Option (List D)
  | .list ds => some ds
  | .tuple ds => some ds
  | .str z => some (z.cps.toList.map fun c => .str ⟨#[c]⟩)
  | _ => none
def iSeq (f : EF) : IF := fun ρ => (f ρ).items itF
section
variable {X : Cx} {W : WX} {tg e a b c : Expr} {f g h : EF} {pos p : Pos}
theorem _root_.L2.PI.weak {t t' : TI} (h : PI X tg e t) (hw : ∀ σ H Q, t' σ H Q → t σ H Q) : PI X tg e t' := ⟨fun pn s σ H Q I q => h.run pn s σ H Q I (hw σ H Q q)⟩
theorem itb_list {K : PySem.W.Frag} {ds : List D} {a : Addr} : ItB K ds (Itl K a) (fun H L => ∃ vs, H a = some (.lst vs) ∧ RpL K H L ds vs) where
  go := fun i H L ⟨vs, ha, r⟩ hi => by
    rw [r.length] at hi
    exact ⟨vs, vs[i], SqL.of ha, by simp [hi]⟩
  stop := fun i H L ⟨vs, ha, r⟩ hi => ⟨vs, SqL.of ha, by rw [← r.length]; exact hi⟩
  yld := fun i H L x H' ⟨vs, ha, r⟩ ⟨e, y⟩ => by
    subst e
    refine ⟨Same.refl _, fun d hd => ?_⟩
    obtain ⟨v, e1, rv⟩ := r.get hd
    rw [y vs (SqL.of ha)] at e1
    cases e1
    exact rv
  keep := fun H L H' L' ⟨vs, ha, r⟩ s l => ⟨vs, s _ _ ha, (r.lives l).mono s⟩
theorem itb_tup {K : PySem.W.Frag} {ds : List D} {a : Addr} : ItB K ds (Itt K a) (fun H L => ∃ vs, H a = some (.tup vs) ∧ RpL K H L ds vs) where
  go := fun i H L ⟨vs, ha, r⟩ hi => by
    rw [r.length] at hi
    exact ⟨vs, vs[i], SqT.of ha, by simp [hi]⟩
  stop := fun i H L ⟨vs, ha, r⟩ hi => ⟨vs, SqT.of ha, by rw [← r.length]; exact hi⟩
  yld := fun i H L x H' ⟨vs, ha, r⟩ ⟨e, y⟩ => by
    subst e
    refine ⟨Same.refl _, fun d hd => ?_⟩
    obtain ⟨v, e1, rv⟩ := r.get hd
    rw [y vs (SqT.of ha)] at e1
    cases e1
    exact rv
  keep := fun H L H' L' ⟨vs, ha, r⟩ s l => ⟨vs, s _ _ ha, (r.lives l).mono s⟩
theorem itb_str {K : PySem.W.Frag} {z : Str} : ItB K (z.cps.toList.map fun c => PyData.str ⟨#[c]⟩) (Its z) (fun _ _ => True) where
  go := fun i H L _ hi => show i < z.cps.size by simpa using hi
  stop := fun i H L _ hi => show z.cps.size ≤ i by simpa using hi
  yld := fun i H L x H' _ ⟨e, c, e1, e2⟩ => by
    subst e
    refine ⟨Same.refl _, fun d hd => ?_⟩
    rw [List.getElem?_map, Array.getElem?_toList, e1] at hd
    cases hd
    subst e2
    exact .str _
  keep := fun H L H' L' _ s l => trivial
/-- what is walked is known by the slots before it is evaluated: each kind by its own rule of the library -/
theorem si_seq (ha : SB X W e f) : SI X W tg e (iSeq f) := ⟨fun pn s σ H R I ⟨L, ρ, re, p⟩ => by
  unfold iSeq Rs.items at p
  match hf : f ρ with
  | .bad => rw [hf] at p; exact p.elim
  | .exc c fs =>
    rw [hf] at p
    refine (pi_list ha).run pn s σ H R I ⟨L, ρ, re, ?_⟩
    rw [hf]
    exact p
  | .ok (.list ds) =>
    rw [hf] at p
    refine (pi_list ha).run pn s σ H R I ⟨L, ρ, re, ?_⟩
    rw [hf]
    intro H1 v s1 r
    obtain ⟨b, vs, ev, hb, rl⟩ := r.lstV
    exact ⟨b, ev, ⟨vs, SqL.of hb⟩, p _ _ H1 s1 itb_list ⟨vs, hb, rl⟩⟩
  | .ok (.tuple ds) =>
    rw [hf] at p
    refine (pi_tup ha).run pn s σ H R I ⟨L, ρ, re, ?_⟩
    rw [hf]
    intro H1 v s1 r
    obtain ⟨b, vs, ev, hb, rl⟩ := r.tupV
    exact ⟨b, ev, ⟨vs, SqT.of hb⟩, p _ _ H1 s1 itb_tup ⟨vs, hb, rl⟩⟩
  | .ok (.str z) =>
    rw [hf] at p
    refine (pi_str ha).run pn s σ H R I ⟨L, ρ, re, ?_⟩
    rw [hf]
    exact fun H1 v s1 r => ⟨z, r.strV, p _ _ H1 s1 itb_str trivial⟩
  | .ok .none => rw [hf] at p; exact p.elim
  | .ok (.bool _) => rw [hf] at p; exact p.elim
  | .ok (.int _) => rw [hf] at p; exact p.elim
  | .ok (.dict _) => rw [hf] at p; exact p.elim⟩
/-- a list that others may read: its items stay while the frame's own lists change -/
theorem its_lst {K : PySem.W.Frag} {ds : List D} {a : Addr} : ItS K ds (Itl K a) (fun H L => Rp K H L (.list ds) (.ref a)) := by
  have un : ∀ {H : Hp} {L : Ad}, Rp K H L (.list ds) (.ref a) → ∃ vs, H a = some (.lst vs) ∧ RpL K H L ds vs := fun r => by
    cases r with
    | lst h n rl => exact ⟨_, h, rl⟩
  exact ⟨⟨fun i H L q => itb_list.go i H L (un q), fun i H L q => itb_list.stop i H L (un q), fun i H L x H' q => itb_list.yld i H L x H' (un q), fun H L H' L' q sm l => (q.lives l).mono sm⟩, fun H L H' L' q ev => ev _ _ q⟩
theorem its_tup {K : PySem.W.Frag} {ds : List D} {a : Addr} : ItS K ds (Itt K a) (fun H L => Rp K H L (.tuple ds) (.ref a)) := by
  have un : ∀ {H : Hp} {L : Ad}, Rp K H L (.tuple ds) (.ref a) → ∃ vs, H a = some (.tup vs) ∧ RpL K H L ds vs := fun r => by
    cases r with
    | tup h rl => exact ⟨_, h, rl⟩
  exact ⟨⟨fun i H L q => itb_tup.go i H L (un q), fun i H L q => itb_tup.stop i H L (un q), fun i H L x H' q => itb_tup.yld i H L x H' (un q), fun H L H' L' q sm l => (q.lives l).mono sm⟩, fun H L H' L' q ev => ev _ _ q⟩
theorem sis_seq (ha : SE X W e f) : SIS X W tg e (iSeq f) := ⟨fun pn s σ H R I ⟨L, ρ, re, p⟩ => by
  unfold iSeq Rs.items at p
  match hf : f ρ with
  | .bad => rw [hf] at p; exact p.elim
  | .exc c fs =>
    rw [hf] at p
    refine (pi_list ha).run pn s σ H R I ⟨L, ρ, re, ?_⟩
    rw [hf]
    exact p
  | .ok (.list ds) =>
    rw [hf] at p
    refine (pi_list ha).run pn s σ H R I ⟨L, ρ, re, ?_⟩
    rw [hf]
    intro H1 v s1 r
    obtain ⟨b, vs, ev, hb, _⟩ := r.rb.lstV
    subst ev
    exact ⟨b, rfl, ⟨vs, SqL.of hb⟩, p _ _ H1 s1 its_lst r⟩
  | .ok (.tuple ds) =>
    rw [hf] at p
    refine (pi_tup ha).run pn s σ H R I ⟨L, ρ, re, ?_⟩
    rw [hf]
    intro H1 v s1 r
    obtain ⟨b, vs, ev, hb, _⟩ := r.tupV
    subst ev
    exact ⟨b, rfl, ⟨vs, SqT.of hb⟩, p _ _ H1 s1 its_tup r⟩
  | .ok (.str z) =>
    rw [hf] at p
    refine (pi_str ha).run pn s σ H R I ⟨L, ρ, re, ?_⟩
    rw [hf]
    exact fun H1 v s1 r => ⟨z, r.strV, p _ _ H1 s1 ⟨itb_str, fun _ _ _ _ _ _ => trivial⟩ trivial⟩
  | .ok .none => rw [hf] at p; exact p.elim
  | .ok (.bool _) => rw [hf] at p; exact p.elim
  | .ok (.int _) => rw [hf] at p; exact p.elim
  | .ok (.dict _) => rw [hf] at p; exact p.elim⟩
/-! range -/
def rangeD (lo : Int) (n : Nat) : List D := (List.range n).map fun (i : Nat) => PyData.int (lo + (i : Int))
def smallI (i : Int) : Bool := decide (-(2 ^ 62) ≤ i) && decide (i < 2 ^ 62)
def rng1 : List D → Option (List D)
  | [.int j] => if smallI j = true then some (rangeD 0 j.toNat) else none
  | _ => none
def rng2 : List D → Option (List D)
  | [.int i, .int j] => if (smallI i && smallI j) = true then some (rangeD i (j - i).toNat) else none
  | _ => none
def RL.items (r : RL) (fn : List D → Option (List D)) : RL := match r with
  | .ok d => (match fn d with
    | some ds => .ok ds
    | none => .bad)
  | .exc c fs => .exc c fs
  | .bad => .bad
def iRange1 (fs : List EF) : IF := fun ρ => (evA fs ρ).items rng1
def iRange2 (fs : List EF) : IF := fun ρ => (evA fs ρ).items rng2
theorem its_range {K : PySem.W.Frag} {lo : Int} {n : Nat} : ItS K (rangeD lo n) (Itr lo n) (fun _ _ => True) where
  go := fun i H L _ hi => show i < n by simpa [rangeD] using hi
  stop := fun i H L _ hi => show n ≤ i by simpa [rangeD] using hi
  yld := fun i H L x H' _ ⟨e, e2⟩ => by
    subst e e2
    refine ⟨Same.refl _, fun d hd => ?_⟩
    unfold rangeD at hd
    rw [List.getElem?_map] at hd
    by_cases hi : i < n
    · rw [List.getElem?_range hi] at hd
      cases hd
      exact .int _
    · rw [List.getElem?_eq_none (by simpa using hi)] at hd
      cases hd
  keep := fun H L H' L' _ s l => trivial
  evo := fun H L H' L' _ ev => trivial
theorem rng1_eq {ds es : List D} (h : rng1 ds = some es) : ∃ j : Int, ds = [.int j] ∧ -(2 ^ 62) ≤ j ∧ j < 2 ^ 62 ∧ es = rangeD 0 j.toNat := by
  unfold rng1 at h
  split at h
  · split at h
    · cases h
      rename_i hz
      simp only [smallI, Bool.and_eq_true, decide_eq_true_eq] at hz
      exact ⟨_, rfl, hz.1, hz.2, rfl⟩
    · cases h
  · cases h
theorem rng2_eq {ds es : List D} (h : rng2 ds = some es) : ∃ i j : Int, ds = [.int i, .int j] ∧ (-(2 ^ 62) ≤ i ∧ i < 2 ^ 62 ∧ -(2 ^ 62) ≤ j ∧ j < 2 ^ 62) ∧ es = rangeD i (j - i).toNat := by
  unfold rng2 at h
  split at h
  · split at h
    · cases h
      rename_i hz
      simp only [smallI, Bool.and_eq_true, decide_eq_true_eq] at hz
      exact ⟨_, _, rfl, ⟨hz.1.1, hz.1.2, hz.2.1, hz.2.2⟩, rfl⟩
    · cases h
  · cases h
theorem tI_range1 {K : PySem.W.Frag} {fs : List EF} : ∀ σ H R, tI K W (iRange1 fs) σ H R → iRng1 (tBA K W fs) σ H R := fun σ H R ⟨L, ρ, re, p⟩ => by
  refine ⟨L, ρ, re, ?_⟩
  unfold iRange1 RL.items at p
  cases hf : evA fs ρ with
  | bad => rw [hf] at p; exact p
  | exc c fs => rw [hf] at p; exact p
  | ok ds =>
    rw [hf] at p
    intro H1 vs s1 r
    cases hq : rng1 ds with
    | none => simp only [hq] at p; exact p.elim
    | some es =>
      simp only [hq] at p
      obtain ⟨j, rfl, h1, h2, rfl⟩ := rng1_eq hq
      obtain ⟨v, rfl, rv⟩ := r.one
      obtain rfl := rv.intV
      exact ⟨_, rfl, h1, h2, p _ _ H1 s1 its_range.toItB trivial⟩
theorem tI_range2 {K : PySem.W.Frag} {fs : List EF} : ∀ σ H R, tI K W (iRange2 fs) σ H R → iRng2 (tBA K W fs) σ H R := fun σ H R ⟨L, ρ, re, p⟩ => by
  refine ⟨L, ρ, re, ?_⟩
  unfold iRange2 RL.items at p
  cases hf : evA fs ρ with
  | bad => rw [hf] at p; exact p
  | exc c fs => rw [hf] at p; exact p
  | ok ds =>
    rw [hf] at p
    intro H1 vs s1 r
    cases hq : rng2 ds with
    | none => simp only [hq] at p; exact p.elim
    | some es =>
      simp only [hq] at p
      obtain ⟨i, j, rfl, h1, rfl⟩ := rng2_eq hq
      obtain ⟨v, w, rfl, rv, rw'⟩ := r.two
      obtain rfl := rv.intV
      obtain rfl := rw'.intV
      exact ⟨_, _, rfl, h1, p _ _ H1 s1 its_range.toItB trivial⟩
theorem tIS_range1 {K : PySem.W.Frag} {fs : List EF} : ∀ σ H R, tIS K W (iRange1 fs) σ H R → iRng1 (tBA K W fs) σ H R := fun σ H R ⟨L, ρ, re, p⟩ => by
  refine ⟨L, ρ, re, ?_⟩
  unfold iRange1 RL.items at p
  cases hf : evA fs ρ with
  | bad => rw [hf] at p; exact p
  | exc c fs => rw [hf] at p; exact p
  | ok ds =>
    rw [hf] at p
    intro H1 vs s1 r
    cases hq : rng1 ds with
    | none => simp only [hq] at p; exact p.elim
    | some es =>
      simp only [hq] at p
      obtain ⟨j, rfl, h1, h2, rfl⟩ := rng1_eq hq
      obtain ⟨v, rfl, rv⟩ := r.one
      obtain rfl := rv.intV
      exact ⟨_, rfl, h1, h2, p _ _ H1 s1 its_range trivial⟩
theorem tIS_range2 {K : PySem.W.Frag} {fs : List EF} : ∀ σ H R, tIS K W (iRange2 fs) σ H R → iRng2 (tBA K W fs) σ H R := fun σ H R ⟨L, ρ, re, p⟩ => by
  refine ⟨L, ρ, re, ?_⟩
  unfold iRange2 RL.items at p
  cases hf : evA fs ρ with
  | bad => rw [hf] at p; exact p
  | exc c fs => rw [hf] at p; exact p
  | ok ds =>
    rw [hf] at p
    intro H1 vs s1 r
    cases hq : rng2 ds with
    | none => simp only [hq] at p; exact p.elim
    | some es =>
      simp only [hq] at p
      obtain ⟨i, j, rfl, h1, rfl⟩ := rng2_eq hq
      obtain ⟨v, w, rfl, rv, rw'⟩ := r.two
      obtain rfl := rv.intV
      obtain rfl := rw'.intV
      exact ⟨_, _, rfl, h1, p _ _ H1 s1 its_range trivial⟩
theorem si_range1 {f : EF} (hm : X.mg "range" = none) (ha : SBA X W [a] [f]) (hg : Gl X "range" := by rfl) (hs : starEach [a] X.env = [(false, eval a X.env)] := by rfl) : SI X W tg (.Call (.Name "range" p) [a] [] pos) (iRange1 [f]) := (pi_range1 hg hm ha hs).weak tI_range1
theorem sis_range1 {f : EF} (hm : X.mg "range" = none) (ha : SBA X W [a] [f]) (hg : Gl X "range" := by rfl) (hs : starEach [a] X.env = [(false, eval a X.env)] := by rfl) : SIS X W tg (.Call (.Name "range" p) [a] [] pos) (iRange1 [f]) := (pi_range1 hg hm ha hs).weak tIS_range1
theorem si_range2 {fs : List EF} (hm : X.mg "range" = none) (ha : SBA X W [a, b] fs) (hg : Gl X "range" := by rfl) (hs : starEach [a, b] X.env = [(false, eval a X.env), (false, eval b X.env)] := by rfl) (hs2 : starEach [b] X.env = [(false, eval b X.env)] := by rfl) :
    SI X W tg (.Call (.Name "range" p) [a, b] [] pos) (iRange2 fs) := (pi_range2 hg hm ha hs hs2).weak tI_range2
theorem sis_range2 {fs : List EF} (hm : X.mg "range" = none) (ha : SBA X W [a, b] fs) (hg : Gl X "range" := by rfl) (hs : starEach [a, b] X.env = [(false, eval a X.env), (false, eval b X.env)] := by rfl) (hs2 : starEach [b] X.env = [(false, eval b X.env)] := by rfl) :
    SIS X W tg (.Call (.Name "range" p) [a, b] [] pos) (iRange2 fs) := (pi_range2 hg hm ha hs hs2).weak tIS_range2
end

/-! ### targets -/
inductive Tg where
  | nm (i : Nat)
  | tp (ts : List Tg)
mutual
def gT (K : PySem.W.Frag) : Tg → TG
  | .nm i => gName i
  | .tp ts => gTup K ts.length (gTs K ts)
def gTs (K : PySem.W.Frag) : List Tg → TGs
  | [] => gNil
  | t :: ts => gCons (gT K t) (gTs K ts)
end
mutual
def bindT : Tg → D → En → Option En
  | .nm i, d, ρ => some (ρ.set i (some (.val d)))
  | .tp ts, .tuple ds, ρ => bindTs ts ds ρ
  | .tp _, _, _ => none
def bindTs : List Tg → List D → En → Option En
  | [], [], ρ => some ρ
  | t :: ts, d :: ds, ρ => (bindT t d ρ).bind fun ρ => bindTs ts ds ρ
  | _, _, _ => none
end
mutual
def slotsT : Tg → List Nat
  | .nm i => [i]
  | .tp ts => slotsTs ts
def slotsTs : List Tg → List Nat
  | [] => []
  | t :: ts => slotsT t ++ slotsTs ts
end
theorem RE.set {K : PySem.W.Frag} {H : Hp} {L : Ad} {ρ : En} {σ : St} {i : Nat} {d : D} {v : V} (re : RE K H L ρ σ) (r : Rp K H L d v) : RE K H L (ρ.set i (some (.val d))) (σ.set i (some v)) := by
  have hl := re.len
  refine ⟨re.lv, by simp [hl], fun j x e => ?_⟩
  by_cases hj : i = j
  · subst hj
    by_cases hi : i < ρ.length
    · rw [List.getElem?_set_self hi] at e
      cases e
      exact ⟨_, List.getElem?_set_self (by rw [← hl]; exact hi), v, rfl, r⟩
    · rw [List.getElem?_eq_none (by simpa using hi)] at e
      cases e
  · rw [List.getElem?_set_ne hj] at e
    obtain ⟨o, e1, q⟩ := re.sl j x e
    exact ⟨o, by rw [List.getElem?_set_ne hj]; exact e1, q⟩
/-- the slots that change, and only they -/
structure Ch (is : List Nat) (ρ ρ1 : En) (σ σ1 : St) : Prop where
  lr : ρ1.length = ρ.length
  ls : σ1.length = σ.length
  r : ∀ j, j ∉ is → ρ1[j]? = ρ[j]?
  s : ∀ j, j ∉ is → σ1[j]? = σ[j]?
  v : ∀ j, j ∈ is → ∀ d, ρ1[j]? ≠ some (some (.own d))
mutual
theorem gT_of {K : PySem.W.Frag} {H : Hp} {L : Ad} : ∀ {t : Tg} {d : D} {v : V} {ρ ρ1 : En} {σ : St} {Q : St → Hp → Prop}, RE K H L ρ σ → Rp K H L d v → bindT t d ρ = some ρ1 →
    (∀ σ1, RE K H L ρ1 σ1 → Ch (slotsT t) ρ ρ1 σ σ1 → Q σ1 H) → gT K t v σ H Q
  | .nm i, d, v, ρ, ρ1, σ, Q, re, r, hb, k => by
    simp only [bindT, Option.some.injEq] at hb
    subst hb
    refine k _ (re.set r) ⟨by simp, by simp, fun j hj => ?_, fun j hj => ?_, fun j hj d' z => ?_⟩
    · exact List.getElem?_set_ne (fun e => hj (by simp [slotsT, e]))
    · exact List.getElem?_set_ne (fun e => hj (by simp [slotsT, e]))
    · have e : j = i := by simpa [slotsT] using hj
      subst e
      by_cases hi : j < ρ.length
      · rw [List.getElem?_set_self hi] at z
        cases z
      · rw [List.getElem?_eq_none (by simpa using hi)] at z
        cases z
  | .tp ts, .tuple ds, v, ρ, ρ1, σ, Q, re, r, hb, k => by
    obtain ⟨a, vs, rfl, ha, rl⟩ := r.tupV
    simp only [bindT] at hb
    obtain ⟨e1, q⟩ := gTs_of (Q := Q) re rl hb k
    exact ⟨a, vs, rfl, SqT.of ha, e1, q⟩
  | .tp ts, .none, v, ρ, ρ1, σ, Q, re, r, hb, k => by simp [bindT] at hb
  | .tp ts, .bool _, v, ρ, ρ1, σ, Q, re, r, hb, k => by simp [bindT] at hb
  | .tp ts, .int _, v, ρ, ρ1, σ, Q, re, r, hb, k => by simp [bindT] at hb
  | .tp ts, .str _, v, ρ, ρ1, σ, Q, re, r, hb, k => by simp [bindT] at hb
  | .tp ts, .list _, v, ρ, ρ1, σ, Q, re, r, hb, k => by simp [bindT] at hb
  | .tp ts, .dict _, v, ρ, ρ1, σ, Q, re, r, hb, k => by simp [bindT] at hb
theorem gTs_of {K : PySem.W.Frag} {H : Hp} {L : Ad} : ∀ {ts : List Tg} {ds : List D} {vs : List V} {ρ ρ1 : En} {σ : St} {Q : St → Hp → Prop}, RE K H L ρ σ → RpL K H L ds vs → bindTs ts ds ρ = some ρ1 →
    (∀ σ1, RE K H L ρ1 σ1 → Ch (slotsTs ts) ρ ρ1 σ σ1 → Q σ1 H) → vs.length = ts.length ∧ gTs K ts vs σ H Q
  | [], [], vs, ρ, ρ1, σ, Q, re, r, hb, k => by
    cases r
    simp only [bindTs, Option.some.injEq] at hb
    subst hb
    exact ⟨rfl, rfl, k σ re ⟨rfl, rfl, fun _ _ => rfl, fun _ _ => rfl, fun j hj => by simp [slotsTs] at hj⟩⟩
  | t :: ts, d :: ds, vs, ρ, ρ1, σ, Q, re, r, hb, k => by
    cases r with
    | cons r1 rl =>
      rename_i v vs
      simp only [bindTs] at hb
      obtain ⟨ρ2, e2, hb⟩ := Option.bind_eq_some_iff.mp hb
      have hlen : vs.length = ts.length := by
        have aux : ∀ (ts : List Tg) (ds : List D) (ρ ρ1 : En), bindTs ts ds ρ = some ρ1 → ds.length = ts.length := by
          intro ts
          induction ts with
          | nil => intro ds ρ ρ1 h; cases ds with
            | nil => rfl
            | cons _ _ => simp [bindTs] at h
          | cons t ts ih =>
            intro ds ρ ρ1 h
            cases ds with
            | nil => simp [bindTs] at h
            | cons d ds =>
              simp only [bindTs] at h
              obtain ⟨ρ2, _, h⟩ := Option.bind_eq_some_iff.mp h
              simp [ih ds ρ2 ρ1 h]
        rw [← rl.length]
        exact aux ts ds ρ2 ρ1 hb
      refine ⟨by simp [hlen], v, vs, rfl, gT_of re r1 e2 fun σ1 re1 c1 => ?_⟩
      refine (gTs_of re1 rl hb fun σ2 re2 c2 => k σ2 re2 ?_).2
      refine ⟨c2.lr.trans c1.lr, c2.ls.trans c1.ls, fun j hj => ?_, fun j hj => ?_, fun j hj d' => ?_⟩
      · rw [slotsTs, List.mem_append, not_or] at hj
        rw [c2.r j hj.2, c1.r j hj.1]
      · rw [slotsTs, List.mem_append, not_or] at hj
        rw [c2.s j hj.2, c1.s j hj.1]
      · by_cases h2 : j ∈ slotsTs ts
        · exact c2.v j h2 d'
        · rw [c2.r j h2]
          rw [slotsTs, List.mem_append] at hj
          exact c1.v j (hj.resolve_right h2) d'
  | [], d :: ds, vs, ρ, ρ1, σ, Q, re, r, hb, k => by simp [bindTs] at hb
  | t :: ts, [], vs, ρ, ρ1, σ, Q, re, r, hb, k => by simp [bindTs] at hb
end
end VV

set_option Elab.async false
set_option linter.all false
set_option maxRecDepth 100000
set_option maxHeartbeats 4000000
/-! VVh: comprehensions. -/
namespace VV
open PySem PySem.Spec L2
open PyProof.Rows hiding St

abbrev WF : WX := fun _ _ _ _ => False
def wipeE (ρ : En) : List Nat → En
  | [] => ρ
  | v :: vs => (wipeE ρ vs).set v none
theorem wipeE_length (ρ : En) : ∀ vs : List Nat, (wipeE ρ vs).length = ρ.length
  | [] => rfl
  | v :: vs => by unfold wipeE; rw [List.length_set, wipeE_length ρ vs]
theorem wipeE_get (ρ : En) (i : Nat) : ∀ vs : List Nat, i ∉ vs → (wipeE ρ vs)[i]? = ρ[i]?
  | [], _ => rfl
  | v :: vs, hn => by
    have hv : v ≠ i := fun z => hn (z ▸ List.mem_cons_self ..)
    show ((wipeE ρ vs).set v none)[i]? = _
    rw [List.getElem?_set_ne hv, wipeE_get ρ i vs fun z => hn (List.mem_cons_of_mem _ z)]
theorem wipeE_gone (ρ : En) (i : Nat) (x : Sl) : ∀ vs : List Nat, i ∈ vs → (wipeE ρ vs)[i]? ≠ some (some x)
  | v :: vs, hm, he => by
    have he' : ((wipeE ρ vs).set v none)[i]? = some (some x) := he
    rw [List.getElem?_set] at he'
    split at he'
    · split at he' <;> cases he'
    · rename_i hne
      exact wipeE_gone ρ i x vs ((List.mem_cons.mp hm).resolve_left fun z => hne z.symm) he'
theorem wipeE_some {ρ : En} {i : Nat} {x : Sl} {vs : List Nat} (he : (wipeE ρ vs)[i]? = some (some x)) : ρ[i]? = some (some x) ∧ i ∉ vs := by
  have hn : i ∉ vs := fun z => wipeE_gone ρ i x vs z he
  exact ⟨(wipeE_get ρ i vs hn) ▸ he, hn⟩
theorem wipe_at {σ : St} {i : Nat} : ∀ {vs : List Nat}, i ∉ vs → (wipe σ vs)[i]? = σ[i]?
  | [], _ => rfl
  | v :: vs, h => by
    simp only [List.mem_cons, not_or] at h
    unfold wipe
    rw [List.getElem?_set_ne (Ne.symm h.1)]
    exact wipe_at h.2
theorem wipe_in {σ : St} {i : Nat} (hi : i < σ.length) : ∀ {vs : List Nat}, i ∈ vs → (wipe σ vs)[i]? = some none
  | v :: vs, h => by
    unfold wipe
    by_cases e : v = i
    · subst e
      exact List.getElem?_set_self (by rw [wipe_length]; exact hi)
    · rw [List.getElem?_set_ne e]
      exact wipe_in hi ((List.mem_cons.mp h).resolve_left (Ne.symm e))
theorem wipe_eq {σ σ1 : St} {vs : List Nat} (hl : σ1.length = σ.length) (h : ∀ j, j ∉ vs → σ1[j]? = σ[j]?) : wipe σ1 vs = wipe σ vs := by
  apply List.ext_getElem?
  intro i
  by_cases hi : i ∈ vs
  · by_cases hlt : i < σ.length
    · rw [wipe_in hlt hi, wipe_in (by rw [hl]; exact hlt) hi]
    · rw [List.getElem?_eq_none (by rw [wipe_length]; omega), List.getElem?_eq_none (by rw [wipe_length]; omega)]
  · rw [wipe_at hi, wipe_at hi, h i hi]
theorem wipe_twice {σ : St} {vs : List Nat} : wipe (wipe σ vs) vs = wipe σ vs := wipe_eq (wipe_length _ _) fun j hj => wipe_at hj
theorem RE.wipe {K : PySem.W.Frag} {H : Hp} {L : Ad} {ρ : En} {σ : St} (vs : List Nat) (re : RE K H L ρ σ) : RE K H L (wipeE ρ vs) (L2.wipe σ vs) := by
  refine ⟨re.lv, by rw [wipeE_length, wipe_length]; exact re.len, fun i x e => ?_⟩
  obtain ⟨h1, h2⟩ := wipeE_some e
  obtain ⟨o, e1, r⟩ := re.sl i x h1
  exact ⟨o, by rw [wipe_at h2]; exact e1, r⟩
/-- one item -/
def lcOne (t : Tg) (c e : EF) (ρ : En) (d : D) (k : RL) : RL := match bindT t d ρ with
  | none => .bad
  | some ρ1 => match c ρ1 with
    | .ok (.bool true) => (match e ρ1 with
      | .ok y => RL.cons (.ok y) k
      | _ => .bad)
    | .ok (.bool false) => k
    | _ => .bad
def lcGo (t : Tg) (c e : EF) (ρ : En) : List D → RL
  | [] => .ok []
  | d :: ds => lcOne t c e ρ d (lcGo t c e ρ ds)
def eLc (vs : List Nat) (fi : IF) (t : Tg) (c e : EF) : EF := fun ρ => (fi ρ).bind fun ds => (lcGo t c e (wipeE ρ vs) ds).bind lstR
theorem lcOne_ok {t : Tg} {c e : EF} {ρ : En} {d : D} {k : RL} {rs : List D} (h : lcOne t c e ρ d k = .ok rs) :
    ∃ ρ1, bindT t d ρ = some ρ1 ∧ ((c ρ1 = .ok (.bool true) ∧ ∃ y r, e ρ1 = .ok y ∧ k = .ok r ∧ rs = y :: r) ∨ (c ρ1 = .ok (.bool false) ∧ k = .ok rs)) := by
  unfold lcOne at h
  cases hb : bindT t d ρ with
  | none => exact absurd h (by rw [hb]; simp)
  | some ρ1 =>
    rw [hb] at h
    refine ⟨ρ1, rfl, ?_⟩
    cases hc : c ρ1 with
    | bad => simp only [hc] at h; cases h
    | exc c fs => simp only [hc] at h; cases h
    | ok b =>
      simp only [hc] at h
      cases b with
      | bool b =>
        cases b with
        | true =>
          cases he : e ρ1 with
          | bad => simp only [he] at h; cases h
          | exc c fs => simp only [he] at h; cases h
          | ok y =>
            simp only [he] at h
            cases k with
            | bad => cases h
            | exc c fs => cases h
            | ok r => cases h; exact .inl ⟨rfl, y, r, rfl, rfl, rfl⟩
        | false => exact .inr ⟨rfl, h⟩
      | _ => cases h
abbrev STs (X : Cx) (ifs : List Expr) (c : EF) : Prop := PTs X ifs (tT X.K WF c)
section
variable {X : Cx} {W : WX}
theorem sts_nil : STs X [] (eC (.bool true)) := ⟨fun pins s σ H Q I ⟨L, ρ, re, p⟩ => pts_nil.run pins s σ H Q I (p H (Same.refl H))⟩
theorem sts_one {c : Expr} {f : EF} (h : ST X WF c f) : STs X [c] f := pts_one h
/-- the loop of a comprehension: from H1 on, D new -/
theorem lc_loop {K : PySem.W.Frag} {L : Ad} {σ : St} {ρ : En} {H1 : Hp} {J : It} {S : Hp → Ad → Prop} {ds rs : List VV.D} {t : Tg} {c e : EF} {vs : List Nat} {Q : VK} (re : RE K H1 L ρ σ) (it : ItB K ds J S) (hS : S H1 L)
    (hsl : ∀ i ∈ slotsT t, i ∈ vs) (hgo : lcGo t c e (wipeE ρ vs) ds = .ok rs) (hz : rs.length ≤ sizeLine) (hQ : ∀ D H, H1 D = none → Same H1 H → Ow K H (Lp L D) (.list rs) D → Q (.ref D) H) :
    tLc (fun _ _ R => R J H1) (gT K t) (tT K WF c) (tE K WF e) vs σ H1 Q := by
  intro D hD
  let L' : Ad := Lp L D
  have hL' : ∀ a, L' a → L a ∨ H1 a = none := fun a z => z.elim .inl fun q => by subst q; exact .inr hD
  have sD : ∀ {H : Hp} {o : HO}, Same H1 H → Same H1 (upd H D o) := fun {H o} s b u q => by
    rw [upd_ne (ne_of_none q hD)]
    exact s b u q
  -- what holds between two turns
  let Iv : Nat → Hp → Prop := fun i H => i ≤ ds.length ∧ Same H1 H ∧ ∃ (acc : List V) (racc rest : List VV.D), H D = some (.lst acc) ∧ RpL K H L' racc acc ∧ lcGo t c e (wipeE ρ vs) (ds.drop i) = .ok rest ∧ racc ++ rest = rs
  refine ⟨fun i m H => m = ds.length - i ∧ Iv i H, ⟨ds.length, by simp, Nat.zero_le _, sD (Same.refl H1), [], [], rs, upd_same, .nil, hgo, rfl⟩, ?_⟩
  rintro i m H ⟨rfl, hi, s1, acc, racc, rest, hacc, racc', hrest, htot⟩
  have hSn : S H L' := it.keep H1 L H L' hS s1 hL'
  have lv' : LvOk H L' := fun a z => z.elim (fun q => re.lv.mono s1 a q) fun q => by subst q; rw [hacc]; simp
  have reH : RE K H L' ρ σ := by
    have r0 : RE K H L ρ σ := re.mono s1
    refine ⟨lv', r0.len, fun j x q => ?_⟩
    obtain ⟨o, e1, r⟩ := re.sl j x q
    exact ⟨o, e1, (r.lives (L' := L') hL').mono s1⟩
  by_cases hlt : i < ds.length
  · refine .inr ⟨it.go i H L' hSn hlt, Iv (i + 1), fun H' p' => ⟨ds.length - (i + 1), by omega, rfl, p'⟩, fun x H' y => ?_⟩
    obtain ⟨s2, hx⟩ := it.yld i H L' x H' hSn y
    have hdrop : ds.drop i = ds[i] :: ds.drop (i + 1) := List.drop_eq_getElem_cons hlt
    have rx := hx ds[i] (by simp [hlt])
    rw [hdrop] at hrest
    obtain ⟨ρ1, hb, hcase⟩ := lcOne_ok hrest
    refine gT_of ((reH.mono s2).wipe vs) rx hb fun σ1 re1 ch => ?_
    refine ⟨?_, L', ρ1, re1, ?_⟩
    · rw [← wipe_twice (σ := σ)]
      exact wipe_eq ch.ls fun j hj => ch.s j fun q => hj (hsl j q)
    · rcases hcase with ⟨hc, y, r, he, hk, hr⟩ | ⟨hc, hk⟩
      · rw [hc]
        intro H3 s3
        rw [if_pos rfl]
        refine ⟨L', ρ1, re1.mono s3, ?_⟩
        rw [he]
        intro H4 v s4 rv
        have s24 : Same H H4 := s2.trans (s3.trans s4)
        have hD4 : H4 D = some (.lst acc) := s24 _ _ hacc
        have la : acc.length = racc.length := racc'.length.symm
        subst hr
        refine ⟨acc, hD4, ?_, hlt, sD (s1.trans s24), acc ++ [v], racc ++ [y], r, upd_same, ?_, hk, by rw [← htot]; simp⟩
        · rw [la]
          have := congrArg List.length htot
          simp only [List.length_append, List.length_cons] at this
          omega
        · exact RpL.upd hD4 trivial (.inr rfl) ((racc'.mono s24).append (.cons rv .nil))
      · rw [hc]
        intro H3 s3
        rw [if_neg (by decide)]
        have s23 : Same H H3 := s2.trans s3
        exact ⟨hlt, s1.trans s23, acc, racc, rest, s23 _ _ hacc, racc'.mono s23, hk, htot⟩
  · have e : i = ds.length := by omega
    subst e
    rw [List.drop_length] at hrest
    cases hrest
    rw [List.append_nil] at htot
    subst htot
    exact .inl ⟨it.stop _ H L' hSn (Nat.le_refl _), hQ D H hD s1 (.lst hacc racc')⟩
theorem tLc_of {K : PySem.W.Frag} {fi : IF} {t : Tg} {c e : EF} {vs : List Nat} (hsl : ∀ i ∈ slotsT t, i ∈ vs) : ∀ σ H Q, tN K W (eLc vs fi t c e) σ H Q → tLc (tI K W fi) (gT K t) (tT K WF c) (tE K WF e) vs σ H Q := fun σ H Q ⟨L, ρ, re, p⟩ => by
  refine ⟨L, ρ, re, ?_⟩
  unfold eLc at p
  cases hf : fi ρ with
  | bad => rw [hf] at p; exact p
  | exc c fs => rw [hf] at p; exact p
  | ok ds =>
    rw [hf] at p
    simp only [RL.bind_ok] at p
    cases hg : lcGo t c e (wipeE ρ vs) ds with
    | bad => rw [hg] at p; exact p.elim
    | exc c' fs =>
      have aux : ∀ ds : List D, ∀ c' fs, lcGo t c e (wipeE ρ vs) ds ≠ .exc c' fs := by
        intro ds
        induction ds with
        | nil => intro c' fs h; cases h
        | cons d ds ih =>
          intro c' fs h
          simp only [lcGo] at h
          unfold lcOne at h
          cases hb : bindT t d (wipeE ρ vs) with
          | none => exact absurd h (by rw [hb]; simp)
          | some ρ1 =>
            rw [hb] at h
            cases hc : c ρ1 with
            | bad => simp only [hc] at h; cases h
            | exc c fs => simp only [hc] at h; cases h
            | ok b =>
              simp only [hc] at h
              cases b with
              | bool b =>
                cases b with
                | true =>
                  cases he : e ρ1 with
                  | bad => simp only [he] at h; cases h
                  | exc c fs => simp only [he] at h; cases h
                  | ok y =>
                    simp only [he] at h
                    cases hk : lcGo t c e (wipeE ρ vs) ds with
                    | bad => rw [hk] at h; cases h
                    | exc c' fs' => exact ih _ _ hk
                    | ok r => rw [hk] at h; cases h
                | false => exact ih _ _ h
              | _ => cases h
      exact (aux _ _ _ hg).elim
    | ok rs =>
      rw [hg] at p
      simp only [RL.bind_ok] at p
      unfold lstR at p
      split at p
      · rename_i hz
        intro J S H1 s1 it hS
        exact lc_loop (re.mono s1) it hS hsl hg hz fun D H' hD s' ow => p H' D (s1.trans s') (s1.free hD) ow
      · exact p.elim
theorem sn_lc {elt tg iter : Expr} {ifs : List Expr} {scope : Scope} {own : List (Str × Nat)} {pos : Pos} {fi : IF} {t : Tg} {c e : EF} (hN : X.N.Nodup) (hi : SI X W tg iter fi) (ok : BlkOk X.N X.env.scope scope own)
    (hg : ∀ (s : Shared) (H : Hp) (C : Addr) (cl : List (Str × Addr)) (fp : List Addr), PG (X.blk s H scope (compEnvC scope cl C X.env) fp) tg (gT X.K t)) (ht : ∀ (s : Shared) (H : Hp) (C : Addr) (cl : List (Str × Addr)) (fp : List Addr), STs (X.blk s H scope (compEnvC scope cl C X.env) fp) ifs c)
    (he : ∀ (s : Shared) (H : Hp) (C : Addr) (cl : List (Str × Addr)) (fp : List Addr), SE (X.blk s H scope (compEnvC scope cl C X.env) fp) WF elt e) (hsl : ∀ i ∈ slotsT t, i ∈ own.map (·.2) := by decide) (hc : X.calm = true := by rfl) (hs : ∀ x, foldedSetIterable iter X.env x = pure x := by intro _; rfl) :
    SN X W (.ListComp elt [⟨tg, iter, ifs, 0⟩] scope pos) (eLc (own.map (·.2)) fi t c e) := (pe_lc hc hN hi ok hg ht he hs).weak (tLc_of hsl)
end
end VV

set_option Elab.async false
set_option linter.all false
set_option maxRecDepth 100000
set_option maxHeartbeats 4000000
/-! VVi: statements. -/
namespace VV
open PySem PySem.Spec L2
open PyProof.Rows hiding St

/-! ### the frame: its slots, the lists and dicts that it alone holds (α: slot to address); H0, Lo: the heap at the entry and what others hold -/
def Lv (Lo : Ad) (α : Nat → Option Addr) : Ad := fun a => Lo a ∨ ∃ i, α i = some a
structure RSt (K : PySem.W.Frag) (H0 : Hp) (Lo : Ad) (ρ : En) (α : Nat → Option Addr) (σ : St) (H : Hp) : Prop where
  re : RE K H (Lv Lo α) ρ σ
  same : Same H0 H
  lo : LvOk H0 Lo
  new : ∀ i a, α i = some a → H0 a = none
  inj : ∀ i j a, α i = some a → α j = some a → i = j
  own : ∀ i d, ρ[i]? = some (some (.own d)) → ∃ a, α i = some a ∧ σ[i]? = some (some (.ref a)) ∧ Ow K H (Lv Lo α) d a
def Evo (K : PySem.W.Frag) (Lo : Ad) (H : Hp) (α : Nat → Option Addr) (H' : Hp) (α' : Nat → Option Addr) : Prop := ∀ d v, Rp K H (Lv Lo α) d v → Rp K H' (Lv Lo α') d v
theorem Evo.refl {K : PySem.W.Frag} {Lo : Ad} {H : Hp} {α : Nat → Option Addr} : Evo K Lo H α H α := fun _ _ h => h
theorem Evo.trans {K : PySem.W.Frag} {Lo : Ad} {H H1 H2 : Hp} {α α1 α2 : Nat → Option Addr} (a : Evo K Lo H α H1 α1) (b : Evo K Lo H1 α1 H2 α2) : Evo K Lo H α H2 α2 := fun d v h => b d v (a d v h)
theorem Evo.of_same {K : PySem.W.Frag} {Lo : Ad} {H H' : Hp} {α : Nat → Option Addr} (s : Same H H') : Evo K Lo H α H' α := fun d v h => h.mono s
def rms (α : Nat → Option Addr) (is : List Nat) : Nat → Option Addr := fun j => if j ∈ is then none else α j
section
variable {K : PySem.W.Frag} {H0 H H' : Hp} {Lo : Ad} {ρ ρ1 : En} {α : Nat → Option Addr} {σ σ1 : St}
theorem rms_some {is : List Nat} {j : Nat} {a : Addr} (h : rms α is j = some a) : α j = some a ∧ j ∉ is := by
  unfold rms at h
  split at h
  · cases h
  · exact ⟨h, by assumption⟩
theorem Lv_rms {is : List Nat} (a : Addr) (h : Lv Lo (rms α is) a) : Lv Lo α a := h.elim .inl fun ⟨i, e⟩ => .inr ⟨i, (rms_some e).1⟩
theorem RSt.mono (h : RSt K H0 Lo ρ α σ H) (s : Same H H') : RSt K H0 Lo ρ α σ H' :=
  ⟨h.re.mono s, h.same.trans s, h.lo, h.new, h.inj, fun i d e => let ⟨a, e1, e2, o⟩ := h.own i d e; ⟨a, e1, e2, o.mono s⟩⟩
theorem Evo.rms (is : List Nat) : Evo K Lo H α H (rms α is) := fun d v h => h.lives fun a z => .inl (Lv_rms a z)
/-- slots take values -/
theorem RSt.ch {is : List Nat} (h : RSt K H0 Lo ρ α σ H) (re : RE K H (Lv Lo α) ρ1 σ1) (c : Ch is ρ ρ1 σ σ1) : RSt K H0 Lo ρ1 (VV.rms α is) σ1 H := by
  refine ⟨re.lives (fun a z => .inl (Lv_rms a z)) (fun a z => h.re.lv a (Lv_rms a z)), h.same, h.lo, fun i a e => h.new i a (rms_some e).1, fun i j a e1 e2 => h.inj i j a (rms_some e1).1 (rms_some e2).1, fun i d e => ?_⟩
  by_cases hi : i ∈ is
  · exact (c.v i hi d e).elim
  · rw [c.r i hi] at e
    obtain ⟨a, e1, e2, o⟩ := h.own i d e
    refine ⟨a, ?_, by rw [c.s i hi]; exact e2, o.lives fun a z => .inl (Lv_rms a z)⟩
    unfold VV.rms
    rw [if_neg hi]
    exact e1
theorem RSt.set {i : Nat} {d : D} {v : V} (h : RSt K H0 Lo ρ α σ H) (r : Rp K H (Lv Lo α) d v) : RSt K H0 Lo (ρ.set i (some (.val d))) (VV.rms α [i]) (σ.set i (some v)) H := by
  refine h.ch (h.re.set r) ⟨by simp, by simp, fun j hj => ?_, fun j hj => ?_, fun j hj d' z => ?_⟩
  · exact List.getElem?_set_ne (fun e => hj (by simp [e]))
  · exact List.getElem?_set_ne (fun e => hj (by simp [e]))
  · have e : j = i := by simpa using hj
    subst e
    by_cases hi : j < ρ.length
    · rw [List.getElem?_set_self hi] at z
      cases z
    · rw [List.getElem?_eq_none (by simpa using hi)] at z
      cases z
/-- a slot takes a new list or dict -/
theorem RSt.setOwn {i : Nat} {d : D} {a : Addr} {H1 : Hp} (h : RSt K H0 Lo ρ α σ H) (s : Same H H1) (n : H a = none) (o : Ow K H1 (Lp (Lv Lo α) a) d a) :
    RSt K H0 Lo (ρ.set i (some (.own d))) (fun j => if j = i then some a else α j) (σ.set i (some (.ref a))) H1 ∧ Evo K Lo H α H1 (fun j => if j = i then some a else α j) := by
  have na : ¬ Lv Lo α a := fun z => h.re.lv a z n
  have hL : ∀ z, Lv Lo (fun j => if j = i then some a else α j) z → Lp (Lv Lo α) a z := fun z q => by
    rcases q with q | ⟨j, q⟩
    · exact .inl (.inl q)
    · dsimp only at q
      split at q
      · cases q; exact .inr rfl
      · exact .inl (.inr ⟨j, q⟩)
  have hL2 : ∀ z, Lv Lo (fun j => if j = i then some a else α j) z → Lv Lo α z ∨ H z = none := fun z q => (hL z q).elim .inl fun e => by subst e; exact .inr n
  have ev : Evo K Lo H α H1 (fun j => if j = i then some a else α j) := fun d v r => (r.lives hL2).mono s
  have o' : Ow K H1 (Lv Lo (fun j => if j = i then some a else α j)) d a := o.lives fun z q => .inl (hL z q)
  have nn : H1 a ≠ none := by obtain ⟨ob, e, _⟩ := o.chg; rw [e]; simp
  refine ⟨⟨⟨fun z q => ?_, by simp [h.re.len], fun j x e => ?_⟩, h.same.trans s, h.lo, fun j z e => ?_, fun j l z e1 e2 => ?_, fun j d' e => ?_⟩, ev⟩
  · rcases hL z q with q | e
    · exact h.re.lv.mono s z q
    · subst e; exact nn
  · by_cases hj : i = j
    · subst hj
      by_cases hi : i < ρ.length
      · rw [List.getElem?_set_self hi] at e
        cases e
        exact ⟨_, List.getElem?_set_self (by rw [← h.re.len]; exact hi), a, rfl, o'⟩
      · rw [List.getElem?_eq_none (by simpa using hi)] at e
        cases e
    · rw [List.getElem?_set_ne hj] at e
      obtain ⟨ob, e1, r⟩ := h.re.sl j x e
      exact ⟨ob, by rw [List.getElem?_set_ne hj]; exact e1, (r.lives hL2).mono s⟩
  · split at e
    · cases e; exact h.same.free n
    · exact h.new j z e
  · split at e1
    · cases e1
      split at e2
      · rename_i x y; rw [x, y]
      · exact (na (.inr ⟨l, e2⟩)).elim
    · split at e2
      · cases e2; exact (na (.inr ⟨j, e1⟩)).elim
      · exact h.inj j l z e1 e2
  · by_cases hj : i = j
    · subst hj
      by_cases hi : i < ρ.length
      · rw [List.getElem?_set_self hi] at e
        cases e
        exact ⟨a, by simp, List.getElem?_set_self (by rw [← h.re.len]; exact hi), o'⟩
      · rw [List.getElem?_eq_none (by simpa using hi)] at e
        cases e
    · rw [List.getElem?_set_ne hj] at e
      obtain ⟨b, e1, e2, ob⟩ := h.own j d' e
      refine ⟨b, ?_, by rw [List.getElem?_set_ne hj]; exact e2, (ob.lives hL2).mono s⟩
      rw [if_neg (Ne.symm hj)]
      exact e1
/-- what a slot holds is changed -/
theorem RSt.write {i : Nat} {d d' : D} {a : Addr} {o' : HO} (h : RSt K H0 Lo ρ α σ H) (hi : ρ[i]? = some (some (.own d))) (ha : σ[i]? = some (some (.ref a))) (o : Ow K (upd H a o') (Lv Lo α) d' a) :
    RSt K H0 Lo (ρ.set i (some (.own d'))) α σ (upd H a o') ∧ Evo K Lo H α (upd H a o') α := by
  obtain ⟨b, e1, e2, ob⟩ := h.own i d hi
  have eb : b = a := by rw [ha] at e2; cases e2; rfl
  subst eb
  obtain ⟨oo, eo, ch⟩ := ob.chg
  have hL : Lv Lo α b := .inr ⟨i, e1⟩
  have hlt : i < ρ.length := by
    rcases Nat.lt_or_ge i ρ.length with q | q
    · exact q
    · rw [List.getElem?_eq_none q] at hi; cases hi
  refine ⟨⟨⟨fun z q => ?_, by simp [h.re.len], fun j x e => ?_⟩, fun c u q => ?_, h.lo, h.new, h.inj, fun j d2 e => ?_⟩, fun d v r => r.upd eo ch hL⟩
  · by_cases hz : z = b
    · subst hz; rw [upd_same]; simp
    · rw [upd_ne hz]; exact h.re.lv z q
  · by_cases hj : i = j
    · subst hj
      rw [List.getElem?_set_self hlt] at e
      cases e
      exact ⟨_, ha, b, rfl, o⟩
    · rw [List.getElem?_set_ne hj] at e
      obtain ⟨w, f1, r⟩ := h.re.sl j x e
      refine ⟨w, f1, ?_⟩
      cases x with
      | val d3 => obtain ⟨v, g1, g2⟩ := r; exact ⟨v, g1, g2.upd eo ch hL⟩
      | own d3 =>
        obtain ⟨c, g1, g2, g3⟩ := h.own j d3 e
        have nc : c ≠ b := fun z => by subst z; exact hj (h.inj i j c e1 g1)
        rw [f1] at g2
        cases g2
        exact ⟨c, rfl, g3.upd eo ch hL nc⟩
  · have nb : c ≠ b := fun z => by subst z; rw [h.new i c e1] at q; cases q
    rw [upd_ne nb]
    exact h.same c u q
  · by_cases hj : i = j
    · subst hj
      rw [List.getElem?_set_self hlt] at e
      cases e
      exact ⟨b, e1, ha, o⟩
    · rw [List.getElem?_set_ne hj] at e
      obtain ⟨c, g1, g2, g3⟩ := h.own j d2 e
      have nc : c ≠ b := fun z => by subst z; exact hj (h.inj i j c e1 g1)
      exact ⟨c, g1, g2, g3.upd eo ch hL nc⟩
/-- a slot's list is a value from now on -/
theorem RSt.frz {i : Nat} {d : D} (h : RSt K H0 Lo ρ α σ H) (hi : ρ[i]? = some (some (.own d))) : RSt K H0 Lo (ρ.set i (some (.val d))) (VV.rms α [i]) σ H := by
  obtain ⟨a, e1, e2, ob⟩ := h.own i d hi
  have hlt : i < ρ.length := by
    rcases Nat.lt_or_ge i ρ.length with q | q
    · exact q
    · rw [List.getElem?_eq_none q] at hi; cases hi
  have hL : ∀ z, Lv Lo (VV.rms α [i]) z → Lv Lo α z ∨ H z = none := fun z q => .inl (Lv_rms z q)
  have na : ¬ Lv Lo (VV.rms α [i]) a := fun z => by
    rcases z with z | ⟨j, z⟩
    · exact h.lo a z (h.new i a e1)
    · obtain ⟨z1, z2⟩ := rms_some z
      exact z2 (by simp [h.inj i j a e1 z1])
  refine ⟨⟨fun z q => h.re.lv z (Lv_rms z q), by simp [h.re.len], fun j x e => ?_⟩, h.same, h.lo, fun j z e => h.new j z (rms_some e).1, fun j l z f1 f2 => h.inj j l z (rms_some f1).1 (rms_some f2).1, fun j d2 e => ?_⟩
  · by_cases hj : i = j
    · subst hj
      rw [List.getElem?_set_self hlt] at e
      cases e
      exact ⟨_, e2, _, rfl, (ob.lives hL).rp na⟩
    · rw [List.getElem?_set_ne hj] at e
      obtain ⟨w, f1, r⟩ := h.re.sl j x e
      exact ⟨w, f1, r.lives hL⟩
  · by_cases hj : i = j
    · subst hj
      rw [List.getElem?_set_self hlt] at e
      cases e
    · rw [List.getElem?_set_ne hj] at e
      obtain ⟨c, g1, g2, g3⟩ := h.own j d2 e
      refine ⟨c, ?_, g2, g3.lives hL⟩
      unfold VV.rms
      rw [if_neg (by simp [Ne.symm hj])]
      exact g1
end
def PostS (K : PySem.W.Frag) (H0 : Hp) (Lo : Ad) (W : WX) (H : Hp) (α : Nat → Option Addr) (o : Out) (D : Ends) : Prop := match o with
  | .nx ρ' => ∀ α' σ' H', RSt K H0 Lo ρ' α' σ' H' → Evo K Lo H α H' α' → D.nx σ' H'
  | .rt d => ∀ H' v, Same H0 H' → Rp K H' Lo d v → D.rt v H'
  | .bk ρ' => ∀ α' σ' H', RSt K H0 Lo ρ' α' σ' H' → Evo K Lo H α H' α' → D.bk σ' H'
  | .ct ρ' => ∀ α' σ' H', RSt K H0 Lo ρ' α' σ' H' → Evo K Lo H α H' α' → D.ct σ' H'
  | .exc c fs ρ' => ∀ α' σ' H' x, RSt K H0 Lo ρ' α' σ' H' → Evo K Lo H α H' α' → XR K H' (Lv Lo α') fs x → W (.ref (He.ga K c)) x σ' H'
  | .bad => False
theorem PostS.evo {K : PySem.W.Frag} {H0 H H' : Hp} {Lo : Ad} {W : WX} {α α' : Nat → Option Addr} {o : Out} {D : Ends} (h : PostS K H0 Lo W H α o D) (e : Evo K Lo H α H' α') : PostS K H0 Lo W H' α' o D := by
  cases o with
  | nx ρ => exact fun a s H2 r e2 => h a s H2 r (e.trans e2)
  | rt d => exact h
  | bk ρ => exact fun a s H2 r e2 => h a s H2 r (e.trans e2)
  | ct ρ => exact fun a s H2 r e2 => h a s H2 r (e.trans e2)
  | exc c fs ρ => exact fun a s H2 x r e2 => h a s H2 x r (e.trans e2)
  | bad => exact h
def tS (K : PySem.W.Frag) (H0 : Hp) (Lo : Ad) (W : WX) (f : SF) : TS := fun D σ H => ∃ ρ α, RSt K H0 Lo ρ α σ H ∧ PostS K H0 Lo W H α (f ρ) D
abbrev SS (X : Cx) (W : WX) (st : Stmt) (f : SF) : Prop := ∀ (H0 : Hp) (Lo : Ad), PS X st (tS X.K H0 Lo W f)
abbrev SSs (X : Cx) (W : WX) (sts : List Stmt) (f : SF) : Prop := ∀ (H0 : Hp) (Lo : Ad), PSs X sts (tS X.K H0 Lo W f)
/-- an expression's result, then a statement's end -/
def Rs.out (r : Rs) (ρ : En) (k : D → Out) : Out := match r with
  | .ok d => k d
  | .exc c fs => .exc c fs ρ
  | .bad => .bad
@[simp] theorem Rs.out_ok (d : D) (ρ : En) (k : D → Out) : (Rs.ok d).out ρ k = k d := rfl
@[simp] theorem Rs.out_exc (c : Str) (fs : List (Str × D)) (ρ : En) (k : D → Out) : (Rs.exc c fs).out ρ k = .exc c fs ρ := rfl
@[simp] theorem Rs.out_bad (ρ : En) (k : D → Out) : Rs.bad.out ρ k = .bad := rfl
section
variable {K : PySem.W.Frag} {H0 H : Hp} {Lo : Ad} {W : WX} {ρ : En} {α : Nat → Option Addr} {σ : St} {r : Rs} {k : D → Out} {D : Ends} {R : VK}
theorem PostS.expr (rst : RSt K H0 Lo ρ α σ H) (h : PostS K H0 Lo W H α (r.out ρ k) D) (hk : ∀ d H1 v, Same H H1 → Rp K H1 (Lv Lo α) d v → RSt K H0 Lo ρ α σ H1 → PostS K H0 Lo W H1 α (k d) D → R v H1) : Post K W (Lv Lo α) σ H r R := by
  cases r with
  | ok d => exact fun H1 v s rv => hk d H1 v s rv (rst.mono s) (PostS.evo h (.of_same s))
  | exc c fs => exact fun H1 x s xr => h α σ H1 x (rst.mono s) (.of_same s) xr
  | bad => exact h
theorem PostS.exprB (rst : RSt K H0 Lo ρ α σ H) (h : PostS K H0 Lo W H α (r.out ρ k) D) (hk : ∀ d H1 v, Same H H1 → Rb K H1 (Lv Lo α) d v → RSt K H0 Lo ρ α σ H1 → PostS K H0 Lo W H1 α (k d) D → R v H1) : PostB K W (Lv Lo α) σ H r R := by
  cases r with
  | ok d => exact fun H1 v s rv => hk d H1 v s rv (rst.mono s) (PostS.evo h (.of_same s))
  | exc c fs => exact fun H1 x s xr => h α σ H1 x (rst.mono s) (.of_same s) xr
  | bad => exact h
theorem PostS.exprN (rst : RSt K H0 Lo ρ α σ H) (h : PostS K H0 Lo W H α (r.out ρ k) D) (hk : ∀ d H1 a, Same H H1 → H a = none → Ow K H1 (Lp (Lv Lo α) a) d a → PostS K H0 Lo W H α (k d) D → R (.ref a) H1) : PostN K W (Lv Lo α) σ H r R := by
  cases r with
  | ok d => exact fun H1 a s n o => hk d H1 a s n o h
  | exc c fs => exact fun H1 x s xr => h α σ H1 x (rst.mono s) (.of_same s) xr
  | bad => exact h
end
section
variable {X : Cx} {W : WX} {st : Stmt} {sts rest body : List Stmt} {f g : SF} {e a b c o : Expr} {ef eg : EF} {pos pos' : Pos} {i : Nat} {x : Str}
theorem _root_.L2.PS.weak {t t' : TS} (h : PS X st t) (hw : ∀ D σ H, t' D σ H → t D σ H) : PS X st t' := ⟨fun pn s σ H D I q => h.run pn s σ H D I (hw D σ H q)⟩
theorem _root_.L2.PSs.weak {t t' : TS} (h : PSs X sts t) (hw : ∀ D σ H, t' D σ H → t D σ H) : PSs X sts t' := ⟨fun pn s σ H D I q => h.run pn s σ H D I (hw D σ H q)⟩
def sNx : SF := fun ρ => .nx ρ
def sSeq (f g : SF) : SF := fun ρ => match f ρ with
  | .nx ρ' => g ρ'
  | o => o
theorem ss_nil : SSs X W [] sNx := fun H0 Lo => pss_nil.weak fun D σ H ⟨ρ, α, rst, p⟩ => p α σ H rst .refl
theorem ss_cons (h1 : SS X W st f) (h2 : SSs X W rest g) : SSs X W (st :: rest) (sSeq f g) := fun H0 Lo => (pss_cons (h1 H0 Lo) (h2 H0 Lo)).weak fun D σ H ⟨ρ, α, rst, p⟩ => by
  refine ⟨ρ, α, rst, ?_⟩
  unfold sSeq at p
  cases hf : f ρ with
  | nx ρ' => rw [hf] at p; exact fun α' σ' H' r ev => ⟨ρ', α', r, p.evo ev⟩
  | rt d => rw [hf] at p; exact p
  | bk ρ' => rw [hf] at p; exact p
  | ct ρ' => rw [hf] at p; exact p
  | exc c fs ρ' => rw [hf] at p; exact p
  | bad => rw [hf] at p; exact p
theorem ss_one (h1 : SS X W st f) : SSs X W [st] f := fun H0 Lo => pss_one (h1 H0 Lo)
def sFrz (i : Nat) (f : SF) : SF := fun ρ => match ρ[i]? with
  | some (some (.own d)) => f (ρ.set i (some (.val d)))
  | some (some (.val _)) => f ρ
  | _ => .bad
theorem ss_frz (i : Nat) (h : SSs X W sts f) : SSs X W sts (sFrz i f) := fun H0 Lo => (h H0 Lo).weak fun D σ H ⟨ρ, α, rst, p⟩ => by
  unfold sFrz at p
  cases hi : ρ[i]? with
  | none => simp only [hi] at p; exact p.elim
  | some q =>
    cases q with
    | none => simp only [hi] at p; exact p.elim
    | some q =>
      cases q with
      | own d => simp only [hi] at p; exact ⟨_, _, rst.frz hi, p.evo (Evo.rms [i])⟩
      | val d => simp only [hi] at p; exact ⟨_, _, rst, p⟩
theorem ss_pass : SS X W (.Pass pos) sNx := fun H0 Lo => ps_pass.weak fun D σ H ⟨ρ, α, rst, p⟩ => p α σ H rst .refl
def sBk : SF := fun ρ => .bk ρ
def sCt : SF := fun ρ => .ct ρ
theorem ss_break : SS X W (.Break pos) sBk := fun H0 Lo => ps_break.weak fun D σ H ⟨ρ, α, rst, p⟩ => p α σ H rst .refl
theorem ss_continue : SS X W (.Continue pos) sCt := fun H0 Lo => ps_continue.weak fun D σ H ⟨ρ, α, rst, p⟩ => p α σ H rst .refl
def sDrop (f : EF) : SF := fun ρ => (f ρ).out ρ fun _ => .nx ρ
theorem ss_drop (he : SE X W e ef) (hs : swapsWith e none pos.line X.env = pure false := by rfl) : SS X W (.Expr e pos) (sDrop ef) := fun H0 Lo => (ps_expr he hs).weak fun D σ H ⟨ρ, α, rst, p⟩ =>
  ⟨_, ρ, rst.re, p.expr rst fun d H1 v s r rst1 p1 => p1 α σ H1 rst1 .refl⟩
def sRet (f : EF) : SF := fun ρ => (f ρ).out ρ fun d => .rt d
theorem ss_ret (he : SE X W e ef) : SS X W (.Return (some e) pos) (sRet ef) := fun H0 Lo => (ps_ret he).weak fun D σ H ⟨ρ, α, rst, p⟩ =>
  ⟨_, ρ, rst.re, p.expr rst fun d H1 v s r rst1 p1 => p1 H1 v rst1.same (r.lives fun z q => .inl (.inl q))⟩
def sRetV (i : Nat) : SF := fun ρ => match ρ[i]? with
  | some (some (.own d)) => .rt d
  | some (some (.val d)) => .rt d
  | _ => .bad
theorem ss_retV (i : Nat) {x : Str} {p : Pos} (hN : X.N[i]? = some x := by rfl) (hv : Vis X.env.scope x := by first | exact Or.inl rfl | exact Or.inr (Or.inl rfl) | exact Or.inr (Or.inr rfl)) (hd : (x == ("__debug__" : Str)) = false := by decide)
    (hcd : (x == ("__classdict__" : Str)) = false := by decide) : SS X W (.Return (some (.Name x p)) pos) (sRetV i) := fun H0 Lo => (ps_ret (pe_var hN hv hd hcd)).weak fun D σ H ⟨ρ, α, rst, p⟩ => by
  unfold sRetV at p
  cases hi : ρ[i]? with
  | none => simp only [hi] at p; exact p.elim
  | some q =>
    cases q with
    | none => simp only [hi] at p; exact p.elim
    | some q =>
      cases q with
      | own d =>
        simp only [hi] at p
        obtain ⟨a, e1, e2, ob⟩ := rst.own i d hi
        exact ⟨.ref a, e2, p H _ rst.same ((ob.lives fun z q => .inl (.inl q)).rp fun z => rst.lo a z (rst.new i a e1))⟩
      | val d =>
        simp only [hi] at p
        obtain ⟨w, e1, v, e2, r⟩ := rst.re.sl i _ hi
        subst e2
        exact ⟨v, e1, p H _ rst.same (r.lives fun z q => .inl (.inl q))⟩
theorem ss_retN : SS X W (.Return none pos) (fun _ => .rt .none) := fun H0 Lo => ps_retN.weak fun D σ H ⟨ρ, α, rst, p⟩ => p H .non rst.same .non
def outIf (f g : Out) : D → Out
  | .bool true => f
  | .bool false => g
  | _ => .bad
def sIf (c : EF) (f g : SF) : SF := fun ρ => (c ρ).out ρ (outIf (f ρ) (g ρ))
theorem ss_if {sa sb : List Stmt} (hc : ST X W c ef) (ha : SSs X W sa f) (hb : SSs X W sb g) : SS X W (.If c sa sb pos) (sIf ef f g) := fun H0 Lo => (ps_if hc (ha H0 Lo) (hb H0 Lo)).weak fun D σ H ⟨ρ, α, rst, p⟩ => by
  refine ⟨_, ρ, rst.re, ?_⟩
  unfold sIf at p
  cases hr : ef ρ with
  | bad => rw [hr] at p; exact p
  | exc c fs => rw [hr] at p; exact fun H1 x s xr => p α σ H1 x (rst.mono s) (.of_same s) xr
  | ok d =>
    rw [hr] at p
    cases d with
    | bool k =>
      intro H1 s1
      have p1 := p.evo (.of_same s1)
      cases k with
      | true => rw [if_pos rfl]; exact ⟨ρ, α, rst.mono s1, p1⟩
      | false => rw [if_neg Bool.false_ne_true]; exact ⟨ρ, α, rst.mono s1, p1⟩
    | _ => exact p
/-! assignments -/
def outB (r : Option En) : Out := match r with
  | some ρ => .nx ρ
  | none => .bad
def sAsg (t : Tg) (f : EF) : SF := fun ρ => (f ρ).out ρ fun d => outB (bindT t d ρ)
theorem gT_st {K : PySem.W.Frag} {H0 H : Hp} {Lo : Ad} {t : Tg} {d : D} {v : V} {ρ : En} {α : Nat → Option Addr} {σ : St} {D : Ends} (rst : RSt K H0 Lo ρ α σ H) (r : Rp K H (Lv Lo α) d v) (p : PostS K H0 Lo W H α (outB (bindT t d ρ)) D) : gT K t v σ H D.nx := by
  unfold outB at p
  cases hb : bindT t d ρ with
  | none => rw [hb] at p; exact p.elim
  | some ρ1 => rw [hb] at p; exact gT_of rst.re r hb fun σ1 re1 ch => p _ σ1 H (rst.ch re1 ch) (Evo.rms _)
theorem ss_asg {tg : Expr} {t : Tg} (he : SE X W e ef) (hg : PG X tg (gT X.K t)) (hs : swapsWithSole [tg] e pos.line X.env = pure false := by rfl) (hw : swappedStores [tg] e X.env = pure none := by rfl)
    (h1 : (assignEach [tg] X.env).map (·.2) = [assign tg X.env] := by rfl) : SS X W (.Assign [tg] e pos) (sAsg t ef) := fun H0 Lo => (ps_asg he hg hs hw h1).weak fun D σ H ⟨ρ, α, rst, p⟩ =>
  ⟨_, ρ, rst.re, p.expr rst fun d H1 v s r rst1 p1 => gT_st rst1 r p1⟩
def sSet (i : Nat) (f : EF) : SF := fun ρ => (f ρ).out ρ fun d => .nx (ρ.set i (some (.val d)))
def sOwn (i : Nat) (f : EF) : SF := fun ρ => (f ρ).out ρ fun d => .nx (ρ.set i (some (.own d)))
theorem ss_set (hN : X.N.Nodup) (he : SE X W e ef) (hi : X.N[i]? = some x := by rfl) (hx : Loc X.env.scope x := by first | exact Or.inl rfl | exact Or.inr rfl) (hs : swapsWith e (some (.Name x pos')) pos.line X.env = pure false := by rfl) (hf : X.fn x = true ∨ X.env.scope.names.lookup x = some .local := by first | exact .inl rfl | exact .inr rfl) :
    SS X W (.Assign [.Name x pos'] e pos) (sSet i ef) := fun H0 Lo => (ps_set hN hi hx he hs hf).weak fun D σ H ⟨ρ, α, rst, p⟩ =>
  ⟨_, ρ, rst.re, p.expr rst fun d H1 v s r rst1 p1 => p1 _ _ H1 (rst1.set r) (Evo.rms _)⟩
theorem ss_own (hN : X.N.Nodup) (he : SN X W e ef) (hi : X.N[i]? = some x := by rfl) (hx : Loc X.env.scope x := by first | exact Or.inl rfl | exact Or.inr rfl) (hs : swapsWith e (some (.Name x pos')) pos.line X.env = pure false := by rfl) (hf : X.fn x = true ∨ X.env.scope.names.lookup x = some .local := by first | exact .inl rfl | exact .inr rfl) :
    SS X W (.Assign [.Name x pos'] e pos) (sOwn i ef) := fun H0 Lo => (ps_set hN hi hx he hs hf).weak fun D σ H ⟨ρ, α, rst, p⟩ =>
  ⟨_, ρ, rst.re, p.exprN rst fun d H1 a s n o p1 => let ⟨q1, q2⟩ := rst.setOwn s n o; p1 _ _ H1 q1 q2⟩
/-- name = [..] on one line, the name a local: a value | a list that the frame holds -/
theorem ss_setLc {elt tg iter : Expr} {ifs : List Expr} {scope : Scope} {own : List (Str × Nat)} {py spos : Pos} {fi : IF} {t : Tg} {cf f : EF} (hN : X.N.Nodup) (hi : SI X W tg iter fi) (ok : BlkOk X.N X.env.scope scope own)
    (hg : ∀ (s : Shared) (H : Hp) (C : Addr) (cl : List (Str × Addr)) (fp : List Addr), PG (X.blk s H scope (compEnvC scope cl C X.env) fp) tg (gT X.K t)) (ht : ∀ (s : Shared) (H : Hp) (C : Addr) (cl : List (Str × Addr)) (fp : List Addr), STs (X.blk s H scope (compEnvC scope cl C X.env) fp) ifs cf)
    (he : ∀ (s : Shared) (H : Hp) (C : Addr) (cl : List (Str × Addr)) (fp : List Addr), SE (X.blk s H scope (compEnvC scope cl C X.env) fp) WF elt f) (hsw : swapsWith (.ListComp elt [⟨tg, iter, ifs, 0⟩] scope pos) (some (.Name x py)) spos.line X.env = pure true)
    (hsl : ∀ i ∈ slotsT t, i ∈ own.map (·.2) := by decide) (hy : X.N[i]? = some x := by rfl) (hyl : X.env.scope.names.lookup x = some .local := by rfl) (hc : X.calm = true := by rfl) (hs : ∀ x, foldedSetIterable iter X.env x = pure x := by intro _; rfl) :
    SS X W (.Assign [.Name x py] (.ListComp elt [⟨tg, iter, ifs, 0⟩] scope pos) spos) (sSet i (eLc (own.map (·.2)) fi t cf f)) := fun H0 Lo => (ps_setLc hc hN hy hyl hsw hi ok hg ht he hs).weak fun D σ H ⟨ρ, α, rst, p⟩ =>
  tLc_of hsl σ H _ ⟨_, ρ, rst.re, p.exprN rst fun d H1 a s n o p1 => (p1.evo (.of_same s)) _ _ H1 ((rst.mono s).set ((o.lives fun z q => .inl (.inl q)).rp fun z => rst.re.lv a z n)) (Evo.rms _)⟩
theorem ss_ownLc {elt tg iter : Expr} {ifs : List Expr} {scope : Scope} {own : List (Str × Nat)} {py spos : Pos} {fi : IF} {t : Tg} {cf f : EF} (hN : X.N.Nodup) (hi : SI X W tg iter fi) (ok : BlkOk X.N X.env.scope scope own)
    (hg : ∀ (s : Shared) (H : Hp) (C : Addr) (cl : List (Str × Addr)) (fp : List Addr), PG (X.blk s H scope (compEnvC scope cl C X.env) fp) tg (gT X.K t)) (ht : ∀ (s : Shared) (H : Hp) (C : Addr) (cl : List (Str × Addr)) (fp : List Addr), STs (X.blk s H scope (compEnvC scope cl C X.env) fp) ifs cf)
    (he : ∀ (s : Shared) (H : Hp) (C : Addr) (cl : List (Str × Addr)) (fp : List Addr), SE (X.blk s H scope (compEnvC scope cl C X.env) fp) WF elt f) (hsw : swapsWith (.ListComp elt [⟨tg, iter, ifs, 0⟩] scope pos) (some (.Name x py)) spos.line X.env = pure true)
    (hsl : ∀ i ∈ slotsT t, i ∈ own.map (·.2) := by decide) (hy : X.N[i]? = some x := by rfl) (hyl : X.env.scope.names.lookup x = some .local := by rfl) (hc : X.calm = true := by rfl) (hs : ∀ x, foldedSetIterable iter X.env x = pure x := by intro _; rfl) :
    SS X W (.Assign [.Name x py] (.ListComp elt [⟨tg, iter, ifs, 0⟩] scope pos) spos) (sOwn i (eLc (own.map (·.2)) fi t cf f)) := fun H0 Lo => (ps_setLc hc hN hy hyl hsw hi ok hg ht he hs).weak fun D σ H ⟨ρ, α, rst, p⟩ =>
  tLc_of hsl σ H _ ⟨_, ρ, rst.re, p.exprN rst fun d H1 a s n o p1 => let ⟨q1, q2⟩ := rst.setOwn s n o; p1 _ _ H1 q1 q2⟩
end
end VV

set_option Elab.async false
set_option linter.all false
set_option maxRecDepth 100000
set_option maxHeartbeats 4000000
/-! VVj: lists changed, loops, raise, and a def's promise. -/
namespace VV
open PySem PySem.Spec L2
open PyProof.Rows hiding St

section
variable {X : Cx} {W : WX} {st : Stmt} {sts rest body : List Stmt} {f g : SF} {e a b c o : Expr} {ef eg : EF} {pos pos' : Pos} {i : Nat} {x : Str}
/-! ### lists that the frame holds -/
def ownL (ρ : En) (i : Nat) (k : List D → Out) : Out := match ρ[i]? with
  | some (some (.own (.list ds))) => k ds
  | _ => .bad
theorem PostS.ownL {K : PySem.W.Frag} {H0 H : Hp} {Lo : Ad} {ρ : En} {α : Nat → Option Addr} {σ : St} {k : List D → Out} {Dn : Ends} (rst : RSt K H0 Lo ρ α σ H) (p : PostS K H0 Lo W H α (VV.ownL ρ i k) Dn) :
    ∃ ds a vs, ρ[i]? = some (some (.own (.list ds))) ∧ σ[i]? = some (some (.ref a)) ∧ H a = some (.lst vs) ∧ RpL K H (Lv Lo α) ds vs ∧ PostS K H0 Lo W H α (k ds) Dn ∧ Lv Lo α a := by
  unfold VV.ownL at p
  cases hi : ρ[i]? with
  | none => simp only [hi] at p; exact p.elim
  | some q =>
    cases q with
    | none => simp only [hi] at p; exact p.elim
    | some q =>
      cases q with
      | val d => simp only [hi] at p; exact p.elim
      | own d =>
        cases d with
        | list ds =>
          simp only [hi] at p
          obtain ⟨a, e1, e2, ob⟩ := rst.own i _ hi
          cases ob with
          | lst h1 r => exact ⟨ds, a, _, rfl, e2, h1, r, p, .inr ⟨i, e1⟩⟩
        | _ => simp only [hi] at p; exact p.elim
def sApp (i : Nat) (f : EF) : SF := fun ρ => ownL ρ i fun ds => (f ρ).out ρ fun d => if ds.length < sizeLine then .nx (ρ.set i (some (.own (.list (ds ++ [d]))))) else .bad
theorem ss_app (i : Nat) {x : Str} {p apos cpos : Pos} (he : SE X W e ef) (hN : X.N[i]? = some x := by rfl) (hv : Vis X.env.scope x := by first | exact Or.inl rfl | exact Or.inr (Or.inl rfl) | exact Or.inr (Or.inr rfl)) (hd : (x == ("__debug__" : Str)) = false := by decide)
    (hcd : (x == ("__classdict__" : Str)) = false := by decide) (hbase : attributeBase (.Name x p) "append" X.env (eval (.Name x p) X.env) = eval (.Name x p) X.env := by rfl)
    (hfew : ((backTo cpos (starEach (e :: []) X.env)).all (fun x => !x.1) && (backToKw cpos (keywordEach [] X.env)).all (fun x => x.1.isSome) && decide ((e :: []).length + ([] : List Keyword).length + (if ([] : List Keyword).isEmpty then 0 else 1) < 30)) = true := by rfl)
    (hline : (apos.endLine == cpos.line) = true := by rfl) (hs : starEach (e :: []) X.env = (false, eval e X.env) :: starEach [] X.env := by rfl) (hplain : (backTo cpos (starEach [] X.env)).any (·.1) = false := by rfl) :
    SS X W (.Expr (.Call (.Attribute (.Name x p) "append" apos) [e] [] cpos) pos) (sApp i ef) := fun H0 Lo =>
  (ps_expr (pe_bm PySem.F.plainAttrs_list PySem.F.slot_list_append PySem.F.type_list_append mt_append (pe_var hN hv hd hcd) (pa_cons he pa_nil hs) hbase hfew hline hs hplain)).weak fun D σ H ⟨ρ, α, rst, p⟩ => by
  obtain ⟨ds, l, vs, h1, h2, h3, rl, p, hL⟩ := PostS.ownL rst p
  refine ⟨.ref l, h2, .inl ⟨rfl, vs, SqL.of h3⟩, _, ρ, rst.re, p.expr rst fun d H1 v s r rst1 p1 => ?_⟩
  split at p1
  · rename_i hz
    rw [rl.length] at hz
    refine ⟨l, vs, v, rfl, rfl, s _ _ h3, hz, ?_⟩
    have hl3 := s _ _ h3
    obtain ⟨q1, q2⟩ := rst1.write (d' := .list (ds ++ [d])) (o' := .lst (vs ++ [v])) h1 h2 (.lst upd_same (RpL.upd hl3 trivial hL ((rl.mono s).append (.cons r .nil))))
    exact p1 α σ _ q1 q2
  · exact p1.elim
def sExt (i : Nat) (f : EF) : SF := fun ρ => ownL ρ i fun ds => (f ρ).out ρ fun d => match d with
  | .list es => if ds.length + es.length ≤ sizeLine then .nx (ρ.set i (some (.own (.list (ds ++ es))))) else .bad
  | _ => .bad
theorem ss_ext (i : Nat) {x : Str} {p apos cpos : Pos} (he : SB X W e ef) (hN : X.N[i]? = some x := by rfl) (hv : Vis X.env.scope x := by first | exact Or.inl rfl | exact Or.inr (Or.inl rfl) | exact Or.inr (Or.inr rfl)) (hd : (x == ("__debug__" : Str)) = false := by decide)
    (hcd : (x == ("__classdict__" : Str)) = false := by decide) (hbase : attributeBase (.Name x p) "extend" X.env (eval (.Name x p) X.env) = eval (.Name x p) X.env := by rfl)
    (hfew : ((backTo cpos (starEach (e :: []) X.env)).all (fun x => !x.1) && (backToKw cpos (keywordEach [] X.env)).all (fun x => x.1.isSome) && decide ((e :: []).length + ([] : List Keyword).length + (if ([] : List Keyword).isEmpty then 0 else 1) < 30)) = true := by rfl)
    (hline : (apos.endLine == cpos.line) = true := by rfl) (hs : starEach (e :: []) X.env = (false, eval e X.env) :: starEach [] X.env := by rfl) (hplain : (backTo cpos (starEach [] X.env)).any (·.1) = false := by rfl) :
    SS X W (.Expr (.Call (.Attribute (.Name x p) "extend" apos) [e] [] cpos) pos) (sExt i ef) := fun H0 Lo =>
  (ps_expr (pe_bm PySem.F.plainAttrs_list PySem.F.slot_list_extend PySem.F.type_list_extend mt_extend (pe_var hN hv hd hcd) (pa_cons he pa_nil hs) hbase hfew hline hs hplain)).weak fun D σ H ⟨ρ, α, rst, p⟩ => by
  obtain ⟨ds, l, vs, h1, h2, h3, rl, p, hL⟩ := PostS.ownL rst p
  refine ⟨.ref l, h2, .inl ⟨rfl, vs, SqL.of h3⟩, _, ρ, rst.re, p.exprB rst fun d H1 v s r rst1 p1 => ?_⟩
  cases d with
  | list es =>
    simp only at p1
    split at p1
    · rename_i hz
      obtain ⟨b, us, rfl, hb, rb⟩ := r.lstV
      rw [rl.length, rb.length] at hz
      have hl3 := s _ _ h3
      refine ⟨l, b, vs, us, rfl, rfl, hl3, hb, hz, ?_⟩
      obtain ⟨q1, q2⟩ := rst1.write (d' := .list (ds ++ es)) (o' := .lst (vs ++ us)) h1 h2 (.lst upd_same (RpL.upd hl3 trivial hL ((rl.mono s).append rb)))
      exact p1 α σ _ q1 q2
    · exact p1.elim
  | _ => exact p1.elim
/-- x[k] = v -/
def sPutL (i : Nat) (fk fv : EF) : SF := fun ρ => (fv ρ).out ρ fun v => ownL ρ i fun ds => (fk ρ).out ρ fun k => match k with
  | .int j => (match ixN ds.length j with
    | some n => .nx (ρ.set i (some (.own (.list (ds.set n v)))))
    | none => .bad)
  | _ => .bad
theorem ss_putL (i : Nat) {x : Str} {p tp : Pos} (hk : SB X W a ef) (he : SE X W e eg) (hN : X.N[i]? = some x := by rfl) (hv : Vis X.env.scope x := by first | exact Or.inl rfl | exact Or.inr (Or.inl rfl) | exact Or.inr (Or.inr rfl)) (hd : (x == ("__debug__" : Str)) = false := by decide)
    (hcd : (x == ("__classdict__" : Str)) = false := by decide)
    (ha : ∀ v, assign (.Subscript (.Name x p) a tp) X.env v = (do
      let ov ← holding [v] (eval (.Name x p) X.env)
      let iv ← holding [v, ov] (eval a X.env)
      standAt tp; holding [v, ov, iv] (setItem ov iv v); release [v, ov, iv] []) := by intro _; rfl)
    (hs : swapsWithSole [.Subscript (.Name x p) a tp] e pos.line X.env = pure false := by rfl) (hw : swappedStores [.Subscript (.Name x p) a tp] e X.env = pure none := by rfl)
    (h1 : (assignEach [.Subscript (.Name x p) a tp] X.env).map (·.2) = [assign (.Subscript (.Name x p) a tp) X.env] := by rfl) :
    SS X W (.Assign [.Subscript (.Name x p) a tp] e pos) (sPutL i ef eg) := fun H0 Lo =>
  (ps_asg he (pg_sub (pe_var hN hv hd hcd) hk set_list ha) hs hw h1).weak fun D σ H ⟨ρ, α, rst, p⟩ => by
  refine ⟨_, ρ, rst.re, p.expr rst fun dv H1 v s r rst1 p1 => ?_⟩
  obtain ⟨ds, l, vs, q1, q2, q3, rl, p2, hL⟩ := PostS.ownL rst1 p1
  refine ⟨.ref l, q2, _, ρ, rst1.re, p2.exprB rst1 fun dk H2 k s2 rk rst2 p3 => ?_⟩
  cases dk with
  | int j =>
    simp only at p3
    cases hn : ixN ds.length j with
    | none => simp only [hn] at p3; exact p3.elim
    | some n =>
      simp only [hn] at p3
      obtain rfl := rk.intV
      have hl3 := s2 _ _ q3
      refine ⟨l, vs, j, n, rfl, rfl, hl3, by rw [← rl.length]; exact hn, ?_⟩
      obtain ⟨w1, w2⟩ := rst2.write (d' := .list (ds.set n dv)) (o' := .lst (vs.set n v)) q1 q2 (.lst upd_same (RpL.upd hl3 trivial hL (RpL.set (r.mono s2) n (rl.mono s2))))
      exact p3 α σ _ w1 w2
  | _ => exact p3.elim

/-! ### for, while -/
def forOne (t : Tg) (f : SF) (d : D) (ρ : En) (k : En → Out) : Out := match bindT t d ρ with
  | none => .bad
  | some ρ1 => match f ρ1 with
    | .nx ρ2 => k ρ2
    | .ct ρ2 => k ρ2
    | .bk ρ2 => .nx ρ2
    | .rt d => .rt d
    | .exc c fs ρ2 => .exc c fs ρ2
    | .bad => .bad
def forGo (t : Tg) (f : SF) : List D → En → Out
  | [], ρ => .nx ρ
  | d :: ds, ρ => forOne t f d ρ (forGo t f ds)
def RL.out (r : RL) (ρ : En) (k : List D → Out) : Out := match r with
  | .ok d => k d
  | .exc c fs => .exc c fs ρ
  | .bad => .bad
@[simp] theorem RL.out_ok (d : List D) (ρ : En) (k : List D → Out) : (RL.ok d).out ρ k = k d := rfl
@[simp] theorem RL.out_exc (c : Str) (fs : List (Str × D)) (ρ : En) (k : List D → Out) : (RL.exc c fs).out ρ k = .exc c fs ρ := rfl
@[simp] theorem RL.out_bad (ρ : En) (k : List D → Out) : RL.bad.out ρ k = .bad := rfl
def sFor (fi : IF) (t : Tg) (f : SF) : SF := fun ρ => (fi ρ).out ρ fun ds => forGo t f ds ρ
theorem ss_for {tg iter : Expr} {fi : IF} {t : Tg} (hp : PassesOwn (model X.prog X.w) X.A X.env X.xe) (hi : SIS X W tg iter fi) (hg : PG X tg (gT X.K t)) (hb : SSs X W body f) (hc : X.calm = true := by rfl) (hs : ∀ x, foldedSetIterable iter X.env x = pure x := by intro _; rfl) :
    SS X W (.For tg iter body [] pos) (sFor fi t f) := fun H0 Lo => (ps_for hp hc hi hg (hb H0 Lo) hs).weak fun D σ H ⟨ρ, α, rst, p⟩ => by
  refine ⟨_, ρ, rst.re, ?_⟩
  unfold sFor at p
  cases hf : fi ρ with
  | bad => rw [hf] at p; exact p
  | exc c fs => rw [hf] at p; exact fun H1 x s xr => p α σ H1 x (rst.mono s) (.of_same s) xr
  | ok ds =>
    rw [hf] at p
    simp only [RL.out_ok] at p
    intro J S H1 s1 it hS
    let Iv : Nat → St → Hp → Prop := fun i σ H => i ≤ ds.length ∧ ∃ ρ α, RSt X.K H0 Lo ρ α σ H ∧ S H (Lv Lo α) ∧ PostS X.K H0 Lo W H α (forGo t f (ds.drop i) ρ) D
    refine ⟨fun i m σ H => m = ds.length - i ∧ Iv i σ H, ⟨ds.length, by simp, Nat.zero_le _, ρ, α, rst.mono s1, hS, by rw [List.drop_zero]; exact p.evo (.of_same s1)⟩, ?_⟩
    rintro i m σ2 H2 ⟨rfl, hi, ρ2, α2, rst2, hS2, p2⟩
    by_cases hlt : i < ds.length
    · refine .inr ⟨it.go i H2 _ hS2 hlt, Iv (i + 1), fun σ' H' q => ⟨ds.length - (i + 1), by omega, rfl, q⟩, fun x H3 y => ?_⟩
      obtain ⟨s3, hx⟩ := it.yld i H2 _ x H3 hS2 y
      have rx := hx ds[i] (by simp [hlt])
      rw [List.drop_eq_getElem_cons hlt] at p2
      simp only [forGo] at p2
      unfold forOne at p2
      have rst3 := rst2.mono s3
      cases hbt : bindT t ds[i] ρ2 with
      | none => rw [hbt] at p2; exact p2.elim
      | some ρ3 =>
        rw [hbt] at p2
        simp only at p2
        refine gT_of rst3.re rx hbt fun σ3 re3 ch => ?_
        have rst4 := rst3.ch re3 ch
        have ev4 : Evo X.K Lo H2 α2 H3 (rms α2 (slotsT t)) := (Evo.of_same s3).trans (Evo.rms _)
        refine ⟨ρ3, _, rst4, ?_⟩
        have hS4 : S H3 (Lv Lo (rms α2 (slotsT t))) := it.evo _ _ _ _ hS2 ev4
        have p4 := p2.evo ev4
        cases hb3 : f ρ3 with
        | nx ρ5 => rw [hb3] at p4; exact fun α5 σ5 H5 r5 e5 => ⟨hlt, ρ5, α5, r5, it.evo _ _ _ _ hS4 e5, p4.evo e5⟩
        | ct ρ5 => rw [hb3] at p4; exact fun α5 σ5 H5 r5 e5 => ⟨hlt, ρ5, α5, r5, it.evo _ _ _ _ hS4 e5, p4.evo e5⟩
        | bk ρ5 => rw [hb3] at p4; exact p4
        | rt d => rw [hb3] at p4; exact p4
        | exc c fs ρ5 => rw [hb3] at p4; exact p4
        | bad => rw [hb3] at p4; exact p4
    · have e : i = ds.length := by omega
      subst e
      rw [List.drop_length] at p2
      exact .inl ⟨it.stop _ H2 _ hS2 (Nat.le_refl _), p2 α2 σ2 H2 rst2 .refl⟩
def whGo (c : EF) (f : SF) : Nat → En → Out
  | 0, _ => .bad
  | n + 1, ρ => (c ρ).out ρ fun b => match b with
    | .bool true => (match f ρ with
      | .nx ρ2 => whGo c f n ρ2
      | .ct ρ2 => whGo c f n ρ2
      | .bk ρ2 => .nx ρ2
      | .rt d => .rt d
      | .exc c fs ρ2 => .exc c fs ρ2
      | .bad => .bad)
    | .bool false => .nx ρ
    | _ => .bad
/-- a while of fewer than n turns -/
def sWh (n : Nat) (c : EF) (f : SF) : SF := whGo c f n
theorem ss_while (n : Nat) (hp : PassesOwn (model X.prog X.w) X.A X.env X.xe) (hc : ST X W c ef) (hb : SSs X W body f) : SS X W (.While c body [] pos) (sWh n ef f) := fun H0 Lo => (ps_while hp hc (hb H0 Lo)).weak fun D σ H ⟨ρ, α, rst, p⟩ => by
  refine ⟨fun m σ H => ∃ ρ α, RSt X.K H0 Lo ρ α σ H ∧ PostS X.K H0 Lo W H α (whGo ef f m ρ) D, ⟨n, ρ, α, rst, p⟩, ?_⟩
  rintro m σ1 H1 ⟨ρ1, α1, rst1, p1⟩
  cases m with
  | zero => exact p1.elim
  | succ m =>
    refine ⟨_, ρ1, rst1.re, ?_⟩
    simp only [whGo] at p1
    cases hr : ef ρ1 with
    | bad => rw [hr] at p1; exact p1
    | exc c fs => rw [hr] at p1; exact fun H2 x s xr => p1 α1 σ1 H2 x (rst1.mono s) (.of_same s) xr
    | ok d =>
      rw [hr] at p1
      simp only [Rs.out_ok] at p1
      cases d with
      | bool k =>
        intro H2 s2
        have p2 := p1.evo (.of_same s2)
        have rst2 := rst1.mono s2
        cases k with
        | true =>
          rw [if_pos rfl]
          refine ⟨fun σ H => ∃ ρ α, RSt X.K H0 Lo ρ α σ H ∧ PostS X.K H0 Lo W H α (whGo ef f m ρ) D, fun σ' H' q => ⟨m, Nat.lt_succ_self m, q⟩, ρ1, α1, rst2, ?_⟩
          simp only at p2
          cases hb3 : f ρ1 with
          | nx ρ5 => rw [hb3] at p2; exact fun α5 σ5 H5 r5 e5 => ⟨ρ5, α5, r5, p2.evo e5⟩
          | ct ρ5 => rw [hb3] at p2; exact fun α5 σ5 H5 r5 e5 => ⟨ρ5, α5, r5, p2.evo e5⟩
          | bk ρ5 => rw [hb3] at p2; exact p2
          | rt d => rw [hb3] at p2; exact p2
          | exc c fs ρ5 => rw [hb3] at p2; exact p2
          | bad => rw [hb3] at p2; exact p2
        | false => rw [if_neg Bool.false_ne_true]; exact p2 α1 σ1 H2 rst2 .refl
      | _ => exact p1

/-! ### raise, += -/
def sRaise (c : Str) : SF := fun ρ => .exc c [] ρ
/-- what the head tells of an error class without own __init__ -/
structure ExK (K : PySem.W.Frag) (mg : Str → Option Value) (x : Str) : Prop where
  g : mg x = some (.ref (He.ga K x))
  c : (He.Fa.exc x).ok K = true
theorem ss_raise {m : Str} {j : Nat} {p p2 q : Pos} (tk : Takes X W) (T : ExK X.K X.mg x) (hg : Gl X x := by rfl) (hdb : (x == ("__debug__" : Str)) = false := by decide) (hc : X.calm = true := by rfl) :
    SS X W (.Raise (some (.Call (.Name x p) [.Constant (.str m) j p2] [] q)) none pos) (sRaise x) := fun H0 Lo => by
  obtain ⟨k1, k2, k3, k4⟩ := He.exc_ok T.c
  exact (ps_raise hc tk (pmk_own PySem.F.excBase_ValueError k1 T.g k2 (raises_own k3 k4) hg hdb)).weak fun D σ H ⟨ρ, α, rst, p⟩ => p α σ H none rst .refl (.inl ⟨rfl, rfl⟩)
def augR (fn : Int → Int → Int) : D → D → Option D
  | .int i, .int j => some (.int (fn i j))
  | _, _ => none
def sAug (fn : Int → Int → Int) (i : Nat) (f : EF) : SF := fun ρ => (eV i ρ).out ρ fun x => (f ρ).out ρ fun y => match augR fn x y with
  | some d => .nx (ρ.set i (some (.val d)))
  | none => .bad
theorem ss_aug {op : Operator} {fn : Int → Int → Int} {p : Pos} (ho : PIp X op (ipI fn)) (hN : X.N.Nodup) (he : SB X W e ef) (hi : X.N[i]? = some x := by rfl) (hx : Loc X.env.scope x := by first | exact Or.inl rfl | exact Or.inr rfl) (hf : X.fn x = true ∨ X.env.scope.names.lookup x = some .local := by first | exact .inl rfl | exact .inr rfl) :
    SS X W (.AugAssign (.Name x p) op e pos) (sAug fn i ef) := fun H0 Lo => (ps_aug hN hi hx he ho hf).weak fun D σ H ⟨ρ, α, rst, p⟩ => by
  unfold sAug eV at p
  cases hq : ρ[i]? with
  | none => simp only [hq] at p; exact p.elim
  | some o =>
    cases o with
    | none => simp only [hq] at p; exact p.elim
    | some o =>
      cases o with
      | own d => simp only [hq] at p; exact p.elim
      | val dx =>
        simp only [hq, Rs.out_ok] at p
        obtain ⟨w, e1, v, e2, r⟩ := rst.re.sl i _ hq
        subst e2
        refine ⟨v, e1, _, ρ, rst.re, p.exprB rst fun dy H1 y s ry rst1 p1 => ?_⟩
        cases hd : augR fn dx dy with
        | none => simp only [hd] at p1; exact p1.elim
        | some d =>
          simp only [hd] at p1
          unfold augR at hd
          split at hd
          · obtain rfl := r.intV
            obtain rfl := ry.intV
            cases hd
            exact ⟨_, _, rfl, rfl, p1 _ _ H1 (rst1.set (.int _)) (Evo.rms _)⟩
          · cases hd
/-! a, b = x, y with plain local names -/
def sPar (i j : Nat) (fs : List EF) : SF := fun ρ => (evA fs ρ).out ρ fun ds => match ds with
  | [x, y] => .nx ((ρ.set i (some (.val x))).set j (some (.val y)))
  | _ => .bad
theorem PostS.args {K : PySem.W.Frag} {H0 H : Hp} {Lo : Ad} {ρ : En} {α : Nat → Option Addr} {σ : St} {r : RL} {k : List D → Out} {Dn : Ends} {R : List V → Hp → Prop} (rst : RSt K H0 Lo ρ α σ H) (h : PostS K H0 Lo W H α (r.out ρ k) Dn)
    (hk : ∀ d H1 v, Same H H1 → RpL K H1 (Lv Lo α) d v → RSt K H0 Lo ρ α σ H1 → PostS K H0 Lo W H1 α (k d) Dn → R v H1) : PostA K W (Lv Lo α) σ H r R := by
  cases r with
  | ok d => exact fun H1 v s rv => hk d H1 v s rv (rst.mono s) (PostS.evo h (.of_same s))
  | exc c fs => exact fun H1 x s xr => h α σ H1 x (rst.mono s) (.of_same s) xr
  | bad => exact h
theorem ss_par {i j : Nat} {x y : Str} {a b : Expr} {fs : List EF} {px py pt : Pos} {kt k2 pt2} (hN : X.N.Nodup) (hij : i ≠ j) (ha : SA X W [a, b] fs) (hw : swappedStores [.Tuple [.Name x px, .Name y py] kt pt] (.Tuple [a, b] k2 pt2) X.env = pure (some [x, y]))
    (hi : X.N[i]? = some x := by rfl) (hj : X.N[j]? = some y := by rfl) (hx : X.env.scope.names.lookup x = some .local := by rfl) (hy : X.env.scope.names.lookup y = some .local := by rfl)
    (hs : swapsWithSole [.Tuple [.Name x px, .Name y py] kt pt] (.Tuple [a, b] k2 pt2) pos.line X.env = pure false := by rfl) (hc : X.calm = true := by rfl) :
    SS X W (.Assign [.Tuple [.Name x px, .Name y py] kt pt] (.Tuple [a, b] k2 pt2) pos) (sPar i j fs) := fun H0 Lo => (ps_par hc hN hi hj hij hx hy ha hw hs).weak fun D σ H ⟨ρ, α, rst, p⟩ =>
  ⟨_, ρ, rst.re, p.args rst fun ds H1 vs s rl rst1 p1 => by
    cases rl with
    | nil => exact p1.elim
    | cons r1 rl =>
      cases rl with
      | nil => exact p1.elim
      | cons r2 rl =>
        cases rl with
        | nil =>
          refine ⟨_, _, rfl, ?_⟩
          have q1 := rst1.set (i := i) r1
          have q2 := q1.set (i := j) (r2.lives fun z q => .inl (Lv_rms z q))
          exact p1 _ _ H1 q2 ((Evo.rms _).trans (Evo.rms _))
        | cons _ _ => exact p1.elim⟩
def sPar3 (i j l : Nat) (fs : List EF) : SF := fun ρ => (evA fs ρ).out ρ fun ds => match ds with
  | [x, y, z] => .nx (((ρ.set i (some (.val x))).set j (some (.val y))).set l (some (.val z)))
  | _ => .bad
end

/-! ### a def -/
def runB (n N : Nat) (f : SF) : List D → Rs := fun ds => if ds.length = n then
  (match f (ds.map (fun d => some (.val d)) ++ List.replicate (N - n) none) with
    | .nx _ => .ok .none
    | .rt d => .ok d
    | .exc c fs _ => .exc c fs
    | .bk _ => .bad
    | .ct _ => .bad
    | .bad => .bad) else .bad
theorem re_start {K : PySem.W.Frag} {H : Hp} {L : Ad} {N : List Str} {ds : List D} {vs : List V} (lv : LvOk H L) (r : RpL K H L ds vs) : RE K H L (ds.map (fun d => some (Sl.val d)) ++ List.replicate (N.length - ds.length) none) (start N vs) := by
  refine ⟨lv, ?_, fun i x e => ?_⟩
  · unfold L2.start
    simp [r.length]
  · rcases Nat.lt_or_ge i ds.length with hi | hi
    · rw [List.getElem?_append_left (by simpa using hi), List.getElem?_map] at e
      cases hd : ds[i]? with
      | none => rw [hd] at e; cases e
      | some d =>
        rw [hd] at e
        cases e
        obtain ⟨v, e1, rv⟩ := r.get hd
        refine ⟨some v, ?_, v, rfl, rv⟩
        unfold L2.start
        rw [List.getElem?_append_left (by rw [List.length_map, ← r.length]; exact hi), List.getElem?_map, e1]
        rfl
    · rw [List.getElem?_append_right (by simpa using hi)] at e
      obtain ⟨_, e⟩ := List.getElem?_eq_some_iff.mp e
      rw [List.getElem_replicate] at e
      cases e
theorem fn_sem {P : Program} {w : World} {K : PySem.W.Frag} {mg : Str → Option Value} {base : Heap} {x qual : Str} {params : Arguments} {body : List Stmt} {scope : Scope} {dvs : List V} {kws : List (Str × V)} {fa : Addr} {fd : FuncData} {N ps : List Str} {k : Nat} {f : SF}
    (F : FunD K x qual params body scope dvs kws fa fd) (S : FnScope N ps scope)
    (hb : ∀ (cdv : Value) (A : Around) (outer : List Env) (s : Shared) (H : Hp) (E : XK), Room k (A.deeper (envOfC qual scope s.heap.objs.size fa cdv)) → Takes (cxOf (L2.CX P w) P w K mg base N qual scope fa cdv A outer s H E) (fun cls d _ H => E cls d H) →
      PassesOwn (model P w) (A.deeper (envOfC qual scope s.heap.objs.size fa cdv)) (envOfC qual scope s.heap.objs.size fa cdv) (cxOf (L2.CX P w) P w K mg base N qual scope fa cdv A outer s H E).xe →
      SSs (cxOf (L2.CX P w) P w K mg base N qual scope fa cdv A outer s H E) (fun cls d _ H => E cls d H) body f) :
    FnOk P w K mg base (L2.CX P w) (k + 1) fa fd ps (spP K ps.length (runB ps.length N.length f)) := by
  refine F.ok S (fun vs H Q E h => ?_) (fun cdv A outer s H vs Q E hr h => ?_)
  · obtain ⟨L, ds, lv, hl, r, _⟩ := h
    rw [← r.length]
    exact hl
  · obtain ⟨L, ds, lv, hl, r, h⟩ := h
    refine ⟨_, hb cdv A outer s H E hr (takes_of rfl rfl rfl rfl) (passes_of rfl) H L, ?_⟩
    have re := re_start (N := N) lv r
    have hLv : ∀ a, Lv L (fun _ => none) a → L a := fun a z => z.elim id fun ⟨i, e⟩ => by cases e
    refine ⟨_, fun _ => none, ⟨re.lives (fun a z => .inl (hLv a z)) (fun a z => lv a (hLv a z)), Same.refl H, lv, (fun i a e => by cases e), (fun i j a e => by cases e), fun i d e => ?_⟩, ?_⟩
    · rcases Nat.lt_or_ge i ds.length with hi | hi
      · rw [List.getElem?_append_left (by simpa using hi), List.getElem?_map] at e
        cases hd : ds[i]? with
        | none => rw [hd] at e; cases e
        | some d => rw [hd] at e; cases e
      · rw [List.getElem?_append_right (by simpa using hi)] at e
        obtain ⟨_, e⟩ := List.getElem?_eq_some_iff.mp e
        rw [List.getElem_replicate] at e
        cases e
    · unfold runB at h
      rw [if_pos hl, ← hl] at h
      cases ho : f (ds.map (fun d => some (Sl.val d)) ++ List.replicate (N.length - ds.length) none) with
      | nx ρ => rw [ho] at h; exact fun α' σ' H' rst _ => h H' .non rst.same .non
      | rt d => rw [ho] at h; exact h
      | bk ρ => rw [ho] at h; exact h.elim
      | ct ρ => rw [ho] at h; exact h.elim
      | exc c fs ρ => rw [ho] at h; exact fun α' σ' H' x rst _ xr => h H' x rst.same (xr.imp id fun ⟨dd, gs, a1, a2, a3, a4, a5⟩ => ⟨dd, gs, a1, a2, a3, a4, a5.lives fun z q => .inl (.inl q)⟩)
      | bad => rw [ho] at h; exact h.elim
/-- another function in its place: where that one is no bad -/
theorem sp_imp {K : PySem.W.Frag} {n : Nat} {g h : List D → Rs} (e : ∀ ds, ds.length = n → h ds ≠ .bad → g ds = h ds) : ∀ vs H Q E, spP K n h vs H Q E → spP K n g vs H Q E := fun vs H Q E ⟨L, ds, lv, hl, r, q⟩ => by
  refine ⟨L, ds, lv, hl, r, ?_⟩
  have hb : h ds ≠ .bad := fun z => by rw [z] at q; exact q
  rw [e ds hl hb]
  exact q
end VV

set_option Elab.async false
set_option linter.all false
set_option maxRecDepth 100000
set_option maxHeartbeats 4000000
/-! VVk: targets by rule, [::-1], two fors in a comprehension, calls with keywords, a law's end. -/
namespace VV
open PySem PySem.Spec L2
open PyProof.Rows hiding St

section
variable {X : Cx} {pos : Pos}
theorem sg_nm {i : Nat} {x : Str} (hN : X.N.Nodup) (hi : X.N[i]? = some x := by rfl) (hx : Loc X.env.scope x := by first | exact Or.inl rfl | exact Or.inr rfl) (hf : X.fn x = true ∨ X.env.scope.names.lookup x = some .local := by first | exact .inl rfl | exact .inr rfl) :
    PG X (.Name x pos) (gT X.K (.nm i)) := by
  unfold gT
  exact pg_name hN hi hx hf
theorem sgs_nil : PGs X [] (gTs X.K []) := by
  unfold gTs
  exact pgs_nil
theorem sgs_cons {e : Expr} {es : List Expr} {t : Tg} {ts : List Tg} (h1 : PG X e (gT X.K t)) (h2 : PGs X es (gTs X.K ts))
    (hs : (assignEach (e :: es) X.env).map (·.2) = assign e X.env :: (assignEach es X.env).map (·.2) := by rfl) : PGs X (e :: es) (gTs X.K (t :: ts)) := by
  unfold gTs
  exact pgs_cons h1 h2 hs
theorem sg_tp {es : List Expr} {k : Nat} {ts : List Tg} (h : PGs X es (gTs X.K ts)) (hc : X.calm = true := by rfl)
    (hn : (assignEach es X.env).length = ts.length := by rfl) (hst : (assignEach es X.env).findIdx? (·.1) = none := by rfl) : PG X (.Tuple es k pos) (gT X.K (.tp ts)) := by
  unfold gT
  exact pg_tup hc h hn hst
end

/-! ### x[::-1] -/
/-- the last n places, backwards -/
theorem back_pick (vs : Array Value) (n : Nat) (hn : vs.size = n) : (List.range n).filterMap (fun (k : Nat) => vs[((n : Int) - 1 + (k : Int) * (-1)).toNat]?) = vs.toList.reverse := by
  have places : ∀ k : Nat, ((n : Int) - 1 + (k : Int) * (-1)).toNat = n - 1 - k := fun k => by omega
  simp only [places]
  have via : (fun k : Nat => vs[n - 1 - k]?) = (fun j : Nat => vs[j]?) ∘ fun k => n - 1 - k := rfl
  rw [via, ← List.filterMap_map, PySem.W.krv_range, List.filterMap_reverse, ← hn, PySem.W.krv_all]
section
variable {P : Program} {w : World} {A : Around} {E : Value → Shared → Prop} {s : Shared} {t sl : Addr} {u : Tok}
theorem back_applied {n : Nat} {Q : Int × Int × Nat → Shared → Prop} (hs : s.heap.IsSliceOf sl .none .none (.int (-1) u)) (hq : Q ((n : Int) - 1, -1, n) s) : wpAny (model P w) A (Builtin.Slice.sliceApplied (.ref sl) (pure (n : Int))) Q E s := by
  have count : Builtin.Slice.slicePlaces ((n : Int) - 1) (-1) (-1) = n := by
    show (if (-1 : Int) > 0 then _ else if (n : Int) - 1 > -1 then ((n : Int) - 1 - -1 - 1) / (- -1) + 1 else 0).toNat = n
    rw [if_neg (by decide), show (- -1 : Int) = 1 from rfl, Int.ediv_one]
    split <;> omega
  have fields : ∀ {R : Value × Value × Value → Shared → Prop}, R (.none, .none, .int (-1) u) s → wpAny (model P w) A (Builtin.Slice.sliceFields (.ref sl)) R E s := fun {R} r => by
    obtain ⟨ob, h1, _, h3⟩ := hs
    exact wpAny_bind (wpAny_field h1 h3 rfl (wpAny_bind (wpAny_field h1 h3 rfl (wpAny_bind (wpAny_field h1 h3 rfl (wpAny_pure r))))))
  unfold Builtin.Slice.sliceApplied
  refine wpAny_bind (fields (wpAny_bind (HT.slicePart_ (.int (-1) u) ?_)))
  refine wpAny_bind (HT.slicePart_ .none (wpAny_bind (HT.slicePart_ .none (wpAny_bind (wpAny_pure ?_)))))
  show wpAny _ A (pure ((n : Int) - 1, (-1 : Int), Builtin.Slice.slicePlaces ((n : Int) - 1) (-1) (-1))) Q E s
  rw [count]
  exact wpAny_pure hq
theorem back_tuple {vs : Array Value} {Q : Value → Shared → Prop} (ht : IsTup s.heap t vs) (hs : s.heap.IsSliceOf sl .none .none (.int (-1) u)) (hz : vs.size ≤ sizeLine)
    (hq : Q (.ref s.heap.objs.size) { s with heap := s.heap.push { cls := .type "tuple", data := .seq vs.toList.reverse.toArray } }) : wpAny (model P w) A (getItem (.ref t) (.ref sl)) Q E s := by
  have isSlice : s.TypeIs (.ref sl) "slice" := let ⟨ob, h1, h2, _⟩ := hs; ⟨ob, h1, h2⟩
  refine wpAny_getItem_slot ht.typeIs (by decide) PyProof.Rows.slot_tuple_getitem (wpAny_call_entry PyProof.Rows.slot_tuple_getitem ht.typeIs entry_tuple_getitem ?_ (args_tuple_getitem _ _))
  refine wpAny_bind (wpAny_pure (wpAny_bind (tupleItemsOf_ ht (wpAny_bind (wpAny_typeOf isSlice ?_)))))
  rw [if_pos (by decide)]
  refine wpAny_bind (back_applied hs ?_)
  have other : (((vs.size : Int) - 1 == 0 && (-1 : Int) == 1) && vs.size == vs.size) = false := by simp
  show wpAny _ _ (if (((vs.size : Int) - 1 == 0 && (-1 : Int) == 1) && vs.size == vs.size) = true then _ else _) _ _ s
  rw [other, if_neg Bool.false_ne_true, back_pick vs vs.size rfl]
  have fits : sizeOk (.seq vs.toList.reverse.toArray) := by
    show vs.toList.reverse.toArray.size ≤ sizeLine
    simpa using hz
  exact wpAny_bind (show wpAny _ _ (Builtin.Tuple.tupleExact vs.toList.reverse.toArray) _ _ s from wpAny_newObj_type (wpAny_pure ⟨_, rfl, hq⟩) fits)
end
section
variable {X : Cx} {W : WX} {e : Expr} {k : Nat} {p1 p2 p3 pos : Pos}
/-- the slice ::-1, evaluated: a new slice object, nothing else -/
theorem back_slice {pins : List (Addr × Obj)} {σ : St} {H : Hp} {s : Shared} {R : Value → Shared → Prop} (I : Inv X pins σ H s)
    (h : ∀ (s0 : Shared) (u : Tok), Inv X pins σ H s0 → R (.ref s0.heap.objs.size) { s0 with heap := s0.heap.push { cls := .type "slice", data := .fields #[.none, .none, .int (-1) u] } }) :
    wpAny (model X.prog X.w) X.A (eval (.Slice none none (some (.UnaryOp .USub (.Constant (.int 1) k p1) p2)) p3) X.env) R X.xe s := by
  have minus : PO X (some (.UnaryOp .USub (.Constant (.int 1) k p1) p2)) _ := po_some (pe_un un_neg pe_int)
  have gone : ∀ s, Inv X pins σ H s → wpAny (model X.prog X.w) X.A (evalPart none X.env) (fun v s' => v = .none ∧ Inv X pins σ H s') X.xe s := fun s J =>
    thn (po_none.run pins s σ H (fun o H' => o = none ∧ H' = H) J ⟨rfl, rfl⟩) fun v s' ⟨o, H', J', part, eo, eH⟩ => by
      subst eo eH
      cases part
      exact ⟨rfl, J'⟩
  refine wpAny_Slice (thn (gone s I) fun _ sa ⟨za, Ia⟩ => thn (gone sa Ia) fun _ sb ⟨zb, Ib⟩ => thn (minus.run pins sb σ H (fun o H' => o = some (-1) ∧ H' = H) Ib ⟨1, rfl, -1, rfl, rfl, rfl⟩) fun _ sc ⟨o, H', Ic, part, eo, eH⟩ => ?_)
  subst za zb eo eH
  cases part with
  | int _ u => exact h sc u Ic
theorem pe_backT {te : TE} (he : PE X e te) : PE X (.Subscript e (.Slice none none (some (.UnaryOp .USub (.Constant (.int 1) k p1) p2)) p3) pos)
    (fun σ H Q => te σ H fun x H1 => ∃ a xs, x = .ref a ∧ SqT X.K H1 a xs ∧ ∀ p, H1 p = none → Q (.ref p) (upd H1 p (.tup xs.reverse))) := ⟨fun pins s σ H Q I h => by
  refine Subscript_ (thn (he.run pins s σ H _ I h) fun v s1 ⟨x, H1, I1, rv, a, xs, ex, hx, q⟩ => back_slice I1 fun s0 u I0 => ?_)
  subst ex
  cases rv
  have I2 : Inv X pins σ H1 { s0 with heap := s0.heap.push { cls := .type "slice", data := .fields #[.none, .none, .int (-1) u] } } := I0.kept (t' := s0.toks) fun _ _ z => Heap.get?_push_of_some _ z
  obtain ⟨its, vals, ht, hz⟩ := I2.tuple hx
  have size : its.toArray.size ≤ sizeLine := by rw [List.size_toArray, ← vals.length]; exact hz
  exact tail_any (ops := [.ref a, .ref s0.heap.objs.size]) (show IsTup _ _ _ from ht).typeIs PyProof.Rows.slot_tuple_getitem.lookup
    (back_tuple ht (Heap.IsSliceOf.new _ .none .none (.int (-1) u)) size ⟨.ref _, _, I2.laid (o := .tup xs.reverse) (t' := s0.toks) (fun _ _ z => Heap.get?_push_of_some _ z) (Nat.le_refl _) ⟨by simpa using hz, _, vals.reverse, IsTup.new _ _⟩, rfl, q _ (I2.hok.fresh (Nat.le_refl _))⟩)
    (by with_unfolding_all rfl)⟩
end
def revF : D → Option D
  | .list ds => some (.list ds.reverse)
  | .tuple ds => some (.tuple ds.reverse)
  | _ => none
section
variable {X : Cx} {W : WX}
theorem se_rev {e : Expr} {f : EF} {k : Nat} {p1 p2 p3 pos : Pos} (he : SB X W e f) : SE X W (.Subscript e (.Slice none none (some (.UnaryOp .USub (.Constant (.int 1) k p1) p2)) p3) pos) (eUn revF f) := ⟨fun pins s σ H Q I ⟨L, ρ, re, p⟩ => by
  unfold eUn at p
  match hf : f ρ with
  | .bad => rw [hf] at p; exact p.elim
  | .exc c fs =>
    rw [hf] at p
    refine (pe_revL he).run pins s σ H Q I ⟨L, ρ, re, ?_⟩
    rw [hf]
    exact p
  | .ok (.list ds) =>
    rw [hf] at p
    refine (pe_revL he).run pins s σ H Q I ⟨L, ρ, re, ?_⟩
    rw [hf]
    intro H1 v s1 r
    obtain ⟨b, vs, ev, hb, rl⟩ := r.lstV
    exact ⟨b, vs, ev, SqL.of hb, fun q hq => p _ _ (s1.trans (same_upd hq)) (.lst upd_same (fun z => re.lv.mono s1 q z hq) (rl.reverse.mono (same_upd hq)))⟩
  | .ok (.tuple ds) =>
    rw [hf] at p
    refine (pe_backT he).run pins s σ H Q I ⟨L, ρ, re, ?_⟩
    rw [hf]
    intro H1 v s1 r
    obtain ⟨b, vs, ev, hb, rl⟩ := r.tupV
    exact ⟨b, vs, ev, SqT.of hb, fun q hq => p _ _ (s1.trans (same_upd hq)) (.tup upd_same (rl.reverse.mono (same_upd hq)))⟩
  | .ok .none => rw [hf] at p; exact p.elim
  | .ok (.bool _) => rw [hf] at p; exact p.elim
  | .ok (.int _) => rw [hf] at p; exact p.elim
  | .ok (.str _) => rw [hf] at p; exact p.elim
  | .ok (.dict _) => rw [hf] at p; exact p.elim⟩
end

/-! ### two fors -/
def lc2Go (vs1 : List Nat) (t : Tg) (c : EF) (fi1 : IF) (t1 : Tg) (c1 e : EF) (ρ : En) : List D → RL
  | [] => .ok []
  | d :: ds => match bindT t d ρ with
    | none => .bad
    | some ρ1 => match c ρ1 with
      | .ok (.bool true) => (match fi1 ρ1 with
        | .ok ds1 => (match lcGo t1 c1 e (wipeE ρ1 vs1) ds1 with
          | .ok rs => (match lc2Go vs1 t c fi1 t1 c1 e ρ ds with
            | .ok r => .ok (rs ++ r)
            | _ => .bad)
          | _ => .bad)
        | _ => .bad)
      | .ok (.bool false) => (match lc2Go vs1 t c fi1 t1 c1 e ρ ds with
        | .ok r => .ok r
        | _ => .bad)
      | _ => .bad
def lc2R : RL → Rs
  | .ok ds => lstR ds
  | _ => .bad
def eLc2 (vs vs1 : List Nat) (fi : IF) (t : Tg) (c : EF) (fi1 : IF) (t1 : Tg) (c1 e : EF) : EF := fun ρ => (fi ρ).bind fun ds => lc2R (lc2Go vs1 t c fi1 t1 c1 e (wipeE ρ vs) ds)
theorem lc2Go_ok {vs1 : List Nat} {t : Tg} {c : EF} {fi1 : IF} {t1 : Tg} {c1 e : EF} {ρ : En} {d : D} {ds rs : List D} (h : lc2Go vs1 t c fi1 t1 c1 e ρ (d :: ds) = .ok rs) :
    ∃ ρ1, bindT t d ρ = some ρ1 ∧ ((c ρ1 = .ok (.bool true) ∧ ∃ ds1 r0 r, fi1 ρ1 = .ok ds1 ∧ lcGo t1 c1 e (wipeE ρ1 vs1) ds1 = .ok r0 ∧ lc2Go vs1 t c fi1 t1 c1 e ρ ds = .ok r ∧ rs = r0 ++ r) ∨ (c ρ1 = .ok (.bool false) ∧ lc2Go vs1 t c fi1 t1 c1 e ρ ds = .ok rs)) := by
  unfold lc2Go at h
  cases hb : bindT t d ρ with
  | none => exact absurd h (by rw [hb]; simp)
  | some ρ1 =>
    rw [hb] at h
    refine ⟨ρ1, rfl, ?_⟩
    cases hc : c ρ1 with
    | bad => simp only [hc] at h; cases h
    | exc c fs => simp only [hc] at h; cases h
    | ok b =>
      simp only [hc] at h
      cases b with
      | bool b =>
        cases b with
        | true =>
          cases h1 : fi1 ρ1 with
          | bad => simp only [h1] at h; cases h
          | exc c fs => simp only [h1] at h; cases h
          | ok ds1 =>
            simp only [h1] at h
            cases h2 : lcGo t1 c1 e (wipeE ρ1 vs1) ds1 with
            | bad => simp only [h2] at h; cases h
            | exc c fs => simp only [h2] at h; cases h
            | ok r0 =>
              simp only [h2] at h
              cases h3 : lc2Go vs1 t c fi1 t1 c1 e ρ ds with
              | bad => simp only [h3] at h; cases h
              | exc c fs => simp only [h3] at h; cases h
              | ok r => simp only [h3] at h; cases h; exact .inl ⟨rfl, ds1, r0, r, rfl, h2, rfl, rfl⟩
        | false =>
          cases h3 : lc2Go vs1 t c fi1 t1 c1 e ρ ds with
          | bad => simp only [h3] at h; cases h
          | exc c fs => simp only [h3] at h; cases h
          | ok r => simp only [h3] at h; cases h; exact .inr ⟨rfl, rfl⟩
      | _ => cases h
/-- no slot's own list lies at D -/
def NoOwn (D : Addr) (ρ : En) (σ : St) : Prop := ∀ (j : Nat) (d : VV.D) (a : Addr), ρ[j]? = some (some (.own d)) → σ[j]? = some (some (.ref a)) → a ≠ D
theorem RE.upd {K : PySem.W.Frag} {H : Hp} {L : Ad} {ρ : En} {σ : St} {D : Addr} {o o' : HO} (re : RE K H L ρ σ) (no : NoOwn D ρ σ) (hD : H D = some o) (c : Chg o) (hL : L D) : RE K (L2.upd H D o') L ρ σ := by
  refine ⟨fun a z => ?_, re.len, fun i x e => ?_⟩
  · by_cases h : a = D
    · subst h; rw [upd_same]; simp
    · rw [upd_ne h]; exact re.lv a z
  · obtain ⟨ob, e1, r⟩ := re.sl i x e
    refine ⟨ob, e1, ?_⟩
    cases x with
    | val d => obtain ⟨v, g1, g2⟩ := r; exact ⟨v, g1, g2.upd hD c hL⟩
    | own d =>
      obtain ⟨a, g1, g2⟩ := r
      subst g1
      exact ⟨a, rfl, g2.upd hD c hL (no i d a e e1)⟩
section
variable {X : Cx} {W : WX}
theorem lc2_loop {K : PySem.W.Frag} {L : Ad} {σ : St} {ρ : En} {H1 : Hp} {J : It} {S : Hp → Ad → Prop} {ds rs : List VV.D} {t t1 : Tg} {c c1 e : EF} {fi1 : IF} {vs vs1 : List Nat} {Q : VK} (re : RE K H1 L ρ σ) (it : ItB K ds J S) (hS : S H1 L)
    (hsl : ∀ i ∈ slotsT t, i ∈ vs) (hsl1 : ∀ i ∈ slotsT t1, i ∈ vs1) (hgo : lc2Go vs1 t c fi1 t1 c1 e (wipeE ρ vs) ds = .ok rs) (hz : rs.length ≤ sizeLine) (hQ : ∀ D H, H1 D = none → Same H1 H → Ow K H (Lp L D) (.list rs) D → Q (.ref D) H) :
    tLc2 (fun _ _ R => R J H1) (gT K t) (tT K WF c) (tIS K WF fi1) (gT K t1) (tT K WF c1) (tE K WF e) vs vs1 σ H1 Q := by
  intro D hD
  let L' : Ad := Lp L D
  have hL' : ∀ a, L' a → L a ∨ H1 a = none := fun a z => z.elim .inl fun q => by subst q; exact .inr hD
  have sD : ∀ {H : Hp} {o : HO}, Same H1 H → Same H1 (L2.upd H D o) := fun {H o} s b u q => by
    rw [upd_ne (ne_of_none q hD)]
    exact s b u q
  let Iv : Nat → Hp → Prop := fun i H => i ≤ ds.length ∧ Same H1 H ∧ ∃ (acc : List V) (racc rest : List VV.D), H D = some (.lst acc) ∧ RpL K H L' racc acc ∧ lc2Go vs1 t c fi1 t1 c1 e (wipeE ρ vs) (ds.drop i) = .ok rest ∧ racc ++ rest = rs
  refine ⟨fun i m H => m = ds.length - i ∧ Iv i H, ⟨ds.length, by simp, Nat.zero_le _, sD (Same.refl H1), [], [], rs, upd_same, .nil, hgo, rfl⟩, ?_⟩
  rintro i m H ⟨rfl, hi, s1, acc, racc, rest, hacc, racc', hrest, htot⟩
  have hSn : S H L' := it.keep H1 L H L' hS s1 hL'
  have lv' : LvOk H L' := fun a z => z.elim (fun q => re.lv.mono s1 a q) fun q => by subst q; rw [hacc]; simp
  have reH : RE K H L' ρ σ := by
    have r0 : RE K H L ρ σ := re.mono s1
    refine ⟨lv', r0.len, fun j x q => ?_⟩
    obtain ⟨o, e1, r⟩ := re.sl j x q
    exact ⟨o, e1, (r.lives (L' := L') hL').mono s1⟩
  by_cases hlt : i < ds.length
  · refine .inr ⟨it.go i H L' hSn hlt, Iv (i + 1), fun H' p' => ⟨ds.length - (i + 1), by omega, rfl, p'⟩, fun x H' y => ?_⟩
    obtain ⟨s2, hx⟩ := it.yld i H L' x H' hSn y
    have hdrop : ds.drop i = ds[i] :: ds.drop (i + 1) := List.drop_eq_getElem_cons hlt
    have rx := hx ds[i] (by simp [hlt])
    rw [hdrop] at hrest
    obtain ⟨ρ1, hb, hcase⟩ := lc2Go_ok hrest
    refine gT_of ((reH.mono s2).wipe vs) rx hb fun σ1 re1 ch => ?_
    have no : NoOwn D ρ1 σ1 := by
      intro j d a h1 h2
      have hj : j ∉ slotsT t := fun z => ch.v j z d h1
      rw [ch.r j hj] at h1
      obtain ⟨h3, h4⟩ := wipeE_some h1
      rw [ch.s j hj, wipe_at h4] at h2
      obtain ⟨o, e1, a', e2, ow⟩ := re.sl j _ h3
      rw [e1] at h2
      cases h2
      cases e2
      obtain ⟨ob, q, _⟩ := ow.chg
      exact ne_of_none q hD
    refine ⟨?_, L', ρ1, re1, ?_⟩
    · rw [← wipe_twice (σ := σ)]
      exact wipe_eq ch.ls fun j hj => ch.s j fun q => hj (hsl j q)
    · rcases hcase with ⟨hc, ds1, r0, r, h1, h2, hk, hr⟩ | ⟨hc, hk⟩
      · rw [hc]
        intro H3 s3
        rw [if_pos rfl]
        refine ⟨L', ρ1, re1.mono s3, ?_⟩
        rw [h1]
        intro J1 S1 H4 s4 it1 hS1
        have s24 : Same H H4 := s2.trans (s3.trans s4)
        have re4 : RE K H4 L' ρ1 σ1 := re1.mono (s3.trans s4)
        let Iv1 : Nat → Hp → Prop := fun j Hn => j ≤ ds1.length ∧ Same H1 Hn ∧ S1 Hn L' ∧ RE K Hn L' ρ1 σ1 ∧ ∃ (a1 : List V) (ra1 rest1 : List VV.D), Hn D = some (.lst a1) ∧ RpL K Hn L' ra1 a1 ∧ lcGo t1 c1 e (wipeE ρ1 vs1) (ds1.drop j) = .ok rest1 ∧ ra1 ++ rest1 = racc ++ r0
        refine ⟨fun j k Hn => k = ds1.length - j ∧ Iv1 j Hn, ⟨ds1.length, by simp, Nat.zero_le _, s1.trans s24, hS1, re4, acc, racc, r0, s24 _ _ hacc, racc'.mono s24, h2, rfl⟩, ?_⟩
        rintro j k Hn ⟨rfl, hj, sn, hSn1, ren, a1, ra1, rest1, hDn, rla, hgo1, htot1⟩
        by_cases hjl : j < ds1.length
        · refine .inr ⟨it1.go j Hn L' hSn1 hjl, Iv1 (j + 1), fun H' p' => ⟨ds1.length - (j + 1), by omega, rfl, p'⟩, fun x1 H5 y1 => ?_⟩
          obtain ⟨s5, hx1⟩ := it1.yld j Hn L' x1 H5 hSn1 y1
          have hdrop1 : ds1.drop j = ds1[j] :: ds1.drop (j + 1) := List.drop_eq_getElem_cons hjl
          have rx1 := hx1 ds1[j] (by simp [hjl])
          rw [hdrop1] at hgo1
          obtain ⟨ρ2, hb2, hcase2⟩ := lcOne_ok hgo1
          refine gT_of ((ren.mono s5).wipe vs1) rx1 hb2 fun σ2 re2 ch2 => ?_
          refine ⟨?_, L', ρ2, re2, ?_⟩
          · rw [← wipe_twice (σ := σ1)]
            exact wipe_eq ch2.ls fun j hj => ch2.s j fun q => hj (hsl1 j q)
          · rcases hcase2 with ⟨hc2, y2, r2, he2, hk2, hr2⟩ | ⟨hc2, hk2⟩
            · rw [hc2]
              intro H6 s6
              rw [if_pos rfl]
              refine ⟨L', ρ2, re2.mono s6, ?_⟩
              rw [he2]
              intro H7 v s7 rv
              have s57 : Same Hn H7 := s5.trans (s6.trans s7)
              have hD7 : H7 D = some (.lst a1) := s57 _ _ hDn
              have hLD : L' D := .inr rfl
              refine ⟨a1, hD7, ?_, hjl, sD (sn.trans s57), ?_, ?_, a1 ++ [v], ra1 ++ [y2], r2, upd_same, ?_, hk2, by rw [← htot1, hr2]; simp⟩
              · have e1 : a1.length = ra1.length := rla.length.symm
                have e2 := congrArg List.length htot1
                have e3 := congrArg List.length htot
                rw [hr2] at e2
                rw [hr] at e3
                simp only [List.length_append, List.length_cons] at e2 e3
                omega
              · exact it1.evo H7 L' _ L' (it1.keep Hn L' H7 L' hSn1 s57 fun _ q => .inl q) fun d w r => r.upd hD7 trivial hLD
              · exact (ren.mono s57).upd no hD7 trivial hLD
              · exact RpL.upd hD7 trivial hLD ((rla.mono s57).append (.cons rv .nil))
            · rw [hc2]
              intro H6 s6
              rw [if_neg (by decide)]
              have s56 : Same Hn H6 := s5.trans s6
              exact ⟨hjl, sn.trans s56, it1.keep Hn L' H6 L' hSn1 s56 fun _ q => .inl q, ren.mono s56, a1, ra1, rest1, s56 _ _ hDn, rla.mono s56, hk2, htot1⟩
        · have e : j = ds1.length := by omega
          subst e
          rw [List.drop_length] at hgo1
          cases hgo1
          rw [List.append_nil] at htot1
          refine .inl ⟨it1.stop _ Hn L' hSn1 (Nat.le_refl _), hlt, sn, a1, ra1, r, hDn, rla, hk, ?_⟩
          rw [htot1, ← htot, hr, List.append_assoc]
      · rw [hc]
        intro H3 s3
        rw [if_neg (by decide)]
        have s23 : Same H H3 := s2.trans s3
        exact ⟨hlt, s1.trans s23, acc, racc, rest, s23 _ _ hacc, racc'.mono s23, hk, htot⟩
  · have e : i = ds.length := by omega
    subst e
    rw [List.drop_length] at hrest
    cases hrest
    rw [List.append_nil] at htot
    subst htot
    exact .inl ⟨it.stop _ H L' hSn (Nat.le_refl _), hQ D H hD s1 (.lst hacc racc')⟩
theorem tLc2_of {K : PySem.W.Frag} {fi fi1 : IF} {t t1 : Tg} {c c1 e : EF} {vs vs1 : List Nat} (hsl : ∀ i ∈ slotsT t, i ∈ vs) (hsl1 : ∀ i ∈ slotsT t1, i ∈ vs1) : ∀ σ H Q, tN K W (eLc2 vs vs1 fi t c fi1 t1 c1 e) σ H Q → tLc2 (tI K W fi) (gT K t) (tT K WF c) (tIS K WF fi1) (gT K t1) (tT K WF c1) (tE K WF e) vs vs1 σ H Q := fun σ H Q ⟨L, ρ, re, p⟩ => by
  refine ⟨L, ρ, re, ?_⟩
  unfold eLc2 at p
  cases hf : fi ρ with
  | bad => rw [hf] at p; exact p
  | exc c fs => rw [hf] at p; exact p
  | ok ds =>
    rw [hf] at p
    simp only [RL.bind_ok] at p
    cases hg : lc2Go vs1 t c fi1 t1 c1 e (wipeE ρ vs) ds with
    | bad => rw [hg] at p; exact p.elim
    | exc c' fs => rw [hg] at p; exact p.elim
    | ok rs =>
      rw [hg] at p
      unfold lc2R lstR at p
      dsimp only at p
      split at p
      · rename_i hz
        intro J S H1 s1 it hS
        exact lc2_loop (re.mono s1) it hS hsl hsl1 hg hz fun D H' hD s' ow => p H' D (s1.trans s') (s1.free hD) ow
      · exact p.elim
variable {elt tg iter tg1 iter1 : Expr} {ifs ifs1 : List Expr} {scope : Scope} {own : List (Str × Nat)} {pos : Pos} {fi fi1 : IF} {t t1 : Tg} {c c1 e : EF} {i : Nat} {x : Str}
theorem sn_lc2 (vs1 : List Nat) (hN : X.N.Nodup) (hi : SI X W tg iter fi) (ok : BlkOk X.N X.env.scope scope own)
    (hg : ∀ (s : Shared) (H : Hp) (C : Addr) (cl : List (Str × Addr)) (fp : List Addr), PG (X.blk s H scope (compEnvC scope cl C X.env) fp) tg (gT X.K t)) (ht : ∀ (s : Shared) (H : Hp) (C : Addr) (cl : List (Str × Addr)) (fp : List Addr), STs (X.blk s H scope (compEnvC scope cl C X.env) fp) ifs c)
    (hi1 : ∀ (s : Shared) (H : Hp) (C : Addr) (cl : List (Str × Addr)) (fp : List Addr), SIS (X.blk s H scope (compEnvC scope cl C X.env) fp) WF tg1 iter1 fi1)
    (hg1 : ∀ (s : Shared) (H : Hp) (C : Addr) (cl : List (Str × Addr)) (fp : List Addr), PG (X.blk s H scope (compEnvC scope cl C X.env) fp) tg1 (gT X.K t1)) (ht1 : ∀ (s : Shared) (H : Hp) (C : Addr) (cl : List (Str × Addr)) (fp : List Addr), STs (X.blk s H scope (compEnvC scope cl C X.env) fp) ifs1 c1)
    (he : ∀ (s : Shared) (H : Hp) (C : Addr) (cl : List (Str × Addr)) (fp : List Addr), SE (X.blk s H scope (compEnvC scope cl C X.env) fp) WF elt e) (hv : ∀ i ∈ vs1, i ∈ own.map (·.2) := by decide) (hsl : ∀ i ∈ slotsT t, i ∈ own.map (·.2) := by decide) (hsl1 : ∀ i ∈ slotsT t1, i ∈ vs1 := by decide)
    (hc : X.calm = true := by rfl) (hs : ∀ x, foldedSetIterable iter X.env x = pure x := by intro _; rfl) (hs1 : ∀ env x, foldedSetIterable iter1 env x = pure x := by intro _ _; rfl) :
    SN X W (.ListComp elt [⟨tg, iter, ifs, 0⟩, ⟨tg1, iter1, ifs1, 0⟩] scope pos) (eLc2 (own.map (·.2)) vs1 fi t c fi1 t1 c1 e) := (pe_lc2 hc hN hi ok hv hg ht hi1 hg1 ht1 he hs hs1).weak (tLc2_of hsl hsl1)
theorem ss_setLc2 {py spos : Pos} (vs1 : List Nat) (hN : X.N.Nodup) (hi : SI X W tg iter fi) (ok : BlkOk X.N X.env.scope scope own)
    (hg : ∀ (s : Shared) (H : Hp) (C : Addr) (cl : List (Str × Addr)) (fp : List Addr), PG (X.blk s H scope (compEnvC scope cl C X.env) fp) tg (gT X.K t)) (ht : ∀ (s : Shared) (H : Hp) (C : Addr) (cl : List (Str × Addr)) (fp : List Addr), STs (X.blk s H scope (compEnvC scope cl C X.env) fp) ifs c)
    (hi1 : ∀ (s : Shared) (H : Hp) (C : Addr) (cl : List (Str × Addr)) (fp : List Addr), SIS (X.blk s H scope (compEnvC scope cl C X.env) fp) WF tg1 iter1 fi1)
    (hg1 : ∀ (s : Shared) (H : Hp) (C : Addr) (cl : List (Str × Addr)) (fp : List Addr), PG (X.blk s H scope (compEnvC scope cl C X.env) fp) tg1 (gT X.K t1)) (ht1 : ∀ (s : Shared) (H : Hp) (C : Addr) (cl : List (Str × Addr)) (fp : List Addr), STs (X.blk s H scope (compEnvC scope cl C X.env) fp) ifs1 c1)
    (he : ∀ (s : Shared) (H : Hp) (C : Addr) (cl : List (Str × Addr)) (fp : List Addr), SE (X.blk s H scope (compEnvC scope cl C X.env) fp) WF elt e) (hsw : swapsWith (.ListComp elt [⟨tg, iter, ifs, 0⟩, ⟨tg1, iter1, ifs1, 0⟩] scope pos) (some (.Name x py)) spos.line X.env = pure true) (hv : ∀ i ∈ vs1, i ∈ own.map (·.2) := by decide) (hsl : ∀ i ∈ slotsT t, i ∈ own.map (·.2) := by decide) (hsl1 : ∀ i ∈ slotsT t1, i ∈ vs1 := by decide)
    (hy : X.N[i]? = some x := by rfl) (hyl : X.env.scope.names.lookup x = some .local := by rfl) (hc : X.calm = true := by rfl) (hs : ∀ x, foldedSetIterable iter X.env x = pure x := by intro _; rfl) (hs1 : ∀ env x, foldedSetIterable iter1 env x = pure x := by intro _ _; rfl) :
    SS X W (.Assign [.Name x py] (.ListComp elt [⟨tg, iter, ifs, 0⟩, ⟨tg1, iter1, ifs1, 0⟩] scope pos) spos) (sSet i (eLc2 (own.map (·.2)) vs1 fi t c fi1 t1 c1 e)) := fun H0 Lo => (ps_setLc2 hc hN hy hyl hsw hi ok hv hg ht hi1 hg1 ht1 he hs hs1).weak fun D σ H ⟨ρ, α, rst, p⟩ =>
  tLc2_of hsl hsl1 σ H _ ⟨_, ρ, rst.re, p.exprN rst fun d H1 a s n o p1 => (p1.evo (.of_same s)) _ _ H1 ((rst.mono s).set ((o.lives fun z q => .inl (.inl q)).rp fun z => rst.re.lv a z n)) (Evo.rms _)⟩
end

/-! ### calls with keywords, all keyword-only parameters written -/
structure Dk (P : Program) (w : World) (K : PySem.W.Frag) (mg : Str → Option Value) (base : Heap) (x : Str) (k n : Nat) (ks : List Str) (f : List D → Rs) : Prop where
  ex : ∃ (fa : Addr) (fd : FuncData) (ps : List Str), mg x = some (.ref fa) ∧ FnOk P w K mg base (L2.CX P w) k fa fd ps (spP K (n + ks.length) f) ∧ PySem.W.keepIn K (.ref fa) = true ∧ KBn K fd ps n ks (fun us ws => us ++ ws) (fun vs zs => vs ++ zs)
theorem kbindsN {K : PySem.W.Frag} {x qual : Str} {params : Arguments} {body : List Stmt} {scope : Scope} {kws : List (Str × V)} {f : Addr} {fd : FuncData} {ps : List Str} (F : FunD K x qual params body scope [] kws f fd) (n : Nat) (ks : List Str)
    (h : ∀ (kV doc pm : Value) (an : Option Addr) (cdv ct : Value) (us ws : List Value), us.length = n → ws.length = ks.length → bindArgs (PySem.W.fnOf x qual params body scope .none kV doc pm an cdv ct) ⟨us, ks.zip ws⟩ = pure (ps.zip (us ++ ws)))
    (some_kw : kws ≠ [] := by simp) : KBn K fd ps n ks (fun us ws => us ++ ws) (fun vs zs => vs ++ zs) :=
  (F.kbinds0 n ks [] (fun us _ ws => us ++ ws) some_kw (by simp) (fun a _ b => a.append b) fun D doc pm an cdv ct us _ ws l _ l' => h (.ref D) doc pm an cdv ct us ws l l').elim fun _ z => z
abbrev SK (X : Cx) (W : WX) (kws : List Keyword) (fs : List EF) : Prop := PK X kws (tA X.K W fs)
section
variable {X : Cx} {W : WX} {e : Expr} {es : List Expr} {kws : List Keyword} {f : EF} {fs gs : List EF} {p pos kpos : Pos} {nm : Option Str} {x : Str} {ks : List Str}
theorem _root_.L2.PK.weak {t t' : TA} (h : PK X kws t) (hw : ∀ σ H Q, t' σ H Q → t σ H Q) : PK X kws t' := ⟨fun p pins s σ H Q I q => h.run p pins s σ H Q I (hw σ H Q q)⟩
theorem sk_nil : SK X W [] [] := pk_nil.weak fun σ H Q ⟨L, ρ, re, p⟩ => p H [] (Same.refl H) .nil
theorem sk_cons (ha : SE X W e f) (hr : SK X W kws fs) : SK X W (⟨nm, e, kpos⟩ :: kws) (f :: fs) := (pk_cons ha hr).weak fun σ H Q ⟨L, ρ, re, p⟩ => by
  refine ⟨L, ρ, re, ?_⟩
  simp only [evA_cons] at p
  cases hf : f ρ with
  | bad => rw [hf] at p; exact p
  | exc c fs => rw [hf] at p; exact p
  | ok d =>
    rw [hf] at p
    intro H1 v s1 r1
    refine ⟨L, ρ, re.mono s1, ?_⟩
    cases hg : evA fs ρ with
    | bad => rw [hg] at p; exact p
    | exc c fs => rw [hg] at p; exact fun H' x s' => p H' x (s1.trans s')
    | ok ds => rw [hg] at p; exact fun H' vs s' r' => p H' (v :: vs) (s1.trans s') (.cons (r1.mono s') r')
theorem evA_append (fs gs : List EF) (ρ : En) : evA (fs ++ gs) ρ = match evA fs ρ with
    | .ok ds => (match evA gs ρ with
      | .ok es => .ok (ds ++ es)
      | .exc c fs => .exc c fs
      | .bad => .bad)
    | .exc c fs => .exc c fs
    | .bad => .bad := by
  induction fs with
  | nil => simp only [List.nil_append, evA_nil]; cases evA gs ρ <;> rfl
  | cons f fs ih =>
    rw [List.cons_append, evA_cons, ih, evA_cons]
    cases f ρ with
    | bad => rfl
    | exc c fs => rfl
    | ok d =>
      cases evA fs ρ with
      | bad => rfl
      | exc c fs => rfl
      | ok ds => cases evA gs ρ <;> rfl
theorem evA_length : ∀ {gs : List EF} {ρ : En} {ds : List D}, evA gs ρ = .ok ds → ds.length = gs.length := by
  intro gs
  induction gs with
  | nil => intro ρ ds h; cases h; rfl
  | cons g gs ih =>
    intro ρ ds h
    rw [evA_cons] at h
    cases hg : g ρ with
    | bad => rw [hg] at h; cases h
    | exc c fs => rw [hg] at h; cases h
    | ok d =>
      rw [hg] at h
      cases hq : evA gs ρ with
      | bad => rw [hq] at h; cases h
      | exc c fs => rw [hq] at h; cases h
      | ok es => rw [hq] at h; cases h; simp [ih hq]
/-- the call itself: values and keywords' values at hand -/
theorem kw_here {k n : Nat} {fa : Addr} {fd : FuncData} {ps : List Str} {sp : Sp} {gN : List Value → List Value → List Value} {gV : List V → List V → List V} {σ : St} {pn : List (Addr × Obj)} {H : Hp} {s : Shared} {Q : VK} {us ws : List Value} {vs zs : List V}
    (ok : FnOk X.prog X.w X.K X.mg X.base (L2.CX X.prog X.w) k fa fd ps sp) (room : Room k X.A) (bd : KBn X.K fd ps n ks gN gV) (tk : Takes X W) (inv : Inv X pn σ H s) (ru : Vals vs us) (rw : Vals zs ws) (nu : vs.length = n) (nw : zs.length = ks.length)
    (go : sp (gV vs zs) H Q (WE W σ)) : wpAny (model X.prog X.w) X.A (call (.ref fa) us (ks.zip ws)) (EP X pn σ Q) X.xe s := by
  have lu : us.length = n := ru.length ▸ nu
  have lw : ws.length = ks.length := rw.length ▸ nw
  have ran := ok.run X.A X.stack s H ⟨us, ks.zip ws⟩ _ _ Q (WE W σ) room inv.env0 (bd.to s us ws inv.kIn lu lw) (bd.rel ru rw) go
  refine wpAny_call (codeAny_mono ran ?_)
  rintro (err | flow) s' out
  · exact passAt tk σ pn H s err s' inv out
  · match flow, out with
    | .ret _, out => exact inv.after out
/-- what its parts come to -/
theorem kw_post {K : PySem.W.Frag} {L : Ad} {ρ : En} {σ : St} {H : Hp} {n m : Nat} {g : List D → Rs} {Q : VK} (re : RE K H L ρ σ) (nf : fs.length = n) (ng : gs.length = m) (pp : Post K W L σ H (eCall g (fs ++ gs) ρ) Q) :
    PostA K W L σ H (evA fs ρ) fun vs H1 => tA K W gs σ H1 fun zs H2 => vs.length = n ∧ zs.length = m ∧ spP K (n + m) g (vs ++ zs) H2 Q (WE W σ) := by
  unfold eCall at pp
  rw [evA_append] at pp
  cases hA : evA fs ρ with
  | bad => rw [hA] at pp; exact pp
  | exc c fs => rw [hA] at pp; exact pp
  | ok ds =>
    rw [hA] at pp
    intro H1 vs s1 r1
    refine ⟨L, ρ, re.mono s1, ?_⟩
    cases hB : evA gs ρ with
    | bad => rw [hB] at pp; exact pp
    | exc c fs => rw [hB] at pp; exact fun H' x s' => pp H' x (s1.trans s')
    | ok es =>
      rw [hB] at pp
      simp only [RL.bind_ok] at pp
      intro H2 zs s2 r2
      have l1 := evA_length hA
      have l2 := evA_length hB
      refine ⟨by rw [← r1.length, l1, nf], by rw [← r2.length, l2, ng], L, ds ++ es, re.lv.mono (s1.trans s2), by rw [List.length_append, l1, l2, nf, ng], (r1.mono s2).append r2, ?_⟩
      have p1 := pp.mono (s1.trans s2)
      cases hg : g (ds ++ es) with
      | bad => rw [hg] at p1; exact p1.elim
      | exc c fs => rw [hg] at p1; exact p1
      | ok d => rw [hg] at p1; exact p1
/-- the plain arguments of a call with keywords, as the model hands them on -/
abbrev KwNamed (X : Cx) (pos : Pos) (kws : List Keyword) : Prop := (backToKw pos (keywordEach kws X.env)).all (·.1.isSome) = true
abbrev KwPlain (X : Cx) (pos : Pos) (e : Expr) (es : List Expr) (kws : List Keyword) : Prop := ((backTo pos (starEach (e :: es) X.env)).any (·.1) || (backToKw pos (keywordEach kws X.env)).any (·.1.isNone)) = false
abbrev FstPlain (X : Cx) (e : Expr) (es : List Expr) : Prop := starEach (e :: es) X.env = (false, eval e X.env) :: starEach es X.env
/-- f(e, .., k = v, ..) -/
theorem se_callK {k n : Nat} {g : List D → Rs} (F : Dk X.prog X.w X.K X.mg X.base x k n ks g) (hr : Room k X.A) (tk : Takes X W) (ha : SA X W (e :: es) fs) (hkw : SK X W kws gs) (hfl : fs.length = n := by rfl) (hgl : gs.length = ks.length := by rfl) (hg : Gl X x := by rfl)
    (named : KwNamed X pos kws := by rfl) (hks : (backToKw pos (keywordEach kws X.env)).filterMap (·.1) = ks := by rfl) (hdb : (x == ("__debug__" : Str)) = false := by decide) (fst : FstPlain X e es := by rfl) (plain : KwPlain X pos e es kws := by rfl) :
    SE X W (.Call (.Name x p) (e :: es) kws pos) (eCall g (fs ++ gs)) := by
  obtain ⟨fa, fd, ps, hm, ok, kp, bd⟩ := F.ex
  constructor
  rintro pn s σ H Q inv ⟨L, ρ, re, pp⟩
  have parts := ha.run pos pn s σ H _ inv ⟨L, ρ, re, kw_post re hfl hgl pp⟩
  have whole := PySem.W.callWith_KW (h₀ := X.base) (f := .ref fa) (first := []) (Q := EP X pn σ Q) inv.ok.mod.kin kp named (thn parts ?_) plain fst
  · exact wpAny_Call_Name_kw (ld_glob inv hg hm whole hdb)
  · rintro us s1 ⟨vs, H1, inv1, ru, more⟩
    refine thn (hkw.run pos pn s1 σ H1 _ inv1 more) ?_
    rintro ws s2 ⟨zs, H2, inv2, rw, nu, nw, go⟩
    rw [hks]
    exact ⟨inv2.kIn, kw_here ok hr bd tk inv2 ru rw nu nw go⟩
end
/-! the end of a law -/
/-- the law's def is a function f of its script; f says True of every script: the row holds -/
theorem law_end {l : PySem.W.OpenLaw} {k : Nat} {q : Program} {loose : List Str} {XP : (Str → Option Value) → Heap → Prop} {YP : World → Heap → Prop} {d : DefRec} {f : List D → Rs} (most : l.most = some 63) (nodef : d.params.defaults = []) (room : Room k callerA)
    (plain : ∀ ns : List Int, ns.length ≤ 63 → f [rdL ns] = .ok (.bool true))
    (found : ∀ (w : World) (mg : Str → Option Value) (fa : Addr) (h : Heap), YP w h → h.Ns mainGlobals mg → mg d.name = some (.ref fa) → ∃ (K : PySem.W.Frag) (fd : FuncData), K.In h ∧ (∀ (s : Shared) (u : Value), BindsTo s fd ⟨[u], []⟩ [("script", u)]) ∧
      ∀ base : Heap, K.In base → base.Ns mainGlobals mg → FnOk l.prog w K mg base (L2.CX l.prog w) k fa fd ["script"] (spP K 1 f)) :
    PySem.W.WalkO q loose XP YP l.row.toRowW d [] (fun g us => PySem.call g us) :=
  Att.attach_call most nodef fun w _ st mg mb fa _ _ _ _ a vs ns ground said _ _ _ named obj whole short bare => by
    obtain ⟨K, fd, inn, binds, ok⟩ := found w mg fa _ said ground.T.g named
    refine law_call inn ground.T.g ground.T.b ground.T.builtins ground.T.nolimit bare obj whole (Nat.le_trans short (by decide)) room ok binds (fun H only seq => ?_) fun H e s' c => ?_
    · have lies : SqF K H a (ns.map V.int) := by
        rcases seq with (z | z) | z
        · rcases only a with y | ⟨o, xs, y⟩ <;> rw [z] at y <;> cases y
        · exact .inl z
        · exact .inr (.inr z)
      refine ⟨fun _ => False, [rdL ns], fun _ z => z.elim, rfl, .cons (.rd lies) .nil, ?_⟩
      rw [plain ns short]
      exact fun H' v _ r => r.blV
    · exact let ⟨_, _, _, _, _, _, _, _, _, _, _, _, z⟩ := c; z.elim
end VV

set_option Elab.async false
set_option linter.all false
set_option maxRecDepth 100000
set_option maxHeartbeats 4000000
/-! VVl: min and max of a list or a tuple of ints. -/
namespace VV
open PySem PySem.Spec L2
open PyProof.Rows hiding St
theorem foldl_max (ns : List Int) : ∀ n : Int, ns.foldl max n ∈ n :: ns ∧ ∀ y ∈ n :: ns, y ≤ ns.foldl max n := by
  induction ns with
  | nil => intro n; simp
  | cons m ns ih =>
    intro n
    obtain ⟨h1, h2⟩ := ih (max n m)
    rw [List.foldl_cons]
    refine ⟨?_, fun y hy => ?_⟩
    · rcases List.mem_cons.mp h1 with h | h
      · rw [h]
        rcases Int.le_total n m with q | q
        · rw [Int.max_eq_right q]; simp
        · rw [Int.max_eq_left q]; simp
      · simp [h]
    · have h3 := h2 (max n m) (by simp)
      simp only [List.mem_cons] at hy
      rcases hy with rfl | rfl | hy
      · omega
      · omega
      · exact h2 y (by simp [hy])
theorem foldl_min (ns : List Int) : ∀ n : Int, ns.foldl min n ∈ n :: ns ∧ ∀ y ∈ n :: ns, ns.foldl min n ≤ y := by
  induction ns with
  | nil => intro n; simp
  | cons m ns ih =>
    intro n
    obtain ⟨h1, h2⟩ := ih (min n m)
    rw [List.foldl_cons]
    refine ⟨?_, fun y hy => ?_⟩
    · rcases List.mem_cons.mp h1 with h | h
      · rw [h]
        rcases Int.le_total n m with q | q
        · rw [Int.min_eq_left q]; simp
        · rw [Int.min_eq_right q]; simp
      · simp [h]
    · have h3 := h2 (min n m) (by simp)
      simp only [List.mem_cons] at hy
      rcases hy with rfl | rfl | hy
      · omega
      · omega
      · exact h2 y (by simp [hy])
def bestI (f : Int → Int → Int) : List Int → Option D
  | [] => none
  | n :: ns => some (.int (ns.foldl f n))
def best1F (f : Int → Int → Int) : List D → Option D
  | [.list ds] => (intsOf ds).bind (bestI f)
  | [.tuple ds] => (intsOf ds).bind (bestI f)
  | _ => none
theorem readsAll_ints {h : Heap} {us : List Value} {ns : List Int} (hi : IntsAre us ns) : ReadsAll h us (ns.map PyData.int) [] := by
  induction hi with
  | nil => exact .nil
  | cons n t _ ih => exact ReadsAll.cons (as := []) (bs := []) (.int n t) ih
theorem depthAll_ints (ns : List Int) : PyData.depthAll (ns.map PyData.int) = 0 := by
  induction ns with
  | nil => rfl
  | cons n ns ih => simp [PyData.depthAll, PyData.depth, ih]
section
variable {X : Cx}
theorem alike_ints (ns : List Int) : PySem.W.AlikeAll (ns.map PyData.int) := by
  refine ⟨fun x hx y hy => ?_, fun x hx => ?_⟩
  · obtain ⟨i, _, rfl⟩ := List.mem_map.mp hx
    obtain ⟨j, _, rfl⟩ := List.mem_map.mp hy
    rfl
  · obtain ⟨i, _, rfl⟩ := List.mem_map.mp hx
    intro z
    cases z
theorem cl_max1 {k : Nat} (hr : Room k X.A) (hc : X.calm = true) : ClD X (.builtin "max") (best1F max) := by
  intro pn s σ H xs us Q I rs h
  obtain ⟨L, ds, d, lv, rb, hf, k⟩ := h
  unfold best1F at hf
  split at hf
  · obtain ⟨v, rfl, r⟩ := rb.one
    obtain ⟨a, vs, rfl, ha, rl⟩ := r.lstV
    obtain ⟨ns, e, hf2⟩ := Option.bind_eq_some_iff.mp hf
    have ed := intsOf_eq e
    subst ed
    have ev := rl.ints
    subst ev
    cases ns with
    | nil => cases hf2
    | cons n ns =>
      cases hf2
      refine cr_max hc pn s σ H _ us Q I rs ⟨a, n :: ns, rfl, SqL.of ha, by simp, fun m hm hle => ?_⟩
      obtain ⟨h1, h2⟩ := foldl_max ns n
      have e : m = ns.foldl max n := by have := hle _ h1; have := h2 _ hm; omega
      subst e
      exact k H _ (Same.refl H) (.int _)
  · obtain ⟨v, rfl, r⟩ := rb.one
    obtain ⟨a, vs, rfl, ha, rl⟩ := r.tupV
    obtain ⟨ns, e, hf2⟩ := Option.bind_eq_some_iff.mp hf
    have ed := intsOf_eq e
    subst ed
    have ev := rl.ints
    subst ev
    cases ns with
    | nil => cases hf2
    | cons n ns =>
      cases hf2
      obtain ⟨its, rv, hl, _⟩ := I.tuple (SqT.of ha)
      rw [Vals.ref1 rs]
      have hu := hr.un
      refine PySem.W.max_tuple_data (x := .int n) (xs := ns.map PyData.int) (vs := its.toArray) (I.ok.hd hc) (show s.heap.IsTuple a its.toArray from hl) (readsAll_ints (ns := n :: ns) rv.ints) (alike_ints (n :: ns)) (by rw [show PyData.int n :: ns.map PyData.int = (n :: ns).map PyData.int from rfl, depthAll_ints]; omega) fun i v h' tk bs _ rd hk => ?_
      rw [PySem.W.maxD_ints] at rd
      cases rd
      exact ⟨.int _, H, I.kept hk, ⟨_, rfl⟩, k H _ (Same.refl H) (.int _)⟩
  · cases hf
theorem cl_min1 {k : Nat} (hr : Room k X.A) (hc : X.calm = true) : ClD X (.builtin "min") (best1F min) := by
  intro pn s σ H xs us Q I rs h
  obtain ⟨L, ds, d, lv, rb, hf, k⟩ := h
  unfold best1F at hf
  split at hf
  · obtain ⟨v, rfl, r⟩ := rb.one
    obtain ⟨a, vs, rfl, ha, rl⟩ := r.lstV
    obtain ⟨ns, e, hf2⟩ := Option.bind_eq_some_iff.mp hf
    have ed := intsOf_eq e
    subst ed
    have ev := rl.ints
    subst ev
    cases ns with
    | nil => cases hf2
    | cons n ns =>
      cases hf2
      refine cr_min hc pn s σ H _ us Q I rs ⟨a, n :: ns, rfl, SqL.of ha, by simp, fun m hm hle => ?_⟩
      obtain ⟨h1, h2⟩ := foldl_min ns n
      have e : m = ns.foldl min n := by have := hle _ h1; have := h2 _ hm; omega
      subst e
      exact k H _ (Same.refl H) (.int _)
  · obtain ⟨v, rfl, r⟩ := rb.one
    obtain ⟨a, vs, rfl, ha, rl⟩ := r.tupV
    obtain ⟨ns, e, hf2⟩ := Option.bind_eq_some_iff.mp hf
    have ed := intsOf_eq e
    subst ed
    have ev := rl.ints
    subst ev
    cases ns with
    | nil => cases hf2
    | cons n ns =>
      cases hf2
      obtain ⟨its, rv, hl, _⟩ := I.tuple (SqT.of ha)
      rw [Vals.ref1 rs]
      have hu := hr.un
      refine PySem.W.min_tuple_data (x := .int n) (xs := ns.map PyData.int) (vs := its.toArray) (I.ok.hd hc) (show s.heap.IsTuple a its.toArray from hl) (readsAll_ints (ns := n :: ns) rv.ints) (alike_ints (n :: ns)) (by rw [show PyData.int n :: ns.map PyData.int = (n :: ns).map PyData.int from rfl, depthAll_ints]; omega) fun i v h' tk bs _ rd hk => ?_
      rw [PySem.W.minD_ints] at rd
      cases rd
      exact ⟨.int _, H, I.kept hk, ⟨_, rfl⟩, k H _ (Same.refl H) (.int _)⟩
  · cases hf
end
end VV

set_option Elab.async false
set_option linter.all false
set_option maxRecDepth 100000
set_option maxHeartbeats 4000000
/-! PLa: how the functions of the layer are worked out, by rewriting. -/
namespace VV
open PySem PySem.Spec L2
open PyProof.Rows hiding St

def seqO : Out → SF → Out
  | .nx ρ, g => g ρ
  | o, _ => o
theorem ap_sSeq (f g : SF) (ρ : En) : sSeq f g ρ = seqO (f ρ) g := by unfold sSeq seqO; cases f ρ <;> rfl
theorem seqO_nx (ρ : En) (g : SF) : seqO (.nx ρ) g = g ρ := rfl
theorem seqO_rt (d : D) (g : SF) : seqO (.rt d) g = .rt d := rfl
theorem seqO_exc (c : Str) (fs : List (Str × D)) (ρ : En) (g : SF) : seqO (.exc c fs ρ) g = .exc c fs ρ := rfl
theorem seqO_bk (ρ : En) (g : SF) : seqO (.bk ρ) g = .bk ρ := rfl
theorem seqO_ct (ρ : En) (g : SF) : seqO (.ct ρ) g = .ct ρ := rfl
def ifO : Rs → SF → SF → SF
  | .ok (.bool true), f, _, ρ => f ρ
  | .ok (.bool false), _, g, ρ => g ρ
  | .exc c fs, _, _, ρ => .exc c fs ρ
  | _, _, _, _ => .bad
theorem ap_sIf (c : EF) (f g : SF) (ρ : En) : sIf c f g ρ = ifO (c ρ) f g ρ := by
  unfold sIf ifO
  cases c ρ with
  | ok d => cases d with
    | bool b => cases b <;> rfl
    | _ => rfl
  | exc _ _ => rfl
  | bad => rfl
theorem ifO_t (f g : SF) (ρ : En) : ifO (.ok (.bool true)) f g ρ = f ρ := rfl
theorem ifO_f (f g : SF) (ρ : En) : ifO (.ok (.bool false)) f g ρ = g ρ := rfl
theorem ifO_exc (c : Str) (fs : List (Str × D)) (f g : SF) (ρ : En) : ifO (.exc c fs) f g ρ = .exc c fs ρ := rfl
theorem ap_sNx (ρ : En) : sNx ρ = .nx ρ := rfl
theorem ap_sSet (i : Nat) (f : EF) (ρ : En) : sSet i f ρ = (f ρ).out ρ fun d => .nx (ρ.set i (some (.val d))) := rfl
theorem ap_sOwn (i : Nat) (f : EF) (ρ : En) : sOwn i f ρ = (f ρ).out ρ fun d => .nx (ρ.set i (some (.own d))) := rfl
theorem ap_sRet (f : EF) (ρ : En) : sRet f ρ = (f ρ).out ρ fun d => .rt d := rfl
theorem ap_sDrop (f : EF) (ρ : En) : sDrop f ρ = (f ρ).out ρ fun _ => .nx ρ := rfl
theorem ap_sAsg (t : Tg) (f : EF) (ρ : En) : sAsg t f ρ = (f ρ).out ρ fun d => outB (bindT t d ρ) := rfl
theorem outB_some (ρ : En) : outB (some ρ) = .nx ρ := rfl
theorem bT_nm (i : Nat) (d : D) (ρ : En) : bindT (.nm i) d ρ = some (ρ.set i (some (.val d))) := by simp [bindT]
theorem bT_tp (ts : List Tg) (ds : List D) (ρ : En) : bindT (.tp ts) (.tuple ds) ρ = bindTs ts ds ρ := by simp [bindT]
theorem bTs_nil (ρ : En) : bindTs [] [] ρ = some ρ := by simp [bindTs]
theorem bTs_cons (t : Tg) (ts : List Tg) (d : D) (ds : List D) (ρ : En) : bindTs (t :: ts) (d :: ds) ρ = (bindT t d ρ).bind fun ρ => bindTs ts ds ρ := by simp [bindTs]
theorem ap_sRaise (c : Str) (ρ : En) : sRaise c ρ = .exc c [] ρ := rfl
def parO (i j : Nat) (ρ : En) : RL → Out
  | .ok [x, y] => .nx ((ρ.set i (some (.val x))).set j (some (.val y)))
  | .exc c fs => .exc c fs ρ
  | _ => .bad
theorem ap_sPar (i j : Nat) (fs : List EF) (ρ : En) : sPar i j fs ρ = parO i j ρ (evA fs ρ) := by
  unfold sPar parO RL.out
  cases evA fs ρ with
  | ok ds =>
    match ds with
    | [] => rfl
    | [_] => rfl
    | [_, _] => rfl
    | _ :: _ :: _ :: _ => rfl
  | exc _ _ => rfl
  | bad => rfl
theorem parO_ok (i j : Nat) (ρ : En) (x y : D) : parO i j ρ (.ok [x, y]) = .nx ((ρ.set i (some (.val x))).set j (some (.val y))) := rfl
theorem ap_sFor (fi : IF) (t : Tg) (f : SF) (ρ : En) : sFor fi t f ρ = (fi ρ).out ρ fun ds => forGo t f ds ρ := rfl
def retO : Option (Option Sl) → Out
  | some (some (.own d)) => .rt d
  | some (some (.val d)) => .rt d
  | _ => .bad
theorem ap_sRetV (i : Nat) (ρ : En) : sRetV i ρ = retO ρ[i]? := rfl
theorem retO_own (d : D) : retO (some (some (.own d))) = .rt d := rfl
theorem retO_val (d : D) : retO (some (some (.val d))) = .rt d := rfl
def frzO (i : Nat) (f : SF) (ρ : En) : Option (Option Sl) → Out
  | some (some (.own d)) => f (ρ.set i (some (.val d)))
  | some (some (.val _)) => f ρ
  | _ => .bad
theorem ap_sFrz (i : Nat) (f : SF) (ρ : En) : sFrz i f ρ = frzO i f ρ ρ[i]? := rfl
theorem frzO_own (i : Nat) (f : SF) (ρ : En) (d : D) : frzO i f ρ (some (some (.own d))) = f (ρ.set i (some (.val d))) := rfl
theorem frzO_val (i : Nat) (f : SF) (ρ : En) (d : D) : frzO i f ρ (some (some (.val d))) = f ρ := rfl
def appO (i : Nat) (ρ : En) (o : Option (Option Sl)) (r : Rs) : Out := match o with
  | some (some (.own (.list ds))) => r.out ρ fun d => if ds.length < sizeLine then .nx (ρ.set i (some (.own (.list (ds ++ [d]))))) else .bad
  | _ => .bad
theorem ap_sApp (i : Nat) (f : EF) (ρ : En) : sApp i f ρ = appO i ρ ρ[i]? (f ρ) := rfl
theorem appO_ok (i : Nat) (ρ : En) (ds : List D) (d : D) (h : ds.length < 16777216) : appO i ρ (some (some (.own (.list ds)))) (.ok d) = .nx (ρ.set i (some (.own (.list (ds ++ [d]))))) := if_pos h
def extO (i : Nat) (ρ : En) (o : Option (Option Sl)) (r : Rs) : Out := match o with
  | some (some (.own (.list ds))) => r.out ρ fun d => match d with
    | .list es => if ds.length + es.length ≤ sizeLine then .nx (ρ.set i (some (.own (.list (ds ++ es))))) else .bad
    | _ => .bad
  | _ => .bad
theorem extO_ok (i : Nat) (ρ : En) (ds es : List D) (h : ds.length + es.length ≤ 16777216) : extO i ρ (some (some (.own (.list ds)))) (.ok (.list es)) = .nx (ρ.set i (some (.own (.list (ds ++ es))))) := if_pos h
theorem ap_sExt (i : Nat) (f : EF) (ρ : En) : sExt i f ρ = extO i ρ ρ[i]? (f ρ) := rfl
/-! expressions -/
def valO : Option (Option Sl) → Rs
  | some (some (.val d)) => .ok d
  | _ => .bad
theorem ap_eV (i : Nat) (ρ : En) : eV i ρ = valO ρ[i]? := rfl
theorem valO_val (d : D) : valO (some (some (.val d))) = .ok d := rfl
def borO : Option (Option Sl) → Rs
  | some (some (.val d)) => .ok d
  | some (some (.own d)) => .ok d
  | _ => .bad
theorem ap_eB (i : Nat) (ρ : En) : eB i ρ = borO ρ[i]? := rfl
theorem borO_val (d : D) : borO (some (some (.val d))) = .ok d := rfl
theorem borO_own (d : D) : borO (some (some (.own d))) = .ok d := rfl
theorem ap_eC (d : D) (ρ : En) : eC d ρ = .ok d := rfl
def opO (fn : D → D → Option D) (x y : Rs) : Rs := x.bind fun x => y.bind fun y => Rs.of (fn x y)
theorem ap_eOp (fn : D → D → Option D) (f g : EF) (ρ : En) : eOp fn f g ρ = opO fn (f ρ) (g ρ) := rfl
theorem opO_ok (fn : D → D → Option D) (x y : D) : opO fn (.ok x) (.ok y) = Rs.of (fn x y) := rfl
theorem ap_eUn (fn : D → Option D) (f : EF) (ρ : En) : eUn fn f ρ = (f ρ).bind fun x => Rs.of (fn x) := rfl
theorem ap_eTup (fs : List EF) (ρ : En) : eTup fs ρ = (evA fs ρ).bind tupR := rfl
theorem ap_eLst (fs : List EF) (ρ : En) : eLst fs ρ = (evA fs ρ).bind lstR := rfl
theorem tupR_ok (ds : List D) (h : ds.length ≤ 16777216) : tupR ds = .ok (.tuple ds) := if_pos h
theorem lstR_ok (ds : List D) (h : ds.length ≤ 16777216) : lstR ds = .ok (.list ds) := if_pos h
theorem ap_eCB (fn : List D → Option D) (fs : List EF) (ρ : En) : eCB fn fs ρ = (evA fs ρ).bind fun ds => Rs.of (fn ds) := rfl
def callO (f : List D → Rs) (r : RL) : Rs := r.bind f
theorem ap_eCall (f : List D → Rs) (fs : List EF) (ρ : En) : eCall f fs ρ = callO f (evA fs ρ) := rfl
theorem callO_ok (f : List D → Rs) (ds : List D) : callO f (.ok ds) = f ds := Eq.trans rfl rfl
theorem callO_exc (f : List D → Rs) (c : Str) (fs : List (Str × D)) : callO f (.exc c fs) = .exc c fs := Eq.trans rfl rfl
theorem ap_gNot (f : EF) (ρ : En) : gNot f ρ = (f ρ).bind notR := rfl
theorem notR_b (b : Bool) : notR (.bool b) = .ok (.bool (!b)) := rfl
theorem ap_gTru (f : EF) (ρ : En) : gTru f ρ = (f ρ).bind truR := rfl
theorem truR_b (b : Bool) : truR (.bool b) = .ok (.bool b) := rfl
theorem truR_list (ds : List D) : truR (.list ds) = .ok (.bool (!ds.isEmpty)) := rfl
def andO : Rs → EF → EF
  | .ok (.bool true), g, ρ => g ρ
  | .ok (.bool false), _, _ => .ok (.bool false)
  | .exc c fs, _, _ => .exc c fs
  | _, _, _ => .bad
def orO : Rs → EF → EF
  | .ok (.bool false), g, ρ => g ρ
  | .ok (.bool true), _, _ => .ok (.bool true)
  | .exc c fs, _, _ => .exc c fs
  | _, _, _ => .bad
theorem ap_gAnd (f g : EF) (ρ : En) : gAnd f g ρ = andO (f ρ) g ρ := by
  unfold gAnd andO Rs.bind andR
  cases f ρ with
  | ok d => cases d with
    | bool b => cases b <;> rfl
    | _ => rfl
  | exc _ _ => rfl
  | bad => rfl
theorem ap_gOr (f g : EF) (ρ : En) : gOr f g ρ = orO (f ρ) g ρ := by
  unfold gOr orO Rs.bind orR
  cases f ρ with
  | ok d => cases d with
    | bool b => cases b <;> rfl
    | _ => rfl
  | exc _ _ => rfl
  | bad => rfl
theorem andO_t (g : EF) (ρ : En) : andO (.ok (.bool true)) g ρ = g ρ := rfl
theorem andO_f (g : EF) (ρ : En) : andO (.ok (.bool false)) g ρ = .ok (.bool false) := rfl
theorem orO_t (g : EF) (ρ : En) : orO (.ok (.bool true)) g ρ = .ok (.bool true) := rfl
theorem orO_f (g : EF) (ρ : En) : orO (.ok (.bool false)) g ρ = g ρ := rfl
/-- values: and, or of tests that are bools -/
def eandO : Rs → EF → EF
  | .ok d, g, ρ => (match tru d with
    | some true => g ρ
    | some false => .ok d
    | none => .bad)
  | .exc c fs, _, _ => .exc c fs
  | .bad, _, _ => .bad
def eorO : Rs → EF → EF
  | .ok d, g, ρ => (match tru d with
    | some true => .ok d
    | some false => g ρ
    | none => .bad)
  | .exc c fs, _, _ => .exc c fs
  | .bad, _, _ => .bad
theorem ap_eAnd (f g : EF) (ρ : En) : eAnd f g ρ = eandO (f ρ) g ρ := by
  unfold eAnd eandO Rs.bind
  cases f ρ <;> rfl
theorem ap_eOr (f g : EF) (ρ : En) : eOr f g ρ = eorO (f ρ) g ρ := by
  unfold eOr eorO Rs.bind
  cases f ρ <;> rfl
theorem eandO_t (g : EF) (ρ : En) : eandO (.ok (.bool true)) g ρ = g ρ := rfl
theorem eandO_f (g : EF) (ρ : En) : eandO (.ok (.bool false)) g ρ = .ok (.bool false) := rfl
theorem eorO_t (g : EF) (ρ : En) : eorO (.ok (.bool true)) g ρ = .ok (.bool true) := rfl
theorem eorO_f (g : EF) (ρ : En) : eorO (.ok (.bool false)) g ρ = g ρ := rfl
def enotO : Rs → Rs
  | .ok d => (match tru d with
    | some b => .ok (.bool (!b))
    | none => .bad)
  | .exc c fs => .exc c fs
  | .bad => .bad
theorem ap_eNot (f : EF) (ρ : En) : eNot f ρ = enotO (f ρ) := by
  unfold eNot enotO Rs.bind
  cases f ρ <;> rfl
theorem enotO_b (b : Bool) : enotO (.ok (.bool b)) = .ok (.bool (!b)) := rfl
theorem enotO_list (ds : List D) : enotO (.ok (.list ds)) = .ok (.bool (! !ds.isEmpty)) := rfl
def eifO : Rs → EF → EF → EF
  | .ok (.bool true), f, _, ρ => f ρ
  | .ok (.bool false), _, g, ρ => g ρ
  | .exc c fs, _, _, _ => .exc c fs
  | _, _, _, _ => .bad
theorem ap_eIf (c f g : EF) (ρ : En) : eIf c f g ρ = eifO (c ρ) f g ρ := by
  unfold eIf eifO Rs.bind ifR
  cases c ρ with
  | ok d => cases d with
    | bool b => cases b <;> rfl
    | _ => rfl
  | exc _ _ => rfl
  | bad => rfl
theorem eifO_t (f g : EF) (ρ : En) : eifO (.ok (.bool true)) f g ρ = f ρ := rfl
theorem eifO_f (f g : EF) (ρ : En) : eifO (.ok (.bool false)) f g ρ = g ρ := rfl
def chO (fn fn' : D → D → Option D) (x y : Rs) (h : EF) (ρ : En) : Rs := x.bind fun x => y.bind fun y => andO (Rs.of (fn x y)) (fun ρ => opO fn' (.ok y) (h ρ)) ρ
theorem ap_eChain (fn fn' : D → D → Option D) (f g h : EF) (ρ : En) : eChain fn fn' f g h ρ = chO fn fn' (f ρ) (g ρ) h ρ := by
  unfold eChain chO
  cases f ρ with
  | ok x =>
    cases g ρ with
    | ok y =>
      simp only [Rs.bind_ok]
      cases fn x y with
      | none => rfl
      | some d => cases d with
        | bool b => cases b <;> rfl
        | _ => rfl
    | exc _ _ => rfl
    | bad => rfl
  | exc _ _ => rfl
  | bad => rfl
theorem chO_ok (fn fn' : D → D → Option D) (x y : D) (h : EF) (ρ : En) : chO fn fn' (.ok x) (.ok y) h ρ = andO (Rs.of (fn x y)) (fun ρ => opO fn' (.ok y) (h ρ)) ρ := rfl
def isiO (g : D → Bool) : Rs → Rs
  | .ok (.dict _) => .bad
  | .ok d => .ok (.bool (g d))
  | .exc c fs => .exc c fs
  | .bad => .bad
theorem ap_eIsi (g : D → Bool) (f : EF) (ρ : En) : eIsi g f ρ = isiO g (f ρ) := by
  unfold eIsi isiO Rs.bind
  cases f ρ with
  | ok d => cases d <;> rfl
  | exc _ _ => rfl
  | bad => rfl
theorem isiO_int (g : D → Bool) (i : Int) : isiO g (.ok (.int i)) = .ok (.bool (g (.int i))) := rfl
theorem isiO_tup (g : D → Bool) (i : List D) : isiO g (.ok (.tuple i)) = .ok (.bool (g (.tuple i))) := rfl
theorem isiO_lst (g : D → Bool) (i : List D) : isiO g (.ok (.list i)) = .ok (.bool (g (.list i))) := rfl
theorem isiO_bl (g : D → Bool) (i : Bool) : isiO g (.ok (.bool i)) = .ok (.bool (g (.bool i))) := rfl
theorem isiO_str (g : D → Bool) (i : Str) : isiO g (.ok (.str i)) = .ok (.bool (g (.str i))) := rfl
theorem isiO_non (g : D → Bool) : isiO g (.ok .none) = .ok (.bool (g .none)) := rfl
theorem isInt_int (i : Int) : isInt (.int i) = true := rfl
theorem isInt_bl (b : Bool) : isInt (.bool b) = true := rfl
theorem isInt_tup (b : List D) : isInt (.tuple b) = false := rfl
theorem isInt_lst (b : List D) : isInt (.list b) = false := rfl
theorem isInt_str (b : Str) : isInt (.str b) = false := rfl
theorem isInt_non : isInt .none = false := rfl
theorem isBool_int (i : Int) : isBool (.int i) = false := rfl
theorem isBool_bl (b : Bool) : isBool (.bool b) = true := rfl
theorem isTup_tup (b : List D) : isTup (.tuple b) = true := rfl
theorem isTup_lst (b : List D) : isTup (.list b) = false := rfl
theorem isTup_int (b : Int) : isTup (.int b) = false := rfl
theorem isTup_non : isTup .none = false := rfl
theorem isTup_str (b : Str) : isTup (.str b) = false := rfl
theorem isTup_bl (b : Bool) : isTup (.bool b) = false := rfl
theorem isLst_lst (b : List D) : isLst (.list b) = true := rfl
theorem isLst_tup (b : List D) : isLst (.tuple b) = false := rfl
/-! functions of data -/
theorem f_add (i j : Int) : addF (.int i) (.int j) = some (.int (i + j)) := rfl
theorem f_sub (i j : Int) : subF (.int i) (.int j) = some (.int (i - j)) := rfl
theorem f_neg (i : Int) : negF (.int i) = some (.int (-i)) := rfl
theorem f_mod (i j : Int) (h : j ≠ 0) : modF (.int i) (.int j) = some (.int (i.fmod j)) := if_neg h
/-- by a positive number -/
theorem f_modP (i j : Int) (h : 0 < j) : modF (.int i) (.int j) = some (.int (i % j)) := by
  rw [f_mod i j (by omega), Int.fmod_eq_emod_of_nonneg i (by omega)]
theorem divOk_of {j : Int} (h : 0 < j) (h2 : j < 2 ^ 64) : divOk j = true := by
  unfold divOk
  simp only [Bool.and_eq_true, decide_eq_true_eq]
  refine ⟨by omega, ?_⟩
  have : j.natAbs < 2 ^ 64 := by omega
  have := (Nat.log2_lt (n := j.natAbs) (k := 64) (by omega)).2 this
  omega
theorem f_divP (i j : Int) (h : 0 < j) (h2 : j < 18446744073709551616) : divF (.int i) (.int j) = some (.int (i / j)) := by
  show (if divOk j = true then some (PyData.int (i.fdiv j)) else none) = _
  rw [if_pos (divOk_of h h2), Int.fdiv_eq_ediv_of_nonneg i (by omega)]
theorem f_mul (i j : Int) (h : (-18446744073709551616 < i ∧ i < 18446744073709551616) ∨ (-18446744073709551616 < j ∧ j < 18446744073709551616)) : mulF (.int i) (.int j) = some (.int (i * j)) := by
  show (if mulOk i j = true then some (PyData.int (i * j)) else none) = _
  rw [if_pos]
  unfold mulOk
  rw [Bool.or_eq_true]
  exact .inl (decide_eq_true h)
theorem f_lt (i j : Int) : ltF (.int i) (.int j) = some (.bool (decide (i < j))) := rfl
theorem f_le (i j : Int) : leF (.int i) (.int j) = some (.bool (decide (i ≤ j))) := rfl
theorem f_gt (i j : Int) : gtF (.int i) (.int j) = some (.bool (decide (j < i))) := rfl
theorem f_ge (i j : Int) : geF (.int i) (.int j) = some (.bool (decide (j ≤ i))) := rfl
theorem f_is (x : D) : isF x .none = some (.bool (isNone x)) := rfl
theorem f_isNot (x : D) : isNotF x .none = some (.bool (!isNone x)) := rfl
theorem isNone_int (i : Int) : isNone (.int i) = false := rfl
theorem isNone_tup (i : List D) : isNone (.tuple i) = false := rfl
theorem isNone_lst (i : List D) : isNone (.list i) = false := rfl
theorem isNone_non : isNone .none = true := rfl
theorem f_len_l (ds : List D) : lenF [.list ds] = some (.int ds.length) := rfl
theorem f_len_t (ds : List D) : lenF [.tuple ds] = some (.int ds.length) := rfl
theorem f_len_rd (ns : List Int) : lenF [rdL ns] = some (.int ns.length) := by simp [lenF, rdL, asRd]
theorem f_tup_l (ds : List D) : tupF [.list ds] = some (.tuple ds) := rfl
theorem f_tup_t (ds : List D) : tupF [.tuple ds] = some (.tuple ds) := rfl
theorem f_max2 (i j : Int) : max2F [.int i, .int j] = some (.int (max i j)) := by
  simp only [max2F]
  congr 2
  split <;> omega
theorem f_min2 (i j : Int) : min2F [.int i, .int j] = some (.int (min i j)) := by
  simp only [min2F]
  congr 2
  split <;> omega
theorem f_abs (i : Int) : absF [.int i] = some (.int (if i < 0 then -i else i)) := rfl
theorem f_sum_l (ns : List Int) : sumF [.list (ns.map PyData.int)] = some (.int ns.sum) := by simp [sumF, intsOf_map]
theorem f_sum_t (ns : List Int) : sumF [.tuple (ns.map PyData.int)] = some (.int ns.sum) := by simp [sumF, intsOf_map]
theorem atI_nat {α : Type} (xs : List α) (n : Nat) (h : n < xs.length) : L2.atI xs (n : Int) = some xs[n] := by
  unfold L2.atI L2.ixN
  rw [if_pos (by omega)]; rw [if_pos (by omega)]
  simp [h]
theorem f_ix_t (ds : List D) (i : Int) (h0 : 0 ≤ i) (h : i.toNat < ds.length) : ixF (.tuple ds) (.int i) = some ds[i.toNat] := by
  have := atI_nat ds i.toNat h
  rw [Int.toNat_of_nonneg h0] at this
  exact this
theorem f_ix_l (ds : List D) (i : Int) (h0 : 0 ≤ i) (h : i.toNat < ds.length) : ixF (.list ds) (.int i) = some ds[i.toNat] := by
  have := atI_nat ds i.toNat h
  rw [Int.toNat_of_nonneg h0] at this
  exact this
theorem f_ix0 (a : D) (r : List D) : ixF (.tuple (a :: r)) (.int 0) = some a := f_ix_t (a :: r) 0 (by decide) (by simp)
theorem f_ix1 (a b : D) (r : List D) : ixF (.tuple (a :: b :: r)) (.int 1) = some b := f_ix_t (a :: b :: r) 1 (by decide) (by simp)
theorem f_ix2 (a b c : D) (r : List D) : ixF (.tuple (a :: b :: c :: r)) (.int 2) = some c := f_ix_t (a :: b :: c :: r) 2 (by decide) (by simp)
theorem f_ix3 (a b c e : D) (r : List D) : ixF (.tuple (a :: b :: c :: e :: r)) (.int 3) = some e := f_ix_t (a :: b :: c :: e :: r) 3 (by decide) (by simp)
/-- one of a list of ints -/
theorem f_ix_row (ns : List Int) (i : Int) (h0 : 0 ≤ i) (h : i < ns.length) : ixF (.list (ns.map PyData.int)) (.int i) = some (.int (ns.getD i.toNat 0)) := by
  have h' : i.toNat < ns.length := by omega
  rw [f_ix_l _ i h0 (by simpa using h')]
  simp [h']
theorem f_ix_rowT (ns : List Int) (i : Int) (h0 : 0 ≤ i) (h : i < ns.length) : ixF (.tuple (ns.map PyData.int)) (.int i) = some (.int (ns.getD i.toNat 0)) := by
  have h' : i.toNat < ns.length := by omega
  rw [f_ix_t _ i h0 (by simpa using h')]
  simp [h']
theorem f_ix_rd (ns : List Int) (i : Int) (h0 : 0 ≤ i) (h : i < ns.length) : ixF (rdL ns) (.int i) = some (.int (ns.getD i.toNat 0)) := f_ix_row ns i h0 h
theorem f_rev_t (ds : List D) : revF (.tuple ds) = some (.tuple ds.reverse) := rfl
/-! runs -/
def outR : Out → Rs
  | .nx _ => .ok .none
  | .rt d => .ok d
  | .exc c fs _ => .exc c fs
  | _ => .bad
theorem outR_nx (ρ : En) : outR (.nx ρ) = .ok .none := rfl
theorem outR_rt (d : D) : outR (.rt d) = .ok d := rfl
theorem outR_exc (c : Str) (fs : List (Str × D)) (ρ : En) : outR (.exc c fs ρ) = .exc c fs := rfl
def nones : Nat → En
  | 0 => []
  | n + 1 => none :: nones n
theorem nones_eq (n : Nat) : List.replicate n (none : Option Sl) = nones n := by
  induction n with
  | zero => rfl
  | succ n ih => rw [List.replicate_succ, ih]; rfl
theorem nones0 : nones 0 = [] := rfl
theorem nonesS (n : Nat) : nones (n + 1) = none :: nones n := rfl
theorem runB_eq (n N : Nat) (f : SF) (ds : List D) (h : ds.length = n) : runB n N f ds = outR (f (ds.map (fun d => some (.val d)) ++ nones (N - n))) := by
  unfold runB outR
  rw [if_pos h, nones_eq]
  cases f (List.map (fun d => some (Sl.val d)) ds ++ nones (N - n)) <;> rfl
/-! comprehensions -/
theorem lcGo_map {i : Nat} {c e : EF} {ρ : En} (g : D → D) : ∀ (ds : List D), (∀ d ∈ ds, c (ρ.set i (some (.val d))) = .ok (.bool true) ∧ e (ρ.set i (some (.val d))) = .ok (g d)) → lcGo (.nm i) c e ρ ds = .ok (ds.map g)
  | [], _ => rfl
  | d :: ds, h => by
    obtain ⟨h1, h2⟩ := h d (by simp)
    have ih := lcGo_map g ds fun d' hd => h d' (by simp [hd])
    simp only [lcGo, lcOne, bT_nm, h1, h2, ih, RL.cons_ok, List.map_cons]
/-- nothing passes the test -/
theorem lcGo_none {i : Nat} {c e : EF} {ρ : En} : ∀ (ds : List D), (∀ d ∈ ds, c (ρ.set i (some (.val d))) = .ok (.bool false)) → lcGo (.nm i) c e ρ ds = .ok []
  | [], _ => rfl
  | d :: ds, h => by
    have h1 := h d (by simp)
    have ih := lcGo_none (e := e) ds fun d' hd => h d' (by simp [hd])
    simp only [lcGo, lcOne, bT_nm, h1, ih]
theorem eLc_map {vs : List Nat} {fi : IF} {i : Nat} {c e : EF} {ρ : En} (ds : List D) (g : D → D) (hi : fi ρ = .ok ds) (hl : ds.length ≤ 16777216) (h : ∀ d ∈ ds, c ((wipeE ρ vs).set i (some (.val d))) = .ok (.bool true) ∧ e ((wipeE ρ vs).set i (some (.val d))) = .ok (g d)) :
    eLc vs fi (.nm i) c e ρ = .ok (.list (ds.map g)) := by
  unfold eLc
  rw [hi, RL.bind_ok, lcGo_map g ds h, RL.bind_ok]
  exact lstR_ok _ (by simpa using hl)
theorem eLc_none {vs : List Nat} {fi : IF} {i : Nat} {c e : EF} {ρ : En} (ds : List D) (hi : fi ρ = .ok ds) (h : ∀ d ∈ ds, c ((wipeE ρ vs).set i (some (.val d))) = .ok (.bool false)) :
    eLc vs fi (.nm i) c e ρ = .ok (.list []) := by
  unfold eLc
  rw [hi, RL.bind_ok, lcGo_none ds h, RL.bind_ok]
  exact lstR_ok _ (by decide)
theorem wipeE_nil (ρ : En) : wipeE ρ [] = ρ := rfl
theorem wipeE_cons (ρ : En) (v : Nat) (vs : List Nat) : wipeE ρ (v :: vs) = (wipeE ρ vs).set v none := rfl
theorem ap_iSeq (f : EF) (ρ : En) : iSeq f ρ = (f ρ).items itF := rfl
theorem items_l (ds : List D) : (Rs.ok (.list ds)).items itF = .ok ds := rfl
theorem items_t (ds : List D) : (Rs.ok (.tuple ds)).items itF = .ok ds := rfl
theorem ap_iRange1 (fs : List EF) (ρ : En) : iRange1 fs ρ = (evA fs ρ).items rng1 := rfl
theorem ap_iRange2 (fs : List EF) (ρ : En) : iRange2 fs ρ = (evA fs ρ).items rng2 := rfl
theorem rng1_ok (j : Int) (h : -4611686018427387904 ≤ j) (h2 : j < 4611686018427387904) : (RL.ok [.int j]).items rng1 = .ok (rangeD 0 j.toNat) := by
  have e : smallI j = true := by simp only [smallI, Bool.and_eq_true, decide_eq_true_eq]; omega
  simp only [RL.items, rng1, e, if_true]
theorem rng2_ok (i j : Int) (h : -4611686018427387904 ≤ i ∧ i < 4611686018427387904 ∧ -4611686018427387904 ≤ j ∧ j < 4611686018427387904) : (RL.ok [.int i, .int j]).items rng2 = .ok (rangeD i (j - i).toNat) := by
  have e : (smallI i && smallI j) = true := by simp only [smallI, Bool.and_eq_true, decide_eq_true_eq]; omega
  simp only [RL.items, rng2, e, if_true]
theorem forGo_nil (t : Tg) (f : SF) (ρ : En) : forGo t f [] ρ = .nx ρ := rfl
/-- a turn that goes on -/
theorem forGo_nx {i : Nat} {f : SF} {d : D} {ds : List D} {ρ ρ2 : En} (h : f (ρ.set i (some (.val d))) = .nx ρ2) : forGo (.nm i) f (d :: ds) ρ = forGo (.nm i) f ds ρ2 := by
  simp only [forGo, forOne, bT_nm, h]
/-- a for whose turns go on: E k is the slots before turn k -/
theorem forGo_inv {i : Nat} {f : SF} (P : Nat → En → Prop) : ∀ (ds : List D) (k : Nat) (ρ : En), P k ρ → (∀ j ρ, P (k + j) ρ → ∀ d, ds[j]? = some d → ∃ ρ2, f (ρ.set i (some (.val d))) = .nx ρ2 ∧ P (k + j + 1) ρ2) → ∃ ρ', forGo (.nm i) f ds ρ = .nx ρ' ∧ P (k + ds.length) ρ'
  | [], k, ρ, h, _ => ⟨ρ, rfl, h⟩
  | d :: ds, k, ρ, h, hs => by
    obtain ⟨ρ2, e, h2⟩ := hs 0 ρ h d rfl
    obtain ⟨ρ', e', h'⟩ := forGo_inv P ds (k + 1) ρ2 h2 fun j ρ hj d hd => by
      have := hs (j + 1) ρ (by rw [show k + (j + 1) = k + 1 + j by omega]; exact hj) d (by simpa using hd)
      rw [show k + (j + 1) + 1 = k + 1 + j + 1 by omega] at this
      exact this
    exact ⟨ρ', by rw [forGo_nx e]; exact e', by rw [List.length_cons, show k + (ds.length + 1) = k + 1 + ds.length by omega]; exact h'⟩
theorem rangeD_get {lo : Int} {n j : Nat} {d : D} (h : (rangeD lo n)[j]? = some d) : j < n ∧ d = .int (lo + j) := by
  unfold rangeD at h
  rw [List.getElem?_map] at h
  by_cases hi : j < n
  · rw [List.getElem?_range hi] at h
    cases h
    exact ⟨hi, rfl⟩
  · rw [List.getElem?_eq_none (by simpa using hi)] at h
    cases h
theorem rangeD_length (lo : Int) (n : Nat) : (rangeD lo n).length = n := by simp [rangeD]
/-! equality of data -/
/-- data that can be compared, at most k deep -/
def Ly (k : Nat) (d : D) : Prop := d.canLay0 = true ∧ d.depth ≤ k
theorem Ly.int (k : Nat) (i : Int) : Ly k (.int i) := ⟨rfl, by simp [PyData.depth]⟩
theorem Ly.bool (k : Nat) (b : Bool) : Ly k (.bool b) := ⟨rfl, by simp [PyData.depth]⟩
theorem Ly.none (k : Nat) : Ly k .none := ⟨rfl, by simp [PyData.depth]⟩
theorem Ly.all {k : Nat} : ∀ {ds : List D}, (∀ d ∈ ds, Ly k d) → PyData.canLayAll0 ds = true ∧ PyData.depthAll ds ≤ k
  | [], _ => ⟨rfl, by simp [PyData.depthAll]⟩
  | d :: ds, h => by
    obtain ⟨a, b⟩ := h d (by simp)
    obtain ⟨c, e⟩ := Ly.all (ds := ds) fun d' hd => h d' (by simp [hd])
    refine ⟨by simp [PyData.canLayAll0, a, c], ?_⟩
    simp only [PyData.depthAll]
    omega
theorem Ly.tuple {k : Nat} {ds : List D} (h : ∀ d ∈ ds, Ly k d) : Ly (k + 1) (.tuple ds) := by
  obtain ⟨a, b⟩ := Ly.all h
  exact ⟨by simp [PyData.canLay0, a], by simp only [PyData.depth]; omega⟩
theorem Ly.list {k : Nat} {ds : List D} (h : ∀ d ∈ ds, Ly k d) : Ly (k + 1) (.list ds) := by
  obtain ⟨a, b⟩ := Ly.all h
  exact ⟨by simp [PyData.canLay0, a], by simp only [PyData.depth]; omega⟩
theorem Ly.mono {k m : Nat} {d : D} (h : Ly k d) (hm : k ≤ m) : Ly m d := ⟨h.1, Nat.le_trans h.2 hm⟩
theorem Ly.shaped {k : Nat} {d : D} (h : Ly k d) (hk : k ≤ 64) : SeqAt.shaped d = true := by
  unfold SeqAt.shaped
  rw [Bool.and_eq_true]
  exact ⟨h.1, decide_eq_true (Nat.le_trans h.2 hk)⟩
theorem eq_refl_of {k : Nat} {d : D} (h : Ly k d) : PyData.eqv d d = true := by
  exact PySem.SeqAt.eqv_refl d h.1
theorem f_eq {k : Nat} {x y : D} (hx : Ly k x) (hy : Ly k y) (hk : k ≤ 64) : eqF x y = some (.bool (PyData.eqv x y)) := if_pos (by rw [hx.shaped hk, hy.shaped hk]; rfl)
theorem f_ne {k : Nat} {x y : D} (hx : Ly k x) (hy : Ly k y) (hk : k ≤ 64) : neF x y = some (.bool (!PyData.eqv x y)) := if_pos (by rw [hx.shaped hk, hy.shaped hk]; rfl)
theorem f_eq_self {k : Nat} {x : D} (hx : Ly k x) (hk : k ≤ 64) : eqF x x = some (.bool true) := by rw [f_eq hx hx hk, eq_refl_of hx]
theorem f_ne_self {k : Nat} {x : D} (hx : Ly k x) (hk : k ≤ 64) : neF x x = some (.bool false) := by rw [f_ne hx hx hk, eq_refl_of hx]; rfl
theorem f_eqI (i j : Int) : eqF (.int i) (.int j) = some (.bool (decide (i = j))) := by
  rw [f_eq (Ly.int 0 i) (Ly.int 0 j) (by decide)]
  simp only [PyData.eqv]
  exact congrArg (fun b => some (PyData.bool b)) (by by_cases h : i = j <;> simp [h])
theorem f_neI (i j : Int) : neF (.int i) (.int j) = some (.bool (!decide (i = j))) := by
  rw [f_ne (Ly.int 0 i) (Ly.int 0 j) (by decide)]
  simp only [PyData.eqv]
  exact congrArg (fun b => some (PyData.bool b)) (by by_cases h : i = j <;> simp [h])
theorem f_eqB (i j : Bool) : eqF (.bool i) (.bool j) = some (.bool (i == j)) := by
  rw [f_eq (Ly.bool 0 i) (Ly.bool 0 j) (by decide)]
  simp only [PyData.eqv]
theorem f_neB (i j : Bool) : neF (.bool i) (.bool j) = some (.bool (!(i == j))) := by
  rw [f_ne (Ly.bool 0 i) (Ly.bool 0 j) (by decide)]
  simp only [PyData.eqv]
/-! over lists of anything -/
theorem eLc_mapA {α : Type} {vs : List Nat} {fi : IF} {i : Nat} {c e : EF} {ρ : En} (xs : List α) (emb f : α → D) (hi : fi ρ = .ok (xs.map emb)) (hl : xs.length ≤ 16777216) (h : ∀ x ∈ xs, c ((wipeE ρ vs).set i (some (.val (emb x)))) = .ok (.bool true) ∧ e ((wipeE ρ vs).set i (some (.val (emb x)))) = .ok (f x)) :
    eLc vs fi (.nm i) c e ρ = .ok (.list (xs.map f)) := by
  have key : ∀ (xs : List α), (∀ x ∈ xs, c ((wipeE ρ vs).set i (some (.val (emb x)))) = .ok (.bool true) ∧ e ((wipeE ρ vs).set i (some (.val (emb x)))) = .ok (f x)) → lcGo (.nm i) c e (wipeE ρ vs) (xs.map emb) = .ok (xs.map f) := by
    intro xs
    induction xs with
    | nil => intro _; rfl
    | cons x xs ih =>
      intro h
      obtain ⟨h1, h2⟩ := h x (by simp)
      have := ih fun y hy => h y (by simp [hy])
      simp only [List.map_cons, lcGo, lcOne, bT_nm, h1, h2, this, RL.cons_ok]
  unfold eLc
  rw [hi, RL.bind_ok, key xs h, RL.bind_ok]
  exact lstR_ok _ (by simpa using hl)
theorem eLc_noneA {α : Type} {vs : List Nat} {fi : IF} {i : Nat} {c e : EF} {ρ : En} (xs : List α) (emb : α → D) (hi : fi ρ = .ok (xs.map emb)) (h : ∀ x ∈ xs, c ((wipeE ρ vs).set i (some (.val (emb x)))) = .ok (.bool false)) :
    eLc vs fi (.nm i) c e ρ = .ok (.list []) := eLc_none _ hi fun d hd => by
  obtain ⟨x, hx, rfl⟩ := List.mem_map.mp hd
  exact h x hx
def rangeI (lo : Int) (n : Nat) : List Int := (List.range n).map fun (i : Nat) => lo + (i : Int)
theorem rangeD_eq (lo : Int) (n : Nat) : rangeD lo n = (rangeI lo n).map PyData.int := by simp [rangeD, rangeI]
theorem rangeI_length (lo : Int) (n : Nat) : (rangeI lo n).length = n := by simp [rangeI]
theorem mem_rangeI {lo x : Int} {n : Nat} : x ∈ rangeI lo n ↔ lo ≤ x ∧ x < lo + n := by
  unfold rangeI
  rw [List.mem_map]
  constructor
  · rintro ⟨i, hi, rfl⟩
    have := List.mem_range.mp hi
    omega
  · rintro ⟨h1, h2⟩
    exact ⟨(x - lo).toNat, List.mem_range.mpr (by omega), by omega⟩
theorem rangeI_succ (lo : Int) (n : Nat) : rangeI lo (n + 1) = rangeI lo n ++ [lo + n] := by
  unfold rangeI
  rw [List.range_succ, List.map_append]
  rfl
theorem rangeI_zero (lo : Int) : rangeI lo 0 = [] := rfl
/-- a for over ints, turn by turn: the slots before turn k satisfy P k -/
theorem forGo_rng {i : Nat} {f : SF} {lo : Int} {n : Nat} (P : Nat → En → Prop) {ρ : En} (h0 : P 0 ρ) (hs : ∀ k ρ, k < n → P k ρ → ∃ ρ2, f (ρ.set i (some (.val (.int (lo + k))))) = .nx ρ2 ∧ P (k + 1) ρ2) : ∃ ρ', forGo (.nm i) f (rangeD lo n) ρ = .nx ρ' ∧ P n ρ' := by
  obtain ⟨ρ', e, h⟩ := forGo_inv (i := i) (f := f) P (rangeD lo n) 0 ρ h0 fun j ρ hj d hd => by
    obtain ⟨h1, rfl⟩ := rangeD_get hd
    rw [Nat.zero_add] at hj ⊢
    exact hs j ρ h1 hj
  rw [Nat.zero_add, rangeD_length] at h
  exact ⟨ρ', e, h⟩
/-! slices, while -/
def optO (r : Rs) (k : Option Int → Rs) : Rs := r.bind fun d => match d with
  | .int i => k (some i)
  | _ => .bad
theorem optI_none (ρ : En) (k : Option Int → Rs) : optI none ρ k = k none := rfl
theorem optI_some (g : EF) (ρ : En) (k : Option Int → Rs) : optI (some g) ρ k = optO (g ρ) k := rfl
theorem optO_int (i : Int) (k : Option Int → Rs) : optO (.ok (.int i)) k = k (some i) := rfl
theorem ap_eSl (f : EF) (lo hi : Option EF) (ρ : En) : eSl f lo hi ρ = (f ρ).bind fun x => optI lo ρ fun l => optI hi ρ fun h => Rs.of (slF x l h) := rfl
theorem cutL_eq {α : Type} (xs : List α) (a b : Int) (h0 : 0 ≤ a) (h1 : a ≤ b) (h2 : b ≤ xs.length) : cutL xs (some a) (some b) = (xs.drop a.toNat).take (b - a).toNat := by
  unfold cutL
  have e1 : HT.sIx xs.length 0 (some a) = a.toNat := by
    show (if a < 0 then (a + (xs.length : Int)).toNat else min a.toNat xs.length) = _
    rw [if_neg (by omega)]
    omega
  have e2 : HT.sIx xs.length xs.length (some b) = b.toNat := by
    show (if b < 0 then (b + (xs.length : Int)).toNat else min b.toNat xs.length) = _
    rw [if_neg (by omega)]
    omega
  rw [e1, e2]
  congr 1
  omega
theorem ap_sWh (n : Nat) (c : EF) (f : SF) (ρ : En) : sWh n c f ρ = whGo c f n ρ := rfl
theorem whGo_f {c : EF} {f : SF} {n : Nat} {ρ : En} (h : c ρ = .ok (.bool false)) : whGo c f (n + 1) ρ = .nx ρ := by
  simp only [whGo, h, Rs.out_ok]
theorem whGo_t {c : EF} {f : SF} {n : Nat} {ρ ρ2 : En} (h : c ρ = .ok (.bool true)) (h2 : f ρ = .nx ρ2) : whGo c f (n + 1) ρ = whGo c f n ρ2 := by
  simp only [whGo, h, Rs.out_ok, h2]
theorem sum_bd (c : Int) : ∀ L : List Int, (∀ x ∈ L, -c ≤ x ∧ x ≤ c) → -(c * L.length) ≤ L.sum ∧ L.sum ≤ c * L.length
  | [], _ => by simp
  | x :: L, h => by
    have h1 := h x (by simp)
    have h2 := sum_bd c L fun y hy => h y (by simp [hy])
    rw [List.length_cons, List.sum_cons]
    have e : c * ((L.length + 1 : Nat) : Int) = c * L.length + c := by grind
    rw [e]
    omega
theorem f_best_l (f : Int → Int → Int) (n : Int) (ns : List Int) : best1F f [.list ((n :: ns).map PyData.int)] = some (.int (ns.foldl f n)) := by
  show (intsOf _).bind (bestI f) = _
  rw [intsOf_map]
  rfl
theorem f_best_t (f : Int → Int → Int) (n : Int) (ns : List Int) : best1F f [.tuple ((n :: ns).map PyData.int)] = some (.int (ns.foldl f n)) := by
  show (intsOf _).bind (bestI f) = _
  rw [intsOf_map]
  rfl
/-- two fors over ints -/
theorem eLc2_map {vs vs1 : List Nat} {fi fi1 : IF} {i j : Nat} {c c1 e : EF} {ρ : En} (xs : List Int) (ys : Int → List Int) (f : Int → Int → D) (hi : fi ρ = .ok (xs.map PyData.int)) (hl : (xs.flatMap fun x => (ys x).map (f x)).length ≤ 16777216)
    (h : ∀ x ∈ xs, c ((wipeE ρ vs).set i (some (.val (.int x)))) = .ok (.bool true) ∧ fi1 ((wipeE ρ vs).set i (some (.val (.int x)))) = .ok ((ys x).map PyData.int) ∧ ∀ y ∈ ys x, c1 ((wipeE ((wipeE ρ vs).set i (some (.val (.int x)))) vs1).set j (some (.val (.int y)))) = .ok (.bool true) ∧
      e ((wipeE ((wipeE ρ vs).set i (some (.val (.int x)))) vs1).set j (some (.val (.int y)))) = .ok (f x y)) : eLc2 vs vs1 fi (.nm i) c fi1 (.nm j) c1 e ρ = .ok (.list (xs.flatMap fun x => (ys x).map (f x))) := by
  have inner : ∀ (ρ1 : En) (g : Int → D) (zs : List Int), (∀ y ∈ zs, c1 (ρ1.set j (some (.val (.int y)))) = .ok (.bool true) ∧ e (ρ1.set j (some (.val (.int y)))) = .ok (g y)) → lcGo (.nm j) c1 e ρ1 (zs.map PyData.int) = .ok (zs.map g) := by
    intro ρ1 g zs
    induction zs with
    | nil => intro _; rfl
    | cons z zs ih =>
      intro h
      obtain ⟨h1, h2⟩ := h z (by simp)
      have := ih fun y hy => h y (by simp [hy])
      simp only [List.map_cons, lcGo, lcOne, bT_nm, h1, h2, this, RL.cons_ok]
  have key : ∀ (xs : List Int), (∀ x ∈ xs, c ((wipeE ρ vs).set i (some (.val (.int x)))) = .ok (.bool true) ∧ fi1 ((wipeE ρ vs).set i (some (.val (.int x)))) = .ok ((ys x).map PyData.int) ∧ ∀ y ∈ ys x, c1 ((wipeE ((wipeE ρ vs).set i (some (.val (.int x)))) vs1).set j (some (.val (.int y)))) = .ok (.bool true) ∧
      e ((wipeE ((wipeE ρ vs).set i (some (.val (.int x)))) vs1).set j (some (.val (.int y)))) = .ok (f x y)) → lc2Go vs1 (.nm i) c fi1 (.nm j) c1 e (wipeE ρ vs) (xs.map PyData.int) = .ok (xs.flatMap fun x => (ys x).map (f x)) := by
    intro xs
    induction xs with
    | nil => intro _; rfl
    | cons x xs ih =>
      intro h
      obtain ⟨h1, h2, h3⟩ := h x (by simp)
      have := ih fun y hy => h y (by simp [hy])
      simp only [List.map_cons, lc2Go, bT_nm, h1, h2, inner _ (f x) _ h3, this, List.flatMap_cons]
  unfold eLc2
  rw [hi, RL.bind_ok, key xs h]
  exact lstR_ok _ hl
end VV

set_option Elab.async false
set_option linter.all false
set_option maxRecDepth 100000
set_option maxHeartbeats 4000000
namespace VVlaw
open PySem PySem.Spec L2 VV
open PyProof.Rows hiding St
def b_is_within : SF := (sRet (eAnd (eIsi isInt (eV 0)) (eAnd (eNot (eIsi isBool (eV 0))) (eChain leF leF (eV 1) (eV 0) (eV 2)))))
def sem_is_within : List D → Rs := runB 3 3 b_is_within
def lp_common_1 : SF := (sPar 0 1 [(eV 1), (eOp modF (eV 0) (eV 1))])
def b_common : SF := (sSeq (sWh 1000000 (eOp neF (eV 1) (eC (.int 0))) lp_common_1) (sRet (eCB absF [(eV 0)])))
def sem_common : List D → Rs := runB 2 2 b_common
def b_least : SF := (sSeq (sSet 2 (eCall sem_common [(eV 0), (eV 1)])) (sSeq (sIf (eOp ltF (eV 1) (eC (.int 0))) (sSet 2 (eUn negF (eV 2))) sNx) (sRet (eTup [(eOp divF (eV 0) (eV 2)), (eOp divF (eV 1) (eV 2))]))))
def sem_least : List D → Rs := runB 2 3 b_least
def b_is_less : SF := (sRet (eOp ltF (eOp mulF (eOp ixF (eV 0) (eC (.int 0))) (eOp ixF (eV 1) (eC (.int 1)))) (eOp mulF (eOp ixF (eV 1) (eC (.int 0))) (eOp ixF (eV 0) (eC (.int 1))))))
def sem_is_less : List D → Rs := runB 2 2 b_is_less
def b_is_row : SF := (sSeq (sIf (gOr (gNot (gTru (eIsi isTup (eV 0)))) (eOp neF (eCB lenF [(eV 0)]) (eV 1))) (sRet (eC (.bool false))) sNx) (sRet (eNot (eLc [2] (iSeq (eV 0)) (.nm 2) (gNot (gTru (eCall sem_is_within [(eV 2), (eC (.int 0)), (eC (.int 255))]))) (eV 2)))))
def sem_is_row : List D → Rs := runB 2 3 b_is_row
def b_is_shot : SF := (sSeq (sIf (gOr (gNot (gTru (eIsi isTup (eV 0)))) (gOr (gNot (eChain leF leF (eC (.int 1)) (eCB lenF [(eV 0)]) (eC (.int 12)))) (gNot (gTru (eIsi isTup (eOp ixF (eV 0) (eC (.int 0)))))))) (sRet (eC (.bool false))) sNx) (sSeq (sIf (gNot (eChain leF leF (eC (.int 1)) (eCB lenF [(eOp ixF (eV 0) (eC (.int 0)))]) (eC (.int 12)))) (sRet (eC (.bool false))) sNx) (sRet (eNot (eLc [1] (iSeq (eV 0)) (.nm 1) (gNot (gTru (eCall sem_is_row [(eV 1), (eCB lenF [(eOp ixF (eV 0) (eC (.int 0)))])]))) (eV 1))))))
def sem_is_shot : List D → Rs := runB 1 2 b_is_shot
def b_look : SF := (sIf (gNot (gTru (eCall sem_is_shot [(eV 0)]))) (sRaise "BadShot") sNx)
def sem_look : List D → Rs := runB 1 1 b_look
def b_size_of : SF := (sRet (eTup [(eCB lenF [(eOp ixF (eV 0) (eC (.int 0)))]), (eCB lenF [(eV 0)])]))
def sem_size_of : List D → Rs := runB 1 1 b_size_of
def b_mirrored : SF := (sSeq (sDrop (eCall sem_look [(eV 0)])) (sRet (eCB tupF [(eLc [1] (iSeq (eV 0)) (.nm 1) (eC (.bool true)) (eUn revF (eV 1)))])))
def sem_mirrored : List D → Rs := runB 1 2 b_mirrored
def b_lit : SF := (sSeq (sDrop (eCall sem_look [(eV 0)])) (sSeq (sIf (gNot (gTru (eCall sem_is_within [(eV 1), (eUn negF (eC (.int 255))), (eC (.int 255))]))) (sRaise "BadShot") sNx) (sRet (eCB tupF [(eLc [2] (iSeq (eV 0)) (.nm 2) (eC (.bool true)) (eCB tupF [(eLc [3] (iSeq (eV 2)) (.nm 3) (eC (.bool true)) (eCB min2F [(eCB max2F [(eOp addF (eV 3) (eV 1)), (eC (.int 0))]), (eC (.int 255))]))]))]))))
def sem_lit : List D → Rs := runB 2 4 b_lit
def b_cut_out : SF := (sSeq (sDrop (eCall sem_look [(eV 0)])) (sSeq (sAsg (.tp [(.nm 5), (.nm 6)]) (eCall sem_size_of [(eV 0)])) (sSeq (sIf (gOr (gNot (gTru (eCall sem_is_within [(eV 1), (eC (.int 0)), (eOp subF (eV 5) (eC (.int 1)))]))) (gNot (gTru (eCall sem_is_within [(eV 2), (eC (.int 0)), (eOp subF (eV 6) (eC (.int 1)))])))) (sRaise "BadWindow") sNx) (sSeq (sIf (gOr (gNot (gTru (eCall sem_is_within [(eV 3), (eC (.int 1)), (eOp subF (eV 5) (eV 1))]))) (gNot (gTru (eCall sem_is_within [(eV 4), (eC (.int 1)), (eOp subF (eV 6) (eV 2))])))) (sRaise "BadWindow") sNx) (sRet (eCB tupF [(eLc [7] (iSeq (eSl (eV 0) (some (eV 2)) (some (eOp addF (eV 2) (eV 4))))) (.nm 7) (eC (.bool true)) (eSl (eV 7) (some (eV 1)) (some (eOp addF (eV 1) (eV 3)))))]))))))
def sem_cut_out : List D → Rs := runB 5 8 b_cut_out
def b_is_way : SF := (sSeq (sIf (gOr (gNot (gTru (eIsi isTup (eV 0)))) (eOp neF (eCB lenF [(eV 0)]) (eC (.int 2)))) (sRet (eC (.bool false))) sNx) (sRet (eNot (eLc [1] (iSeq (eV 0)) (.nm 1) (gNot (gTru (eCall sem_is_within [(eV 1), (eUn negF (eC (.int 12))), (eC (.int 12))]))) (eV 1)))))
def sem_is_way : List D → Rs := runB 1 2 b_is_way
def b_shared_of : SF := (sSeq (sAsg (.tp [(.nm 3), (.nm 4)]) (eCall sem_size_of [(eV 0)])) (sSeq (sAsg (.tp [(.nm 5), (.nm 6)]) (eCall sem_size_of [(eV 1)])) (sSeq (sPar 7 8 [(eCB max2F [(eC (.int 0)), (eOp ixF (eV 2) (eC (.int 0)))]), (eCB max2F [(eC (.int 0)), (eOp ixF (eV 2) (eC (.int 1)))])]) (sSeq (sPar 9 10 [(eCB min2F [(eV 3), (eOp addF (eOp ixF (eV 2) (eC (.int 0))) (eV 5))]), (eCB min2F [(eV 4), (eOp addF (eOp ixF (eV 2) (eC (.int 1))) (eV 6))])]) (sRet (eIf (gAnd (eOp ltF (eV 7) (eV 9)) (eOp ltF (eV 8) (eV 10))) (eTup [(eV 7), (eV 8), (eOp subF (eV 9) (eV 7)), (eOp subF (eV 10) (eV 8))]) (eC .none)))))))
def sem_shared_of : List D → Rs := runB 3 11 b_shared_of
def lp_steps_of_1 : SF := (sExt 8 (eLc [10] (iRange2 [(eV 4), (eOp addF (eV 4) (eV 6))]) (.nm 10) (eC (.bool true)) (eOp subF (eOp ixF (eOp ixF (eV 0) (eV 9)) (eV 10)) (eOp ixF (eOp ixF (eV 1) (eOp subF (eV 9) (eOp ixF (eV 2) (eC (.int 1))))) (eOp subF (eV 10) (eOp ixF (eV 2) (eC (.int 0))))))))
def b_steps_of : SF := (sSeq (sSet 3 (eCall sem_shared_of [(eV 0), (eV 1), (eV 2)])) (sSeq (sIf (eOp isF (eV 3) (eC .none)) (sRet (eLst [])) sNx) (sSeq (sAsg (.tp [(.nm 4), (.nm 5), (.nm 6), (.nm 7)]) (eV 3)) (sSeq (sOwn 8 (eLst [])) (sSeq (sFor (iRange2 [(eV 5), (eOp addF (eV 5) (eV 7))]) (.nm 9) lp_steps_of_1) (sRetV 8))))))
def sem_steps_of : List D → Rs := runB 3 11 b_steps_of
def b_unlike_of : SF := (sSeq (sSet 3 (eCall sem_steps_of [(eV 0), (eV 1), (eV 2)])) (sSeq (sIf (gNot (gTru (eV 3))) (sRet (eC .none)) sNx) (sSeq (sSet 4 (eCB lenF [(eV 3)])) (sRet (eCall sem_least [(eOp subF (eOp mulF (eV 4) (eCB sumF [(eLc [5] (iSeq (eV 3)) (.nm 5) (eC (.bool true)) (eOp mulF (eV 5) (eV 5)))])) (eOp mulF (eCB sumF [(eV 3)]) (eCB sumF [(eV 3)]))), (eOp mulF (eV 4) (eV 4))])))))
def sem_unlike_of : List D → Rs := runB 3 6 b_unlike_of
def b_look_two : SF := (sSeq (sDrop (eCall sem_look [(eV 0)])) (sSeq (sDrop (eCall sem_look [(eV 1)])) (sIf (gNot (gTru (eCall sem_is_way [(eV 2)]))) (sRaise "BadWay") sNx)))
def sem_look_two : List D → Rs := runB 3 3 b_look_two
def b_shared : SF := (sSeq (sDrop (eCall sem_look_two [(eV 0), (eV 1), (eV 2)])) (sRet (eCall sem_shared_of [(eV 0), (eV 1), (eV 2)])))
def sem_shared : List D → Rs := runB 3 3 b_shared
def b_unlike : SF := (sSeq (sDrop (eCall sem_look_two [(eV 0), (eV 1), (eV 2)])) (sRet (eCall sem_unlike_of [(eV 0), (eV 1), (eV 2)])))
def sem_unlike : List D → Rs := runB 3 3 b_unlike
def b_all_ways : SF := (sSeq (sAsg (.tp [(.nm 2), (.nm 3)]) (eCall sem_size_of [(eV 0)])) (sSeq (sAsg (.tp [(.nm 4), (.nm 5)]) (eCall sem_size_of [(eV 1)])) (sRet (eLc2 [6, 7] [7] (iRange2 [(eOp subF (eC (.int 1)) (eV 4)), (eV 2)]) (.nm 6) (eC (.bool true)) (iRange2 [(eOp subF (eC (.int 1)) (eV 5)), (eV 3)]) (.nm 7) (eC (.bool true)) (eTup [(eV 6), (eV 7)])))))
def sem_all_ways : List D → Rs := runB 2 8 b_all_ways
def lp_best_of_1 : SF := (sSeq (sSet 5 (eCB lenF [(eCall sem_steps_of [(eV 0), (eV 1), (eV 4)])])) (sIf (eOp geF (eV 5) (eV 2)) (sSeq (sSet 6 (eCall sem_unlike_of [(eV 0), (eV 1), (eV 4)])) (sIf (gOr (eOp isF (eV 3) (eC .none)) (gOr (gTru (eCall sem_is_less [(eV 6), (eOp ixF (eV 3) (eC (.int 1)))])) (gAnd (eOp eqF (eV 6) (eOp ixF (eV 3) (eC (.int 1)))) (eOp gtF (eV 5) (eOp ixF (eV 3) (eC (.int 2))))))) (sSet 3 (eTup [(eV 4), (eV 6), (eV 5)])) sNx)) sNx))
def b_best_of : SF := (sSeq (sSet 3 (eC .none)) (sSeq (sFor (iSeq (eCall sem_all_ways [(eV 0), (eV 1)])) (.nm 4) lp_best_of_1) (sRet (eIf (eOp isF (eV 3) (eC .none)) (eC .none) (eSl (eV 3) none (some (eC (.int 2))))))))
def sem_best_of : List D → Rs := runB 3 7 b_best_of
def b_look_cells : SF := (sIf (gNot (gTru (eCall sem_is_within [(eV 0), (eC (.int 1)), (eC (.int 144))]))) (sRaise "BadCount") sNx)
def sem_look_cells : List D → Rs := runB 1 1 b_look_cells
def b_best_way : SF := (sSeq (sDrop (eCall sem_look [(eV 0)])) (sSeq (sDrop (eCall sem_look [(eV 1)])) (sSeq (sDrop (eCall sem_look_cells [(eV 2)])) (sRet (eCall sem_best_of [(eV 0), (eV 1), (eV 2)])))))
def sem_best_way : List D → Rs := runB 3 3 b_best_way
def b__law_cell : SF := (sSeq (sIf (eOp ltF (eV 1) (eCB lenF [(eV 0)])) (sRet (eOp ixF (eV 0) (eV 1))) sNx) (sRet (eC (.int 0))))
def sem__law_cell : List D → Rs := runB 2 2 b__law_cell
def lp__law_row_1 : SF := (sIf (eOp ltF (eCall sem__law_cell [(eV 0), (eV 1)]) (eOp powF (eC (.int 10)) (eC (.int 18)))) (sSeq (sSet 2 (eOp modF (eOp addF (eOp addF (eOp addF (eOp mulF (eV 2) (eC (.int 48271))) (eOp mulF (eC (.int 131)) (eV 4))) (eC (.int 7))) (eCall sem__law_cell [(eV 0), (eOp modF (eOp addF (eOp addF (eV 1) (eC (.int 1))) (eV 4)) (eC (.int 20)))])) (eC (.int 2147483647)))) (sApp 3 (eOp modF (eOp divF (eV 2) (eC (.int 11))) (eC (.int 1000))))) (sSeq (sApp 3 (eOp modF (eV 2) (eC (.int 1000)))) (sSet 2 (eOp divF (eV 2) (eC (.int 1000))))))
def b__law_row : SF := (sSeq (sSet 2 (eCall sem__law_cell [(eV 0), (eV 1)])) (sSeq (sOwn 3 (eLst [])) (sSeq (sFor (iRange1 [(eC (.int 60))]) (.nm 4) lp__law_row_1) (sRetV 3))))
def sem__law_row : List D → Rs := runB 2 5 b__law_row
def lp__law_shot_1 : SF := (sSeq (sSet 9 (eOp ixF (eV 0) (eOp modF (eOp addF (eOp addF (eOp addF (eV 1) (eC (.int 2))) (eOp mulF (eC (.int 5)) (eV 6))) (eV 8)) (eC (.int 60))))) (sApp 7 (eOp ixF (eLst [(eOp modF (eOp mulF (eV 9) (eC (.int 7))) (eC (.int 256))), (eOp mulF (eOp modF (eV 9) (eC (.int 3))) (eC (.int 60))), (eOp modF (eOp ixF (eV 0) (eOp modF (eV 1) (eC (.int 60)))) (eC (.int 256)))]) (eOp modF (eV 2) (eC (.int 3))))))
def lp__law_shot_2 : SF := (sSeq (sOwn 7 (eLst [])) (sSeq (sFor (iRange1 [(eV 4)]) (.nm 8) lp__law_shot_1) (sApp 5 (eCB tupF [(eB 7)]))))
def b__law_shot : SF := (sSeq (sPar 3 4 [(eOp addF (eC (.int 1)) (eOp modF (eOp ixF (eV 0) (eOp modF (eV 1) (eC (.int 60)))) (eC (.int 5)))), (eOp addF (eC (.int 1)) (eOp modF (eOp divF (eOp ixF (eV 0) (eOp modF (eOp addF (eV 1) (eC (.int 1))) (eC (.int 60)))) (eC (.int 5))) (eC (.int 5))))]) (sSeq (sOwn 5 (eLst [])) (sSeq (sFor (iRange1 [(eV 3)]) (.nm 6) lp__law_shot_2) (sRet (eCB tupF [(eB 5)])))))
def sem__law_shot : List D → Rs := runB 3 10 b__law_shot
end VVlaw

set_option Elab.async false
set_option linter.all false
set_option maxRecDepth 100000
set_option maxHeartbeats 4000000
/-! PLb: shots; what the small defs come to. -/
namespace VVlaw
open PySem PySem.Spec L2 VV
open PyProof.Rows hiding St
def rowD (r : List Int) : D := .tuple (r.map PyData.int)
def shD (s : List (List Int)) : D := .tuple (s.map rowD)
structure Sh (s : List (List Int)) (h w : Nat) : Prop where
  len : s.length = h
  h1 : 1 ≤ h
  h2 : h ≤ 12
  w1 : 1 ≤ w
  w2 : w ≤ 12
  row : ∀ r ∈ s, r.length = w
  lev : ∀ r ∈ s, ∀ v ∈ r, 0 ≤ v ∧ v ≤ 255
/-- the row y -/
def rw' (s : List (List Int)) (y : Int) : List Int := s.getD y.toNat []
def cell (s : List (List Int)) (y x : Int) : Int := (rw' s y).getD x.toNat 0
theorem Sh.mem {s : List (List Int)} {h w : Nat} (S : Sh s h w) {y : Int} (h0 : 0 ≤ y) (h1 : y < h) : rw' s y ∈ s := by
  unfold rw'
  have : y.toNat < s.length := by rw [S.len]; omega
  rw [List.getD_eq_getElem?_getD, List.getElem?_eq_getElem this]
  exact List.getElem_mem this
theorem Sh.rlen {s : List (List Int)} {h w : Nat} (S : Sh s h w) {y : Int} (h0 : 0 ≤ y) (h1 : y < h) : (rw' s y).length = w := S.row _ (S.mem h0 h1)
theorem isi_row (g : D → Bool) (r : List Int) : isiO g (.ok (rowD r)) = .ok (.bool (g (rowD r))) := rfl
theorem isi_sh (g : D → Bool) (r : List (List Int)) : isiO g (.ok (shD r)) = .ok (.bool (g (shD r))) := rfl
theorem isTup_row (r : List Int) : isTup (rowD r) = true := rfl
theorem isTup_sh (r : List (List Int)) : isTup (shD r) = true := rfl
theorem len_row (r : List Int) : lenF [rowD r] = some (.int r.length) := by simp [rowD, lenF]
theorem len_sh (r : List (List Int)) : lenF [shD r] = some (.int r.length) := by simp [shD, lenF]
theorem ix_row (r : List Int) (x : Int) (h0 : 0 ≤ x) (h : x < r.length) : ixF (rowD r) (.int x) = some (.int (r.getD x.toNat 0)) := f_ix_rowT r x h0 h
theorem ix_sh (s : List (List Int)) (y : Int) (h0 : 0 ≤ y) (h : y < s.length) : ixF (shD s) (.int y) = some (rowD (rw' s y)) := by
  have h' : y.toNat < s.length := by omega
  unfold shD
  rw [f_ix_t _ y h0 (by simpa using h')]
  simp [rw', h']
theorem items_row (r : List Int) : (Rs.ok (rowD r)).items itF = .ok (r.map PyData.int) := rfl
theorem items_sh (s : List (List Int)) : (Rs.ok (shD s)).items itF = .ok (s.map rowD) := rfl
theorem is_within_eq (v a b : Int) : sem_is_within [.int v, .int a, .int b] = .ok (.bool (decide (a ≤ v ∧ v ≤ b))) := by
  simp -implicitDefEqProofs only [sem_is_within, b_is_within, ap_sSeq, seqO_nx, seqO_rt, seqO_exc, ap_sIf, ifO_t, ifO_f, ifO_exc, ap_sNx, ap_sSet, ap_sOwn, ap_sRet, ap_sDrop, ap_sAsg, outB_some, bT_nm, bT_tp, bTs_nil, bTs_cons, ap_sRaise, ap_sPar, parO_ok, ap_sFor, ap_sRetV, retO_own, retO_val, ap_sFrz, frzO_own, frzO_val, ap_sApp, ap_sExt, ap_eV, valO_val, ap_eB, borO_val, borO_own, ap_eC, ap_eOp, opO_ok, ap_eUn, ap_eTup, ap_eLst, tupR_ok, lstR_ok, ap_eCB, ap_eCall, callO_ok, callO_exc, ap_gNot, notR_b, ap_gTru, truR_b, truR_list, ap_gAnd, ap_gOr, andO_t, andO_f, orO_t, orO_f, ap_eAnd, ap_eOr, eandO_t, eandO_f, eorO_t, eorO_f, ap_eNot, enotO_b, enotO_list, ap_eIf, eifO_t, eifO_f, ap_eChain, chO_ok, ap_eIsi, isiO_int, isiO_tup, isiO_lst, isiO_bl, isiO_str, isiO_non, isInt_int, isInt_bl, isInt_tup, isInt_lst, isInt_str, isInt_non, isBool_int, isBool_bl, isTup_tup, isTup_lst, isTup_int, isTup_non, isTup_str, isTup_bl, isLst_lst, isLst_tup, f_add, f_sub, f_neg, f_eqI, f_neI, f_eqB, f_neB, f_lt, f_le, f_gt, f_ge, f_is, f_isNot, isNone_int, isNone_tup, isNone_lst, isNone_non, f_len_l, f_len_t, f_len_rd, f_tup_l, f_tup_t, f_max2, f_min2, f_abs, f_sum_l, f_sum_t, f_ix0, f_ix1, f_ix2, f_ix3, f_rev_t, outR_nx, outR_rt, outR_exc, nones0, nonesS, runB_eq, ap_eSl, optI_none, optI_some, optO_int, ap_sWh, ap_iSeq, items_l, items_t, ap_iRange1, ap_iRange2, wipeE_nil, wipeE_cons, evA_nil, evA_cons, RL.cons_ok, RL.cons_exc, RL.bind_ok, RL.bind_exc, RL.out_ok, RL.out_exc, Rs.bind_ok, Rs.bind_exc, Rs.out_ok, Rs.out_exc, Rs.of_some, Option.bind_some, List.getElem?_cons_zero, List.getElem?_cons_succ, List.set_cons_zero, List.set_cons_succ, List.map_cons, List.map_nil, List.cons_append, List.nil_append, List.length_cons, List.length_nil, Nat.reduceAdd, Nat.reduceSub, Nat.reduceLeDiff, Nat.reduceLT, Bool.not_true, Bool.not_false, decide_true, decide_false]
  by_cases h : a ≤ v <;> simp -implicitDefEqProofs only [ap_sSeq, seqO_nx, seqO_rt, seqO_exc, ap_sIf, ifO_t, ifO_f, ifO_exc, ap_sNx, ap_sSet, ap_sOwn, ap_sRet, ap_sDrop, ap_sAsg, outB_some, bT_nm, bT_tp, bTs_nil, bTs_cons, ap_sRaise, ap_sPar, parO_ok, ap_sFor, ap_sRetV, retO_own, retO_val, ap_sFrz, frzO_own, frzO_val, ap_sApp, ap_sExt, ap_eV, valO_val, ap_eB, borO_val, borO_own, ap_eC, ap_eOp, opO_ok, ap_eUn, ap_eTup, ap_eLst, tupR_ok, lstR_ok, ap_eCB, ap_eCall, callO_ok, callO_exc, ap_gNot, notR_b, ap_gTru, truR_b, truR_list, ap_gAnd, ap_gOr, andO_t, andO_f, orO_t, orO_f, ap_eAnd, ap_eOr, eandO_t, eandO_f, eorO_t, eorO_f, ap_eNot, enotO_b, enotO_list, ap_eIf, eifO_t, eifO_f, ap_eChain, chO_ok, ap_eIsi, isiO_int, isiO_tup, isiO_lst, isiO_bl, isiO_str, isiO_non, isInt_int, isInt_bl, isInt_tup, isInt_lst, isInt_str, isInt_non, isBool_int, isBool_bl, isTup_tup, isTup_lst, isTup_int, isTup_non, isTup_str, isTup_bl, isLst_lst, isLst_tup, f_add, f_sub, f_neg, f_eqI, f_neI, f_eqB, f_neB, f_lt, f_le, f_gt, f_ge, f_is, f_isNot, isNone_int, isNone_tup, isNone_lst, isNone_non, f_len_l, f_len_t, f_len_rd, f_tup_l, f_tup_t, f_max2, f_min2, f_abs, f_sum_l, f_sum_t, f_ix0, f_ix1, f_ix2, f_ix3, f_rev_t, outR_nx, outR_rt, outR_exc, nones0, nonesS, runB_eq, ap_eSl, optI_none, optI_some, optO_int, ap_sWh, ap_iSeq, items_l, items_t, ap_iRange1, ap_iRange2, wipeE_nil, wipeE_cons, evA_nil, evA_cons, RL.cons_ok, RL.cons_exc, RL.bind_ok, RL.bind_exc, RL.out_ok, RL.out_exc, Rs.bind_ok, Rs.bind_exc, Rs.out_ok, Rs.out_exc, Rs.of_some, Option.bind_some, List.getElem?_cons_zero, List.getElem?_cons_succ, List.set_cons_zero, List.set_cons_succ, List.map_cons, List.map_nil, List.cons_append, List.nil_append, List.length_cons, List.length_nil, Nat.reduceAdd, Nat.reduceSub, Nat.reduceLeDiff, Nat.reduceLT, Bool.not_true, Bool.not_false, decide_true, decide_false, h, true_and, false_and]
theorem is_row_eq (r : List Int) (w : Nat) (hr : r.length = w) (hv : ∀ v ∈ r, 0 ≤ v ∧ v ≤ 255) : sem_is_row [rowD r, .int w] = .ok (.bool true) := by
  simp -implicitDefEqProofs only [sem_is_row, b_is_row, isi_row, isTup_row, len_row, hr, ap_sSeq, seqO_nx, seqO_rt, seqO_exc, ap_sIf, ifO_t, ifO_f, ifO_exc, ap_sNx, ap_sSet, ap_sOwn, ap_sRet, ap_sDrop, ap_sAsg, outB_some, bT_nm, bT_tp, bTs_nil, bTs_cons, ap_sRaise, ap_sPar, parO_ok, ap_sFor, ap_sRetV, retO_own, retO_val, ap_sFrz, frzO_own, frzO_val, ap_sApp, ap_sExt, ap_eV, valO_val, ap_eB, borO_val, borO_own, ap_eC, ap_eOp, opO_ok, ap_eUn, ap_eTup, ap_eLst, tupR_ok, lstR_ok, ap_eCB, ap_eCall, callO_ok, callO_exc, ap_gNot, notR_b, ap_gTru, truR_b, truR_list, ap_gAnd, ap_gOr, andO_t, andO_f, orO_t, orO_f, ap_eAnd, ap_eOr, eandO_t, eandO_f, eorO_t, eorO_f, ap_eNot, enotO_b, enotO_list, ap_eIf, eifO_t, eifO_f, ap_eChain, chO_ok, ap_eIsi, isiO_int, isiO_tup, isiO_lst, isiO_bl, isiO_str, isiO_non, isInt_int, isInt_bl, isInt_tup, isInt_lst, isInt_str, isInt_non, isBool_int, isBool_bl, isTup_tup, isTup_lst, isTup_int, isTup_non, isTup_str, isTup_bl, isLst_lst, isLst_tup, f_add, f_sub, f_neg, f_eqI, f_neI, f_eqB, f_neB, f_lt, f_le, f_gt, f_ge, f_is, f_isNot, isNone_int, isNone_tup, isNone_lst, isNone_non, f_len_l, f_len_t, f_len_rd, f_tup_l, f_tup_t, f_max2, f_min2, f_abs, f_sum_l, f_sum_t, f_ix0, f_ix1, f_ix2, f_ix3, f_rev_t, outR_nx, outR_rt, outR_exc, nones0, nonesS, runB_eq, ap_eSl, optI_none, optI_some, optO_int, ap_sWh, ap_iSeq, items_l, items_t, ap_iRange1, ap_iRange2, wipeE_nil, wipeE_cons, evA_nil, evA_cons, RL.cons_ok, RL.cons_exc, RL.bind_ok, RL.bind_exc, RL.out_ok, RL.out_exc, Rs.bind_ok, Rs.bind_exc, Rs.out_ok, Rs.out_exc, Rs.of_some, Option.bind_some, List.getElem?_cons_zero, List.getElem?_cons_succ, List.set_cons_zero, List.set_cons_succ, List.map_cons, List.map_nil, List.cons_append, List.nil_append, List.length_cons, List.length_nil, Nat.reduceAdd, Nat.reduceSub, Nat.reduceLeDiff, Nat.reduceLT, Bool.not_true, Bool.not_false, decide_true, decide_false]
  rw [eLc_noneA r PyData.int (by simp -implicitDefEqProofs only [items_row, ap_sSeq, seqO_nx, seqO_rt, seqO_exc, ap_sIf, ifO_t, ifO_f, ifO_exc, ap_sNx, ap_sSet, ap_sOwn, ap_sRet, ap_sDrop, ap_sAsg, outB_some, bT_nm, bT_tp, bTs_nil, bTs_cons, ap_sRaise, ap_sPar, parO_ok, ap_sFor, ap_sRetV, retO_own, retO_val, ap_sFrz, frzO_own, frzO_val, ap_sApp, ap_sExt, ap_eV, valO_val, ap_eB, borO_val, borO_own, ap_eC, ap_eOp, opO_ok, ap_eUn, ap_eTup, ap_eLst, tupR_ok, lstR_ok, ap_eCB, ap_eCall, callO_ok, callO_exc, ap_gNot, notR_b, ap_gTru, truR_b, truR_list, ap_gAnd, ap_gOr, andO_t, andO_f, orO_t, orO_f, ap_eAnd, ap_eOr, eandO_t, eandO_f, eorO_t, eorO_f, ap_eNot, enotO_b, enotO_list, ap_eIf, eifO_t, eifO_f, ap_eChain, chO_ok, ap_eIsi, isiO_int, isiO_tup, isiO_lst, isiO_bl, isiO_str, isiO_non, isInt_int, isInt_bl, isInt_tup, isInt_lst, isInt_str, isInt_non, isBool_int, isBool_bl, isTup_tup, isTup_lst, isTup_int, isTup_non, isTup_str, isTup_bl, isLst_lst, isLst_tup, f_add, f_sub, f_neg, f_eqI, f_neI, f_eqB, f_neB, f_lt, f_le, f_gt, f_ge, f_is, f_isNot, isNone_int, isNone_tup, isNone_lst, isNone_non, f_len_l, f_len_t, f_len_rd, f_tup_l, f_tup_t, f_max2, f_min2, f_abs, f_sum_l, f_sum_t, f_ix0, f_ix1, f_ix2, f_ix3, f_rev_t, outR_nx, outR_rt, outR_exc, nones0, nonesS, runB_eq, ap_eSl, optI_none, optI_some, optO_int, ap_sWh, ap_iSeq, items_l, items_t, ap_iRange1, ap_iRange2, wipeE_nil, wipeE_cons, evA_nil, evA_cons, RL.cons_ok, RL.cons_exc, RL.bind_ok, RL.bind_exc, RL.out_ok, RL.out_exc, Rs.bind_ok, Rs.bind_exc, Rs.out_ok, Rs.out_exc, Rs.of_some, Option.bind_some, List.getElem?_cons_zero, List.getElem?_cons_succ, List.set_cons_zero, List.set_cons_succ, List.map_cons, List.map_nil, List.cons_append, List.nil_append, List.length_cons, List.length_nil, Nat.reduceAdd, Nat.reduceSub, Nat.reduceLeDiff, Nat.reduceLT, Bool.not_true, Bool.not_false, decide_true, decide_false]) fun v hv' => ?_]
  · simp -implicitDefEqProofs only [ap_sSeq, seqO_nx, seqO_rt, seqO_exc, ap_sIf, ifO_t, ifO_f, ifO_exc, ap_sNx, ap_sSet, ap_sOwn, ap_sRet, ap_sDrop, ap_sAsg, outB_some, bT_nm, bT_tp, bTs_nil, bTs_cons, ap_sRaise, ap_sPar, parO_ok, ap_sFor, ap_sRetV, retO_own, retO_val, ap_sFrz, frzO_own, frzO_val, ap_sApp, ap_sExt, ap_eV, valO_val, ap_eB, borO_val, borO_own, ap_eC, ap_eOp, opO_ok, ap_eUn, ap_eTup, ap_eLst, tupR_ok, lstR_ok, ap_eCB, ap_eCall, callO_ok, callO_exc, ap_gNot, notR_b, ap_gTru, truR_b, truR_list, ap_gAnd, ap_gOr, andO_t, andO_f, orO_t, orO_f, ap_eAnd, ap_eOr, eandO_t, eandO_f, eorO_t, eorO_f, ap_eNot, enotO_b, enotO_list, ap_eIf, eifO_t, eifO_f, ap_eChain, chO_ok, ap_eIsi, isiO_int, isiO_tup, isiO_lst, isiO_bl, isiO_str, isiO_non, isInt_int, isInt_bl, isInt_tup, isInt_lst, isInt_str, isInt_non, isBool_int, isBool_bl, isTup_tup, isTup_lst, isTup_int, isTup_non, isTup_str, isTup_bl, isLst_lst, isLst_tup, f_add, f_sub, f_neg, f_eqI, f_neI, f_eqB, f_neB, f_lt, f_le, f_gt, f_ge, f_is, f_isNot, isNone_int, isNone_tup, isNone_lst, isNone_non, f_len_l, f_len_t, f_len_rd, f_tup_l, f_tup_t, f_max2, f_min2, f_abs, f_sum_l, f_sum_t, f_ix0, f_ix1, f_ix2, f_ix3, f_rev_t, outR_nx, outR_rt, outR_exc, nones0, nonesS, runB_eq, ap_eSl, optI_none, optI_some, optO_int, ap_sWh, ap_iSeq, items_l, items_t, ap_iRange1, ap_iRange2, wipeE_nil, wipeE_cons, evA_nil, evA_cons, RL.cons_ok, RL.cons_exc, RL.bind_ok, RL.bind_exc, RL.out_ok, RL.out_exc, Rs.bind_ok, Rs.bind_exc, Rs.out_ok, Rs.out_exc, Rs.of_some, Option.bind_some, List.getElem?_cons_zero, List.getElem?_cons_succ, List.set_cons_zero, List.set_cons_succ, List.map_cons, List.map_nil, List.cons_append, List.nil_append, List.length_cons, List.length_nil, Nat.reduceAdd, Nat.reduceSub, Nat.reduceLeDiff, Nat.reduceLT, Bool.not_true, Bool.not_false, decide_true, decide_false, List.isEmpty_nil]
  · have := hv v hv'
    simp -implicitDefEqProofs only [ap_sSeq, seqO_nx, seqO_rt, seqO_exc, ap_sIf, ifO_t, ifO_f, ifO_exc, ap_sNx, ap_sSet, ap_sOwn, ap_sRet, ap_sDrop, ap_sAsg, outB_some, bT_nm, bT_tp, bTs_nil, bTs_cons, ap_sRaise, ap_sPar, parO_ok, ap_sFor, ap_sRetV, retO_own, retO_val, ap_sFrz, frzO_own, frzO_val, ap_sApp, ap_sExt, ap_eV, valO_val, ap_eB, borO_val, borO_own, ap_eC, ap_eOp, opO_ok, ap_eUn, ap_eTup, ap_eLst, tupR_ok, lstR_ok, ap_eCB, ap_eCall, callO_ok, callO_exc, ap_gNot, notR_b, ap_gTru, truR_b, truR_list, ap_gAnd, ap_gOr, andO_t, andO_f, orO_t, orO_f, ap_eAnd, ap_eOr, eandO_t, eandO_f, eorO_t, eorO_f, ap_eNot, enotO_b, enotO_list, ap_eIf, eifO_t, eifO_f, ap_eChain, chO_ok, ap_eIsi, isiO_int, isiO_tup, isiO_lst, isiO_bl, isiO_str, isiO_non, isInt_int, isInt_bl, isInt_tup, isInt_lst, isInt_str, isInt_non, isBool_int, isBool_bl, isTup_tup, isTup_lst, isTup_int, isTup_non, isTup_str, isTup_bl, isLst_lst, isLst_tup, f_add, f_sub, f_neg, f_eqI, f_neI, f_eqB, f_neB, f_lt, f_le, f_gt, f_ge, f_is, f_isNot, isNone_int, isNone_tup, isNone_lst, isNone_non, f_len_l, f_len_t, f_len_rd, f_tup_l, f_tup_t, f_max2, f_min2, f_abs, f_sum_l, f_sum_t, f_ix0, f_ix1, f_ix2, f_ix3, f_rev_t, outR_nx, outR_rt, outR_exc, nones0, nonesS, runB_eq, ap_eSl, optI_none, optI_some, optO_int, ap_sWh, ap_iSeq, items_l, items_t, ap_iRange1, ap_iRange2, wipeE_nil, wipeE_cons, evA_nil, evA_cons, RL.cons_ok, RL.cons_exc, RL.bind_ok, RL.bind_exc, RL.out_ok, RL.out_exc, Rs.bind_ok, Rs.bind_exc, Rs.out_ok, Rs.out_exc, Rs.of_some, Option.bind_some, List.getElem?_cons_zero, List.getElem?_cons_succ, List.set_cons_zero, List.set_cons_succ, List.map_cons, List.map_nil, List.cons_append, List.nil_append, List.length_cons, List.length_nil, Nat.reduceAdd, Nat.reduceSub, Nat.reduceLeDiff, Nat.reduceLT, Bool.not_true, Bool.not_false, decide_true, decide_false, is_within_eq, this, and_self]
theorem is_shot_eq {s : List (List Int)} {h w : Nat} (S : Sh s h w) : sem_is_shot [shD s] = .ok (.bool true) := by
  have l := S.len
  have h1 := S.h1
  have h2 := S.h2
  have w1 := S.w1
  have w2 := S.w2
  have e0 : ixF (shD s) (.int 0) = some (rowD (rw' s 0)) := ix_sh s 0 (by decide) (by omega)
  have r0 : (rw' s 0).length = w := S.rlen (by decide) (by omega)
  have c1 : (1 : Int) ≤ (h : Int) := by omega
  have c2 : (h : Int) ≤ 12 := by omega
  have c3 : (1 : Int) ≤ (w : Int) := by omega
  have c4 : (w : Int) ≤ 12 := by omega
  simp -implicitDefEqProofs only [sem_is_shot, b_is_shot, isi_sh, isTup_sh, isi_row, isTup_row, len_sh, len_row, e0, r0, l, c1, c2, c3, c4, ap_sSeq, seqO_nx, seqO_rt, seqO_exc, ap_sIf, ifO_t, ifO_f, ifO_exc, ap_sNx, ap_sSet, ap_sOwn, ap_sRet, ap_sDrop, ap_sAsg, outB_some, bT_nm, bT_tp, bTs_nil, bTs_cons, ap_sRaise, ap_sPar, parO_ok, ap_sFor, ap_sRetV, retO_own, retO_val, ap_sFrz, frzO_own, frzO_val, ap_sApp, ap_sExt, ap_eV, valO_val, ap_eB, borO_val, borO_own, ap_eC, ap_eOp, opO_ok, ap_eUn, ap_eTup, ap_eLst, tupR_ok, lstR_ok, ap_eCB, ap_eCall, callO_ok, callO_exc, ap_gNot, notR_b, ap_gTru, truR_b, truR_list, ap_gAnd, ap_gOr, andO_t, andO_f, orO_t, orO_f, ap_eAnd, ap_eOr, eandO_t, eandO_f, eorO_t, eorO_f, ap_eNot, enotO_b, enotO_list, ap_eIf, eifO_t, eifO_f, ap_eChain, chO_ok, ap_eIsi, isiO_int, isiO_tup, isiO_lst, isiO_bl, isiO_str, isiO_non, isInt_int, isInt_bl, isInt_tup, isInt_lst, isInt_str, isInt_non, isBool_int, isBool_bl, isTup_tup, isTup_lst, isTup_int, isTup_non, isTup_str, isTup_bl, isLst_lst, isLst_tup, f_add, f_sub, f_neg, f_eqI, f_neI, f_eqB, f_neB, f_lt, f_le, f_gt, f_ge, f_is, f_isNot, isNone_int, isNone_tup, isNone_lst, isNone_non, f_len_l, f_len_t, f_len_rd, f_tup_l, f_tup_t, f_max2, f_min2, f_abs, f_sum_l, f_sum_t, f_ix0, f_ix1, f_ix2, f_ix3, f_rev_t, outR_nx, outR_rt, outR_exc, nones0, nonesS, runB_eq, ap_eSl, optI_none, optI_some, optO_int, ap_sWh, ap_iSeq, items_l, items_t, ap_iRange1, ap_iRange2, wipeE_nil, wipeE_cons, evA_nil, evA_cons, RL.cons_ok, RL.cons_exc, RL.bind_ok, RL.bind_exc, RL.out_ok, RL.out_exc, Rs.bind_ok, Rs.bind_exc, Rs.out_ok, Rs.out_exc, Rs.of_some, Option.bind_some, List.getElem?_cons_zero, List.getElem?_cons_succ, List.set_cons_zero, List.set_cons_succ, List.map_cons, List.map_nil, List.cons_append, List.nil_append, List.length_cons, List.length_nil, Nat.reduceAdd, Nat.reduceSub, Nat.reduceLeDiff, Nat.reduceLT, Bool.not_true, Bool.not_false, decide_true, decide_false]
  rw [eLc_noneA s rowD (by simp -implicitDefEqProofs only [items_sh, ap_sSeq, seqO_nx, seqO_rt, seqO_exc, ap_sIf, ifO_t, ifO_f, ifO_exc, ap_sNx, ap_sSet, ap_sOwn, ap_sRet, ap_sDrop, ap_sAsg, outB_some, bT_nm, bT_tp, bTs_nil, bTs_cons, ap_sRaise, ap_sPar, parO_ok, ap_sFor, ap_sRetV, retO_own, retO_val, ap_sFrz, frzO_own, frzO_val, ap_sApp, ap_sExt, ap_eV, valO_val, ap_eB, borO_val, borO_own, ap_eC, ap_eOp, opO_ok, ap_eUn, ap_eTup, ap_eLst, tupR_ok, lstR_ok, ap_eCB, ap_eCall, callO_ok, callO_exc, ap_gNot, notR_b, ap_gTru, truR_b, truR_list, ap_gAnd, ap_gOr, andO_t, andO_f, orO_t, orO_f, ap_eAnd, ap_eOr, eandO_t, eandO_f, eorO_t, eorO_f, ap_eNot, enotO_b, enotO_list, ap_eIf, eifO_t, eifO_f, ap_eChain, chO_ok, ap_eIsi, isiO_int, isiO_tup, isiO_lst, isiO_bl, isiO_str, isiO_non, isInt_int, isInt_bl, isInt_tup, isInt_lst, isInt_str, isInt_non, isBool_int, isBool_bl, isTup_tup, isTup_lst, isTup_int, isTup_non, isTup_str, isTup_bl, isLst_lst, isLst_tup, f_add, f_sub, f_neg, f_eqI, f_neI, f_eqB, f_neB, f_lt, f_le, f_gt, f_ge, f_is, f_isNot, isNone_int, isNone_tup, isNone_lst, isNone_non, f_len_l, f_len_t, f_len_rd, f_tup_l, f_tup_t, f_max2, f_min2, f_abs, f_sum_l, f_sum_t, f_ix0, f_ix1, f_ix2, f_ix3, f_rev_t, outR_nx, outR_rt, outR_exc, nones0, nonesS, runB_eq, ap_eSl, optI_none, optI_some, optO_int, ap_sWh, ap_iSeq, items_l, items_t, ap_iRange1, ap_iRange2, wipeE_nil, wipeE_cons, evA_nil, evA_cons, RL.cons_ok, RL.cons_exc, RL.bind_ok, RL.bind_exc, RL.out_ok, RL.out_exc, Rs.bind_ok, Rs.bind_exc, Rs.out_ok, Rs.out_exc, Rs.of_some, Option.bind_some, List.getElem?_cons_zero, List.getElem?_cons_succ, List.set_cons_zero, List.set_cons_succ, List.map_cons, List.map_nil, List.cons_append, List.nil_append, List.length_cons, List.length_nil, Nat.reduceAdd, Nat.reduceSub, Nat.reduceLeDiff, Nat.reduceLT, Bool.not_true, Bool.not_false, decide_true, decide_false]) fun r hr => ?_]
  · simp -implicitDefEqProofs only [ap_sSeq, seqO_nx, seqO_rt, seqO_exc, ap_sIf, ifO_t, ifO_f, ifO_exc, ap_sNx, ap_sSet, ap_sOwn, ap_sRet, ap_sDrop, ap_sAsg, outB_some, bT_nm, bT_tp, bTs_nil, bTs_cons, ap_sRaise, ap_sPar, parO_ok, ap_sFor, ap_sRetV, retO_own, retO_val, ap_sFrz, frzO_own, frzO_val, ap_sApp, ap_sExt, ap_eV, valO_val, ap_eB, borO_val, borO_own, ap_eC, ap_eOp, opO_ok, ap_eUn, ap_eTup, ap_eLst, tupR_ok, lstR_ok, ap_eCB, ap_eCall, callO_ok, callO_exc, ap_gNot, notR_b, ap_gTru, truR_b, truR_list, ap_gAnd, ap_gOr, andO_t, andO_f, orO_t, orO_f, ap_eAnd, ap_eOr, eandO_t, eandO_f, eorO_t, eorO_f, ap_eNot, enotO_b, enotO_list, ap_eIf, eifO_t, eifO_f, ap_eChain, chO_ok, ap_eIsi, isiO_int, isiO_tup, isiO_lst, isiO_bl, isiO_str, isiO_non, isInt_int, isInt_bl, isInt_tup, isInt_lst, isInt_str, isInt_non, isBool_int, isBool_bl, isTup_tup, isTup_lst, isTup_int, isTup_non, isTup_str, isTup_bl, isLst_lst, isLst_tup, f_add, f_sub, f_neg, f_eqI, f_neI, f_eqB, f_neB, f_lt, f_le, f_gt, f_ge, f_is, f_isNot, isNone_int, isNone_tup, isNone_lst, isNone_non, f_len_l, f_len_t, f_len_rd, f_tup_l, f_tup_t, f_max2, f_min2, f_abs, f_sum_l, f_sum_t, f_ix0, f_ix1, f_ix2, f_ix3, f_rev_t, outR_nx, outR_rt, outR_exc, nones0, nonesS, runB_eq, ap_eSl, optI_none, optI_some, optO_int, ap_sWh, ap_iSeq, items_l, items_t, ap_iRange1, ap_iRange2, wipeE_nil, wipeE_cons, evA_nil, evA_cons, RL.cons_ok, RL.cons_exc, RL.bind_ok, RL.bind_exc, RL.out_ok, RL.out_exc, Rs.bind_ok, Rs.bind_exc, Rs.out_ok, Rs.out_exc, Rs.of_some, Option.bind_some, List.getElem?_cons_zero, List.getElem?_cons_succ, List.set_cons_zero, List.set_cons_succ, List.map_cons, List.map_nil, List.cons_append, List.nil_append, List.length_cons, List.length_nil, Nat.reduceAdd, Nat.reduceSub, Nat.reduceLeDiff, Nat.reduceLT, Bool.not_true, Bool.not_false, decide_true, decide_false, List.isEmpty_nil]
  · simp -implicitDefEqProofs only [e0, len_row, r0, is_row_eq r w (S.row r hr) (S.lev r hr), ap_sSeq, seqO_nx, seqO_rt, seqO_exc, ap_sIf, ifO_t, ifO_f, ifO_exc, ap_sNx, ap_sSet, ap_sOwn, ap_sRet, ap_sDrop, ap_sAsg, outB_some, bT_nm, bT_tp, bTs_nil, bTs_cons, ap_sRaise, ap_sPar, parO_ok, ap_sFor, ap_sRetV, retO_own, retO_val, ap_sFrz, frzO_own, frzO_val, ap_sApp, ap_sExt, ap_eV, valO_val, ap_eB, borO_val, borO_own, ap_eC, ap_eOp, opO_ok, ap_eUn, ap_eTup, ap_eLst, tupR_ok, lstR_ok, ap_eCB, ap_eCall, callO_ok, callO_exc, ap_gNot, notR_b, ap_gTru, truR_b, truR_list, ap_gAnd, ap_gOr, andO_t, andO_f, orO_t, orO_f, ap_eAnd, ap_eOr, eandO_t, eandO_f, eorO_t, eorO_f, ap_eNot, enotO_b, enotO_list, ap_eIf, eifO_t, eifO_f, ap_eChain, chO_ok, ap_eIsi, isiO_int, isiO_tup, isiO_lst, isiO_bl, isiO_str, isiO_non, isInt_int, isInt_bl, isInt_tup, isInt_lst, isInt_str, isInt_non, isBool_int, isBool_bl, isTup_tup, isTup_lst, isTup_int, isTup_non, isTup_str, isTup_bl, isLst_lst, isLst_tup, f_add, f_sub, f_neg, f_eqI, f_neI, f_eqB, f_neB, f_lt, f_le, f_gt, f_ge, f_is, f_isNot, isNone_int, isNone_tup, isNone_lst, isNone_non, f_len_l, f_len_t, f_len_rd, f_tup_l, f_tup_t, f_max2, f_min2, f_abs, f_sum_l, f_sum_t, f_ix0, f_ix1, f_ix2, f_ix3, f_rev_t, outR_nx, outR_rt, outR_exc, nones0, nonesS, runB_eq, ap_eSl, optI_none, optI_some, optO_int, ap_sWh, ap_iSeq, items_l, items_t, ap_iRange1, ap_iRange2, wipeE_nil, wipeE_cons, evA_nil, evA_cons, RL.cons_ok, RL.cons_exc, RL.bind_ok, RL.bind_exc, RL.out_ok, RL.out_exc, Rs.bind_ok, Rs.bind_exc, Rs.out_ok, Rs.out_exc, Rs.of_some, Option.bind_some, List.getElem?_cons_zero, List.getElem?_cons_succ, List.set_cons_zero, List.set_cons_succ, List.map_cons, List.map_nil, List.cons_append, List.nil_append, List.length_cons, List.length_nil, Nat.reduceAdd, Nat.reduceSub, Nat.reduceLeDiff, Nat.reduceLT, Bool.not_true, Bool.not_false, decide_true, decide_false]
theorem look_eq {s : List (List Int)} {h w : Nat} (S : Sh s h w) : sem_look [shD s] = .ok .none := by
  simp -implicitDefEqProofs only [sem_look, b_look, is_shot_eq S, ap_sSeq, seqO_nx, seqO_rt, seqO_exc, ap_sIf, ifO_t, ifO_f, ifO_exc, ap_sNx, ap_sSet, ap_sOwn, ap_sRet, ap_sDrop, ap_sAsg, outB_some, bT_nm, bT_tp, bTs_nil, bTs_cons, ap_sRaise, ap_sPar, parO_ok, ap_sFor, ap_sRetV, retO_own, retO_val, ap_sFrz, frzO_own, frzO_val, ap_sApp, ap_sExt, ap_eV, valO_val, ap_eB, borO_val, borO_own, ap_eC, ap_eOp, opO_ok, ap_eUn, ap_eTup, ap_eLst, tupR_ok, lstR_ok, ap_eCB, ap_eCall, callO_ok, callO_exc, ap_gNot, notR_b, ap_gTru, truR_b, truR_list, ap_gAnd, ap_gOr, andO_t, andO_f, orO_t, orO_f, ap_eAnd, ap_eOr, eandO_t, eandO_f, eorO_t, eorO_f, ap_eNot, enotO_b, enotO_list, ap_eIf, eifO_t, eifO_f, ap_eChain, chO_ok, ap_eIsi, isiO_int, isiO_tup, isiO_lst, isiO_bl, isiO_str, isiO_non, isInt_int, isInt_bl, isInt_tup, isInt_lst, isInt_str, isInt_non, isBool_int, isBool_bl, isTup_tup, isTup_lst, isTup_int, isTup_non, isTup_str, isTup_bl, isLst_lst, isLst_tup, f_add, f_sub, f_neg, f_eqI, f_neI, f_eqB, f_neB, f_lt, f_le, f_gt, f_ge, f_is, f_isNot, isNone_int, isNone_tup, isNone_lst, isNone_non, f_len_l, f_len_t, f_len_rd, f_tup_l, f_tup_t, f_max2, f_min2, f_abs, f_sum_l, f_sum_t, f_ix0, f_ix1, f_ix2, f_ix3, f_rev_t, outR_nx, outR_rt, outR_exc, nones0, nonesS, runB_eq, ap_eSl, optI_none, optI_some, optO_int, ap_sWh, ap_iSeq, items_l, items_t, ap_iRange1, ap_iRange2, wipeE_nil, wipeE_cons, evA_nil, evA_cons, RL.cons_ok, RL.cons_exc, RL.bind_ok, RL.bind_exc, RL.out_ok, RL.out_exc, Rs.bind_ok, Rs.bind_exc, Rs.out_ok, Rs.out_exc, Rs.of_some, Option.bind_some, List.getElem?_cons_zero, List.getElem?_cons_succ, List.set_cons_zero, List.set_cons_succ, List.map_cons, List.map_nil, List.cons_append, List.nil_append, List.length_cons, List.length_nil, Nat.reduceAdd, Nat.reduceSub, Nat.reduceLeDiff, Nat.reduceLT, Bool.not_true, Bool.not_false, decide_true, decide_false]
theorem size_of_eq {s : List (List Int)} {h w : Nat} (S : Sh s h w) : sem_size_of [shD s] = .ok (.tuple [.int w, .int h]) := by
  have l := S.len
  have h1 := S.h1
  have e0 : ixF (shD s) (.int 0) = some (rowD (rw' s 0)) := ix_sh s 0 (by decide) (by omega)
  have r0 : (rw' s 0).length = w := S.rlen (by decide) (by omega)
  simp -implicitDefEqProofs only [sem_size_of, b_size_of, e0, r0, l, len_row, len_sh, ap_sSeq, seqO_nx, seqO_rt, seqO_exc, ap_sIf, ifO_t, ifO_f, ifO_exc, ap_sNx, ap_sSet, ap_sOwn, ap_sRet, ap_sDrop, ap_sAsg, outB_some, bT_nm, bT_tp, bTs_nil, bTs_cons, ap_sRaise, ap_sPar, parO_ok, ap_sFor, ap_sRetV, retO_own, retO_val, ap_sFrz, frzO_own, frzO_val, ap_sApp, ap_sExt, ap_eV, valO_val, ap_eB, borO_val, borO_own, ap_eC, ap_eOp, opO_ok, ap_eUn, ap_eTup, ap_eLst, tupR_ok, lstR_ok, ap_eCB, ap_eCall, callO_ok, callO_exc, ap_gNot, notR_b, ap_gTru, truR_b, truR_list, ap_gAnd, ap_gOr, andO_t, andO_f, orO_t, orO_f, ap_eAnd, ap_eOr, eandO_t, eandO_f, eorO_t, eorO_f, ap_eNot, enotO_b, enotO_list, ap_eIf, eifO_t, eifO_f, ap_eChain, chO_ok, ap_eIsi, isiO_int, isiO_tup, isiO_lst, isiO_bl, isiO_str, isiO_non, isInt_int, isInt_bl, isInt_tup, isInt_lst, isInt_str, isInt_non, isBool_int, isBool_bl, isTup_tup, isTup_lst, isTup_int, isTup_non, isTup_str, isTup_bl, isLst_lst, isLst_tup, f_add, f_sub, f_neg, f_eqI, f_neI, f_eqB, f_neB, f_lt, f_le, f_gt, f_ge, f_is, f_isNot, isNone_int, isNone_tup, isNone_lst, isNone_non, f_len_l, f_len_t, f_len_rd, f_tup_l, f_tup_t, f_max2, f_min2, f_abs, f_sum_l, f_sum_t, f_ix0, f_ix1, f_ix2, f_ix3, f_rev_t, outR_nx, outR_rt, outR_exc, nones0, nonesS, runB_eq, ap_eSl, optI_none, optI_some, optO_int, ap_sWh, ap_iSeq, items_l, items_t, ap_iRange1, ap_iRange2, wipeE_nil, wipeE_cons, evA_nil, evA_cons, RL.cons_ok, RL.cons_exc, RL.bind_ok, RL.bind_exc, RL.out_ok, RL.out_exc, Rs.bind_ok, Rs.bind_exc, Rs.out_ok, Rs.out_exc, Rs.of_some, Option.bind_some, List.getElem?_cons_zero, List.getElem?_cons_succ, List.set_cons_zero, List.set_cons_succ, List.map_cons, List.map_nil, List.cons_append, List.nil_append, List.length_cons, List.length_nil, Nat.reduceAdd, Nat.reduceSub, Nat.reduceLeDiff, Nat.reduceLT, Bool.not_true, Bool.not_false, decide_true, decide_false]
theorem is_way_eq (p q : Int) (hp : -12 ≤ p ∧ p ≤ 12) (hq : -12 ≤ q ∧ q ≤ 12) : sem_is_way [.tuple [.int p, .int q]] = .ok (.bool true) := by
  have e2 : ((0 + 1 + 1 : Nat) : Int) = 2 := rfl
  have e3 : ((2 : Nat) : Int) = 2 := rfl
  simp -implicitDefEqProofs only [sem_is_way, b_is_way, e2, e3, ap_sSeq, seqO_nx, seqO_rt, seqO_exc, ap_sIf, ifO_t, ifO_f, ifO_exc, ap_sNx, ap_sSet, ap_sOwn, ap_sRet, ap_sDrop, ap_sAsg, outB_some, bT_nm, bT_tp, bTs_nil, bTs_cons, ap_sRaise, ap_sPar, parO_ok, ap_sFor, ap_sRetV, retO_own, retO_val, ap_sFrz, frzO_own, frzO_val, ap_sApp, ap_sExt, ap_eV, valO_val, ap_eB, borO_val, borO_own, ap_eC, ap_eOp, opO_ok, ap_eUn, ap_eTup, ap_eLst, tupR_ok, lstR_ok, ap_eCB, ap_eCall, callO_ok, callO_exc, ap_gNot, notR_b, ap_gTru, truR_b, truR_list, ap_gAnd, ap_gOr, andO_t, andO_f, orO_t, orO_f, ap_eAnd, ap_eOr, eandO_t, eandO_f, eorO_t, eorO_f, ap_eNot, enotO_b, enotO_list, ap_eIf, eifO_t, eifO_f, ap_eChain, chO_ok, ap_eIsi, isiO_int, isiO_tup, isiO_lst, isiO_bl, isiO_str, isiO_non, isInt_int, isInt_bl, isInt_tup, isInt_lst, isInt_str, isInt_non, isBool_int, isBool_bl, isTup_tup, isTup_lst, isTup_int, isTup_non, isTup_str, isTup_bl, isLst_lst, isLst_tup, f_add, f_sub, f_neg, f_eqI, f_neI, f_eqB, f_neB, f_lt, f_le, f_gt, f_ge, f_is, f_isNot, isNone_int, isNone_tup, isNone_lst, isNone_non, f_len_l, f_len_t, f_len_rd, f_tup_l, f_tup_t, f_max2, f_min2, f_abs, f_sum_l, f_sum_t, f_ix0, f_ix1, f_ix2, f_ix3, f_rev_t, outR_nx, outR_rt, outR_exc, nones0, nonesS, runB_eq, ap_eSl, optI_none, optI_some, optO_int, ap_sWh, ap_iSeq, items_l, items_t, ap_iRange1, ap_iRange2, wipeE_nil, wipeE_cons, evA_nil, evA_cons, RL.cons_ok, RL.cons_exc, RL.bind_ok, RL.bind_exc, RL.out_ok, RL.out_exc, Rs.bind_ok, Rs.bind_exc, Rs.out_ok, Rs.out_exc, Rs.of_some, Option.bind_some, List.getElem?_cons_zero, List.getElem?_cons_succ, List.set_cons_zero, List.set_cons_succ, List.map_cons, List.map_nil, List.cons_append, List.nil_append, List.length_cons, List.length_nil, Nat.reduceAdd, Nat.reduceSub, Nat.reduceLeDiff, Nat.reduceLT, Bool.not_true, Bool.not_false, decide_true, decide_false]
  rw [eLc_noneA [p, q] PyData.int (by simp -implicitDefEqProofs only [ap_sSeq, seqO_nx, seqO_rt, seqO_exc, ap_sIf, ifO_t, ifO_f, ifO_exc, ap_sNx, ap_sSet, ap_sOwn, ap_sRet, ap_sDrop, ap_sAsg, outB_some, bT_nm, bT_tp, bTs_nil, bTs_cons, ap_sRaise, ap_sPar, parO_ok, ap_sFor, ap_sRetV, retO_own, retO_val, ap_sFrz, frzO_own, frzO_val, ap_sApp, ap_sExt, ap_eV, valO_val, ap_eB, borO_val, borO_own, ap_eC, ap_eOp, opO_ok, ap_eUn, ap_eTup, ap_eLst, tupR_ok, lstR_ok, ap_eCB, ap_eCall, callO_ok, callO_exc, ap_gNot, notR_b, ap_gTru, truR_b, truR_list, ap_gAnd, ap_gOr, andO_t, andO_f, orO_t, orO_f, ap_eAnd, ap_eOr, eandO_t, eandO_f, eorO_t, eorO_f, ap_eNot, enotO_b, enotO_list, ap_eIf, eifO_t, eifO_f, ap_eChain, chO_ok, ap_eIsi, isiO_int, isiO_tup, isiO_lst, isiO_bl, isiO_str, isiO_non, isInt_int, isInt_bl, isInt_tup, isInt_lst, isInt_str, isInt_non, isBool_int, isBool_bl, isTup_tup, isTup_lst, isTup_int, isTup_non, isTup_str, isTup_bl, isLst_lst, isLst_tup, f_add, f_sub, f_neg, f_eqI, f_neI, f_eqB, f_neB, f_lt, f_le, f_gt, f_ge, f_is, f_isNot, isNone_int, isNone_tup, isNone_lst, isNone_non, f_len_l, f_len_t, f_len_rd, f_tup_l, f_tup_t, f_max2, f_min2, f_abs, f_sum_l, f_sum_t, f_ix0, f_ix1, f_ix2, f_ix3, f_rev_t, outR_nx, outR_rt, outR_exc, nones0, nonesS, runB_eq, ap_eSl, optI_none, optI_some, optO_int, ap_sWh, ap_iSeq, items_l, items_t, ap_iRange1, ap_iRange2, wipeE_nil, wipeE_cons, evA_nil, evA_cons, RL.cons_ok, RL.cons_exc, RL.bind_ok, RL.bind_exc, RL.out_ok, RL.out_exc, Rs.bind_ok, Rs.bind_exc, Rs.out_ok, Rs.out_exc, Rs.of_some, Option.bind_some, List.getElem?_cons_zero, List.getElem?_cons_succ, List.set_cons_zero, List.set_cons_succ, List.map_cons, List.map_nil, List.cons_append, List.nil_append, List.length_cons, List.length_nil, Nat.reduceAdd, Nat.reduceSub, Nat.reduceLeDiff, Nat.reduceLT, Bool.not_true, Bool.not_false, decide_true, decide_false]) fun v hv' => ?_]
  · simp -implicitDefEqProofs only [ap_sSeq, seqO_nx, seqO_rt, seqO_exc, ap_sIf, ifO_t, ifO_f, ifO_exc, ap_sNx, ap_sSet, ap_sOwn, ap_sRet, ap_sDrop, ap_sAsg, outB_some, bT_nm, bT_tp, bTs_nil, bTs_cons, ap_sRaise, ap_sPar, parO_ok, ap_sFor, ap_sRetV, retO_own, retO_val, ap_sFrz, frzO_own, frzO_val, ap_sApp, ap_sExt, ap_eV, valO_val, ap_eB, borO_val, borO_own, ap_eC, ap_eOp, opO_ok, ap_eUn, ap_eTup, ap_eLst, tupR_ok, lstR_ok, ap_eCB, ap_eCall, callO_ok, callO_exc, ap_gNot, notR_b, ap_gTru, truR_b, truR_list, ap_gAnd, ap_gOr, andO_t, andO_f, orO_t, orO_f, ap_eAnd, ap_eOr, eandO_t, eandO_f, eorO_t, eorO_f, ap_eNot, enotO_b, enotO_list, ap_eIf, eifO_t, eifO_f, ap_eChain, chO_ok, ap_eIsi, isiO_int, isiO_tup, isiO_lst, isiO_bl, isiO_str, isiO_non, isInt_int, isInt_bl, isInt_tup, isInt_lst, isInt_str, isInt_non, isBool_int, isBool_bl, isTup_tup, isTup_lst, isTup_int, isTup_non, isTup_str, isTup_bl, isLst_lst, isLst_tup, f_add, f_sub, f_neg, f_eqI, f_neI, f_eqB, f_neB, f_lt, f_le, f_gt, f_ge, f_is, f_isNot, isNone_int, isNone_tup, isNone_lst, isNone_non, f_len_l, f_len_t, f_len_rd, f_tup_l, f_tup_t, f_max2, f_min2, f_abs, f_sum_l, f_sum_t, f_ix0, f_ix1, f_ix2, f_ix3, f_rev_t, outR_nx, outR_rt, outR_exc, nones0, nonesS, runB_eq, ap_eSl, optI_none, optI_some, optO_int, ap_sWh, ap_iSeq, items_l, items_t, ap_iRange1, ap_iRange2, wipeE_nil, wipeE_cons, evA_nil, evA_cons, RL.cons_ok, RL.cons_exc, RL.bind_ok, RL.bind_exc, RL.out_ok, RL.out_exc, Rs.bind_ok, Rs.bind_exc, Rs.out_ok, Rs.out_exc, Rs.of_some, Option.bind_some, List.getElem?_cons_zero, List.getElem?_cons_succ, List.set_cons_zero, List.set_cons_succ, List.map_cons, List.map_nil, List.cons_append, List.nil_append, List.length_cons, List.length_nil, Nat.reduceAdd, Nat.reduceSub, Nat.reduceLeDiff, Nat.reduceLT, Bool.not_true, Bool.not_false, decide_true, decide_false, List.isEmpty_nil]
  · have : -12 ≤ v ∧ v ≤ 12 := by
      simp -implicitDefEqProofs only [List.mem_cons, List.not_mem_nil, or_false] at hv'
      rcases hv' with rfl | rfl
      · exact hp
      · exact hq
    simp -implicitDefEqProofs only [ap_sSeq, seqO_nx, seqO_rt, seqO_exc, ap_sIf, ifO_t, ifO_f, ifO_exc, ap_sNx, ap_sSet, ap_sOwn, ap_sRet, ap_sDrop, ap_sAsg, outB_some, bT_nm, bT_tp, bTs_nil, bTs_cons, ap_sRaise, ap_sPar, parO_ok, ap_sFor, ap_sRetV, retO_own, retO_val, ap_sFrz, frzO_own, frzO_val, ap_sApp, ap_sExt, ap_eV, valO_val, ap_eB, borO_val, borO_own, ap_eC, ap_eOp, opO_ok, ap_eUn, ap_eTup, ap_eLst, tupR_ok, lstR_ok, ap_eCB, ap_eCall, callO_ok, callO_exc, ap_gNot, notR_b, ap_gTru, truR_b, truR_list, ap_gAnd, ap_gOr, andO_t, andO_f, orO_t, orO_f, ap_eAnd, ap_eOr, eandO_t, eandO_f, eorO_t, eorO_f, ap_eNot, enotO_b, enotO_list, ap_eIf, eifO_t, eifO_f, ap_eChain, chO_ok, ap_eIsi, isiO_int, isiO_tup, isiO_lst, isiO_bl, isiO_str, isiO_non, isInt_int, isInt_bl, isInt_tup, isInt_lst, isInt_str, isInt_non, isBool_int, isBool_bl, isTup_tup, isTup_lst, isTup_int, isTup_non, isTup_str, isTup_bl, isLst_lst, isLst_tup, f_add, f_sub, f_neg, f_eqI, f_neI, f_eqB, f_neB, f_lt, f_le, f_gt, f_ge, f_is, f_isNot, isNone_int, isNone_tup, isNone_lst, isNone_non, f_len_l, f_len_t, f_len_rd, f_tup_l, f_tup_t, f_max2, f_min2, f_abs, f_sum_l, f_sum_t, f_ix0, f_ix1, f_ix2, f_ix3, f_rev_t, outR_nx, outR_rt, outR_exc, nones0, nonesS, runB_eq, ap_eSl, optI_none, optI_some, optO_int, ap_sWh, ap_iSeq, items_l, items_t, ap_iRange1, ap_iRange2, wipeE_nil, wipeE_cons, evA_nil, evA_cons, RL.cons_ok, RL.cons_exc, RL.bind_ok, RL.bind_exc, RL.out_ok, RL.out_exc, Rs.bind_ok, Rs.bind_exc, Rs.out_ok, Rs.out_exc, Rs.of_some, Option.bind_some, List.getElem?_cons_zero, List.getElem?_cons_succ, List.set_cons_zero, List.set_cons_succ, List.map_cons, List.map_nil, List.cons_append, List.nil_append, List.length_cons, List.length_nil, Nat.reduceAdd, Nat.reduceSub, Nat.reduceLeDiff, Nat.reduceLT, Bool.not_true, Bool.not_false, decide_true, decide_false, is_within_eq, this, and_self]
theorem look_two_eq {a b : List (List Int)} {h w h' w' : Nat} (A : Sh a h w) (B : Sh b h' w') (p q : Int) (hp : -12 ≤ p ∧ p ≤ 12) (hq : -12 ≤ q ∧ q ≤ 12) : sem_look_two [shD a, shD b, .tuple [.int p, .int q]] = .ok .none := by
  simp -implicitDefEqProofs only [sem_look_two, b_look_two, look_eq A, look_eq B, is_way_eq p q hp hq, ap_sSeq, seqO_nx, seqO_rt, seqO_exc, ap_sIf, ifO_t, ifO_f, ifO_exc, ap_sNx, ap_sSet, ap_sOwn, ap_sRet, ap_sDrop, ap_sAsg, outB_some, bT_nm, bT_tp, bTs_nil, bTs_cons, ap_sRaise, ap_sPar, parO_ok, ap_sFor, ap_sRetV, retO_own, retO_val, ap_sFrz, frzO_own, frzO_val, ap_sApp, ap_sExt, ap_eV, valO_val, ap_eB, borO_val, borO_own, ap_eC, ap_eOp, opO_ok, ap_eUn, ap_eTup, ap_eLst, tupR_ok, lstR_ok, ap_eCB, ap_eCall, callO_ok, callO_exc, ap_gNot, notR_b, ap_gTru, truR_b, truR_list, ap_gAnd, ap_gOr, andO_t, andO_f, orO_t, orO_f, ap_eAnd, ap_eOr, eandO_t, eandO_f, eorO_t, eorO_f, ap_eNot, enotO_b, enotO_list, ap_eIf, eifO_t, eifO_f, ap_eChain, chO_ok, ap_eIsi, isiO_int, isiO_tup, isiO_lst, isiO_bl, isiO_str, isiO_non, isInt_int, isInt_bl, isInt_tup, isInt_lst, isInt_str, isInt_non, isBool_int, isBool_bl, isTup_tup, isTup_lst, isTup_int, isTup_non, isTup_str, isTup_bl, isLst_lst, isLst_tup, f_add, f_sub, f_neg, f_eqI, f_neI, f_eqB, f_neB, f_lt, f_le, f_gt, f_ge, f_is, f_isNot, isNone_int, isNone_tup, isNone_lst, isNone_non, f_len_l, f_len_t, f_len_rd, f_tup_l, f_tup_t, f_max2, f_min2, f_abs, f_sum_l, f_sum_t, f_ix0, f_ix1, f_ix2, f_ix3, f_rev_t, outR_nx, outR_rt, outR_exc, nones0, nonesS, runB_eq, ap_eSl, optI_none, optI_some, optO_int, ap_sWh, ap_iSeq, items_l, items_t, ap_iRange1, ap_iRange2, wipeE_nil, wipeE_cons, evA_nil, evA_cons, RL.cons_ok, RL.cons_exc, RL.bind_ok, RL.bind_exc, RL.out_ok, RL.out_exc, Rs.bind_ok, Rs.bind_exc, Rs.out_ok, Rs.out_exc, Rs.of_some, Option.bind_some, List.getElem?_cons_zero, List.getElem?_cons_succ, List.set_cons_zero, List.set_cons_succ, List.map_cons, List.map_nil, List.cons_append, List.nil_append, List.length_cons, List.length_nil, Nat.reduceAdd, Nat.reduceSub, Nat.reduceLeDiff, Nat.reduceLT, Bool.not_true, Bool.not_false, decide_true, decide_false]
def boxD (w h w' h' p q : Int) : D := if max 0 p < min w (p + w') ∧ max 0 q < min h (q + h') then .tuple [.int (max 0 p), .int (max 0 q), .int (min w (p + w') - max 0 p), .int (min h (q + h') - max 0 q)] else .none
theorem shared_of_eq {a b : List (List Int)} {h w h' w' : Nat} (A : Sh a h w) (B : Sh b h' w') (p q : Int) : sem_shared_of [shD a, shD b, .tuple [.int p, .int q]] = .ok (boxD w h w' h' p q) := by
  simp -implicitDefEqProofs only [sem_shared_of, b_shared_of, size_of_eq A, size_of_eq B, ap_sSeq, seqO_nx, seqO_rt, seqO_exc, ap_sIf, ifO_t, ifO_f, ifO_exc, ap_sNx, ap_sSet, ap_sOwn, ap_sRet, ap_sDrop, ap_sAsg, outB_some, bT_nm, bT_tp, bTs_nil, bTs_cons, ap_sRaise, ap_sPar, parO_ok, ap_sFor, ap_sRetV, retO_own, retO_val, ap_sFrz, frzO_own, frzO_val, ap_sApp, ap_sExt, ap_eV, valO_val, ap_eB, borO_val, borO_own, ap_eC, ap_eOp, opO_ok, ap_eUn, ap_eTup, ap_eLst, tupR_ok, lstR_ok, ap_eCB, ap_eCall, callO_ok, callO_exc, ap_gNot, notR_b, ap_gTru, truR_b, truR_list, ap_gAnd, ap_gOr, andO_t, andO_f, orO_t, orO_f, ap_eAnd, ap_eOr, eandO_t, eandO_f, eorO_t, eorO_f, ap_eNot, enotO_b, enotO_list, ap_eIf, eifO_t, eifO_f, ap_eChain, chO_ok, ap_eIsi, isiO_int, isiO_tup, isiO_lst, isiO_bl, isiO_str, isiO_non, isInt_int, isInt_bl, isInt_tup, isInt_lst, isInt_str, isInt_non, isBool_int, isBool_bl, isTup_tup, isTup_lst, isTup_int, isTup_non, isTup_str, isTup_bl, isLst_lst, isLst_tup, f_add, f_sub, f_neg, f_eqI, f_neI, f_eqB, f_neB, f_lt, f_le, f_gt, f_ge, f_is, f_isNot, isNone_int, isNone_tup, isNone_lst, isNone_non, f_len_l, f_len_t, f_len_rd, f_tup_l, f_tup_t, f_max2, f_min2, f_abs, f_sum_l, f_sum_t, f_ix0, f_ix1, f_ix2, f_ix3, f_rev_t, outR_nx, outR_rt, outR_exc, nones0, nonesS, runB_eq, ap_eSl, optI_none, optI_some, optO_int, ap_sWh, ap_iSeq, items_l, items_t, ap_iRange1, ap_iRange2, wipeE_nil, wipeE_cons, evA_nil, evA_cons, RL.cons_ok, RL.cons_exc, RL.bind_ok, RL.bind_exc, RL.out_ok, RL.out_exc, Rs.bind_ok, Rs.bind_exc, Rs.out_ok, Rs.out_exc, Rs.of_some, Option.bind_some, List.getElem?_cons_zero, List.getElem?_cons_succ, List.set_cons_zero, List.set_cons_succ, List.map_cons, List.map_nil, List.cons_append, List.nil_append, List.length_cons, List.length_nil, Nat.reduceAdd, Nat.reduceSub, Nat.reduceLeDiff, Nat.reduceLT, Bool.not_true, Bool.not_false, decide_true, decide_false]
  unfold boxD
  by_cases c1 : max 0 p < min (w : Int) (p + w')
  · by_cases c2 : max 0 q < min (h : Int) (q + h')
    · simp -implicitDefEqProofs only [c1, c2, and_self, if_true, ap_sSeq, seqO_nx, seqO_rt, seqO_exc, ap_sIf, ifO_t, ifO_f, ifO_exc, ap_sNx, ap_sSet, ap_sOwn, ap_sRet, ap_sDrop, ap_sAsg, outB_some, bT_nm, bT_tp, bTs_nil, bTs_cons, ap_sRaise, ap_sPar, parO_ok, ap_sFor, ap_sRetV, retO_own, retO_val, ap_sFrz, frzO_own, frzO_val, ap_sApp, ap_sExt, ap_eV, valO_val, ap_eB, borO_val, borO_own, ap_eC, ap_eOp, opO_ok, ap_eUn, ap_eTup, ap_eLst, tupR_ok, lstR_ok, ap_eCB, ap_eCall, callO_ok, callO_exc, ap_gNot, notR_b, ap_gTru, truR_b, truR_list, ap_gAnd, ap_gOr, andO_t, andO_f, orO_t, orO_f, ap_eAnd, ap_eOr, eandO_t, eandO_f, eorO_t, eorO_f, ap_eNot, enotO_b, enotO_list, ap_eIf, eifO_t, eifO_f, ap_eChain, chO_ok, ap_eIsi, isiO_int, isiO_tup, isiO_lst, isiO_bl, isiO_str, isiO_non, isInt_int, isInt_bl, isInt_tup, isInt_lst, isInt_str, isInt_non, isBool_int, isBool_bl, isTup_tup, isTup_lst, isTup_int, isTup_non, isTup_str, isTup_bl, isLst_lst, isLst_tup, f_add, f_sub, f_neg, f_eqI, f_neI, f_eqB, f_neB, f_lt, f_le, f_gt, f_ge, f_is, f_isNot, isNone_int, isNone_tup, isNone_lst, isNone_non, f_len_l, f_len_t, f_len_rd, f_tup_l, f_tup_t, f_max2, f_min2, f_abs, f_sum_l, f_sum_t, f_ix0, f_ix1, f_ix2, f_ix3, f_rev_t, outR_nx, outR_rt, outR_exc, nones0, nonesS, runB_eq, ap_eSl, optI_none, optI_some, optO_int, ap_sWh, ap_iSeq, items_l, items_t, ap_iRange1, ap_iRange2, wipeE_nil, wipeE_cons, evA_nil, evA_cons, RL.cons_ok, RL.cons_exc, RL.bind_ok, RL.bind_exc, RL.out_ok, RL.out_exc, Rs.bind_ok, Rs.bind_exc, Rs.out_ok, Rs.out_exc, Rs.of_some, Option.bind_some, List.getElem?_cons_zero, List.getElem?_cons_succ, List.set_cons_zero, List.set_cons_succ, List.map_cons, List.map_nil, List.cons_append, List.nil_append, List.length_cons, List.length_nil, Nat.reduceAdd, Nat.reduceSub, Nat.reduceLeDiff, Nat.reduceLT, Bool.not_true, Bool.not_false, decide_true, decide_false]
    · simp -implicitDefEqProofs only [c1, c2, and_false, if_false, ap_sSeq, seqO_nx, seqO_rt, seqO_exc, ap_sIf, ifO_t, ifO_f, ifO_exc, ap_sNx, ap_sSet, ap_sOwn, ap_sRet, ap_sDrop, ap_sAsg, outB_some, bT_nm, bT_tp, bTs_nil, bTs_cons, ap_sRaise, ap_sPar, parO_ok, ap_sFor, ap_sRetV, retO_own, retO_val, ap_sFrz, frzO_own, frzO_val, ap_sApp, ap_sExt, ap_eV, valO_val, ap_eB, borO_val, borO_own, ap_eC, ap_eOp, opO_ok, ap_eUn, ap_eTup, ap_eLst, tupR_ok, lstR_ok, ap_eCB, ap_eCall, callO_ok, callO_exc, ap_gNot, notR_b, ap_gTru, truR_b, truR_list, ap_gAnd, ap_gOr, andO_t, andO_f, orO_t, orO_f, ap_eAnd, ap_eOr, eandO_t, eandO_f, eorO_t, eorO_f, ap_eNot, enotO_b, enotO_list, ap_eIf, eifO_t, eifO_f, ap_eChain, chO_ok, ap_eIsi, isiO_int, isiO_tup, isiO_lst, isiO_bl, isiO_str, isiO_non, isInt_int, isInt_bl, isInt_tup, isInt_lst, isInt_str, isInt_non, isBool_int, isBool_bl, isTup_tup, isTup_lst, isTup_int, isTup_non, isTup_str, isTup_bl, isLst_lst, isLst_tup, f_add, f_sub, f_neg, f_eqI, f_neI, f_eqB, f_neB, f_lt, f_le, f_gt, f_ge, f_is, f_isNot, isNone_int, isNone_tup, isNone_lst, isNone_non, f_len_l, f_len_t, f_len_rd, f_tup_l, f_tup_t, f_max2, f_min2, f_abs, f_sum_l, f_sum_t, f_ix0, f_ix1, f_ix2, f_ix3, f_rev_t, outR_nx, outR_rt, outR_exc, nones0, nonesS, runB_eq, ap_eSl, optI_none, optI_some, optO_int, ap_sWh, ap_iSeq, items_l, items_t, ap_iRange1, ap_iRange2, wipeE_nil, wipeE_cons, evA_nil, evA_cons, RL.cons_ok, RL.cons_exc, RL.bind_ok, RL.bind_exc, RL.out_ok, RL.out_exc, Rs.bind_ok, Rs.bind_exc, Rs.out_ok, Rs.out_exc, Rs.of_some, Option.bind_some, List.getElem?_cons_zero, List.getElem?_cons_succ, List.set_cons_zero, List.set_cons_succ, List.map_cons, List.map_nil, List.cons_append, List.nil_append, List.length_cons, List.length_nil, Nat.reduceAdd, Nat.reduceSub, Nat.reduceLeDiff, Nat.reduceLT, Bool.not_true, Bool.not_false, decide_true, decide_false]
  · simp -implicitDefEqProofs only [c1, false_and, if_false, ap_sSeq, seqO_nx, seqO_rt, seqO_exc, ap_sIf, ifO_t, ifO_f, ifO_exc, ap_sNx, ap_sSet, ap_sOwn, ap_sRet, ap_sDrop, ap_sAsg, outB_some, bT_nm, bT_tp, bTs_nil, bTs_cons, ap_sRaise, ap_sPar, parO_ok, ap_sFor, ap_sRetV, retO_own, retO_val, ap_sFrz, frzO_own, frzO_val, ap_sApp, ap_sExt, ap_eV, valO_val, ap_eB, borO_val, borO_own, ap_eC, ap_eOp, opO_ok, ap_eUn, ap_eTup, ap_eLst, tupR_ok, lstR_ok, ap_eCB, ap_eCall, callO_ok, callO_exc, ap_gNot, notR_b, ap_gTru, truR_b, truR_list, ap_gAnd, ap_gOr, andO_t, andO_f, orO_t, orO_f, ap_eAnd, ap_eOr, eandO_t, eandO_f, eorO_t, eorO_f, ap_eNot, enotO_b, enotO_list, ap_eIf, eifO_t, eifO_f, ap_eChain, chO_ok, ap_eIsi, isiO_int, isiO_tup, isiO_lst, isiO_bl, isiO_str, isiO_non, isInt_int, isInt_bl, isInt_tup, isInt_lst, isInt_str, isInt_non, isBool_int, isBool_bl, isTup_tup, isTup_lst, isTup_int, isTup_non, isTup_str, isTup_bl, isLst_lst, isLst_tup, f_add, f_sub, f_neg, f_eqI, f_neI, f_eqB, f_neB, f_lt, f_le, f_gt, f_ge, f_is, f_isNot, isNone_int, isNone_tup, isNone_lst, isNone_non, f_len_l, f_len_t, f_len_rd, f_tup_l, f_tup_t, f_max2, f_min2, f_abs, f_sum_l, f_sum_t, f_ix0, f_ix1, f_ix2, f_ix3, f_rev_t, outR_nx, outR_rt, outR_exc, nones0, nonesS, runB_eq, ap_eSl, optI_none, optI_some, optO_int, ap_sWh, ap_iSeq, items_l, items_t, ap_iRange1, ap_iRange2, wipeE_nil, wipeE_cons, evA_nil, evA_cons, RL.cons_ok, RL.cons_exc, RL.bind_ok, RL.bind_exc, RL.out_ok, RL.out_exc, Rs.bind_ok, Rs.bind_exc, Rs.out_ok, Rs.out_exc, Rs.of_some, Option.bind_some, List.getElem?_cons_zero, List.getElem?_cons_succ, List.set_cons_zero, List.set_cons_succ, List.map_cons, List.map_nil, List.cons_append, List.nil_append, List.length_cons, List.length_nil, Nat.reduceAdd, Nat.reduceSub, Nat.reduceLeDiff, Nat.reduceLT, Bool.not_true, Bool.not_false, decide_true, decide_false]
theorem shared_eq {a b : List (List Int)} {h w h' w' : Nat} (A : Sh a h w) (B : Sh b h' w') (p q : Int) (hp : -12 ≤ p ∧ p ≤ 12) (hq : -12 ≤ q ∧ q ≤ 12) : sem_shared [shD a, shD b, .tuple [.int p, .int q]] = .ok (boxD w h w' h' p q) := by
  simp -implicitDefEqProofs only [sem_shared, b_shared, look_two_eq A B p q hp hq, shared_of_eq A B, ap_sSeq, seqO_nx, seqO_rt, seqO_exc, ap_sIf, ifO_t, ifO_f, ifO_exc, ap_sNx, ap_sSet, ap_sOwn, ap_sRet, ap_sDrop, ap_sAsg, outB_some, bT_nm, bT_tp, bTs_nil, bTs_cons, ap_sRaise, ap_sPar, parO_ok, ap_sFor, ap_sRetV, retO_own, retO_val, ap_sFrz, frzO_own, frzO_val, ap_sApp, ap_sExt, ap_eV, valO_val, ap_eB, borO_val, borO_own, ap_eC, ap_eOp, opO_ok, ap_eUn, ap_eTup, ap_eLst, tupR_ok, lstR_ok, ap_eCB, ap_eCall, callO_ok, callO_exc, ap_gNot, notR_b, ap_gTru, truR_b, truR_list, ap_gAnd, ap_gOr, andO_t, andO_f, orO_t, orO_f, ap_eAnd, ap_eOr, eandO_t, eandO_f, eorO_t, eorO_f, ap_eNot, enotO_b, enotO_list, ap_eIf, eifO_t, eifO_f, ap_eChain, chO_ok, ap_eIsi, isiO_int, isiO_tup, isiO_lst, isiO_bl, isiO_str, isiO_non, isInt_int, isInt_bl, isInt_tup, isInt_lst, isInt_str, isInt_non, isBool_int, isBool_bl, isTup_tup, isTup_lst, isTup_int, isTup_non, isTup_str, isTup_bl, isLst_lst, isLst_tup, f_add, f_sub, f_neg, f_eqI, f_neI, f_eqB, f_neB, f_lt, f_le, f_gt, f_ge, f_is, f_isNot, isNone_int, isNone_tup, isNone_lst, isNone_non, f_len_l, f_len_t, f_len_rd, f_tup_l, f_tup_t, f_max2, f_min2, f_abs, f_sum_l, f_sum_t, f_ix0, f_ix1, f_ix2, f_ix3, f_rev_t, outR_nx, outR_rt, outR_exc, nones0, nonesS, runB_eq, ap_eSl, optI_none, optI_some, optO_int, ap_sWh, ap_iSeq, items_l, items_t, ap_iRange1, ap_iRange2, wipeE_nil, wipeE_cons, evA_nil, evA_cons, RL.cons_ok, RL.cons_exc, RL.bind_ok, RL.bind_exc, RL.out_ok, RL.out_exc, Rs.bind_ok, Rs.bind_exc, Rs.out_ok, Rs.out_exc, Rs.of_some, Option.bind_some, List.getElem?_cons_zero, List.getElem?_cons_succ, List.set_cons_zero, List.set_cons_succ, List.map_cons, List.map_nil, List.cons_append, List.nil_append, List.length_cons, List.length_nil, Nat.reduceAdd, Nat.reduceSub, Nat.reduceLeDiff, Nat.reduceLT, Bool.not_true, Bool.not_false, decide_true, decide_false]
end VVlaw

set_option Elab.async false
set_option linter.all false
set_option maxRecDepth 100000
set_option maxHeartbeats 4000000
/-! PLc: steps, unlike, mirrored, lit, cut_out; the law's rows and shots. -/
namespace VVlaw
open PySem PySem.Spec L2 VV
open PyProof.Rows hiding St
def stepRow (a b : List (List Int)) (p q l : Int) (m : Nat) (y : Int) : List Int := (rangeI l m).map fun x => cell a y x - cell b (y - q) (x - p)
def stepsG (a b : List (List Int)) (p q l t : Int) (m n : Nat) : List Int := (rangeI t n).flatMap (stepRow a b p q l m)
def steps (a b : List (List Int)) (w h w' h' p q : Int) : List Int := stepsG a b p q (max 0 p) (max 0 q) (min w (p + w') - max 0 p).toNat (min h (q + h') - max 0 q).toNat
theorem stepRow_length (a b : List (List Int)) (p q l : Int) (m : Nat) (y : Int) : (stepRow a b p q l m y).length = m := by simp [stepRow, rangeI_length]
theorem stepsG_succ (a b : List (List Int)) (p q l t : Int) (m n : Nat) : stepsG a b p q l t m (n + 1) = stepsG a b p q l t m n ++ stepRow a b p q l m (t + n) := by
  unfold stepsG
  rw [rangeI_succ, List.flatMap_append]
  simp
theorem stepsG_length (a b : List (List Int)) (p q l t : Int) (m n : Nat) : (stepsG a b p q l t m n).length = n * m := by
  induction n with
  | zero => simp [stepsG, rangeI_zero]
  | succ n ih => rw [stepsG_succ, List.length_append, ih, stepRow_length, Nat.succ_mul]
theorem steps_of_eq {a b : List (List Int)} {h w h' w' : Nat} (A : Sh a h w) (B : Sh b h' w') (p q : Int) (hp : -12 ≤ p ∧ p ≤ 12) (hq : -12 ≤ q ∧ q ≤ 12) : sem_steps_of [shD a, shD b, .tuple [.int p, .int q]] = .ok (.list ((steps a b w h w' h' p q).map PyData.int)) := by
  have hw := A.w2
  have hh := A.h2
  simp -implicitDefEqProofs only [sem_steps_of, b_steps_of, shared_of_eq A B, ap_sSeq, seqO_nx, seqO_rt, seqO_exc, ap_sIf, ifO_t, ifO_f, ifO_exc, ap_sNx, ap_sSet, ap_sOwn, ap_sRet, ap_sDrop, ap_sAsg, outB_some, bT_nm, bT_tp, bTs_nil, bTs_cons, ap_sRaise, ap_sPar, parO_ok, ap_sFor, ap_sRetV, retO_own, retO_val, ap_sFrz, frzO_own, frzO_val, ap_sApp, ap_sExt, ap_eV, valO_val, ap_eB, borO_val, borO_own, ap_eC, ap_eOp, opO_ok, ap_eUn, ap_eTup, ap_eLst, tupR_ok, lstR_ok, ap_eCB, ap_eCall, callO_ok, callO_exc, ap_gNot, notR_b, ap_gTru, truR_b, truR_list, ap_gAnd, ap_gOr, andO_t, andO_f, orO_t, orO_f, ap_eAnd, ap_eOr, eandO_t, eandO_f, eorO_t, eorO_f, ap_eNot, enotO_b, enotO_list, ap_eIf, eifO_t, eifO_f, ap_eChain, chO_ok, ap_eIsi, isiO_int, isiO_tup, isiO_lst, isiO_bl, isiO_str, isiO_non, isInt_int, isInt_bl, isInt_tup, isInt_lst, isInt_str, isInt_non, isBool_int, isBool_bl, isTup_tup, isTup_lst, isTup_int, isTup_non, isTup_str, isTup_bl, isLst_lst, isLst_tup, f_add, f_sub, f_neg, f_eqI, f_neI, f_eqB, f_neB, f_lt, f_le, f_gt, f_ge, f_is, f_isNot, isNone_int, isNone_tup, isNone_lst, isNone_non, f_len_l, f_len_t, f_len_rd, f_tup_l, f_tup_t, f_max2, f_min2, f_abs, f_sum_l, f_sum_t, f_ix0, f_ix1, f_ix2, f_ix3, f_rev_t, outR_nx, outR_rt, outR_exc, nones0, nonesS, runB_eq, ap_eSl, optI_none, optI_some, optO_int, ap_sWh, ap_iSeq, items_l, items_t, ap_iRange1, ap_iRange2, wipeE_nil, wipeE_cons, evA_nil, evA_cons, RL.cons_ok, RL.cons_exc, RL.bind_ok, RL.bind_exc, RL.out_ok, RL.out_exc, Rs.bind_ok, Rs.bind_exc, Rs.out_ok, Rs.out_exc, Rs.of_some, Option.bind_some, List.getElem?_cons_zero, List.getElem?_cons_succ, List.set_cons_zero, List.set_cons_succ, List.map_cons, List.map_nil, List.cons_append, List.nil_append, List.length_cons, List.length_nil, Nat.reduceAdd, Nat.reduceSub, Nat.reduceLeDiff, Nat.reduceLT, Bool.not_true, Bool.not_false, decide_true, decide_false]
  by_cases c : max 0 p < min (w : Int) (p + w') ∧ max 0 q < min (h : Int) (q + h')
  · have ebox : boxD w h w' h' p q = .tuple [.int (max 0 p), .int (max 0 q), .int (min (w : Int) (p + w') - max 0 p), .int (min (h : Int) (q + h') - max 0 q)] := if_pos c
    rw [ebox]
    generalize hl : max 0 p = l at *
    generalize ht : max 0 q = t at *
    generalize hr : min (w : Int) (p + w') = r at *
    generalize hb : min (h : Int) (q + h') = bo at *
    have e2 : rng2 [.int t, .int (t + (bo - t))] = some (rangeD t (bo - t).toNat) := by
      have := rng2_ok t (t + (bo - t)) (by omega)
      have e : t + (bo - t) - t = bo - t := by omega
      rw [e] at this
      unfold RL.items at this
      dsimp only at this
      split at this
      · cases this; assumption
      · cases this
    have e3 : (RL.ok [.int t, .int (t + (bo - t))]).items rng2 = .ok (rangeD t (bo - t).toNat) := by
      have := rng2_ok t (t + (bo - t)) (by omega)
      have e : t + (bo - t) - t = bo - t := by omega
      rw [e] at this
      exact this
    have e4 : (RL.ok [.int l, .int (l + (r - l))]).items rng2 = .ok (rangeD l (r - l).toNat) := by
      have := rng2_ok l (l + (r - l)) (by omega)
      have e : l + (r - l) - l = r - l := by omega
      rw [e] at this
      exact this
    simp -implicitDefEqProofs only [e3, ap_sSeq, seqO_nx, seqO_rt, seqO_exc, ap_sIf, ifO_t, ifO_f, ifO_exc, ap_sNx, ap_sSet, ap_sOwn, ap_sRet, ap_sDrop, ap_sAsg, outB_some, bT_nm, bT_tp, bTs_nil, bTs_cons, ap_sRaise, ap_sPar, parO_ok, ap_sFor, ap_sRetV, retO_own, retO_val, ap_sFrz, frzO_own, frzO_val, ap_sApp, ap_sExt, ap_eV, valO_val, ap_eB, borO_val, borO_own, ap_eC, ap_eOp, opO_ok, ap_eUn, ap_eTup, ap_eLst, tupR_ok, lstR_ok, ap_eCB, ap_eCall, callO_ok, callO_exc, ap_gNot, notR_b, ap_gTru, truR_b, truR_list, ap_gAnd, ap_gOr, andO_t, andO_f, orO_t, orO_f, ap_eAnd, ap_eOr, eandO_t, eandO_f, eorO_t, eorO_f, ap_eNot, enotO_b, enotO_list, ap_eIf, eifO_t, eifO_f, ap_eChain, chO_ok, ap_eIsi, isiO_int, isiO_tup, isiO_lst, isiO_bl, isiO_str, isiO_non, isInt_int, isInt_bl, isInt_tup, isInt_lst, isInt_str, isInt_non, isBool_int, isBool_bl, isTup_tup, isTup_lst, isTup_int, isTup_non, isTup_str, isTup_bl, isLst_lst, isLst_tup, f_add, f_sub, f_neg, f_eqI, f_neI, f_eqB, f_neB, f_lt, f_le, f_gt, f_ge, f_is, f_isNot, isNone_int, isNone_tup, isNone_lst, isNone_non, f_len_l, f_len_t, f_len_rd, f_tup_l, f_tup_t, f_max2, f_min2, f_abs, f_sum_l, f_sum_t, f_ix0, f_ix1, f_ix2, f_ix3, f_rev_t, outR_nx, outR_rt, outR_exc, nones0, nonesS, runB_eq, ap_eSl, optI_none, optI_some, optO_int, ap_sWh, ap_iSeq, items_l, items_t, ap_iRange1, ap_iRange2, wipeE_nil, wipeE_cons, evA_nil, evA_cons, RL.cons_ok, RL.cons_exc, RL.bind_ok, RL.bind_exc, RL.out_ok, RL.out_exc, Rs.bind_ok, Rs.bind_exc, Rs.out_ok, Rs.out_exc, Rs.of_some, Option.bind_some, List.getElem?_cons_zero, List.getElem?_cons_succ, List.set_cons_zero, List.set_cons_succ, List.map_cons, List.map_nil, List.cons_append, List.nil_append, List.length_cons, List.length_nil, Nat.reduceAdd, Nat.reduceSub, Nat.reduceLeDiff, Nat.reduceLT, Bool.not_true, Bool.not_false, decide_true, decide_false]
    obtain ⟨ρ', e, P⟩ := forGo_rng (i := 9) (lo := t) (n := (bo - t).toNat) (f := lp_steps_of_1)
      (fun k ρ => ∃ o : Option Sl, ρ = [some (.val (shD a)), some (.val (shD b)), some (.val (.tuple [.int p, .int q])), some (.val (.tuple [.int l, .int t, .int (r - l), .int (bo - t)])), some (.val (.int l)), some (.val (.int t)), some (.val (.int (r - l))), some (.val (.int (bo - t))),
        some (.own (.list ((stepsG a b p q l t (r - l).toNat k).map PyData.int))), o, none])
      (ρ := [some (.val (shD a)), some (.val (shD b)), some (.val (.tuple [.int p, .int q])), some (.val (.tuple [.int l, .int t, .int (r - l), .int (bo - t)])), some (.val (.int l)), some (.val (.int t)), some (.val (.int (r - l))), some (.val (.int (bo - t))),
        some (.own (.list [])), none, none]) ⟨none, rfl⟩ (by
        rintro k ρ hk ⟨o, rfl⟩
        have hy0 : 0 ≤ t + k := by omega
        have hyh : t + k < h := by omega
        have hyq0 : 0 ≤ t + k - q := by omega
        have hyqh : t + k - q < h' := by omega
        have la : (rw' a (t + k)).length = w := A.rlen hy0 hyh
        have lb : (rw' b (t + k - q)).length = w' := B.rlen hyq0 hyqh
        have i1 : ixF (shD a) (.int (t + k)) = some (rowD (rw' a (t + k))) := ix_sh a _ hy0 (by rw [A.len]; exact hyh)
        have i2 : ixF (shD b) (.int (t + k - q)) = some (rowD (rw' b (t + k - q))) := ix_sh b _ hyq0 (by rw [B.len]; exact hyqh)
        simp -implicitDefEqProofs only [lp_steps_of_1, ap_sSeq, seqO_nx, seqO_rt, seqO_exc, ap_sIf, ifO_t, ifO_f, ifO_exc, ap_sNx, ap_sSet, ap_sOwn, ap_sRet, ap_sDrop, ap_sAsg, outB_some, bT_nm, bT_tp, bTs_nil, bTs_cons, ap_sRaise, ap_sPar, parO_ok, ap_sFor, ap_sRetV, retO_own, retO_val, ap_sFrz, frzO_own, frzO_val, ap_sApp, ap_sExt, ap_eV, valO_val, ap_eB, borO_val, borO_own, ap_eC, ap_eOp, opO_ok, ap_eUn, ap_eTup, ap_eLst, tupR_ok, lstR_ok, ap_eCB, ap_eCall, callO_ok, callO_exc, ap_gNot, notR_b, ap_gTru, truR_b, truR_list, ap_gAnd, ap_gOr, andO_t, andO_f, orO_t, orO_f, ap_eAnd, ap_eOr, eandO_t, eandO_f, eorO_t, eorO_f, ap_eNot, enotO_b, enotO_list, ap_eIf, eifO_t, eifO_f, ap_eChain, chO_ok, ap_eIsi, isiO_int, isiO_tup, isiO_lst, isiO_bl, isiO_str, isiO_non, isInt_int, isInt_bl, isInt_tup, isInt_lst, isInt_str, isInt_non, isBool_int, isBool_bl, isTup_tup, isTup_lst, isTup_int, isTup_non, isTup_str, isTup_bl, isLst_lst, isLst_tup, f_add, f_sub, f_neg, f_eqI, f_neI, f_eqB, f_neB, f_lt, f_le, f_gt, f_ge, f_is, f_isNot, isNone_int, isNone_tup, isNone_lst, isNone_non, f_len_l, f_len_t, f_len_rd, f_tup_l, f_tup_t, f_max2, f_min2, f_abs, f_sum_l, f_sum_t, f_ix0, f_ix1, f_ix2, f_ix3, f_rev_t, outR_nx, outR_rt, outR_exc, nones0, nonesS, runB_eq, ap_eSl, optI_none, optI_some, optO_int, ap_sWh, ap_iSeq, items_l, items_t, ap_iRange1, ap_iRange2, wipeE_nil, wipeE_cons, evA_nil, evA_cons, RL.cons_ok, RL.cons_exc, RL.bind_ok, RL.bind_exc, RL.out_ok, RL.out_exc, Rs.bind_ok, Rs.bind_exc, Rs.out_ok, Rs.out_exc, Rs.of_some, Option.bind_some, List.getElem?_cons_zero, List.getElem?_cons_succ, List.set_cons_zero, List.set_cons_succ, List.map_cons, List.map_nil, List.cons_append, List.nil_append, List.length_cons, List.length_nil, Nat.reduceAdd, Nat.reduceSub, Nat.reduceLeDiff, Nat.reduceLT, Bool.not_true, Bool.not_false, decide_true, decide_false]
        rw [eLc_mapA (rangeI l (r - l).toNat) PyData.int (fun x => PyData.int (cell a (t + k) x - cell b (t + k - q) (x - p))) (by simp -implicitDefEqProofs only [e4, rangeD_eq, ap_sSeq, seqO_nx, seqO_rt, seqO_exc, ap_sIf, ifO_t, ifO_f, ifO_exc, ap_sNx, ap_sSet, ap_sOwn, ap_sRet, ap_sDrop, ap_sAsg, outB_some, bT_nm, bT_tp, bTs_nil, bTs_cons, ap_sRaise, ap_sPar, parO_ok, ap_sFor, ap_sRetV, retO_own, retO_val, ap_sFrz, frzO_own, frzO_val, ap_sApp, ap_sExt, ap_eV, valO_val, ap_eB, borO_val, borO_own, ap_eC, ap_eOp, opO_ok, ap_eUn, ap_eTup, ap_eLst, tupR_ok, lstR_ok, ap_eCB, ap_eCall, callO_ok, callO_exc, ap_gNot, notR_b, ap_gTru, truR_b, truR_list, ap_gAnd, ap_gOr, andO_t, andO_f, orO_t, orO_f, ap_eAnd, ap_eOr, eandO_t, eandO_f, eorO_t, eorO_f, ap_eNot, enotO_b, enotO_list, ap_eIf, eifO_t, eifO_f, ap_eChain, chO_ok, ap_eIsi, isiO_int, isiO_tup, isiO_lst, isiO_bl, isiO_str, isiO_non, isInt_int, isInt_bl, isInt_tup, isInt_lst, isInt_str, isInt_non, isBool_int, isBool_bl, isTup_tup, isTup_lst, isTup_int, isTup_non, isTup_str, isTup_bl, isLst_lst, isLst_tup, f_add, f_sub, f_neg, f_eqI, f_neI, f_eqB, f_neB, f_lt, f_le, f_gt, f_ge, f_is, f_isNot, isNone_int, isNone_tup, isNone_lst, isNone_non, f_len_l, f_len_t, f_len_rd, f_tup_l, f_tup_t, f_max2, f_min2, f_abs, f_sum_l, f_sum_t, f_ix0, f_ix1, f_ix2, f_ix3, f_rev_t, outR_nx, outR_rt, outR_exc, nones0, nonesS, runB_eq, ap_eSl, optI_none, optI_some, optO_int, ap_sWh, ap_iSeq, items_l, items_t, ap_iRange1, ap_iRange2, wipeE_nil, wipeE_cons, evA_nil, evA_cons, RL.cons_ok, RL.cons_exc, RL.bind_ok, RL.bind_exc, RL.out_ok, RL.out_exc, Rs.bind_ok, Rs.bind_exc, Rs.out_ok, Rs.out_exc, Rs.of_some, Option.bind_some, List.getElem?_cons_zero, List.getElem?_cons_succ, List.set_cons_zero, List.set_cons_succ, List.map_cons, List.map_nil, List.cons_append, List.nil_append, List.length_cons, List.length_nil, Nat.reduceAdd, Nat.reduceSub, Nat.reduceLeDiff, Nat.reduceLT, Bool.not_true, Bool.not_false, decide_true, decide_false]) (by rw [rangeI_length]; omega) (by
          intro x hx
          have hx' := mem_rangeI.mp hx
          have j1 : ixF (rowD (rw' a (t + k))) (.int x) = some (.int (cell a (t + k) x)) := ix_row _ x (by omega) (by omega)
          have j2 : ixF (rowD (rw' b (t + k - q))) (.int (x - p)) = some (.int (cell b (t + k - q) (x - p))) := ix_row _ _ (by omega) (by omega)
          simp -implicitDefEqProofs only [i1, i2, j1, j2, ap_sSeq, seqO_nx, seqO_rt, seqO_exc, ap_sIf, ifO_t, ifO_f, ifO_exc, ap_sNx, ap_sSet, ap_sOwn, ap_sRet, ap_sDrop, ap_sAsg, outB_some, bT_nm, bT_tp, bTs_nil, bTs_cons, ap_sRaise, ap_sPar, parO_ok, ap_sFor, ap_sRetV, retO_own, retO_val, ap_sFrz, frzO_own, frzO_val, ap_sApp, ap_sExt, ap_eV, valO_val, ap_eB, borO_val, borO_own, ap_eC, ap_eOp, opO_ok, ap_eUn, ap_eTup, ap_eLst, tupR_ok, lstR_ok, ap_eCB, ap_eCall, callO_ok, callO_exc, ap_gNot, notR_b, ap_gTru, truR_b, truR_list, ap_gAnd, ap_gOr, andO_t, andO_f, orO_t, orO_f, ap_eAnd, ap_eOr, eandO_t, eandO_f, eorO_t, eorO_f, ap_eNot, enotO_b, enotO_list, ap_eIf, eifO_t, eifO_f, ap_eChain, chO_ok, ap_eIsi, isiO_int, isiO_tup, isiO_lst, isiO_bl, isiO_str, isiO_non, isInt_int, isInt_bl, isInt_tup, isInt_lst, isInt_str, isInt_non, isBool_int, isBool_bl, isTup_tup, isTup_lst, isTup_int, isTup_non, isTup_str, isTup_bl, isLst_lst, isLst_tup, f_add, f_sub, f_neg, f_eqI, f_neI, f_eqB, f_neB, f_lt, f_le, f_gt, f_ge, f_is, f_isNot, isNone_int, isNone_tup, isNone_lst, isNone_non, f_len_l, f_len_t, f_len_rd, f_tup_l, f_tup_t, f_max2, f_min2, f_abs, f_sum_l, f_sum_t, f_ix0, f_ix1, f_ix2, f_ix3, f_rev_t, outR_nx, outR_rt, outR_exc, nones0, nonesS, runB_eq, ap_eSl, optI_none, optI_some, optO_int, ap_sWh, ap_iSeq, items_l, items_t, ap_iRange1, ap_iRange2, wipeE_nil, wipeE_cons, evA_nil, evA_cons, RL.cons_ok, RL.cons_exc, RL.bind_ok, RL.bind_exc, RL.out_ok, RL.out_exc, Rs.bind_ok, Rs.bind_exc, Rs.out_ok, Rs.out_exc, Rs.of_some, Option.bind_some, List.getElem?_cons_zero, List.getElem?_cons_succ, List.set_cons_zero, List.set_cons_succ, List.map_cons, List.map_nil, List.cons_append, List.nil_append, List.length_cons, List.length_nil, Nat.reduceAdd, Nat.reduceSub, Nat.reduceLeDiff, Nat.reduceLT, Bool.not_true, Bool.not_false, decide_true, decide_false]
          exact ⟨trivial, trivial⟩)]
        have hlen : ((stepsG a b p q l t (r - l).toNat k).map PyData.int).length + ((rangeI l (r - l).toNat).map fun x => PyData.int (cell a (t + k) x - cell b (t + k - q) (x - p))).length ≤ 16777216 := by
          rw [List.length_map, List.length_map, stepsG_length, rangeI_length]
          have : k * (r - l).toNat ≤ 12 * 12 := Nat.mul_le_mul (by omega) (by omega)
          omega
        rw [extO_ok _ _ _ _ hlen]
        simp -implicitDefEqProofs only [ap_sSeq, seqO_nx, seqO_rt, seqO_exc, ap_sIf, ifO_t, ifO_f, ifO_exc, ap_sNx, ap_sSet, ap_sOwn, ap_sRet, ap_sDrop, ap_sAsg, outB_some, bT_nm, bT_tp, bTs_nil, bTs_cons, ap_sRaise, ap_sPar, parO_ok, ap_sFor, ap_sRetV, retO_own, retO_val, ap_sFrz, frzO_own, frzO_val, ap_sApp, ap_sExt, ap_eV, valO_val, ap_eB, borO_val, borO_own, ap_eC, ap_eOp, opO_ok, ap_eUn, ap_eTup, ap_eLst, tupR_ok, lstR_ok, ap_eCB, ap_eCall, callO_ok, callO_exc, ap_gNot, notR_b, ap_gTru, truR_b, truR_list, ap_gAnd, ap_gOr, andO_t, andO_f, orO_t, orO_f, ap_eAnd, ap_eOr, eandO_t, eandO_f, eorO_t, eorO_f, ap_eNot, enotO_b, enotO_list, ap_eIf, eifO_t, eifO_f, ap_eChain, chO_ok, ap_eIsi, isiO_int, isiO_tup, isiO_lst, isiO_bl, isiO_str, isiO_non, isInt_int, isInt_bl, isInt_tup, isInt_lst, isInt_str, isInt_non, isBool_int, isBool_bl, isTup_tup, isTup_lst, isTup_int, isTup_non, isTup_str, isTup_bl, isLst_lst, isLst_tup, f_add, f_sub, f_neg, f_eqI, f_neI, f_eqB, f_neB, f_lt, f_le, f_gt, f_ge, f_is, f_isNot, isNone_int, isNone_tup, isNone_lst, isNone_non, f_len_l, f_len_t, f_len_rd, f_tup_l, f_tup_t, f_max2, f_min2, f_abs, f_sum_l, f_sum_t, f_ix0, f_ix1, f_ix2, f_ix3, f_rev_t, outR_nx, outR_rt, outR_exc, nones0, nonesS, runB_eq, ap_eSl, optI_none, optI_some, optO_int, ap_sWh, ap_iSeq, items_l, items_t, ap_iRange1, ap_iRange2, wipeE_nil, wipeE_cons, evA_nil, evA_cons, RL.cons_ok, RL.cons_exc, RL.bind_ok, RL.bind_exc, RL.out_ok, RL.out_exc, Rs.bind_ok, Rs.bind_exc, Rs.out_ok, Rs.out_exc, Rs.of_some, Option.bind_some, List.getElem?_cons_zero, List.getElem?_cons_succ, List.set_cons_zero, List.set_cons_succ, List.map_cons, List.map_nil, List.cons_append, List.nil_append, List.length_cons, List.length_nil, Nat.reduceAdd, Nat.reduceSub, Nat.reduceLeDiff, Nat.reduceLT, Bool.not_true, Bool.not_false, decide_true, decide_false]
        refine ⟨_, rfl, some (.val (.int (t + k))), ?_⟩
        rw [stepsG_succ, List.map_append]
        simp -implicitDefEqProofs only [stepRow, List.map_map]
        rfl)
    obtain ⟨o, rfl⟩ := P
    rw [e]
    simp -implicitDefEqProofs only [ap_sSeq, seqO_nx, seqO_rt, seqO_exc, ap_sIf, ifO_t, ifO_f, ifO_exc, ap_sNx, ap_sSet, ap_sOwn, ap_sRet, ap_sDrop, ap_sAsg, outB_some, bT_nm, bT_tp, bTs_nil, bTs_cons, ap_sRaise, ap_sPar, parO_ok, ap_sFor, ap_sRetV, retO_own, retO_val, ap_sFrz, frzO_own, frzO_val, ap_sApp, ap_sExt, ap_eV, valO_val, ap_eB, borO_val, borO_own, ap_eC, ap_eOp, opO_ok, ap_eUn, ap_eTup, ap_eLst, tupR_ok, lstR_ok, ap_eCB, ap_eCall, callO_ok, callO_exc, ap_gNot, notR_b, ap_gTru, truR_b, truR_list, ap_gAnd, ap_gOr, andO_t, andO_f, orO_t, orO_f, ap_eAnd, ap_eOr, eandO_t, eandO_f, eorO_t, eorO_f, ap_eNot, enotO_b, enotO_list, ap_eIf, eifO_t, eifO_f, ap_eChain, chO_ok, ap_eIsi, isiO_int, isiO_tup, isiO_lst, isiO_bl, isiO_str, isiO_non, isInt_int, isInt_bl, isInt_tup, isInt_lst, isInt_str, isInt_non, isBool_int, isBool_bl, isTup_tup, isTup_lst, isTup_int, isTup_non, isTup_str, isTup_bl, isLst_lst, isLst_tup, f_add, f_sub, f_neg, f_eqI, f_neI, f_eqB, f_neB, f_lt, f_le, f_gt, f_ge, f_is, f_isNot, isNone_int, isNone_tup, isNone_lst, isNone_non, f_len_l, f_len_t, f_len_rd, f_tup_l, f_tup_t, f_max2, f_min2, f_abs, f_sum_l, f_sum_t, f_ix0, f_ix1, f_ix2, f_ix3, f_rev_t, outR_nx, outR_rt, outR_exc, nones0, nonesS, runB_eq, ap_eSl, optI_none, optI_some, optO_int, ap_sWh, ap_iSeq, items_l, items_t, ap_iRange1, ap_iRange2, wipeE_nil, wipeE_cons, evA_nil, evA_cons, RL.cons_ok, RL.cons_exc, RL.bind_ok, RL.bind_exc, RL.out_ok, RL.out_exc, Rs.bind_ok, Rs.bind_exc, Rs.out_ok, Rs.out_exc, Rs.of_some, Option.bind_some, List.getElem?_cons_zero, List.getElem?_cons_succ, List.set_cons_zero, List.set_cons_succ, List.map_cons, List.map_nil, List.cons_append, List.nil_append, List.length_cons, List.length_nil, Nat.reduceAdd, Nat.reduceSub, Nat.reduceLeDiff, Nat.reduceLT, Bool.not_true, Bool.not_false, decide_true, decide_false]
    unfold steps
    rw [hl, ht, hr, hb]
  · have ebox : boxD w h w' h' p q = .none := if_neg c
    have es : steps a b w h w' h' p q = [] := by
      have : (steps a b w h w' h' p q).length = 0 := by
        unfold steps
        rw [stepsG_length]
        rcases Classical.not_and_iff_not_or_not.mp c with c | c
        · have : (min (w : Int) (p + w') - max 0 p).toNat = 0 := by omega
          rw [this, Nat.mul_zero]
        · have : (min (h : Int) (q + h') - max 0 q).toNat = 0 := by omega
          rw [this, Nat.zero_mul]
      exact List.eq_nil_of_length_eq_zero this
    rw [ebox, es]
    simp -implicitDefEqProofs only [ap_sSeq, seqO_nx, seqO_rt, seqO_exc, ap_sIf, ifO_t, ifO_f, ifO_exc, ap_sNx, ap_sSet, ap_sOwn, ap_sRet, ap_sDrop, ap_sAsg, outB_some, bT_nm, bT_tp, bTs_nil, bTs_cons, ap_sRaise, ap_sPar, parO_ok, ap_sFor, ap_sRetV, retO_own, retO_val, ap_sFrz, frzO_own, frzO_val, ap_sApp, ap_sExt, ap_eV, valO_val, ap_eB, borO_val, borO_own, ap_eC, ap_eOp, opO_ok, ap_eUn, ap_eTup, ap_eLst, tupR_ok, lstR_ok, ap_eCB, ap_eCall, callO_ok, callO_exc, ap_gNot, notR_b, ap_gTru, truR_b, truR_list, ap_gAnd, ap_gOr, andO_t, andO_f, orO_t, orO_f, ap_eAnd, ap_eOr, eandO_t, eandO_f, eorO_t, eorO_f, ap_eNot, enotO_b, enotO_list, ap_eIf, eifO_t, eifO_f, ap_eChain, chO_ok, ap_eIsi, isiO_int, isiO_tup, isiO_lst, isiO_bl, isiO_str, isiO_non, isInt_int, isInt_bl, isInt_tup, isInt_lst, isInt_str, isInt_non, isBool_int, isBool_bl, isTup_tup, isTup_lst, isTup_int, isTup_non, isTup_str, isTup_bl, isLst_lst, isLst_tup, f_add, f_sub, f_neg, f_eqI, f_neI, f_eqB, f_neB, f_lt, f_le, f_gt, f_ge, f_is, f_isNot, isNone_int, isNone_tup, isNone_lst, isNone_non, f_len_l, f_len_t, f_len_rd, f_tup_l, f_tup_t, f_max2, f_min2, f_abs, f_sum_l, f_sum_t, f_ix0, f_ix1, f_ix2, f_ix3, f_rev_t, outR_nx, outR_rt, outR_exc, nones0, nonesS, runB_eq, ap_eSl, optI_none, optI_some, optO_int, ap_sWh, ap_iSeq, items_l, items_t, ap_iRange1, ap_iRange2, wipeE_nil, wipeE_cons, evA_nil, evA_cons, RL.cons_ok, RL.cons_exc, RL.bind_ok, RL.bind_exc, RL.out_ok, RL.out_exc, Rs.bind_ok, Rs.bind_exc, Rs.out_ok, Rs.out_exc, Rs.of_some, Option.bind_some, List.getElem?_cons_zero, List.getElem?_cons_succ, List.set_cons_zero, List.set_cons_succ, List.map_cons, List.map_nil, List.cons_append, List.nil_append, List.length_cons, List.length_nil, Nat.reduceAdd, Nat.reduceSub, Nat.reduceLeDiff, Nat.reduceLT, Bool.not_true, Bool.not_false, decide_true, decide_false]
end VVlaw

set_option Elab.async false
set_option linter.all false
set_option maxRecDepth 100000
set_option maxHeartbeats 4000000
/-! PLd: gcd, least, unlike; mirrored, lit, cut_out. -/
namespace VVlaw
open PySem PySem.Spec L2 VV
open PyProof.Rows hiding St
theorem gcd_step (a b : Int) : Int.gcd a b = Int.gcd b (a % b) := by
  have key : ∀ u v k : Int, ((Int.gcd u v : Nat) : Int) ∣ u - v * k := fun u v k => Int.dvd_sub (Int.gcd_dvd_left ..) (Int.dvd_trans (Int.gcd_dvd_right ..) (Int.dvd_mul_right ..))
  apply Nat.dvd_antisymm
  · refine Int.natCast_dvd_natCast.mp (Int.dvd_coe_gcd (Int.gcd_dvd_right ..) ?_)
    rw [Int.emod_def]
    exact key a b _
  · refine Int.natCast_dvd_natCast.mp (Int.dvd_coe_gcd ?_ (Int.gcd_dvd_left ..))
    have e : a = a % b + b * (a / b) := (Int.emod_add_mul_ediv a b).symm
    have h : ((Int.gcd b (a % b) : Nat) : Int) ∣ a % b + b * (a / b) := Int.dvd_add (Int.gcd_dvd_right ..) (Int.dvd_trans (Int.gcd_dvd_left ..) (Int.dvd_mul_right ..))
    rw [← e] at h
    exact h
theorem common_go : ∀ (n : Nat) (a b : Int), 0 ≤ b → b < n → ∃ g : Int, whGo (eOp neF (eV 1) (eC (.int 0))) lp_common_1 n [some (.val (.int a)), some (.val (.int b))] = .nx [some (.val (.int g)), some (.val (.int 0))] ∧ g.natAbs = Int.gcd a b
  | 0, a, b, h0, h => by omega
  | n + 1, a, b, h0, h => by
    by_cases hb : b = 0
    · subst hb
      refine ⟨a, whGo_f (by simp -implicitDefEqProofs only [ap_sSeq, seqO_nx, seqO_rt, seqO_exc, ap_sIf, ifO_t, ifO_f, ifO_exc, ap_sNx, ap_sSet, ap_sOwn, ap_sRet, ap_sDrop, ap_sAsg, outB_some, bT_nm, bT_tp, bTs_nil, bTs_cons, ap_sRaise, ap_sPar, parO_ok, ap_sFor, ap_sRetV, retO_own, retO_val, ap_sFrz, frzO_own, frzO_val, ap_sApp, ap_sExt, ap_eV, valO_val, ap_eB, borO_val, borO_own, ap_eC, ap_eOp, opO_ok, ap_eUn, ap_eTup, ap_eLst, tupR_ok, lstR_ok, ap_eCB, ap_eCall, callO_ok, callO_exc, ap_gNot, notR_b, ap_gTru, truR_b, truR_list, ap_gAnd, ap_gOr, andO_t, andO_f, orO_t, orO_f, ap_eAnd, ap_eOr, eandO_t, eandO_f, eorO_t, eorO_f, ap_eNot, enotO_b, enotO_list, ap_eIf, eifO_t, eifO_f, ap_eChain, chO_ok, ap_eIsi, isiO_int, isiO_tup, isiO_lst, isiO_bl, isiO_str, isiO_non, isInt_int, isInt_bl, isInt_tup, isInt_lst, isInt_str, isInt_non, isBool_int, isBool_bl, isTup_tup, isTup_lst, isTup_int, isTup_non, isTup_str, isTup_bl, isLst_lst, isLst_tup, f_add, f_sub, f_neg, f_eqI, f_neI, f_eqB, f_neB, f_lt, f_le, f_gt, f_ge, f_is, f_isNot, isNone_int, isNone_tup, isNone_lst, isNone_non, f_len_l, f_len_t, f_len_rd, f_tup_l, f_tup_t, f_max2, f_min2, f_abs, f_sum_l, f_sum_t, f_ix0, f_ix1, f_ix2, f_ix3, f_rev_t, outR_nx, outR_rt, outR_exc, nones0, nonesS, runB_eq, ap_eSl, optI_none, optI_some, optO_int, ap_sWh, ap_iSeq, items_l, items_t, ap_iRange1, ap_iRange2, wipeE_nil, wipeE_cons, evA_nil, evA_cons, RL.cons_ok, RL.cons_exc, RL.bind_ok, RL.bind_exc, RL.out_ok, RL.out_exc, Rs.bind_ok, Rs.bind_exc, Rs.out_ok, Rs.out_exc, Rs.of_some, Option.bind_some, List.getElem?_cons_zero, List.getElem?_cons_succ, List.set_cons_zero, List.set_cons_succ, List.map_cons, List.map_nil, List.cons_append, List.nil_append, List.length_cons, List.length_nil, Nat.reduceAdd, Nat.reduceSub, Nat.reduceLeDiff, Nat.reduceLT, Bool.not_true, Bool.not_false, decide_true, decide_false]), by simp⟩
    · obtain ⟨g, e, eg⟩ := common_go n b (a % b) (Int.emod_nonneg _ hb) (by have := Int.emod_lt_of_pos a (show 0 < b by omega); omega)
      refine ⟨g, ?_, ?_⟩
      · rw [whGo_t (ρ2 := [some (.val (.int b)), some (.val (.int (a % b)))]) (by simp -implicitDefEqProofs only [hb, ap_sSeq, seqO_nx, seqO_rt, seqO_exc, ap_sIf, ifO_t, ifO_f, ifO_exc, ap_sNx, ap_sSet, ap_sOwn, ap_sRet, ap_sDrop, ap_sAsg, outB_some, bT_nm, bT_tp, bTs_nil, bTs_cons, ap_sRaise, ap_sPar, parO_ok, ap_sFor, ap_sRetV, retO_own, retO_val, ap_sFrz, frzO_own, frzO_val, ap_sApp, ap_sExt, ap_eV, valO_val, ap_eB, borO_val, borO_own, ap_eC, ap_eOp, opO_ok, ap_eUn, ap_eTup, ap_eLst, tupR_ok, lstR_ok, ap_eCB, ap_eCall, callO_ok, callO_exc, ap_gNot, notR_b, ap_gTru, truR_b, truR_list, ap_gAnd, ap_gOr, andO_t, andO_f, orO_t, orO_f, ap_eAnd, ap_eOr, eandO_t, eandO_f, eorO_t, eorO_f, ap_eNot, enotO_b, enotO_list, ap_eIf, eifO_t, eifO_f, ap_eChain, chO_ok, ap_eIsi, isiO_int, isiO_tup, isiO_lst, isiO_bl, isiO_str, isiO_non, isInt_int, isInt_bl, isInt_tup, isInt_lst, isInt_str, isInt_non, isBool_int, isBool_bl, isTup_tup, isTup_lst, isTup_int, isTup_non, isTup_str, isTup_bl, isLst_lst, isLst_tup, f_add, f_sub, f_neg, f_eqI, f_neI, f_eqB, f_neB, f_lt, f_le, f_gt, f_ge, f_is, f_isNot, isNone_int, isNone_tup, isNone_lst, isNone_non, f_len_l, f_len_t, f_len_rd, f_tup_l, f_tup_t, f_max2, f_min2, f_abs, f_sum_l, f_sum_t, f_ix0, f_ix1, f_ix2, f_ix3, f_rev_t, outR_nx, outR_rt, outR_exc, nones0, nonesS, runB_eq, ap_eSl, optI_none, optI_some, optO_int, ap_sWh, ap_iSeq, items_l, items_t, ap_iRange1, ap_iRange2, wipeE_nil, wipeE_cons, evA_nil, evA_cons, RL.cons_ok, RL.cons_exc, RL.bind_ok, RL.bind_exc, RL.out_ok, RL.out_exc, Rs.bind_ok, Rs.bind_exc, Rs.out_ok, Rs.out_exc, Rs.of_some, Option.bind_some, List.getElem?_cons_zero, List.getElem?_cons_succ, List.set_cons_zero, List.set_cons_succ, List.map_cons, List.map_nil, List.cons_append, List.nil_append, List.length_cons, List.length_nil, Nat.reduceAdd, Nat.reduceSub, Nat.reduceLeDiff, Nat.reduceLT, Bool.not_true, Bool.not_false, decide_true, decide_false]) (by simp -implicitDefEqProofs only [lp_common_1, f_modP a b (by omega), ap_sSeq, seqO_nx, seqO_rt, seqO_exc, ap_sIf, ifO_t, ifO_f, ifO_exc, ap_sNx, ap_sSet, ap_sOwn, ap_sRet, ap_sDrop, ap_sAsg, outB_some, bT_nm, bT_tp, bTs_nil, bTs_cons, ap_sRaise, ap_sPar, parO_ok, ap_sFor, ap_sRetV, retO_own, retO_val, ap_sFrz, frzO_own, frzO_val, ap_sApp, ap_sExt, ap_eV, valO_val, ap_eB, borO_val, borO_own, ap_eC, ap_eOp, opO_ok, ap_eUn, ap_eTup, ap_eLst, tupR_ok, lstR_ok, ap_eCB, ap_eCall, callO_ok, callO_exc, ap_gNot, notR_b, ap_gTru, truR_b, truR_list, ap_gAnd, ap_gOr, andO_t, andO_f, orO_t, orO_f, ap_eAnd, ap_eOr, eandO_t, eandO_f, eorO_t, eorO_f, ap_eNot, enotO_b, enotO_list, ap_eIf, eifO_t, eifO_f, ap_eChain, chO_ok, ap_eIsi, isiO_int, isiO_tup, isiO_lst, isiO_bl, isiO_str, isiO_non, isInt_int, isInt_bl, isInt_tup, isInt_lst, isInt_str, isInt_non, isBool_int, isBool_bl, isTup_tup, isTup_lst, isTup_int, isTup_non, isTup_str, isTup_bl, isLst_lst, isLst_tup, f_add, f_sub, f_neg, f_eqI, f_neI, f_eqB, f_neB, f_lt, f_le, f_gt, f_ge, f_is, f_isNot, isNone_int, isNone_tup, isNone_lst, isNone_non, f_len_l, f_len_t, f_len_rd, f_tup_l, f_tup_t, f_max2, f_min2, f_abs, f_sum_l, f_sum_t, f_ix0, f_ix1, f_ix2, f_ix3, f_rev_t, outR_nx, outR_rt, outR_exc, nones0, nonesS, runB_eq, ap_eSl, optI_none, optI_some, optO_int, ap_sWh, ap_iSeq, items_l, items_t, ap_iRange1, ap_iRange2, wipeE_nil, wipeE_cons, evA_nil, evA_cons, RL.cons_ok, RL.cons_exc, RL.bind_ok, RL.bind_exc, RL.out_ok, RL.out_exc, Rs.bind_ok, Rs.bind_exc, Rs.out_ok, Rs.out_exc, Rs.of_some, Option.bind_some, List.getElem?_cons_zero, List.getElem?_cons_succ, List.set_cons_zero, List.set_cons_succ, List.map_cons, List.map_nil, List.cons_append, List.nil_append, List.length_cons, List.length_nil, Nat.reduceAdd, Nat.reduceSub, Nat.reduceLeDiff, Nat.reduceLT, Bool.not_true, Bool.not_false, decide_true, decide_false]), e]
      · rw [eg, ← gcd_step]
theorem common_eq (a b : Int) (h0 : 0 ≤ b) (h : b < 1000000) : sem_common [.int a, .int b] = .ok (.int (Int.gcd a b)) := by
  obtain ⟨g, e, eg⟩ := common_go 1000000 a b h0 h
  simp -implicitDefEqProofs only [sem_common, b_common, e, ap_sSeq, seqO_nx, seqO_rt, seqO_exc, ap_sIf, ifO_t, ifO_f, ifO_exc, ap_sNx, ap_sSet, ap_sOwn, ap_sRet, ap_sDrop, ap_sAsg, outB_some, bT_nm, bT_tp, bTs_nil, bTs_cons, ap_sRaise, ap_sPar, parO_ok, ap_sFor, ap_sRetV, retO_own, retO_val, ap_sFrz, frzO_own, frzO_val, ap_sApp, ap_sExt, ap_eV, valO_val, ap_eB, borO_val, borO_own, ap_eC, ap_eOp, opO_ok, ap_eUn, ap_eTup, ap_eLst, tupR_ok, lstR_ok, ap_eCB, ap_eCall, callO_ok, callO_exc, ap_gNot, notR_b, ap_gTru, truR_b, truR_list, ap_gAnd, ap_gOr, andO_t, andO_f, orO_t, orO_f, ap_eAnd, ap_eOr, eandO_t, eandO_f, eorO_t, eorO_f, ap_eNot, enotO_b, enotO_list, ap_eIf, eifO_t, eifO_f, ap_eChain, chO_ok, ap_eIsi, isiO_int, isiO_tup, isiO_lst, isiO_bl, isiO_str, isiO_non, isInt_int, isInt_bl, isInt_tup, isInt_lst, isInt_str, isInt_non, isBool_int, isBool_bl, isTup_tup, isTup_lst, isTup_int, isTup_non, isTup_str, isTup_bl, isLst_lst, isLst_tup, f_add, f_sub, f_neg, f_eqI, f_neI, f_eqB, f_neB, f_lt, f_le, f_gt, f_ge, f_is, f_isNot, isNone_int, isNone_tup, isNone_lst, isNone_non, f_len_l, f_len_t, f_len_rd, f_tup_l, f_tup_t, f_max2, f_min2, f_abs, f_sum_l, f_sum_t, f_ix0, f_ix1, f_ix2, f_ix3, f_rev_t, outR_nx, outR_rt, outR_exc, nones0, nonesS, runB_eq, ap_eSl, optI_none, optI_some, optO_int, ap_sWh, ap_iSeq, items_l, items_t, ap_iRange1, ap_iRange2, wipeE_nil, wipeE_cons, evA_nil, evA_cons, RL.cons_ok, RL.cons_exc, RL.bind_ok, RL.bind_exc, RL.out_ok, RL.out_exc, Rs.bind_ok, Rs.bind_exc, Rs.out_ok, Rs.out_exc, Rs.of_some, Option.bind_some, List.getElem?_cons_zero, List.getElem?_cons_succ, List.set_cons_zero, List.set_cons_succ, List.map_cons, List.map_nil, List.cons_append, List.nil_append, List.length_cons, List.length_nil, Nat.reduceAdd, Nat.reduceSub, Nat.reduceLeDiff, Nat.reduceLT, Bool.not_true, Bool.not_false, decide_true, decide_false]
  congr 2
  rw [← eg]
  split <;> omega
theorem least_eq (a b : Int) (h0 : 0 < b) (h : b < 1000000) : sem_least [.int a, .int b] = .ok (.tuple [.int (a / (Int.gcd a b : Int)), .int (b / (Int.gcd a b : Int))]) := by
  have hg : 0 < Int.gcd a b := Int.gcd_pos_of_ne_zero_right a (by omega)
  have hle : ((Int.gcd a b : Nat) : Int) ≤ b := Int.le_of_dvd h0 (Int.gcd_dvd_right ..)
  have hn : ¬ b < 0 := by omega
  simp -implicitDefEqProofs only [sem_least, b_least, common_eq a b (by omega) h, hn, ap_sSeq, seqO_nx, seqO_rt, seqO_exc, ap_sIf, ifO_t, ifO_f, ifO_exc, ap_sNx, ap_sSet, ap_sOwn, ap_sRet, ap_sDrop, ap_sAsg, outB_some, bT_nm, bT_tp, bTs_nil, bTs_cons, ap_sRaise, ap_sPar, parO_ok, ap_sFor, ap_sRetV, retO_own, retO_val, ap_sFrz, frzO_own, frzO_val, ap_sApp, ap_sExt, ap_eV, valO_val, ap_eB, borO_val, borO_own, ap_eC, ap_eOp, opO_ok, ap_eUn, ap_eTup, ap_eLst, tupR_ok, lstR_ok, ap_eCB, ap_eCall, callO_ok, callO_exc, ap_gNot, notR_b, ap_gTru, truR_b, truR_list, ap_gAnd, ap_gOr, andO_t, andO_f, orO_t, orO_f, ap_eAnd, ap_eOr, eandO_t, eandO_f, eorO_t, eorO_f, ap_eNot, enotO_b, enotO_list, ap_eIf, eifO_t, eifO_f, ap_eChain, chO_ok, ap_eIsi, isiO_int, isiO_tup, isiO_lst, isiO_bl, isiO_str, isiO_non, isInt_int, isInt_bl, isInt_tup, isInt_lst, isInt_str, isInt_non, isBool_int, isBool_bl, isTup_tup, isTup_lst, isTup_int, isTup_non, isTup_str, isTup_bl, isLst_lst, isLst_tup, f_add, f_sub, f_neg, f_eqI, f_neI, f_eqB, f_neB, f_lt, f_le, f_gt, f_ge, f_is, f_isNot, isNone_int, isNone_tup, isNone_lst, isNone_non, f_len_l, f_len_t, f_len_rd, f_tup_l, f_tup_t, f_max2, f_min2, f_abs, f_sum_l, f_sum_t, f_ix0, f_ix1, f_ix2, f_ix3, f_rev_t, outR_nx, outR_rt, outR_exc, nones0, nonesS, runB_eq, ap_eSl, optI_none, optI_some, optO_int, ap_sWh, ap_iSeq, items_l, items_t, ap_iRange1, ap_iRange2, wipeE_nil, wipeE_cons, evA_nil, evA_cons, RL.cons_ok, RL.cons_exc, RL.bind_ok, RL.bind_exc, RL.out_ok, RL.out_exc, Rs.bind_ok, Rs.bind_exc, Rs.out_ok, Rs.out_exc, Rs.of_some, Option.bind_some, List.getElem?_cons_zero, List.getElem?_cons_succ, List.set_cons_zero, List.set_cons_succ, List.map_cons, List.map_nil, List.cons_append, List.nil_append, List.length_cons, List.length_nil, Nat.reduceAdd, Nat.reduceSub, Nat.reduceLeDiff, Nat.reduceLT, Bool.not_true, Bool.not_false, decide_true, decide_false]
  rw [f_divP a _ (by omega) (by omega), f_divP b _ (by omega) (by omega)]
  simp -implicitDefEqProofs only [ap_sSeq, seqO_nx, seqO_rt, seqO_exc, ap_sIf, ifO_t, ifO_f, ifO_exc, ap_sNx, ap_sSet, ap_sOwn, ap_sRet, ap_sDrop, ap_sAsg, outB_some, bT_nm, bT_tp, bTs_nil, bTs_cons, ap_sRaise, ap_sPar, parO_ok, ap_sFor, ap_sRetV, retO_own, retO_val, ap_sFrz, frzO_own, frzO_val, ap_sApp, ap_sExt, ap_eV, valO_val, ap_eB, borO_val, borO_own, ap_eC, ap_eOp, opO_ok, ap_eUn, ap_eTup, ap_eLst, tupR_ok, lstR_ok, ap_eCB, ap_eCall, callO_ok, callO_exc, ap_gNot, notR_b, ap_gTru, truR_b, truR_list, ap_gAnd, ap_gOr, andO_t, andO_f, orO_t, orO_f, ap_eAnd, ap_eOr, eandO_t, eandO_f, eorO_t, eorO_f, ap_eNot, enotO_b, enotO_list, ap_eIf, eifO_t, eifO_f, ap_eChain, chO_ok, ap_eIsi, isiO_int, isiO_tup, isiO_lst, isiO_bl, isiO_str, isiO_non, isInt_int, isInt_bl, isInt_tup, isInt_lst, isInt_str, isInt_non, isBool_int, isBool_bl, isTup_tup, isTup_lst, isTup_int, isTup_non, isTup_str, isTup_bl, isLst_lst, isLst_tup, f_add, f_sub, f_neg, f_eqI, f_neI, f_eqB, f_neB, f_lt, f_le, f_gt, f_ge, f_is, f_isNot, isNone_int, isNone_tup, isNone_lst, isNone_non, f_len_l, f_len_t, f_len_rd, f_tup_l, f_tup_t, f_max2, f_min2, f_abs, f_sum_l, f_sum_t, f_ix0, f_ix1, f_ix2, f_ix3, f_rev_t, outR_nx, outR_rt, outR_exc, nones0, nonesS, runB_eq, ap_eSl, optI_none, optI_some, optO_int, ap_sWh, ap_iSeq, items_l, items_t, ap_iRange1, ap_iRange2, wipeE_nil, wipeE_cons, evA_nil, evA_cons, RL.cons_ok, RL.cons_exc, RL.bind_ok, RL.bind_exc, RL.out_ok, RL.out_exc, Rs.bind_ok, Rs.bind_exc, Rs.out_ok, Rs.out_exc, Rs.of_some, Option.bind_some, List.getElem?_cons_zero, List.getElem?_cons_succ, List.set_cons_zero, List.set_cons_succ, List.map_cons, List.map_nil, List.cons_append, List.nil_append, List.length_cons, List.length_nil, Nat.reduceAdd, Nat.reduceSub, Nat.reduceLeDiff, Nat.reduceLT, Bool.not_true, Bool.not_false, decide_true, decide_false]
theorem least_zero (b : Int) (h0 : 0 < b) (h : b < 1000000) : sem_least [.int 0, .int b] = .ok (.tuple [.int 0, .int 1]) := by
  rw [least_eq 0 b h0 h]
  have e : ((Int.gcd 0 b : Nat) : Int) = b := by rw [Int.gcd_zero_left]; omega
  rw [e, Int.zero_ediv, Int.ediv_self (by omega)]
/-- how unlike, of the steps -/
def unl (L : List Int) : D := if L = [] then .none else
  .tuple [.int (((L.length : Int) * (L.map fun x => x * x).sum - L.sum * L.sum) / (Int.gcd ((L.length : Int) * (L.map fun x => x * x).sum - L.sum * L.sum) ((L.length : Int) * L.length) : Int)),
    .int (((L.length : Int) * L.length) / (Int.gcd ((L.length : Int) * (L.map fun x => x * x).sum - L.sum * L.sum) ((L.length : Int) * L.length) : Int))]
theorem unl_ly (L : List Int) : Ly 1 (unl L) := by
  unfold unl
  split
  · exact Ly.none 1
  · exact Ly.tuple fun d hd => by
      simp -implicitDefEqProofs only [List.mem_cons, List.not_mem_nil, or_false] at hd
      rcases hd with rfl | rfl <;> exact Ly.int 0 _
theorem unl_of {L M : List Int} (h1 : L.length = M.length) (h2 : (L.length : Int) * (L.map fun x => x * x).sum - L.sum * L.sum = (M.length : Int) * (M.map fun x => x * x).sum - M.sum * M.sum) : unl L = unl M := by
  unfold unl
  by_cases c : L = []
  · have : M = [] := by
      subst c
      exact List.eq_nil_of_length_eq_zero h1.symm
    rw [if_pos c, if_pos this]
  · have : ¬ M = [] := fun z => c (by subst z; exact List.eq_nil_of_length_eq_zero h1)
    rw [if_neg c, if_neg this, h2, h1]
theorem cell_bd {s : List (List Int)} {h w : Nat} (S : Sh s h w) (y x : Int) : 0 ≤ cell s y x ∧ cell s y x ≤ 255 := by
  unfold cell rw'
  simp -implicitDefEqProofs only [List.getD_eq_getElem?_getD]
  by_cases hy : y.toNat < s.length
  · rw [List.getElem?_eq_getElem hy]
    simp -implicitDefEqProofs only [Option.getD_some]
    by_cases hx : x.toNat < s[y.toNat].length
    · rw [List.getElem?_eq_getElem hx]
      exact S.lev _ (List.getElem_mem hy) _ (List.getElem_mem hx)
    · rw [List.getElem?_eq_none (show s[y.toNat].length ≤ x.toNat by omega)]
      exact ⟨by decide, by decide⟩
  · rw [List.getElem?_eq_none (show s.length ≤ y.toNat by omega)]
    simp
theorem steps_bd {a b : List (List Int)} {h w h' w' : Nat} (A : Sh a h w) (B : Sh b h' w') (W H W' H' p q : Int) : ∀ x ∈ steps a b W H W' H' p q, -255 ≤ x ∧ x ≤ 255 := by
  intro x hx
  unfold steps stepsG at hx
  obtain ⟨y, _, hx⟩ := List.mem_flatMap.mp hx
  unfold stepRow at hx
  obtain ⟨z, _, rfl⟩ := List.mem_map.mp hx
  have := cell_bd A y z
  have := cell_bd B (y - q) (z - p)
  omega
theorem steps_len {a b : List (List Int)} {h w : Nat} (hw : w ≤ 12) (hh : h ≤ 12) (w' h' p q : Int) : (steps a b w h w' h' p q).length ≤ 144 := by
  unfold steps
  rw [stepsG_length]
  exact Nat.mul_le_mul (show _ ≤ 12 by omega) (show _ ≤ 12 by omega)
theorem unlike_of_eq {a b : List (List Int)} {h w h' w' : Nat} (A : Sh a h w) (B : Sh b h' w') (p q : Int) (hp : -12 ≤ p ∧ p ≤ 12) (hq : -12 ≤ q ∧ q ≤ 12) : sem_unlike_of [shD a, shD b, .tuple [.int p, .int q]] = .ok (unl (steps a b w h w' h' p q)) := by
  simp -implicitDefEqProofs only [sem_unlike_of, b_unlike_of, steps_of_eq A B p q hp hq, ap_sSeq, seqO_nx, seqO_rt, seqO_exc, ap_sIf, ifO_t, ifO_f, ifO_exc, ap_sNx, ap_sSet, ap_sOwn, ap_sRet, ap_sDrop, ap_sAsg, outB_some, bT_nm, bT_tp, bTs_nil, bTs_cons, ap_sRaise, ap_sPar, parO_ok, ap_sFor, ap_sRetV, retO_own, retO_val, ap_sFrz, frzO_own, frzO_val, ap_sApp, ap_sExt, ap_eV, valO_val, ap_eB, borO_val, borO_own, ap_eC, ap_eOp, opO_ok, ap_eUn, ap_eTup, ap_eLst, tupR_ok, lstR_ok, ap_eCB, ap_eCall, callO_ok, callO_exc, ap_gNot, notR_b, ap_gTru, truR_b, truR_list, ap_gAnd, ap_gOr, andO_t, andO_f, orO_t, orO_f, ap_eAnd, ap_eOr, eandO_t, eandO_f, eorO_t, eorO_f, ap_eNot, enotO_b, enotO_list, ap_eIf, eifO_t, eifO_f, ap_eChain, chO_ok, ap_eIsi, isiO_int, isiO_tup, isiO_lst, isiO_bl, isiO_str, isiO_non, isInt_int, isInt_bl, isInt_tup, isInt_lst, isInt_str, isInt_non, isBool_int, isBool_bl, isTup_tup, isTup_lst, isTup_int, isTup_non, isTup_str, isTup_bl, isLst_lst, isLst_tup, f_add, f_sub, f_neg, f_eqI, f_neI, f_eqB, f_neB, f_lt, f_le, f_gt, f_ge, f_is, f_isNot, isNone_int, isNone_tup, isNone_lst, isNone_non, f_len_l, f_len_t, f_len_rd, f_tup_l, f_tup_t, f_max2, f_min2, f_abs, f_sum_l, f_sum_t, f_ix0, f_ix1, f_ix2, f_ix3, f_rev_t, outR_nx, outR_rt, outR_exc, nones0, nonesS, runB_eq, ap_eSl, optI_none, optI_some, optO_int, ap_sWh, ap_iSeq, items_l, items_t, ap_iRange1, ap_iRange2, wipeE_nil, wipeE_cons, evA_nil, evA_cons, RL.cons_ok, RL.cons_exc, RL.bind_ok, RL.bind_exc, RL.out_ok, RL.out_exc, Rs.bind_ok, Rs.bind_exc, Rs.out_ok, Rs.out_exc, Rs.of_some, Option.bind_some, List.getElem?_cons_zero, List.getElem?_cons_succ, List.set_cons_zero, List.set_cons_succ, List.map_cons, List.map_nil, List.cons_append, List.nil_append, List.length_cons, List.length_nil, Nat.reduceAdd, Nat.reduceSub, Nat.reduceLeDiff, Nat.reduceLT, Bool.not_true, Bool.not_false, decide_true, decide_false]
  have hbd := steps_bd A B w h w' h' p q
  have hln := steps_len (a := a) (b := b) A.w2 A.h2 w' h' p q
  generalize steps a b w h w' h' p q = L at hbd hln
  have hsum := sum_bd 255 L hbd
  cases L with
  | nil =>
    have e0 : unl [] = .none := if_pos rfl
    simp -implicitDefEqProofs only [List.map_nil, List.isEmpty_nil, e0, ap_sSeq, seqO_nx, seqO_rt, seqO_exc, ap_sIf, ifO_t, ifO_f, ifO_exc, ap_sNx, ap_sSet, ap_sOwn, ap_sRet, ap_sDrop, ap_sAsg, outB_some, bT_nm, bT_tp, bTs_nil, bTs_cons, ap_sRaise, ap_sPar, parO_ok, ap_sFor, ap_sRetV, retO_own, retO_val, ap_sFrz, frzO_own, frzO_val, ap_sApp, ap_sExt, ap_eV, valO_val, ap_eB, borO_val, borO_own, ap_eC, ap_eOp, opO_ok, ap_eUn, ap_eTup, ap_eLst, tupR_ok, lstR_ok, ap_eCB, ap_eCall, callO_ok, callO_exc, ap_gNot, notR_b, ap_gTru, truR_b, truR_list, ap_gAnd, ap_gOr, andO_t, andO_f, orO_t, orO_f, ap_eAnd, ap_eOr, eandO_t, eandO_f, eorO_t, eorO_f, ap_eNot, enotO_b, enotO_list, ap_eIf, eifO_t, eifO_f, ap_eChain, chO_ok, ap_eIsi, isiO_int, isiO_tup, isiO_lst, isiO_bl, isiO_str, isiO_non, isInt_int, isInt_bl, isInt_tup, isInt_lst, isInt_str, isInt_non, isBool_int, isBool_bl, isTup_tup, isTup_lst, isTup_int, isTup_non, isTup_str, isTup_bl, isLst_lst, isLst_tup, f_add, f_sub, f_neg, f_eqI, f_neI, f_eqB, f_neB, f_lt, f_le, f_gt, f_ge, f_is, f_isNot, isNone_int, isNone_tup, isNone_lst, isNone_non, f_len_l, f_len_t, f_len_rd, f_tup_l, f_tup_t, f_max2, f_min2, f_abs, f_sum_l, f_sum_t, f_ix0, f_ix1, f_ix2, f_ix3, f_rev_t, outR_nx, outR_rt, outR_exc, nones0, nonesS, runB_eq, ap_eSl, optI_none, optI_some, optO_int, ap_sWh, ap_iSeq, items_l, items_t, ap_iRange1, ap_iRange2, wipeE_nil, wipeE_cons, evA_nil, evA_cons, RL.cons_ok, RL.cons_exc, RL.bind_ok, RL.bind_exc, RL.out_ok, RL.out_exc, Rs.bind_ok, Rs.bind_exc, Rs.out_ok, Rs.out_exc, Rs.of_some, Option.bind_some, List.getElem?_cons_zero, List.getElem?_cons_succ, List.set_cons_zero, List.set_cons_succ, List.map_cons, List.map_nil, List.cons_append, List.nil_append, List.length_cons, List.length_nil, Nat.reduceAdd, Nat.reduceSub, Nat.reduceLeDiff, Nat.reduceLT, Bool.not_true, Bool.not_false, decide_true, decide_false]
  | cons z L =>
    generalize hM : z :: L = M at *
    have hne : M ≠ [] := by rw [← hM]; simp
    clear hM
    have hpos : 0 < M.length := List.length_pos_iff.mpr hne
    have he : (M.map PyData.int).isEmpty = false := by cases M with | nil => exact absurd rfl hne | cons _ _ => rfl
    simp -implicitDefEqProofs only [he, List.length_map, ap_sSeq, seqO_nx, seqO_rt, seqO_exc, ap_sIf, ifO_t, ifO_f, ifO_exc, ap_sNx, ap_sSet, ap_sOwn, ap_sRet, ap_sDrop, ap_sAsg, outB_some, bT_nm, bT_tp, bTs_nil, bTs_cons, ap_sRaise, ap_sPar, parO_ok, ap_sFor, ap_sRetV, retO_own, retO_val, ap_sFrz, frzO_own, frzO_val, ap_sApp, ap_sExt, ap_eV, valO_val, ap_eB, borO_val, borO_own, ap_eC, ap_eOp, opO_ok, ap_eUn, ap_eTup, ap_eLst, tupR_ok, lstR_ok, ap_eCB, ap_eCall, callO_ok, callO_exc, ap_gNot, notR_b, ap_gTru, truR_b, truR_list, ap_gAnd, ap_gOr, andO_t, andO_f, orO_t, orO_f, ap_eAnd, ap_eOr, eandO_t, eandO_f, eorO_t, eorO_f, ap_eNot, enotO_b, enotO_list, ap_eIf, eifO_t, eifO_f, ap_eChain, chO_ok, ap_eIsi, isiO_int, isiO_tup, isiO_lst, isiO_bl, isiO_str, isiO_non, isInt_int, isInt_bl, isInt_tup, isInt_lst, isInt_str, isInt_non, isBool_int, isBool_bl, isTup_tup, isTup_lst, isTup_int, isTup_non, isTup_str, isTup_bl, isLst_lst, isLst_tup, f_add, f_sub, f_neg, f_eqI, f_neI, f_eqB, f_neB, f_lt, f_le, f_gt, f_ge, f_is, f_isNot, isNone_int, isNone_tup, isNone_lst, isNone_non, f_len_l, f_len_t, f_len_rd, f_tup_l, f_tup_t, f_max2, f_min2, f_abs, f_sum_l, f_sum_t, f_ix0, f_ix1, f_ix2, f_ix3, f_rev_t, outR_nx, outR_rt, outR_exc, nones0, nonesS, runB_eq, ap_eSl, optI_none, optI_some, optO_int, ap_sWh, ap_iSeq, items_l, items_t, ap_iRange1, ap_iRange2, wipeE_nil, wipeE_cons, evA_nil, evA_cons, RL.cons_ok, RL.cons_exc, RL.bind_ok, RL.bind_exc, RL.out_ok, RL.out_exc, Rs.bind_ok, Rs.bind_exc, Rs.out_ok, Rs.out_exc, Rs.of_some, Option.bind_some, List.getElem?_cons_zero, List.getElem?_cons_succ, List.set_cons_zero, List.set_cons_succ, List.map_cons, List.map_nil, List.cons_append, List.nil_append, List.length_cons, List.length_nil, Nat.reduceAdd, Nat.reduceSub, Nat.reduceLeDiff, Nat.reduceLT, Bool.not_true, Bool.not_false, decide_true, decide_false]
    rw [eLc_mapA M PyData.int (fun x => PyData.int (x * x)) (by simp -implicitDefEqProofs only [ap_sSeq, seqO_nx, seqO_rt, seqO_exc, ap_sIf, ifO_t, ifO_f, ifO_exc, ap_sNx, ap_sSet, ap_sOwn, ap_sRet, ap_sDrop, ap_sAsg, outB_some, bT_nm, bT_tp, bTs_nil, bTs_cons, ap_sRaise, ap_sPar, parO_ok, ap_sFor, ap_sRetV, retO_own, retO_val, ap_sFrz, frzO_own, frzO_val, ap_sApp, ap_sExt, ap_eV, valO_val, ap_eB, borO_val, borO_own, ap_eC, ap_eOp, opO_ok, ap_eUn, ap_eTup, ap_eLst, tupR_ok, lstR_ok, ap_eCB, ap_eCall, callO_ok, callO_exc, ap_gNot, notR_b, ap_gTru, truR_b, truR_list, ap_gAnd, ap_gOr, andO_t, andO_f, orO_t, orO_f, ap_eAnd, ap_eOr, eandO_t, eandO_f, eorO_t, eorO_f, ap_eNot, enotO_b, enotO_list, ap_eIf, eifO_t, eifO_f, ap_eChain, chO_ok, ap_eIsi, isiO_int, isiO_tup, isiO_lst, isiO_bl, isiO_str, isiO_non, isInt_int, isInt_bl, isInt_tup, isInt_lst, isInt_str, isInt_non, isBool_int, isBool_bl, isTup_tup, isTup_lst, isTup_int, isTup_non, isTup_str, isTup_bl, isLst_lst, isLst_tup, f_add, f_sub, f_neg, f_eqI, f_neI, f_eqB, f_neB, f_lt, f_le, f_gt, f_ge, f_is, f_isNot, isNone_int, isNone_tup, isNone_lst, isNone_non, f_len_l, f_len_t, f_len_rd, f_tup_l, f_tup_t, f_max2, f_min2, f_abs, f_sum_l, f_sum_t, f_ix0, f_ix1, f_ix2, f_ix3, f_rev_t, outR_nx, outR_rt, outR_exc, nones0, nonesS, runB_eq, ap_eSl, optI_none, optI_some, optO_int, ap_sWh, ap_iSeq, items_l, items_t, ap_iRange1, ap_iRange2, wipeE_nil, wipeE_cons, evA_nil, evA_cons, RL.cons_ok, RL.cons_exc, RL.bind_ok, RL.bind_exc, RL.out_ok, RL.out_exc, Rs.bind_ok, Rs.bind_exc, Rs.out_ok, Rs.out_exc, Rs.of_some, Option.bind_some, List.getElem?_cons_zero, List.getElem?_cons_succ, List.set_cons_zero, List.set_cons_succ, List.map_cons, List.map_nil, List.cons_append, List.nil_append, List.length_cons, List.length_nil, Nat.reduceAdd, Nat.reduceSub, Nat.reduceLeDiff, Nat.reduceLT, Bool.not_true, Bool.not_false, decide_true, decide_false]) (by omega) (by
      intro x hx
      have := hbd x hx
      have e : mulF (.int x) (.int x) = some (.int (x * x)) := f_mul x x (.inl (by omega))
      simp -implicitDefEqProofs only [e, ap_sSeq, seqO_nx, seqO_rt, seqO_exc, ap_sIf, ifO_t, ifO_f, ifO_exc, ap_sNx, ap_sSet, ap_sOwn, ap_sRet, ap_sDrop, ap_sAsg, outB_some, bT_nm, bT_tp, bTs_nil, bTs_cons, ap_sRaise, ap_sPar, parO_ok, ap_sFor, ap_sRetV, retO_own, retO_val, ap_sFrz, frzO_own, frzO_val, ap_sApp, ap_sExt, ap_eV, valO_val, ap_eB, borO_val, borO_own, ap_eC, ap_eOp, opO_ok, ap_eUn, ap_eTup, ap_eLst, tupR_ok, lstR_ok, ap_eCB, ap_eCall, callO_ok, callO_exc, ap_gNot, notR_b, ap_gTru, truR_b, truR_list, ap_gAnd, ap_gOr, andO_t, andO_f, orO_t, orO_f, ap_eAnd, ap_eOr, eandO_t, eandO_f, eorO_t, eorO_f, ap_eNot, enotO_b, enotO_list, ap_eIf, eifO_t, eifO_f, ap_eChain, chO_ok, ap_eIsi, isiO_int, isiO_tup, isiO_lst, isiO_bl, isiO_str, isiO_non, isInt_int, isInt_bl, isInt_tup, isInt_lst, isInt_str, isInt_non, isBool_int, isBool_bl, isTup_tup, isTup_lst, isTup_int, isTup_non, isTup_str, isTup_bl, isLst_lst, isLst_tup, f_add, f_sub, f_neg, f_eqI, f_neI, f_eqB, f_neB, f_lt, f_le, f_gt, f_ge, f_is, f_isNot, isNone_int, isNone_tup, isNone_lst, isNone_non, f_len_l, f_len_t, f_len_rd, f_tup_l, f_tup_t, f_max2, f_min2, f_abs, f_sum_l, f_sum_t, f_ix0, f_ix1, f_ix2, f_ix3, f_rev_t, outR_nx, outR_rt, outR_exc, nones0, nonesS, runB_eq, ap_eSl, optI_none, optI_some, optO_int, ap_sWh, ap_iSeq, items_l, items_t, ap_iRange1, ap_iRange2, wipeE_nil, wipeE_cons, evA_nil, evA_cons, RL.cons_ok, RL.cons_exc, RL.bind_ok, RL.bind_exc, RL.out_ok, RL.out_exc, Rs.bind_ok, Rs.bind_exc, Rs.out_ok, Rs.out_exc, Rs.of_some, Option.bind_some, List.getElem?_cons_zero, List.getElem?_cons_succ, List.set_cons_zero, List.set_cons_succ, List.map_cons, List.map_nil, List.cons_append, List.nil_append, List.length_cons, List.length_nil, Nat.reduceAdd, Nat.reduceSub, Nat.reduceLeDiff, Nat.reduceLT, Bool.not_true, Bool.not_false, decide_true, decide_false]
      exact ⟨trivial, trivial⟩)]
    have em : (M.map fun x => PyData.int (x * x)) = (M.map fun x => x * x).map PyData.int := by simp
    have e1 : mulF (.int (M.length : Int)) (.int (M.map fun x => x * x).sum) = some (.int ((M.length : Int) * (M.map fun x => x * x).sum)) := f_mul _ _ (.inl (by omega))
    have e2 : mulF (.int M.sum) (.int M.sum) = some (.int (M.sum * M.sum)) := f_mul _ _ (.inl (by omega))
    have e3 : mulF (.int (M.length : Int)) (.int (M.length : Int)) = some (.int ((M.length : Int) * M.length)) := f_mul _ _ (.inl (by omega))
    have hb1 : 0 < (M.length : Int) * M.length := Int.mul_pos (by omega) (by omega)
    have hb2 : (M.length : Int) * M.length < 1000000 := by
      have : M.length * M.length ≤ 144 * 144 := Nat.mul_le_mul hln hln
      have e : (M.length : Int) * M.length = ((M.length * M.length : Nat) : Int) := by simp
      rw [e]
      omega
    rw [em]
    simp -implicitDefEqProofs only [e1, e2, e3, least_eq _ _ hb1 hb2, ap_sSeq, seqO_nx, seqO_rt, seqO_exc, ap_sIf, ifO_t, ifO_f, ifO_exc, ap_sNx, ap_sSet, ap_sOwn, ap_sRet, ap_sDrop, ap_sAsg, outB_some, bT_nm, bT_tp, bTs_nil, bTs_cons, ap_sRaise, ap_sPar, parO_ok, ap_sFor, ap_sRetV, retO_own, retO_val, ap_sFrz, frzO_own, frzO_val, ap_sApp, ap_sExt, ap_eV, valO_val, ap_eB, borO_val, borO_own, ap_eC, ap_eOp, opO_ok, ap_eUn, ap_eTup, ap_eLst, tupR_ok, lstR_ok, ap_eCB, ap_eCall, callO_ok, callO_exc, ap_gNot, notR_b, ap_gTru, truR_b, truR_list, ap_gAnd, ap_gOr, andO_t, andO_f, orO_t, orO_f, ap_eAnd, ap_eOr, eandO_t, eandO_f, eorO_t, eorO_f, ap_eNot, enotO_b, enotO_list, ap_eIf, eifO_t, eifO_f, ap_eChain, chO_ok, ap_eIsi, isiO_int, isiO_tup, isiO_lst, isiO_bl, isiO_str, isiO_non, isInt_int, isInt_bl, isInt_tup, isInt_lst, isInt_str, isInt_non, isBool_int, isBool_bl, isTup_tup, isTup_lst, isTup_int, isTup_non, isTup_str, isTup_bl, isLst_lst, isLst_tup, f_add, f_sub, f_neg, f_eqI, f_neI, f_eqB, f_neB, f_lt, f_le, f_gt, f_ge, f_is, f_isNot, isNone_int, isNone_tup, isNone_lst, isNone_non, f_len_l, f_len_t, f_len_rd, f_tup_l, f_tup_t, f_max2, f_min2, f_abs, f_sum_l, f_sum_t, f_ix0, f_ix1, f_ix2, f_ix3, f_rev_t, outR_nx, outR_rt, outR_exc, nones0, nonesS, runB_eq, ap_eSl, optI_none, optI_some, optO_int, ap_sWh, ap_iSeq, items_l, items_t, ap_iRange1, ap_iRange2, wipeE_nil, wipeE_cons, evA_nil, evA_cons, RL.cons_ok, RL.cons_exc, RL.bind_ok, RL.bind_exc, RL.out_ok, RL.out_exc, Rs.bind_ok, Rs.bind_exc, Rs.out_ok, Rs.out_exc, Rs.of_some, Option.bind_some, List.getElem?_cons_zero, List.getElem?_cons_succ, List.set_cons_zero, List.set_cons_succ, List.map_cons, List.map_nil, List.cons_append, List.nil_append, List.length_cons, List.length_nil, Nat.reduceAdd, Nat.reduceSub, Nat.reduceLeDiff, Nat.reduceLT, Bool.not_true, Bool.not_false, decide_true, decide_false]
    unfold unl
    rw [if_neg hne]
theorem unlike_eq {a b : List (List Int)} {h w h' w' : Nat} (A : Sh a h w) (B : Sh b h' w') (p q : Int) (hp : -12 ≤ p ∧ p ≤ 12) (hq : -12 ≤ q ∧ q ≤ 12) : sem_unlike [shD a, shD b, .tuple [.int p, .int q]] = .ok (unl (steps a b w h w' h' p q)) := by
  simp -implicitDefEqProofs only [sem_unlike, b_unlike, look_two_eq A B p q hp hq, unlike_of_eq A B p q hp hq, ap_sSeq, seqO_nx, seqO_rt, seqO_exc, ap_sIf, ifO_t, ifO_f, ifO_exc, ap_sNx, ap_sSet, ap_sOwn, ap_sRet, ap_sDrop, ap_sAsg, outB_some, bT_nm, bT_tp, bTs_nil, bTs_cons, ap_sRaise, ap_sPar, parO_ok, ap_sFor, ap_sRetV, retO_own, retO_val, ap_sFrz, frzO_own, frzO_val, ap_sApp, ap_sExt, ap_eV, valO_val, ap_eB, borO_val, borO_own, ap_eC, ap_eOp, opO_ok, ap_eUn, ap_eTup, ap_eLst, tupR_ok, lstR_ok, ap_eCB, ap_eCall, callO_ok, callO_exc, ap_gNot, notR_b, ap_gTru, truR_b, truR_list, ap_gAnd, ap_gOr, andO_t, andO_f, orO_t, orO_f, ap_eAnd, ap_eOr, eandO_t, eandO_f, eorO_t, eorO_f, ap_eNot, enotO_b, enotO_list, ap_eIf, eifO_t, eifO_f, ap_eChain, chO_ok, ap_eIsi, isiO_int, isiO_tup, isiO_lst, isiO_bl, isiO_str, isiO_non, isInt_int, isInt_bl, isInt_tup, isInt_lst, isInt_str, isInt_non, isBool_int, isBool_bl, isTup_tup, isTup_lst, isTup_int, isTup_non, isTup_str, isTup_bl, isLst_lst, isLst_tup, f_add, f_sub, f_neg, f_eqI, f_neI, f_eqB, f_neB, f_lt, f_le, f_gt, f_ge, f_is, f_isNot, isNone_int, isNone_tup, isNone_lst, isNone_non, f_len_l, f_len_t, f_len_rd, f_tup_l, f_tup_t, f_max2, f_min2, f_abs, f_sum_l, f_sum_t, f_ix0, f_ix1, f_ix2, f_ix3, f_rev_t, outR_nx, outR_rt, outR_exc, nones0, nonesS, runB_eq, ap_eSl, optI_none, optI_some, optO_int, ap_sWh, ap_iSeq, items_l, items_t, ap_iRange1, ap_iRange2, wipeE_nil, wipeE_cons, evA_nil, evA_cons, RL.cons_ok, RL.cons_exc, RL.bind_ok, RL.bind_exc, RL.out_ok, RL.out_exc, Rs.bind_ok, Rs.bind_exc, Rs.out_ok, Rs.out_exc, Rs.of_some, Option.bind_some, List.getElem?_cons_zero, List.getElem?_cons_succ, List.set_cons_zero, List.set_cons_succ, List.map_cons, List.map_nil, List.cons_append, List.nil_append, List.length_cons, List.length_nil, Nat.reduceAdd, Nat.reduceSub, Nat.reduceLeDiff, Nat.reduceLT, Bool.not_true, Bool.not_false, decide_true, decide_false]
theorem mirrored_eq {s : List (List Int)} {h w : Nat} (S : Sh s h w) : sem_mirrored [shD s] = .ok (shD (s.map List.reverse)) := by
  have l := S.len
  have h2 := S.h2
  simp -implicitDefEqProofs only [sem_mirrored, b_mirrored, look_eq S, ap_sSeq, seqO_nx, seqO_rt, seqO_exc, ap_sIf, ifO_t, ifO_f, ifO_exc, ap_sNx, ap_sSet, ap_sOwn, ap_sRet, ap_sDrop, ap_sAsg, outB_some, bT_nm, bT_tp, bTs_nil, bTs_cons, ap_sRaise, ap_sPar, parO_ok, ap_sFor, ap_sRetV, retO_own, retO_val, ap_sFrz, frzO_own, frzO_val, ap_sApp, ap_sExt, ap_eV, valO_val, ap_eB, borO_val, borO_own, ap_eC, ap_eOp, opO_ok, ap_eUn, ap_eTup, ap_eLst, tupR_ok, lstR_ok, ap_eCB, ap_eCall, callO_ok, callO_exc, ap_gNot, notR_b, ap_gTru, truR_b, truR_list, ap_gAnd, ap_gOr, andO_t, andO_f, orO_t, orO_f, ap_eAnd, ap_eOr, eandO_t, eandO_f, eorO_t, eorO_f, ap_eNot, enotO_b, enotO_list, ap_eIf, eifO_t, eifO_f, ap_eChain, chO_ok, ap_eIsi, isiO_int, isiO_tup, isiO_lst, isiO_bl, isiO_str, isiO_non, isInt_int, isInt_bl, isInt_tup, isInt_lst, isInt_str, isInt_non, isBool_int, isBool_bl, isTup_tup, isTup_lst, isTup_int, isTup_non, isTup_str, isTup_bl, isLst_lst, isLst_tup, f_add, f_sub, f_neg, f_eqI, f_neI, f_eqB, f_neB, f_lt, f_le, f_gt, f_ge, f_is, f_isNot, isNone_int, isNone_tup, isNone_lst, isNone_non, f_len_l, f_len_t, f_len_rd, f_tup_l, f_tup_t, f_max2, f_min2, f_abs, f_sum_l, f_sum_t, f_ix0, f_ix1, f_ix2, f_ix3, f_rev_t, outR_nx, outR_rt, outR_exc, nones0, nonesS, runB_eq, ap_eSl, optI_none, optI_some, optO_int, ap_sWh, ap_iSeq, items_l, items_t, ap_iRange1, ap_iRange2, wipeE_nil, wipeE_cons, evA_nil, evA_cons, RL.cons_ok, RL.cons_exc, RL.bind_ok, RL.bind_exc, RL.out_ok, RL.out_exc, Rs.bind_ok, Rs.bind_exc, Rs.out_ok, Rs.out_exc, Rs.of_some, Option.bind_some, List.getElem?_cons_zero, List.getElem?_cons_succ, List.set_cons_zero, List.set_cons_succ, List.map_cons, List.map_nil, List.cons_append, List.nil_append, List.length_cons, List.length_nil, Nat.reduceAdd, Nat.reduceSub, Nat.reduceLeDiff, Nat.reduceLT, Bool.not_true, Bool.not_false, decide_true, decide_false]
  rw [eLc_mapA s rowD (fun r => rowD r.reverse) (by simp -implicitDefEqProofs only [items_sh, ap_sSeq, seqO_nx, seqO_rt, seqO_exc, ap_sIf, ifO_t, ifO_f, ifO_exc, ap_sNx, ap_sSet, ap_sOwn, ap_sRet, ap_sDrop, ap_sAsg, outB_some, bT_nm, bT_tp, bTs_nil, bTs_cons, ap_sRaise, ap_sPar, parO_ok, ap_sFor, ap_sRetV, retO_own, retO_val, ap_sFrz, frzO_own, frzO_val, ap_sApp, ap_sExt, ap_eV, valO_val, ap_eB, borO_val, borO_own, ap_eC, ap_eOp, opO_ok, ap_eUn, ap_eTup, ap_eLst, tupR_ok, lstR_ok, ap_eCB, ap_eCall, callO_ok, callO_exc, ap_gNot, notR_b, ap_gTru, truR_b, truR_list, ap_gAnd, ap_gOr, andO_t, andO_f, orO_t, orO_f, ap_eAnd, ap_eOr, eandO_t, eandO_f, eorO_t, eorO_f, ap_eNot, enotO_b, enotO_list, ap_eIf, eifO_t, eifO_f, ap_eChain, chO_ok, ap_eIsi, isiO_int, isiO_tup, isiO_lst, isiO_bl, isiO_str, isiO_non, isInt_int, isInt_bl, isInt_tup, isInt_lst, isInt_str, isInt_non, isBool_int, isBool_bl, isTup_tup, isTup_lst, isTup_int, isTup_non, isTup_str, isTup_bl, isLst_lst, isLst_tup, f_add, f_sub, f_neg, f_eqI, f_neI, f_eqB, f_neB, f_lt, f_le, f_gt, f_ge, f_is, f_isNot, isNone_int, isNone_tup, isNone_lst, isNone_non, f_len_l, f_len_t, f_len_rd, f_tup_l, f_tup_t, f_max2, f_min2, f_abs, f_sum_l, f_sum_t, f_ix0, f_ix1, f_ix2, f_ix3, f_rev_t, outR_nx, outR_rt, outR_exc, nones0, nonesS, runB_eq, ap_eSl, optI_none, optI_some, optO_int, ap_sWh, ap_iSeq, items_l, items_t, ap_iRange1, ap_iRange2, wipeE_nil, wipeE_cons, evA_nil, evA_cons, RL.cons_ok, RL.cons_exc, RL.bind_ok, RL.bind_exc, RL.out_ok, RL.out_exc, Rs.bind_ok, Rs.bind_exc, Rs.out_ok, Rs.out_exc, Rs.of_some, Option.bind_some, List.getElem?_cons_zero, List.getElem?_cons_succ, List.set_cons_zero, List.set_cons_succ, List.map_cons, List.map_nil, List.cons_append, List.nil_append, List.length_cons, List.length_nil, Nat.reduceAdd, Nat.reduceSub, Nat.reduceLeDiff, Nat.reduceLT, Bool.not_true, Bool.not_false, decide_true, decide_false]) (by omega) (by
    intro r hr
    have e : revF (rowD r) = some (rowD r.reverse) := by unfold rowD; rw [f_rev_t, List.map_reverse]
    simp -implicitDefEqProofs only [e, ap_sSeq, seqO_nx, seqO_rt, seqO_exc, ap_sIf, ifO_t, ifO_f, ifO_exc, ap_sNx, ap_sSet, ap_sOwn, ap_sRet, ap_sDrop, ap_sAsg, outB_some, bT_nm, bT_tp, bTs_nil, bTs_cons, ap_sRaise, ap_sPar, parO_ok, ap_sFor, ap_sRetV, retO_own, retO_val, ap_sFrz, frzO_own, frzO_val, ap_sApp, ap_sExt, ap_eV, valO_val, ap_eB, borO_val, borO_own, ap_eC, ap_eOp, opO_ok, ap_eUn, ap_eTup, ap_eLst, tupR_ok, lstR_ok, ap_eCB, ap_eCall, callO_ok, callO_exc, ap_gNot, notR_b, ap_gTru, truR_b, truR_list, ap_gAnd, ap_gOr, andO_t, andO_f, orO_t, orO_f, ap_eAnd, ap_eOr, eandO_t, eandO_f, eorO_t, eorO_f, ap_eNot, enotO_b, enotO_list, ap_eIf, eifO_t, eifO_f, ap_eChain, chO_ok, ap_eIsi, isiO_int, isiO_tup, isiO_lst, isiO_bl, isiO_str, isiO_non, isInt_int, isInt_bl, isInt_tup, isInt_lst, isInt_str, isInt_non, isBool_int, isBool_bl, isTup_tup, isTup_lst, isTup_int, isTup_non, isTup_str, isTup_bl, isLst_lst, isLst_tup, f_add, f_sub, f_neg, f_eqI, f_neI, f_eqB, f_neB, f_lt, f_le, f_gt, f_ge, f_is, f_isNot, isNone_int, isNone_tup, isNone_lst, isNone_non, f_len_l, f_len_t, f_len_rd, f_tup_l, f_tup_t, f_max2, f_min2, f_abs, f_sum_l, f_sum_t, f_ix0, f_ix1, f_ix2, f_ix3, f_rev_t, outR_nx, outR_rt, outR_exc, nones0, nonesS, runB_eq, ap_eSl, optI_none, optI_some, optO_int, ap_sWh, ap_iSeq, items_l, items_t, ap_iRange1, ap_iRange2, wipeE_nil, wipeE_cons, evA_nil, evA_cons, RL.cons_ok, RL.cons_exc, RL.bind_ok, RL.bind_exc, RL.out_ok, RL.out_exc, Rs.bind_ok, Rs.bind_exc, Rs.out_ok, Rs.out_exc, Rs.of_some, Option.bind_some, List.getElem?_cons_zero, List.getElem?_cons_succ, List.set_cons_zero, List.set_cons_succ, List.map_cons, List.map_nil, List.cons_append, List.nil_append, List.length_cons, List.length_nil, Nat.reduceAdd, Nat.reduceSub, Nat.reduceLeDiff, Nat.reduceLT, Bool.not_true, Bool.not_false, decide_true, decide_false]
    exact ⟨trivial, trivial⟩)]
  simp -implicitDefEqProofs only [ap_sSeq, seqO_nx, seqO_rt, seqO_exc, ap_sIf, ifO_t, ifO_f, ifO_exc, ap_sNx, ap_sSet, ap_sOwn, ap_sRet, ap_sDrop, ap_sAsg, outB_some, bT_nm, bT_tp, bTs_nil, bTs_cons, ap_sRaise, ap_sPar, parO_ok, ap_sFor, ap_sRetV, retO_own, retO_val, ap_sFrz, frzO_own, frzO_val, ap_sApp, ap_sExt, ap_eV, valO_val, ap_eB, borO_val, borO_own, ap_eC, ap_eOp, opO_ok, ap_eUn, ap_eTup, ap_eLst, tupR_ok, lstR_ok, ap_eCB, ap_eCall, callO_ok, callO_exc, ap_gNot, notR_b, ap_gTru, truR_b, truR_list, ap_gAnd, ap_gOr, andO_t, andO_f, orO_t, orO_f, ap_eAnd, ap_eOr, eandO_t, eandO_f, eorO_t, eorO_f, ap_eNot, enotO_b, enotO_list, ap_eIf, eifO_t, eifO_f, ap_eChain, chO_ok, ap_eIsi, isiO_int, isiO_tup, isiO_lst, isiO_bl, isiO_str, isiO_non, isInt_int, isInt_bl, isInt_tup, isInt_lst, isInt_str, isInt_non, isBool_int, isBool_bl, isTup_tup, isTup_lst, isTup_int, isTup_non, isTup_str, isTup_bl, isLst_lst, isLst_tup, f_add, f_sub, f_neg, f_eqI, f_neI, f_eqB, f_neB, f_lt, f_le, f_gt, f_ge, f_is, f_isNot, isNone_int, isNone_tup, isNone_lst, isNone_non, f_len_l, f_len_t, f_len_rd, f_tup_l, f_tup_t, f_max2, f_min2, f_abs, f_sum_l, f_sum_t, f_ix0, f_ix1, f_ix2, f_ix3, f_rev_t, outR_nx, outR_rt, outR_exc, nones0, nonesS, runB_eq, ap_eSl, optI_none, optI_some, optO_int, ap_sWh, ap_iSeq, items_l, items_t, ap_iRange1, ap_iRange2, wipeE_nil, wipeE_cons, evA_nil, evA_cons, RL.cons_ok, RL.cons_exc, RL.bind_ok, RL.bind_exc, RL.out_ok, RL.out_exc, Rs.bind_ok, Rs.bind_exc, Rs.out_ok, Rs.out_exc, Rs.of_some, Option.bind_some, List.getElem?_cons_zero, List.getElem?_cons_succ, List.set_cons_zero, List.set_cons_succ, List.map_cons, List.map_nil, List.cons_append, List.nil_append, List.length_cons, List.length_nil, Nat.reduceAdd, Nat.reduceSub, Nat.reduceLeDiff, Nat.reduceLT, Bool.not_true, Bool.not_false, decide_true, decide_false]
  unfold shD
  rw [List.map_map]
  rfl
theorem mirrored_sh {s : List (List Int)} {h w : Nat} (S : Sh s h w) : Sh (s.map List.reverse) h w where
  len := by rw [List.length_map]; exact S.len
  h1 := S.h1
  h2 := S.h2
  w1 := S.w1
  w2 := S.w2
  row := fun r hr => by
    obtain ⟨q, hq, rfl⟩ := List.mem_map.mp hr
    rw [List.length_reverse]
    exact S.row q hq
  lev := fun r hr v hv => by
    obtain ⟨q, hq, rfl⟩ := List.mem_map.mp hr
    exact S.lev q hq v (List.mem_reverse.mp hv)
def litL (c : Int) (s : List (List Int)) : List (List Int) := s.map fun r => r.map fun v => min (max (v + c) 0) 255
theorem lit_eq {s : List (List Int)} {h w : Nat} (S : Sh s h w) (c : Int) (hc : -255 ≤ c ∧ c ≤ 255) : sem_lit [shD s, .int c] = .ok (shD (litL c s)) := by
  have l := S.len
  have h2 := S.h2
  have w2 := S.w2
  simp -implicitDefEqProofs only [sem_lit, b_lit, look_eq S, is_within_eq, hc, and_self, ap_sSeq, seqO_nx, seqO_rt, seqO_exc, ap_sIf, ifO_t, ifO_f, ifO_exc, ap_sNx, ap_sSet, ap_sOwn, ap_sRet, ap_sDrop, ap_sAsg, outB_some, bT_nm, bT_tp, bTs_nil, bTs_cons, ap_sRaise, ap_sPar, parO_ok, ap_sFor, ap_sRetV, retO_own, retO_val, ap_sFrz, frzO_own, frzO_val, ap_sApp, ap_sExt, ap_eV, valO_val, ap_eB, borO_val, borO_own, ap_eC, ap_eOp, opO_ok, ap_eUn, ap_eTup, ap_eLst, tupR_ok, lstR_ok, ap_eCB, ap_eCall, callO_ok, callO_exc, ap_gNot, notR_b, ap_gTru, truR_b, truR_list, ap_gAnd, ap_gOr, andO_t, andO_f, orO_t, orO_f, ap_eAnd, ap_eOr, eandO_t, eandO_f, eorO_t, eorO_f, ap_eNot, enotO_b, enotO_list, ap_eIf, eifO_t, eifO_f, ap_eChain, chO_ok, ap_eIsi, isiO_int, isiO_tup, isiO_lst, isiO_bl, isiO_str, isiO_non, isInt_int, isInt_bl, isInt_tup, isInt_lst, isInt_str, isInt_non, isBool_int, isBool_bl, isTup_tup, isTup_lst, isTup_int, isTup_non, isTup_str, isTup_bl, isLst_lst, isLst_tup, f_add, f_sub, f_neg, f_eqI, f_neI, f_eqB, f_neB, f_lt, f_le, f_gt, f_ge, f_is, f_isNot, isNone_int, isNone_tup, isNone_lst, isNone_non, f_len_l, f_len_t, f_len_rd, f_tup_l, f_tup_t, f_max2, f_min2, f_abs, f_sum_l, f_sum_t, f_ix0, f_ix1, f_ix2, f_ix3, f_rev_t, outR_nx, outR_rt, outR_exc, nones0, nonesS, runB_eq, ap_eSl, optI_none, optI_some, optO_int, ap_sWh, ap_iSeq, items_l, items_t, ap_iRange1, ap_iRange2, wipeE_nil, wipeE_cons, evA_nil, evA_cons, RL.cons_ok, RL.cons_exc, RL.bind_ok, RL.bind_exc, RL.out_ok, RL.out_exc, Rs.bind_ok, Rs.bind_exc, Rs.out_ok, Rs.out_exc, Rs.of_some, Option.bind_some, List.getElem?_cons_zero, List.getElem?_cons_succ, List.set_cons_zero, List.set_cons_succ, List.map_cons, List.map_nil, List.cons_append, List.nil_append, List.length_cons, List.length_nil, Nat.reduceAdd, Nat.reduceSub, Nat.reduceLeDiff, Nat.reduceLT, Bool.not_true, Bool.not_false, decide_true, decide_false]
  rw [eLc_mapA s rowD (fun r => rowD (r.map fun v => min (max (v + c) 0) 255)) (by simp -implicitDefEqProofs only [items_sh, ap_sSeq, seqO_nx, seqO_rt, seqO_exc, ap_sIf, ifO_t, ifO_f, ifO_exc, ap_sNx, ap_sSet, ap_sOwn, ap_sRet, ap_sDrop, ap_sAsg, outB_some, bT_nm, bT_tp, bTs_nil, bTs_cons, ap_sRaise, ap_sPar, parO_ok, ap_sFor, ap_sRetV, retO_own, retO_val, ap_sFrz, frzO_own, frzO_val, ap_sApp, ap_sExt, ap_eV, valO_val, ap_eB, borO_val, borO_own, ap_eC, ap_eOp, opO_ok, ap_eUn, ap_eTup, ap_eLst, tupR_ok, lstR_ok, ap_eCB, ap_eCall, callO_ok, callO_exc, ap_gNot, notR_b, ap_gTru, truR_b, truR_list, ap_gAnd, ap_gOr, andO_t, andO_f, orO_t, orO_f, ap_eAnd, ap_eOr, eandO_t, eandO_f, eorO_t, eorO_f, ap_eNot, enotO_b, enotO_list, ap_eIf, eifO_t, eifO_f, ap_eChain, chO_ok, ap_eIsi, isiO_int, isiO_tup, isiO_lst, isiO_bl, isiO_str, isiO_non, isInt_int, isInt_bl, isInt_tup, isInt_lst, isInt_str, isInt_non, isBool_int, isBool_bl, isTup_tup, isTup_lst, isTup_int, isTup_non, isTup_str, isTup_bl, isLst_lst, isLst_tup, f_add, f_sub, f_neg, f_eqI, f_neI, f_eqB, f_neB, f_lt, f_le, f_gt, f_ge, f_is, f_isNot, isNone_int, isNone_tup, isNone_lst, isNone_non, f_len_l, f_len_t, f_len_rd, f_tup_l, f_tup_t, f_max2, f_min2, f_abs, f_sum_l, f_sum_t, f_ix0, f_ix1, f_ix2, f_ix3, f_rev_t, outR_nx, outR_rt, outR_exc, nones0, nonesS, runB_eq, ap_eSl, optI_none, optI_some, optO_int, ap_sWh, ap_iSeq, items_l, items_t, ap_iRange1, ap_iRange2, wipeE_nil, wipeE_cons, evA_nil, evA_cons, RL.cons_ok, RL.cons_exc, RL.bind_ok, RL.bind_exc, RL.out_ok, RL.out_exc, Rs.bind_ok, Rs.bind_exc, Rs.out_ok, Rs.out_exc, Rs.of_some, Option.bind_some, List.getElem?_cons_zero, List.getElem?_cons_succ, List.set_cons_zero, List.set_cons_succ, List.map_cons, List.map_nil, List.cons_append, List.nil_append, List.length_cons, List.length_nil, Nat.reduceAdd, Nat.reduceSub, Nat.reduceLeDiff, Nat.reduceLT, Bool.not_true, Bool.not_false, decide_true, decide_false]) (by omega) (by
    intro r hr
    have lr := S.row r hr
    refine ⟨by simp -implicitDefEqProofs only [ap_sSeq, seqO_nx, seqO_rt, seqO_exc, ap_sIf, ifO_t, ifO_f, ifO_exc, ap_sNx, ap_sSet, ap_sOwn, ap_sRet, ap_sDrop, ap_sAsg, outB_some, bT_nm, bT_tp, bTs_nil, bTs_cons, ap_sRaise, ap_sPar, parO_ok, ap_sFor, ap_sRetV, retO_own, retO_val, ap_sFrz, frzO_own, frzO_val, ap_sApp, ap_sExt, ap_eV, valO_val, ap_eB, borO_val, borO_own, ap_eC, ap_eOp, opO_ok, ap_eUn, ap_eTup, ap_eLst, tupR_ok, lstR_ok, ap_eCB, ap_eCall, callO_ok, callO_exc, ap_gNot, notR_b, ap_gTru, truR_b, truR_list, ap_gAnd, ap_gOr, andO_t, andO_f, orO_t, orO_f, ap_eAnd, ap_eOr, eandO_t, eandO_f, eorO_t, eorO_f, ap_eNot, enotO_b, enotO_list, ap_eIf, eifO_t, eifO_f, ap_eChain, chO_ok, ap_eIsi, isiO_int, isiO_tup, isiO_lst, isiO_bl, isiO_str, isiO_non, isInt_int, isInt_bl, isInt_tup, isInt_lst, isInt_str, isInt_non, isBool_int, isBool_bl, isTup_tup, isTup_lst, isTup_int, isTup_non, isTup_str, isTup_bl, isLst_lst, isLst_tup, f_add, f_sub, f_neg, f_eqI, f_neI, f_eqB, f_neB, f_lt, f_le, f_gt, f_ge, f_is, f_isNot, isNone_int, isNone_tup, isNone_lst, isNone_non, f_len_l, f_len_t, f_len_rd, f_tup_l, f_tup_t, f_max2, f_min2, f_abs, f_sum_l, f_sum_t, f_ix0, f_ix1, f_ix2, f_ix3, f_rev_t, outR_nx, outR_rt, outR_exc, nones0, nonesS, runB_eq, ap_eSl, optI_none, optI_some, optO_int, ap_sWh, ap_iSeq, items_l, items_t, ap_iRange1, ap_iRange2, wipeE_nil, wipeE_cons, evA_nil, evA_cons, RL.cons_ok, RL.cons_exc, RL.bind_ok, RL.bind_exc, RL.out_ok, RL.out_exc, Rs.bind_ok, Rs.bind_exc, Rs.out_ok, Rs.out_exc, Rs.of_some, Option.bind_some, List.getElem?_cons_zero, List.getElem?_cons_succ, List.set_cons_zero, List.set_cons_succ, List.map_cons, List.map_nil, List.cons_append, List.nil_append, List.length_cons, List.length_nil, Nat.reduceAdd, Nat.reduceSub, Nat.reduceLeDiff, Nat.reduceLT, Bool.not_true, Bool.not_false, decide_true, decide_false], ?_⟩
    simp -implicitDefEqProofs only [ap_sSeq, seqO_nx, seqO_rt, seqO_exc, ap_sIf, ifO_t, ifO_f, ifO_exc, ap_sNx, ap_sSet, ap_sOwn, ap_sRet, ap_sDrop, ap_sAsg, outB_some, bT_nm, bT_tp, bTs_nil, bTs_cons, ap_sRaise, ap_sPar, parO_ok, ap_sFor, ap_sRetV, retO_own, retO_val, ap_sFrz, frzO_own, frzO_val, ap_sApp, ap_sExt, ap_eV, valO_val, ap_eB, borO_val, borO_own, ap_eC, ap_eOp, opO_ok, ap_eUn, ap_eTup, ap_eLst, tupR_ok, lstR_ok, ap_eCB, ap_eCall, callO_ok, callO_exc, ap_gNot, notR_b, ap_gTru, truR_b, truR_list, ap_gAnd, ap_gOr, andO_t, andO_f, orO_t, orO_f, ap_eAnd, ap_eOr, eandO_t, eandO_f, eorO_t, eorO_f, ap_eNot, enotO_b, enotO_list, ap_eIf, eifO_t, eifO_f, ap_eChain, chO_ok, ap_eIsi, isiO_int, isiO_tup, isiO_lst, isiO_bl, isiO_str, isiO_non, isInt_int, isInt_bl, isInt_tup, isInt_lst, isInt_str, isInt_non, isBool_int, isBool_bl, isTup_tup, isTup_lst, isTup_int, isTup_non, isTup_str, isTup_bl, isLst_lst, isLst_tup, f_add, f_sub, f_neg, f_eqI, f_neI, f_eqB, f_neB, f_lt, f_le, f_gt, f_ge, f_is, f_isNot, isNone_int, isNone_tup, isNone_lst, isNone_non, f_len_l, f_len_t, f_len_rd, f_tup_l, f_tup_t, f_max2, f_min2, f_abs, f_sum_l, f_sum_t, f_ix0, f_ix1, f_ix2, f_ix3, f_rev_t, outR_nx, outR_rt, outR_exc, nones0, nonesS, runB_eq, ap_eSl, optI_none, optI_some, optO_int, ap_sWh, ap_iSeq, items_l, items_t, ap_iRange1, ap_iRange2, wipeE_nil, wipeE_cons, evA_nil, evA_cons, RL.cons_ok, RL.cons_exc, RL.bind_ok, RL.bind_exc, RL.out_ok, RL.out_exc, Rs.bind_ok, Rs.bind_exc, Rs.out_ok, Rs.out_exc, Rs.of_some, Option.bind_some, List.getElem?_cons_zero, List.getElem?_cons_succ, List.set_cons_zero, List.set_cons_succ, List.map_cons, List.map_nil, List.cons_append, List.nil_append, List.length_cons, List.length_nil, Nat.reduceAdd, Nat.reduceSub, Nat.reduceLeDiff, Nat.reduceLT, Bool.not_true, Bool.not_false, decide_true, decide_false]
    rw [eLc_mapA r PyData.int (fun v => PyData.int (min (max (v + c) 0) 255)) (by simp -implicitDefEqProofs only [items_row, ap_sSeq, seqO_nx, seqO_rt, seqO_exc, ap_sIf, ifO_t, ifO_f, ifO_exc, ap_sNx, ap_sSet, ap_sOwn, ap_sRet, ap_sDrop, ap_sAsg, outB_some, bT_nm, bT_tp, bTs_nil, bTs_cons, ap_sRaise, ap_sPar, parO_ok, ap_sFor, ap_sRetV, retO_own, retO_val, ap_sFrz, frzO_own, frzO_val, ap_sApp, ap_sExt, ap_eV, valO_val, ap_eB, borO_val, borO_own, ap_eC, ap_eOp, opO_ok, ap_eUn, ap_eTup, ap_eLst, tupR_ok, lstR_ok, ap_eCB, ap_eCall, callO_ok, callO_exc, ap_gNot, notR_b, ap_gTru, truR_b, truR_list, ap_gAnd, ap_gOr, andO_t, andO_f, orO_t, orO_f, ap_eAnd, ap_eOr, eandO_t, eandO_f, eorO_t, eorO_f, ap_eNot, enotO_b, enotO_list, ap_eIf, eifO_t, eifO_f, ap_eChain, chO_ok, ap_eIsi, isiO_int, isiO_tup, isiO_lst, isiO_bl, isiO_str, isiO_non, isInt_int, isInt_bl, isInt_tup, isInt_lst, isInt_str, isInt_non, isBool_int, isBool_bl, isTup_tup, isTup_lst, isTup_int, isTup_non, isTup_str, isTup_bl, isLst_lst, isLst_tup, f_add, f_sub, f_neg, f_eqI, f_neI, f_eqB, f_neB, f_lt, f_le, f_gt, f_ge, f_is, f_isNot, isNone_int, isNone_tup, isNone_lst, isNone_non, f_len_l, f_len_t, f_len_rd, f_tup_l, f_tup_t, f_max2, f_min2, f_abs, f_sum_l, f_sum_t, f_ix0, f_ix1, f_ix2, f_ix3, f_rev_t, outR_nx, outR_rt, outR_exc, nones0, nonesS, runB_eq, ap_eSl, optI_none, optI_some, optO_int, ap_sWh, ap_iSeq, items_l, items_t, ap_iRange1, ap_iRange2, wipeE_nil, wipeE_cons, evA_nil, evA_cons, RL.cons_ok, RL.cons_exc, RL.bind_ok, RL.bind_exc, RL.out_ok, RL.out_exc, Rs.bind_ok, Rs.bind_exc, Rs.out_ok, Rs.out_exc, Rs.of_some, Option.bind_some, List.getElem?_cons_zero, List.getElem?_cons_succ, List.set_cons_zero, List.set_cons_succ, List.map_cons, List.map_nil, List.cons_append, List.nil_append, List.length_cons, List.length_nil, Nat.reduceAdd, Nat.reduceSub, Nat.reduceLeDiff, Nat.reduceLT, Bool.not_true, Bool.not_false, decide_true, decide_false]) (by omega) (by
      intro v hv
      simp -implicitDefEqProofs only [ap_sSeq, seqO_nx, seqO_rt, seqO_exc, ap_sIf, ifO_t, ifO_f, ifO_exc, ap_sNx, ap_sSet, ap_sOwn, ap_sRet, ap_sDrop, ap_sAsg, outB_some, bT_nm, bT_tp, bTs_nil, bTs_cons, ap_sRaise, ap_sPar, parO_ok, ap_sFor, ap_sRetV, retO_own, retO_val, ap_sFrz, frzO_own, frzO_val, ap_sApp, ap_sExt, ap_eV, valO_val, ap_eB, borO_val, borO_own, ap_eC, ap_eOp, opO_ok, ap_eUn, ap_eTup, ap_eLst, tupR_ok, lstR_ok, ap_eCB, ap_eCall, callO_ok, callO_exc, ap_gNot, notR_b, ap_gTru, truR_b, truR_list, ap_gAnd, ap_gOr, andO_t, andO_f, orO_t, orO_f, ap_eAnd, ap_eOr, eandO_t, eandO_f, eorO_t, eorO_f, ap_eNot, enotO_b, enotO_list, ap_eIf, eifO_t, eifO_f, ap_eChain, chO_ok, ap_eIsi, isiO_int, isiO_tup, isiO_lst, isiO_bl, isiO_str, isiO_non, isInt_int, isInt_bl, isInt_tup, isInt_lst, isInt_str, isInt_non, isBool_int, isBool_bl, isTup_tup, isTup_lst, isTup_int, isTup_non, isTup_str, isTup_bl, isLst_lst, isLst_tup, f_add, f_sub, f_neg, f_eqI, f_neI, f_eqB, f_neB, f_lt, f_le, f_gt, f_ge, f_is, f_isNot, isNone_int, isNone_tup, isNone_lst, isNone_non, f_len_l, f_len_t, f_len_rd, f_tup_l, f_tup_t, f_max2, f_min2, f_abs, f_sum_l, f_sum_t, f_ix0, f_ix1, f_ix2, f_ix3, f_rev_t, outR_nx, outR_rt, outR_exc, nones0, nonesS, runB_eq, ap_eSl, optI_none, optI_some, optO_int, ap_sWh, ap_iSeq, items_l, items_t, ap_iRange1, ap_iRange2, wipeE_nil, wipeE_cons, evA_nil, evA_cons, RL.cons_ok, RL.cons_exc, RL.bind_ok, RL.bind_exc, RL.out_ok, RL.out_exc, Rs.bind_ok, Rs.bind_exc, Rs.out_ok, Rs.out_exc, Rs.of_some, Option.bind_some, List.getElem?_cons_zero, List.getElem?_cons_succ, List.set_cons_zero, List.set_cons_succ, List.map_cons, List.map_nil, List.cons_append, List.nil_append, List.length_cons, List.length_nil, Nat.reduceAdd, Nat.reduceSub, Nat.reduceLeDiff, Nat.reduceLT, Bool.not_true, Bool.not_false, decide_true, decide_false]
      exact ⟨trivial, trivial⟩)]
    simp -implicitDefEqProofs only [ap_sSeq, seqO_nx, seqO_rt, seqO_exc, ap_sIf, ifO_t, ifO_f, ifO_exc, ap_sNx, ap_sSet, ap_sOwn, ap_sRet, ap_sDrop, ap_sAsg, outB_some, bT_nm, bT_tp, bTs_nil, bTs_cons, ap_sRaise, ap_sPar, parO_ok, ap_sFor, ap_sRetV, retO_own, retO_val, ap_sFrz, frzO_own, frzO_val, ap_sApp, ap_sExt, ap_eV, valO_val, ap_eB, borO_val, borO_own, ap_eC, ap_eOp, opO_ok, ap_eUn, ap_eTup, ap_eLst, tupR_ok, lstR_ok, ap_eCB, ap_eCall, callO_ok, callO_exc, ap_gNot, notR_b, ap_gTru, truR_b, truR_list, ap_gAnd, ap_gOr, andO_t, andO_f, orO_t, orO_f, ap_eAnd, ap_eOr, eandO_t, eandO_f, eorO_t, eorO_f, ap_eNot, enotO_b, enotO_list, ap_eIf, eifO_t, eifO_f, ap_eChain, chO_ok, ap_eIsi, isiO_int, isiO_tup, isiO_lst, isiO_bl, isiO_str, isiO_non, isInt_int, isInt_bl, isInt_tup, isInt_lst, isInt_str, isInt_non, isBool_int, isBool_bl, isTup_tup, isTup_lst, isTup_int, isTup_non, isTup_str, isTup_bl, isLst_lst, isLst_tup, f_add, f_sub, f_neg, f_eqI, f_neI, f_eqB, f_neB, f_lt, f_le, f_gt, f_ge, f_is, f_isNot, isNone_int, isNone_tup, isNone_lst, isNone_non, f_len_l, f_len_t, f_len_rd, f_tup_l, f_tup_t, f_max2, f_min2, f_abs, f_sum_l, f_sum_t, f_ix0, f_ix1, f_ix2, f_ix3, f_rev_t, outR_nx, outR_rt, outR_exc, nones0, nonesS, runB_eq, ap_eSl, optI_none, optI_some, optO_int, ap_sWh, ap_iSeq, items_l, items_t, ap_iRange1, ap_iRange2, wipeE_nil, wipeE_cons, evA_nil, evA_cons, RL.cons_ok, RL.cons_exc, RL.bind_ok, RL.bind_exc, RL.out_ok, RL.out_exc, Rs.bind_ok, Rs.bind_exc, Rs.out_ok, Rs.out_exc, Rs.of_some, Option.bind_some, List.getElem?_cons_zero, List.getElem?_cons_succ, List.set_cons_zero, List.set_cons_succ, List.map_cons, List.map_nil, List.cons_append, List.nil_append, List.length_cons, List.length_nil, Nat.reduceAdd, Nat.reduceSub, Nat.reduceLeDiff, Nat.reduceLT, Bool.not_true, Bool.not_false, decide_true, decide_false]
    unfold rowD
    rw [List.map_map]
    rfl)]
  simp -implicitDefEqProofs only [ap_sSeq, seqO_nx, seqO_rt, seqO_exc, ap_sIf, ifO_t, ifO_f, ifO_exc, ap_sNx, ap_sSet, ap_sOwn, ap_sRet, ap_sDrop, ap_sAsg, outB_some, bT_nm, bT_tp, bTs_nil, bTs_cons, ap_sRaise, ap_sPar, parO_ok, ap_sFor, ap_sRetV, retO_own, retO_val, ap_sFrz, frzO_own, frzO_val, ap_sApp, ap_sExt, ap_eV, valO_val, ap_eB, borO_val, borO_own, ap_eC, ap_eOp, opO_ok, ap_eUn, ap_eTup, ap_eLst, tupR_ok, lstR_ok, ap_eCB, ap_eCall, callO_ok, callO_exc, ap_gNot, notR_b, ap_gTru, truR_b, truR_list, ap_gAnd, ap_gOr, andO_t, andO_f, orO_t, orO_f, ap_eAnd, ap_eOr, eandO_t, eandO_f, eorO_t, eorO_f, ap_eNot, enotO_b, enotO_list, ap_eIf, eifO_t, eifO_f, ap_eChain, chO_ok, ap_eIsi, isiO_int, isiO_tup, isiO_lst, isiO_bl, isiO_str, isiO_non, isInt_int, isInt_bl, isInt_tup, isInt_lst, isInt_str, isInt_non, isBool_int, isBool_bl, isTup_tup, isTup_lst, isTup_int, isTup_non, isTup_str, isTup_bl, isLst_lst, isLst_tup, f_add, f_sub, f_neg, f_eqI, f_neI, f_eqB, f_neB, f_lt, f_le, f_gt, f_ge, f_is, f_isNot, isNone_int, isNone_tup, isNone_lst, isNone_non, f_len_l, f_len_t, f_len_rd, f_tup_l, f_tup_t, f_max2, f_min2, f_abs, f_sum_l, f_sum_t, f_ix0, f_ix1, f_ix2, f_ix3, f_rev_t, outR_nx, outR_rt, outR_exc, nones0, nonesS, runB_eq, ap_eSl, optI_none, optI_some, optO_int, ap_sWh, ap_iSeq, items_l, items_t, ap_iRange1, ap_iRange2, wipeE_nil, wipeE_cons, evA_nil, evA_cons, RL.cons_ok, RL.cons_exc, RL.bind_ok, RL.bind_exc, RL.out_ok, RL.out_exc, Rs.bind_ok, Rs.bind_exc, Rs.out_ok, Rs.out_exc, Rs.of_some, Option.bind_some, List.getElem?_cons_zero, List.getElem?_cons_succ, List.set_cons_zero, List.set_cons_succ, List.map_cons, List.map_nil, List.cons_append, List.nil_append, List.length_cons, List.length_nil, Nat.reduceAdd, Nat.reduceSub, Nat.reduceLeDiff, Nat.reduceLT, Bool.not_true, Bool.not_false, decide_true, decide_false]
  unfold shD litL
  rw [List.map_map]
  rfl
theorem lit_sh {s : List (List Int)} {h w : Nat} (S : Sh s h w) (c : Int) : Sh (litL c s) h w where
  len := by unfold litL; rw [List.length_map]; exact S.len
  h1 := S.h1
  h2 := S.h2
  w1 := S.w1
  w2 := S.w2
  row := fun r hr => by
    obtain ⟨q, hq, rfl⟩ := List.mem_map.mp hr
    rw [List.length_map]
    exact S.row q hq
  lev := fun r hr v hv => by
    obtain ⟨q, hq, rfl⟩ := List.mem_map.mp hr
    obtain ⟨u, hu, rfl⟩ := List.mem_map.mp hv
    omega
def cutS' (s : List (List Int)) (x y wide high : Nat) : List (List Int) := ((s.drop y).take high).map fun r => (r.drop x).take wide
theorem cut_out_eq {s : List (List Int)} {h w : Nat} (S : Sh s h w) (x y wide high : Int) (hx : 0 ≤ x) (hy : 0 ≤ y) (hw : 1 ≤ wide) (hh : 1 ≤ high) (hxw : x + wide ≤ w) (hyh : y + high ≤ h) :
    sem_cut_out [shD s, .int x, .int y, .int wide, .int high] = .ok (shD (cutS' s x.toNat y.toNat wide.toNat high.toNat)) := by
  have l := S.len
  have h2 := S.h2
  have c1 : 0 ≤ x ∧ x ≤ (w : Int) - 1 := by omega
  have c2 : 0 ≤ y ∧ y ≤ (h : Int) - 1 := by omega
  have c3 : 1 ≤ wide ∧ wide ≤ (w : Int) - x := by omega
  have c4 : 1 ≤ high ∧ high ≤ (h : Int) - y := by omega
  have e1 : slF (shD s) (some y) (some (y + high)) = some (.tuple (((s.drop y.toNat).take high.toNat).map rowD)) := by
    show some (PyData.tuple (cutL (s.map rowD) (some y) (some (y + high)))) = _
    rw [cutL_eq _ _ _ hy (by omega) (by rw [List.length_map]; omega), List.map_take, List.map_drop]
    congr 4
    omega
  simp -implicitDefEqProofs only [sem_cut_out, b_cut_out, look_eq S, size_of_eq S, is_within_eq, c1, c2, c3, c4, and_self, ap_sSeq, seqO_nx, seqO_rt, seqO_exc, ap_sIf, ifO_t, ifO_f, ifO_exc, ap_sNx, ap_sSet, ap_sOwn, ap_sRet, ap_sDrop, ap_sAsg, outB_some, bT_nm, bT_tp, bTs_nil, bTs_cons, ap_sRaise, ap_sPar, parO_ok, ap_sFor, ap_sRetV, retO_own, retO_val, ap_sFrz, frzO_own, frzO_val, ap_sApp, ap_sExt, ap_eV, valO_val, ap_eB, borO_val, borO_own, ap_eC, ap_eOp, opO_ok, ap_eUn, ap_eTup, ap_eLst, tupR_ok, lstR_ok, ap_eCB, ap_eCall, callO_ok, callO_exc, ap_gNot, notR_b, ap_gTru, truR_b, truR_list, ap_gAnd, ap_gOr, andO_t, andO_f, orO_t, orO_f, ap_eAnd, ap_eOr, eandO_t, eandO_f, eorO_t, eorO_f, ap_eNot, enotO_b, enotO_list, ap_eIf, eifO_t, eifO_f, ap_eChain, chO_ok, ap_eIsi, isiO_int, isiO_tup, isiO_lst, isiO_bl, isiO_str, isiO_non, isInt_int, isInt_bl, isInt_tup, isInt_lst, isInt_str, isInt_non, isBool_int, isBool_bl, isTup_tup, isTup_lst, isTup_int, isTup_non, isTup_str, isTup_bl, isLst_lst, isLst_tup, f_add, f_sub, f_neg, f_eqI, f_neI, f_eqB, f_neB, f_lt, f_le, f_gt, f_ge, f_is, f_isNot, isNone_int, isNone_tup, isNone_lst, isNone_non, f_len_l, f_len_t, f_len_rd, f_tup_l, f_tup_t, f_max2, f_min2, f_abs, f_sum_l, f_sum_t, f_ix0, f_ix1, f_ix2, f_ix3, f_rev_t, outR_nx, outR_rt, outR_exc, nones0, nonesS, runB_eq, ap_eSl, optI_none, optI_some, optO_int, ap_sWh, ap_iSeq, items_l, items_t, ap_iRange1, ap_iRange2, wipeE_nil, wipeE_cons, evA_nil, evA_cons, RL.cons_ok, RL.cons_exc, RL.bind_ok, RL.bind_exc, RL.out_ok, RL.out_exc, Rs.bind_ok, Rs.bind_exc, Rs.out_ok, Rs.out_exc, Rs.of_some, Option.bind_some, List.getElem?_cons_zero, List.getElem?_cons_succ, List.set_cons_zero, List.set_cons_succ, List.map_cons, List.map_nil, List.cons_append, List.nil_append, List.length_cons, List.length_nil, Nat.reduceAdd, Nat.reduceSub, Nat.reduceLeDiff, Nat.reduceLT, Bool.not_true, Bool.not_false, decide_true, decide_false]
  rw [eLc_mapA ((s.drop y.toNat).take high.toNat) rowD (fun r => rowD ((r.drop x.toNat).take wide.toNat)) (by simp -implicitDefEqProofs only [e1, ap_sSeq, seqO_nx, seqO_rt, seqO_exc, ap_sIf, ifO_t, ifO_f, ifO_exc, ap_sNx, ap_sSet, ap_sOwn, ap_sRet, ap_sDrop, ap_sAsg, outB_some, bT_nm, bT_tp, bTs_nil, bTs_cons, ap_sRaise, ap_sPar, parO_ok, ap_sFor, ap_sRetV, retO_own, retO_val, ap_sFrz, frzO_own, frzO_val, ap_sApp, ap_sExt, ap_eV, valO_val, ap_eB, borO_val, borO_own, ap_eC, ap_eOp, opO_ok, ap_eUn, ap_eTup, ap_eLst, tupR_ok, lstR_ok, ap_eCB, ap_eCall, callO_ok, callO_exc, ap_gNot, notR_b, ap_gTru, truR_b, truR_list, ap_gAnd, ap_gOr, andO_t, andO_f, orO_t, orO_f, ap_eAnd, ap_eOr, eandO_t, eandO_f, eorO_t, eorO_f, ap_eNot, enotO_b, enotO_list, ap_eIf, eifO_t, eifO_f, ap_eChain, chO_ok, ap_eIsi, isiO_int, isiO_tup, isiO_lst, isiO_bl, isiO_str, isiO_non, isInt_int, isInt_bl, isInt_tup, isInt_lst, isInt_str, isInt_non, isBool_int, isBool_bl, isTup_tup, isTup_lst, isTup_int, isTup_non, isTup_str, isTup_bl, isLst_lst, isLst_tup, f_add, f_sub, f_neg, f_eqI, f_neI, f_eqB, f_neB, f_lt, f_le, f_gt, f_ge, f_is, f_isNot, isNone_int, isNone_tup, isNone_lst, isNone_non, f_len_l, f_len_t, f_len_rd, f_tup_l, f_tup_t, f_max2, f_min2, f_abs, f_sum_l, f_sum_t, f_ix0, f_ix1, f_ix2, f_ix3, f_rev_t, outR_nx, outR_rt, outR_exc, nones0, nonesS, runB_eq, ap_eSl, optI_none, optI_some, optO_int, ap_sWh, ap_iSeq, items_l, items_t, ap_iRange1, ap_iRange2, wipeE_nil, wipeE_cons, evA_nil, evA_cons, RL.cons_ok, RL.cons_exc, RL.bind_ok, RL.bind_exc, RL.out_ok, RL.out_exc, Rs.bind_ok, Rs.bind_exc, Rs.out_ok, Rs.out_exc, Rs.of_some, Option.bind_some, List.getElem?_cons_zero, List.getElem?_cons_succ, List.set_cons_zero, List.set_cons_succ, List.map_cons, List.map_nil, List.cons_append, List.nil_append, List.length_cons, List.length_nil, Nat.reduceAdd, Nat.reduceSub, Nat.reduceLeDiff, Nat.reduceLT, Bool.not_true, Bool.not_false, decide_true, decide_false]) (by rw [List.length_take, List.length_drop]; omega) (by
    intro r hr
    have hr' : r ∈ s := List.mem_of_mem_drop (List.mem_of_mem_take hr)
    have e2 : slF (rowD r) (some x) (some (x + wide)) = some (rowD ((r.drop x.toNat).take wide.toNat)) := by
      show some (PyData.tuple (cutL (r.map PyData.int) (some x) (some (x + wide)))) = some (PyData.tuple (((r.drop x.toNat).take wide.toNat).map PyData.int))
      rw [cutL_eq _ _ _ hx (by omega) (by rw [List.length_map, S.row r hr']; omega), List.map_take, List.map_drop]
      congr 4
      omega
    simp -implicitDefEqProofs only [e2, ap_sSeq, seqO_nx, seqO_rt, seqO_exc, ap_sIf, ifO_t, ifO_f, ifO_exc, ap_sNx, ap_sSet, ap_sOwn, ap_sRet, ap_sDrop, ap_sAsg, outB_some, bT_nm, bT_tp, bTs_nil, bTs_cons, ap_sRaise, ap_sPar, parO_ok, ap_sFor, ap_sRetV, retO_own, retO_val, ap_sFrz, frzO_own, frzO_val, ap_sApp, ap_sExt, ap_eV, valO_val, ap_eB, borO_val, borO_own, ap_eC, ap_eOp, opO_ok, ap_eUn, ap_eTup, ap_eLst, tupR_ok, lstR_ok, ap_eCB, ap_eCall, callO_ok, callO_exc, ap_gNot, notR_b, ap_gTru, truR_b, truR_list, ap_gAnd, ap_gOr, andO_t, andO_f, orO_t, orO_f, ap_eAnd, ap_eOr, eandO_t, eandO_f, eorO_t, eorO_f, ap_eNot, enotO_b, enotO_list, ap_eIf, eifO_t, eifO_f, ap_eChain, chO_ok, ap_eIsi, isiO_int, isiO_tup, isiO_lst, isiO_bl, isiO_str, isiO_non, isInt_int, isInt_bl, isInt_tup, isInt_lst, isInt_str, isInt_non, isBool_int, isBool_bl, isTup_tup, isTup_lst, isTup_int, isTup_non, isTup_str, isTup_bl, isLst_lst, isLst_tup, f_add, f_sub, f_neg, f_eqI, f_neI, f_eqB, f_neB, f_lt, f_le, f_gt, f_ge, f_is, f_isNot, isNone_int, isNone_tup, isNone_lst, isNone_non, f_len_l, f_len_t, f_len_rd, f_tup_l, f_tup_t, f_max2, f_min2, f_abs, f_sum_l, f_sum_t, f_ix0, f_ix1, f_ix2, f_ix3, f_rev_t, outR_nx, outR_rt, outR_exc, nones0, nonesS, runB_eq, ap_eSl, optI_none, optI_some, optO_int, ap_sWh, ap_iSeq, items_l, items_t, ap_iRange1, ap_iRange2, wipeE_nil, wipeE_cons, evA_nil, evA_cons, RL.cons_ok, RL.cons_exc, RL.bind_ok, RL.bind_exc, RL.out_ok, RL.out_exc, Rs.bind_ok, Rs.bind_exc, Rs.out_ok, Rs.out_exc, Rs.of_some, Option.bind_some, List.getElem?_cons_zero, List.getElem?_cons_succ, List.set_cons_zero, List.set_cons_succ, List.map_cons, List.map_nil, List.cons_append, List.nil_append, List.length_cons, List.length_nil, Nat.reduceAdd, Nat.reduceSub, Nat.reduceLeDiff, Nat.reduceLT, Bool.not_true, Bool.not_false, decide_true, decide_false]
    exact ⟨trivial, trivial⟩)]
  simp -implicitDefEqProofs only [ap_sSeq, seqO_nx, seqO_rt, seqO_exc, ap_sIf, ifO_t, ifO_f, ifO_exc, ap_sNx, ap_sSet, ap_sOwn, ap_sRet, ap_sDrop, ap_sAsg, outB_some, bT_nm, bT_tp, bTs_nil, bTs_cons, ap_sRaise, ap_sPar, parO_ok, ap_sFor, ap_sRetV, retO_own, retO_val, ap_sFrz, frzO_own, frzO_val, ap_sApp, ap_sExt, ap_eV, valO_val, ap_eB, borO_val, borO_own, ap_eC, ap_eOp, opO_ok, ap_eUn, ap_eTup, ap_eLst, tupR_ok, lstR_ok, ap_eCB, ap_eCall, callO_ok, callO_exc, ap_gNot, notR_b, ap_gTru, truR_b, truR_list, ap_gAnd, ap_gOr, andO_t, andO_f, orO_t, orO_f, ap_eAnd, ap_eOr, eandO_t, eandO_f, eorO_t, eorO_f, ap_eNot, enotO_b, enotO_list, ap_eIf, eifO_t, eifO_f, ap_eChain, chO_ok, ap_eIsi, isiO_int, isiO_tup, isiO_lst, isiO_bl, isiO_str, isiO_non, isInt_int, isInt_bl, isInt_tup, isInt_lst, isInt_str, isInt_non, isBool_int, isBool_bl, isTup_tup, isTup_lst, isTup_int, isTup_non, isTup_str, isTup_bl, isLst_lst, isLst_tup, f_add, f_sub, f_neg, f_eqI, f_neI, f_eqB, f_neB, f_lt, f_le, f_gt, f_ge, f_is, f_isNot, isNone_int, isNone_tup, isNone_lst, isNone_non, f_len_l, f_len_t, f_len_rd, f_tup_l, f_tup_t, f_max2, f_min2, f_abs, f_sum_l, f_sum_t, f_ix0, f_ix1, f_ix2, f_ix3, f_rev_t, outR_nx, outR_rt, outR_exc, nones0, nonesS, runB_eq, ap_eSl, optI_none, optI_some, optO_int, ap_sWh, ap_iSeq, items_l, items_t, ap_iRange1, ap_iRange2, wipeE_nil, wipeE_cons, evA_nil, evA_cons, RL.cons_ok, RL.cons_exc, RL.bind_ok, RL.bind_exc, RL.out_ok, RL.out_exc, Rs.bind_ok, Rs.bind_exc, Rs.out_ok, Rs.out_exc, Rs.of_some, Option.bind_some, List.getElem?_cons_zero, List.getElem?_cons_succ, List.set_cons_zero, List.set_cons_succ, List.map_cons, List.map_nil, List.cons_append, List.nil_append, List.length_cons, List.length_nil, Nat.reduceAdd, Nat.reduceSub, Nat.reduceLeDiff, Nat.reduceLT, Bool.not_true, Bool.not_false, decide_true, decide_false]
  unfold shD cutS'
  rw [List.map_map]
  rfl
theorem cut_sh {s : List (List Int)} {h w : Nat} (S : Sh s h w) (x y wide high : Nat) (hw : 1 ≤ wide) (hh : 1 ≤ high) (hxw : x + wide ≤ w) (hyh : y + high ≤ h) : Sh (cutS' s x y wide high) high wide where
  len := by
    unfold cutS'
    rw [List.length_map, List.length_take, List.length_drop, S.len]
    omega
  h1 := hh
  h2 := by have := S.h2; omega
  w1 := hw
  w2 := by have := S.w2; omega
  row := fun r hr => by
    obtain ⟨q, hq, rfl⟩ := List.mem_map.mp hr
    rw [List.length_take, List.length_drop, S.row q (List.mem_of_mem_drop (List.mem_of_mem_take hq))]
    omega
  lev := fun r hr v hv => by
    obtain ⟨q, hq, rfl⟩ := List.mem_map.mp hr
    exact S.lev q (List.mem_of_mem_drop (List.mem_of_mem_take hq)) v (List.mem_of_mem_drop (List.mem_of_mem_take hv))
end VVlaw

set_option Elab.async false
set_option linter.all false
set_option maxRecDepth 100000
set_option maxHeartbeats 4000000
/-! PLe: the law's rows and shots. -/
namespace VVlaw
open PySem PySem.Spec L2 VV
open PyProof.Rows hiding St
theorem law_cell_eq (ns : List Int) (k : Int) (h0 : 0 ≤ k) : sem__law_cell [rdL ns, .int k] = .ok (.int (ns.getD k.toNat 0)) := by
  by_cases h : k < (ns.length : Int)
  · simp -implicitDefEqProofs only [sem__law_cell, b__law_cell, h, f_ix_rd ns k h0 h, ap_sSeq, seqO_nx, seqO_rt, seqO_exc, ap_sIf, ifO_t, ifO_f, ifO_exc, ap_sNx, ap_sSet, ap_sOwn, ap_sRet, ap_sDrop, ap_sAsg, outB_some, bT_nm, bT_tp, bTs_nil, bTs_cons, ap_sRaise, ap_sPar, parO_ok, ap_sFor, ap_sRetV, retO_own, retO_val, ap_sFrz, frzO_own, frzO_val, ap_sApp, ap_sExt, ap_eV, valO_val, ap_eB, borO_val, borO_own, ap_eC, ap_eOp, opO_ok, ap_eUn, ap_eTup, ap_eLst, tupR_ok, lstR_ok, ap_eCB, ap_eCall, callO_ok, callO_exc, ap_gNot, notR_b, ap_gTru, truR_b, truR_list, ap_gAnd, ap_gOr, andO_t, andO_f, orO_t, orO_f, ap_eAnd, ap_eOr, eandO_t, eandO_f, eorO_t, eorO_f, ap_eNot, enotO_b, enotO_list, ap_eIf, eifO_t, eifO_f, ap_eChain, chO_ok, ap_eIsi, isiO_int, isiO_tup, isiO_lst, isiO_bl, isiO_str, isiO_non, isInt_int, isInt_bl, isInt_tup, isInt_lst, isInt_str, isInt_non, isBool_int, isBool_bl, isTup_tup, isTup_lst, isTup_int, isTup_non, isTup_str, isTup_bl, isLst_lst, isLst_tup, f_add, f_sub, f_neg, f_eqI, f_neI, f_eqB, f_neB, f_lt, f_le, f_gt, f_ge, f_is, f_isNot, isNone_int, isNone_tup, isNone_lst, isNone_non, f_len_l, f_len_t, f_len_rd, f_tup_l, f_tup_t, f_max2, f_min2, f_abs, f_sum_l, f_sum_t, f_ix0, f_ix1, f_ix2, f_ix3, f_rev_t, outR_nx, outR_rt, outR_exc, nones0, nonesS, runB_eq, ap_eSl, optI_none, optI_some, optO_int, ap_sWh, ap_iSeq, items_l, items_t, ap_iRange1, ap_iRange2, wipeE_nil, wipeE_cons, evA_nil, evA_cons, RL.cons_ok, RL.cons_exc, RL.bind_ok, RL.bind_exc, RL.out_ok, RL.out_exc, Rs.bind_ok, Rs.bind_exc, Rs.out_ok, Rs.out_exc, Rs.of_some, Option.bind_some, List.getElem?_cons_zero, List.getElem?_cons_succ, List.set_cons_zero, List.set_cons_succ, List.map_cons, List.map_nil, List.cons_append, List.nil_append, List.length_cons, List.length_nil, Nat.reduceAdd, Nat.reduceSub, Nat.reduceLeDiff, Nat.reduceLT, Bool.not_true, Bool.not_false, decide_true, decide_false]
  · have e : ns.getD k.toNat 0 = 0 := by
      rw [List.getD_eq_getElem?_getD, List.getElem?_eq_none (by omega)]
      rfl
    simp -implicitDefEqProofs only [sem__law_cell, b__law_cell, h, e, ap_sSeq, seqO_nx, seqO_rt, seqO_exc, ap_sIf, ifO_t, ifO_f, ifO_exc, ap_sNx, ap_sSet, ap_sOwn, ap_sRet, ap_sDrop, ap_sAsg, outB_some, bT_nm, bT_tp, bTs_nil, bTs_cons, ap_sRaise, ap_sPar, parO_ok, ap_sFor, ap_sRetV, retO_own, retO_val, ap_sFrz, frzO_own, frzO_val, ap_sApp, ap_sExt, ap_eV, valO_val, ap_eB, borO_val, borO_own, ap_eC, ap_eOp, opO_ok, ap_eUn, ap_eTup, ap_eLst, tupR_ok, lstR_ok, ap_eCB, ap_eCall, callO_ok, callO_exc, ap_gNot, notR_b, ap_gTru, truR_b, truR_list, ap_gAnd, ap_gOr, andO_t, andO_f, orO_t, orO_f, ap_eAnd, ap_eOr, eandO_t, eandO_f, eorO_t, eorO_f, ap_eNot, enotO_b, enotO_list, ap_eIf, eifO_t, eifO_f, ap_eChain, chO_ok, ap_eIsi, isiO_int, isiO_tup, isiO_lst, isiO_bl, isiO_str, isiO_non, isInt_int, isInt_bl, isInt_tup, isInt_lst, isInt_str, isInt_non, isBool_int, isBool_bl, isTup_tup, isTup_lst, isTup_int, isTup_non, isTup_str, isTup_bl, isLst_lst, isLst_tup, f_add, f_sub, f_neg, f_eqI, f_neI, f_eqB, f_neB, f_lt, f_le, f_gt, f_ge, f_is, f_isNot, isNone_int, isNone_tup, isNone_lst, isNone_non, f_len_l, f_len_t, f_len_rd, f_tup_l, f_tup_t, f_max2, f_min2, f_abs, f_sum_l, f_sum_t, f_ix0, f_ix1, f_ix2, f_ix3, f_rev_t, outR_nx, outR_rt, outR_exc, nones0, nonesS, runB_eq, ap_eSl, optI_none, optI_some, optO_int, ap_sWh, ap_iSeq, items_l, items_t, ap_iRange1, ap_iRange2, wipeE_nil, wipeE_cons, evA_nil, evA_cons, RL.cons_ok, RL.cons_exc, RL.bind_ok, RL.bind_exc, RL.out_ok, RL.out_exc, Rs.bind_ok, Rs.bind_exc, Rs.out_ok, Rs.out_exc, Rs.of_some, Option.bind_some, List.getElem?_cons_zero, List.getElem?_cons_succ, List.set_cons_zero, List.set_cons_succ, List.map_cons, List.map_nil, List.cons_append, List.nil_append, List.length_cons, List.length_nil, Nat.reduceAdd, Nat.reduceSub, Nat.reduceLeDiff, Nat.reduceLT, Bool.not_true, Bool.not_false, decide_true, decide_false]
theorem pow18 : powF (.int 10) (.int 18) = some (.int 1000000000000000000) := by
  simp [powF]
/-- sixty numbers below a thousand -/
structure Rw (r : List Int) : Prop where
  len : r.length = 60
  bd : ∀ v ∈ r, 0 ≤ v ∧ v < 1000
theorem law_row_eq (ns : List Int) (t : Int) (h0 : 0 ≤ t) : ∃ r, sem__law_row [rdL ns, .int t] = .ok (.list (r.map PyData.int)) ∧ Rw r := by
  simp -implicitDefEqProofs only [sem__law_row, b__law_row, law_cell_eq ns t h0, rng1_ok 60 (by decide) (by decide), ap_sSeq, seqO_nx, seqO_rt, seqO_exc, ap_sIf, ifO_t, ifO_f, ifO_exc, ap_sNx, ap_sSet, ap_sOwn, ap_sRet, ap_sDrop, ap_sAsg, outB_some, bT_nm, bT_tp, bTs_nil, bTs_cons, ap_sRaise, ap_sPar, parO_ok, ap_sFor, ap_sRetV, retO_own, retO_val, ap_sFrz, frzO_own, frzO_val, ap_sApp, ap_sExt, ap_eV, valO_val, ap_eB, borO_val, borO_own, ap_eC, ap_eOp, opO_ok, ap_eUn, ap_eTup, ap_eLst, tupR_ok, lstR_ok, ap_eCB, ap_eCall, callO_ok, callO_exc, ap_gNot, notR_b, ap_gTru, truR_b, truR_list, ap_gAnd, ap_gOr, andO_t, andO_f, orO_t, orO_f, ap_eAnd, ap_eOr, eandO_t, eandO_f, eorO_t, eorO_f, ap_eNot, enotO_b, enotO_list, ap_eIf, eifO_t, eifO_f, ap_eChain, chO_ok, ap_eIsi, isiO_int, isiO_tup, isiO_lst, isiO_bl, isiO_str, isiO_non, isInt_int, isInt_bl, isInt_tup, isInt_lst, isInt_str, isInt_non, isBool_int, isBool_bl, isTup_tup, isTup_lst, isTup_int, isTup_non, isTup_str, isTup_bl, isLst_lst, isLst_tup, f_add, f_sub, f_neg, f_eqI, f_neI, f_eqB, f_neB, f_lt, f_le, f_gt, f_ge, f_is, f_isNot, isNone_int, isNone_tup, isNone_lst, isNone_non, f_len_l, f_len_t, f_len_rd, f_tup_l, f_tup_t, f_max2, f_min2, f_abs, f_sum_l, f_sum_t, f_ix0, f_ix1, f_ix2, f_ix3, f_rev_t, outR_nx, outR_rt, outR_exc, nones0, nonesS, runB_eq, ap_eSl, optI_none, optI_some, optO_int, ap_sWh, ap_iSeq, items_l, items_t, ap_iRange1, ap_iRange2, wipeE_nil, wipeE_cons, evA_nil, evA_cons, RL.cons_ok, RL.cons_exc, RL.bind_ok, RL.bind_exc, RL.out_ok, RL.out_exc, Rs.bind_ok, Rs.bind_exc, Rs.out_ok, Rs.out_exc, Rs.of_some, Option.bind_some, List.getElem?_cons_zero, List.getElem?_cons_succ, List.set_cons_zero, List.set_cons_succ, List.map_cons, List.map_nil, List.cons_append, List.nil_append, List.length_cons, List.length_nil, Nat.reduceAdd, Nat.reduceSub, Nat.reduceLeDiff, Nat.reduceLT, Bool.not_true, Bool.not_false, decide_true, decide_false]
  obtain ⟨ρ', e, P⟩ := forGo_rng (i := 4) (lo := 0) (n := (60 : Int).toNat) (f := lp__law_row_1)
    (fun k ρ => ∃ (c : Int) (L : List Int) (o : Option Sl), ρ = [some (.val (rdL ns)), some (.val (.int t)), some (.val (.int c)), some (.own (.list (L.map PyData.int))), o] ∧ L.length = k ∧ ∀ v ∈ L, 0 ≤ v ∧ v < 1000)
    (ρ := [some (.val (rdL ns)), some (.val (.int t)), some (.val (.int (ns.getD t.toNat 0))), some (.own (.list [])), none]) ⟨_, [], none, rfl, rfl, by simp⟩ (by
      rintro k ρ hk ⟨c, L, o, rfl, hL, hv⟩
      have hk' : k < 60 := hk
      have hlen : (L.map PyData.int).length < 16777216 := by rw [List.length_map]; omega
      have m1 : mulF (.int c) (.int 48271) = some (.int (c * 48271)) := f_mul _ _ (.inr (by decide))
      have m2 : mulF (.int 131) (.int (0 + (k : Int))) = some (.int (131 * (0 + (k : Int)))) := f_mul _ _ (.inl (by decide))
      have hc : sem__law_cell [rdL ns, .int ((t + 1 + (0 + (k : Int))) % 20)] = .ok (.int (ns.getD ((t + 1 + (0 + (k : Int))) % 20).toNat 0)) := law_cell_eq ns _ (by omega)
      by_cases h : ns.getD t.toNat 0 < 1000000000000000000
      · simp -implicitDefEqProofs only [lp__law_row_1, law_cell_eq ns t h0, pow18, h, m1, m2, f_modP _ 20 (by decide), hc, f_modP _ 2147483647 (by decide), f_divP _ 11 (by decide) (by decide), f_modP _ 1000 (by decide), appO_ok _ _ _ _ hlen, ap_sSeq, seqO_nx, seqO_rt, seqO_exc, ap_sIf, ifO_t, ifO_f, ifO_exc, ap_sNx, ap_sSet, ap_sOwn, ap_sRet, ap_sDrop, ap_sAsg, outB_some, bT_nm, bT_tp, bTs_nil, bTs_cons, ap_sRaise, ap_sPar, parO_ok, ap_sFor, ap_sRetV, retO_own, retO_val, ap_sFrz, frzO_own, frzO_val, ap_sApp, ap_sExt, ap_eV, valO_val, ap_eB, borO_val, borO_own, ap_eC, ap_eOp, opO_ok, ap_eUn, ap_eTup, ap_eLst, tupR_ok, lstR_ok, ap_eCB, ap_eCall, callO_ok, callO_exc, ap_gNot, notR_b, ap_gTru, truR_b, truR_list, ap_gAnd, ap_gOr, andO_t, andO_f, orO_t, orO_f, ap_eAnd, ap_eOr, eandO_t, eandO_f, eorO_t, eorO_f, ap_eNot, enotO_b, enotO_list, ap_eIf, eifO_t, eifO_f, ap_eChain, chO_ok, ap_eIsi, isiO_int, isiO_tup, isiO_lst, isiO_bl, isiO_str, isiO_non, isInt_int, isInt_bl, isInt_tup, isInt_lst, isInt_str, isInt_non, isBool_int, isBool_bl, isTup_tup, isTup_lst, isTup_int, isTup_non, isTup_str, isTup_bl, isLst_lst, isLst_tup, f_add, f_sub, f_neg, f_eqI, f_neI, f_eqB, f_neB, f_lt, f_le, f_gt, f_ge, f_is, f_isNot, isNone_int, isNone_tup, isNone_lst, isNone_non, f_len_l, f_len_t, f_len_rd, f_tup_l, f_tup_t, f_max2, f_min2, f_abs, f_sum_l, f_sum_t, f_ix0, f_ix1, f_ix2, f_ix3, f_rev_t, outR_nx, outR_rt, outR_exc, nones0, nonesS, runB_eq, ap_eSl, optI_none, optI_some, optO_int, ap_sWh, ap_iSeq, items_l, items_t, ap_iRange1, ap_iRange2, wipeE_nil, wipeE_cons, evA_nil, evA_cons, RL.cons_ok, RL.cons_exc, RL.bind_ok, RL.bind_exc, RL.out_ok, RL.out_exc, Rs.bind_ok, Rs.bind_exc, Rs.out_ok, Rs.out_exc, Rs.of_some, Option.bind_some, List.getElem?_cons_zero, List.getElem?_cons_succ, List.set_cons_zero, List.set_cons_succ, List.map_cons, List.map_nil, List.cons_append, List.nil_append, List.length_cons, List.length_nil, Nat.reduceAdd, Nat.reduceSub, Nat.reduceLeDiff, Nat.reduceLT, Bool.not_true, Bool.not_false, decide_true, decide_false]
        refine ⟨_, rfl, (c * 48271 + 131 * (0 + (k : Int)) + 7 + ns.getD ((t + 1 + (0 + (k : Int))) % 20).toNat 0) % 2147483647, L ++ [(c * 48271 + 131 * (0 + (k : Int)) + 7 + ns.getD ((t + 1 + (0 + (k : Int))) % 20).toNat 0) % 2147483647 / 11 % 1000], some (.val (.int (0 + (k : Int)))), ?_, by simp [hL], ?_⟩
        · rw [List.map_append]; rfl
        · intro v hv'
          rw [List.mem_append] at hv'
          rcases hv' with hv' | hv'
          · exact hv v hv'
          · simp -implicitDefEqProofs only [List.mem_singleton] at hv'
            subst hv'
            omega
      · simp -implicitDefEqProofs only [lp__law_row_1, law_cell_eq ns t h0, pow18, h, f_divP _ 1000 (by decide) (by decide), f_modP _ 1000 (by decide), appO_ok _ _ _ _ hlen, ap_sSeq, seqO_nx, seqO_rt, seqO_exc, ap_sIf, ifO_t, ifO_f, ifO_exc, ap_sNx, ap_sSet, ap_sOwn, ap_sRet, ap_sDrop, ap_sAsg, outB_some, bT_nm, bT_tp, bTs_nil, bTs_cons, ap_sRaise, ap_sPar, parO_ok, ap_sFor, ap_sRetV, retO_own, retO_val, ap_sFrz, frzO_own, frzO_val, ap_sApp, ap_sExt, ap_eV, valO_val, ap_eB, borO_val, borO_own, ap_eC, ap_eOp, opO_ok, ap_eUn, ap_eTup, ap_eLst, tupR_ok, lstR_ok, ap_eCB, ap_eCall, callO_ok, callO_exc, ap_gNot, notR_b, ap_gTru, truR_b, truR_list, ap_gAnd, ap_gOr, andO_t, andO_f, orO_t, orO_f, ap_eAnd, ap_eOr, eandO_t, eandO_f, eorO_t, eorO_f, ap_eNot, enotO_b, enotO_list, ap_eIf, eifO_t, eifO_f, ap_eChain, chO_ok, ap_eIsi, isiO_int, isiO_tup, isiO_lst, isiO_bl, isiO_str, isiO_non, isInt_int, isInt_bl, isInt_tup, isInt_lst, isInt_str, isInt_non, isBool_int, isBool_bl, isTup_tup, isTup_lst, isTup_int, isTup_non, isTup_str, isTup_bl, isLst_lst, isLst_tup, f_add, f_sub, f_neg, f_eqI, f_neI, f_eqB, f_neB, f_lt, f_le, f_gt, f_ge, f_is, f_isNot, isNone_int, isNone_tup, isNone_lst, isNone_non, f_len_l, f_len_t, f_len_rd, f_tup_l, f_tup_t, f_max2, f_min2, f_abs, f_sum_l, f_sum_t, f_ix0, f_ix1, f_ix2, f_ix3, f_rev_t, outR_nx, outR_rt, outR_exc, nones0, nonesS, runB_eq, ap_eSl, optI_none, optI_some, optO_int, ap_sWh, ap_iSeq, items_l, items_t, ap_iRange1, ap_iRange2, wipeE_nil, wipeE_cons, evA_nil, evA_cons, RL.cons_ok, RL.cons_exc, RL.bind_ok, RL.bind_exc, RL.out_ok, RL.out_exc, Rs.bind_ok, Rs.bind_exc, Rs.out_ok, Rs.out_exc, Rs.of_some, Option.bind_some, List.getElem?_cons_zero, List.getElem?_cons_succ, List.set_cons_zero, List.set_cons_succ, List.map_cons, List.map_nil, List.cons_append, List.nil_append, List.length_cons, List.length_nil, Nat.reduceAdd, Nat.reduceSub, Nat.reduceLeDiff, Nat.reduceLT, Bool.not_true, Bool.not_false, decide_true, decide_false]
        refine ⟨_, rfl, c / 1000, L ++ [c % 1000], some (.val (.int (0 + (k : Int)))), ?_, by simp [hL], ?_⟩
        · rw [List.map_append]; rfl
        · intro v hv'
          rw [List.mem_append] at hv'
          rcases hv' with hv' | hv'
          · exact hv v hv'
          · simp -implicitDefEqProofs only [List.mem_singleton] at hv'
            subst hv'
            omega)
  obtain ⟨c, L, o, rfl, hL, hv⟩ := P
  rw [e]
  simp -implicitDefEqProofs only [ap_sSeq, seqO_nx, seqO_rt, seqO_exc, ap_sIf, ifO_t, ifO_f, ifO_exc, ap_sNx, ap_sSet, ap_sOwn, ap_sRet, ap_sDrop, ap_sAsg, outB_some, bT_nm, bT_tp, bTs_nil, bTs_cons, ap_sRaise, ap_sPar, parO_ok, ap_sFor, ap_sRetV, retO_own, retO_val, ap_sFrz, frzO_own, frzO_val, ap_sApp, ap_sExt, ap_eV, valO_val, ap_eB, borO_val, borO_own, ap_eC, ap_eOp, opO_ok, ap_eUn, ap_eTup, ap_eLst, tupR_ok, lstR_ok, ap_eCB, ap_eCall, callO_ok, callO_exc, ap_gNot, notR_b, ap_gTru, truR_b, truR_list, ap_gAnd, ap_gOr, andO_t, andO_f, orO_t, orO_f, ap_eAnd, ap_eOr, eandO_t, eandO_f, eorO_t, eorO_f, ap_eNot, enotO_b, enotO_list, ap_eIf, eifO_t, eifO_f, ap_eChain, chO_ok, ap_eIsi, isiO_int, isiO_tup, isiO_lst, isiO_bl, isiO_str, isiO_non, isInt_int, isInt_bl, isInt_tup, isInt_lst, isInt_str, isInt_non, isBool_int, isBool_bl, isTup_tup, isTup_lst, isTup_int, isTup_non, isTup_str, isTup_bl, isLst_lst, isLst_tup, f_add, f_sub, f_neg, f_eqI, f_neI, f_eqB, f_neB, f_lt, f_le, f_gt, f_ge, f_is, f_isNot, isNone_int, isNone_tup, isNone_lst, isNone_non, f_len_l, f_len_t, f_len_rd, f_tup_l, f_tup_t, f_max2, f_min2, f_abs, f_sum_l, f_sum_t, f_ix0, f_ix1, f_ix2, f_ix3, f_rev_t, outR_nx, outR_rt, outR_exc, nones0, nonesS, runB_eq, ap_eSl, optI_none, optI_some, optO_int, ap_sWh, ap_iSeq, items_l, items_t, ap_iRange1, ap_iRange2, wipeE_nil, wipeE_cons, evA_nil, evA_cons, RL.cons_ok, RL.cons_exc, RL.bind_ok, RL.bind_exc, RL.out_ok, RL.out_exc, Rs.bind_ok, Rs.bind_exc, Rs.out_ok, Rs.out_exc, Rs.of_some, Option.bind_some, List.getElem?_cons_zero, List.getElem?_cons_succ, List.set_cons_zero, List.set_cons_succ, List.map_cons, List.map_nil, List.cons_append, List.nil_append, List.length_cons, List.length_nil, Nat.reduceAdd, Nat.reduceSub, Nat.reduceLeDiff, Nat.reduceLT, Bool.not_true, Bool.not_false, decide_true, decide_false]
  exact ⟨L, rfl, hL, hv⟩
theorem Rw.at {r : List Int} (R : Rw r) (k : Int) (h0 : 0 ≤ k) (h : k < 60) : ixF (.list (r.map PyData.int)) (.int k) = some (.int (r.getD k.toNat 0)) := f_ix_row r k h0 (by rw [R.len]; exact h)
theorem Rw.bdAt {r : List Int} (R : Rw r) (k : Nat) : 0 ≤ r.getD k 0 ∧ r.getD k 0 < 1000 := by
  rw [List.getD_eq_getElem?_getD]
  by_cases h : k < r.length
  · rw [List.getElem?_eq_getElem h]
    exact R.bd _ (List.getElem_mem h)
  · rw [List.getElem?_eq_none (by omega)]
    exact ⟨by decide, by decide⟩
theorem pick3 (a b c : Int) (k : Int) : ∃ v, ixF (.list [.int a, .int b, .int c]) (.int (k % 3)) = some (.int v) ∧ (v = a ∨ v = b ∨ v = c) := by
  have h : k % 3 = 0 ∨ k % 3 = 1 ∨ k % 3 = 2 := by omega
  rcases h with h | h | h <;> rw [h]
  · exact ⟨a, f_ix_l [.int a, .int b, .int c] 0 (by decide) (by simp), .inl rfl⟩
  · exact ⟨b, f_ix_l [.int a, .int b, .int c] 1 (by decide) (by simp), .inr (.inl rfl)⟩
  · exact ⟨c, f_ix_l [.int a, .int b, .int c] 2 (by decide) (by simp), .inr (.inr rfl)⟩
theorem law_shot_eq {r : List Int} (R : Rw r) (t way : Int) (h0 : 0 ≤ t) : ∃ s h w, sem__law_shot [.list (r.map PyData.int), .int t, .int way] = .ok (shD s) ∧ Sh s h w ∧ h ≤ 5 ∧ w ≤ 5 := by
  have i1 : ixF (.list (r.map PyData.int)) (.int (t % 60)) = some (.int (r.getD (t % 60).toNat 0)) := R.at _ (by omega) (by omega)
  have i2 : ixF (.list (r.map PyData.int)) (.int ((t + 1) % 60)) = some (.int (r.getD ((t + 1) % 60).toNat 0)) := R.at _ (by omega) (by omega)
  have hb1 := R.bdAt (t % 60).toNat
  have hb2 := R.bdAt ((t + 1) % 60).toNat
  generalize hu : r.getD (t % 60).toNat 0 = u at *
  generalize hv : r.getD ((t + 1) % 60).toNat 0 = v at *
  simp -implicitDefEqProofs only [sem__law_shot, b__law_shot, f_modP _ 60 (by decide), i1, i2, f_modP _ 5 (by decide), f_divP _ 5 (by decide) (by decide), rng1_ok (1 + u % 5) (by omega) (by omega), ap_sSeq, seqO_nx, seqO_rt, seqO_exc, ap_sIf, ifO_t, ifO_f, ifO_exc, ap_sNx, ap_sSet, ap_sOwn, ap_sRet, ap_sDrop, ap_sAsg, outB_some, bT_nm, bT_tp, bTs_nil, bTs_cons, ap_sRaise, ap_sPar, parO_ok, ap_sFor, ap_sRetV, retO_own, retO_val, ap_sFrz, frzO_own, frzO_val, ap_sApp, ap_sExt, ap_eV, valO_val, ap_eB, borO_val, borO_own, ap_eC, ap_eOp, opO_ok, ap_eUn, ap_eTup, ap_eLst, tupR_ok, lstR_ok, ap_eCB, ap_eCall, callO_ok, callO_exc, ap_gNot, notR_b, ap_gTru, truR_b, truR_list, ap_gAnd, ap_gOr, andO_t, andO_f, orO_t, orO_f, ap_eAnd, ap_eOr, eandO_t, eandO_f, eorO_t, eorO_f, ap_eNot, enotO_b, enotO_list, ap_eIf, eifO_t, eifO_f, ap_eChain, chO_ok, ap_eIsi, isiO_int, isiO_tup, isiO_lst, isiO_bl, isiO_str, isiO_non, isInt_int, isInt_bl, isInt_tup, isInt_lst, isInt_str, isInt_non, isBool_int, isBool_bl, isTup_tup, isTup_lst, isTup_int, isTup_non, isTup_str, isTup_bl, isLst_lst, isLst_tup, f_add, f_sub, f_neg, f_eqI, f_neI, f_eqB, f_neB, f_lt, f_le, f_gt, f_ge, f_is, f_isNot, isNone_int, isNone_tup, isNone_lst, isNone_non, f_len_l, f_len_t, f_len_rd, f_tup_l, f_tup_t, f_max2, f_min2, f_abs, f_sum_l, f_sum_t, f_ix0, f_ix1, f_ix2, f_ix3, f_rev_t, outR_nx, outR_rt, outR_exc, nones0, nonesS, runB_eq, ap_eSl, optI_none, optI_some, optO_int, ap_sWh, ap_iSeq, items_l, items_t, ap_iRange1, ap_iRange2, wipeE_nil, wipeE_cons, evA_nil, evA_cons, RL.cons_ok, RL.cons_exc, RL.bind_ok, RL.bind_exc, RL.out_ok, RL.out_exc, Rs.bind_ok, Rs.bind_exc, Rs.out_ok, Rs.out_exc, Rs.of_some, Option.bind_some, List.getElem?_cons_zero, List.getElem?_cons_succ, List.set_cons_zero, List.set_cons_succ, List.map_cons, List.map_nil, List.cons_append, List.nil_append, List.length_cons, List.length_nil, Nat.reduceAdd, Nat.reduceSub, Nat.reduceLeDiff, Nat.reduceLT, Bool.not_true, Bool.not_false, decide_true, decide_false]
  obtain ⟨ρ', e, P⟩ := forGo_rng (i := 6) (lo := 0) (n := (1 + u % 5).toNat) (f := lp__law_shot_2)
    (fun k ρ => ∃ (S : List (List Int)) (o6 o7 o8 o9 : Option Sl), ρ = [some (.val (.list (r.map PyData.int))), some (.val (.int t)), some (.val (.int way)), some (.val (.int (1 + u % 5))), some (.val (.int (1 + v / 5 % 5))), some (.own (.list (S.map rowD))), o6, o7, o8, o9] ∧ S.length = k ∧ ∀ q ∈ S, (q.length : Int) = 1 + v / 5 % 5 ∧ ∀ z ∈ q, 0 ≤ z ∧ z ≤ 255)
    (ρ := [some (.val (.list (r.map PyData.int))), some (.val (.int t)), some (.val (.int way)), some (.val (.int (1 + u % 5))), some (.val (.int (1 + v / 5 % 5))), some (.own (.list [])), none, none, none, none]) ⟨[], none, none, none, none, rfl, rfl, by simp⟩ (by
      rintro k ρ hk ⟨S, o6, o7, o8, o9, rfl, hS, hq⟩
      simp -implicitDefEqProofs only [lp__law_shot_2, rng1_ok (1 + v / 5 % 5) (by omega) (by omega), ap_sSeq, seqO_nx, seqO_rt, seqO_exc, ap_sIf, ifO_t, ifO_f, ifO_exc, ap_sNx, ap_sSet, ap_sOwn, ap_sRet, ap_sDrop, ap_sAsg, outB_some, bT_nm, bT_tp, bTs_nil, bTs_cons, ap_sRaise, ap_sPar, parO_ok, ap_sFor, ap_sRetV, retO_own, retO_val, ap_sFrz, frzO_own, frzO_val, ap_sApp, ap_sExt, ap_eV, valO_val, ap_eB, borO_val, borO_own, ap_eC, ap_eOp, opO_ok, ap_eUn, ap_eTup, ap_eLst, tupR_ok, lstR_ok, ap_eCB, ap_eCall, callO_ok, callO_exc, ap_gNot, notR_b, ap_gTru, truR_b, truR_list, ap_gAnd, ap_gOr, andO_t, andO_f, orO_t, orO_f, ap_eAnd, ap_eOr, eandO_t, eandO_f, eorO_t, eorO_f, ap_eNot, enotO_b, enotO_list, ap_eIf, eifO_t, eifO_f, ap_eChain, chO_ok, ap_eIsi, isiO_int, isiO_tup, isiO_lst, isiO_bl, isiO_str, isiO_non, isInt_int, isInt_bl, isInt_tup, isInt_lst, isInt_str, isInt_non, isBool_int, isBool_bl, isTup_tup, isTup_lst, isTup_int, isTup_non, isTup_str, isTup_bl, isLst_lst, isLst_tup, f_add, f_sub, f_neg, f_eqI, f_neI, f_eqB, f_neB, f_lt, f_le, f_gt, f_ge, f_is, f_isNot, isNone_int, isNone_tup, isNone_lst, isNone_non, f_len_l, f_len_t, f_len_rd, f_tup_l, f_tup_t, f_max2, f_min2, f_abs, f_sum_l, f_sum_t, f_ix0, f_ix1, f_ix2, f_ix3, f_rev_t, outR_nx, outR_rt, outR_exc, nones0, nonesS, runB_eq, ap_eSl, optI_none, optI_some, optO_int, ap_sWh, ap_iSeq, items_l, items_t, ap_iRange1, ap_iRange2, wipeE_nil, wipeE_cons, evA_nil, evA_cons, RL.cons_ok, RL.cons_exc, RL.bind_ok, RL.bind_exc, RL.out_ok, RL.out_exc, Rs.bind_ok, Rs.bind_exc, Rs.out_ok, Rs.out_exc, Rs.of_some, Option.bind_some, List.getElem?_cons_zero, List.getElem?_cons_succ, List.set_cons_zero, List.set_cons_succ, List.map_cons, List.map_nil, List.cons_append, List.nil_append, List.length_cons, List.length_nil, Nat.reduceAdd, Nat.reduceSub, Nat.reduceLeDiff, Nat.reduceLT, Bool.not_true, Bool.not_false, decide_true, decide_false]
      obtain ⟨ρ2, e2, P2⟩ := forGo_rng (i := 8) (lo := 0) (n := (1 + v / 5 % 5).toNat) (f := lp__law_shot_1)
        (fun j ρ => ∃ (L : List Int) (o8 o9 : Option Sl), ρ = [some (.val (.list (r.map PyData.int))), some (.val (.int t)), some (.val (.int way)), some (.val (.int (1 + u % 5))), some (.val (.int (1 + v / 5 % 5))), some (.own (.list (S.map rowD))), some (.val (.int (0 + (k : Int)))), some (.own (.list (L.map PyData.int))), o8, o9] ∧ L.length = j ∧ ∀ z ∈ L, 0 ≤ z ∧ z ≤ 255)
        (ρ := [some (.val (.list (r.map PyData.int))), some (.val (.int t)), some (.val (.int way)), some (.val (.int (1 + u % 5))), some (.val (.int (1 + v / 5 % 5))), some (.own (.list (S.map rowD))), some (.val (.int (0 + (k : Int)))), some (.own (.list [])), o8, o9]) ⟨[], o8, o9, rfl, rfl, by simp⟩ (by
          rintro j ρ hj ⟨L, p8, p9, rfl, hL, hz⟩
          have hlen : (L.map PyData.int).length < 16777216 := by rw [List.length_map]; omega
          have m5 : mulF (.int 5) (.int (0 + (k : Int))) = some (.int (5 * (0 + (k : Int)))) := f_mul _ _ (.inl (by decide))
          have i3 : ixF (.list (r.map PyData.int)) (.int ((t + 2 + 5 * (0 + (k : Int)) + (0 + (j : Int))) % 60)) = some (.int (r.getD ((t + 2 + 5 * (0 + (k : Int)) + (0 + (j : Int))) % 60).toNat 0)) := R.at _ (by omega) (by omega)
          have hb3 := R.bdAt ((t + 2 + 5 * (0 + (k : Int)) + (0 + (j : Int))) % 60).toNat
          generalize r.getD ((t + 2 + 5 * (0 + (k : Int)) + (0 + (j : Int))) % 60).toNat 0 = one at i3 hb3
          have m7 : mulF (.int one) (.int 7) = some (.int (one * 7)) := f_mul _ _ (.inr (by decide))
          have m60 : mulF (.int (one % 3)) (.int 60) = some (.int (one % 3 * 60)) := f_mul _ _ (.inr (by decide))
          obtain ⟨val, ev, hval⟩ := pick3 (one * 7 % 256) (one % 3 * 60) (u % 256) way
          simp -implicitDefEqProofs only [lp__law_shot_1, m5, f_modP _ 60 (by decide), i3, m7, f_modP _ 256 (by decide), f_modP _ 3 (by decide), m60, i1, ev, appO_ok _ _ _ _ hlen, ap_sSeq, seqO_nx, seqO_rt, seqO_exc, ap_sIf, ifO_t, ifO_f, ifO_exc, ap_sNx, ap_sSet, ap_sOwn, ap_sRet, ap_sDrop, ap_sAsg, outB_some, bT_nm, bT_tp, bTs_nil, bTs_cons, ap_sRaise, ap_sPar, parO_ok, ap_sFor, ap_sRetV, retO_own, retO_val, ap_sFrz, frzO_own, frzO_val, ap_sApp, ap_sExt, ap_eV, valO_val, ap_eB, borO_val, borO_own, ap_eC, ap_eOp, opO_ok, ap_eUn, ap_eTup, ap_eLst, tupR_ok, lstR_ok, ap_eCB, ap_eCall, callO_ok, callO_exc, ap_gNot, notR_b, ap_gTru, truR_b, truR_list, ap_gAnd, ap_gOr, andO_t, andO_f, orO_t, orO_f, ap_eAnd, ap_eOr, eandO_t, eandO_f, eorO_t, eorO_f, ap_eNot, enotO_b, enotO_list, ap_eIf, eifO_t, eifO_f, ap_eChain, chO_ok, ap_eIsi, isiO_int, isiO_tup, isiO_lst, isiO_bl, isiO_str, isiO_non, isInt_int, isInt_bl, isInt_tup, isInt_lst, isInt_str, isInt_non, isBool_int, isBool_bl, isTup_tup, isTup_lst, isTup_int, isTup_non, isTup_str, isTup_bl, isLst_lst, isLst_tup, f_add, f_sub, f_neg, f_eqI, f_neI, f_eqB, f_neB, f_lt, f_le, f_gt, f_ge, f_is, f_isNot, isNone_int, isNone_tup, isNone_lst, isNone_non, f_len_l, f_len_t, f_len_rd, f_tup_l, f_tup_t, f_max2, f_min2, f_abs, f_sum_l, f_sum_t, f_ix0, f_ix1, f_ix2, f_ix3, f_rev_t, outR_nx, outR_rt, outR_exc, nones0, nonesS, runB_eq, ap_eSl, optI_none, optI_some, optO_int, ap_sWh, ap_iSeq, items_l, items_t, ap_iRange1, ap_iRange2, wipeE_nil, wipeE_cons, evA_nil, evA_cons, RL.cons_ok, RL.cons_exc, RL.bind_ok, RL.bind_exc, RL.out_ok, RL.out_exc, Rs.bind_ok, Rs.bind_exc, Rs.out_ok, Rs.out_exc, Rs.of_some, Option.bind_some, List.getElem?_cons_zero, List.getElem?_cons_succ, List.set_cons_zero, List.set_cons_succ, List.map_cons, List.map_nil, List.cons_append, List.nil_append, List.length_cons, List.length_nil, Nat.reduceAdd, Nat.reduceSub, Nat.reduceLeDiff, Nat.reduceLT, Bool.not_true, Bool.not_false, decide_true, decide_false]
          refine ⟨_, rfl, L ++ [val], some (.val (.int (0 + (j : Int)))), some (.val (.int one)), ?_, by simp [hL], ?_⟩
          · rw [List.map_append]; rfl
          · intro z hz'
            rw [List.mem_append] at hz'
            rcases hz' with hz' | hz'
            · exact hz z hz'
            · simp -implicitDefEqProofs only [List.mem_singleton] at hz'
              subst hz'
              rcases hval with rfl | rfl | rfl <;> omega)
      obtain ⟨L, p8, p9, rfl, hL, hz⟩ := P2
      have hlen : (S.map rowD).length < 16777216 := by rw [List.length_map]; omega
      rw [e2]
      simp -implicitDefEqProofs only [appO_ok _ _ _ _ hlen, ap_sSeq, seqO_nx, seqO_rt, seqO_exc, ap_sIf, ifO_t, ifO_f, ifO_exc, ap_sNx, ap_sSet, ap_sOwn, ap_sRet, ap_sDrop, ap_sAsg, outB_some, bT_nm, bT_tp, bTs_nil, bTs_cons, ap_sRaise, ap_sPar, parO_ok, ap_sFor, ap_sRetV, retO_own, retO_val, ap_sFrz, frzO_own, frzO_val, ap_sApp, ap_sExt, ap_eV, valO_val, ap_eB, borO_val, borO_own, ap_eC, ap_eOp, opO_ok, ap_eUn, ap_eTup, ap_eLst, tupR_ok, lstR_ok, ap_eCB, ap_eCall, callO_ok, callO_exc, ap_gNot, notR_b, ap_gTru, truR_b, truR_list, ap_gAnd, ap_gOr, andO_t, andO_f, orO_t, orO_f, ap_eAnd, ap_eOr, eandO_t, eandO_f, eorO_t, eorO_f, ap_eNot, enotO_b, enotO_list, ap_eIf, eifO_t, eifO_f, ap_eChain, chO_ok, ap_eIsi, isiO_int, isiO_tup, isiO_lst, isiO_bl, isiO_str, isiO_non, isInt_int, isInt_bl, isInt_tup, isInt_lst, isInt_str, isInt_non, isBool_int, isBool_bl, isTup_tup, isTup_lst, isTup_int, isTup_non, isTup_str, isTup_bl, isLst_lst, isLst_tup, f_add, f_sub, f_neg, f_eqI, f_neI, f_eqB, f_neB, f_lt, f_le, f_gt, f_ge, f_is, f_isNot, isNone_int, isNone_tup, isNone_lst, isNone_non, f_len_l, f_len_t, f_len_rd, f_tup_l, f_tup_t, f_max2, f_min2, f_abs, f_sum_l, f_sum_t, f_ix0, f_ix1, f_ix2, f_ix3, f_rev_t, outR_nx, outR_rt, outR_exc, nones0, nonesS, runB_eq, ap_eSl, optI_none, optI_some, optO_int, ap_sWh, ap_iSeq, items_l, items_t, ap_iRange1, ap_iRange2, wipeE_nil, wipeE_cons, evA_nil, evA_cons, RL.cons_ok, RL.cons_exc, RL.bind_ok, RL.bind_exc, RL.out_ok, RL.out_exc, Rs.bind_ok, Rs.bind_exc, Rs.out_ok, Rs.out_exc, Rs.of_some, Option.bind_some, List.getElem?_cons_zero, List.getElem?_cons_succ, List.set_cons_zero, List.set_cons_succ, List.map_cons, List.map_nil, List.cons_append, List.nil_append, List.length_cons, List.length_nil, Nat.reduceAdd, Nat.reduceSub, Nat.reduceLeDiff, Nat.reduceLT, Bool.not_true, Bool.not_false, decide_true, decide_false]
      refine ⟨_, rfl, S ++ [L], some (.val (.int (0 + (k : Int)))), some (.own (.list (L.map PyData.int))), p8, p9, ?_, by simp [hS], ?_⟩
      · rw [List.map_append]; rfl
      · intro q hq'
        rw [List.mem_append] at hq'
        rcases hq' with hq' | hq'
        · exact hq q hq'
        · simp -implicitDefEqProofs only [List.mem_singleton] at hq'
          subst hq'
          exact ⟨by omega, hz⟩)
  obtain ⟨S, o6, o7, o8, o9, rfl, hS, hq⟩ := P
  rw [e]
  simp -implicitDefEqProofs only [ap_sSeq, seqO_nx, seqO_rt, seqO_exc, ap_sIf, ifO_t, ifO_f, ifO_exc, ap_sNx, ap_sSet, ap_sOwn, ap_sRet, ap_sDrop, ap_sAsg, outB_some, bT_nm, bT_tp, bTs_nil, bTs_cons, ap_sRaise, ap_sPar, parO_ok, ap_sFor, ap_sRetV, retO_own, retO_val, ap_sFrz, frzO_own, frzO_val, ap_sApp, ap_sExt, ap_eV, valO_val, ap_eB, borO_val, borO_own, ap_eC, ap_eOp, opO_ok, ap_eUn, ap_eTup, ap_eLst, tupR_ok, lstR_ok, ap_eCB, ap_eCall, callO_ok, callO_exc, ap_gNot, notR_b, ap_gTru, truR_b, truR_list, ap_gAnd, ap_gOr, andO_t, andO_f, orO_t, orO_f, ap_eAnd, ap_eOr, eandO_t, eandO_f, eorO_t, eorO_f, ap_eNot, enotO_b, enotO_list, ap_eIf, eifO_t, eifO_f, ap_eChain, chO_ok, ap_eIsi, isiO_int, isiO_tup, isiO_lst, isiO_bl, isiO_str, isiO_non, isInt_int, isInt_bl, isInt_tup, isInt_lst, isInt_str, isInt_non, isBool_int, isBool_bl, isTup_tup, isTup_lst, isTup_int, isTup_non, isTup_str, isTup_bl, isLst_lst, isLst_tup, f_add, f_sub, f_neg, f_eqI, f_neI, f_eqB, f_neB, f_lt, f_le, f_gt, f_ge, f_is, f_isNot, isNone_int, isNone_tup, isNone_lst, isNone_non, f_len_l, f_len_t, f_len_rd, f_tup_l, f_tup_t, f_max2, f_min2, f_abs, f_sum_l, f_sum_t, f_ix0, f_ix1, f_ix2, f_ix3, f_rev_t, outR_nx, outR_rt, outR_exc, nones0, nonesS, runB_eq, ap_eSl, optI_none, optI_some, optO_int, ap_sWh, ap_iSeq, items_l, items_t, ap_iRange1, ap_iRange2, wipeE_nil, wipeE_cons, evA_nil, evA_cons, RL.cons_ok, RL.cons_exc, RL.bind_ok, RL.bind_exc, RL.out_ok, RL.out_exc, Rs.bind_ok, Rs.bind_exc, Rs.out_ok, Rs.out_exc, Rs.of_some, Option.bind_some, List.getElem?_cons_zero, List.getElem?_cons_succ, List.set_cons_zero, List.set_cons_succ, List.map_cons, List.map_nil, List.cons_append, List.nil_append, List.length_cons, List.length_nil, Nat.reduceAdd, Nat.reduceSub, Nat.reduceLeDiff, Nat.reduceLT, Bool.not_true, Bool.not_false, decide_true, decide_false]
  exact ⟨S, (1 + u % 5).toNat, (1 + v / 5 % 5).toNat, rfl, ⟨hS, by omega, by omega, by omega, by omega, fun q h => by have := (hq q h).1; omega, fun q h => (hq q h).2⟩, by omega, by omega⟩
end VVlaw

set_option Elab.async false
set_option linter.all false
set_option maxRecDepth 100000
set_option maxHeartbeats 4000000
/-! VVm: try, except; what an except clause's suite says of its exception. -/
namespace VV
open PySem PySem.Spec L2
open PyProof.Rows hiding St

/-! ### expressions of a suite whose exception lies in slot i, at a -/
def tU (K : PySem.W.Frag) (a : Addr) (i : Nat) (f : EF) : TE := fun σ H Q => σ[i]? = some (some (.ref a)) ∧ ∃ L ρ, RE K H L ρ σ ∧ Post K WF L σ H (f ρ) Q
def tUT (K : PySem.W.Frag) (a : Addr) (i : Nat) (f : EF) : TT := fun σ H Q => σ[i]? = some (some (.ref a)) ∧ ∃ L ρ, RE K H L ρ σ ∧ PostT K WF L σ H (f ρ) Q
abbrev SU (X : Cx) (a : Addr) (i : Nat) (e : Expr) (f : EF) : Prop := PE X e (tU X.K a i f)
abbrev SUT (X : Cx) (a : Addr) (i : Nat) (e : Expr) (f : EF) : Prop := PT X e (tUT X.K a i f)
abbrev SUW (X : Cx) (a : Addr) (i : Nat) (e : Expr) (f : EF) : Prop := PW X e (tUT X.K a i f)
section
variable {X : Cx} {a : Addr} {i : Nat} {e b c : Expr} {rest : List Expr} {f g h : EF} {pos : Pos}
theorem su_e (h : SE X WF e f) : SU X a i e f := L2.PE.weak h fun σ H Q ⟨_, z⟩ => z
theorem su_one {op} (h : SU X a i e f) : SU X a i (.BoolOp op [e] pos) f := pe_one h
theorem su_and (ha : SU X a i e f) (hb : SU X a i (.BoolOp .And (b :: rest) pos) g) : SU X a i (.BoolOp .And (e :: b :: rest) pos) (eAnd f g) := (pe_andT ha hb).weak fun σ H Q ⟨hσ, L, ρ, re, p⟩ =>
  ⟨hσ, L, ρ, re, p.stepE fun d H1 v s1 r p1 => by
    cases e : tru d with
    | none => simp only [e] at p1; exact p1.elim
    | some k =>
      simp only [e] at p1
      refine ⟨k, r.rb.tru e, ?_⟩
      cases k with
      | true => rw [if_pos rfl]; exact ⟨hσ, L, ρ, re.mono s1, p1⟩
      | false => rw [if_neg Bool.false_ne_true]; exact p1 H1 v (Same.refl H1) r⟩
theorem su_not (ha : SU X a i e f) : SU X a i (.UnaryOp .Not e pos) (eNot f) := (pe_notT ha).weak fun σ H Q ⟨hσ, L, ρ, re, p⟩ =>
  ⟨hσ, L, ρ, re, p.stepE fun d H1 v s1 r p1 => by
    cases e : tru d with
    | none => simp only [e] at p1; exact p1.elim
    | some k => simp only [e] at p1; exact ⟨k, r.rb.tru e, p1 H1 _ (Same.refl H1) (.bl _)⟩⟩
theorem sut_tru (ha : SU X a i e f) (he : ∀ whole, isTrue e X.env whole = (do let v ← whole; standAt e.pos; holding [v] (truthy v)) := by intro _; rfl) : SUT X a i e (gTru f) := (pt_truth ha he).weak fun σ H Q ⟨hσ, L, ρ, re, p⟩ => by
  refine ⟨hσ, L, ρ, re, ?_⟩
  unfold gTru at p
  cases hf : f ρ with
  | bad => rw [hf] at p; exact p
  | exc c fs => rw [hf] at p; exact p
  | ok d =>
    rw [hf] at p
    simp only [Rs.bind_ok] at p
    intro H1 v s1 r
    have p1 := p.mono s1
    unfold truR at p1
    cases e : tru d with
    | none => simp only [e] at p1; exact p1.elim
    | some k => simp only [e] at p1; exact ⟨k, r.rb.tru e, p1 H1 (Same.refl H1)⟩
theorem sut_not (ha : SUT X a i e f) : SUT X a i (.UnaryOp .Not e pos) (gNot f) := (pt_not ha).weak fun σ H Q ⟨hσ, L, ρ, re, p⟩ =>
  ⟨hσ, L, ρ, re, p.stepT notR_bad fun b H1 s1 p1 => p1 H1 (Same.refl H1)⟩
theorem suw_and1 (ha : SUT X a i e f) : SUW X a i (.BoolOp .And [e] pos) f := pw_and1 ha
theorem suw_and (ha : SUT X a i e f) (hb : SUW X a i (.BoolOp .And (b :: rest) pos) g) : SUW X a i (.BoolOp .And (e :: b :: rest) pos) (gAnd f g) := (pw_and ha hb).weak fun σ H Q ⟨hσ, L, ρ, re, p⟩ =>
  ⟨hσ, L, ρ, re, p.stepT andR_bad fun b H1 s1 p1 => by
    cases b with
    | true => rw [if_pos rfl]; exact ⟨hσ, L, ρ, re.mono s1, p1⟩
    | false => rw [if_neg Bool.false_ne_true]; exact p1 H1 (Same.refl H1)⟩
theorem sut_w (h : SUW X a i e f) : SUT X a i e f := PW.pt h
theorem su_if (hc : SUT X a i c h) (ha : SU X a i e f) (hb : SU X a i b g) : SU X a i (.IfExp c e b pos) (eIf h f g) := (pe_ifExp hc ha hb).weak fun σ H Q ⟨hσ, L, ρ, re, p⟩ => by
  refine ⟨hσ, L, ρ, re, ?_⟩
  unfold eIf at p
  cases hr : h ρ with
  | bad => rw [hr] at p; exact p
  | exc c fs => rw [hr] at p; exact p
  | ok d =>
    rw [hr] at p
    cases d with
    | bool k =>
      intro H1 s1
      have p1 := p.mono s1
      cases k with
      | true => rw [if_pos rfl]; exact ⟨hσ, L, ρ, re.mono s1, p1⟩
      | false => rw [if_neg Bool.false_ne_true]; exact ⟨hσ, L, ρ, re.mono s1, p1⟩
    | _ => exact p
end
/-- isinstance(e, T) -/
theorem su_isi {X : Cx} {a D : Addr} {i : Nat} {oe : Obj} {pn : List (Addr × Obj)} {x T : Str} {C : Addr} {b : Bool} {p p1 p2 pos : Pos} (c : ExcC X.K D) (hz : Zc (.ref D) none oe) (hf : ∃ vs, oe.data = .fields vs) (hm : X.mg "isinstance" = none) (hT : X.mg T = some (.ref C))
    (hk : PySem.W.kitOne X.K (.ref D) (.ref C) = some b) (hN : X.N[i]? = some x := by rfl) (hv : Vis X.env.scope x := by first | exact Or.inl rfl | exact Or.inr (Or.inl rfl) | exact Or.inr (Or.inr rfl)) (hd : (x == ("__debug__" : Str)) = false := by decide) (hcd : (x == ("__classdict__" : Str)) = false := by decide)
    (hg : Gl X "isinstance" := by rfl) (hgT : Gl X T := by rfl) (hdT : (T == ("__debug__" : Str)) = false := by decide)
    (he : starEach [.Name x p1, .Name T p2] X.env = (false, eval (.Name x p1) X.env) :: starEach [.Name T p2] X.env := by rfl) (he2 : starEach [.Name T p2] X.env = (false, eval (.Name T p2) X.env) :: starEach [] X.env := by rfl) (hpl : (backTo pos (starEach [.Name T p2] X.env)).any (·.1) = false := by rfl) :
    SU (X.suite a ((a, oe) :: pn)) a i (.Call (.Name "isinstance" p) [.Name x p1, .Name T p2] [] pos) (eC (.bool b)) := by
  have h1 : PE (X.suite a ((a, oe) :: pn)) (.Name x p1) _ := pe_var (X := X.suite a ((a, oe) :: pn)) hN hv hd hcd
  have h2 : PE (X.suite a ((a, oe) :: pn)) (.Name T p2) _ := pe_glob (X := X.suite a ((a, oe) :: pn)) (v := .ref C) hgT hT rfl hdT
  refine (pe_callB (X := X.suite a ((a, oe) :: pn)) (call_isE c hz hf) hg hm (by decide +kernel) (pa_cons h1 (pa_cons h2 pa_nil he2) he) (by decide) (by decide) he hpl).weak fun σ H Q ⟨hσ, L, ρ, re, q⟩ => ?_
  exact ⟨.ref a, hσ, .ref C, .ref C, b, rfl, fun u r => r, hk, q H _ (Same.refl H) (.bl b)⟩
/-! ### statements of a suite -/
def tSU (K : PySem.W.Frag) (H0 : Hp) (Lo : Ad) (a : Addr) (i : Nat) (f : SF) : TS := fun D σ H => σ[i]? = some (some (.ref a)) ∧ ∃ ρ α, RSt K H0 Lo ρ α σ H ∧ PostS K H0 Lo WF H α (f ρ) D
abbrev SUs (X : Cx) (a : Addr) (i : Nat) (sts : List Stmt) (f : SF) : Prop := ∀ (H0 : Hp) (Lo : Ad), PSs X sts (tSU X.K H0 Lo a i f)
section
variable {X : Cx} {a : Addr} {i j : Nat} {e : Expr} {f : SF} {ef : EF} {pos : Pos} {sts : List Stmt}
theorem us_s (h : SSs X WF sts f) : SUs X a i sts f := fun H0 Lo => (h H0 Lo).weak fun D σ H ⟨_, z⟩ => z
theorem us_ret (he : SU X a i e ef) : SUs X a i [.Return (some e) pos] (sRet ef) := fun H0 Lo => (pss_one (ps_ret he)).weak fun D σ H ⟨hσ, ρ, α, rst, p⟩ =>
  ⟨hσ, _, ρ, rst.re, p.expr rst fun d H1 v s r rst1 p1 => p1 H1 v rst1.same (r.lives fun z q => .inl (.inl q))⟩
theorem us_app (j : Nat) {x : Str} {p apos cpos : Pos} (he : SU X a i e ef) (hN : X.N[j]? = some x := by rfl) (hv : Vis X.env.scope x := by first | exact Or.inl rfl | exact Or.inr (Or.inl rfl) | exact Or.inr (Or.inr rfl)) (hd : (x == ("__debug__" : Str)) = false := by decide)
    (hcd : (x == ("__classdict__" : Str)) = false := by decide) (hbase : attributeBase (.Name x p) "append" X.env (eval (.Name x p) X.env) = eval (.Name x p) X.env := by rfl)
    (hfew : ((backTo cpos (starEach (e :: []) X.env)).all (fun x => !x.1) && (backToKw cpos (keywordEach [] X.env)).all (fun x => x.1.isSome) && decide ((e :: []).length + ([] : List Keyword).length + (if ([] : List Keyword).isEmpty then 0 else 1) < 30)) = true := by rfl)
    (hline : (apos.endLine == cpos.line) = true := by rfl) (hs : starEach (e :: []) X.env = (false, eval e X.env) :: starEach [] X.env := by rfl) (hplain : (backTo cpos (starEach [] X.env)).any (·.1) = false := by rfl) :
    SUs X a i [.Expr (.Call (.Attribute (.Name x p) "append" apos) [e] [] cpos) pos] (sApp j ef) := fun H0 Lo =>
  (pss_one (ps_expr (pe_bm PySem.F.plainAttrs_list PySem.F.slot_list_append PySem.F.type_list_append mt_append (pe_var hN hv hd hcd) (pa_cons he pa_nil hs) hbase hfew hline hs hplain))).weak fun D σ H ⟨hσ, ρ, α, rst, p⟩ => by
  obtain ⟨ds, l, vs, h1, h2, h3, rl, p, hL⟩ := PostS.ownL rst p
  refine ⟨.ref l, h2, .inl ⟨rfl, vs, SqL.of h3⟩, hσ, _, ρ, rst.re, p.expr rst fun d H1 v s r rst1 p1 => ?_⟩
  split at p1
  · rename_i hz
    rw [rl.length] at hz
    refine ⟨l, vs, v, rfl, rfl, s _ _ h3, hz, ?_⟩
    have ow : Ow X.K (L2.upd H1 l (.lst (vs ++ [v]))) (Lv Lo α) (.list (ds ++ [d])) l := .lst upd_same (RpL.upd (s _ _ h3) trivial hL ((rl.mono s).append (.cons r .nil)))
    obtain ⟨q1, q2⟩ := rst1.write h1 h2 ow
    exact p1 _ _ _ q1 q2
  · exact p1.elim
end
/-! ### try -/
def Out.clr (i : Nat) : Out → Out
  | .nx ρ => .nx (ρ.set i none)
  | .rt d => .rt d
  | .bk ρ => .bk (ρ.set i none)
  | .ct ρ => .ct (ρ.set i none)
  | _ => .bad
/-- try: fb; except C as (slot i): fh. sub: what the class of the exception says of C -/
def sTryAs (i : Nat) (sub : Str → Option Bool) (fb : SF) (fh : Str → SF) : SF := fun ρ => match fb ρ with
  | .exc c fs ρ' => (match sub c with
    | some true => (match fs with
      | [] => (match ρ'[i]? with
        | some _ => Out.clr i (fh c (ρ'.set i none))
        | none => .bad)
      | _ => .bad)
    | some false => .exc c fs ρ'
    | none => .bad)
  | o => o
theorem RE.clr {K : PySem.W.Frag} {H : Hp} {L : Ad} {ρ : En} {σ : St} (i : Nat) (o : Option V) (re : RE K H L ρ σ) : RE K H L (ρ.set i none) (σ.set i o) := by
  have hl := re.len
  refine ⟨re.lv, by simp [hl], fun j x e => ?_⟩
  by_cases hj : i = j
  · subst hj
    by_cases hi : i < ρ.length
    · rw [List.getElem?_set_self hi] at e; cases e
    · rw [List.getElem?_eq_none (by simpa using hi)] at e; cases e
  · rw [List.getElem?_set_ne hj] at e
    obtain ⟨w, e1, r⟩ := re.sl j x e
    exact ⟨w, by rw [List.getElem?_set_ne hj]; exact e1, r⟩
theorem RSt.clr {K : PySem.W.Frag} {H0 H : Hp} {Lo : Ad} {ρ : En} {α : Nat → Option Addr} {σ : St} (i : Nat) (o : Option V) (h : RSt K H0 Lo ρ α σ H) : RSt K H0 Lo (ρ.set i none) (VV.rms α [i]) (σ.set i o) H := by
  refine h.ch (h.re.clr i o) ⟨by simp, by simp, fun j hj => ?_, fun j hj => ?_, fun j hj d' z => ?_⟩
  · exact List.getElem?_set_ne (fun e => hj (by simp [e]))
  · exact List.getElem?_set_ne (fun e => hj (by simp [e]))
  · have e : j = i := by simpa using hj
    subst e
    by_cases hi : j < ρ.length
    · rw [List.getElem?_set_self hi] at z
      cases z
    · rw [List.getElem?_eq_none (by simpa using hi)] at z
      cases z
section
variable {X : Cx} {W : WX} {x n : Str} {i : Nat} {body suite : List Stmt} {b₀ : Stmt} {np pos pos' : Pos} {fb : SF} {fh : Str → SF} {sub : Str → Option Bool}
theorem ss_tryAs (hN : X.N.Nodup) (tk : Takes X W) (hc : X.mg x = some (.ref (He.ga X.K x))) (hsub : ∀ c b, sub c = some b → PySem.W.exmOne X.K (.ref (He.ga X.K c)) (.ref (He.ga X.K x)) = some b)
    (hb : ∀ (W : WX) (pn : List (Addr × Obj)) (xe : Value → Shared → Prop), Takes (X.tr pn xe) W → PassesOwn (model X.prog X.w) X.A X.env xe → SSs (X.tr pn xe) W body fb)
    (hsu : ∀ (c : Str) (a : Addr) (oe : Obj) (pn : List (Addr × Obj)), sub c = some true → Zc (.ref (He.ga X.K c)) none oe → (∃ vs, oe.data = .fields vs) → SUs (X.suite a ((a, oe) :: pn)) a i (b₀ :: suite) (fh c))
    (hi : X.N[i]? = some n := by rfl) (hln : X.env.kindOf n = some .local := by rfl) (hg : Gl X x := by rfl) (hdb : (x == ("__debug__" : Str)) = false := by decide) (hs : X.stack = X.env :: X.outer := by rfl) (hf : X.env.frame = some X.env.locals := by rfl) :
    SS X W (.Try body [.ExceptHandler (some (.Name x np)) (some n) (b₀ :: suite) pos'] [] [] pos) (sTryAs i sub fb fh) := fun H0 Lo => by
  refine (ps_try_as (tb := fun W => tS X.K H0 Lo W fb) (ts := fun a cls d D σ H => ∃ c, cls = .ref (He.ga X.K c) ∧ sub c = some true ∧ d = none ∧ tSU X.K H0 Lo a i (fh c) D σ H) hs hf hN hi hln ⟨hg, hdb, .inl hc⟩ tk (fun W pn xe tk' hp => hb W pn xe tk' hp H0 Lo) ?_).weak fun D σ H ⟨ρ, α, rst, p⟩ => ⟨ρ, α, rst, ?_⟩
  · intro a oe cls d pn hz hfs
    refine ⟨fun pins s σ H D I ⟨c, ec, hsc, ed, q⟩ => ?_⟩
    subst ec ed
    exact (hsu c a oe pn hsc hz hfs H0 Lo).run pins s σ H D I q
  · have hlen : σ.length = X.N.length ∨ True := .inr trivial
    unfold sTryAs at p
    cases hfb : fb ρ with
    | nx ρ' => rw [hfb] at p; exact p
    | rt d => rw [hfb] at p; exact p
    | bk ρ' => rw [hfb] at p; exact p
    | ct ρ' => rw [hfb] at p; exact p
    | bad => rw [hfb] at p; exact p
    | exc c fs ρ' =>
      rw [hfb] at p
      intro α' σ' H' xo rst' ev xr
      cases hsc : sub c with
      | none => simp only [hsc] at p; exact p.elim
      | some b =>
        simp only [hsc] at p
        refine ⟨b, hsub c b hsc, fun hbt a ha => ?_, fun hbf => ?_⟩
        · subst hbt
          cases fs with
          | cons q fs => exact p.elim
          | nil =>
            dsimp only at p
            cases hri : ρ'[i]? with
            | none => rw [hri] at p; exact p.elim
            | some zz =>
            rw [hri] at p
            dsimp only at p
            have hlt : i < σ'.length := by
              rw [← rst'.re.len]
              rcases Nat.lt_or_ge i ρ'.length with q | q
              · exact q
              · rw [List.getElem?_eq_none q] at hri; cases hri
            have ex : xo = none := by
              rcases xr with ⟨_, e⟩ | ⟨_, _, ne, _⟩
              · exact e
              · exact absurd rfl ne
            subst ex
            refine ⟨c, rfl, hsc, rfl, ?_, ρ'.set i none, _, rst'.clr i (some (.ref a)), ?_⟩
            · exact List.getElem?_set_self hlt
            · have ev' : Evo X.K Lo H α H' (VV.rms α' [i]) := ev.trans (Evo.rms [i])
              cases hfh : fh c (ρ'.set i none) with
              | nx ρ2 =>
                rw [hfh] at p
                intro α2 σ2 H2 r2 e2
                exact p _ _ _ (r2.clr i none) (ev'.trans (e2.trans (Evo.rms [i])))
              | rt d => rw [hfh] at p; exact p
              | bk ρ2 =>
                rw [hfh] at p
                intro α2 σ2 H2 r2 e2
                exact p _ _ _ (r2.clr i none) (ev'.trans (e2.trans (Evo.rms [i])))
              | ct ρ2 =>
                rw [hfh] at p
                intro α2 σ2 H2 r2 e2
                exact p _ _ _ (r2.clr i none) (ev'.trans (e2.trans (Evo.rms [i])))
              | exc c2 fs2 ρ2 => rw [hfh] at p; exact p.elim
              | bad => rw [hfh] at p; exact p.elim
        · subst hbf
          exact p α' σ' H' xo rst' ev xr
end
end VV

set_option Elab.async false
set_option linter.all false
set_option maxRecDepth 100000
set_option maxHeartbeats 4000000
/-! VVn: the head's facts with what isinstance asks of error classes; an except clause without a name. -/
namespace VV
open PySem PySem.Spec L2
open PyProof.Rows hiding St
def excB (K : PySem.W.Frag) (x : Str) : Bool :=
  He.eqO (PySem.W.findIn K (.ref (He.ga K x)) "__getattribute__") (some (some (.builtin "BaseException.__getattribute__"))) && (He.eqO (PySem.W.findIn K (.ref (He.ga K x)) "__getattr__") (some none) &&
    (decide (PySem.W.subIn K (.ref (He.ga K x)) (.type "BaseException") = some true) && (PySem.W.hasDictIn K (He.ga K x) && (He.eqO (PySem.W.findIn K (.ref (He.ga K x)) "__class__") (some (some (.builtin "object.__class__"))) &&
      (He.eqO (PySem.W.specialIn K (.builtin "object.__class__") "__get__") (some (some (.builtin "getset_descriptor.__get__"))) && (decide (PySem.W.takesIn K (.builtin "object.__class__") = some true) && decide (PySem.W.mroIn K (He.ga K x) (.type "object") = some true)))))))
theorem excB_ok {K : PySem.W.Frag} {x : Str} (h : excB K x = true) : ExcC K (He.ga K x) := by
  unfold excB at h
  obtain ⟨h1, h2, h3, h4, h5, h6, h7, h8⟩ := by simpa only [Bool.and_eq_true] using h
  exact ⟨He.eqO_ok h1, He.eqO_ok h2, of_decide_eq_true h3, h4, He.eqO_ok h5, He.eqO_ok h6, of_decide_eq_true h7, of_decide_eq_true h8⟩
theorem kit_of {K : PySem.W.Frag} {a b : Addr} {v : Bool} (h : PySem.W.exmOne K (.ref a) (.ref b) = some v) (h0 : PySem.W.exmOne K (.ref a) (.ref a) = some true) : PySem.W.kitOne K (.ref a) (.ref b) = some v := by
  unfold PySem.W.kitOne
  by_cases e : ((Value.ref a) == (Value.ref b)) = true
  · have e2 : a = b := Value.ref.inj (beq_iff_eq.mp e)
    subst e2
    rw [h0] at h
    rw [if_pos e, h]
  · rw [if_neg e]
    unfold PySem.W.exmOne at h
    split at h
    · exact h
    · cases h
abbrev AlV : Type := He.AlD × Bool
def obsVG (n : Nat) (fa : List He.Fa) (fn : List He.DefD) (xs : List Str) (g : Addr → Option Obj) : AlV := (He.obsD fa fn (He.frG g (He.asD g n)), xs.all (excB (He.frG g (He.asD g n))))
def hookV (n : Nat) (fa : List He.Fa) (fn : List He.DefD) (xs : List Str) : PySem.W.Hook where
  α := AlV
  obs := fun s => obsVG n fa fn xs s.heap.get?
  val := fun _ => (He.valD fn, true)
  says := fun _ h => ∃ K : PySem.W.Frag, K.In h ∧ (He.SaysD fa fn K ∧ ∀ x ∈ xs, ExcC K (He.ga K x))
  of := fun _ _ e => ⟨_, He.frG_in, congrArg (fun z : AlV => z.1) e, fun x hx => excB_ok (List.all_eq_true.mp (congrArg (fun z : AlV => z.2) e) x hx)⟩
  keeps := fun _ _ _ told kept => told.elim fun K h => ⟨K, PySem.W.Frag.In.keeps h.1 kept, h.2⟩
theorem obsVG_eq {n : Nat} {fa : List He.Fa} {fn : List He.DefD} {xs : List Str} {g : Addr → Option Obj} {s : Shared} (h : ∀ a, g a = s.heap.get? a) : obsVG n fa fn xs g = (hookV n fa fn xs).obs s := by
  obtain rfl : g = s.heap.get? := funext h
  rfl
/-! ### except C: suite -/
def Out.suf : Out → Out
  | .exc _ _ _ => .bad
  | o => o
def sTry1 (sub : Str → Option Bool) (fb fh : SF) : SF := fun ρ => match fb ρ with
  | .exc c fs ρ' => (match sub c with
    | some true => Out.suf (fh ρ')
    | some false => .exc c fs ρ'
    | none => .bad)
  | o => o
section
variable {X : Cx} {W : WX} {x : Str} {body suite : List Stmt} {b₀ : Stmt} {np pos pos' : Pos} {fb fh : SF} {sub : Str → Option Bool}
theorem ss_try1 (tk : Takes X W) (hc : X.mg x = some (.ref (He.ga X.K x))) (hsub : ∀ c b, sub c = some b → PySem.W.exmOne X.K (.ref (He.ga X.K c)) (.ref (He.ga X.K x)) = some b)
    (hb : ∀ (W : WX) (pn : List (Addr × Obj)) (xe : Value → Shared → Prop), Takes (X.tr pn xe) W → PassesOwn (model X.prog X.w) X.A X.env xe → SSs (X.tr pn xe) W body fb)
    (hsu : ∀ (a : Addr) (oe : Obj) (pn : List (Addr × Obj)), SSs (X.suite a ((a, oe) :: pn)) WF (b₀ :: suite) fh)
    (hg : Gl X x := by rfl) (hdb : (x == ("__debug__" : Str)) = false := by decide) (hs : X.stack = X.env :: X.outer := by rfl) (hf : X.env.frame = some X.env.locals := by rfl) :
    SS X W (.Try body [.ExceptHandler (some (.Name x np)) none (b₀ :: suite) pos'] [] [] pos) (sTry1 sub fb fh) := fun H0 Lo => by
  refine (ps_try_many (tb := fun W => tS X.K H0 Lo W fb) (l := [(.ref (He.ga X.K x), fun a cls d => tS X.K H0 Lo WF fh)]) hs hf tk (fun W pn xe tk' hp => hb W pn xe tk' hp H0 Lo)
    (HdsOk.cons ⟨hg, hdb, .inl hc⟩ (fun a oe cls d pn _ _ => hsu a oe pn H0 Lo) .nil)).weak fun D σ H ⟨ρ, α, rst, p⟩ => ⟨ρ, α, rst, ?_⟩
  unfold sTry1 at p
  cases hfb : fb ρ with
  | nx ρ' => rw [hfb] at p; exact p
  | rt d => rw [hfb] at p; exact p
  | bk ρ' => rw [hfb] at p; exact p
  | ct ρ' => rw [hfb] at p; exact p
  | bad => rw [hfb] at p; exact p
  | exc c fs ρ' =>
    rw [hfb] at p
    intro α' σ' H' xo rst' ev xr
    cases hsc : sub c with
    | none => simp only [hsc] at p; exact p.elim
    | some b =>
      simp only [hsc] at p
      refine ⟨b, hsub c b hsc, fun hbt a ha => ?_, fun hbf => ?_⟩
      · subst hbt
        refine ⟨ρ', α', rst', ?_⟩
        have p2 := PostS.evo p ev
        cases hfh : fh ρ' with
        | exc c2 fs2 ρ2 => rw [hfh] at p2; exact p2.elim
        | nx ρ2 => rw [hfh] at p2; exact p2
        | rt d => rw [hfh] at p2; exact p2
        | bk ρ2 => rw [hfh] at p2; exact p2
        | ct ρ2 => rw [hfh] at p2; exact p2
        | bad => rw [hfh] at p2; exact p2
      · subst hbf
        exact p α' σ' H' xo rst' ev xr
end
end VV

set_option Elab.async false
set_option linter.all false
set_option maxRecDepth 100000
set_option maxHeartbeats 4000000
/-! VVo: code that is never come to; len(set(xs)) of ints. -/
namespace VV
open PySem PySem.Spec L2
open PyProof.Rows hiding St
def sBad : SF := fun _ => .bad
def eBad : EF := fun _ => .bad
section
variable {X : Cx} {W : WX}
theorem ss_never {sts : List Stmt} : SSs X W sts sBad := fun H0 Lo => pss_never.weak fun D σ H ⟨ρ, α, rst, p⟩ => p
theorem se_never {e : Expr} : SE X W e eBad := ⟨fun pins s σ H Q I ⟨L, ρ, re, p⟩ => p.elim⟩
/-- how many different ones -/
def metI (ns : List Int) : List Int := PyProof.Rows.firstMet (fun i => ns.getD i 0) ns.length
def lenSetF : D → Option D
  | .list ds => (intsOf ds).bind fun ns => if ns.length ≤ 4000 then some (.int (metI ns).length) else none
  | _ => none
/-- set(xs) of a list of ints: a new set object -/
def rSetOf (K : PySem.W.Frag) : List V → Hp → VK → Prop := fun vs H Q => ∃ (l : Addr) (ns : List Int), vs = [.ref l] ∧ SqL K H l (ns.map V.int) ∧ ns.length ≤ 4000 ∧ ∀ p, H p = none → Q (.ref p) (upd H p (.set (fun k => (metI ns).any (· == k)) (metI ns).length))
theorem cr_setOf (hc : X.calm = true) : CallR X (.type "set") (rSetOf X.K) := by
  rintro pn s σ H _ _ Q inv vals ⟨l, ns, rfl, lies, short, go⟩
  obtain rfl := Vals.ref1 vals
  obtain ⟨its, rel, isl, _⟩ := inv.list lies
  have many : its.toArray.size = ns.length := (List.size_toArray ..).trans (rel.length.symm.trans (List.length_map ..))
  have few : its.toArray.size + 1 < scanBound := by
    rw [many]
    unfold scanBound
    omega
  apply call_set_list (inv.ok.hd hc) isl.isList (ns := ns) (by simpa using rel.ints) few
  intro h' tk made old
  rw [many] at made
  have keep : ∀ b u, s.heap.get? b = some u → h'.get? b = some u := fun b u e => old b u (Heap.lt_size e) e
  exact ⟨.ref _, _, inv.laid (o := .set _ _) keep (Nat.le_refl _) made, rfl, go _ (inv.hok.fresh (Nat.le_refl _))⟩
/-- len of such a set -/
def rLenOf : List V → Hp → VK → Prop := fun vs H Q => ∃ (p : Addr) (S : Int → Bool) (n : Nat), vs = [.ref p] ∧ H p = some (.set S n) ∧ Q (.int n) H
theorem cr_lenOf : CallR X (.builtin "len") rLenOf := by
  rintro pn s σ H _ _ Q inv vals ⟨p, S, n, rfl, lies, go⟩
  obtain rfl := Vals.ref1 vals
  obtain ⟨ob, es, ep, tb, got, exact_, data, _, _, small, fit, size⟩ := (inv.hok p _ lies : s.heap.SetOf (intKind X.prog X.w) p S n)
  have most : (es.size : Int) < 2 ^ 63 := by
    unfold scanBound at small
    omega
  subst size
  exact call_len_set got exact_ data fit most ⟨.int es.size, H, inv.tok _, ⟨_, rfl⟩, go⟩
theorem se_lenSet {a : Expr} {f : EF} {p p2 q pos : Pos} (hm : X.mg "len" = none) (hm2 : X.mg "set" = none) (ha : SB X W a f) (hg : Gl X "len" := by rfl) (hg2 : Gl X "set" := by rfl) (hc : X.calm = true := by rfl)
    (na : starEach [a] X.env = (false, eval a X.env) :: starEach [] X.env := by rfl) : SE X W (.Call (.Name "len" p) [.Call (.Name "set" p2) [a] [] q] [] pos) (eUn lenSetF f) := by
  have inner := pe_callTy (p := p2) (pos := q) (cr_setOf (X := X) hc) hg2 hm2 (by decide +kernel) (pa_cons ha pa_nil na) (he := na)
  have key := pe_callB (p := p) (pos := pos) (cr_lenOf (X := X)) hg hm (by decide +kernel) (pa_cons inner pa_nil rfl)
  refine key.weak fun σ H Q ⟨L, ρ, re, p⟩ => ⟨L, ρ, re, p.step fun dx H1 x s1 rx p1 => ?_⟩
  cases dx with
  | list ds =>
    obtain ⟨a, vs, rfl, ha, rl⟩ := rx.lstV
    unfold lenSetF at p1
    dsimp only at p1
    cases hi : intsOf ds with
    | none => rw [hi] at p1; exact p1.elim
    | some ns =>
      rw [hi] at p1
      simp only [Option.bind_some] at p1
      have ed := intsOf_eq hi
      subst ed
      have ev := rl.ints
      subst ev
      split at p1
      · rename_i hz
        exact ⟨a, ns, rfl, SqL.of ha, hz, fun q hq => ⟨q, _, _, rfl, upd_same, p1 _ _ (same_upd hq) (.int _)⟩⟩
      · exact p1.elim
  | _ => exact p1.elim
end
end VV

set_option Elab.async false
set_option linter.all false
set_option maxRecDepth 100000
set_option maxHeartbeats 4000000
/-! VVp: dicts: d[k], d.get(k, x), k in d, d[k] = v. -/
namespace VV
open PySem PySem.Spec L2
open PyProof.Rows hiding St

def dgetP (ps : List (D × D)) (k : D) : Option D := (ps.find? fun q => PyData.eqv q.1 k).map (·.2)
def dputP (ps : List (D × D)) (k v : D) : List (D × D) := if (ps.any fun q => PyData.eqv q.1 k) = true then ps.map (fun q => if PyData.eqv q.1 k = true then (q.1, v) else q) else ps ++ [(k, v)]
def isKeyD : D → Bool
  | .int _ => true
  | .str _ => true
  | _ => false
def isKeyT : D → Bool
  | .tuple ds => ds.all isKeyD
  | _ => false
theorem keyD_eqv (a b : Key) : PyData.eqv (keyD a) (keyD b) = decide (a = b) := by
  rcases a with i | x <;> rcases b with j | y
  · simp only [keyD, PyData.eqv]
    by_cases h : i = j <;> simp [h]
  · rfl
  · rfl
  · simp only [keyD, PyData.eqv]
    by_cases h : x = y
    · simp [h]
    · simp [h]
theorem keyT_eqv : ∀ (a b : List Key), PyData.eqvAll (a.map keyD) (b.map keyD) = decide (a = b)
  | [], [] => rfl
  | [], b :: bs => by simp [PyData.eqvAll]
  | a :: as, [] => by simp [PyData.eqvAll]
  | a :: as, b :: bs => by
    simp only [List.map_cons, PyData.eqvAll, keyD_eqv, keyT_eqv as bs]
    by_cases h : a = b <;> by_cases g : as = bs <;> simp [h, g]
section
variable {κ : Type} [DecidableEq κ] {emb : κ → D} {K : PySem.W.Frag} {H : Hp} {L : Ad}
theorem dget_rel (hemb : ∀ a b, PyData.eqv (emb a) (emb b) = decide (a = b)) (k : κ) : ∀ {kvs : List (κ × V)} {ps : List (D × D)}, ps.map (·.1) = kvs.map (fun q => emb q.1) → RpL K H L (ps.map (·.2)) (kvs.map (·.2)) →
    (∀ d, dgetP ps (emb k) = some d → ∃ v, valV kvs k = some v ∧ Rp K H L d v) ∧ (dgetP ps (emb k) = none → valV kvs k = none)
  | [], [], _, _ => ⟨fun d h => (by cases h), fun _ => rfl⟩
  | [], _ :: _, h, _ => nomatch h
  | _ :: _, [], h, _ => nomatch h
  | q :: kvs, p :: ps, h, r => by
    simp only [List.cons.injEq, List.map_cons] at h
    rw [List.map_cons, List.map_cons] at r
    cases r with
    | cons r rl =>
      have ih := dget_rel hemb k h.2 rl
      by_cases e : q.1 = k
      · have e1 : PyData.eqv p.1 (emb k) = true := by rw [h.1, hemb, e]; simp
        have e2 : dgetP (p :: ps) (emb k) = some p.2 := by simp [dgetP, List.find?_cons, e1]
        rw [e2]
        refine ⟨fun d hd => ?_, fun hn => by cases hn⟩
        cases hd
        exact ⟨q.2, valV_pos e, r⟩
      · have e1 : PyData.eqv p.1 (emb k) = false := by rw [h.1, hemb]; simp [e]
        have e2 : dgetP (p :: ps) (emb k) = dgetP ps (emb k) := by simp [dgetP, List.find?_cons, e1]
        rw [e2, valV_neg e]
        exact ih
theorem dany_rel (hemb : ∀ a b, PyData.eqv (emb a) (emb b) = decide (a = b)) (k : κ) : ∀ {kvs : List (κ × V)} {ps : List (D × D)}, ps.map (·.1) = kvs.map (fun q => emb q.1) → (ps.any fun q => PyData.eqv q.1 (emb k)) = kvs.any fun q => decide (q.1 = k)
  | [], [], _ => rfl
  | [], _ :: _, h => nomatch h
  | _ :: _, [], h => nomatch h
  | q :: kvs, p :: ps, h => by
    simp only [List.cons.injEq, List.map_cons] at h
    rw [List.any_cons, List.any_cons, h.1, hemb, dany_rel hemb k h.2]
theorem dput_rel (hemb : ∀ a b, PyData.eqv (emb a) (emb b) = decide (a = b)) (k : κ) {d : D} {v : V} (rv : Rp K H L d v) {kvs : List (κ × V)} {ps : List (D × D)} (h : ps.map (·.1) = kvs.map (fun q => emb q.1)) (r : RpL K H L (ps.map (·.2)) (kvs.map (·.2))) :
    (dputP ps (emb k) d).map (·.1) = (putK kvs k v).map (fun q => emb q.1) ∧ RpL K H L ((dputP ps (emb k) d).map (·.2)) ((putK kvs k v).map (·.2)) := by
  unfold dputP putK
  rw [dany_rel hemb k h]
  by_cases c : (kvs.any fun kv => decide (kv.1 = k)) = true
  · rw [if_pos c, if_pos c]
    clear c
    induction kvs generalizing ps with
    | nil =>
      cases ps with
      | nil => exact ⟨rfl, .nil⟩
      | cons p ps => simp at h
    | cons q kvs ih =>
      cases ps with
      | nil => simp at h
      | cons p ps =>
        simp only [List.cons.injEq, List.map_cons] at h
        rw [List.map_cons, List.map_cons] at r
        cases r with
        | cons r rl =>
          obtain ⟨i1, i2⟩ := ih h.2 rl
          simp only [List.map_cons]
          by_cases e : q.1 = k
          · have e1 : PyData.eqv p.1 (emb k) = true := by rw [h.1, hemb, e]; simp
            rw [if_pos e1, if_pos e]
            exact ⟨by rw [i1]; simp [h.1], .cons rv i2⟩
          · have e1 : ¬ PyData.eqv p.1 (emb k) = true := by rw [h.1, hemb]; simp [e]
            rw [if_neg e1, if_neg e]
            exact ⟨by rw [i1]; simp [h.1], .cons r i2⟩
  · rw [if_neg c, if_neg c]
    refine ⟨by simp [h], ?_⟩
    simp only [List.map_append, List.map_cons, List.map_nil]
    exact RpL.append r (.cons rv .nil)
end
section
variable {K : PySem.W.Frag} {H : Hp} {L : Ad}
theorem Rb.keyV {k : D} {v : V} (h : Rb K H L k v) (hk : isKeyD k = true) : ∃ key, k = keyD key ∧ v = kV key := by
  cases k with
  | int i => exact ⟨.inl i, rfl, h.intV⟩
  | str x => exact ⟨.inr x, rfl, h.strV⟩
  | _ => cases hk
theorem RpL.keysV : ∀ {ds : List D} {vs : List V}, RpL K H L ds vs → ds.all isKeyD = true → ∃ ks : List Key, ds = ks.map keyD ∧ vs = ks.map kV
  | [], _, .nil, _ => ⟨[], rfl, rfl⟩
  | d :: ds, v :: vs, .cons r rl, h => by
    simp only [List.all_cons, Bool.and_eq_true] at h
    obtain ⟨k, e1, e2⟩ := r.rb.keyV h.1
    obtain ⟨ks, e3, e4⟩ := rl.keysV h.2
    exact ⟨k :: ks, by rw [e1, e3]; rfl, by rw [e2, e4]; rfl⟩
theorem Rb.keyTV {k : D} {v : V} (h : Rb K H L k v) (hk : isKeyT k = true) : ∃ (ks : List Key) (b : Addr), k = .tuple (ks.map keyD) ∧ v = .ref b ∧ H b = some (.tup (ks.map kV)) := by
  cases k with
  | tuple ds =>
    obtain ⟨b, vs, rfl, hb, rl⟩ := h.tupV
    obtain ⟨ks, e1, e2⟩ := rl.keysV hk
    subst e1 e2
    exact ⟨ks, b, rfl, rfl, hb⟩
  | _ => cases hk
/-- a dict of tuples, a dict of ints and texts, by their data -/
def splitD : List (D × D) → Bool × List (D × D)
  | (.none, .none) :: ps => (true, ps)
  | ps => (false, ps)
theorem splitD_dk {ps : List (D × D)} {kvs : List (Key × V)} (z : ps.map (·.1) = kvs.map (fun q => keyD q.1)) : splitD ps = (false, ps) := by
  unfold splitD
  split
  · cases kvs with
    | nil => simp at z
    | cons q r =>
      simp only [List.map_cons, List.cons.injEq] at z
      obtain ⟨z, _⟩ := z
      obtain ⟨qk, qv⟩ := q
      cases qk <;> cases z
  · rfl
/-- what the dict says at a key: none if the key or the dict is not of the kind -/
def dAt : D → D → Option (Option D)
  | .dict ps, k => if (asRd (.dict ps)).isSome then none else
    match splitD ps with
    | (true, qs) => if isKeyT k = true then some (dgetP qs k) else none
    | (false, qs) => if isKeyD k = true then some (dgetP qs k) else none
  | _, _ => none
theorem dAt_ok {d k : D} {v y : V} {r : Option D} (hd : Rb K H L d v) (hk : Rb K H L k y) (h : dAt d k = some r) : ∃ a o, v = .ref a ∧ IsD H a ∧ DGet H a y o ∧ (∀ x, r = some x → ∃ u, o = some u ∧ Rp K H L x u) ∧ (r = none → o = none) := by
  cases d with
  | dict ps =>
    unfold dAt at h
    dsimp only at h
    cases hr : asRd (.dict ps) with
    | some z => rw [hr] at h; cases h
    | none =>
      rw [hr] at h
      obtain ⟨a, rfl, ow⟩ := hd.dictV hr
      simp only [Option.isSome_none] at h
      cases ow with
      | dk ha z rl =>
        rw [splitD_dk z] at h
        simp only [if_false, Bool.false_eq_true] at h
        split at h
        · rename_i hkk
          obtain ⟨key, rfl, rfl⟩ := hk.keyV hkk
          cases h
          obtain ⟨g1, g2⟩ := dget_rel keyD_eqv key z rl
          exact ⟨a, _, rfl, .inl ⟨_, .inl ha⟩, DGet.k ha, fun x hx => g1 x hx, fun hx => g2 hx⟩
        · cases h
      | dt ha z rl =>
        simp only [splitD, Bool.false_eq_true, if_false] at h
        split at h
        · rename_i hkk
          obtain ⟨ks, b, rfl, rfl, hb⟩ := hk.keyTV hkk
          cases h
          obtain ⟨g1, g2⟩ := dget_rel (emb := fun k : List Key => PyData.tuple (k.map keyD)) (fun a b => by simp only [PyData.eqv]; exact keyT_eqv a b) ks z rl
          exact ⟨a, _, rfl, .inr ⟨_, .inl ha⟩, DGet.t ha hb, fun x hx => g1 x hx, fun hx => g2 hx⟩
        · cases h
  | _ => cases h
end
def dixF : D → D → Option D := fun d k => (dAt d k).bind id
def dinF : D → D → Option D := fun k d => (dAt d k).map fun r => .bool r.isSome
def dninF : D → D → Option D := fun k d => (dAt d k).map fun r => .bool (!r.isSome)
theorem dinF_b {x y d : D} (h : dinF x y = some d) : ∃ b, d = .bool b := by
  unfold dinF at h
  obtain ⟨r, _, rfl⟩ := Option.map_eq_some_iff.mp h
  exact ⟨_, rfl⟩
theorem dninF_b {x y d : D} (h : dninF x y = some d) : ∃ b, d = .bool b := by
  unfold dninF at h
  obtain ⟨r, _, rfl⟩ := Option.map_eq_some_iff.mp h
  exact ⟨_, rfl⟩
def isDk : D → Bool
  | .dict ps => !(asRd (.dict ps)).isSome
  | _ => false
/-- d.get(k, x) -/
def eGet2 (f g h : EF) : EF := fun ρ => (f ρ).bind fun d => if isDk d = true then (g ρ).bind fun k => (h ρ).bind fun x => match dAt d k with
  | some r => .ok (r.getD x)
  | none => .bad
  else .bad
section
variable {X : Cx} {W : WX} {o i e f' : Expr} {f g h : EF} {pos apos cpos : Pos} {k : Nat}
theorem se_dix (hr : Room k X.A) (ho : SB X W o f) (hi : SB X W i g) (hs : NoSl i := by intro _ _; rfl) : SE X W (.Subscript o i pos) (eOp dixF f g) := (pe_dget (by have := hr.un; omega) ho hi hs).weak fun σ H Q ⟨L, ρ, re, p⟩ =>
  ⟨L, ρ, re, p.step fun dx H1 x s1 rx p1 => ⟨L, ρ, re.mono s1, p1.step fun dy H2 y s2 ry p2 => by
    unfold dixF at p2
    cases hd : dAt dx dy with
    | none => rw [hd] at p2; exact p2.elim
    | some r =>
      rw [hd] at p2
      obtain ⟨a, ov, rfl, _, g, q1, q2⟩ := dAt_ok (rx.mono s2) ry hd
      cases r with
      | none => exact p2.elim
      | some z =>
        obtain ⟨u, rfl, ru⟩ := q1 z rfl
        exact ⟨a, u, rfl, g, p2 H2 u (Same.refl H2) ru⟩⟩⟩
theorem se_din (hr : Room k X.A) (hi : SB X W i g) (ho : SB X W o f) (hm : behindInMarks .In o = false := by rfl) : SE X W (.Compare i [.In] [o] pos) (eOp dinF g f) := (pe_cmp (pc_din (by have := hr.un; omega) hi ho) hm).weak fun σ H Q ⟨L, ρ, re, p⟩ =>
  ⟨L, ρ, re, p.step fun dy H1 y s1 ry p1 => ⟨L, ρ, re.mono s1, p1.step fun dx H2 x s2 rx p2 => by
    unfold dinF at p2
    cases hd : dAt dx dy with
    | none => rw [hd] at p2; exact p2.elim
    | some r =>
      rw [hd] at p2
      obtain ⟨a, ov, rfl, _, g, q1, q2⟩ := dAt_ok rx (ry.mono s2) hd
      have e : ov.isSome = r.isSome := by
        cases r with
        | none => rw [q2 rfl]; rfl
        | some z => obtain ⟨u, rfl, _⟩ := q1 z rfl; rfl
      refine ⟨a, ov, rfl, g, p2 H2 _ (Same.refl H2) ?_⟩
      rw [e]
      exact .bl _⟩⟩
theorem se_dnin (hr : Room k X.A) (hi : SB X W i g) (ho : SB X W o f) (hm : behindInMarks .NotIn o = false := by rfl) : SE X W (.Compare i [.NotIn] [o] pos) (eOp dninF g f) := (pe_cmp (pc_dnotin (by have := hr.un; omega) hi ho) hm).weak fun σ H Q ⟨L, ρ, re, p⟩ =>
  ⟨L, ρ, re, p.step fun dy H1 y s1 ry p1 => ⟨L, ρ, re.mono s1, p1.step fun dx H2 x s2 rx p2 => by
    unfold dninF at p2
    cases hd : dAt dx dy with
    | none => rw [hd] at p2; exact p2.elim
    | some r =>
      rw [hd] at p2
      obtain ⟨a, ov, rfl, _, g, q1, q2⟩ := dAt_ok rx (ry.mono s2) hd
      have e : ov.isSome = r.isSome := by
        cases r with
        | none => rw [q2 rfl]; rfl
        | some z => obtain ⟨u, rfl, _⟩ := q1 z rfl; rfl
      refine ⟨a, ov, rfl, g, p2 H2 _ (Same.refl H2) ?_⟩
      rw [e]
      exact .bl _⟩⟩
theorem isDk_ok {K : PySem.W.Frag} {H : Hp} {L : Ad} {d : D} {v : V} (h : Rb K H L d v) (hk : isDk d = true) : ∃ a, v = .ref a ∧ IsD H a := by
  cases d with
  | dict ps =>
    unfold isDk at hk
    dsimp only at hk
    cases hr : asRd (.dict ps) with
    | some z => rw [hr] at hk; cases hk
    | none =>
      obtain ⟨a, rfl, ow⟩ := h.dictV hr
      cases ow with
      | dk ha z rl => exact ⟨a, rfl, .inl ⟨_, .inl ha⟩⟩
      | dt ha z rl => exact ⟨a, rfl, .inr ⟨_, .inl ha⟩⟩
  | _ => cases hk
theorem se_get2 (hr : Room k X.A) (ho : SB X W o f) (he : SB X W e g) (hf : SE X W f' h) (m : M2 X o "get" apos e f' cpos := by exact ⟨rfl, rfl, rfl, rfl⟩) : SE X W (.Call (.Attribute o "get" apos) [e, f'] [] cpos) (eGet2 f g h) :=
  (pe_dget2 (by have := hr.un; omega) ho he hf m).weak fun σ H Q ⟨L, ρ, re, p⟩ =>
  ⟨L, ρ, re, p.step fun dx H1 x s1 rx p1 => by
    split at p1
    · rename_i hdk
      obtain ⟨a, rfl, isd⟩ := isDk_ok rx hdk
      refine ⟨a, rfl, isd, L, ρ, re.mono s1, p1.step fun dy H2 y s2 ry p2 => ⟨L, ρ, re.mono (s1.trans s2), p2.stepE fun dz H3 z s3 rz p3 => ?_⟩⟩
      cases hd : dAt dx dy with
      | none => simp only [hd] at p3; exact p3.elim
      | some r =>
        simp only [hd] at p3
        obtain ⟨a', ov, ea, _, g, q1, q2⟩ := dAt_ok (rx.mono (s2.trans s3)) (ry.mono s3) hd
        cases ea
        refine ⟨ov, g, ?_⟩
        cases r with
        | none => rw [q2 rfl]; exact p3 H3 z (Same.refl H3) rz
        | some w => obtain ⟨u, rfl, ru⟩ := q1 w rfl; exact p3 H3 u (Same.refl H3) ru
    · exact p1.elim⟩
end
/-! ### d[k] = v -/
def dPut : D → D → D → Option D
  | .dict ps, k, v => if (asRd (.dict ps)).isSome then none else
    match splitD ps with
    | (true, qs) => if (isKeyT k && decide (qs.length < sizeLine)) = true then some (.dict ((.none, .none) :: dputP qs k v)) else none
    | (false, qs) => if (isKeyD k && decide (qs.length < sizeLine)) = true then some (.dict (dputP qs k v)) else none
  | _, _, _ => none
def ownD (ρ : En) (i : Nat) (k : D → Out) : Out := match ρ[i]? with
  | some (some (.own d)) => k d
  | _ => .bad
def sPutD (i : Nat) (fk fv : EF) : SF := fun ρ => (fv ρ).out ρ fun v => ownD ρ i fun d => (fk ρ).out ρ fun k => match dPut d k v with
  | some d' => .nx (ρ.set i (some (.own d')))
  | none => .bad
section
variable {X : Cx} {W : WX} {a e : Expr} {ef eg : EF} {pos : Pos} {k : Nat}
theorem ss_putD (i : Nat) {x : Str} {p tp : Pos} (hr : Room k X.A) (hk : SB X W a ef) (he : SE X W e eg) (hN : X.N[i]? = some x := by rfl) (hv : Vis X.env.scope x := by first | exact Or.inl rfl | exact Or.inr (Or.inl rfl) | exact Or.inr (Or.inr rfl)) (hd : (x == ("__debug__" : Str)) = false := by decide)
    (hcd : (x == ("__classdict__" : Str)) = false := by decide) (hs : swapsWith e (some (.Subscript (.Name x p) a tp)) pos.line X.env = pure false := by rfl) :
    SS X W (.Assign [.Subscript (.Name x p) a tp] e pos) (sPutD i ef eg) := fun H0 Lo => (ps_dput (by have := hr.un; omega) (pe_var hN hv hd hcd) hk he hs).weak fun D σ H ⟨ρ, α, rst, p⟩ => by
  refine ⟨_, ρ, rst.re, p.expr rst fun dv H1 v s r rst1 p1 => ?_⟩
  unfold ownD at p1
  cases hi : ρ[i]? with
  | none => simp only [hi] at p1; exact p1.elim
  | some q =>
    cases q with
    | none => simp only [hi] at p1; exact p1.elim
    | some q =>
      cases q with
      | val d => simp only [hi] at p1; exact p1.elim
      | own d =>
        simp only [hi] at p1
        obtain ⟨b, e1, e2, ob⟩ := rst1.own i d hi
        refine ⟨.ref b, e2, _, ρ, rst1.re, p1.exprB rst1 fun dk H2 y s2 rk rst2 p3 => ?_⟩
        have ob2 := ob.mono s2
        have hL : Lv Lo α b := .inr ⟨i, e1⟩
        have rv := r.mono s2
        cases hp : dPut d dk dv with
        | none => simp only [hp] at p3; exact p3.elim
        | some d' =>
          simp only [hp] at p3
          cases ob2 with
          | lst ha rl => cases hp
          | @dk _ kvs ps ha z rl =>
            unfold dPut at hp
            dsimp only at hp
            split at hp
            · cases hp
            · rw [splitD_dk z] at hp
              simp only at hp
              split at hp
              · rename_i hc
                simp only [Bool.and_eq_true, decide_eq_true_eq] at hc
                obtain ⟨key, rfl, rfl⟩ := rk.keyV hc.1
                cases hp
                have hl : kvs.length < sizeLine := by
                  have := congrArg List.length z
                  rw [List.length_map, List.length_map] at this
                  rw [← this]
                  exact hc.2
                refine ⟨b, _, rfl, DPut.k ha hl, ?_⟩
                obtain ⟨g1, g2⟩ := dput_rel keyD_eqv key (RpL.upd ha trivial hL (.cons rv .nil) |> fun q => match q with | .cons q _ => q) z (rl.upd ha trivial hL (o' := .dK (putK kvs key v)))
                obtain ⟨w1, w2⟩ := rst2.write (d' := .dict (dputP ps (keyD key) dv)) (o' := .dK (putK kvs key v)) hi e2 (.dk upd_same g1 g2)
                exact p3 α σ _ w1 w2
              · cases hp
          | @dt _ kvs ps ha z rl =>
            unfold dPut at hp
            dsimp only at hp
            split at hp
            · cases hp
            · simp only [splitD] at hp
              split at hp
              · rename_i hc
                simp only [Bool.and_eq_true, decide_eq_true_eq] at hc
                obtain ⟨ks, c, rfl, rfl, hcb⟩ := rk.keyTV hc.1
                cases hp
                have hl : kvs.length < sizeLine := by
                  have := congrArg List.length z
                  rw [List.length_map, List.length_map] at this
                  rw [← this]
                  exact hc.2
                refine ⟨b, _, rfl, DPut.t ha hcb hl, ?_⟩
                obtain ⟨g1, g2⟩ := dput_rel (emb := fun k : List Key => PyData.tuple (k.map keyD)) (fun a b => by simp only [PyData.eqv]; exact keyT_eqv a b) ks (RpL.upd ha trivial hL (.cons rv .nil) |> fun q => match q with | .cons q _ => q) z (rl.upd ha trivial hL (o' := .dT (putK kvs ks v)))
                obtain ⟨w1, w2⟩ := rst2.write (d' := .dict ((.none, .none) :: dputP ps (.tuple (ks.map keyD)) dv)) (o' := .dT (putK kvs ks v)) hi e2 (.dt upd_same g1 g2)
                exact p3 α σ _ w1 w2
              · cases hp
end
end VV

set_option Elab.async false
set_option linter.all false
set_option maxRecDepth 100000
set_option maxHeartbeats 4000000
/-! VVq: sorted(d.items()), ints to ints. -/
namespace VV
open PySem PySem.Spec L2
open PyProof.Rows hiding St
def encP (b : Int × Int) : D := .tuple [.int b.1, .int b.2]
def leP (p q : Int × Int) : Bool := decide (p.1 < q.1 ∨ (p.1 = q.1 ∧ p.2 ≤ q.2))
theorem leP_eq : PySem.W.dataLe false encP = leP := PySem.W.dataLe_ii (fun b : Int × Int => b.1) (fun b => b.2)
def entI (b : Int × Int) : Key × V := (Sum.inl b.1, V.int b.2)
/-- the tuple of two ints -/
def PairAt (h : Heap) (a : Addr) (b : Int × Int) : Prop := ∃ t u, h.get? a = some { cls := .type "tuple", data := .seq #[Value.int b.1 t, Value.int b.2 u] }
section
variable {X : Cx}
def rItemsK : V → List V → Hp → VK → Prop := fun x xs H Q => ∃ (a : Addr) (kvs : List (Key × V)), x = .ref a ∧ xs = [] ∧ H a = some (.dK kvs) ∧ ∀ p, H p = none → Q (.ref p) (upd H p (L2.DX.itemsO p a))
theorem mt_itemsK : MtR X "dict.items" rItemsK := by
  rintro pn s σ H _ _ _ _ Q inv rx rxs ⟨a, kvs, rfl, rfl, lies, go⟩
  cases rx
  cases rxs
  obtain ⟨_, plain, _, _, ob, es, ep, got, isd, dat, _⟩ := dk_of inv.hok lies
  apply DT.callItems plain ⟨ob, got, isd, dat⟩
  have new := inv.laid (t' := s.toks) (fun b u e => Heap.get?_push_of_some _ e) (Nat.le_refl _) (L2.DX.itemsO_ok (d := a) (Heap.get?_push_size _ rfl))
  exact ⟨.ref _, _, new, rfl, go _ (inv.hok.fresh (Nat.le_refl _))⟩
theorem pairs_at {P : Program} {w : World} : ∀ {es : List DictEntry} {vs : List (Key × Value)} {prs : List (Int × Int)}, Pairs (mixKind P w) es vs → KV (prs.map entI) vs → ∀ (j : Nat) (e : DictEntry), es[j]? = some e → ∃ b t u, prs[j]? = some b ∧ e.key = Value.int b.1 t ∧ e.val = Value.int b.2 u
  | [], _, _, _, _, j, e, h => by simp at h
  | e0 :: es, _, [], .cons _ _ _, r, j, e, h => by
    unfold KV at r
    rw [List.map_nil] at r
    cases r
  | e0 :: es, v0 :: vs, b :: prs, .cons h1 h2 hr, r, j, e, h => by
    unfold KV at r
    rw [List.map_cons] at r
    cases r with
    | cons r1 rr =>
      cases j with
      | zero =>
        have e1 : e0 = e := by simpa using h
        subst e1
        obtain ⟨k1, k2⟩ := r1
        have kk : v0.1 = Sum.inl b.1 := k1.symm
        rw [kk] at h1
        obtain ⟨u, hu⟩ := (show ∃ t, v0.2 = Value.int b.2 t from k2)
        rcases keyIs_shape (show keyIs (Sum.inl b.1) e0.key = true from h1) with ⟨i, t, ei, ek⟩ | ⟨x, t, ei, ek⟩
        · cases ei
          exact ⟨b, t, u, rfl, ek, h2.trans hu⟩
        · cases ei
      | succ j =>
        obtain ⟨b', t, u, q1, q2, q3⟩ := pairs_at hr rr j e (by simpa using h)
        exact ⟨b', t, u, by simpa using q1, q2, q3⟩
theorem each_of {h' : Heap} {as : List Addr} {prs : List (Int × Int)} (hl : as.length = prs.length) (hp : ∀ (j : Nat) (a : Addr), as[j]? = some a → ∃ b, prs[j]? = some b ∧ PairAt h' a b) : PySem.W.EachIs (fun v b => ∃ a, v = Value.ref a ∧ a ∈ as ∧ PairAt h' a b) (as.map Value.ref) prs := by
  have aux : ∀ (cs : List Addr) (qs : List (Int × Int)), cs.length = qs.length → (∀ c ∈ cs, c ∈ as) → (∀ (j : Nat) (a : Addr), cs[j]? = some a → ∃ b, qs[j]? = some b ∧ PairAt h' a b) → PySem.W.EachIs (fun v b => ∃ a, v = Value.ref a ∧ a ∈ as ∧ PairAt h' a b) (cs.map Value.ref) qs := by
    intro cs
    induction cs with
    | nil =>
      intro qs hl _ _
      cases qs with
      | nil => exact .nil
      | cons _ _ => simp at hl
    | cons c cs ih =>
      intro qs hl hm hp
      cases qs with
      | nil => simp at hl
      | cons q qs =>
        obtain ⟨b, e1, e2⟩ := hp 0 c rfl
        have eb : q = b := by simpa using e1
        subst eb
        exact .cons ⟨c, rfl, hm c (by simp), e2⟩ (ih qs (by simpa using hl) (fun x hx => hm x (by simp [hx])) fun j a hj => by
          obtain ⟨b, q1, q2⟩ := hp (j + 1) a (by simpa using hj)
          exact ⟨b, by simpa using q1, q2⟩)
  exact aux as prs hl (fun c hc => hc) hp
theorem each_zip {β : Type} {R : Value → β → Prop} {P : Addr → β → Prop} (hR : ∀ v b, R v b → ∃ a, v = Value.ref a ∧ P a b) : ∀ {out : List Value} {bs : List β}, PySem.W.EachIs R out bs → ∃ zs : List (Addr × β), out = zs.map (fun z => Value.ref z.1) ∧ zs.map (·.2) = bs ∧ ∀ z ∈ zs, P z.1 z.2
  | [], [], .nil => ⟨[], rfl, rfl, by simp⟩
  | v :: out, b :: bs, .cons r rr => by
    obtain ⟨a, e, p⟩ := hR v b r
    obtain ⟨zs, e1, e2, e3⟩ := each_zip hR rr
    refine ⟨(a, b) :: zs, by rw [e, e1]; rfl, by rw [← e2]; rfl, fun z mem => ?_⟩
    cases mem with
    | head => exact p
    | tail _ mem => exact e3 z mem
theorem vals_refs {β : Type} : ∀ zs : List (Addr × β), Vals (zs.map fun z => V.ref z.1) (zs.map fun z => Value.ref z.1)
  | [] => .nil
  | z :: zs => .cons rfl (vals_refs zs)
theorem depthP (b : Int × Int) : (encP b).depth = 1 := by simp [encP, PyData.depth, PyData.depthAll]
theorem alikeP {bs : List (Int × Int)} : PySem.W.AllAlike (bs.map encP) := by
  have pair : ∀ d ∈ bs.map encP, ∃ i j, d = .tuple [.int i, .int j] := fun d m => (List.mem_map.mp m).elim fun b h => ⟨b.1, b.2, h.2.symm⟩
  intro d m d' m'
  obtain ⟨i, j, rfl⟩ := pair d m
  obtain ⟨i', j', rfl⟩ := pair d' m'
  simp [PySem.W.alike, PySem.W.alikeAll]
theorem pair_inj {a b c d : Int} {t u t' u' : Tok} (h : some ({ cls := .type "tuple", data := .seq #[Value.int a t, Value.int b u] } : Obj) = some { cls := .type "tuple", data := .seq #[Value.int c t', Value.int d u'] }) : a = c ∧ b = d := by
  have h1 := Option.some.inj h
  have h2 : Data.seq #[Value.int a t, Value.int b u] = Data.seq #[Value.int c t', Value.int d u'] := congrArg Obj.data h1
  simp at h2
  exact ⟨h2.1.1, h2.2.1⟩
/-- a new list, not tracked yet, is sorted; then it may be tracked -/
theorem sort_new {β : Type} {enc : β → D} {R : Value → β → Prop} {us : List Value} {bs : List β} {pn : List (Addr × Obj)} {σ : St} {H : Hp} {s : Shared} {g : Heap} {tk : Nat} {l : Addr} {Q : Value → Shared → Prop} (inv : Inv X pn σ H s)
    (keep : ∀ b u, s.heap.get? b = some u → g.get? b = some u) (high : s.heap.objs.size ≤ l) (ob : g.get? l = some (seqObj "list" us.toArray 0)) (items : PySem.W.EachIs R us bs)
    (reads : PySem.W.EachIs (fun v b => ∃ as, Reads g v (enc b) as ∧ l ∉ as) us bs) (al : PySem.W.AllAlike (bs.map enc)) (so : PySem.W.Sortable (bs.map enc)) (len : bs.length ≤ sizeLine) (deep : ∀ b, b ∈ bs → X.A.in1.units + 1 + (enc b).depth < cLine)
    (go : ∀ (out : List Value) (g' : Heap), PySem.W.EachIs R out (bs.mergeSort (PySem.W.dataLe false enc)) → (∀ b u, b ≠ l → g.get? b = some u → g'.get? b = some u) →
      (∀ vs, Vals vs out → Inv X pn σ (upd H l (.lst vs)) { s with heap := g', toks := tk }) → Q .none { s with heap := g', toks := tk }) :
    wpAny (model X.prog X.w) X.A.in1 (call (.builtin "list.sort") [.ref l]) Q X.xe { s with heap := g, toks := tk } := by
  apply PySem.W.list_sort_data (s := { s with heap := g, toks := tk }) (R := R) (enc := enc) ob items reads al so len deep
  intro out many sorted
  have free : H l = none := inv.hok.fresh high
  have rest : ∀ b u, b ≠ l → g.get? b = some u → (sortedHeap g l us out.toArray).get? b = some u := fun b u ne e => (PyProof.Rows.sortedHeap_old ne (Heap.lt_size e)).trans e
  obtain ⟨n, at_⟩ := PyProof.Rows.sortedHeap_at (vs := us) (out := out.toArray) ob
  apply go out _ sorted rest
  intro vs rel
  generalize sortedHeap g l us out.toArray = g' at rest at_ ⊢
  have old : ∀ b u, s.heap.get? b = some u → g'.get? b = some u := fun b u e => rest b u (fun z => absurd (Heap.lt_size (z ▸ e)) (Nat.not_lt.mpr high)) (keep b u e)
  have fits : vs.length ≤ sizeLine := by rw [rel.length, many]; exact len
  exact (inv.kept (t' := tk) old).take (o := .lst vs) (fun _ _ _ e => e) (inv.fpOk high free) ⟨fits, out, n, rel, at_⟩
def rSortII : List V → Hp → VK → Prop := fun vs H Q => ∃ (p a : Addr) (prs : List (Int × Int)), vs = [.ref p] ∧ H p = some (L2.DX.itemsO p a) ∧ H a = some (.dK (prs.map entI)) ∧
  ∀ (H' : Hp) (l : Addr) (zs : List (Addr × (Int × Int))), Same H H' → H l = none → zs.map (·.2) = prs.mergeSort leP → H' l = some (.lst (zs.map fun z => V.ref z.1)) → (∀ z ∈ zs, H' z.1 = some (.tup [.int z.2.1, .int z.2.2])) → Q (.ref l) H'
theorem pairs_len {P : Program} {w : World} : ∀ {es : List DictEntry} {vs : List (Key × Value)}, Pairs (mixKind P w) es vs → es.length = vs.length
  | _, _, .nil => rfl
  | _, _, .cons _ _ r => congrArg (· + 1) (pairs_len r)
theorem cr_sortedII (hc : X.calm = true) (hu : X.A.units + 64 < cLine) : CallR X (.builtin "sorted") rSortII := by
  rintro pn s σ H _ _ Q inv vals ⟨p, a, prs, rfl, hp, ha, go⟩
  obtain rfl := Vals.ref1 vals
  have view : s.heap.IsItemsView p a := (show ObjOk X.prog X.w H s.heap p (L2.DX.itemsO p a) from inv.hok p _ hp).1
  obtain ⟨most, _, vs', rel, ob, es, ep, got, isd, dat, _, ents, _⟩ := dk_of inv.hok ha
  rw [List.length_map] at most
  have many : es.size = prs.length := by
    rw [← Array.length_toList, pairs_len ents, ← rel.length, List.length_map]
  refine DT.sortedI (es := es) (ep := ep) (inv.ok.hd hc) view ⟨ob, got, isd, dat⟩ (many ▸ most) ?_
  intro g tk as keep grown la made
  have each : ∀ (j : Nat) (b : Addr), as[j]? = some b → ∃ e, prs[j]? = some e ∧ PairAt g b e := fun j b hj => by
    obtain ⟨en, h1, h2⟩ := made.pairs j b hj
    obtain ⟨e, t, u, q1, q2, q3⟩ := pairs_at ents rel j en (Array.getElem?_toList ▸ h1)
    exact ⟨e, q1, t, u, q2 ▸ q3 ▸ h2⟩
  have items := each_of (la.trans many) each
  have lies : (g.push { cls := .type "list", data := .seq (as.map Value.ref).toArray }).get? g.objs.size = some (seqObj "list" (as.map Value.ref).toArray 0) := Heap.get?_push_size _ rfl
  have up : ∀ b u, g.get? b = some u → (g.push { cls := .type "list", data := .seq (as.map Value.ref).toArray }).get? b = some u := fun b u e => Heap.get?_push_of_some _ e
  generalize g.push { cls := .type "list", data := .seq (as.map Value.ref).toArray } = g2 at lies up ⊢
  have free : H g.objs.size = none := inv.hok.fresh (Nat.le_of_lt grown)
  refine sort_new (enc := encP) inv (fun b u e => up b u (keep b u e)) (Nat.le_of_lt grown) lies items (items.mono ?_) alikeP (PySem.W.Sortable.tuples fun b => ⟨_, _, rfl⟩) most ?_ ?_
  · rintro v b ⟨c, rfl, _, t, u, e⟩
    exact ⟨[], Reads.tuple (as := []) (up _ _ e) rfl rfl (ReadsAll.cons (as := []) (bs := []) (.int _ _) (ReadsAll.cons (as := []) (bs := []) (.int _ _) .nil)), by simp⟩
  · intro b _
    rw [depthP]
    show X.A.units + 1 + 1 + 1 < cLine
    omega
  intro out g' srt rest lay
  rw [leP_eq] at srt
  obtain ⟨zs, rfl, order, there⟩ := each_zip (P := fun c b => c ∈ as ∧ PairAt g c b) (fun _ _ z => z) srt
  have base := lay _ (vals_refs zs)
  have tup : ∀ c ∈ as, s.heap.objs.size ≤ c ∧ upd H g.objs.size (.lst (zs.map fun z => V.ref z.1)) c = none ∧ ∃ ws, (∃ e : Int × Int, ws = [.int e.1, .int e.2] ∧ PairAt g c e) ∧ ∀ H3, ObjOk X.prog X.w H3 g' c (.tup ws) := fun c mem => by
    obtain ⟨j, hj⟩ := List.mem_iff_getElem?.mp mem
    obtain ⟨e, _, t, u, at_⟩ := each j c hj
    have ne : c ≠ g.objs.size := Nat.ne_of_lt (Heap.lt_size at_)
    have high : s.heap.objs.size ≤ c := Nat.le_of_lt (made.above c mem)
    refine ⟨high, (upd_ne ne).trans (inv.hok.fresh high), [.int e.1, .int e.2], ⟨e, rfl, t, u, at_⟩, fun _ => ⟨by rw [sizeLine_eq]; simp, [Value.int e.1 t, Value.int e.2 u], .cons ⟨t, rfl⟩ (.cons ⟨u, rfl⟩ .nil), ?_⟩⟩
    exact ⟨_, rest c _ ne (up c _ at_), rfl, 0, rfl⟩
  obtain ⟨H2, inv2, grow, tups⟩ := L2.DX.takeT inv as _ base (made.rise.imp fun z => Nat.ne_of_lt z) tup
  refine ⟨.ref _, H2, inv2, rfl, go H2 _ zs (fun b o e => grow b o ((upd_ne (ne_of_none e free)).trans e)) free order (grow _ _ upd_same) ?_⟩
  intro z mem
  obtain ⟨m, t, u, at_⟩ := there z mem
  obtain ⟨_, ⟨e, rfl, t', u', at2⟩, hH⟩ := tups z.1 m
  have same := pair_inj (at_.symm.trans at2)
  rw [hH, same.1, same.2]
end
end VV

set_option Elab.async false
set_option linter.all false
set_option maxRecDepth 100000
set_option maxHeartbeats 4000000
/-! VVr: the expression sorted(d.items()). -/
namespace VV
open PySem PySem.Spec L2
open PyProof.Rows hiding St
def intPairs : List (D × D) → Option (List (Int × Int))
  | [] => some []
  | (.int k, .int v) :: r => (intPairs r).map fun q => (k, v) :: q
  | _ => none
theorem intPairs_eq : ∀ {ps : List (D × D)} {prs : List (Int × Int)}, intPairs ps = some prs → ps = prs.map fun b => (PyData.int b.1, PyData.int b.2)
  | [], prs, h => by cases h; rfl
  | p :: ps, prs, h => by
    unfold intPairs at h
    split at h
    · rename_i e
      cases e
    · rename_i e
      obtain ⟨q, hq, rfl⟩ := Option.map_eq_some_iff.mp h
      cases e
      rw [intPairs_eq hq]
      rfl
    · cases h
def sortItF : D → Option D
  | .dict ps => (intPairs ps).map fun prs => .list ((prs.mergeSort leP).map encP)
  | _ => none
section
variable {X : Cx} {W : WX} {o : Expr} {f : EF} {p apos cpos pos : Pos} {k : Nat}
theorem kvs_of {K : PySem.W.Frag} {H : Hp} {L : Ad} : ∀ {prs : List (Int × Int)} {kvs : List (Key × V)}, (prs.map fun b => (PyData.int b.1, PyData.int b.2)).map (·.1) = kvs.map (fun q => keyD q.1) → RpL K H L ((prs.map fun b => (PyData.int b.1, PyData.int b.2)).map (·.2)) (kvs.map (·.2)) → kvs = prs.map entI
  | [], [], _, _ => rfl
  | [], q :: r, h, _ => by simp at h
  | b :: prs, [], h, _ => by simp at h
  | b :: prs, q :: kvs, h, r => by
    simp only [List.cons.injEq, List.map_cons] at h
    rw [List.map_cons, List.map_cons] at r
    cases r with
    | cons r rl =>
      have e1 : q = entI b := by
        obtain ⟨qk, qv⟩ := q
        have e2 : qv = V.int b.2 := r.intV
        subst e2
        cases qk with
        | inl i => have : b.1 = i := by injection h.1; 
                   rw [← this]; rfl
        | inr x => cases h.1
      rw [e1, kvs_of h.2 rl]
      rfl
theorem sn_sortedItems (hr : Room k X.A) (hm : X.mg "sorted" = none) (ho : SB X W o f) (hg : Gl X "sorted" := by rfl) (hc : X.calm = true := by rfl) (hbase : attributeBase o "items" X.env (eval o X.env) = eval o X.env := by rfl) (hline : (apos.endLine == cpos.line) = true := by rfl)
    (he : starEach [.Call (.Attribute o "items" apos) [] [] cpos] X.env = (false, eval (.Call (.Attribute o "items" apos) [] [] cpos) X.env) :: starEach [] X.env := by rfl) (hpl : (backTo pos (starEach [] X.env)).any (·.1) = false := by rfl) :
    SN X W (.Call (.Name "sorted" p) [.Call (.Attribute o "items" apos) [] [] cpos] [] pos) (eUn sortItF f) := by
  have hu := hr.un
  have h1 := pe_bm0 (apos := apos) (cpos := cpos) PySem.F.plainAttrs_dict PySem.F.slot_dict_items PySem.F.type_dict_items (mt_itemsK (X := X)) ho hbase hline
  refine (pe_callB (cr_sortedII hc (by omega)) hg hm (by decide +kernel) (pa_cons h1 pa_nil he) (by decide) (by decide) he hpl).weak fun σ H Q ⟨L, ρ, re, p⟩ => ?_
  refine ⟨L, ρ, re, p.stepB fun dx H1 x s1 rx p1 => ?_⟩
  cases dx with
  | dict ps =>
    cases hi : intPairs ps with
    | none => unfold sortItF at p1; dsimp only at p1; rw [hi] at p1; exact p1.elim
    | some prs =>
      unfold sortItF at p1
      dsimp only at p1
      rw [hi] at p1
      simp only [Option.map_some, Rs.of_some] at p1
      have ep := intPairs_eq hi
      subst ep
      have hrd : asRd (.dict (prs.map fun b => (PyData.int b.1, PyData.int b.2))) = none := by
        cases prs with
        | nil => rfl
        | cons b r => rfl
      obtain ⟨a, rfl, ow⟩ := rx.dictV hrd
      generalize hz : (prs.map fun b => (PyData.int b.1, PyData.int b.2)) = zz at ow hi p1
      cases ow with
      | dt _ _ _ => cases prs with
        | nil => cases hz
        | cons b r => cases hz
      | dk ha z rl =>
        subst hz
        have ek := kvs_of z rl
        subst ek
        refine ⟨.inr (.inr (.inl ⟨rfl, .inl ⟨_, ha⟩⟩)), a, _, rfl, rfl, ha, fun q hq => ?_⟩
        have na : a ≠ q := fun e => by subst e; rw [ha] at hq; cases hq
        refine ⟨q, a, prs, rfl, upd_same, by rw [upd_ne na]; exact ha, fun H' l zs sm hl hzs hH hz => ?_⟩
        have lq : l ≠ q := fun e => by subst e; rw [upd_same] at hl; cases hl
        rw [upd_ne lq] at hl
        refine p1 H' l ((same_upd hq).trans sm) hl (.lst hH ?_)
        rw [← hzs]
        clear hzs hH
        induction zs with
        | nil => exact .nil
        | cons z zs ih =>
          exact .cons (.tup (hz z (by simp)) (.cons (.int _) (.cons (.int _) .nil))) (ih fun y hy => hz y (by simp [hy]))
  | _ => exact p1.elim
end
end VV

set_option Elab.async false
set_option linter.all false
set_option maxRecDepth 100000
set_option maxHeartbeats 4000000
/-! VVs: sorted of a list of data, of a dict's keys. -/
namespace VV
open PySem PySem.Spec L2
open PyProof.Rows hiding St
def isTupC : D → Bool
  | .tuple (_ :: _) => true
  | _ => false
def notNT : D → Bool
  | .none => false
  | .tuple _ => false
  | _ => true
/-- what list.sort can sort -/
def okSort (ds : List D) : Bool := ds.all (fun d => ds.all fun e => PySem.W.alike d e) && (ds.all isTupC || ds.all notNT) && ds.all (fun d => d.canLay0 && decide (d.depth ≤ 50))
def sortD (ds : List D) : List D := ds.mergeSort (PySem.W.dataLe false fun d : D => d)
structure OkSort (ds : List D) : Prop where
  al : PySem.W.AllAlike ds
  so : PySem.W.Sortable ds
  lay : ∀ d ∈ ds, d.canLay0 = true
  deep : ∀ d ∈ ds, d.depth ≤ 50
theorem okSort_ok {ds : List D} (h : okSort ds = true) : OkSort ds := by
  unfold okSort at h
  rw [Bool.and_eq_true, Bool.and_eq_true] at h
  obtain ⟨⟨h1, h2⟩, h3⟩ := h
  refine ⟨fun d m e m' => ?_, ?_, fun d m => ?_, fun d m => ?_⟩
  · exact List.all_eq_true.mp (List.all_eq_true.mp h1 d m) e m'
  · rcases Bool.or_eq_true _ _ |>.mp h2 with z | z
    · refine .inl fun d m => ?_
      have := List.all_eq_true.mp z d m
      unfold isTupC at this
      split at this
      · exact ⟨_, _, rfl⟩
      · cases this
    · refine .inr fun d m => ?_
      have := List.all_eq_true.mp z d m
      cases d <;> simp_all [notNT]
  · have := List.all_eq_true.mp h3 d m
    rw [Bool.and_eq_true] at this
    exact this.1
  · have := List.all_eq_true.mp h3 d m
    rw [Bool.and_eq_true] at this
    exact of_decide_eq_true this.2
section
variable {X : Cx} {K : PySem.W.Frag} {H : Hp} {L : Ad}
/-- a value with what it stands for -/
abbrev VD := V × D
def RVD (K : PySem.W.Frag) (H : Hp) (L : Ad) (u : Value) (b : VD) : Prop := RelV b.1 u ∧ Rp K H L b.2 b.1
theorem each_vd : ∀ {ds : List D} {vs : List V} {us : List Value}, RpL K H L ds vs → Vals vs us → PySem.W.EachIs (RVD K H L) us (vs.zip ds)
  | _, _, _, .nil, .nil => .nil
  | _, _, _, .cons r rl, .cons v vl => .cons ⟨v, r⟩ (each_vd rl vl)
theorem zip_snd : ∀ {ds : List D} {vs : List V}, RpL K H L ds vs → (vs.zip ds).map (·.2) = ds
  | _, _, .nil => rfl
  | _, _, .cons _ rl => by rw [List.zip_cons_cons, List.map_cons, zip_snd rl]
theorem each_back : ∀ {us : List Value} {bs : List VD}, PySem.W.EachIs (RVD K H L) us bs → Vals (bs.map (·.1)) us ∧ RpL K H L (bs.map (·.2)) (bs.map (·.1))
  | _, _, .nil => ⟨.nil, .nil⟩
  | _, _, .cons r rl => ⟨.cons r.1 (each_back rl).1, .cons r.2 (each_back rl).2⟩
theorem sort_snd (bs : List VD) : (bs.mergeSort (PySem.W.dataLe false (·.2))).map (·.2) = sortD (bs.map (·.2)) := List.map_mergeSort fun _ _ _ _ => rfl
theorem each_mem {β : Type} {R : Value → β → Prop} : ∀ {us : List Value} {bs : List β}, PySem.W.EachIs R us bs → PySem.W.EachIs (fun u b => R u b ∧ b ∈ bs) us bs
  | _, _, .nil => .nil
  | _, _, .cons r rl => .cons ⟨r, List.mem_cons_self⟩ ((each_mem rl).mono fun _ _ h => ⟨h.1, List.mem_cons_of_mem _ h.2⟩)
def sortLF : List D → Option D
  | [.list ds] => if okSort ds = true then some (.list (sortD ds)) else none
  | _ => none
theorem cl_sortedL {k : Nat} (hr : Room k X.A) (hc : X.calm = true) : ClN X (.builtin "sorted") sortLF := by
  rintro pn s σ H xs us Q inv vals ⟨L, ds, d, lv, rb, hf, go⟩
  unfold sortLF at hf
  split at hf
  case h_2 => cases hf
  rename_i es
  split at hf
  case isFalse => cases hf
  rename_i hok
  cases hf
  have O := okSort_ok hok
  obtain ⟨v, rfl, rv⟩ := rb.one
  obtain ⟨a, vs, rfl, ha, rl⟩ := rv.lstV
  obtain rfl := Vals.ref1 vals
  obtain ⟨its, rel, isl, most⟩ := inv.list (SqL.of ha)
  have each := each_vd rl rel
  have snd := zip_snd rl
  have many : (vs.zip es).length = es.length := by rw [← congrArg List.length snd, List.length_map]
  have un := hr.un
  refine PySem.W.sorted_data (R := RVD X.K H L) (enc := fun b : VD => b.2) isl.isList each ((each_mem each).mono ?_) (by rw [snd]; exact O.al) (by rw [snd]; exact O.so) (by rw [many, rl.length]; exact most) ?_ ?_
  · rintro u b ⟨⟨r1, r2⟩, m⟩
    exact Dp.reads inv b.2 b.1 u (r2.dp (O.lay _ (by rw [← snd]; exact List.mem_map_of_mem m))) r1
  · intro b m
    have := O.deep b.2 (by rw [← snd]; exact List.mem_map_of_mem m)
    omega
  intro out lout sorted
  obtain ⟨n, at_⟩ := sortedAll_at s.heap its out.toArray
  obtain ⟨v2, r2⟩ := each_back sorted
  have e2 := sort_snd (vs.zip es)
  rw [snd] at e2
  generalize hbs : (vs.zip es).mergeSort (PySem.W.dataLe false fun b : VD => b.2) = bs at v2 r2 e2 sorted
  rw [e2] at r2
  have keep : ∀ b u, s.heap.get? b = some u → (sortedAll s.heap its out.toArray).get? b = some u := fun _ _ => sortedAll_old
  generalize sortedAll s.heap its out.toArray = g at at_ keep
  have free : H (s.heap.objs.size + 1) = none := inv.hok.fresh (Nat.le_succ _)
  have fits : (bs.map (·.1)).length ≤ sizeLine := by rw [v2.length, lout, many, rl.length]; exact most
  refine ⟨.ref (s.heap.objs.size + 1), upd H (s.heap.objs.size + 1) (.lst (bs.map (·.1))), inv.laid (o := .lst (bs.map (·.1))) (t' := s.toks) keep (Nat.le_succ _) ⟨fits, out, n, v2, at_⟩, rfl, go _ _ (same_upd free) free (.lst upd_same ?_)⟩
  exact (r2.lives (Lp_new free)).mono (same_upd free)
mutual
theorem reads_lt {h : Heap} : ∀ {v : Value} {d : D} {as : List Addr}, Reads h v d as → ∀ x ∈ as, x < h.objs.size
  | _, _, _, .none, _, m => by cases m
  | _, _, _, .bool _, _, m => by cases m
  | _, _, _, .int _ _, _, m => by cases m
  | _, _, _, .str _ _, _, m => by cases m
  | _, _, _, .list e _ _ r, x, m => by
    cases m with
    | head => exact Heap.lt_size e
    | tail _ m => exact readsAll_lt r x m
  | _, _, _, .tuple _ _ _ r, x, m => readsAll_lt r x m
  | _, _, _, .dict e _ _ r q, x, m => by
    rcases List.mem_append.mp m with m | m
    · cases m with
      | head => exact Heap.lt_size e
      | tail _ m => exact readsAll_lt r x m
    · exact readsAll_lt q x m
theorem readsAll_lt {h : Heap} : ∀ {vs : List Value} {ds : List D} {as : List Addr}, ReadsAll h vs ds as → ∀ x ∈ as, x < h.objs.size
  | _, _, _, .nil, _, m => by cases m
  | _, _, _, .cons r q, x, m => by
    rcases List.mem_append.mp m with m | m
    · exact reads_lt r x m
    · exact readsAll_lt q x m
end
/-- the keys of a dict, in order, and what they stand for -/
theorem keys_each {es : Array DictEntry} {acc : Array Value} {n : Nat} (hn : es.size = n) (it : ItemsOf (fun i v => ∃ en : DictEntry, es[i]? = some en ∧ v = en.key) acc n) {bs : List VD} (len : bs.length = n) (key : ∀ (j : Nat) (en : DictEntry), es[j]? = some en → ∃ b, bs[j]? = some b ∧ RVD K H L en.key b) :
    PySem.W.EachIs (RVD K H L) acc.toList bs := by
  have aux : ∀ (us : List Value) (cs : List VD), us.length = cs.length → (∀ (j : Nat) (u : Value), us[j]? = some u → ∃ b, cs[j]? = some b ∧ RVD K H L u b) → PySem.W.EachIs (RVD K H L) us cs := by
    intro us
    induction us with
    | nil =>
      intro cs hl _
      cases cs with
      | nil => exact .nil
      | cons _ _ => cases hl
    | cons u us ih =>
      intro cs hl h
      cases cs with
      | nil => cases hl
      | cons c cs =>
        obtain ⟨b, e1, r⟩ := h 0 u rfl
        cases e1
        exact .cons r (ih cs (Nat.succ.inj hl) fun j u' hj => h (j + 1) u' hj)
  refine aux _ _ (by rw [Array.length_toList, it.1, len]) fun j u hj => ?_
  obtain ⟨en, h1, rfl⟩ := it.2 j u (by rw [← Array.getElem?_toList]; exact hj)
  exact key j en h1
/-- sorted(d): the dict's keys, collected and sorted -/
theorem sorted_dict {pn : List (Addr × Obj)} {σ : St} {H : Hp} {L : Ad} {s : Shared} {a : Addr} {ob : Obj} {es : Array DictEntry} {ep k : Nat} {bs : List VD} {Q : VK} (inv : Inv X pn σ H s) (hr : Room k X.A) (hc : X.calm = true) (lv : LvOk H L) (plain : (a == sysModules) = false) (got : s.heap.get? a = some ob) (isd : ob.ExactDict)
    (dat : ob.data = .dict es ep) (many : bs.length = es.size) (most : es.size ≤ sizeLine) (key : ∀ (j : Nat) (en : DictEntry), es[j]? = some en → ∃ b, bs[j]? = some b ∧ RVD X.K H L en.key b) (O : OkSort (bs.map (·.2)))
    (go : ∀ (H' : Hp) (l : Addr), Same H H' → H l = none → Ow X.K H' (Lp L l) (.list (sortD (bs.map (·.2)))) l → Q (.ref l) H') : wpAny (model X.prog X.w) X.A (call (.builtin "sorted") [.ref a]) (EP X pn σ Q) X.xe s := by
  apply Calls.call_function_entry PyProof.Rows.kind_sorted PyProof.Rows.plain_sorted PyProof.Rows.entry_sorted (PyProof.Rows.args_sorted1 _)
  unfold Builtin.«sorted»
  apply wpAny_bind (m := checkCount "sorted" 1 1 _)
  apply wpAny_pure
  refine wpAny_bind (PySem.W.kdu_collect (A := X.A.in1) (kdl_raw plain isd dat) (inv.ok.hd hc) got most ?_)
  intro g tk acc keep it
  have each := keys_each (K := X.K) (H := H) (L := L) rfl it many key
  have la : acc.toList.length = bs.length := by rw [Array.length_toList, it.1, many]
  refine wpAny_bind (wpAny_newList ?_ (by rw [la, many]; exact most))
  have lies : (g.push { cls := .type "list", data := .seq acc.toList.toArray }).get? g.objs.size = some (seqObj "list" acc.toList.toArray 0) := Heap.get?_push_size _ rfl
  have up : ∀ b u, g.get? b = some u → (g.push { cls := .type "list", data := .seq acc.toList.toArray }).get? b = some u := fun b u e => Heap.get?_push_of_some _ e
  have inv1 : Inv X pn σ H { s with heap := g, toks := tk } := inv.kept keep
  generalize g.push { cls := .type "list", data := .seq acc.toList.toArray } = g2 at lies up
  have free : H g.objs.size = none := inv1.hok.fresh (Nat.le_refl _)
  have un := hr.un
  refine wpAny_bind (wpAny_holding (sort_new (enc := fun b : VD => b.2) (Q := fun _ s' => _) inv1 up (Nat.le_refl _) lies each ((each_mem each).mono ?_) O.al O.so (by rw [many]; exact most) ?_ ?_))
  · rintro u b ⟨⟨r1, r2⟩, m⟩
    obtain ⟨as, rd⟩ := Dp.reads inv1 b.2 b.1 u (r2.dp (O.lay _ (List.mem_map_of_mem m))) r1
    exact ⟨as, PyProof.Rows.Reads.keeps up rd, fun z => absurd (reads_lt rd _ z) (Nat.lt_irrefl _)⟩
  · intro b m
    have := O.deep b.2 (List.mem_map_of_mem m)
    show X.A.units + 1 + 1 + b.2.depth < cLine
    omega
  intro out g' srt rest lay
  obtain ⟨v2, r2⟩ := each_back srt
  rw [sort_snd bs] at r2
  have inv2 := lay _ v2
  refine wpAny_pure ⟨.ref g.objs.size, rfl, .ref g.objs.size, _, inv2, rfl, go _ _ (same_upd free) free (.lst upd_same ?_)⟩
  exact (r2.lives (Lp_new free)).mono (same_upd free)
/-- the keys of a dict of the layer -/
def keysD : D → Option (List D)
  | .dict ps => if (asRd (.dict ps)).isSome then none else some ((splitD ps).2.map (·.1))
  | _ => none
def sortF : List D → Option D
  | [.list ds] => if okSort ds = true then some (.list (sortD ds)) else none
  | [d] => (keysD d).bind fun ks => if okSort ks = true then some (.list (sortD ks)) else none
  | _ => none
theorem kv_at : ∀ {kvs : List (Key × V)} {vs : List (Key × Value)}, KV kvs vs → ∀ (j : Nat) (k : Key) (u : Value), vs[j]? = some (k, u) → ∃ v, kvs[j]? = some (k, v) ∧ RelV v u
  | _, _, .nil, j, k, u, h => by simp at h
  | _, _, .cons r rr, 0, k, u, h => by
    have e := Option.some.inj h
    refine ⟨_, congrArg some (Prod.ext ?_ rfl), ?_⟩
    · rw [r.1, e]
    · have := r.2
      rw [e] at this
      exact this
  | _, _, .cons r rr, j + 1, k, u, h => kv_at rr j k u h
theorem entry_key {P : Program} {w : World} : ∀ {es : List DictEntry} {vs : List (Key × Value)}, Pairs (mixKind P w) es vs → ∀ (j : Nat) (en : DictEntry), es[j]? = some en → ∃ k u, vs[j]? = some (k, u) ∧ keyIs k en.key = true
  | _, _, .nil, j, en, h => by simp at h
  | _, _, .cons h1 h2 hr, 0, en, h => by
    cases h
    exact ⟨_, _, rfl, h1⟩
  | _, _, .cons _ _ hr, j + 1, en, h => entry_key hr j en h
theorem kt_at {H : Hp} : ∀ {kvs : List (List Key × V)} {xs : List (List Key × Addr × Value)}, KT H kvs xs → ∀ (j : Nat) (y : List Key × Addr × Value), xs[j]? = some y → ∃ v, kvs[j]? = some (y.1, v) ∧ H y.2.1 = some (.tup (y.1.map kV))
  | _, _, .nil, j, y, h => by simp at h
  | _, _, .cons r rr, 0, y, h => by
    have e := Option.some.inj h
    obtain ⟨r1, r2, _⟩ := r
    rw [e] at r1 r2
    refine ⟨_, congrArg some (Prod.ext r1 rfl), ?_⟩
    rw [← r1]
    exact r2
  | _, _, .cons r rr, j + 1, y, h => kt_at rr j y h
theorem keys_map {α : Type} {f : α → D} {kvs : List (α × V)} {ps : List (D × D)} (e : ps.map (·.1) = kvs.map fun q => f q.1) (g : α → V) : (kvs.map fun q => (g q.1, f q.1)).map (·.2) = ps.map (·.1) := by
  rw [e, List.map_map]
  rfl
theorem kV_rp (k : Key) : Rp K H L (keyD k) (kV k) := by
  cases k with
  | inl i => exact .int i
  | inr x => exact .str x
theorem kVs_rp : ∀ ks : List Key, RpL K H L (ks.map keyD) (ks.map kV)
  | [] => .nil
  | k :: ks => .cons (kV_rp k) (kVs_rp ks)
theorem kt_keys {H : Hp} : ∀ {kvs : List (List Key × V)} {xs : List (List Key × Addr × Value)}, KT H kvs xs → xs.map ((fun x : VD => x.2) ∘ fun q => (V.ref q.2.1, PyData.tuple (q.1.map keyD))) = kvs.map fun q => PyData.tuple (q.1.map keyD)
  | _, _, .nil => rfl
  | _, _, .cons r rr => by
    rw [List.map_cons, List.map_cons, kt_keys rr, r.1]
    rfl
theorem cl_sortedD {k : Nat} (hr : Room k X.A) (hc : X.calm = true) : ClN X (.builtin "sorted") (fun ds => match ds with
    | [d] => (keysD d).bind fun ks => if okSort ks = true then some (.list (sortD ks)) else none
    | _ => none) := by
  rintro pn s σ H xs us Q inv vals ⟨L, ds, d, lv, rb, hf, go⟩
  dsimp only at hf
  split at hf
  case h_2 => cases hf
  rename_i d'
  cases hk : keysD d' with
  | none => rw [hk] at hf; cases hf
  | some ks =>
    rw [hk, Option.bind_some] at hf
    split at hf
    case isFalse => cases hf
    rename_i hok
    cases hf
    have O := okSort_ok hok
    unfold keysD at hk
    split at hk
    case h_2 => cases hk
    rename_i ps
    split at hk
    case isTrue => cases hk
    rename_i nrd
    cases hk
    obtain ⟨v, rfl, rv⟩ := rb.one
    obtain ⟨a, rfl, ow⟩ := rv.dictV (by simpa using nrd)
    obtain rfl := Vals.ref1 vals
    generalize hdd : (PyData.dict ps) = dd at ow
    cases ow with
    | lst _ _ => cases hdd
    | @dk _ kvs ps' ha z rl =>
      cases hdd
      rw [splitD_dk z] at O go
      obtain ⟨most, plain, vs', rel, ob, es, ep, got, isd, dat, _, ents, _⟩ := dk_of inv.hok ha
      have l1 : es.size = vs'.length := by rw [← Array.length_toList, pairs_len ents]
      have l2 : kvs.length = vs'.length := Paired.length rel
      have ek : (kvs.map fun q => (kV q.1, keyD q.1)).map (·.2) = ps.map (·.1) := keys_map z kV
      refine sorted_dict inv hr hc lv plain got isd dat (bs := kvs.map fun q => (kV q.1, keyD q.1)) (by rw [List.length_map, l1, l2]) (by omega) (fun j en hj => ?_) (by rw [ek]; exact O) (by rw [ek]; exact go)
      obtain ⟨key, u, h1, h2⟩ := entry_key ents j en (by rw [Array.getElem?_toList]; exact hj)
      obtain ⟨v, h3, _⟩ := kv_at rel j key u h1
      exact ⟨_, by rw [List.getElem?_map, h3]; rfl, keyIs_rel h2, kV_rp key⟩
    | @dt _ kvs qs ha z rl =>
      cases hdd
      simp only [splitD] at O go
      obtain ⟨most, plain, xs, rel, ob, es, ep, got, isd, dat, ents, _, _⟩ := dt_rd inv.hok (.inl ha)
      have l1 : es.size = xs.length := size_of_entries ents
      have l2 : kvs.length = xs.length := Paired.length rel
      have ek : (xs.map fun q => (V.ref q.2.1, PyData.tuple (q.1.map keyD))).map (·.2) = qs.map (·.1) := by
        rw [z, List.map_map]
        exact kt_keys rel
      refine sorted_dict inv hr hc lv plain got isd dat (bs := xs.map fun q => (V.ref q.2.1, PyData.tuple (q.1.map keyD))) (by rw [List.length_map, l1]) (by omega) (fun j en hj => ?_) (by rw [ek]; exact O) (by rw [ek]; exact go)
      have q := entry_at ents j
      rw [hj] at q
      cases hx : xs[j]? with
      | none => rw [hx] at q; cases q
      | some y =>
        rw [hx] at q
        have e2 : en = entryOfKey (tupleKind (mixKind X.prog X.w)) y := Option.some.inj q
        obtain ⟨v, _, h3⟩ := kt_at rel j y hx
        refine ⟨_, by rw [List.getElem?_map, hx]; rfl, ?_, .tup h3 (kVs_rp _)⟩
        rw [e2]
        rfl
theorem cl_sorted {k : Nat} (hr : Room k X.A) (hc : X.calm = true) : ClN X (.builtin "sorted") sortF := by
  rintro pn s σ H xs us Q inv vals ⟨L, ds, d, lv, rb, hf, go⟩
  unfold sortF at hf
  split at hf
  · exact cl_sortedL hr hc pn s σ H xs us Q inv vals ⟨L, _, d, lv, rb, hf, go⟩
  · exact cl_sortedD hr hc pn s σ H xs us Q inv vals ⟨L, _, d, lv, rb, hf, go⟩
  · cases hf
end
end VV

set_option Elab.async false
set_option linter.all false
set_option maxRecDepth 100000
set_option maxHeartbeats 4000000
/-! VVt: d == {}, d != {}. -/
namespace VV
open PySem PySem.Spec L2
open PyProof.Rows hiding St
section
variable {prog : Program} {w : World} {A : Around} {E : Value → Shared → Prop} {s : Shared}
/-- a dict's object, its entries -/
structure DObj (h : Heap) (a : Addr) (n : Nat) : Prop where
  plain : (a == sysModules) = false
  ob : ∃ o es ep, h.get? a = some o ∧ o.ExactDict ∧ o.data = .dict es ep ∧ es.size = n
theorem DObj.typeIs {a : Addr} {n : Nat} (x : DObj s.heap a n) : s.TypeIs (.ref a) "dict" := let ⟨o, _, _, ho, hc, _⟩ := x.ob; ⟨o, ho, hc.1⟩
/-- two dicts of unlike size; or both empty -/
theorem same_sizes {nm : String} {a b : Addr} {n m : Nat} {Q : Bool → Shared → Prop} (da : DObj s.heap a n) (db : DObj s.heap b m) (un : n ≠ m) (go : Q false s) : wpAny (model prog w) A (Builtin.Dict.samePairs nm a b) Q E s := by
  obtain ⟨oa, es, ep, ga, _, ea, rfl⟩ := da.ob
  obtain ⟨ob, es', ep', gb, _, eb, rfl⟩ := db.ob
  unfold Builtin.Dict.samePairs Builtin.Dict.showsAll
  simp only [da.plain, db.plain, Bool.false_eq_true, if_false, pure_bind]
  refine wpAny_bind (wpAny_dictEntries ga ea (wpAny_bind (wpAny_dictEntries gb eb ?_)))
  have ne : (es.size != es'.size) = true := by simpa using un
  simp only [ne, if_true]
  exact wpAny_bind (wpAny_rule (wpAny_pure go))
theorem eq_sizes {a b : Addr} {n m : Nat} {Q : Value → Shared → Prop} (da : DObj s.heap a n) (db : DObj s.heap b m) (un : n ≠ m) (hu : A.units < cLine) (go : Q (.bool false) s) : wpAny (model prog w) A (compareOp .Eq (.ref a) (.ref b)) Q E s := by
  apply wpAny_richCompare_same_room (op := .Eq) da.typeIs db.typeIs PySem.F.slot_dict_eq _ hu
  apply wpAny_call_entry PySem.F.slot_dict_eq da.typeIs PySem.F.entry_dict_eq _ (PySem.F.args_dict_eq_2 _ _)
  change wpAny _ _ (Builtin.Dict.dictSlotArgs "__eq__" _ >>= _) _ _ s
  unfold Builtin.Dict.dictSlotArgs
  refine wpAny_bind (wpAny_bind (wpAny_notOrdered_dict da.typeIs (wpAny_pure ?_)))
  refine wpAny_bind (wpAny_isInstance (T := "dict") db.typeIs PySem.F.sub_dict_dict ?_)
  simp only [Bool.not_true, Bool.false_eq_true, if_false, pure_bind]
  refine wpAny_bind (wpAny_pure (wpAny_bind (wpAny_pure (wpAny_bind (same_sizes da db un ?_)))))
  exact wpAny_pure ⟨_, rfl, (fun z => nomatch z), go⟩
theorem ne_sizes {a b : Addr} {n m : Nat} {Q : Value → Shared → Prop} (da : DObj s.heap a n) (db : DObj s.heap b m) (un : n ≠ m) (hu : A.units < cLine) (go : Q (.bool true) s) : wpAny (model prog w) A (compareOp .NotEq (.ref a) (.ref b)) Q E s := by
  apply wpAny_richCompare_same_room (op := .NotEq) da.typeIs db.typeIs PySem.F.slot_dict_ne _ hu
  apply wpAny_call_entry PySem.F.slot_dict_ne da.typeIs PySem.F.entry_dict_ne _ (PySem.F.args_dict_ne_2 _ _)
  change wpAny _ _ (Builtin.Dict.dictSlotArgs "__ne__" _ >>= _) _ _ s
  unfold Builtin.Dict.dictSlotArgs
  refine wpAny_bind (wpAny_bind (wpAny_notOrdered_dict da.typeIs (wpAny_pure ?_)))
  refine wpAny_bind (wpAny_isInstance (T := "dict") db.typeIs PySem.F.sub_dict_dict ?_)
  simp only [Bool.not_true, Bool.false_eq_true, if_false, pure_bind]
  refine wpAny_bind (wpAny_pure (wpAny_bind (wpAny_pure (wpAny_bind (same_sizes da db un ?_)))))
  exact wpAny_pure ⟨_, rfl, (fun z => nomatch z), go⟩
end
/-- a dict, whether it is empty -/
def emptyD : D → Option Bool
  | .dict ps => if (asRd (.dict ps)).isSome then none else some (splitD ps).2.isEmpty
  | _ => none
section
variable {X : Cx} {W : WX} {o : Expr} {f : EF} {p pos : Pos} {k : Nat}
def eqEF (neg : Bool) : D → Option D := fun d => (emptyD d).map fun b => .bool (if neg then !b else b)
theorem eqEF_b {neg : Bool} {x d : D} (h : eqEF neg x = some d) : ∃ b, d = .bool b := by
  unfold eqEF at h
  obtain ⟨b, _, rfl⟩ := Option.map_eq_some_iff.mp h
  exact ⟨_, rfl⟩
theorem emptyD_ok {K : PySem.W.Frag} {H : Hp} {L : Ad} {d : D} {v : V} {b : Bool} (h : emptyD d = some b) (r : Rb K H L d v) : ∃ a, v = .ref a ∧ ((∃ kvs, H a = some (.dK kvs) ∧ b = kvs.isEmpty) ∨ ∃ kvs, H a = some (.dT kvs) ∧ b = kvs.isEmpty) := by
  unfold emptyD at h
  split at h
  case h_2 => cases h
  rename_i ps
  split at h
  case isTrue => cases h
  rename_i nrd
  cases h
  obtain ⟨a, rfl, ow⟩ := r.dictV (by simpa using nrd)
  refine ⟨a, rfl, ?_⟩
  generalize hdd : (PyData.dict ps) = dd at ow
  cases ow with
  | lst _ _ => cases hdd
  | dk ha z rl =>
    cases hdd
    refine .inl ⟨_, ha, ?_⟩
    rw [splitD_dk z]
    exact isEmpty_len (by have := congrArg List.length z; simpa using this)
  | dt ha z rl =>
    cases hdd
    refine .inr ⟨_, ha, ?_⟩
    simp only [splitD]
    exact isEmpty_len (by have := congrArg List.length z; simpa using this)
def rEmp (neg : Bool) : R2 := fun x y H Q => ∃ (a b : Addr) (e : Bool), x = .ref a ∧ y = .ref b ∧ ((∃ kvs, H a = some (.dK kvs) ∧ e = kvs.isEmpty) ∨ ∃ kvs, H a = some (.dT kvs) ∧ e = kvs.isEmpty) ∧ H b = some (.dK []) ∧ Q (.bl (if neg then !e else e)) H
theorem dobj_k {P : Program} {w : World} {H : Hp} {h : Heap} {a : Addr} {kvs : List (Key × V)} (ok : HOk P w H h) (e : H a = some (.dK kvs)) : DObj h a kvs.length := by
  obtain ⟨_, plain, vs, rel, ob, es, ep, got, isd, dat, _, ents, _⟩ := dk_of ok e
  exact ⟨plain, ob, es, ep, got, isd, dat, by rw [← Array.length_toList, pairs_len ents]; exact (Paired.length rel).symm⟩
theorem dobj_t {P : Program} {w : World} {H : Hp} {h : Heap} {a : Addr} {kvs : List (List Key × V)} (ok : HOk P w H h) (e : H a = some (.dT kvs)) : DObj h a kvs.length := by
  obtain ⟨_, plain, xs, rel, ob, es, ep, got, isd, dat, ents, _⟩ := dt_rd ok (.inl e)
  exact ⟨plain, ob, es, ep, got, isd, dat, by rw [size_of_entries ents]; exact (Paired.length rel).symm⟩
/-- the empty dict is of any kind -/
theorem dict0 {P : Program} {w : World} {h : Heap} {a : Addr} (x : DObj h a 0) : h.DictOf (mixKind P w) a [] := by
  obtain ⟨o, es, ep, got, isd, dat, sz⟩ := x.ob
  obtain rfl : es = #[] := Array.eq_empty_of_size_eq_zero sz
  exact ⟨o, #[], ep, got, isd, dat, fun e m => by simp at m, .nil, by simp⟩
theorem op_emp (hr : Room k X.A) : OpR X (compareOp .Eq) (rEmp false) := by
  rintro pn s σ H _ _ v u Q inv rx ry ⟨a, b, e, rfl, rfl, ha, hb, go⟩
  obtain rfl : v = Value.ref a := rx
  obtain rfl : u = Value.ref b := ry
  have db : DObj s.heap b 0 := dobj_k inv.hok hb
  have hu := hr.units0
  have key : ∀ n, DObj s.heap a n → e = decide (n = 0) → wpAny (model X.prog X.w) X.A (compareOp .Eq (.ref a) (.ref b)) (EP X pn σ Q) X.xe s := fun n da he => by
    by_cases h0 : n = 0
    · subst h0
      rw [decide_eq_true rfl] at he
      exact PySem.W.keq_eq (knd := mixKind X.prog X.w) (r := true) da.plain db.plain (dict0 da) (dict0 db) hu (fun _ => .nil) (fin_bl inv go (by simp [he]))
    · rw [decide_eq_false h0] at he
      exact eq_sizes da db h0 hu (fin_bl inv go (by simp [he]))
  rcases ha with ⟨kvs, ha, he⟩ | ⟨kvs, ha, he⟩
  · exact key _ (dobj_k inv.hok ha) (by rw [he]; cases kvs <;> simp)
  · exact key _ (dobj_t inv.hok ha) (by rw [he]; cases kvs <;> simp)
theorem op_nemp (hr : Room k X.A) : OpR X (compareOp .NotEq) (rEmp true) := by
  rintro pn s σ H _ _ v u Q inv rx ry ⟨a, b, e, rfl, rfl, ha, hb, go⟩
  obtain rfl : v = Value.ref a := rx
  obtain rfl : u = Value.ref b := ry
  have db : DObj s.heap b 0 := dobj_k inv.hok hb
  have hu := hr.units0
  have key : ∀ n, DObj s.heap a n → e = decide (n = 0) → wpAny (model X.prog X.w) X.A (compareOp .NotEq (.ref a) (.ref b)) (EP X pn σ Q) X.xe s := fun n da he => by
    by_cases h0 : n = 0
    · subst h0
      rw [decide_eq_true rfl] at he
      exact PySem.W.keq_ne (knd := mixKind X.prog X.w) (r := true) da.plain db.plain (dict0 da) (dict0 db) hu (fun _ => .nil) (fin_bl inv go (by simp [he]))
    · rw [decide_eq_false h0] at he
      exact ne_sizes da db h0 hu (fin_bl inv go (by simp [he]))
  rcases ha with ⟨kvs, ha, he⟩ | ⟨kvs, ha, he⟩
  · exact key _ (dobj_k inv.hok ha) (by rw [he]; cases kvs <;> simp)
  · exact key _ (dobj_t inv.hok ha) (by rw [he]; cases kvs <;> simp)
theorem tEmp_of {neg : Bool} {K : PySem.W.Frag} : ∀ σ H Q, tE K W (eUn (eqEF neg) f) σ H Q → tOp (rEmp neg) (tB K W f) tDNewK σ H Q := fun σ H Q ⟨L, ρ, re, p⟩ =>
  ⟨L, ρ, re, p.step fun dx H1 x s1 rx p1 => fun q hq => by
    cases hd : emptyD dx with
    | none => unfold eqEF at p1; rw [hd] at p1; exact p1.elim
    | some b =>
      unfold eqEF at p1
      rw [hd] at p1
      obtain ⟨a, rfl, h⟩ := emptyD_ok hd rx
      have up : ∀ {o : HO}, H1 a = some o → upd H1 q (.dK []) a = some o := fun e => (upd_ne (ne_of_none e hq)).trans e
      refine ⟨a, q, b, rfl, rfl, ?_, upd_same, p1 _ _ (same_upd hq) (.bl _)⟩
      rcases h with ⟨kvs, h1, h2⟩ | ⟨kvs, h1, h2⟩
      · exact .inl ⟨kvs, up h1, h2⟩
      · exact .inr ⟨kvs, up h1, h2⟩⟩
theorem se_emp (hr : Room k X.A) (ho : SB X W o f) : SE X W (.Compare o [.Eq] [.Dict [] [] p] pos) (eUn (eqEF false) f) := (pe_cmpR (op_emp hr) ho pe_dnewK rfl).weak tEmp_of
theorem se_nemp (hr : Room k X.A) (ho : SB X W o f) : SE X W (.Compare o [.NotEq] [.Dict [] [] p] pos) (eUn (eqEF true) f) := (pe_cmpR (op_nemp hr) ho pe_dnewK rfl).weak tEmp_of
theorem tEmpT_of {neg : Bool} {K : PySem.W.Frag} : ∀ σ H Q, tT K W (eUn (eqEF neg) f) σ H Q → tOp (rEmp neg) (tB K W f) tDNewK σ H fun v H' => ∃ b, v = .bl b ∧ Q b H' := fun σ H Q ⟨L, ρ, re, p⟩ =>
  tEmp_of (W := W) (f := f) σ H _ ⟨L, ρ, re, by
    cases hr : eUn (eqEF neg) f ρ with
    | bad => rw [hr] at p; exact p
    | exc c fs => rw [hr] at p; exact p
    | ok d =>
      rw [hr] at p
      cases d with
      | bool b => exact fun H' v s r => ⟨b, r.blV, p H' s⟩
      | _ => exact p.elim⟩
theorem st_emp (hr : Room k X.A) (ho : SB X W o f) : ST X W (.Compare o [.Eq] [.Dict [] [] p] pos) (eUn (eqEF false) f) := (pt_cmpR (op_emp hr) ho pe_dnewK rfl).weak tEmpT_of
theorem st_nemp (hr : Room k X.A) (ho : SB X W o f) : ST X W (.Compare o [.NotEq] [.Dict [] [] p] pos) (eUn (eqEF true) f) := (pt_cmpR (op_nemp hr) ho pe_dnewK rfl).weak tEmpT_of
end
end VV

set_option Elab.async false
set_option linter.all false
set_option maxRecDepth 100000
set_option maxHeartbeats 4000000
/-! VVu: zip of two lists or two tuples, enumerate of a list or a tuple. -/
namespace VV
open PySem PySem.Spec L2
open PyProof.Rows hiding St
def pairD (p : D × D) : D := .tuple [p.1, p.2]
def zipD (xs ys : List D) : List D := (xs.zip ys).map pairD
def zip2F : List D → Option (List D)
  | [.list xs, .list ys] => some (zipD xs ys)
  | [.tuple xs, .tuple ys] => some (zipD xs ys)
  | _ => none
def iZip (fs : List EF) : IF := fun ρ => (evA fs ρ).items zip2F
theorem zipD_length (xs ys : List D) : (zipD xs ys).length = min xs.length ys.length := by simp [zipD]
theorem zipD_get {xs ys : List D} {i : Nat} {d : D} (h : (zipD xs ys)[i]? = some d) : ∃ x y, xs[i]? = some x ∧ ys[i]? = some y ∧ d = .tuple [x, y] := by
  unfold zipD at h
  rw [List.getElem?_map] at h
  obtain ⟨p, hp, rfl⟩ := Option.map_eq_some_iff.mp h
  obtain ⟨h1, h2⟩ := List.getElem?_zip_eq_some.mp hp
  exact ⟨_, _, h1, h2, rfl⟩
section
variable {K : PySem.W.Frag}
/-- two lists that are walked at once; what their objects are, is asked at each turn -/
theorem itb_zipL {xs ys : List D} {a b : Addr} {S1 S2 : Hp → Ad → Prop} (h1 : ItB K xs (Itl K a) S1) (h2 : ItB K ys (Itl K b) S2) (g1 : ∀ H L, S1 H L → ∃ vs, H a = some (.lst vs) ∧ RpL K H L xs vs) (g2 : ∀ H L, S2 H L → ∃ vs, H b = some (.lst vs) ∧ RpL K H L ys vs) :
    ItB K (zipD xs ys) (Itz K a b) (fun H L => S1 H L ∧ S2 H L) where
  go := fun i H L ⟨s1, s2⟩ hi => by
    rw [zipD_length] at hi
    obtain ⟨vs, ha, ra⟩ := g1 H L s1
    obtain ⟨us, hb, rb⟩ := g2 H L s2
    have l1 := ra.length
    have l2 := rb.length
    exact ⟨vs, us, vs[i]'(by omega), us[i]'(by omega), SqL.of ha, SqL.of hb, by simp, by simp⟩
  stop := fun i H L ⟨s1, s2⟩ hi => by
    rw [zipD_length] at hi
    obtain ⟨vs, ha, ra⟩ := g1 H L s1
    obtain ⟨us, hb, rb⟩ := g2 H L s2
    have l1 := ra.length
    have l2 := rb.length
    exact ⟨vs, us, SqL.of ha, SqL.of hb, by omega⟩
  yld := fun i H L x H' ⟨s1, s2⟩ ⟨T, u, v, ex, hT, eH, hu, hv⟩ => by
    subst ex eH
    refine ⟨same_upd hT, fun d hd => ?_⟩
    obtain ⟨e1, e2, q1, q2, rfl⟩ := zipD_get hd
    obtain ⟨vs, ha, ra⟩ := g1 H L s1
    obtain ⟨us, hb, rb⟩ := g2 H L s2
    obtain ⟨w1, z1, r1⟩ := ra.get q1
    obtain ⟨w2, z2, r2⟩ := rb.get q2
    rw [hu vs (SqL.of ha)] at z1
    rw [hv us (SqL.of hb)] at z2
    cases z1
    cases z2
    exact .tup upd_same (.cons (r1.mono (same_upd hT)) (.cons (r2.mono (same_upd hT)) .nil))
  keep := fun H L H' L' ⟨s1, s2⟩ s l => ⟨h1.keep H L H' L' s1 s l, h2.keep H L H' L' s2 s l⟩
theorem itb_zipT {xs ys : List D} {a b : Addr} {S1 S2 : Hp → Ad → Prop} (h1 : ItB K xs (Itt K a) S1) (h2 : ItB K ys (Itt K b) S2) (g1 : ∀ H L, S1 H L → ∃ vs, H a = some (.tup vs) ∧ RpL K H L xs vs) (g2 : ∀ H L, S2 H L → ∃ vs, H b = some (.tup vs) ∧ RpL K H L ys vs) :
    ItB K (zipD xs ys) (RZ.ItzT K a b) (fun H L => S1 H L ∧ S2 H L) where
  go := fun i H L ⟨s1, s2⟩ hi => by
    rw [zipD_length] at hi
    obtain ⟨vs, ha, ra⟩ := g1 H L s1
    obtain ⟨us, hb, rb⟩ := g2 H L s2
    have l1 := ra.length
    have l2 := rb.length
    exact ⟨vs, us, vs[i]'(by omega), us[i]'(by omega), SqT.of ha, SqT.of hb, by simp, by simp⟩
  stop := fun i H L ⟨s1, s2⟩ hi => by
    rw [zipD_length] at hi
    obtain ⟨vs, ha, ra⟩ := g1 H L s1
    obtain ⟨us, hb, rb⟩ := g2 H L s2
    have l1 := ra.length
    have l2 := rb.length
    exact ⟨vs, us, SqT.of ha, SqT.of hb, by omega⟩
  yld := fun i H L x H' ⟨s1, s2⟩ ⟨T, u, v, ex, hT, eH, hu, hv⟩ => by
    subst ex eH
    refine ⟨same_upd hT, fun d hd => ?_⟩
    obtain ⟨e1, e2, q1, q2, rfl⟩ := zipD_get hd
    obtain ⟨vs, ha, ra⟩ := g1 H L s1
    obtain ⟨us, hb, rb⟩ := g2 H L s2
    obtain ⟨w1, z1, r1⟩ := ra.get q1
    obtain ⟨w2, z2, r2⟩ := rb.get q2
    rw [hu vs (SqT.of ha)] at z1
    rw [hv us (SqT.of hb)] at z2
    cases z1
    cases z2
    exact .tup upd_same (.cons (r1.mono (same_upd hT)) (.cons (r2.mono (same_upd hT)) .nil))
  keep := fun H L H' L' ⟨s1, s2⟩ s l => ⟨h1.keep H L H' L' s1 s l, h2.keep H L H' L' s2 s l⟩
theorem rp_lst {ds : List D} {a : Addr} (H : Hp) (L : Ad) (r : Rp K H L (.list ds) (.ref a)) : ∃ vs, H a = some (.lst vs) ∧ RpL K H L ds vs := by
  cases r with
  | lst h n rl => exact ⟨_, h, rl⟩
theorem rp_tup {ds : List D} {a : Addr} (H : Hp) (L : Ad) (r : Rp K H L (.tuple ds) (.ref a)) : ∃ vs, H a = some (.tup vs) ∧ RpL K H L ds vs := by
  cases r with
  | tup h rl => exact ⟨_, h, rl⟩
end
section
variable {X : Cx} {W : WX} {a b : Expr} {fs : List EF} {p pos tpos : Pos} {elts : List Expr} {kk : Nat}
theorem si_zip (hm : X.mg "zip" = none) (ha : SBA X W [a, b] fs) (hg : Gl X "zip" := by rfl) (hs : starEach [a, b] X.env = (false, eval a X.env) :: starEach [b] X.env := by rfl) (hpl : (backTo pos (starEach [b] X.env)).any (·.1) = false := by rfl) :
    SI X W (.Tuple elts kk tpos) (.Call (.Name "zip" p) [a, b] [] pos) (iZip fs) := (RZ.pi_zipA hg hm ha hs hpl).weak fun σ H R ⟨L, ρ, re, q⟩ => by
  refine ⟨L, ρ, re, ?_⟩
  unfold iZip RL.items at q
  cases hf : evA fs ρ with
  | bad => rw [hf] at q; exact q.elim
  | exc c gs => rw [hf] at q; exact q
  | ok ds =>
    rw [hf] at q
    dsimp only at q
    intro H1 vs s1 r
    unfold zip2F at q
    split at q
    · rename_i out hz
      split at hz
      · cases hz
        obtain ⟨v, w, rfl, rv, rw⟩ := r.two
        obtain ⟨a1, us1, rfl, h1, r1⟩ := rv.lstV
        obtain ⟨a2, us2, rfl, h2, r2⟩ := rw.lstV
        exact ⟨a1, a2, us1, us2, rfl, .inl ⟨SqL.of h1, SqL.of h2, q _ _ H1 s1 (itb_zipL itb_list itb_list (fun _ _ z => z) fun _ _ z => z) ⟨⟨us1, h1, r1⟩, us2, h2, r2⟩⟩⟩
      · cases hz
        obtain ⟨v, w, rfl, rv, rw⟩ := r.two
        obtain ⟨a1, us1, rfl, h1, r1⟩ := rv.tupV
        obtain ⟨a2, us2, rfl, h2, r2⟩ := rw.tupV
        exact ⟨a1, a2, us1, us2, rfl, .inr ⟨SqT.of h1, SqT.of h2, q _ _ H1 s1 (itb_zipT itb_tup itb_tup (fun _ _ z => z) fun _ _ z => z) ⟨⟨us1, h1, r1⟩, us2, h2, r2⟩⟩⟩
      · cases hz
    · exact q.elim
theorem RpL.two {K : PySem.W.Frag} {H : Hp} {L : Ad} {d e : D} {vs : List V} (h : RpL K H L [d, e] vs) : ∃ v w, vs = [v, w] ∧ Rp K H L d v ∧ Rp K H L e w := by
  cases h with
  | cons r t =>
    cases t with
    | cons r' t' =>
      cases t'
      exact ⟨_, _, rfl, r, r'⟩
theorem sis_zip (hm : X.mg "zip" = none) (ha : SA X W [a, b] fs) (hg : Gl X "zip" := by rfl) (hs : starEach [a, b] X.env = (false, eval a X.env) :: starEach [b] X.env := by rfl) (hpl : (backTo pos (starEach [b] X.env)).any (·.1) = false := by rfl) :
    SIS X W (.Tuple elts kk tpos) (.Call (.Name "zip" p) [a, b] [] pos) (iZip fs) := (RZ.pi_zipA hg hm ha hs hpl).weak fun σ H R ⟨L, ρ, re, q⟩ => by
  refine ⟨L, ρ, re, ?_⟩
  unfold iZip RL.items at q
  cases hf : evA fs ρ with
  | bad => rw [hf] at q; exact q.elim
  | exc c gs => rw [hf] at q; exact q
  | ok ds =>
    rw [hf] at q
    dsimp only at q
    intro H1 vs s1 r
    unfold zip2F at q
    split at q
    · rename_i out hz
      split at hz
      · cases hz
        obtain ⟨v, w, rfl, rv, rw⟩ := r.two
        obtain ⟨a1, us1, rfl, h1, r1⟩ := rv.rb.lstV
        obtain ⟨a2, us2, rfl, h2, r2⟩ := rw.rb.lstV
        exact ⟨a1, a2, us1, us2, rfl, .inl ⟨SqL.of h1, SqL.of h2, q _ _ H1 s1 ⟨itb_zipL its_lst.toItB its_lst.toItB rp_lst rp_lst, fun H L H' L' z ev => ⟨ev _ _ z.1, ev _ _ z.2⟩⟩ ⟨rv, rw⟩⟩⟩
      · cases hz
        obtain ⟨v, w, rfl, rv, rw⟩ := r.two
        obtain ⟨a1, us1, rfl, h1, r1⟩ := rv.tupV
        obtain ⟨a2, us2, rfl, h2, r2⟩ := rw.tupV
        exact ⟨a1, a2, us1, us2, rfl, .inr ⟨SqT.of h1, SqT.of h2, q _ _ H1 s1 ⟨itb_zipT its_tup.toItB its_tup.toItB rp_tup rp_tup, fun H L H' L' z ev => ⟨ev _ _ z.1, ev _ _ z.2⟩⟩ ⟨rv, rw⟩⟩⟩
      · cases hz
    · exact q.elim
end
end VV

set_option Elab.async false
set_option linter.all false
set_option maxRecDepth 100000
set_option maxHeartbeats 4000000
/-! VVv: enumerate of a list or a tuple. -/
namespace VV
open PySem PySem.Spec L2
open PyProof.Rows hiding St
/-! ### enumerate(v) begins -/
set_option maxHeartbeats 1000000 in
theorem enum_meets {v : Value} {o : Obj} {Φ : Heap → Prop} (B : Begins v o Φ) : Meets (Builtin.«enumerate.__new__» ⟨[.type "enumerate", v], []⟩) (fun _ R s => Φ s.heap ∧
    R (.ok (.ret (.ref (s.heap.push o).objs.size))) { s with heap := (s.heap.push o).push { cls := .type "enumerate", data := .fields #[.none, .bool false, .ref s.heap.objs.size, rawInt 0, .none, .none] } }) := by
  refine .of_wp fun prog w A R s h => ?_
  obtain ⟨hp, g, d, tk, os⟩ := s
  obtain ⟨ok, go⟩ := h
  have hsub := sub_enumerate
  have begins : ∀ {A' : Around} {E : Value → Shared → Prop} {Q : Value → Shared → Prop}, Q (.ref hp.objs.size) ⟨hp.push o, g, d, tk, os⟩ → wpAny (model prog w) A' (pyIter v) Q E ⟨hp, g, d, tk, os⟩ := fun q => B.iter prog w _ _ ⟨hp, g, d, tk, os⟩ _ ok q
  wp_walk using begins
  apply wpAny_stack_any
  intro st
  apply wpAny_pure
  split
  · rename_i c _ _ _ _ _
    cases (c == Value.type "enumerate") <;> (wp_walk using begins; exact ⟨_, rfl, go⟩)
  · wp_walk using begins; exact ⟨_, rfl, go⟩
section
variable {prog : Program} {w : World} {A : Around} {E : Value → Shared → Prop} {s : Shared}
theorem enum_call {v : Value} {o : Obj} {Φ : Heap → Prop} {Q : Value → Shared → Prop} (B : Begins v o Φ) (ok : Φ s.heap)
    (go : ∀ g : Heap, IsEnum g (s.heap.objs.size + 1) s.heap.objs.size 0 .none → g.get? s.heap.objs.size = some o → (∀ b u, s.heap.get? b = some u → g.get? b = some u) → Q (.ref (s.heap.objs.size + 1)) { s with heap := g }) :
    wpAny (model prog w) A (call (.type "enumerate") [v]) Q E s := by
  have size : (s.heap.push o).objs.size = s.heap.objs.size + 1 := Heap.size_push ..
  have inner : (s.heap.push o).get? s.heap.objs.size = some o := Heap.get?_push_size _ B.free
  apply callType_new F.called_enumerate (by decide) (F.typeCall_enumerate_1 _) (F.newCall_enumerate_1 _) (fun obj => F.args_object_init_2 obj _) F.entry_enumerate_new (enum_meets B)
  refine ⟨ok, ?_⟩
  have made : IsEnum ((s.heap.push o).push { cls := .type "enumerate", data := .fields #[.none, .bool false, .ref s.heap.objs.size, rawInt 0, .none, .none] }) (s.heap.objs.size + 1) s.heap.objs.size 0 .none := by
    rw [← size]
    exact Heap.get?_push_size _ rfl
  show _ ∧ _
  rw [size]
  exact ⟨⟨_, made, rfl⟩, go _ made (Heap.get?_push_of_some _ inner) fun b u e => Heap.get?_push_of_some _ (Heap.get?_push_of_some _ e)⟩
end
/-! ### its turns over a tuple -/
def ItE (K : PySem.W.Frag) (a : Addr) : It where
  go := fun i H => ∃ (xs : List V) (x : V), SqT K H a xs ∧ xs[i]? = some x
  yld := fun i H v H' => ∃ T x, v = .ref T ∧ H T = none ∧ H' = upd H T (.tup [.int (i : Nat), x]) ∧ ∀ xs, SqT K H a xs → xs[i]? = some x
  stop := fun i H => ∃ xs : List V, SqT K H a xs ∧ xs.length ≤ i
theorem turn_enumT {P : Program} {w : World} {K : PySem.W.Frag} {elts : List Expr} {kk : Nat} {tpos : Pos} (a e it : Addr) : Turn P w K (.Tuple elts kk tpos) (ItE K a) [e, it] e (fun i h => (∃ old, IsEnum h e it ((i : Nat) : Int) old) ∧ h.IsTupleIter it a i ∧ e ≠ it ∧ a ≠ it ∧ a ≠ e) where
  mem := List.mem_cons_self
  obj := by
    rintro i h ⟨⟨old, en⟩, ⟨o, ho, _, hd⟩, _⟩ b hb
    simp only [List.mem_cons, List.not_mem_nil, or_false] at hb
    rcases hb with rfl | rfl
    · exact ⟨_, en, nofun⟩
    · exact ⟨o, ho, fun v z => nomatch hd.symm.trans z⟩
  keep := by
    rintro i h h' ⟨⟨old, en⟩, ti, ne⟩ k
    exact ⟨⟨old, k e (by simp) _ en⟩, ti.at fun o q => k it (by simp) o q, ne⟩
  item := by
    rintro X rfl rfl rfl calm i pn s σ H E inv fp ⟨⟨old, en⟩, ti, ne1, ne2, ne3⟩ ⟨xs, x, sq, at_⟩
    obtain ⟨its, rel, tup, _⟩ := inv.tuple sq
    have le : e < s.heap.objs.size := Heap.lt_size en
    have li : it < s.heap.objs.size := by obtain ⟨_, q, _⟩ := ti; exact Heap.lt_size q
    have many := rel.length
    have here : i < xs.length := (List.getElem?_eq_some_iff.mp at_).1
    have D := Draws.tuple (prog := X.prog) (w := X.w) (A := X.A.in1) (inv.ok.hd calm) it a ne2 its.toArray
    refine wpAny_pyNext_enum_itemD D en ⟨ti, tup⟩ (by rw [List.size_toArray]; omega) ne1 (by simp only [List.mem_cons, List.not_mem_nil, or_false]; exact fun z => z.elim ne1 fun z => ne3 z.symm) ?_
    intro u g tk hu out st' tupl _ keep
    refine ⟨_, rfl, wpAny_letOwnedTupleGo_enum (s := { s with heap := g, toks := tk + 1 }) out ?_⟩
    intro g' en' same
    obtain ⟨v, hv, rv⟩ : ∃ v, its[i]? = some v ∧ RelV x v := rel.get at_
    have eu : v = u := by
      have h1 : its.toArray[i]? = some v := by simpa using hv
      exact Option.some.inj (h1.symm.trans hu)
    subst eu
    have lies : g'.get? s.heap.objs.size = some { cls := .type "tuple", data := .seq #[.int i tk, v] } := (same.2 _ (Nat.ne_of_gt le)).trans tupl
    have new : ObjOk X.prog X.w (upd H s.heap.objs.size (.tup [.int (i : Nat), x])) g' s.heap.objs.size (.tup [.int (i : Nat), x]) :=
      ⟨by rw [sizeLine_eq]; simp, [.int i tk, v], .cons ⟨_, rfl⟩ (.cons rv .nil), ⟨_, lies, rfl, _, rfl⟩⟩
    have old' : ∀ b o, b ∉ [e, it] → s.heap.get? b = some o → g'.get? b = some o := fun b o nb q => by
      simp only [List.mem_cons, List.not_mem_nil, or_false, not_or] at nb
      exact (same.2 b nb.1).trans (keep b o nb.1 nb.2 q)
    have inv1 := inv.turnedNew (t' := tk + 1) (ch := [e, it]) old' fp (Nat.le_refl _) new
    refine ⟨.ref s.heap.objs.size, _, inv1, rfl, ⟨_, x, rfl, inv.hok.fresh (Nat.le_refl _), rfl, fun ys hy => by rw [inv.tuple_inj hy sq]; exact at_⟩, ⟨⟨v, ?_⟩, st'.1.at fun o q => (same.2 it (Ne.symm ne1)).trans q, ne1, ne2, ne3⟩, ?_⟩
    · rw [show ((i + 1 : Nat) : Int) = (i : Int) + 1 by omega]
      exact en'
    · intro b hb
      have lb : b < s.heap.objs.size := by
        simp only [List.mem_cons, List.not_mem_nil, or_false] at hb
        rcases hb with rfl | rfl
        · exact le
        · exact li
      exact (upd_ne (Nat.ne_of_lt lb)).trans (fp b hb).1
  done := by
    rintro X rfl rfl rfl calm i pn s σ H E inv fp ⟨⟨old, en⟩, ti, ne1, ne2, ne3⟩ ⟨xs, sq, past⟩
    obtain ⟨its, rel, tup, _⟩ := inv.tuple sq
    obtain ⟨f0, f1, _, f3, f4, f5⟩ := fp it (by simp)
    have many := rel.length
    have D : Draws X.prog X.w X.A.in1 it [it, a] i (fun _ _ => True) (fun j h => j = i ∧ h.IsTupleIter it a i ∧ h.IsTuple a its.toArray) := by
      refine ⟨fun j h st => ?_, fun j h h' st k => ⟨st.1, st.2.1.at fun o q => k it (by simp) o q, st.2.2.at fun o q => k a (by simp) o q⟩, fun j s' Q E' lt st _ => absurd st.1 (Nat.ne_of_lt lt), fun s' Q E' st hE => ?_⟩
      · obtain ⟨o, ho, _⟩ := st.2.1
        exact ⟨o, ho⟩
      · exact wpAny_nextOf_tuple_end (inv.ok.hd calm) st.2.1 st.2.2 (by rw [Array.getElem?_eq_none_iff, List.size_toArray]; omega) hE
    exact wpAny_pyNext_enum_endD D en ⟨rfl, ti, tup⟩ fun g ext => ⟨rfl, inv.turned (t' := s.toks) (fun b o nb q => ext b o nb q) f0 f1 f3 f4 f5⟩
  self := by
    rintro A i s Q E ⟨⟨_, en⟩, _⟩ h
    exact wpAny_pyIter_enum en h
def iEnT (K : PySem.W.Frag) (ta : TA) : TI := fun σ H R => ta σ H fun vs H1 => ∃ a xs, vs = [.ref a] ∧ SqT K H1 a xs ∧ R (ItE K a) H1
theorem pi_enT {X : Cx} {e : Expr} {ta : TA} {p pos tpos : Pos} {elts : List Expr} {kk : Nat} (hg : Gl X "enumerate") (hm : X.mg "enumerate" = none) (ha : PA X [e] ta) (fst : starEach [e] X.env = [(false, eval e X.env)]) : PI X (.Tuple elts kk tpos) (.Call (.Name "enumerate" p) [e] [] pos) (iEnT X.K ta) := by
  constructor
  intro pn s σ H R inv h
  refine Call_ (ld_blt inv hg hm boot_enumerate (PyProof.Rows.callWith_type1 (thn (ha.run pos pn s σ H _ inv h) ?_) fst rfl))
  rintro us s1 ⟨_, H1, inv1, vals, a, xs, rfl, sq, go⟩
  obtain rfl := Vals.ref1 vals
  obtain ⟨its, rel, tup, _⟩ := inv1.tuple sq
  have la : a < s1.heap.objs.size := tup.lt
  apply enum_call (begins_tuple a its.toArray) tup
  intro g en ti keep
  have inv2 := inv1.kept (t' := s1.toks) keep
  refine wpAny_pyIter_enum en ⟨s1.heap.objs.size + 1, [s1.heap.objs.size + 1, s1.heap.objs.size], _, _, H1, rfl, inv2, turn_enumT a _ _, ⟨⟨.none, en⟩, ⟨_, ti, rfl, rfl⟩, Nat.succ_ne_self _, Nat.ne_of_lt la, Nat.ne_of_lt (Nat.lt_succ_of_lt la)⟩, fun b hb => ?_, go⟩
  have high : s1.heap.objs.size ≤ b := by
    simp only [List.mem_cons, List.not_mem_nil, or_false] at hb
    rcases hb with rfl | rfl
    · exact Nat.le_succ _
    · exact Nat.le_refl _
  exact inv1.fpOk high (inv1.hok.fresh high)
/-! ### in the layer -/
def enumD : Nat → List D → List D
  | _, [] => []
  | i, d :: ds => .tuple [.int (i : Nat), d] :: enumD (i + 1) ds
def enumF : List D → Option (List D)
  | [.list ds] => some (enumD 0 ds)
  | [.tuple ds] => some (enumD 0 ds)
  | _ => none
def iEnum' (fs : List EF) : IF := fun ρ => (evA fs ρ).items enumF
theorem enumD_length : ∀ (i : Nat) (ds : List D), (enumD i ds).length = ds.length
  | _, [] => rfl
  | i, _ :: ds => congrArg (· + 1) (enumD_length (i + 1) ds)
theorem enumD_get : ∀ (i : Nat) (ds : List D) (j : Nat) (d : D), (enumD i ds)[j]? = some d → ∃ x, ds[j]? = some x ∧ d = .tuple [.int ((i + j : Nat) : Int), x]
  | i, [], j, d, h => by simp [enumD] at h
  | i, x :: ds, 0, d, h => ⟨x, rfl, by simpa [enumD] using h.symm⟩
  | i, x :: ds, j + 1, d, h => by
    obtain ⟨y, h1, h2⟩ := enumD_get (i + 1) ds j d (by simpa [enumD] using h)
    exact ⟨y, by simpa using h1, by rw [h2, show i + 1 + j = i + (j + 1) by omega]⟩
section
variable {K : PySem.W.Frag}
theorem itb_enL {xs : List D} {a : Addr} {S : Hp → Ad → Prop} (h : ItB K xs (Itl K a) S) (g : ∀ H L, S H L → ∃ vs, H a = some (.lst vs) ∧ RpL K H L xs vs) : ItB K (enumD 0 xs) (Ite K a) S where
  go := fun i H L st hi => by
    rw [enumD_length] at hi
    obtain ⟨vs, ha, ra⟩ := g H L st
    have l1 := ra.length
    exact ⟨vs, vs[i]'(by omega), SqL.of ha, by simp⟩
  stop := fun i H L st hi => by
    rw [enumD_length] at hi
    obtain ⟨vs, ha, ra⟩ := g H L st
    exact ⟨vs, SqL.of ha, by rw [← ra.length]; exact hi⟩
  yld := fun i H L x H' st ⟨T, u, ex, hT, eH, hu⟩ => by
    subst ex eH
    refine ⟨same_upd hT, fun d hd => ?_⟩
    obtain ⟨y, q1, rfl⟩ := enumD_get 0 xs i d hd
    obtain ⟨vs, ha, ra⟩ := g H L st
    obtain ⟨w1, z1, r1⟩ := ra.get q1
    rw [hu vs (SqL.of ha)] at z1
    cases z1
    rw [Nat.zero_add]
    exact .tup upd_same (.cons (.int _) (.cons (r1.mono (same_upd hT)) .nil))
  keep := h.keep
theorem itb_enT {xs : List D} {a : Addr} {S : Hp → Ad → Prop} (h : ItB K xs (Itt K a) S) (g : ∀ H L, S H L → ∃ vs, H a = some (.tup vs) ∧ RpL K H L xs vs) : ItB K (enumD 0 xs) (ItE K a) S where
  go := fun i H L st hi => by
    rw [enumD_length] at hi
    obtain ⟨vs, ha, ra⟩ := g H L st
    have l1 := ra.length
    exact ⟨vs, vs[i]'(by omega), SqT.of ha, by simp⟩
  stop := fun i H L st hi => by
    rw [enumD_length] at hi
    obtain ⟨vs, ha, ra⟩ := g H L st
    exact ⟨vs, SqT.of ha, by rw [← ra.length]; exact hi⟩
  yld := fun i H L x H' st ⟨T, u, ex, hT, eH, hu⟩ => by
    subst ex eH
    refine ⟨same_upd hT, fun d hd => ?_⟩
    obtain ⟨y, q1, rfl⟩ := enumD_get 0 xs i d hd
    obtain ⟨vs, ha, ra⟩ := g H L st
    obtain ⟨w1, z1, r1⟩ := ra.get q1
    rw [hu vs (SqT.of ha)] at z1
    cases z1
    rw [Nat.zero_add]
    exact .tup upd_same (.cons (.int _) (.cons (r1.mono (same_upd hT)) .nil))
  keep := h.keep
end
section
variable {X : Cx} {W : WX} {a : Expr} {fs : List EF} {p pos tpos : Pos} {elts : List Expr} {kk : Nat}
theorem RpL.one {K : PySem.W.Frag} {H : Hp} {L : Ad} {d : D} {vs : List V} (h : RpL K H L [d] vs) : ∃ v, vs = [v] ∧ Rp K H L d v := by
  cases h with
  | cons r t =>
    cases t
    exact ⟨_, rfl, r⟩
theorem sis_enum (hm : X.mg "enumerate" = none) (ha : SA X W [a] fs) (hg : Gl X "enumerate" := by rfl) (fst : starEach [a] X.env = [(false, eval a X.env)] := by rfl) : SIS X W (.Tuple elts kk tpos) (.Call (.Name "enumerate" p) [a] [] pos) (iEnum' fs) := ⟨fun pn s σ H R inv ⟨L, ρ, re, q⟩ => by
  unfold iEnum' RL.items at q
  cases hf : evA fs ρ with
  | bad => rw [hf] at q; exact q.elim
  | exc c gs =>
    rw [hf] at q
    refine (pi_enum hg hm ha fst).run pn s σ H R inv ⟨L, ρ, re, ?_⟩
    rw [hf]
    exact q
  | ok ds =>
    rw [hf] at q
    dsimp only at q
    unfold enumF at q
    split at q
    · rename_i out hz
      split at hz
      · cases hz
        refine (pi_enum hg hm ha fst).run pn s σ H R inv ⟨L, ρ, re, ?_⟩
        rw [hf]
        intro H1 vs s1 r
        obtain ⟨v, rfl, rv⟩ := r.one
        obtain ⟨a1, us1, rfl, h1, r1⟩ := rv.rb.lstV
        exact ⟨a1, us1, rfl, SqL.of h1, q _ _ H1 s1 ⟨itb_enL its_lst.toItB rp_lst, fun H L H' L' z ev => ev _ _ z⟩ rv⟩
      · cases hz
        refine (pi_enT hg hm ha fst).run pn s σ H R inv ⟨L, ρ, re, ?_⟩
        rw [hf]
        intro H1 vs s1 r
        obtain ⟨v, rfl, rv⟩ := r.one
        obtain ⟨a1, us1, rfl, h1, r1⟩ := rv.tupV
        exact ⟨a1, us1, rfl, SqT.of h1, q _ _ H1 s1 ⟨itb_enT its_tup.toItB rp_tup, fun H L H' L' z ev => ev _ _ z⟩ rv⟩
      · cases hz
    · exact q.elim⟩
theorem si_enum (hm : X.mg "enumerate" = none) (ha : SBA X W [a] fs) (hg : Gl X "enumerate" := by rfl) (fst : starEach [a] X.env = [(false, eval a X.env)] := by rfl) : SI X W (.Tuple elts kk tpos) (.Call (.Name "enumerate" p) [a] [] pos) (iEnum' fs) := ⟨fun pn s σ H R inv ⟨L, ρ, re, q⟩ => by
  unfold iEnum' RL.items at q
  cases hf : evA fs ρ with
  | bad => rw [hf] at q; exact q.elim
  | exc c gs =>
    rw [hf] at q
    refine (pi_enum hg hm ha fst).run pn s σ H R inv ⟨L, ρ, re, ?_⟩
    rw [hf]
    exact q
  | ok ds =>
    rw [hf] at q
    dsimp only at q
    unfold enumF at q
    split at q
    · rename_i out hz
      split at hz
      · cases hz
        refine (pi_enum hg hm ha fst).run pn s σ H R inv ⟨L, ρ, re, ?_⟩
        rw [hf]
        intro H1 vs s1 r
        obtain ⟨v, rfl, rv⟩ := r.one
        obtain ⟨a1, us1, rfl, h1, r1⟩ := rv.lstV
        exact ⟨a1, us1, rfl, SqL.of h1, q _ _ H1 s1 (itb_enL itb_list fun _ _ z => z) ⟨us1, h1, r1⟩⟩
      · cases hz
        refine (pi_enT hg hm ha fst).run pn s σ H R inv ⟨L, ρ, re, ?_⟩
        rw [hf]
        intro H1 vs s1 r
        obtain ⟨v, rfl, rv⟩ := r.one
        obtain ⟨a1, us1, rfl, h1, r1⟩ := rv.tupV
        exact ⟨a1, us1, rfl, SqT.of h1, q _ _ H1 s1 (itb_enT itb_tup fun _ _ z => z) ⟨us1, h1, r1⟩⟩
      · cases hz
    · exact q.elim⟩
end
end VV

set_option Elab.async false
set_option linter.all false
set_option maxRecDepth 100000
set_option maxHeartbeats 4000000
/-! PLm: loops and comprehensions over typed lists, any target. -/
namespace VVlaw
open PySem PySem.Spec L2 VV
open PyProof.Rows hiding St
/-! comprehensions -/
theorem lcGo_filtT {α : Type} {t : Tg} {c e : EF} {ρ : En} (emb f : α → D) (p : α → Bool) : ∀ (xs : List α), (∀ x ∈ xs, ∃ ρ1, bindT t (emb x) ρ = some ρ1 ∧ c ρ1 = .ok (.bool (p x)) ∧ (p x = true → e ρ1 = .ok (f x))) → lcGo t c e ρ (xs.map emb) = .ok ((xs.filter p).map f)
  | [], _ => rfl
  | x :: xs, h => by
    obtain ⟨ρ1, h1, h2, h3⟩ := h x (by simp)
    have ih := lcGo_filtT (t := t) (c := c) (e := e) emb f p xs fun y hy => h y (by simp [hy])
    cases hp : p x with
    | true =>
      rw [hp] at h2
      simp -implicitDefEqProofs only [List.map_cons, lcGo, lcOne, h1, h2, h3 hp, ih, RL.cons_ok, List.filter_cons, hp, if_true]
    | false =>
      rw [hp] at h2
      simp -implicitDefEqProofs only [List.map_cons, lcGo, lcOne, h1, h2, ih, List.filter_cons, hp]
      rfl
theorem eLc_filtT {α : Type} {vs : List Nat} {fi : IF} {t : Tg} {c e : EF} {ρ : En} (xs : List α) (emb f : α → D) (p : α → Bool) (hi : fi ρ = .ok (xs.map emb)) (hl : xs.length ≤ 16777216) (h : ∀ x ∈ xs, ∃ ρ1, bindT t (emb x) (wipeE ρ vs) = some ρ1 ∧ c ρ1 = .ok (.bool (p x)) ∧ (p x = true → e ρ1 = .ok (f x))) :
    eLc vs fi t c e ρ = .ok (.list ((xs.filter p).map f)) := by
  unfold eLc
  rw [hi, RL.bind_ok, lcGo_filtT emb f p xs h, RL.bind_ok]
  exact lstR_ok _ (by rw [List.length_map]; exact Nat.le_trans (List.length_filter_le _ _) hl)
theorem eLc_mapT {α : Type} {vs : List Nat} {fi : IF} {t : Tg} {c e : EF} {ρ : En} (xs : List α) (emb f : α → D) (hi : fi ρ = .ok (xs.map emb)) (hl : xs.length ≤ 16777216) (h : ∀ x ∈ xs, ∃ ρ1, bindT t (emb x) (wipeE ρ vs) = some ρ1 ∧ c ρ1 = .ok (.bool true) ∧ e ρ1 = .ok (f x)) :
    eLc vs fi t c e ρ = .ok (.list (xs.map f)) := by
  rw [eLc_filtT xs emb f (fun _ => true) hi hl fun x hx => by
    obtain ⟨ρ1, h1, h2, h3⟩ := h x hx
    exact ⟨ρ1, h1, h2, fun _ => h3⟩]
  rw [List.filter_eq_self.mpr fun _ _ => rfl]
/-! for -/
theorem forGo_nxT {t : Tg} {f : SF} {d : D} {ds : List D} {ρ ρ1 ρ2 : En} (hb : bindT t d ρ = some ρ1) (h : f ρ1 = .nx ρ2) : forGo t f (d :: ds) ρ = forGo t f ds ρ2 := by
  simp -implicitDefEqProofs only [forGo, forOne, hb, h]
theorem forGo_rtT {t : Tg} {f : SF} {d e : D} {ds : List D} {ρ ρ1 : En} (hb : bindT t d ρ = some ρ1) (h : f ρ1 = .rt e) : forGo t f (d :: ds) ρ = .rt e := by
  simp -implicitDefEqProofs only [forGo, forOne, hb, h]
/-- a loop as a fold over its typed state -/
theorem forGo_fold {α S : Type} {t : Tg} {f : SF} (emb : α → D) (enc : S → En) (step : S → α → S) (I : S → List α → Prop) (hs : ∀ s x r, I s (x :: r) → ∃ ρ1, bindT t (emb x) (enc s) = some ρ1 ∧ f ρ1 = .nx (enc (step s x)) ∧ I (step s x) r) :
    ∀ (xs : List α) (s : S), I s xs → forGo t f (xs.map emb) (enc s) = .nx (enc (xs.foldl step s)) ∧ I (xs.foldl step s) []
  | [], s, h => ⟨rfl, h⟩
  | x :: xs, s, h => by
    obtain ⟨ρ1, h1, h2, h3⟩ := hs s x xs h
    rw [List.map_cons, forGo_nxT h1 h2]
    exact forGo_fold emb enc step I hs xs (step s x) h3
/-- with a return -/
def runL {α S : Type} (step : S → α → S ⊕ D) : S → List α → S ⊕ D
  | s, [] => .inl s
  | s, x :: xs => match step s x with
    | .inl s' => runL step s' xs
    | .inr d => .inr d
theorem forGo_foldR {α S : Type} {t : Tg} {f : SF} (emb : α → D) (enc : S → En) (step : S → α → S ⊕ D) (I : S → List α → Prop)
    (hs : ∀ s x r, I s (x :: r) → ∃ ρ1, bindT t (emb x) (enc s) = some ρ1 ∧ match step s x with
      | .inl s' => f ρ1 = .nx (enc s') ∧ I s' r
      | .inr d => f ρ1 = .rt d) :
    ∀ (xs : List α) (s : S), I s xs → match runL step s xs with
      | .inl s' => forGo t f (xs.map emb) (enc s) = .nx (enc s') ∧ I s' []
      | .inr d => forGo t f (xs.map emb) (enc s) = .rt d
  | [], s, h => ⟨rfl, h⟩
  | x :: xs, s, h => by
    obtain ⟨ρ1, h1, h2⟩ := hs s x xs h
    unfold runL
    cases hst : step s x with
    | inl s' =>
      rw [hst] at h2
      dsimp only at h2 ⊢
      rw [List.map_cons, forGo_nxT h1 h2.1]
      exact forGo_foldR emb enc step I hs xs s' h2.2
    | inr d =>
      rw [hst] at h2
      dsimp only at h2 ⊢
      rw [List.map_cons, forGo_rtT h1 h2]
theorem ap_iZip (fs : List EF) (ρ : En) : iZip fs ρ = (evA fs ρ).items zip2F := rfl
theorem ap_iEnum (fs : List EF) (ρ : En) : iEnum' fs ρ = (evA fs ρ).items enumF := rfl
theorem items_zipL (xs ys : List D) : (RL.ok [.list xs, .list ys]).items zip2F = .ok (zipD xs ys) := rfl
theorem items_zipT (xs ys : List D) : (RL.ok [.tuple xs, .tuple ys]).items zip2F = .ok (zipD xs ys) := rfl
theorem items_enL (xs : List D) : (RL.ok [.list xs]).items enumF = .ok (enumD 0 xs) := rfl
theorem items_enT (xs : List D) : (RL.ok [.tuple xs]).items enumF = .ok (enumD 0 xs) := rfl
theorem zipD_map {α : Type} (f g : α → D) (xs : List α) : zipD (xs.map f) (xs.map g) = xs.map fun x => .tuple [f x, g x] := by
  unfold zipD
  induction xs with
  | nil => rfl
  | cons x xs ih => simpa [VV.pairD] using ih
theorem zipD_maps {α β : Type} (f : α → D) (g : β → D) : ∀ (xs : List α) (ys : List β), zipD (xs.map f) (ys.map g) = (xs.zip ys).map fun p => .tuple [f p.1, g p.2]
  | [], ys => by simp [zipD]
  | x :: xs, [] => by simp [zipD]
  | x :: xs, y :: ys => by
    have ih := zipD_maps f g xs ys
    unfold zipD at *
    simpa [VV.pairD] using ih
theorem enumD_map {α : Type} (f : α → D) : ∀ (xs : List α) (i : Nat), enumD i (xs.map f) = (xs.zipIdx i).map fun p => .tuple [.int (p.2 : Nat), f p.1]
  | [], _ => rfl
  | x :: xs, i => by
    rw [List.map_cons, enumD, List.zipIdx_cons, List.map_cons, enumD_map f xs (i + 1)]
/-! slices -/
theorem sl_t {α : Type} (f : α → D) (xs : List α) (a b : Int) (h0 : 0 ≤ a) (h1 : a ≤ b) (h2 : b ≤ xs.length) : slF (.tuple (xs.map f)) (some a) (some b) = some (.tuple (((xs.drop a.toNat).take (b - a).toNat).map f)) := by
  show some (PyData.tuple (cutL (xs.map f) (some a) (some b))) = _
  rw [cutL_eq _ _ _ h0 h1 (by rw [List.length_map]; omega), List.map_take, List.map_drop]
theorem sl_l {α : Type} (f : α → D) (xs : List α) (a b : Int) (h0 : 0 ≤ a) (h1 : a ≤ b) (h2 : b ≤ xs.length) : slF (.list (xs.map f)) (some a) (some b) = some (.list (((xs.drop a.toNat).take (b - a).toNat).map f)) := by
  show some (PyData.list (cutL (xs.map f) (some a) (some b))) = _
  rw [cutL_eq _ _ _ h0 h1 (by rw [List.length_map]; omega), List.map_take, List.map_drop]
theorem ix_map_l {α : Type} (f : α → D) (xs : List α) (i : Int) (h0 : 0 ≤ i) (h : i.toNat < xs.length) : ixF (.list (xs.map f)) (.int i) = some (f xs[i.toNat]) := by
  rw [f_ix_l _ i h0 (by simpa using h)]
  simp
theorem ix_map_t {α : Type} (f : α → D) (xs : List α) (i : Int) (h0 : 0 ≤ i) (h : i.toNat < xs.length) : ixF (.tuple (xs.map f)) (.int i) = some (f xs[i.toNat]) := by
  rw [f_ix_t _ i h0 (by simpa using h)]
  simp
end VVlaw

set_option Elab.async false
set_option linter.all false
set_option maxRecDepth 100000
set_option maxHeartbeats 4000000
/-! PLj: fractions in least terms, of any size. -/
namespace VVlaw
open PySem PySem.Spec L2 VV
open PyProof.Rows hiding St
/-- below 2 ^ k, either way -/
def Bd (k : Nat) (i : Int) : Prop := i.natAbs < 2 ^ k
theorem Bd.mono {k l : Nat} {i : Int} (h : Bd k i) (hl : k ≤ l) : Bd l i := Nat.lt_of_lt_of_le h (Nat.pow_le_pow_right (by decide) hl)
theorem Bd.mul {k l : Nat} {i j : Int} (h : Bd k i) (g : Bd l j) : Bd (k + l) (i * j) := by
  unfold Bd at *
  rw [Int.natAbs_mul, Nat.pow_add]
  exact Nat.mul_lt_mul'' h g
theorem Bd.add {k : Nat} {i j : Int} (h : Bd k i) (g : Bd k j) : Bd (k + 1) (i + j) := by
  unfold Bd at *
  have := Int.natAbs_add_le i j
  rw [Nat.pow_succ]
  omega
theorem Bd.neg {k : Nat} {i : Int} (h : Bd k i) : Bd k (-i) := by
  unfold Bd at *
  rw [Int.natAbs_neg]
  exact h
theorem Bd.sub {k : Nat} {i j : Int} (h : Bd k i) (g : Bd k j) : Bd (k + 1) (i - j) := by
  rw [Int.sub_eq_add_neg]
  exact h.add g.neg
theorem Bd.dvd {k : Nat} {i j : Int} (h : Bd k i) (hd : j ∣ i) : Bd k (i / j) := by
  unfold Bd at *
  obtain ⟨c, rfl⟩ := hd
  by_cases hj : j = 0
  · subst hj
    simp
    exact Nat.two_pow_pos k
  · rw [Int.mul_ediv_cancel_left _ hj]
    rw [Int.natAbs_mul] at h
    have : 1 ≤ j.natAbs := by omega
    exact Nat.lt_of_le_of_lt (Nat.le_mul_of_pos_left _ this) h
theorem Bd.of {k : Nat} {i : Int} (a b : Int) (h : a ≤ i ∧ i ≤ b) (ha : a.natAbs < 2 ^ k) (hb : b.natAbs < 2 ^ k) : Bd k i := by
  unfold Bd
  omega
theorem Bd.log {k : Nat} {i : Int} (h : Bd k i) (hk : 0 < k) : i.natAbs.log2 < k := by
  by_cases h0 : i.natAbs = 0
  · rw [h0]
    simpa using hk
  · exact (Nat.log2_lt h0).2 h
theorem f_mulB {k l : Nat} (i j : Int) (h : Bd k i) (g : Bd l j) (hk : 0 < k) (hl : 0 < l) (hs : k + l ≤ 1000000) : mulF (.int i) (.int j) = some (.int (i * j)) := by
  have h1 := h.log hk
  have h2 := g.log hl
  have e : mulOk i j = true := by
    unfold mulOk
    simp -implicitDefEqProofs only [Bool.or_eq_true, decide_eq_true_eq]
    exact .inr (by omega)
  show (if mulOk i j = true then _ else _) = _
  rw [if_pos e]
theorem f_divB {k : Nat} (i j : Int) (h0 : 0 < j) (h : Bd k j) (hk : 0 < k) (hk2 : k ≤ 9000) : divF (.int i) (.int j) = some (.int (i / j)) := by
  have h1 := h.log hk
  have e : divOk j = true := by
    unfold divOk
    simp -implicitDefEqProofs only [Bool.and_eq_true, decide_eq_true_eq]
    exact ⟨by omega, by omega⟩
  show (if divOk j = true then _ else _) = _
  rw [if_pos e, Int.fdiv_eq_ediv_of_nonneg _ (by omega)]
/-! the greatest that divides both -/
def gC : EF := eOp neF (eV 1) (eC (.int 0))
def gB : SF := sPar 0 1 [eV 1, eOp modF (eV 0) (eV 1)]
theorem gcd_stop (n : Nat) (a : Int) : whGo gC gB (n + 1) [some (.val (.int a)), some (.val (.int 0))] = .nx [some (.val (.int a)), some (.val (.int 0))] := whGo_f (by simp -implicitDefEqProofs only [gC, ap_sSeq, seqO_nx, seqO_rt, seqO_exc, ap_sIf, ifO_t, ifO_f, ifO_exc, ap_sNx, ap_sSet, ap_sOwn, ap_sRet, ap_sDrop, ap_sAsg, outB_some, bT_nm, bT_tp, bTs_nil, bTs_cons, ap_sRaise, ap_sPar, parO_ok, ap_sFor, ap_sRetV, retO_own, retO_val, ap_sFrz, frzO_own, frzO_val, ap_sApp, ap_sExt, ap_eV, valO_val, ap_eB, borO_val, borO_own, ap_eC, ap_eOp, opO_ok, ap_eUn, ap_eTup, ap_eLst, tupR_ok, lstR_ok, ap_eCB, ap_eCall, callO_ok, callO_exc, ap_gNot, notR_b, ap_gTru, truR_b, truR_list, ap_gAnd, ap_gOr, andO_t, andO_f, orO_t, orO_f, ap_eAnd, ap_eOr, eandO_t, eandO_f, eorO_t, eorO_f, ap_eNot, enotO_b, enotO_list, ap_eIf, eifO_t, eifO_f, ap_eChain, chO_ok, ap_eIsi, isiO_int, isiO_tup, isiO_lst, isiO_bl, isiO_str, isiO_non, isInt_int, isInt_bl, isInt_tup, isInt_lst, isInt_str, isInt_non, isBool_int, isBool_bl, isTup_tup, isTup_lst, isTup_int, isTup_non, isTup_str, isTup_bl, isLst_lst, isLst_tup, f_add, f_sub, f_neg, f_eqI, f_neI, f_eqB, f_neB, f_lt, f_le, f_gt, f_ge, f_is, f_isNot, isNone_int, isNone_tup, isNone_lst, isNone_non, f_len_l, f_len_t, f_len_rd, f_tup_l, f_tup_t, f_max2, f_min2, f_abs, f_sum_l, f_sum_t, f_ix0, f_ix1, f_ix2, f_ix3, f_rev_t, outR_nx, outR_rt, outR_exc, nones0, nonesS, runB_eq, ap_eSl, optI_none, optI_some, optO_int, ap_sWh, ap_iSeq, items_l, items_t, ap_iRange1, ap_iRange2, wipeE_nil, wipeE_cons, evA_nil, evA_cons, RL.cons_ok, RL.cons_exc, RL.bind_ok, RL.bind_exc, RL.out_ok, RL.out_exc, Rs.bind_ok, Rs.bind_exc, Rs.out_ok, Rs.out_exc, Rs.of_some, Option.bind_some, List.getElem?_cons_zero, List.getElem?_cons_succ, List.set_cons_zero, List.set_cons_succ, List.map_cons, List.map_nil, List.cons_append, List.nil_append, List.length_cons, List.length_nil, Nat.reduceAdd, Nat.reduceSub, Nat.reduceLeDiff, Nat.reduceLT, Bool.not_true, Bool.not_false, decide_true, decide_false])
theorem gcd_one (n : Nat) (a b : Int) (hb : 0 < b) : whGo gC gB (n + 1) [some (.val (.int a)), some (.val (.int b))] = whGo gC gB n [some (.val (.int b)), some (.val (.int (a % b)))] := by
  have ne : b ≠ 0 := by omega
  exact whGo_t (by simp -implicitDefEqProofs only [gC, ne, ap_sSeq, seqO_nx, seqO_rt, seqO_exc, ap_sIf, ifO_t, ifO_f, ifO_exc, ap_sNx, ap_sSet, ap_sOwn, ap_sRet, ap_sDrop, ap_sAsg, outB_some, bT_nm, bT_tp, bTs_nil, bTs_cons, ap_sRaise, ap_sPar, parO_ok, ap_sFor, ap_sRetV, retO_own, retO_val, ap_sFrz, frzO_own, frzO_val, ap_sApp, ap_sExt, ap_eV, valO_val, ap_eB, borO_val, borO_own, ap_eC, ap_eOp, opO_ok, ap_eUn, ap_eTup, ap_eLst, tupR_ok, lstR_ok, ap_eCB, ap_eCall, callO_ok, callO_exc, ap_gNot, notR_b, ap_gTru, truR_b, truR_list, ap_gAnd, ap_gOr, andO_t, andO_f, orO_t, orO_f, ap_eAnd, ap_eOr, eandO_t, eandO_f, eorO_t, eorO_f, ap_eNot, enotO_b, enotO_list, ap_eIf, eifO_t, eifO_f, ap_eChain, chO_ok, ap_eIsi, isiO_int, isiO_tup, isiO_lst, isiO_bl, isiO_str, isiO_non, isInt_int, isInt_bl, isInt_tup, isInt_lst, isInt_str, isInt_non, isBool_int, isBool_bl, isTup_tup, isTup_lst, isTup_int, isTup_non, isTup_str, isTup_bl, isLst_lst, isLst_tup, f_add, f_sub, f_neg, f_eqI, f_neI, f_eqB, f_neB, f_lt, f_le, f_gt, f_ge, f_is, f_isNot, isNone_int, isNone_tup, isNone_lst, isNone_non, f_len_l, f_len_t, f_len_rd, f_tup_l, f_tup_t, f_max2, f_min2, f_abs, f_sum_l, f_sum_t, f_ix0, f_ix1, f_ix2, f_ix3, f_rev_t, outR_nx, outR_rt, outR_exc, nones0, nonesS, runB_eq, ap_eSl, optI_none, optI_some, optO_int, ap_sWh, ap_iSeq, items_l, items_t, ap_iRange1, ap_iRange2, wipeE_nil, wipeE_cons, evA_nil, evA_cons, RL.cons_ok, RL.cons_exc, RL.bind_ok, RL.bind_exc, RL.out_ok, RL.out_exc, Rs.bind_ok, Rs.bind_exc, Rs.out_ok, Rs.out_exc, Rs.of_some, Option.bind_some, List.getElem?_cons_zero, List.getElem?_cons_succ, List.set_cons_zero, List.set_cons_succ, List.map_cons, List.map_nil, List.cons_append, List.nil_append, List.length_cons, List.length_nil, Nat.reduceAdd, Nat.reduceSub, Nat.reduceLeDiff, Nat.reduceLT, Bool.not_true, Bool.not_false, decide_true, decide_false]) (by simp -implicitDefEqProofs only [gB, f_modP a b hb, ap_sSeq, seqO_nx, seqO_rt, seqO_exc, ap_sIf, ifO_t, ifO_f, ifO_exc, ap_sNx, ap_sSet, ap_sOwn, ap_sRet, ap_sDrop, ap_sAsg, outB_some, bT_nm, bT_tp, bTs_nil, bTs_cons, ap_sRaise, ap_sPar, parO_ok, ap_sFor, ap_sRetV, retO_own, retO_val, ap_sFrz, frzO_own, frzO_val, ap_sApp, ap_sExt, ap_eV, valO_val, ap_eB, borO_val, borO_own, ap_eC, ap_eOp, opO_ok, ap_eUn, ap_eTup, ap_eLst, tupR_ok, lstR_ok, ap_eCB, ap_eCall, callO_ok, callO_exc, ap_gNot, notR_b, ap_gTru, truR_b, truR_list, ap_gAnd, ap_gOr, andO_t, andO_f, orO_t, orO_f, ap_eAnd, ap_eOr, eandO_t, eandO_f, eorO_t, eorO_f, ap_eNot, enotO_b, enotO_list, ap_eIf, eifO_t, eifO_f, ap_eChain, chO_ok, ap_eIsi, isiO_int, isiO_tup, isiO_lst, isiO_bl, isiO_str, isiO_non, isInt_int, isInt_bl, isInt_tup, isInt_lst, isInt_str, isInt_non, isBool_int, isBool_bl, isTup_tup, isTup_lst, isTup_int, isTup_non, isTup_str, isTup_bl, isLst_lst, isLst_tup, f_add, f_sub, f_neg, f_eqI, f_neI, f_eqB, f_neB, f_lt, f_le, f_gt, f_ge, f_is, f_isNot, isNone_int, isNone_tup, isNone_lst, isNone_non, f_len_l, f_len_t, f_len_rd, f_tup_l, f_tup_t, f_max2, f_min2, f_abs, f_sum_l, f_sum_t, f_ix0, f_ix1, f_ix2, f_ix3, f_rev_t, outR_nx, outR_rt, outR_exc, nones0, nonesS, runB_eq, ap_eSl, optI_none, optI_some, optO_int, ap_sWh, ap_iSeq, items_l, items_t, ap_iRange1, ap_iRange2, wipeE_nil, wipeE_cons, evA_nil, evA_cons, RL.cons_ok, RL.cons_exc, RL.bind_ok, RL.bind_exc, RL.out_ok, RL.out_exc, Rs.bind_ok, Rs.bind_exc, Rs.out_ok, Rs.out_exc, Rs.of_some, Option.bind_some, List.getElem?_cons_zero, List.getElem?_cons_succ, List.set_cons_zero, List.set_cons_succ, List.map_cons, List.map_nil, List.cons_append, List.nil_append, List.length_cons, List.length_nil, Nat.reduceAdd, Nat.reduceSub, Nat.reduceLeDiff, Nat.reduceLT, Bool.not_true, Bool.not_false, decide_true, decide_false])
theorem gcd_step' (a b : Int) : Int.gcd a b = Int.gcd b (a % b) := by
  have key : ∀ u v k : Int, ((Int.gcd u v : Nat) : Int) ∣ u - v * k := fun u v k => Int.dvd_sub (Int.gcd_dvd_left ..) (Int.dvd_trans (Int.gcd_dvd_right ..) (Int.dvd_mul_right ..))
  apply Nat.dvd_antisymm
  · refine Int.natCast_dvd_natCast.mp (Int.dvd_coe_gcd (Int.gcd_dvd_right ..) ?_)
    rw [Int.emod_def]
    exact key a b _
  · refine Int.natCast_dvd_natCast.mp (Int.dvd_coe_gcd ?_ (Int.gcd_dvd_left ..))
    have e : a = a % b + b * (a / b) := (Int.emod_add_mul_ediv a b).symm
    have h : ((Int.gcd b (a % b) : Nat) : Int) ∣ a % b + b * (a / b) := Int.dvd_add (Int.gcd_dvd_right ..) (Int.dvd_trans (Int.gcd_dvd_left ..) (Int.dvd_mul_right ..))
    rw [← e] at h
    exact h
theorem gcd_go : ∀ (k : Nat) (a b : Int), 0 ≤ b → b < 2 ^ k → ∀ m : Nat, ∃ g : Int, whGo gC gB (2 * k + 1 + m) [some (.val (.int a)), some (.val (.int b))] = .nx [some (.val (.int g)), some (.val (.int 0))] ∧ g.natAbs = Int.gcd a b
  | 0, a, b, h0, h, m => by
    obtain rfl : b = 0 := by omega
    refine ⟨a, ?_, by simp⟩
    rw [show 2 * 0 + 1 + m = m + 1 by omega]
    exact gcd_stop m a
  | k + 1, a, b, h0, h, m => by
    by_cases hb : b = 0
    · subst hb
      exact ⟨a, by rw [show 2 * (k + 1) + 1 + m = (2 * k + 2 + m) + 1 by omega]; exact gcd_stop _ a, by simp⟩
    · have r0 := Int.emod_nonneg a hb
      have r1 := Int.emod_lt_of_pos a (show 0 < b by omega)
      rw [show 2 * (k + 1) + 1 + m = ((2 * k + 1 + m) + 1) + 1 by omega, gcd_one _ a b (by omega), gcd_step' a b]
      generalize a % b = r at r0 r1
      by_cases hr : r = 0
      · subst hr
        exact ⟨b, gcd_stop _ b, by simp⟩
      · rw [gcd_one _ b r (by omega), gcd_step' b r]
        have q0 := Int.emod_nonneg b hr
        have q1 := Int.emod_lt_of_pos b (show 0 < r by omega)
        have q2 : b % r ≤ b - r := by
          have d1 : 1 ≤ b / r := Int.le_ediv_of_mul_le (by omega) (by omega)
          have d2 := Int.mul_le_mul_of_nonneg_left d1 (show 0 ≤ r by omega)
          have d3 := Int.emod_add_mul_ediv b r
          omega
        have h2 : (2 : Int) ^ (k + 1) = 2 ^ k * 2 := Int.pow_succ ..
        exact gcd_go k r (b % r) q0 (by omega) m
/-- the fraction a over b in least terms -/
def frD (a b : Int) : D := .tuple [.int (a / (Int.gcd a b : Int)), .int (b / (Int.gcd a b : Int))]
theorem gcd_pos {a b : Int} (h : 0 < b) : 0 < (Int.gcd a b : Int) := by
  have := Int.gcd_pos_of_ne_zero_right a (show b ≠ 0 by omega)
  omega
theorem fr_mul {a b : Int} : (a / (Int.gcd a b : Int)) * (Int.gcd a b : Int) = a ∧ (b / (Int.gcd a b : Int)) * (Int.gcd a b : Int) = b :=
  ⟨Int.ediv_mul_cancel (Int.gcd_dvd_left ..), Int.ediv_mul_cancel (Int.gcd_dvd_right ..)⟩
theorem fr_pos {a b : Int} (h : 0 < b) : 0 < b / (Int.gcd a b : Int) := by
  have g := gcd_pos (a := a) h
  have e := (fr_mul (a := a) (b := b)).2
  by_cases z : 0 < b / (Int.gcd a b : Int)
  · exact z
  · replace z : b / (Int.gcd a b : Int) ≤ 0 := by omega
    have := Int.mul_le_mul_of_nonneg_right z (Int.le_of_lt g)
    omega
theorem fr_one {a b : Int} (h : 0 < b) : Int.gcd (a / (Int.gcd a b : Int)) (b / (Int.gcd a b : Int)) = 1 := Int.gcd_ediv_gcd_ediv_gcd (Int.gcd_pos_of_ne_zero_right a (by omega))
theorem dvd_of_one {k m n : Int} (h : Int.gcd k m = 1) (hd : k ∣ m * n) : k ∣ n := by
  have h1 : k.natAbs ∣ m.natAbs * n.natAbs := by
    rw [← Int.natAbs_mul]
    exact Int.natAbs_dvd_natAbs.mpr hd
  exact Int.natAbs_dvd_natAbs.mp (Nat.Coprime.dvd_of_dvd_mul_left h h1)
/-- least terms are one -/
theorem coprime_uniq {a b c d : Int} (hb : 0 < b) (hd : 0 < d) (h1 : Int.gcd a b = 1) (h2 : Int.gcd c d = 1) (e : a * d = c * b) : a = c ∧ b = d := by
  have b1 : b ∣ d := by
    have : b ∣ a * d := ⟨c, by rw [e, Int.mul_comm]⟩
    exact dvd_of_one (by rw [Int.gcd_comm]; exact h1) this
  have b2 : d ∣ b := by
    have : d ∣ c * b := ⟨a, by rw [← e, Int.mul_comm]⟩
    exact dvd_of_one (by rw [Int.gcd_comm]; exact h2) this
  have ebd : b = d := Int.dvd_antisymm (by omega) (by omega) b1 b2
  subst ebd
  exact ⟨Int.eq_of_mul_eq_mul_right (by omega) e, rfl⟩
theorem fr_eq {a b c d : Int} (hb : 0 < b) (hd : 0 < d) (e : a * d = c * b) : a / (Int.gcd a b : Int) = c / (Int.gcd c d : Int) ∧ b / (Int.gcd a b : Int) = d / (Int.gcd c d : Int) := by
  refine coprime_uniq (fr_pos hb) (fr_pos hd) (fr_one hb) (fr_one hd) ?_
  obtain ⟨e1, e2⟩ := fr_mul (a := a) (b := b)
  obtain ⟨e3, e4⟩ := fr_mul (a := c) (b := d)
  have g1 := gcd_pos (a := a) hb
  have g2 := gcd_pos (a := c) hd
  generalize a / (Int.gcd a b : Int) = n at *
  generalize b / (Int.gcd a b : Int) = m at *
  generalize c / (Int.gcd c d : Int) = n' at *
  generalize d / (Int.gcd c d : Int) = m' at *
  generalize (Int.gcd a b : Int) = g at *
  generalize (Int.gcd c d : Int) = g' at *
  subst e1 e2 e3 e4
  have : (n * m') * (g * g') = (n' * m) * (g * g') := by grind
  exact Int.eq_of_mul_eq_mul_right (by have := Int.mul_pos g1 g2; omega) this
theorem frD_eq {a b c d : Int} (hb : 0 < b) (hd : 0 < d) (e : a * d = c * b) : frD a b = frD c d := by
  obtain ⟨h1, h2⟩ := fr_eq hb hd e
  unfold frD
  rw [h1, h2]
theorem frD_inj {a b c d : Int} (hb : 0 < b) (hd : 0 < d) (e : frD a b = frD c d) : a * d = c * b := by
  unfold frD at e
  simp -implicitDefEqProofs only [PyData.tuple.injEq, List.cons.injEq, PyData.int.injEq, and_true] at e
  obtain ⟨h1, h2⟩ := e
  obtain ⟨e1, e2⟩ := fr_mul (a := a) (b := b)
  obtain ⟨e3, e4⟩ := fr_mul (a := c) (b := d)
  rw [h1] at e1
  rw [h2] at e2
  generalize c / (Int.gcd c d : Int) = n' at *
  generalize d / (Int.gcd c d : Int) = m' at *
  generalize (Int.gcd a b : Int) = g at *
  generalize (Int.gcd c d : Int) = g' at *
  subst e1 e2 e3 e4
  grind
theorem frD_one (a : Int) : frD a 1 = .tuple [.int a, .int 1] := by
  unfold frD
  rw [Int.gcd_one_right]
  simp
theorem frD_neg {a b : Int} : frD (-a) b = .tuple [.int (-(a / (Int.gcd a b : Int))), .int (b / (Int.gcd a b : Int))] := by
  unfold frD
  rw [Int.neg_gcd, Int.neg_ediv_of_dvd (Int.gcd_dvd_left ..)]
theorem frD_ly (a b : Int) : Ly 1 (frD a b) := Ly.tuple fun d hd => by
  simp -implicitDefEqProofs only [List.mem_cons, List.not_mem_nil, or_false] at hd
  rcases hd with rfl | rfl <;> exact Ly.int 0 _
end VVlaw

set_option Elab.async false
set_option linter.all false
set_option maxRecDepth 100000
set_option maxHeartbeats 4000000
namespace VVlaw
open PySem PySem.Spec L2 VV
open PyProof.Rows hiding St
def lp__law_common_1 : SF := (sPar 0 1 [(eV 1), (eOp modF (eV 0) (eV 1))])
def b__law_common : SF := (sSeq (sWh 1000000 (eOp neF (eV 1) (eC (.int 0))) lp__law_common_1) (sRet (eCB absF [(eV 0)])))
def sem__law_common : List D → Rs := runB 2 2 b__law_common
def b__law_least : SF := (sSeq (sSet 2 (eCall sem__law_common [(eV 0), (eV 1)])) (sSeq (sSet 2 (eIf (eOp ltF (eV 1) (eC (.int 0))) (eUn negF (eV 2)) (eV 2))) (sRet (eTup [(eOp divF (eV 0) (eV 2)), (eOp divF (eV 1) (eV 2))]))))
def sem__law_least : List D → Rs := runB 2 3 b__law_least
def b__law_plus : SF := (sRet (eCall sem__law_least [(eOp addF (eOp mulF (eOp ixF (eV 0) (eC (.int 0))) (eOp ixF (eV 1) (eC (.int 1)))) (eOp mulF (eOp ixF (eV 1) (eC (.int 0))) (eOp ixF (eV 0) (eC (.int 1))))), (eOp mulF (eOp ixF (eV 0) (eC (.int 1))) (eOp ixF (eV 1) (eC (.int 1))))]))
def sem__law_plus : List D → Rs := runB 2 2 b__law_plus
def b__law_times : SF := (sRet (eCall sem__law_least [(eOp mulF (eOp ixF (eV 0) (eC (.int 0))) (eOp ixF (eV 1) (eC (.int 0)))), (eOp mulF (eOp ixF (eV 0) (eC (.int 1))) (eOp ixF (eV 1) (eC (.int 1))))]))
def sem__law_times : List D → Rs := runB 2 2 b__law_times
def lp__law_steps_1 : SF := (sSeq (sPar 6 7 [(eOp subF (eV 5) (eOp ixF (eV 2) (eC (.int 0)))), (eOp subF (eV 4) (eOp ixF (eV 2) (eC (.int 1))))]) (sIf (gAnd (eChain leF ltF (eC (.int 0)) (eV 7) (eCB lenF [(eV 1)])) (eChain leF ltF (eC (.int 0)) (eV 6) (eCB lenF [(eOp ixF (eV 1) (eC (.int 0)))]))) (sPutD 3 (eTup [(eV 5), (eV 4)]) (eOp subF (eOp ixF (eOp ixF (eV 0) (eV 4)) (eV 5)) (eOp ixF (eOp ixF (eV 1) (eV 7)) (eV 6)))) sNx))
def lp__law_steps_2 : SF := (sFor (iRange1 [(eCB lenF [(eOp ixF (eV 0) (eC (.int 0)))])]) (.nm 5) lp__law_steps_1)
def b__law_steps : SF := (sSeq (sOwn 3 (eC (.dict [(.none, .none)]))) (sSeq (sFor (iRange1 [(eCB lenF [(eV 0)])]) (.nm 4) lp__law_steps_2) (sRetV 3)))
def sem__law_steps : List D → Rs := runB 3 8 b__law_steps
def lp__law_unlike_1 : SF := (sSeq (sSet 5 (eCall sem__law_plus [(eTup [(eV 4), (eC (.int 1))]), (eTup [(eUn negF (eOp ixF (eV 2) (eC (.int 0)))), (eOp ixF (eV 2) (eC (.int 1)))])])) (sSet 3 (eCall sem__law_plus [(eV 3), (eCall sem__law_times [(eV 5), (eV 5)])])))
def b__law_unlike : SF := (sSeq (sSet 1 (eLc [6] (iSeq (eCB sortF [(eV 0)])) (.nm 6) (eC (.bool true)) (eOp dixF (eV 0) (eV 6)))) (sSeq (sIf (eOp eqF (eV 1) (eLst [])) (sRet (eC .none)) sNx) (sSeq (sSet 2 (eCall sem__law_least [(eCB sumF [(eV 1)]), (eCB lenF [(eV 1)])])) (sSeq (sSet 3 (eTup [(eC (.int 0)), (eC (.int 1))])) (sSeq (sFor (iSeq (eV 1)) (.nm 4) lp__law_unlike_1) (sRet (eCall sem__law_times [(eV 3), (eTup [(eC (.int 1)), (eCB lenF [(eV 1)])])])))))))
def sem__law_unlike : List D → Rs := runB 1 7 b__law_unlike
end VVlaw

set_option Elab.async false
set_option linter.all false
set_option maxRecDepth 100000
set_option maxHeartbeats 4000000
/-! PLf: what ways back, light, mirrors and parts do to the steps. -/
namespace VVlaw
open PySem PySem.Spec L2 VV
open PyProof.Rows hiding St
theorem flatMap_congr' {α β : Type} {f g : α → List β} : ∀ {xs : List α}, (∀ x ∈ xs, f x = g x) → xs.flatMap f = xs.flatMap g
  | [], _ => rfl
  | x :: xs, h => by rw [List.flatMap_cons, List.flatMap_cons, h x (by simp), flatMap_congr' fun y hy => h y (by simp [hy])]
theorem flatMap_perm {α β : Type} {f g : α → List β} : ∀ {xs : List α}, (∀ x ∈ xs, (f x).Perm (g x)) → (xs.flatMap f).Perm (xs.flatMap g)
  | [], _ => List.Perm.refl _
  | x :: xs, h => by
    rw [List.flatMap_cons, List.flatMap_cons]
    exact (h x (by simp)).append (flatMap_perm fun y hy => h y (by simp [hy]))
theorem sum_perm {L M : List Int} (h : L.Perm M) : L.sum = M.sum := by
  induction h with
  | nil => rfl
  | cons x _ ih => rw [List.sum_cons, List.sum_cons, ih]
  | swap x y l => simp -implicitDefEqProofs only [List.sum_cons]; omega
  | trans _ _ a b => exact a.trans b
theorem unl_perm {L M : List Int} (h : L.Perm M) : unl L = unl M := unl_of h.length_eq (by rw [h.length_eq, sum_perm h, sum_perm (h.map _)])
theorem sum_neg (L : List Int) : (L.map fun x => -x).sum = -L.sum := by
  induction L with
  | nil => rfl
  | cons x L ih => rw [List.map_cons, List.sum_cons, List.sum_cons, ih]; omega
theorem unl_neg (L : List Int) : unl (L.map fun x => -x) = unl L := by
  refine unl_of (by simp) ?_
  rw [sum_neg, List.map_map, List.length_map]
  have : ((fun x : Int => x * x) ∘ fun x => -x) = fun x => x * x := by funext x; simp -implicitDefEqProofs only [Function.comp, Int.neg_mul_neg]
  rw [this]
  grind
theorem sum_add (k : Int) (L : List Int) : (L.map fun x => x + k).sum = L.sum + L.length * k := by
  induction L with
  | nil => simp
  | cons x L ih => rw [List.map_cons, List.sum_cons, List.sum_cons, ih, List.length_cons]; grind
theorem sum_addsq (k : Int) (L : List Int) : ((L.map fun x => x + k).map fun x => x * x).sum = (L.map fun x => x * x).sum + 2 * k * L.sum + L.length * k * k := by
  induction L with
  | nil => simp
  | cons x L ih => simp -implicitDefEqProofs only [List.map_cons, List.sum_cons, List.length_cons, ih]; grind
theorem unl_add (k : Int) (L : List Int) : unl (L.map fun x => x + k) = unl L := by
  refine unl_of (by simp) ?_
  rw [sum_add, sum_addsq, List.length_map]
  grind
theorem rangeI_shift (lo c : Int) (n : Nat) : rangeI (lo + c) n = (rangeI lo n).map fun x => x + c := by
  unfold rangeI
  rw [List.map_map]
  congr 1
  funext i
  simp -implicitDefEqProofs only [Function.comp]
  omega
theorem rangeI_rev (lo c : Int) (n : Nat) : (rangeI lo n).map (fun x => c - x) = (rangeI (c - lo - n + 1) n).reverse := by
  apply List.ext_getElem
  · simp [rangeI]
  · intro i h1 h2
    simp -implicitDefEqProofs only [rangeI, List.length_map, List.length_range] at h1
    simp -implicitDefEqProofs only [rangeI, List.getElem_map, List.getElem_reverse, List.getElem_range, List.length_map, List.length_range]
    omega
/-- the way back -/
theorem steps_back (a b : List (List Int)) (w h w' h' p q : Int) : steps b a w' h' w h (-p) (-q) = (steps a b w h w' h' p q).map fun x => -x := by
  unfold steps stepsG
  have e1 : max 0 (-q) = max 0 q + -q := by omega
  have e2 : min h' (-q + h) - max 0 (-q) = min h (q + h') - max 0 q := by omega
  have e3 : min w' (-p + w) - max 0 (-p) = min w (p + w') - max 0 p := by omega
  have e4 : max 0 (-p) = max 0 p + -p := by omega
  rw [e2, e3, e1, e4, rangeI_shift, List.flatMap_map, List.map_flatMap]
  refine flatMap_congr' fun y _ => ?_
  unfold stepRow
  rw [rangeI_shift, List.map_map, List.map_map]
  refine List.map_congr_left fun x _ => ?_
  simp -implicitDefEqProofs only [Function.comp]
  have f1 : y + -q = y - q := by omega
  have f2 : y - q - -q = y := by omega
  have f3 : x + -p = x - p := by omega
  have f4 : x - p - -p = x := by omega
  rw [f1, f2, f3, f4]
  omega
theorem box_back (w h w' h' p q : Int) : (boxD w h w' h' p q = .none ↔ boxD w' h' w h (-p) (-q) = .none) := by
  unfold boxD
  constructor
  · intro z
    split at z
    · cases z
    · rw [if_neg (by omega)]
  · intro z
    split at z
    · cases z
    · rw [if_neg (by omega)]
theorem getD_map {α β : Type} (f : α → β) (xs : List α) (k : Nat) (d : α) (e : β) (h : k < xs.length) : (xs.map f).getD k e = f (xs.getD k d) := by
  rw [List.getD_eq_getElem?_getD, List.getD_eq_getElem?_getD, List.getElem?_map, List.getElem?_eq_getElem h]
  rfl
theorem cell_lit {s : List (List Int)} {h w : Nat} (S : Sh s h w) (c y x : Int) (hy : 0 ≤ y) (hyh : y < h) (hx : 0 ≤ x) (hxw : x < w) : cell (litL c s) y x = min (max (cell s y x + c) 0) 255 := by
  unfold cell litL
  have e : rw' (s.map fun r => r.map fun v => min (max (v + c) 0) 255) y = (rw' s y).map fun v => min (max (v + c) 0) 255 := by
    unfold rw'
    exact getD_map _ s y.toNat [] [] (by rw [S.len]; omega)
  rw [e]
  exact getD_map (fun v => min (max (v + c) 0) 255) _ x.toNat 0 0 (by rw [S.rlen hy hyh]; omega)
theorem mem_cell {s : List (List Int)} {h w : Nat} (S : Sh s h w) (y x : Int) (hy : 0 ≤ y) (hyh : y < h) (hx : 0 ≤ x) (hxw : x < w) : cell s y x ∈ rw' s y := by
  have : x.toNat < (rw' s y).length := by rw [S.rlen hy hyh]; omega
  unfold cell
  rw [List.getD_eq_getElem?_getD, List.getElem?_eq_getElem this]
  exact List.getElem_mem this
theorem steps_lit {a b : List (List Int)} {h w h' w' : Nat} (A : Sh a h w) (B : Sh b h' w') (c d p q : Int) (hc : 0 ≤ c) (hd : 0 ≤ d) (ha : ∀ r ∈ a, ∀ v ∈ r, v + c ≤ 255) (hb : ∀ r ∈ b, ∀ v ∈ r, v + d ≤ 255) :
    steps (litL c a) (litL d b) w h w' h' p q = (steps a b w h w' h' p q).map fun x => x + (c - d) := by
  unfold steps stepsG
  rw [List.map_flatMap]
  refine flatMap_congr' fun y hy => ?_
  have hy' := mem_rangeI.mp hy
  unfold stepRow
  rw [List.map_map]
  refine List.map_congr_left fun x hx => ?_
  have hx' := mem_rangeI.mp hx
  simp -implicitDefEqProofs only [Function.comp]
  have y1 : 0 ≤ y := by omega
  have y2 : y < h := by omega
  have y3 : 0 ≤ y - q := by omega
  have y4 : y - q < h' := by omega
  have x1 : 0 ≤ x := by omega
  have x2 : x < w := by omega
  have x3 : 0 ≤ x - p := by omega
  have x4 : x - p < w' := by omega
  rw [cell_lit A c y x y1 y2 x1 x2, cell_lit B d _ _ y3 y4 x3 x4]
  have m1 := ha _ (A.mem y1 y2) _ (mem_cell A y x y1 y2 x1 x2)
  have m2 := hb _ (B.mem y3 y4) _ (mem_cell B _ _ y3 y4 x3 x4)
  have n1 := cell_bd A y x
  have n2 := cell_bd B (y - q) (x - p)
  omega
theorem cell_mir {s : List (List Int)} {h w : Nat} (S : Sh s h w) (y x : Int) (hy : 0 ≤ y) (hyh : y < h) (hx : 0 ≤ x) (hxw : x < w) : cell (s.map List.reverse) y x = cell s y (w - 1 - x) := by
  unfold cell
  have e : rw' (s.map List.reverse) y = (rw' s y).reverse := by
    unfold rw'
    exact getD_map _ s y.toNat [] [] (by rw [S.len]; omega)
  have l := S.rlen hy hyh
  rw [e, List.getD_eq_getElem?_getD, List.getD_eq_getElem?_getD, List.getElem?_reverse (by rw [l]; omega), l]
  congr 2
  omega
theorem steps_mir {a b : List (List Int)} {h w h' w' : Nat} (A : Sh a h w) (B : Sh b h' w') (p q : Int) : (steps (a.map List.reverse) (b.map List.reverse) w h w' h' (w - w' - p) q).Perm (steps a b w h w' h' p q) := by
  unfold steps stepsG
  refine flatMap_perm fun y hy => ?_
  have hy' := mem_rangeI.mp hy
  have e : stepRow (a.map List.reverse) (b.map List.reverse) (w - w' - p) q (max 0 (w - w' - p)) (min (w : Int) (w - w' - p + w') - max 0 (w - w' - p)).toNat y = (stepRow a b p q (max 0 p) (min (w : Int) (p + w') - max 0 p).toNat y).reverse := by
    unfold stepRow
    have em : (min (w : Int) (w - w' - p + w') - max 0 (w - w' - p)).toNat = (min (w : Int) (p + w') - max 0 p).toNat := by omega
    by_cases hz : (min (w : Int) (p + w') - max 0 p).toNat = 0
    · rw [em, hz]
      rfl
    · have er : rangeI (max 0 p) (min (w : Int) (p + w') - max 0 p).toNat = ((rangeI (max 0 (w - w' - p)) (min (w : Int) (p + w') - max 0 p).toNat).map fun x => (w - 1 : Int) - x).reverse := by
        rw [rangeI_rev, List.reverse_reverse]
        congr 1
        omega
      rw [em, er, ← List.map_reverse, List.reverse_reverse, List.map_map]
      refine List.map_congr_left fun x hx => ?_
      have hx' := mem_rangeI.mp hx
      simp -implicitDefEqProofs only [Function.comp]
      rw [cell_mir A y x (by omega) (by omega) (by omega) (by omega), cell_mir B (y - q) (x - (w - w' - p)) (by omega) (by omega) (by omega) (by omega)]
      congr 2
      omega
  rw [e]
  exact List.reverse_perm _
theorem cell_cut {s : List (List Int)} {h w : Nat} (S : Sh s h w) (x y wide high : Nat) (hxw : x + wide ≤ w) (hyh : y + high ≤ h) (v u : Int) (hv : (y : Int) ≤ v) (hv2 : v < y + high) (hu : (x : Int) ≤ u) (hu2 : u < x + wide) : cell (cutS' s x y wide high) (v - y) (u - x) = cell s v u := by
  unfold cell
  have e : rw' (cutS' s x y wide high) (v - y) = ((rw' s v).drop x).take wide := by
    unfold rw' cutS'
    rw [getD_map (fun r : List Int => (r.drop x).take wide) _ (v - y).toNat [] [] (by rw [List.length_take, List.length_drop, S.len]; omega)]
    congr 2
    rw [List.getD_eq_getElem?_getD, List.getD_eq_getElem?_getD, List.getElem?_take_of_lt (by omega), List.getElem?_drop]
    congr 2
    omega
  rw [e, List.getD_eq_getElem?_getD, List.getD_eq_getElem?_getD, List.getElem?_take_of_lt (by omega), List.getElem?_drop]
  congr 2
  omega
theorem steps_cut {s : List (List Int)} {h w : Nat} (S : Sh s h w) (x y wide high : Nat) (hxw : x + wide ≤ w) (hyh : y + high ≤ h) : ∀ z ∈ steps s (cutS' s x y wide high) w h wide high x y, z = 0 := by
  intro z hz
  unfold steps stepsG at hz
  obtain ⟨v, hv, hz⟩ := List.mem_flatMap.mp hz
  unfold stepRow at hz
  obtain ⟨u, hu, rfl⟩ := List.mem_map.mp hz
  have hv' := mem_rangeI.mp hv
  have hu' := mem_rangeI.mp hu
  rw [cell_cut S x y wide high hxw hyh v u (by omega) (by omega) (by omega) (by omega)]
  omega
theorem unl_zero {L : List Int} (h : ∀ z ∈ L, z = 0) (hn : L ≠ []) (hl : L.length ≤ 144) : unl L = .tuple [.int 0, .int 1] := by
  have e1 : L.sum = 0 := by
    have := sum_bd 0 L fun x hx => by rw [h x hx]; omega
    omega
  have e2 : (L.map fun x => x * x).sum = 0 := by
    have := sum_bd 0 (L.map fun x => x * x) fun x hx => by
      obtain ⟨y, hy, rfl⟩ := List.mem_map.mp hx
      rw [h y hy]
      decide
    omega
  have hp : 0 < L.length := List.length_pos_iff.mpr hn
  have hb1 : 0 < (L.length : Int) * L.length := Int.mul_pos (by omega) (by omega)
  unfold unl
  rw [if_neg hn, e1, e2]
  have e3 : (L.length : Int) * 0 - 0 * 0 = 0 := by omega
  rw [e3]
  have e : ((Int.gcd 0 ((L.length : Int) * L.length) : Nat) : Int) = (L.length : Int) * L.length := by rw [Int.gcd_zero_left]; omega
  rw [e, Int.zero_ediv, Int.ediv_self (by omega)]
theorem steps_length (a b : List (List Int)) (w h w' h' p q : Int) : (steps a b w h w' h' p q).length = (min h (q + h') - max 0 q).toNat * (min w (p + w') - max 0 p).toNat := stepsG_length ..
theorem steps_ne {a b : List (List Int)} {w h w' h' p q : Int} (h1 : max 0 p < min w (p + w')) (h2 : max 0 q < min h (q + h')) : steps a b w h w' h' p q ≠ [] := fun z => by
  have := steps_length a b w h w' h' p q
  rw [z, List.length_nil] at this
  rcases Nat.mul_eq_zero.mp this.symm with z | z <;> omega
end VVlaw

set_option Elab.async false
set_option linter.all false
set_option maxRecDepth 100000
set_option maxHeartbeats 4000000
/-! PLk: the laws' own fractions, steps, unlikeness. -/
namespace VVlaw
open PySem PySem.Spec L2 VV
open PyProof.Rows hiding St
theorem gcd_go_big (a b : Int) (h0 : 0 ≤ b) (hb : Bd 8000 b) : ∃ g : Int, whGo gC gB 1000000 [some (.val (.int a)), some (.val (.int b))] = .nx [some (.val (.int g)), some (.val (.int 0))] ∧ g.natAbs = Int.gcd a b := by
  have h : b < 2 ^ 8000 := by
    unfold Bd at hb
    have e : ((2 ^ 8000 : Nat) : Int) = 2 ^ 8000 := by
      rw [Int.natCast_pow]
      rfl
    have e2 : b = (b.natAbs : Int) := by omega
    rw [e2, ← e]
    exact Int.ofNat_lt.mpr hb
  obtain ⟨g, e, eg⟩ := gcd_go 8000 a b h0 h 983999
  exact ⟨g, e, eg⟩
theorem lcommon_big (a b : Int) (h0 : 0 ≤ b) (hb : Bd 8000 b) : sem__law_common [.int a, .int b] = .ok (.int (Int.gcd a b)) := by
  obtain ⟨g, e, eg⟩ := gcd_go_big a b h0 hb
  have e' : whGo (eOp neF (eV 1) (eC (.int 0))) lp__law_common_1 1000000 [some (.val (.int a)), some (.val (.int b))] = .nx [some (.val (.int g)), some (.val (.int 0))] := e
  simp -implicitDefEqProofs only [sem__law_common, b__law_common, e', ap_sSeq, seqO_nx, seqO_rt, seqO_exc, ap_sIf, ifO_t, ifO_f, ifO_exc, ap_sNx, ap_sSet, ap_sOwn, ap_sRet, ap_sDrop, ap_sAsg, outB_some, bT_nm, bT_tp, bTs_nil, bTs_cons, ap_sRaise, ap_sPar, parO_ok, ap_sFor, ap_sRetV, retO_own, retO_val, ap_sFrz, frzO_own, frzO_val, ap_sApp, ap_sExt, ap_eV, valO_val, ap_eB, borO_val, borO_own, ap_eC, ap_eOp, opO_ok, ap_eUn, ap_eTup, ap_eLst, tupR_ok, lstR_ok, ap_eCB, ap_eCall, callO_ok, callO_exc, ap_gNot, notR_b, ap_gTru, truR_b, truR_list, ap_gAnd, ap_gOr, andO_t, andO_f, orO_t, orO_f, ap_eAnd, ap_eOr, eandO_t, eandO_f, eorO_t, eorO_f, ap_eNot, enotO_b, enotO_list, ap_eIf, eifO_t, eifO_f, ap_eChain, chO_ok, ap_eIsi, isiO_int, isiO_tup, isiO_lst, isiO_bl, isiO_str, isiO_non, isInt_int, isInt_bl, isInt_tup, isInt_lst, isInt_str, isInt_non, isBool_int, isBool_bl, isTup_tup, isTup_lst, isTup_int, isTup_non, isTup_str, isTup_bl, isLst_lst, isLst_tup, f_add, f_sub, f_neg, f_eqI, f_neI, f_eqB, f_neB, f_lt, f_le, f_gt, f_ge, f_is, f_isNot, isNone_int, isNone_tup, isNone_lst, isNone_non, f_len_l, f_len_t, f_len_rd, f_tup_l, f_tup_t, f_max2, f_min2, f_abs, f_sum_l, f_sum_t, f_ix0, f_ix1, f_ix2, f_ix3, f_rev_t, outR_nx, outR_rt, outR_exc, nones0, nonesS, runB_eq, ap_eSl, optI_none, optI_some, optO_int, ap_sWh, ap_iSeq, items_l, items_t, ap_iRange1, ap_iRange2, wipeE_nil, wipeE_cons, evA_nil, evA_cons, RL.cons_ok, RL.cons_exc, RL.bind_ok, RL.bind_exc, RL.out_ok, RL.out_exc, Rs.bind_ok, Rs.bind_exc, Rs.out_ok, Rs.out_exc, Rs.of_some, Option.bind_some, List.getElem?_cons_zero, List.getElem?_cons_succ, List.set_cons_zero, List.set_cons_succ, List.map_cons, List.map_nil, List.cons_append, List.nil_append, List.length_cons, List.length_nil, Nat.reduceAdd, Nat.reduceSub, Nat.reduceLeDiff, Nat.reduceLT, Bool.not_true, Bool.not_false, decide_true, decide_false]
  congr 2
  rw [← eg]
  split <;> omega
theorem Bd.gcd {k : Nat} {a b : Int} (h0 : 0 < b) (hb : Bd k b) : Bd k (Int.gcd a b : Int) := by
  unfold Bd at *
  have := Int.le_of_dvd h0 (Int.gcd_dvd_right (a := a) (b := b))
  omega
theorem lleast_big (a b : Int) (h0 : 0 < b) (hb : Bd 8000 b) : sem__law_least [.int a, .int b] = .ok (frD a b) := by
  have hn : ¬ b < 0 := by omega
  have g0 := gcd_pos (a := a) h0
  have gb := Bd.gcd (a := a) h0 hb
  simp -implicitDefEqProofs only [sem__law_least, b__law_least, lcommon_big a b (by omega) hb, hn, ap_sSeq, seqO_nx, seqO_rt, seqO_exc, ap_sIf, ifO_t, ifO_f, ifO_exc, ap_sNx, ap_sSet, ap_sOwn, ap_sRet, ap_sDrop, ap_sAsg, outB_some, bT_nm, bT_tp, bTs_nil, bTs_cons, ap_sRaise, ap_sPar, parO_ok, ap_sFor, ap_sRetV, retO_own, retO_val, ap_sFrz, frzO_own, frzO_val, ap_sApp, ap_sExt, ap_eV, valO_val, ap_eB, borO_val, borO_own, ap_eC, ap_eOp, opO_ok, ap_eUn, ap_eTup, ap_eLst, tupR_ok, lstR_ok, ap_eCB, ap_eCall, callO_ok, callO_exc, ap_gNot, notR_b, ap_gTru, truR_b, truR_list, ap_gAnd, ap_gOr, andO_t, andO_f, orO_t, orO_f, ap_eAnd, ap_eOr, eandO_t, eandO_f, eorO_t, eorO_f, ap_eNot, enotO_b, enotO_list, ap_eIf, eifO_t, eifO_f, ap_eChain, chO_ok, ap_eIsi, isiO_int, isiO_tup, isiO_lst, isiO_bl, isiO_str, isiO_non, isInt_int, isInt_bl, isInt_tup, isInt_lst, isInt_str, isInt_non, isBool_int, isBool_bl, isTup_tup, isTup_lst, isTup_int, isTup_non, isTup_str, isTup_bl, isLst_lst, isLst_tup, f_add, f_sub, f_neg, f_eqI, f_neI, f_eqB, f_neB, f_lt, f_le, f_gt, f_ge, f_is, f_isNot, isNone_int, isNone_tup, isNone_lst, isNone_non, f_len_l, f_len_t, f_len_rd, f_tup_l, f_tup_t, f_max2, f_min2, f_abs, f_sum_l, f_sum_t, f_ix0, f_ix1, f_ix2, f_ix3, f_rev_t, outR_nx, outR_rt, outR_exc, nones0, nonesS, runB_eq, ap_eSl, optI_none, optI_some, optO_int, ap_sWh, ap_iSeq, items_l, items_t, ap_iRange1, ap_iRange2, wipeE_nil, wipeE_cons, evA_nil, evA_cons, RL.cons_ok, RL.cons_exc, RL.bind_ok, RL.bind_exc, RL.out_ok, RL.out_exc, Rs.bind_ok, Rs.bind_exc, Rs.out_ok, Rs.out_exc, Rs.of_some, Option.bind_some, List.getElem?_cons_zero, List.getElem?_cons_succ, List.set_cons_zero, List.set_cons_succ, List.map_cons, List.map_nil, List.cons_append, List.nil_append, List.length_cons, List.length_nil, Nat.reduceAdd, Nat.reduceSub, Nat.reduceLeDiff, Nat.reduceLT, Bool.not_true, Bool.not_false, decide_true, decide_false]
  rw [f_divB a _ g0 gb (by decide) (by decide), f_divB b _ g0 gb (by decide) (by decide)]
  simp -implicitDefEqProofs only [ap_sSeq, seqO_nx, seqO_rt, seqO_exc, ap_sIf, ifO_t, ifO_f, ifO_exc, ap_sNx, ap_sSet, ap_sOwn, ap_sRet, ap_sDrop, ap_sAsg, outB_some, bT_nm, bT_tp, bTs_nil, bTs_cons, ap_sRaise, ap_sPar, parO_ok, ap_sFor, ap_sRetV, retO_own, retO_val, ap_sFrz, frzO_own, frzO_val, ap_sApp, ap_sExt, ap_eV, valO_val, ap_eB, borO_val, borO_own, ap_eC, ap_eOp, opO_ok, ap_eUn, ap_eTup, ap_eLst, tupR_ok, lstR_ok, ap_eCB, ap_eCall, callO_ok, callO_exc, ap_gNot, notR_b, ap_gTru, truR_b, truR_list, ap_gAnd, ap_gOr, andO_t, andO_f, orO_t, orO_f, ap_eAnd, ap_eOr, eandO_t, eandO_f, eorO_t, eorO_f, ap_eNot, enotO_b, enotO_list, ap_eIf, eifO_t, eifO_f, ap_eChain, chO_ok, ap_eIsi, isiO_int, isiO_tup, isiO_lst, isiO_bl, isiO_str, isiO_non, isInt_int, isInt_bl, isInt_tup, isInt_lst, isInt_str, isInt_non, isBool_int, isBool_bl, isTup_tup, isTup_lst, isTup_int, isTup_non, isTup_str, isTup_bl, isLst_lst, isLst_tup, f_add, f_sub, f_neg, f_eqI, f_neI, f_eqB, f_neB, f_lt, f_le, f_gt, f_ge, f_is, f_isNot, isNone_int, isNone_tup, isNone_lst, isNone_non, f_len_l, f_len_t, f_len_rd, f_tup_l, f_tup_t, f_max2, f_min2, f_abs, f_sum_l, f_sum_t, f_ix0, f_ix1, f_ix2, f_ix3, f_rev_t, outR_nx, outR_rt, outR_exc, nones0, nonesS, runB_eq, ap_eSl, optI_none, optI_some, optO_int, ap_sWh, ap_iSeq, items_l, items_t, ap_iRange1, ap_iRange2, wipeE_nil, wipeE_cons, evA_nil, evA_cons, RL.cons_ok, RL.cons_exc, RL.bind_ok, RL.bind_exc, RL.out_ok, RL.out_exc, Rs.bind_ok, Rs.bind_exc, Rs.out_ok, Rs.out_exc, Rs.of_some, Option.bind_some, List.getElem?_cons_zero, List.getElem?_cons_succ, List.set_cons_zero, List.set_cons_succ, List.map_cons, List.map_nil, List.cons_append, List.nil_append, List.length_cons, List.length_nil, Nat.reduceAdd, Nat.reduceSub, Nat.reduceLeDiff, Nat.reduceLT, Bool.not_true, Bool.not_false, decide_true, decide_false]
  rfl
/-- a fraction's parts are no greater -/
theorem Bd.fr {k : Nat} {a b : Int} (ha : Bd k a) (hb : Bd k b) : Bd k (a / (Int.gcd a b : Int)) ∧ Bd k (b / (Int.gcd a b : Int)) := ⟨ha.dvd (Int.gcd_dvd_left ..), hb.dvd (Int.gcd_dvd_right ..)⟩
theorem lplus_raw (n m n' m' : Int) (h0 : 0 < m) (h0' : 0 < m') (h1 : Bd 1000 n) (h2 : Bd 1000 m) (h3 : Bd 1000 n') (h4 : Bd 1000 m') :
    sem__law_plus [.tuple [.int n, .int m], .tuple [.int n', .int m']] = .ok (frD (n * m' + n' * m) (m * m')) := by
  have e1 := f_mulB n m' h1 h4 (by decide) (by decide) (by decide)
  have e2 := f_mulB n' m h3 h2 (by decide) (by decide) (by decide)
  have e3 := f_mulB m m' h2 h4 (by decide) (by decide) (by decide)
  simp -implicitDefEqProofs only [sem__law_plus, b__law_plus, e1, e2, e3, lleast_big _ _ (Int.mul_pos h0 h0') ((h2.mul h4).mono (by decide)), ap_sSeq, seqO_nx, seqO_rt, seqO_exc, ap_sIf, ifO_t, ifO_f, ifO_exc, ap_sNx, ap_sSet, ap_sOwn, ap_sRet, ap_sDrop, ap_sAsg, outB_some, bT_nm, bT_tp, bTs_nil, bTs_cons, ap_sRaise, ap_sPar, parO_ok, ap_sFor, ap_sRetV, retO_own, retO_val, ap_sFrz, frzO_own, frzO_val, ap_sApp, ap_sExt, ap_eV, valO_val, ap_eB, borO_val, borO_own, ap_eC, ap_eOp, opO_ok, ap_eUn, ap_eTup, ap_eLst, tupR_ok, lstR_ok, ap_eCB, ap_eCall, callO_ok, callO_exc, ap_gNot, notR_b, ap_gTru, truR_b, truR_list, ap_gAnd, ap_gOr, andO_t, andO_f, orO_t, orO_f, ap_eAnd, ap_eOr, eandO_t, eandO_f, eorO_t, eorO_f, ap_eNot, enotO_b, enotO_list, ap_eIf, eifO_t, eifO_f, ap_eChain, chO_ok, ap_eIsi, isiO_int, isiO_tup, isiO_lst, isiO_bl, isiO_str, isiO_non, isInt_int, isInt_bl, isInt_tup, isInt_lst, isInt_str, isInt_non, isBool_int, isBool_bl, isTup_tup, isTup_lst, isTup_int, isTup_non, isTup_str, isTup_bl, isLst_lst, isLst_tup, f_add, f_sub, f_neg, f_eqI, f_neI, f_eqB, f_neB, f_lt, f_le, f_gt, f_ge, f_is, f_isNot, isNone_int, isNone_tup, isNone_lst, isNone_non, f_len_l, f_len_t, f_len_rd, f_tup_l, f_tup_t, f_max2, f_min2, f_abs, f_sum_l, f_sum_t, f_ix0, f_ix1, f_ix2, f_ix3, f_rev_t, outR_nx, outR_rt, outR_exc, nones0, nonesS, runB_eq, ap_eSl, optI_none, optI_some, optO_int, ap_sWh, ap_iSeq, items_l, items_t, ap_iRange1, ap_iRange2, wipeE_nil, wipeE_cons, evA_nil, evA_cons, RL.cons_ok, RL.cons_exc, RL.bind_ok, RL.bind_exc, RL.out_ok, RL.out_exc, Rs.bind_ok, Rs.bind_exc, Rs.out_ok, Rs.out_exc, Rs.of_some, Option.bind_some, List.getElem?_cons_zero, List.getElem?_cons_succ, List.set_cons_zero, List.set_cons_succ, List.map_cons, List.map_nil, List.cons_append, List.nil_append, List.length_cons, List.length_nil, Nat.reduceAdd, Nat.reduceSub, Nat.reduceLeDiff, Nat.reduceLT, Bool.not_true, Bool.not_false, decide_true, decide_false]
theorem lplus_eq (a b c d : Int) (h0 : 0 < b) (h0' : 0 < d) (h1 : Bd 1000 a) (h2 : Bd 1000 b) (h3 : Bd 1000 c) (h4 : Bd 1000 d) : sem__law_plus [frD a b, frD c d] = .ok (frD (a * d + c * b) (b * d)) := by
  obtain ⟨b1, b2⟩ := Bd.fr h1 h2
  obtain ⟨b3, b4⟩ := Bd.fr h3 h4
  have e := lplus_raw _ _ _ _ (fr_pos (a := a) h0) (fr_pos (a := c) h0') b1 b2 b3 b4
  refine e.trans (congrArg Rs.ok (frD_eq (Int.mul_pos (fr_pos h0) (fr_pos h0')) (Int.mul_pos h0 h0') ?_))
  obtain ⟨e1, e2⟩ := fr_mul (a := a) (b := b)
  obtain ⟨e3, e4⟩ := fr_mul (a := c) (b := d)
  generalize a / (Int.gcd a b : Int) = n at *
  generalize b / (Int.gcd a b : Int) = m at *
  generalize c / (Int.gcd c d : Int) = n' at *
  generalize d / (Int.gcd c d : Int) = m' at *
  generalize (Int.gcd a b : Int) = g at *
  generalize (Int.gcd c d : Int) = g' at *
  subst e1 e2 e3 e4
  grind
theorem ltimes_raw (n m n' m' : Int) (h0 : 0 < m) (h0' : 0 < m') (h1 : Bd 1000 n) (h2 : Bd 1000 m) (h3 : Bd 1000 n') (h4 : Bd 1000 m') :
    sem__law_times [.tuple [.int n, .int m], .tuple [.int n', .int m']] = .ok (frD (n * n') (m * m')) := by
  have e1 := f_mulB n n' h1 h3 (by decide) (by decide) (by decide)
  have e3 := f_mulB m m' h2 h4 (by decide) (by decide) (by decide)
  simp -implicitDefEqProofs only [sem__law_times, b__law_times, e1, e3, lleast_big _ _ (Int.mul_pos h0 h0') ((h2.mul h4).mono (by decide)), ap_sSeq, seqO_nx, seqO_rt, seqO_exc, ap_sIf, ifO_t, ifO_f, ifO_exc, ap_sNx, ap_sSet, ap_sOwn, ap_sRet, ap_sDrop, ap_sAsg, outB_some, bT_nm, bT_tp, bTs_nil, bTs_cons, ap_sRaise, ap_sPar, parO_ok, ap_sFor, ap_sRetV, retO_own, retO_val, ap_sFrz, frzO_own, frzO_val, ap_sApp, ap_sExt, ap_eV, valO_val, ap_eB, borO_val, borO_own, ap_eC, ap_eOp, opO_ok, ap_eUn, ap_eTup, ap_eLst, tupR_ok, lstR_ok, ap_eCB, ap_eCall, callO_ok, callO_exc, ap_gNot, notR_b, ap_gTru, truR_b, truR_list, ap_gAnd, ap_gOr, andO_t, andO_f, orO_t, orO_f, ap_eAnd, ap_eOr, eandO_t, eandO_f, eorO_t, eorO_f, ap_eNot, enotO_b, enotO_list, ap_eIf, eifO_t, eifO_f, ap_eChain, chO_ok, ap_eIsi, isiO_int, isiO_tup, isiO_lst, isiO_bl, isiO_str, isiO_non, isInt_int, isInt_bl, isInt_tup, isInt_lst, isInt_str, isInt_non, isBool_int, isBool_bl, isTup_tup, isTup_lst, isTup_int, isTup_non, isTup_str, isTup_bl, isLst_lst, isLst_tup, f_add, f_sub, f_neg, f_eqI, f_neI, f_eqB, f_neB, f_lt, f_le, f_gt, f_ge, f_is, f_isNot, isNone_int, isNone_tup, isNone_lst, isNone_non, f_len_l, f_len_t, f_len_rd, f_tup_l, f_tup_t, f_max2, f_min2, f_abs, f_sum_l, f_sum_t, f_ix0, f_ix1, f_ix2, f_ix3, f_rev_t, outR_nx, outR_rt, outR_exc, nones0, nonesS, runB_eq, ap_eSl, optI_none, optI_some, optO_int, ap_sWh, ap_iSeq, items_l, items_t, ap_iRange1, ap_iRange2, wipeE_nil, wipeE_cons, evA_nil, evA_cons, RL.cons_ok, RL.cons_exc, RL.bind_ok, RL.bind_exc, RL.out_ok, RL.out_exc, Rs.bind_ok, Rs.bind_exc, Rs.out_ok, Rs.out_exc, Rs.of_some, Option.bind_some, List.getElem?_cons_zero, List.getElem?_cons_succ, List.set_cons_zero, List.set_cons_succ, List.map_cons, List.map_nil, List.cons_append, List.nil_append, List.length_cons, List.length_nil, Nat.reduceAdd, Nat.reduceSub, Nat.reduceLeDiff, Nat.reduceLT, Bool.not_true, Bool.not_false, decide_true, decide_false]
theorem ltimes_eq (a b c d : Int) (h0 : 0 < b) (h0' : 0 < d) (h1 : Bd 1000 a) (h2 : Bd 1000 b) (h3 : Bd 1000 c) (h4 : Bd 1000 d) : sem__law_times [frD a b, frD c d] = .ok (frD (a * c) (b * d)) := by
  obtain ⟨b1, b2⟩ := Bd.fr h1 h2
  obtain ⟨b3, b4⟩ := Bd.fr h3 h4
  have e := ltimes_raw _ _ _ _ (fr_pos (a := a) h0) (fr_pos (a := c) h0') b1 b2 b3 b4
  refine e.trans (congrArg Rs.ok (frD_eq (Int.mul_pos (fr_pos h0) (fr_pos h0')) (Int.mul_pos h0 h0') ?_))
  obtain ⟨e1, e2⟩ := fr_mul (a := a) (b := b)
  obtain ⟨e3, e4⟩ := fr_mul (a := c) (b := d)
  generalize a / (Int.gcd a b : Int) = n at *
  generalize b / (Int.gcd a b : Int) = m at *
  generalize c / (Int.gcd c d : Int) = n' at *
  generalize d / (Int.gcd c d : Int) = m' at *
  generalize (Int.gcd a b : Int) = g at *
  generalize (Int.gcd c d : Int) = g' at *
  subst e1 e2 e3 e4
  grind
/-! how unlike -/
theorem unl_fr {L : List Int} (h : L ≠ []) : unl L = frD ((L.length : Int) * (L.map fun x => x * x).sum - L.sum * L.sum) ((L.length : Int) * L.length) := by
  unfold unl
  rw [if_neg h]
  rfl
def devs (n S : Int) (xs : List Int) : Int := (xs.map fun x => (n * x - S) * (n * x - S)).sum
theorem devs_nonneg (n S : Int) : ∀ xs : List Int, 0 ≤ devs n S xs
  | [] => by simp [devs]
  | x :: xs => by
    have := devs_nonneg n S xs
    unfold devs at *
    rw [List.map_cons, List.sum_cons]
    have h : 0 ≤ (n * x - S) * (n * x - S) := by
      rcases Int.le_total 0 (n * x - S) with z | z
      · exact Int.mul_nonneg z z
      · have := Int.mul_nonneg (Int.neg_nonneg_of_nonpos z) (Int.neg_nonneg_of_nonpos z)
        rw [Int.neg_mul_neg] at this
        exact this
    omega
theorem devs_sum (n S : Int) (xs : List Int) : devs n S xs = n * n * (xs.map fun x => x * x).sum - 2 * n * S * xs.sum + xs.length * (S * S) := by
  induction xs with
  | nil => simp [devs]
  | cons x xs ih =>
    unfold devs at *
    simp -implicitDefEqProofs only [List.map_cons, List.sum_cons, List.length_cons]
    rw [ih]
    grind
theorem sq_le {x c : Int} (h : -c ≤ x ∧ x ≤ c) : x * x ≤ c * c := by
  rcases Int.le_total 0 x with z | z
  · exact Int.mul_le_mul h.2 h.2 z (by omega)
  · have := Int.mul_le_mul (show -x ≤ c by omega) (show -x ≤ c by omega) (by omega) (by omega)
    rw [Int.neg_mul_neg] at this
    exact this
theorem unlike_go {n S : Int} (hn : 0 < n) (hn2 : n ≤ 1000) (hS : -1000000 ≤ S ∧ S ≤ 1000000) (z0 z1 z6 : Option Sl) : ∀ (xs : List Int) (T : Int) (o4 o5 : Option Sl), (∀ x ∈ xs, -1000 ≤ x ∧ x ≤ 1000) → 0 ≤ T → T + devs n S xs ≤ 2 ^ 200 →
    ∃ o4' o5', forGo (.nm 4) lp__law_unlike_1 (xs.map PyData.int) [z0, z1, some (.val (frD S n)), some (.val (frD T (n * n))), o4, o5, z6] = .nx [z0, z1, some (.val (frD S n)), some (.val (frD (T + devs n S xs) (n * n))), o4', o5', z6]
  | [], T, o4, o5, _, _, _ => ⟨o4, o5, by simp [devs, forGo_nil]⟩
  | x :: xs, T, o4, o5, hx, h0, hb => by
    have x1 := hx x (by simp)
    have hd := devs_nonneg n S xs
    have ed : devs n S (x :: xs) = (n * x - S) * (n * x - S) + devs n S xs := by simp [devs]
    have q0 := devs_nonneg n S [x]
    have q1 : devs n S [x] = (n * x - S) * (n * x - S) := by simp [devs]
    rw [q1] at q0
    have np : 0 < n * n := Int.mul_pos hn hn
    have bn : Bd 20 n := Bd.of 0 1000 (by omega) (by decide) (by decide)
    have bS : Bd 20 S := by unfold Bd; have : (2:Nat)^20 = 1048576 := by decide
                            omega
    have bx : Bd 20 x := Bd.of (-1000) 1000 x1 (by decide) (by decide)
    have bd : Bd 41 (x * n + -S * 1) := ((bx.mul bn).add ((bS.neg.mul (Bd.of 0 1 (i := 1) (by decide) (by decide) (by decide) : Bd 20 1)))).mono (by decide)
    have e1 : x * n + -S * 1 = n * x - S := by grind
    have m1 : sem__law_plus [.tuple [.int x, .int 1], .tuple [.int (-(S / (Int.gcd S n : Int))), .int (n / (Int.gcd S n : Int))]] = .ok (frD (n * x - S) n) := by
      have := lplus_eq x 1 (-S) n (by decide) hn (bx.mono (by decide)) (Bd.of 0 1 (by decide) (by decide) (by decide)) (bS.neg.mono (by decide)) (bn.mono (by decide))
      rw [frD_one, frD_neg, e1, Int.one_mul] at this
      exact this
    rw [e1] at bd
    have m2 : sem__law_times [frD (n * x - S) n, frD (n * x - S) n] = .ok (frD ((n * x - S) * (n * x - S)) (n * n)) := ltimes_eq _ _ _ _ hn hn (bd.mono (by decide)) (bn.mono (by decide)) (bd.mono (by decide)) (bn.mono (by decide))
    have bT : Bd 201 T := by
      unfold Bd
      have h2 : (2 : Int) ^ 200 = ((2 ^ 200 : Nat) : Int) := by rw [Int.natCast_pow]; rfl
      have h3 : (2 : Nat) ^ 201 = 2 ^ 200 * 2 := Nat.pow_succ ..
      rw [ed] at hb
      rw [h2] at hb
      generalize (2 : Nat) ^ 200 = z at *
      omega
    have m3 : sem__law_plus [frD T (n * n), frD ((n * x - S) * (n * x - S)) (n * n)] = .ok (frD (T + (n * x - S) * (n * x - S)) (n * n)) := by
      rw [lplus_eq _ _ _ _ np np (bT.mono (by decide)) ((bn.mul bn).mono (by decide)) ((bd.mul bd).mono (by decide)) ((bn.mul bn).mono (by decide))]
      exact congrArg Rs.ok (frD_eq (Int.mul_pos np np) np (by grind))
    obtain ⟨o4', o5', ih⟩ := unlike_go hn hn2 hS z0 z1 z6 xs (T + (n * x - S) * (n * x - S)) (some (.val (.int x))) (some (.val (frD (n * x - S) n))) (fun y hy => hx y (by simp [hy])) (by omega) (by rw [ed] at hb; omega)
    refine ⟨o4', o5', ?_⟩
    rw [List.map_cons, forGo_nx (ρ2 := [z0, z1, some (.val (frD S n)), some (.val (frD (T + (n * x - S) * (n * x - S)) (n * n))), some (.val (.int x)), some (.val (frD (n * x - S) n)), z6]), ih, ed]
    · rw [Int.add_assoc]
    · have i0 : ixF (frD S n) (.int 0) = some (.int (S / (Int.gcd S n : Int))) := f_ix0 _ _
      have i1 : ixF (frD S n) (.int 1) = some (.int (n / (Int.gcd S n : Int))) := f_ix1 _ _ _
      simp -implicitDefEqProofs only [lp__law_unlike_1, i0, i1, m1, m2, m3, ap_sSeq, seqO_nx, seqO_rt, seqO_exc, ap_sIf, ifO_t, ifO_f, ifO_exc, ap_sNx, ap_sSet, ap_sOwn, ap_sRet, ap_sDrop, ap_sAsg, outB_some, bT_nm, bT_tp, bTs_nil, bTs_cons, ap_sRaise, ap_sPar, parO_ok, ap_sFor, ap_sRetV, retO_own, retO_val, ap_sFrz, frzO_own, frzO_val, ap_sApp, ap_sExt, ap_eV, valO_val, ap_eB, borO_val, borO_own, ap_eC, ap_eOp, opO_ok, ap_eUn, ap_eTup, ap_eLst, tupR_ok, lstR_ok, ap_eCB, ap_eCall, callO_ok, callO_exc, ap_gNot, notR_b, ap_gTru, truR_b, truR_list, ap_gAnd, ap_gOr, andO_t, andO_f, orO_t, orO_f, ap_eAnd, ap_eOr, eandO_t, eandO_f, eorO_t, eorO_f, ap_eNot, enotO_b, enotO_list, ap_eIf, eifO_t, eifO_f, ap_eChain, chO_ok, ap_eIsi, isiO_int, isiO_tup, isiO_lst, isiO_bl, isiO_str, isiO_non, isInt_int, isInt_bl, isInt_tup, isInt_lst, isInt_str, isInt_non, isBool_int, isBool_bl, isTup_tup, isTup_lst, isTup_int, isTup_non, isTup_str, isTup_bl, isLst_lst, isLst_tup, f_add, f_sub, f_neg, f_eqI, f_neI, f_eqB, f_neB, f_lt, f_le, f_gt, f_ge, f_is, f_isNot, isNone_int, isNone_tup, isNone_lst, isNone_non, f_len_l, f_len_t, f_len_rd, f_tup_l, f_tup_t, f_max2, f_min2, f_abs, f_sum_l, f_sum_t, f_ix0, f_ix1, f_ix2, f_ix3, f_rev_t, outR_nx, outR_rt, outR_exc, nones0, nonesS, runB_eq, ap_eSl, optI_none, optI_some, optO_int, ap_sWh, ap_iSeq, items_l, items_t, ap_iRange1, ap_iRange2, wipeE_nil, wipeE_cons, evA_nil, evA_cons, RL.cons_ok, RL.cons_exc, RL.bind_ok, RL.bind_exc, RL.out_ok, RL.out_exc, Rs.bind_ok, Rs.bind_exc, Rs.out_ok, Rs.out_exc, Rs.of_some, Option.bind_some, List.getElem?_cons_zero, List.getElem?_cons_succ, List.set_cons_zero, List.set_cons_succ, List.map_cons, List.map_nil, List.cons_append, List.nil_append, List.length_cons, List.length_nil, Nat.reduceAdd, Nat.reduceSub, Nat.reduceLeDiff, Nat.reduceLT, Bool.not_true, Bool.not_false, decide_true, decide_false]
/-! the steps, by their places -/
abbrev Ent := (Int × Int) × Int
def keyT (k : Int × Int) : D := .tuple [.int k.1, .int k.2]
def entD (e : Ent) : D × D := (keyT e.1, .int e.2)
def dicT (E : List Ent) : D := .dict ((.none, .none) :: E.map entD)
theorem keyT_eqv' (a b : Int × Int) : PyData.eqv (keyT a) (keyT b) = decide (a = b) := by
  obtain ⟨a1, a2⟩ := a
  obtain ⟨b1, b2⟩ := b
  simp -implicitDefEqProofs only [keyT, PyData.eqv, PyData.eqvAll, Prod.mk.injEq]
  by_cases h : a1 = b1 <;> by_cases g : a2 = b2 <;> simp [h, g]
theorem asRd_dicT (E : List Ent) : asRd (dicT E) = none := by
  cases E with
  | nil => rfl
  | cons e E => rfl
theorem dPut_new (E : List Ent) (k : Int × Int) (v : Int) (h : ∀ e ∈ E, e.1 ≠ k) (hl : E.length < 16777216) : dPut (dicT E) (keyT k) (.int v) = some (dicT (E ++ [(k, v)])) := by
  have hn : ((E.map entD).any fun q => PyData.eqv q.1 (keyT k)) = false := by
    rw [List.any_eq_false]
    intro q hq
    obtain ⟨e, he, rfl⟩ := List.mem_map.mp hq
    show ¬ PyData.eqv (keyT e.1) (keyT k) = true
    rw [keyT_eqv']
    simpa using h e he
  have hz : (E.map entD).length < sizeLine := by rw [List.length_map, sizeLine_eq]; exact hl
  have e : dPut (dicT E) (keyT k) (.int v) = if (isKeyT (keyT k) && decide ((E.map entD).length < sizeLine)) = true then some (.dict ((.none, .none) :: dputP (E.map entD) (keyT k) (.int v))) else none := by cases E <;> rfl
  rw [e, if_pos (by rw [decide_eq_true hz]; rfl)]
  unfold dputP dicT
  rw [hn, if_neg (by decide), List.map_append]
  rfl
/-- a cell that both have, with its step -/
def both (a b : List (List Int)) (w' h' p q : Int) (y x : Int) : List Ent := if (0 ≤ y - q ∧ y - q < h') ∧ 0 ≤ x - p ∧ x - p < w' then [((x, y), cell a y x - cell b (y - q) (x - p))] else []
def bothRow (a b : List (List Int)) (w' h' p q : Int) (y : Int) (k : Nat) : List Ent := (rangeI 0 k).flatMap (both a b w' h' p q y)
def bothAll (a b : List (List Int)) (w' h' p q : Int) (w k : Nat) : List Ent := (rangeI 0 k).flatMap fun y => bothRow a b w' h' p q y w
theorem both_mem {a b : List (List Int)} {w' h' p q y x : Int} {e : Ent} (h : e ∈ both a b w' h' p q y x) : e.1 = (x, y) := by
  unfold both at h
  split at h
  · simp -implicitDefEqProofs only [List.mem_singleton] at h
    rw [h]
  · cases h
theorem bothRow_mem {a b : List (List Int)} {w' h' p q y : Int} {k : Nat} {e : Ent} (h : e ∈ bothRow a b w' h' p q y k) : e.1.2 = y ∧ 0 ≤ e.1.1 ∧ e.1.1 < k := by
  unfold bothRow at h
  obtain ⟨x, hx, h⟩ := List.mem_flatMap.mp h
  have := both_mem h
  rw [mem_rangeI] at hx
  rw [this]
  refine ⟨rfl, ?_, ?_⟩
  · show 0 ≤ x
    omega
  · show x < k
    omega
theorem bothAll_mem {a b : List (List Int)} {w' h' p q : Int} {w k : Nat} {e : Ent} (h : e ∈ bothAll a b w' h' p q w k) : 0 ≤ e.1.2 ∧ e.1.2 < k := by
  unfold bothAll at h
  obtain ⟨y, hy, h⟩ := List.mem_flatMap.mp h
  have := bothRow_mem h
  rw [mem_rangeI] at hy
  omega
theorem both_len (a b : List (List Int)) (w' h' p q y x : Int) : (both a b w' h' p q y x).length ≤ 1 := by
  unfold both
  split <;> simp
theorem flat_le {α β : Type} (f : α → List β) (c : Nat) : ∀ xs : List α, (∀ x ∈ xs, (f x).length ≤ c) → (xs.flatMap f).length ≤ xs.length * c
  | [], _ => by simp
  | x :: xs, h => by
    have h1 := h x (by simp)
    have h2 := flat_le f c xs fun y hy => h y (by simp [hy])
    rw [List.flatMap_cons, List.length_append, List.length_cons, Nat.succ_mul]
    omega
theorem bothRow_len (a b : List (List Int)) (w' h' p q y : Int) (k : Nat) : (bothRow a b w' h' p q y k).length ≤ k := by
  have := flat_le (both a b w' h' p q y) 1 (rangeI 0 k) fun x _ => both_len ..
  rw [rangeI_length] at this
  unfold bothRow
  omega
theorem bothAll_len (a b : List (List Int)) (w' h' p q : Int) (w k : Nat) : (bothAll a b w' h' p q w k).length ≤ k * w := by
  have := flat_le (fun y => bothRow a b w' h' p q y w) w (rangeI 0 k) fun y _ => bothRow_len ..
  rw [rangeI_length] at this
  exact this
theorem lsteps_eq {a b : List (List Int)} {h w h' w' : Nat} (A : Sh a h w) (B : Sh b h' w') (p q : Int) : sem__law_steps [shD a, shD b, .tuple [.int p, .int q]] = .ok (dicT (bothAll a b w' h' p q w h)) := by
  have la := A.len
  have lb := B.len
  have h1 := A.h1
  have h2 := A.h2
  have w2 := A.w2
  have b1 := B.h1
  have ea : ixF (shD a) (.int 0) = some (rowD (rw' a 0)) := ix_sh a 0 (by decide) (by omega)
  have ra : (rw' a 0).length = w := A.rlen (by decide) (by omega)
  have eb : ixF (shD b) (.int 0) = some (rowD (rw' b 0)) := ix_sh b 0 (by decide) (by omega)
  have rb : (rw' b 0).length = w' := B.rlen (by decide) (by omega)
  have outer := forGo_rng (i := 4) (f := lp__law_steps_2) (lo := 0) (n := h) (ρ := [some (.val (shD a)), some (.val (shD b)), some (.val (.tuple [.int p, .int q])), some (.own (dicT [])), none, none, none, none])
    (fun k ρ => ∃ o4 o5 o6 o7, ρ = [some (.val (shD a)), some (.val (shD b)), some (.val (.tuple [.int p, .int q])), some (.own (dicT (bothAll a b w' h' p q w k))), o4, o5, o6, o7]) ⟨none, none, none, none, rfl⟩ ?_
  · obtain ⟨ρ2, e, o4, o5, o6, o7, e2⟩ := outer
    have er : (RL.ok [.int (h : Int)]).items rng1 = .ok (rangeD 0 h) := by
      have := rng1_ok (h : Int) (by omega) (by omega)
      simpa using this
    have ed : (PyData.dict [(PyData.none, PyData.none)]) = dicT [] := rfl
    simp -implicitDefEqProofs only [sem__law_steps, b__law_steps, len_sh, la, er, ed, e, e2, ap_sSeq, seqO_nx, seqO_rt, seqO_exc, ap_sIf, ifO_t, ifO_f, ifO_exc, ap_sNx, ap_sSet, ap_sOwn, ap_sRet, ap_sDrop, ap_sAsg, outB_some, bT_nm, bT_tp, bTs_nil, bTs_cons, ap_sRaise, ap_sPar, parO_ok, ap_sFor, ap_sRetV, retO_own, retO_val, ap_sFrz, frzO_own, frzO_val, ap_sApp, ap_sExt, ap_eV, valO_val, ap_eB, borO_val, borO_own, ap_eC, ap_eOp, opO_ok, ap_eUn, ap_eTup, ap_eLst, tupR_ok, lstR_ok, ap_eCB, ap_eCall, callO_ok, callO_exc, ap_gNot, notR_b, ap_gTru, truR_b, truR_list, ap_gAnd, ap_gOr, andO_t, andO_f, orO_t, orO_f, ap_eAnd, ap_eOr, eandO_t, eandO_f, eorO_t, eorO_f, ap_eNot, enotO_b, enotO_list, ap_eIf, eifO_t, eifO_f, ap_eChain, chO_ok, ap_eIsi, isiO_int, isiO_tup, isiO_lst, isiO_bl, isiO_str, isiO_non, isInt_int, isInt_bl, isInt_tup, isInt_lst, isInt_str, isInt_non, isBool_int, isBool_bl, isTup_tup, isTup_lst, isTup_int, isTup_non, isTup_str, isTup_bl, isLst_lst, isLst_tup, f_add, f_sub, f_neg, f_eqI, f_neI, f_eqB, f_neB, f_lt, f_le, f_gt, f_ge, f_is, f_isNot, isNone_int, isNone_tup, isNone_lst, isNone_non, f_len_l, f_len_t, f_len_rd, f_tup_l, f_tup_t, f_max2, f_min2, f_abs, f_sum_l, f_sum_t, f_ix0, f_ix1, f_ix2, f_ix3, f_rev_t, outR_nx, outR_rt, outR_exc, nones0, nonesS, runB_eq, ap_eSl, optI_none, optI_some, optO_int, ap_sWh, ap_iSeq, items_l, items_t, ap_iRange1, ap_iRange2, wipeE_nil, wipeE_cons, evA_nil, evA_cons, RL.cons_ok, RL.cons_exc, RL.bind_ok, RL.bind_exc, RL.out_ok, RL.out_exc, Rs.bind_ok, Rs.bind_exc, Rs.out_ok, Rs.out_exc, Rs.of_some, Option.bind_some, List.getElem?_cons_zero, List.getElem?_cons_succ, List.set_cons_zero, List.set_cons_succ, List.map_cons, List.map_nil, List.cons_append, List.nil_append, List.length_cons, List.length_nil, Nat.reduceAdd, Nat.reduceSub, Nat.reduceLeDiff, Nat.reduceLT, Bool.not_true, Bool.not_false, decide_true, decide_false]
  · rintro k ρ hk ⟨o4, o5, o6, o7, rfl⟩
    have inner := forGo_rng (i := 5) (f := lp__law_steps_1) (lo := 0) (n := w) (ρ := [some (.val (shD a)), some (.val (shD b)), some (.val (.tuple [.int p, .int q])), some (.own (dicT (bothAll a b w' h' p q w k))), some (.val (.int (0 + k))), o5, o6, o7])
      (fun j ρ => ∃ o5 o6 o7, ρ = [some (.val (shD a)), some (.val (shD b)), some (.val (.tuple [.int p, .int q])), some (.own (dicT (bothAll a b w' h' p q w k ++ bothRow a b w' h' p q k j))), some (.val (.int (0 + k))), o5, o6, o7]) ⟨o5, o6, o7, by simp [bothRow, rangeI_zero]⟩ ?_
    · obtain ⟨ρ2, e, p5, p6, p7, e2⟩ := inner
      have er : (RL.ok [.int (w : Int)]).items rng1 = .ok (rangeD 0 w) := by
        have := rng1_ok (w : Int) (by omega) (by omega)
        simpa using this
      refine ⟨_, by simp -implicitDefEqProofs only [lp__law_steps_2, ea, len_row, ra, er, e, e2, ap_sSeq, seqO_nx, seqO_rt, seqO_exc, ap_sIf, ifO_t, ifO_f, ifO_exc, ap_sNx, ap_sSet, ap_sOwn, ap_sRet, ap_sDrop, ap_sAsg, outB_some, bT_nm, bT_tp, bTs_nil, bTs_cons, ap_sRaise, ap_sPar, parO_ok, ap_sFor, ap_sRetV, retO_own, retO_val, ap_sFrz, frzO_own, frzO_val, ap_sApp, ap_sExt, ap_eV, valO_val, ap_eB, borO_val, borO_own, ap_eC, ap_eOp, opO_ok, ap_eUn, ap_eTup, ap_eLst, tupR_ok, lstR_ok, ap_eCB, ap_eCall, callO_ok, callO_exc, ap_gNot, notR_b, ap_gTru, truR_b, truR_list, ap_gAnd, ap_gOr, andO_t, andO_f, orO_t, orO_f, ap_eAnd, ap_eOr, eandO_t, eandO_f, eorO_t, eorO_f, ap_eNot, enotO_b, enotO_list, ap_eIf, eifO_t, eifO_f, ap_eChain, chO_ok, ap_eIsi, isiO_int, isiO_tup, isiO_lst, isiO_bl, isiO_str, isiO_non, isInt_int, isInt_bl, isInt_tup, isInt_lst, isInt_str, isInt_non, isBool_int, isBool_bl, isTup_tup, isTup_lst, isTup_int, isTup_non, isTup_str, isTup_bl, isLst_lst, isLst_tup, f_add, f_sub, f_neg, f_eqI, f_neI, f_eqB, f_neB, f_lt, f_le, f_gt, f_ge, f_is, f_isNot, isNone_int, isNone_tup, isNone_lst, isNone_non, f_len_l, f_len_t, f_len_rd, f_tup_l, f_tup_t, f_max2, f_min2, f_abs, f_sum_l, f_sum_t, f_ix0, f_ix1, f_ix2, f_ix3, f_rev_t, outR_nx, outR_rt, outR_exc, nones0, nonesS, runB_eq, ap_eSl, optI_none, optI_some, optO_int, ap_sWh, ap_iSeq, items_l, items_t, ap_iRange1, ap_iRange2, wipeE_nil, wipeE_cons, evA_nil, evA_cons, RL.cons_ok, RL.cons_exc, RL.bind_ok, RL.bind_exc, RL.out_ok, RL.out_exc, Rs.bind_ok, Rs.bind_exc, Rs.out_ok, Rs.out_exc, Rs.of_some, Option.bind_some, List.getElem?_cons_zero, List.getElem?_cons_succ, List.set_cons_zero, List.set_cons_succ, List.map_cons, List.map_nil, List.cons_append, List.nil_append, List.length_cons, List.length_nil, Nat.reduceAdd, Nat.reduceSub, Nat.reduceLeDiff, Nat.reduceLT, Bool.not_true, Bool.not_false, decide_true, decide_false]; rfl, some (.val (.int (0 + k))), p5, p6, p7, ?_⟩
      have : bothAll a b w' h' p q w (k + 1) = bothAll a b w' h' p q w k ++ bothRow a b w' h' p q k w := by
        unfold bothAll
        rw [rangeI_succ, List.flatMap_append]
        simp
      rw [this]
    · rintro j ρ hj ⟨o5, o6, o7, rfl⟩
      have es : bothRow a b w' h' p q k (j + 1) = bothRow a b w' h' p q k j ++ both a b w' h' p q k j := by
        unfold bothRow
        rw [rangeI_succ, List.flatMap_append]
        simp
      have z0 : (0 : Int) + (k : Nat) = (k : Int) := by omega
      have z1 : (0 : Int) + (j : Nat) = (j : Int) := by omega
      by_cases c1 : (0 : Int) ≤ (k : Int) - q
      · by_cases c2 : (k : Int) - q < h'
        · by_cases c3 : (0 : Int) ≤ (j : Int) - p
          · by_cases c4 : (j : Int) - p < w'
            · have ek : both a b w' h' p q k j = [(((j : Int), (k : Int)), cell a k j - cell b (k - q) (j - p))] := by
                unfold both
                rw [if_pos ⟨⟨c1, c2⟩, c3, c4⟩]
              have i1 : ixF (shD a) (.int k) = some (rowD (rw' a k)) := ix_sh a k (by omega) (by omega)
              have i2 : ixF (rowD (rw' a k)) (.int j) = some (.int (cell a k j)) := ix_row _ _ (by omega) (by rw [A.rlen (by omega) (by omega)]; omega)
              have i3 : ixF (shD b) (.int (k - q)) = some (rowD (rw' b (k - q))) := ix_sh b _ c1 (by omega)
              have i4 : ixF (rowD (rw' b (k - q))) (.int (j - p)) = some (.int (cell b (k - q) (j - p))) := ix_row _ _ c3 (by rw [B.rlen c1 (by omega)]; omega)
              have put := dPut_new (bothAll a b w' h' p q w k ++ bothRow a b w' h' p q k j) ((j : Int), (k : Int)) (cell a k j - cell b (k - q) (j - p)) (fun e he => by
                rcases List.mem_append.mp he with he | he
                · have := bothAll_mem he
                  intro z
                  rw [z] at this
                  simp -implicitDefEqProofs only at this
                  omega
                · have := bothRow_mem he
                  intro z
                  rw [z] at this
                  simp -implicitDefEqProofs only at this
                  omega) (by
                have l1 := bothAll_len a b w' h' p q w k
                have l2 := bothRow_len a b w' h' p q k j
                have l3 : k * w ≤ 12 * 12 := Nat.mul_le_mul (by omega) (by omega)
                rw [List.length_append]
                omega)
              have ekey : (PyData.tuple [.int (j : Int), .int (k : Int)]) = keyT ((j : Int), (k : Int)) := rfl
              refine ⟨_, by simp -implicitDefEqProofs only [lp__law_steps_1, sPutD, ownD, z0, z1, len_sh, lb, c1, c2, c3, c4, eb, len_row, rb, i1, i2, i3, i4, ekey, put, ap_sSeq, seqO_nx, seqO_rt, seqO_exc, ap_sIf, ifO_t, ifO_f, ifO_exc, ap_sNx, ap_sSet, ap_sOwn, ap_sRet, ap_sDrop, ap_sAsg, outB_some, bT_nm, bT_tp, bTs_nil, bTs_cons, ap_sRaise, ap_sPar, parO_ok, ap_sFor, ap_sRetV, retO_own, retO_val, ap_sFrz, frzO_own, frzO_val, ap_sApp, ap_sExt, ap_eV, valO_val, ap_eB, borO_val, borO_own, ap_eC, ap_eOp, opO_ok, ap_eUn, ap_eTup, ap_eLst, tupR_ok, lstR_ok, ap_eCB, ap_eCall, callO_ok, callO_exc, ap_gNot, notR_b, ap_gTru, truR_b, truR_list, ap_gAnd, ap_gOr, andO_t, andO_f, orO_t, orO_f, ap_eAnd, ap_eOr, eandO_t, eandO_f, eorO_t, eorO_f, ap_eNot, enotO_b, enotO_list, ap_eIf, eifO_t, eifO_f, ap_eChain, chO_ok, ap_eIsi, isiO_int, isiO_tup, isiO_lst, isiO_bl, isiO_str, isiO_non, isInt_int, isInt_bl, isInt_tup, isInt_lst, isInt_str, isInt_non, isBool_int, isBool_bl, isTup_tup, isTup_lst, isTup_int, isTup_non, isTup_str, isTup_bl, isLst_lst, isLst_tup, f_add, f_sub, f_neg, f_eqI, f_neI, f_eqB, f_neB, f_lt, f_le, f_gt, f_ge, f_is, f_isNot, isNone_int, isNone_tup, isNone_lst, isNone_non, f_len_l, f_len_t, f_len_rd, f_tup_l, f_tup_t, f_max2, f_min2, f_abs, f_sum_l, f_sum_t, f_ix0, f_ix1, f_ix2, f_ix3, f_rev_t, outR_nx, outR_rt, outR_exc, nones0, nonesS, runB_eq, ap_eSl, optI_none, optI_some, optO_int, ap_sWh, ap_iSeq, items_l, items_t, ap_iRange1, ap_iRange2, wipeE_nil, wipeE_cons, evA_nil, evA_cons, RL.cons_ok, RL.cons_exc, RL.bind_ok, RL.bind_exc, RL.out_ok, RL.out_exc, Rs.bind_ok, Rs.bind_exc, Rs.out_ok, Rs.out_exc, Rs.of_some, Option.bind_some, List.getElem?_cons_zero, List.getElem?_cons_succ, List.set_cons_zero, List.set_cons_succ, List.map_cons, List.map_nil, List.cons_append, List.nil_append, List.length_cons, List.length_nil, Nat.reduceAdd, Nat.reduceSub, Nat.reduceLeDiff, Nat.reduceLT, Bool.not_true, Bool.not_false, decide_true, decide_false]; rfl, some (.val (.int j)), some (.val (.int (j - p))), some (.val (.int (k - q))), ?_⟩
              rw [es, ek, ← List.append_assoc, z0]
            · have ek : both a b w' h' p q k j = [] := if_neg (by omega)
              refine ⟨_, by simp -implicitDefEqProofs only [lp__law_steps_1, z0, z1, len_sh, lb, c1, c2, c3, c4, eb, len_row, rb, ap_sSeq, seqO_nx, seqO_rt, seqO_exc, ap_sIf, ifO_t, ifO_f, ifO_exc, ap_sNx, ap_sSet, ap_sOwn, ap_sRet, ap_sDrop, ap_sAsg, outB_some, bT_nm, bT_tp, bTs_nil, bTs_cons, ap_sRaise, ap_sPar, parO_ok, ap_sFor, ap_sRetV, retO_own, retO_val, ap_sFrz, frzO_own, frzO_val, ap_sApp, ap_sExt, ap_eV, valO_val, ap_eB, borO_val, borO_own, ap_eC, ap_eOp, opO_ok, ap_eUn, ap_eTup, ap_eLst, tupR_ok, lstR_ok, ap_eCB, ap_eCall, callO_ok, callO_exc, ap_gNot, notR_b, ap_gTru, truR_b, truR_list, ap_gAnd, ap_gOr, andO_t, andO_f, orO_t, orO_f, ap_eAnd, ap_eOr, eandO_t, eandO_f, eorO_t, eorO_f, ap_eNot, enotO_b, enotO_list, ap_eIf, eifO_t, eifO_f, ap_eChain, chO_ok, ap_eIsi, isiO_int, isiO_tup, isiO_lst, isiO_bl, isiO_str, isiO_non, isInt_int, isInt_bl, isInt_tup, isInt_lst, isInt_str, isInt_non, isBool_int, isBool_bl, isTup_tup, isTup_lst, isTup_int, isTup_non, isTup_str, isTup_bl, isLst_lst, isLst_tup, f_add, f_sub, f_neg, f_eqI, f_neI, f_eqB, f_neB, f_lt, f_le, f_gt, f_ge, f_is, f_isNot, isNone_int, isNone_tup, isNone_lst, isNone_non, f_len_l, f_len_t, f_len_rd, f_tup_l, f_tup_t, f_max2, f_min2, f_abs, f_sum_l, f_sum_t, f_ix0, f_ix1, f_ix2, f_ix3, f_rev_t, outR_nx, outR_rt, outR_exc, nones0, nonesS, runB_eq, ap_eSl, optI_none, optI_some, optO_int, ap_sWh, ap_iSeq, items_l, items_t, ap_iRange1, ap_iRange2, wipeE_nil, wipeE_cons, evA_nil, evA_cons, RL.cons_ok, RL.cons_exc, RL.bind_ok, RL.bind_exc, RL.out_ok, RL.out_exc, Rs.bind_ok, Rs.bind_exc, Rs.out_ok, Rs.out_exc, Rs.of_some, Option.bind_some, List.getElem?_cons_zero, List.getElem?_cons_succ, List.set_cons_zero, List.set_cons_succ, List.map_cons, List.map_nil, List.cons_append, List.nil_append, List.length_cons, List.length_nil, Nat.reduceAdd, Nat.reduceSub, Nat.reduceLeDiff, Nat.reduceLT, Bool.not_true, Bool.not_false, decide_true, decide_false]; rfl, some (.val (.int j)), some (.val (.int (j - p))), some (.val (.int (k - q))), ?_⟩
              rw [es, ek, List.append_nil, z0]
          · have ek : both a b w' h' p q k j = [] := if_neg (by omega)
            refine ⟨_, by simp -implicitDefEqProofs only [lp__law_steps_1, z0, z1, len_sh, lb, c1, c2, c3, eb, len_row, rb, ap_sSeq, seqO_nx, seqO_rt, seqO_exc, ap_sIf, ifO_t, ifO_f, ifO_exc, ap_sNx, ap_sSet, ap_sOwn, ap_sRet, ap_sDrop, ap_sAsg, outB_some, bT_nm, bT_tp, bTs_nil, bTs_cons, ap_sRaise, ap_sPar, parO_ok, ap_sFor, ap_sRetV, retO_own, retO_val, ap_sFrz, frzO_own, frzO_val, ap_sApp, ap_sExt, ap_eV, valO_val, ap_eB, borO_val, borO_own, ap_eC, ap_eOp, opO_ok, ap_eUn, ap_eTup, ap_eLst, tupR_ok, lstR_ok, ap_eCB, ap_eCall, callO_ok, callO_exc, ap_gNot, notR_b, ap_gTru, truR_b, truR_list, ap_gAnd, ap_gOr, andO_t, andO_f, orO_t, orO_f, ap_eAnd, ap_eOr, eandO_t, eandO_f, eorO_t, eorO_f, ap_eNot, enotO_b, enotO_list, ap_eIf, eifO_t, eifO_f, ap_eChain, chO_ok, ap_eIsi, isiO_int, isiO_tup, isiO_lst, isiO_bl, isiO_str, isiO_non, isInt_int, isInt_bl, isInt_tup, isInt_lst, isInt_str, isInt_non, isBool_int, isBool_bl, isTup_tup, isTup_lst, isTup_int, isTup_non, isTup_str, isTup_bl, isLst_lst, isLst_tup, f_add, f_sub, f_neg, f_eqI, f_neI, f_eqB, f_neB, f_lt, f_le, f_gt, f_ge, f_is, f_isNot, isNone_int, isNone_tup, isNone_lst, isNone_non, f_len_l, f_len_t, f_len_rd, f_tup_l, f_tup_t, f_max2, f_min2, f_abs, f_sum_l, f_sum_t, f_ix0, f_ix1, f_ix2, f_ix3, f_rev_t, outR_nx, outR_rt, outR_exc, nones0, nonesS, runB_eq, ap_eSl, optI_none, optI_some, optO_int, ap_sWh, ap_iSeq, items_l, items_t, ap_iRange1, ap_iRange2, wipeE_nil, wipeE_cons, evA_nil, evA_cons, RL.cons_ok, RL.cons_exc, RL.bind_ok, RL.bind_exc, RL.out_ok, RL.out_exc, Rs.bind_ok, Rs.bind_exc, Rs.out_ok, Rs.out_exc, Rs.of_some, Option.bind_some, List.getElem?_cons_zero, List.getElem?_cons_succ, List.set_cons_zero, List.set_cons_succ, List.map_cons, List.map_nil, List.cons_append, List.nil_append, List.length_cons, List.length_nil, Nat.reduceAdd, Nat.reduceSub, Nat.reduceLeDiff, Nat.reduceLT, Bool.not_true, Bool.not_false, decide_true, decide_false]; rfl, some (.val (.int j)), some (.val (.int (j - p))), some (.val (.int (k - q))), ?_⟩
            rw [es, ek, List.append_nil, z0]
        · have ek : both a b w' h' p q k j = [] := if_neg (by omega)
          refine ⟨_, by simp -implicitDefEqProofs only [lp__law_steps_1, z0, z1, len_sh, lb, c1, c2, eb, len_row, rb, ap_sSeq, seqO_nx, seqO_rt, seqO_exc, ap_sIf, ifO_t, ifO_f, ifO_exc, ap_sNx, ap_sSet, ap_sOwn, ap_sRet, ap_sDrop, ap_sAsg, outB_some, bT_nm, bT_tp, bTs_nil, bTs_cons, ap_sRaise, ap_sPar, parO_ok, ap_sFor, ap_sRetV, retO_own, retO_val, ap_sFrz, frzO_own, frzO_val, ap_sApp, ap_sExt, ap_eV, valO_val, ap_eB, borO_val, borO_own, ap_eC, ap_eOp, opO_ok, ap_eUn, ap_eTup, ap_eLst, tupR_ok, lstR_ok, ap_eCB, ap_eCall, callO_ok, callO_exc, ap_gNot, notR_b, ap_gTru, truR_b, truR_list, ap_gAnd, ap_gOr, andO_t, andO_f, orO_t, orO_f, ap_eAnd, ap_eOr, eandO_t, eandO_f, eorO_t, eorO_f, ap_eNot, enotO_b, enotO_list, ap_eIf, eifO_t, eifO_f, ap_eChain, chO_ok, ap_eIsi, isiO_int, isiO_tup, isiO_lst, isiO_bl, isiO_str, isiO_non, isInt_int, isInt_bl, isInt_tup, isInt_lst, isInt_str, isInt_non, isBool_int, isBool_bl, isTup_tup, isTup_lst, isTup_int, isTup_non, isTup_str, isTup_bl, isLst_lst, isLst_tup, f_add, f_sub, f_neg, f_eqI, f_neI, f_eqB, f_neB, f_lt, f_le, f_gt, f_ge, f_is, f_isNot, isNone_int, isNone_tup, isNone_lst, isNone_non, f_len_l, f_len_t, f_len_rd, f_tup_l, f_tup_t, f_max2, f_min2, f_abs, f_sum_l, f_sum_t, f_ix0, f_ix1, f_ix2, f_ix3, f_rev_t, outR_nx, outR_rt, outR_exc, nones0, nonesS, runB_eq, ap_eSl, optI_none, optI_some, optO_int, ap_sWh, ap_iSeq, items_l, items_t, ap_iRange1, ap_iRange2, wipeE_nil, wipeE_cons, evA_nil, evA_cons, RL.cons_ok, RL.cons_exc, RL.bind_ok, RL.bind_exc, RL.out_ok, RL.out_exc, Rs.bind_ok, Rs.bind_exc, Rs.out_ok, Rs.out_exc, Rs.of_some, Option.bind_some, List.getElem?_cons_zero, List.getElem?_cons_succ, List.set_cons_zero, List.set_cons_succ, List.map_cons, List.map_nil, List.cons_append, List.nil_append, List.length_cons, List.length_nil, Nat.reduceAdd, Nat.reduceSub, Nat.reduceLeDiff, Nat.reduceLT, Bool.not_true, Bool.not_false, decide_true, decide_false]; rfl, some (.val (.int j)), some (.val (.int (j - p))), some (.val (.int (k - q))), ?_⟩
          rw [es, ek, List.append_nil, z0]
      · have ek : both a b w' h' p q k j = [] := if_neg (by omega)
        refine ⟨_, by simp -implicitDefEqProofs only [lp__law_steps_1, z0, z1, len_sh, lb, c1, eb, len_row, rb, ap_sSeq, seqO_nx, seqO_rt, seqO_exc, ap_sIf, ifO_t, ifO_f, ifO_exc, ap_sNx, ap_sSet, ap_sOwn, ap_sRet, ap_sDrop, ap_sAsg, outB_some, bT_nm, bT_tp, bTs_nil, bTs_cons, ap_sRaise, ap_sPar, parO_ok, ap_sFor, ap_sRetV, retO_own, retO_val, ap_sFrz, frzO_own, frzO_val, ap_sApp, ap_sExt, ap_eV, valO_val, ap_eB, borO_val, borO_own, ap_eC, ap_eOp, opO_ok, ap_eUn, ap_eTup, ap_eLst, tupR_ok, lstR_ok, ap_eCB, ap_eCall, callO_ok, callO_exc, ap_gNot, notR_b, ap_gTru, truR_b, truR_list, ap_gAnd, ap_gOr, andO_t, andO_f, orO_t, orO_f, ap_eAnd, ap_eOr, eandO_t, eandO_f, eorO_t, eorO_f, ap_eNot, enotO_b, enotO_list, ap_eIf, eifO_t, eifO_f, ap_eChain, chO_ok, ap_eIsi, isiO_int, isiO_tup, isiO_lst, isiO_bl, isiO_str, isiO_non, isInt_int, isInt_bl, isInt_tup, isInt_lst, isInt_str, isInt_non, isBool_int, isBool_bl, isTup_tup, isTup_lst, isTup_int, isTup_non, isTup_str, isTup_bl, isLst_lst, isLst_tup, f_add, f_sub, f_neg, f_eqI, f_neI, f_eqB, f_neB, f_lt, f_le, f_gt, f_ge, f_is, f_isNot, isNone_int, isNone_tup, isNone_lst, isNone_non, f_len_l, f_len_t, f_len_rd, f_tup_l, f_tup_t, f_max2, f_min2, f_abs, f_sum_l, f_sum_t, f_ix0, f_ix1, f_ix2, f_ix3, f_rev_t, outR_nx, outR_rt, outR_exc, nones0, nonesS, runB_eq, ap_eSl, optI_none, optI_some, optO_int, ap_sWh, ap_iSeq, items_l, items_t, ap_iRange1, ap_iRange2, wipeE_nil, wipeE_cons, evA_nil, evA_cons, RL.cons_ok, RL.cons_exc, RL.bind_ok, RL.bind_exc, RL.out_ok, RL.out_exc, Rs.bind_ok, Rs.bind_exc, Rs.out_ok, Rs.out_exc, Rs.of_some, Option.bind_some, List.getElem?_cons_zero, List.getElem?_cons_succ, List.set_cons_zero, List.set_cons_succ, List.map_cons, List.map_nil, List.cons_append, List.nil_append, List.length_cons, List.length_nil, Nat.reduceAdd, Nat.reduceSub, Nat.reduceLeDiff, Nat.reduceLT, Bool.not_true, Bool.not_false, decide_true, decide_false]; rfl, some (.val (.int j)), some (.val (.int (j - p))), some (.val (.int (k - q))), ?_⟩
        rw [es, ek, List.append_nil, z0]
theorem rangeI_split (lo : Int) (m n : Nat) : rangeI lo (m + n) = rangeI lo m ++ rangeI (lo + m) n := by
  induction n with
  | zero => simp [rangeI_zero]
  | succ n ih =>
    rw [← Nat.add_assoc, rangeI_succ, ih, rangeI_succ, List.append_assoc]
    congr 3
    omega
theorem flat_nil {β : Type} (f : Int → List β) : ∀ xs : List Int, (∀ x ∈ xs, f x = []) → xs.flatMap f = []
  | [], _ => rfl
  | x :: xs, h => by rw [List.flatMap_cons, h x (by simp), flat_nil f xs fun y hy => h y (by simp [hy])]; rfl
theorem flat_sub {β : Type} (f : Int → List β) (w : Nat) (l r : Int) (h0 : 0 ≤ l) (hr : r ≤ w) (hf : ∀ x : Int, 0 ≤ x → x < w → ¬ (l ≤ x ∧ x < r) → f x = []) : (rangeI 0 w).flatMap f = (rangeI l (r - l).toNat).flatMap f := by
  by_cases c : l < r
  · have e : w = (l.toNat + (r - l).toNat) + (w - r).toNat := by omega
    conv => lhs; rw [e]
    rw [rangeI_split, rangeI_split, List.flatMap_append, List.flatMap_append, flat_nil f (rangeI 0 l.toNat), flat_nil f (rangeI _ (w - r).toNat)]
    · rw [List.nil_append, List.append_nil]
      congr 2
      omega
    · intro x hx
      rw [mem_rangeI] at hx
      exact hf x (by omega) (by omega) (by omega)
    · intro x hx
      rw [mem_rangeI] at hx
      exact hf x (by omega) (by omega) (by omega)
  · rw [show (r - l).toNat = 0 by omega, rangeI_zero, flat_nil f]
    · rfl
    · intro x hx
      rw [mem_rangeI] at hx
      exact hf x (by omega) (by omega) (by omega)
/-- the cells that both have, as a box -/
def boxE (a b : List (List Int)) (w h w' h' p q : Int) : List Ent := (rangeI (max 0 q) (min h (q + h') - max 0 q).toNat).flatMap fun y => (rangeI (max 0 p) (min w (p + w') - max 0 p).toNat).map fun x => ((x, y), cell a y x - cell b (y - q) (x - p))
theorem both_box (a b : List (List Int)) (h w h' w' : Nat) (p q : Int) : bothAll a b w' h' p q w h = boxE a b w h w' h' p q := by
  unfold bothAll boxE
  rw [flat_sub _ h (max 0 q) (min (h : Int) (q + h')) (by omega) (by omega)]
  · refine flatMap_congr' fun y hy => ?_
    rw [mem_rangeI] at hy
    unfold bothRow
    rw [flat_sub _ w (max 0 p) (min (w : Int) (p + w')) (by omega) (by omega)]
    · rw [List.map_eq_flatMap]
      refine flatMap_congr' fun x hx => ?_
      rw [mem_rangeI] at hx
      unfold both
      rw [if_pos (by omega)]
    · intro x h1 h2 h3
      exact if_neg (by omega)
  · intro y h1 h2 h3
    refine flat_nil _ _ fun x hx => ?_
    exact if_neg (by omega)
theorem box_vals (a b : List (List Int)) (w h w' h' p q : Int) : (boxE a b w h w' h' p q).map (·.2) = steps a b w h w' h' p q := by
  unfold boxE steps stepsG
  rw [List.map_flatMap]
  refine flatMap_congr' fun y _ => ?_
  rw [List.map_map]
  rfl
theorem box_keys (a b : List (List Int)) (w h w' h' p q : Int) : (boxE a b w h w' h' p q).map (·.1) = (rangeI (max 0 q) (min h (q + h') - max 0 q).toNat).flatMap fun y => (rangeI (max 0 p) (min w (p + w') - max 0 p).toNat).map fun x => (x, y) := by
  unfold boxE
  rw [List.map_flatMap]
  refine flatMap_congr' fun y _ => ?_
  rw [List.map_map]
  rfl
theorem rangeI_nodup (lo : Int) (n : Nat) : (rangeI lo n).Nodup := by
  induction n with
  | zero => simp [rangeI_zero]
  | succ n ih =>
    rw [rangeI_succ, List.nodup_append]
    refine ⟨ih, by simp, ?_⟩
    intro x hx y hy
    rw [mem_rangeI] at hx
    simp -implicitDefEqProofs only [List.mem_singleton] at hy
    omega
theorem grid_nodup (xs : List Int) (hx : xs.Nodup) : ∀ ys : List Int, ys.Nodup → (ys.flatMap fun y => xs.map fun x => (x, y)).Nodup
  | [], _ => by simp
  | y :: ys, h => by
    rw [List.nodup_cons] at h
    rw [List.flatMap_cons, List.nodup_append]
    refine ⟨?_, grid_nodup xs hx ys h.2, ?_⟩
    · exact List.pairwise_map.mpr (hx.imp fun ne e => ne (congrArg Prod.fst e))
    · intro u hu v hv e
      subst e
      obtain ⟨x, _, rfl⟩ := List.mem_map.mp hu
      obtain ⟨y', hy', hm⟩ := List.mem_flatMap.mp hv
      obtain ⟨x', _, e2⟩ := List.mem_map.mp hm
      have : y' = y := congrArg Prod.snd e2
      exact h.1 (this ▸ hy')
theorem box_nodup (a b : List (List Int)) (w h w' h' p q : Int) : ((boxE a b w h w' h' p q).map (·.1)).Nodup := by
  rw [box_keys]
  exact grid_nodup _ (rangeI_nodup ..) _ (rangeI_nodup ..)
/-! sorted, looked up -/
def leT (a b : Int × Int) : Bool := PySem.W.dataLe false (fun d : D => d) (keyT a) (keyT b)
theorem sortD_keys (K : List (Int × Int)) : sortD (K.map keyT) = (K.mergeSort leT).map keyT := by
  unfold sortD
  exact (List.map_mergeSort (f := keyT) (r := leT) fun _ _ _ _ => rfl).symm
theorem okSort_keys (K : List (Int × Int)) : okSort (K.map keyT) = true := by
  unfold okSort
  simp -implicitDefEqProofs only [Bool.and_eq_true, List.all_eq_true, Bool.or_eq_true]
  refine ⟨⟨fun d hd e he => ?_, .inl fun d hd => ?_⟩, fun d hd => ?_⟩
  · obtain ⟨k, _, rfl⟩ := List.mem_map.mp hd
    obtain ⟨l, _, rfl⟩ := List.mem_map.mp he
    simp [keyT, PySem.W.alike, PySem.W.alikeAll]
  · obtain ⟨k, _, rfl⟩ := List.mem_map.mp hd
    rfl
  · obtain ⟨k, _, rfl⟩ := List.mem_map.mp hd
    simp [keyT, PyData.canLay0, PyData.canLayAll0, PyData.depth, PyData.depthAll]
theorem sort_dicT (E : List Ent) : sortF [dicT E] = some (.list (((E.map (·.1)).mergeSort leT).map keyT)) := by
  have e : keysD (dicT E) = some ((E.map (·.1)).map keyT) := by
    have : keysD (dicT E) = some ((E.map entD).map (·.1)) := by cases E <;> rfl
    rw [this, List.map_map, List.map_map]
    rfl
  have u : sortF [dicT E] = (keysD (dicT E)).bind fun ks => if okSort ks = true then some (.list (sortD ks)) else none := rfl
  rw [u, e, Option.bind_some, if_pos (okSort_keys _), sortD_keys]
def valT (E : List Ent) (k : Int × Int) : Int := ((E.find? fun e => decide (e.1 = k)).map (·.2)).getD 0
theorem dget_T (E : List Ent) (k : Int × Int) : dgetP (E.map entD) (keyT k) = (E.find? fun e => decide (e.1 = k)).map fun e => PyData.int e.2 := by
  unfold dgetP
  rw [List.find?_map, Option.map_map]
  have : ((fun q : D × D => PyData.eqv q.1 (keyT k)) ∘ entD) = fun e : Ent => decide (e.1 = k) := by
    funext e
    exact keyT_eqv' e.1 k
  rw [this]
  rfl
theorem dix_T (E : List Ent) (k : Int × Int) (h : k ∈ E.map (·.1)) : dixF (dicT E) (keyT k) = some (.int (valT E k)) := by
  have e : dAt (dicT E) (keyT k) = some (dgetP (E.map entD) (keyT k)) := by cases E <;> rfl
  unfold dixF
  rw [e, dget_T]
  obtain ⟨x, hx, rfl⟩ := List.mem_map.mp h
  unfold valT
  cases hf : E.find? fun e => decide (e.1 = x.1) with
  | none =>
    have := List.find?_eq_none.mp hf x hx
    simp at this
  | some y => rfl
theorem valT_self : ∀ (E : List Ent), (E.map (·.1)).Nodup → (E.map (·.1)).map (valT E) = E.map (·.2)
  | [], _ => rfl
  | e :: E, h => by
    rw [List.map_cons, List.nodup_cons] at h
    have ih := valT_self E h.2
    rw [List.map_cons, List.map_cons, List.map_cons]
    have e1 : valT (e :: E) e.1 = e.2 := by simp [valT]
    rw [e1, ← ih]
    congr 1
    refine List.map_congr_left fun k hk => ?_
    have ne : e.1 ≠ k := fun z => h.1 (z ▸ hk)
    unfold valT
    rw [List.find?_cons_of_neg (by simpa using ne)]
theorem eq_nilF (L : List Int) : eqF (.list (L.map PyData.int)) (.list []) = some (.bool L.isEmpty) := by
  have l1 : Ly 1 (.list (L.map PyData.int)) := Ly.list fun d hd => by
    obtain ⟨x, _, rfl⟩ := List.mem_map.mp hd
    exact Ly.int 0 x
  rw [f_eq l1 (Ly.list (k := 0) (ds := []) (by simp)) (by decide)]
  cases L <;> simp [PyData.eqv, PyData.eqvAll]
theorem lunlike_eq (E : List Ent) (hn : (E.map (·.1)).Nodup) (hl : E.length ≤ 144) (hv : ∀ x ∈ E.map (·.2), -255 ≤ x ∧ x ≤ 255) : sem__law_unlike [dicT E] = .ok (unl (E.map (·.2))) := by
  generalize hK : (E.map (·.1)).mergeSort leT = K
  have pK : K.Perm (E.map (·.1)) := hK ▸ List.mergeSort_perm ..
  have pL : (K.map (valT E)).Perm (E.map (·.2)) := by
    have := pK.map (valT E)
    rw [valT_self E hn] at this
    exact this
  rw [← unl_perm pL]
  have lL : (K.map (valT E)).length ≤ 144 := by rw [pL.length_eq, List.length_map]; exact hl
  have bL : ∀ x ∈ K.map (valT E), -255 ≤ x ∧ x ≤ 255 := fun x hx => hv x (pL.mem_iff.mp hx)
  have so := sort_dicT E
  rw [hK] at so
  have comp : ∀ ρ : En, ρ = [some (.val (dicT E)), none, none, none, none, none, none] → eLc [6] (iSeq (eCB sortF [eV 0])) (.nm 6) (eC (.bool true)) (eOp dixF (eV 0) (eV 6)) ρ = .ok (.list ((K.map (valT E)).map PyData.int)) := by
    rintro ρ rfl
    rw [eLc_mapA K keyT (fun k => PyData.int (valT E k)) (by simp -implicitDefEqProofs only [so, ap_sSeq, seqO_nx, seqO_rt, seqO_exc, ap_sIf, ifO_t, ifO_f, ifO_exc, ap_sNx, ap_sSet, ap_sOwn, ap_sRet, ap_sDrop, ap_sAsg, outB_some, bT_nm, bT_tp, bTs_nil, bTs_cons, ap_sRaise, ap_sPar, parO_ok, ap_sFor, ap_sRetV, retO_own, retO_val, ap_sFrz, frzO_own, frzO_val, ap_sApp, ap_sExt, ap_eV, valO_val, ap_eB, borO_val, borO_own, ap_eC, ap_eOp, opO_ok, ap_eUn, ap_eTup, ap_eLst, tupR_ok, lstR_ok, ap_eCB, ap_eCall, callO_ok, callO_exc, ap_gNot, notR_b, ap_gTru, truR_b, truR_list, ap_gAnd, ap_gOr, andO_t, andO_f, orO_t, orO_f, ap_eAnd, ap_eOr, eandO_t, eandO_f, eorO_t, eorO_f, ap_eNot, enotO_b, enotO_list, ap_eIf, eifO_t, eifO_f, ap_eChain, chO_ok, ap_eIsi, isiO_int, isiO_tup, isiO_lst, isiO_bl, isiO_str, isiO_non, isInt_int, isInt_bl, isInt_tup, isInt_lst, isInt_str, isInt_non, isBool_int, isBool_bl, isTup_tup, isTup_lst, isTup_int, isTup_non, isTup_str, isTup_bl, isLst_lst, isLst_tup, f_add, f_sub, f_neg, f_eqI, f_neI, f_eqB, f_neB, f_lt, f_le, f_gt, f_ge, f_is, f_isNot, isNone_int, isNone_tup, isNone_lst, isNone_non, f_len_l, f_len_t, f_len_rd, f_tup_l, f_tup_t, f_max2, f_min2, f_abs, f_sum_l, f_sum_t, f_ix0, f_ix1, f_ix2, f_ix3, f_rev_t, outR_nx, outR_rt, outR_exc, nones0, nonesS, runB_eq, ap_eSl, optI_none, optI_some, optO_int, ap_sWh, ap_iSeq, items_l, items_t, ap_iRange1, ap_iRange2, wipeE_nil, wipeE_cons, evA_nil, evA_cons, RL.cons_ok, RL.cons_exc, RL.bind_ok, RL.bind_exc, RL.out_ok, RL.out_exc, Rs.bind_ok, Rs.bind_exc, Rs.out_ok, Rs.out_exc, Rs.of_some, Option.bind_some, List.getElem?_cons_zero, List.getElem?_cons_succ, List.set_cons_zero, List.set_cons_succ, List.map_cons, List.map_nil, List.cons_append, List.nil_append, List.length_cons, List.length_nil, Nat.reduceAdd, Nat.reduceSub, Nat.reduceLeDiff, Nat.reduceLT, Bool.not_true, Bool.not_false, decide_true, decide_false]) (by rw [List.length_map] at lL; omega) (by
      intro k hk
      simp -implicitDefEqProofs only [dix_T E k (pK.mem_iff.mp hk), ap_sSeq, seqO_nx, seqO_rt, seqO_exc, ap_sIf, ifO_t, ifO_f, ifO_exc, ap_sNx, ap_sSet, ap_sOwn, ap_sRet, ap_sDrop, ap_sAsg, outB_some, bT_nm, bT_tp, bTs_nil, bTs_cons, ap_sRaise, ap_sPar, parO_ok, ap_sFor, ap_sRetV, retO_own, retO_val, ap_sFrz, frzO_own, frzO_val, ap_sApp, ap_sExt, ap_eV, valO_val, ap_eB, borO_val, borO_own, ap_eC, ap_eOp, opO_ok, ap_eUn, ap_eTup, ap_eLst, tupR_ok, lstR_ok, ap_eCB, ap_eCall, callO_ok, callO_exc, ap_gNot, notR_b, ap_gTru, truR_b, truR_list, ap_gAnd, ap_gOr, andO_t, andO_f, orO_t, orO_f, ap_eAnd, ap_eOr, eandO_t, eandO_f, eorO_t, eorO_f, ap_eNot, enotO_b, enotO_list, ap_eIf, eifO_t, eifO_f, ap_eChain, chO_ok, ap_eIsi, isiO_int, isiO_tup, isiO_lst, isiO_bl, isiO_str, isiO_non, isInt_int, isInt_bl, isInt_tup, isInt_lst, isInt_str, isInt_non, isBool_int, isBool_bl, isTup_tup, isTup_lst, isTup_int, isTup_non, isTup_str, isTup_bl, isLst_lst, isLst_tup, f_add, f_sub, f_neg, f_eqI, f_neI, f_eqB, f_neB, f_lt, f_le, f_gt, f_ge, f_is, f_isNot, isNone_int, isNone_tup, isNone_lst, isNone_non, f_len_l, f_len_t, f_len_rd, f_tup_l, f_tup_t, f_max2, f_min2, f_abs, f_sum_l, f_sum_t, f_ix0, f_ix1, f_ix2, f_ix3, f_rev_t, outR_nx, outR_rt, outR_exc, nones0, nonesS, runB_eq, ap_eSl, optI_none, optI_some, optO_int, ap_sWh, ap_iSeq, items_l, items_t, ap_iRange1, ap_iRange2, wipeE_nil, wipeE_cons, evA_nil, evA_cons, RL.cons_ok, RL.cons_exc, RL.bind_ok, RL.bind_exc, RL.out_ok, RL.out_exc, Rs.bind_ok, Rs.bind_exc, Rs.out_ok, Rs.out_exc, Rs.of_some, Option.bind_some, List.getElem?_cons_zero, List.getElem?_cons_succ, List.set_cons_zero, List.set_cons_succ, List.map_cons, List.map_nil, List.cons_append, List.nil_append, List.length_cons, List.length_nil, Nat.reduceAdd, Nat.reduceSub, Nat.reduceLeDiff, Nat.reduceLT, Bool.not_true, Bool.not_false, decide_true, decide_false]
      exact ⟨trivial, trivial⟩), List.map_map]
    rfl
  generalize K.map (valT E) = L at *
  simp -implicitDefEqProofs only [sem__law_unlike, b__law_unlike, comp _ rfl, eq_nilF, ap_sSeq, seqO_nx, seqO_rt, seqO_exc, ap_sIf, ifO_t, ifO_f, ifO_exc, ap_sNx, ap_sSet, ap_sOwn, ap_sRet, ap_sDrop, ap_sAsg, outB_some, bT_nm, bT_tp, bTs_nil, bTs_cons, ap_sRaise, ap_sPar, parO_ok, ap_sFor, ap_sRetV, retO_own, retO_val, ap_sFrz, frzO_own, frzO_val, ap_sApp, ap_sExt, ap_eV, valO_val, ap_eB, borO_val, borO_own, ap_eC, ap_eOp, opO_ok, ap_eUn, ap_eTup, ap_eLst, tupR_ok, lstR_ok, ap_eCB, ap_eCall, callO_ok, callO_exc, ap_gNot, notR_b, ap_gTru, truR_b, truR_list, ap_gAnd, ap_gOr, andO_t, andO_f, orO_t, orO_f, ap_eAnd, ap_eOr, eandO_t, eandO_f, eorO_t, eorO_f, ap_eNot, enotO_b, enotO_list, ap_eIf, eifO_t, eifO_f, ap_eChain, chO_ok, ap_eIsi, isiO_int, isiO_tup, isiO_lst, isiO_bl, isiO_str, isiO_non, isInt_int, isInt_bl, isInt_tup, isInt_lst, isInt_str, isInt_non, isBool_int, isBool_bl, isTup_tup, isTup_lst, isTup_int, isTup_non, isTup_str, isTup_bl, isLst_lst, isLst_tup, f_add, f_sub, f_neg, f_eqI, f_neI, f_eqB, f_neB, f_lt, f_le, f_gt, f_ge, f_is, f_isNot, isNone_int, isNone_tup, isNone_lst, isNone_non, f_len_l, f_len_t, f_len_rd, f_tup_l, f_tup_t, f_max2, f_min2, f_abs, f_sum_l, f_sum_t, f_ix0, f_ix1, f_ix2, f_ix3, f_rev_t, outR_nx, outR_rt, outR_exc, nones0, nonesS, runB_eq, ap_eSl, optI_none, optI_some, optO_int, ap_sWh, ap_iSeq, items_l, items_t, ap_iRange1, ap_iRange2, wipeE_nil, wipeE_cons, evA_nil, evA_cons, RL.cons_ok, RL.cons_exc, RL.bind_ok, RL.bind_exc, RL.out_ok, RL.out_exc, Rs.bind_ok, Rs.bind_exc, Rs.out_ok, Rs.out_exc, Rs.of_some, Option.bind_some, List.getElem?_cons_zero, List.getElem?_cons_succ, List.set_cons_zero, List.set_cons_succ, List.map_cons, List.map_nil, List.cons_append, List.nil_append, List.length_cons, List.length_nil, Nat.reduceAdd, Nat.reduceSub, Nat.reduceLeDiff, Nat.reduceLT, Bool.not_true, Bool.not_false, decide_true, decide_false]
  cases L with
  | nil => simp [unl, ap_sSeq, seqO_nx, seqO_rt, seqO_exc, ap_sIf, ifO_t, ifO_f, ifO_exc, ap_sNx, ap_sSet, ap_sOwn, ap_sRet, ap_sDrop, ap_sAsg, outB_some, bT_nm, bT_tp, bTs_nil, bTs_cons, ap_sRaise, ap_sPar, parO_ok, ap_sFor, ap_sRetV, retO_own, retO_val, ap_sFrz, frzO_own, frzO_val, ap_sApp, ap_sExt, ap_eV, valO_val, ap_eB, borO_val, borO_own, ap_eC, ap_eOp, opO_ok, ap_eUn, ap_eTup, ap_eLst, tupR_ok, lstR_ok, ap_eCB, ap_eCall, callO_ok, callO_exc, ap_gNot, notR_b, ap_gTru, truR_b, truR_list, ap_gAnd, ap_gOr, andO_t, andO_f, orO_t, orO_f, ap_eAnd, ap_eOr, eandO_t, eandO_f, eorO_t, eorO_f, ap_eNot, enotO_b, enotO_list, ap_eIf, eifO_t, eifO_f, ap_eChain, chO_ok, ap_eIsi, isiO_int, isiO_tup, isiO_lst, isiO_bl, isiO_str, isiO_non, isInt_int, isInt_bl, isInt_tup, isInt_lst, isInt_str, isInt_non, isBool_int, isBool_bl, isTup_tup, isTup_lst, isTup_int, isTup_non, isTup_str, isTup_bl, isLst_lst, isLst_tup, f_add, f_sub, f_neg, f_eqI, f_neI, f_eqB, f_neB, f_lt, f_le, f_gt, f_ge, f_is, f_isNot, isNone_int, isNone_tup, isNone_lst, isNone_non, f_len_l, f_len_t, f_len_rd, f_tup_l, f_tup_t, f_max2, f_min2, f_abs, f_sum_l, f_sum_t, f_ix0, f_ix1, f_ix2, f_ix3, f_rev_t, outR_nx, outR_rt, outR_exc, nones0, nonesS, runB_eq, ap_eSl, optI_none, optI_some, optO_int, ap_sWh, ap_iSeq, items_l, items_t, ap_iRange1, ap_iRange2, wipeE_nil, wipeE_cons, evA_nil, evA_cons, RL.cons_ok, RL.cons_exc, RL.bind_ok, RL.bind_exc, RL.out_ok, RL.out_exc, Rs.bind_ok, Rs.bind_exc, Rs.out_ok, Rs.out_exc, Rs.of_some, Option.bind_some, List.getElem?_cons_zero, List.getElem?_cons_succ, List.set_cons_zero, List.set_cons_succ, List.map_cons, List.map_nil, List.cons_append, List.nil_append, List.length_cons, List.length_nil, Nat.reduceAdd, Nat.reduceSub, Nat.reduceLeDiff, Nat.reduceLT, Bool.not_true, Bool.not_false, decide_true, decide_false]
  | cons x L =>
    have hne : x :: L ≠ [] := by simp
    rw [unl_fr hne]
    generalize hM : x :: L = M at *
    have hE : M.isEmpty = false := by rw [← hM]; rfl
    have n0 : 0 < (M.length : Int) := by rw [← hM, List.length_cons]; omega
    have sb := sum_bd 255 M bL
    have bn : Bd 20 (M.length : Int) := Bd.of 0 144 (by omega) (by decide) (by decide)
    have q1 := lleast_big M.sum (M.length : Int) n0 (bn.mono (by decide))
    have dv : devs (M.length : Int) M.sum M = (M.length : Int) * ((M.length : Int) * (M.map fun x => x * x).sum - M.sum * M.sum) := by
      rw [devs_sum]
      grind
    have sq : (M.map fun x => x * x).sum ≤ 65025 * M.length := by
      have := (sum_bd 65025 (M.map fun x => x * x) fun y hy => by
        obtain ⟨z, hz, rfl⟩ := List.mem_map.mp hy
        have h1 := sq_le (bL z hz)
        have h2 : 0 ≤ z * z := by
          rcases Int.le_total 0 z with q | q
          · exact Int.mul_nonneg q q
          · have := Int.mul_nonneg (Int.neg_nonneg_of_nonpos q) (Int.neg_nonneg_of_nonpos q)
            rw [Int.neg_mul_neg] at this
            exact this
        omega).2
      rw [List.length_map] at this
      exact this
    have q0 := devs_nonneg (M.length : Int) M.sum M
    have big : devs (M.length : Int) M.sum M ≤ 200000000000 := by
      rw [dv]
      have s0 : 0 ≤ M.sum * M.sum := by
        rcases Int.le_total 0 M.sum with q | q
        · exact Int.mul_nonneg q q
        · have := Int.mul_nonneg (Int.neg_nonneg_of_nonpos q) (Int.neg_nonneg_of_nonpos q)
          rw [Int.neg_mul_neg] at this
          exact this
      have m1 : (M.length : Int) * (M.map fun x => x * x).sum ≤ 144 * (65025 * 144) := by
        refine Int.le_trans (Int.mul_le_mul_of_nonneg_left sq (by omega)) ?_
        exact Int.mul_le_mul (by omega) (by omega) (by omega) (by omega)
      have m2 : (M.length : Int) * ((M.length : Int) * (M.map fun x => x * x).sum - M.sum * M.sum) ≤ (M.length : Int) * (144 * (65025 * 144)) := Int.mul_le_mul_of_nonneg_left (by omega) (by omega)
      omega
    have big2 : (200000000000 : Int) ≤ 2 ^ 200 := by decide
    obtain ⟨o4, o5, go⟩ := unlike_go n0 (by omega) (S := M.sum) (by omega) (some (.val (dicT E))) (some (.val (.list (M.map PyData.int)))) none M 0 none none (fun y hy => by have := bL y hy; omega) (by omega) (by omega)
    have f0 : frD 0 ((M.length : Int) * M.length) = .tuple [.int 0, .int 1] := by
      rw [← frD_one]
      exact frD_eq (Int.mul_pos n0 n0) (by decide) (by omega)
    rw [f0, Int.zero_add] at go
    have fin : sem__law_times [frD (devs (M.length : Int) M.sum M) ((M.length : Int) * M.length), .tuple [.int 1, .int (M.length : Int)]] = .ok (frD ((M.length : Int) * (M.map fun x => x * x).sum - M.sum * M.sum) ((M.length : Int) * M.length)) := by
      have e1 : (PyData.tuple [.int 1, .int (M.length : Int)]) = frD 1 (M.length : Int) := by
        unfold frD
        rw [Int.gcd_comm, Int.gcd_one_right]
        simp
      rw [e1, ltimes_eq _ _ _ _ (Int.mul_pos n0 n0) n0 ((Bd.of 0 200000000000 ⟨q0, big⟩ (by decide) (by decide) : Bd 40 _).mono (by decide)) ((bn.mul bn).mono (by decide)) (Bd.of 0 1 (by decide) (by decide) (by decide)) (bn.mono (by decide))]
      refine congrArg Rs.ok (frD_eq (Int.mul_pos (Int.mul_pos n0 n0) n0) (Int.mul_pos n0 n0) ?_)
      rw [dv]
      grind
    simp -implicitDefEqProofs only [hE, f_sum_l, List.length_map, q1, go, fin, ap_sSeq, seqO_nx, seqO_rt, seqO_exc, ap_sIf, ifO_t, ifO_f, ifO_exc, ap_sNx, ap_sSet, ap_sOwn, ap_sRet, ap_sDrop, ap_sAsg, outB_some, bT_nm, bT_tp, bTs_nil, bTs_cons, ap_sRaise, ap_sPar, parO_ok, ap_sFor, ap_sRetV, retO_own, retO_val, ap_sFrz, frzO_own, frzO_val, ap_sApp, ap_sExt, ap_eV, valO_val, ap_eB, borO_val, borO_own, ap_eC, ap_eOp, opO_ok, ap_eUn, ap_eTup, ap_eLst, tupR_ok, lstR_ok, ap_eCB, ap_eCall, callO_ok, callO_exc, ap_gNot, notR_b, ap_gTru, truR_b, truR_list, ap_gAnd, ap_gOr, andO_t, andO_f, orO_t, orO_f, ap_eAnd, ap_eOr, eandO_t, eandO_f, eorO_t, eorO_f, ap_eNot, enotO_b, enotO_list, ap_eIf, eifO_t, eifO_f, ap_eChain, chO_ok, ap_eIsi, isiO_int, isiO_tup, isiO_lst, isiO_bl, isiO_str, isiO_non, isInt_int, isInt_bl, isInt_tup, isInt_lst, isInt_str, isInt_non, isBool_int, isBool_bl, isTup_tup, isTup_lst, isTup_int, isTup_non, isTup_str, isTup_bl, isLst_lst, isLst_tup, f_add, f_sub, f_neg, f_eqI, f_neI, f_eqB, f_neB, f_lt, f_le, f_gt, f_ge, f_is, f_isNot, isNone_int, isNone_tup, isNone_lst, isNone_non, f_len_l, f_len_t, f_len_rd, f_tup_l, f_tup_t, f_max2, f_min2, f_abs, f_sum_l, f_sum_t, f_ix0, f_ix1, f_ix2, f_ix3, f_rev_t, outR_nx, outR_rt, outR_exc, nones0, nonesS, runB_eq, ap_eSl, optI_none, optI_some, optO_int, ap_sWh, ap_iSeq, items_l, items_t, ap_iRange1, ap_iRange2, wipeE_nil, wipeE_cons, evA_nil, evA_cons, RL.cons_ok, RL.cons_exc, RL.bind_ok, RL.bind_exc, RL.out_ok, RL.out_exc, Rs.bind_ok, Rs.bind_exc, Rs.out_ok, Rs.out_exc, Rs.of_some, Option.bind_some, List.getElem?_cons_zero, List.getElem?_cons_succ, List.set_cons_zero, List.set_cons_succ, List.map_cons, List.map_nil, List.cons_append, List.nil_append, List.length_cons, List.length_nil, Nat.reduceAdd, Nat.reduceSub, Nat.reduceLeDiff, Nat.reduceLT, Bool.not_true, Bool.not_false, decide_true, decide_false]
end VVlaw

set_option Elab.async false
set_option linter.all false
set_option maxRecDepth 100000
set_option maxHeartbeats 4000000
namespace VVlaw
open PySem PySem.Spec L2 VV
open PyProof.Rows hiding St
def b__law_below : SF := (sRet (eOp ltF (eOp mulF (eOp ixF (eV 0) (eC (.int 0))) (eOp ixF (eV 1) (eC (.int 1)))) (eOp mulF (eOp ixF (eV 1) (eC (.int 0))) (eOp ixF (eV 0) (eC (.int 1))))))
def sem__law_below : List D → Rs := runB 2 2 b__law_below
def lp__law_ground_1 : SF := (sSeq (sSet 8 (eOp mulF (eOp ixF (eV 2) (eOp modF (eOp addF (eOp mulF (eC (.int 5)) (eV 5)) (eOp mulF (eC (.int 3)) (eV 7))) (eC (.int 60)))) (eV 3))) (sApp 6 (eOp modF (eOp addF (eOp addF (eV 8) (eOp mulF (eV 7) (eOp ixF (eV 2) (eC (.int 1))))) (eOp mulF (eV 5) (eC (.int 11)))) (eC (.int 200)))))
def lp__law_ground_2 : SF := (sSeq (sOwn 6 (eLst [])) (sSeq (sFor (iRange1 [(eC (.int 14))]) (.nm 7) lp__law_ground_1) (sApp 4 (eCB tupF [(eB 6)]))))
def b__law_ground : SF := (sSeq (sSet 2 (eCall sem__law_row [(eV 0), (eV 1)])) (sSeq (sSet 3 (eOp ixF (eLst [(eC (.int 1)), (eC (.int 7)), (eC (.int 13))]) (eOp modF (eOp ixF (eV 2) (eC (.int 0))) (eC (.int 3))))) (sSeq (sOwn 4 (eLst [])) (sSeq (sFor (iRange1 [(eC (.int 12))]) (.nm 5) lp__law_ground_2) (sRet (eCB tupF [(eB 4)]))))))
def sem__law_ground : List D → Rs := runB 2 9 b__law_ground
def lp__law_scene_1 : SF := (sSeq (sSet 7 (eOp addF (eC (.int 5)) (eOp mulF (eC (.int 6)) (eV 6)))) (sSeq (sAsg (.tp [(.nm 8), (.nm 9)]) (eOp ixF (eB 4) (eOp modF (eOp ixF (eV 3) (eV 7)) (eCB lenF [(eB 4)])))) (sSeq (sAsg (.tp [(.nm 10), (.nm 11)]) (eTup [(eOp addF (eC (.int 3)) (eOp modF (eOp ixF (eV 3) (eOp addF (eV 7) (eC (.int 1)))) (eC (.int 4)))), (eOp addF (eC (.int 3)) (eOp modF (eOp ixF (eV 3) (eOp addF (eV 7) (eC (.int 2)))) (eC (.int 3))))])) (sSeq (sAsg (.tp [(.nm 8), (.nm 9)]) (eTup [(eCB max2F [(eOp subF (eOp addF (eV 8) (eOp modF (eOp ixF (eV 3) (eOp addF (eV 7) (eC (.int 3)))) (eC (.int 7)))) (eC (.int 3))), (eC (.int 0))]), (eCB max2F [(eOp subF (eOp addF (eV 9) (eOp modF (eOp ixF (eV 3) (eOp addF (eV 7) (eC (.int 4)))) (eC (.int 5)))) (eC (.int 2))), (eC (.int 0))])])) (sSeq (sApp 4 (eTup [(eCB min2F [(eV 8), (eOp subF (eC (.int 14)) (eV 10))]), (eCB min2F [(eV 9), (eOp subF (eC (.int 12)) (eV 11))])])) (sApp 5 (eTup [(eV 10), (eV 11)])))))))
def lp__law_scene_2 : SF := (sSeq (sSet 13 (eIf (eOp eqF (eOp modF (eOp ixF (eV 3) (eC (.int 34))) (eC (.int 2))) (eC (.int 0))) (eOp modF (eOp ixF (eV 3) (eOp addF (eC (.int 35)) (eCB lenF [(eB 12)]))) (eC (.int 41))) (eC (.int 0)))) (sApp 12 (eCB tupF [(eLc [17] (iSeq (eSl (eV 2) (some (eV 9)) (some (eOp addF (eV 9) (eV 11))))) (.nm 17) (eC (.bool true)) (eCB tupF [(eLc [18] (iSeq (eSl (eV 17) (some (eV 8)) (some (eOp addF (eV 8) (eV 10))))) (.nm 18) (eC (.bool true)) (eOp addF (eV 18) (eV 13)))]))])))
def b__law_scene : SF := (sSeq (sSet 2 (eCall sem__law_ground [(eV 0), (eV 1)])) (sSeq (sSet 3 (eCall sem__law_row [(eV 0), (eOp addF (eV 1) (eC (.int 1)))])) (sSeq (sOwn 4 (eLst [(eTup [(eOp modF (eOp ixF (eV 3) (eC (.int 0))) (eC (.int 4))), (eOp modF (eOp ixF (eV 3) (eC (.int 1))) (eC (.int 3)))])])) (sSeq (sOwn 5 (eLst [(eTup [(eOp addF (eC (.int 3)) (eOp modF (eOp ixF (eV 3) (eC (.int 2))) (eC (.int 4)))), (eOp addF (eC (.int 3)) (eOp modF (eOp ixF (eV 3) (eC (.int 3))) (eC (.int 3))))])])) (sSeq (sFor (iRange1 [(eOp addF (eC (.int 1)) (eOp modF (eOp ixF (eV 3) (eC (.int 4))) (eC (.int 4))))]) (.nm 6) lp__law_scene_1) (sSeq (sOwn 12 (eLst [])) (sFrz 4 (sFrz 5 (sSeq (sFor (iZip [(eV 4), (eV 5)]) (.tp [(.tp [(.nm 8), (.nm 9)]), (.tp [(.nm 10), (.nm 11)])]) lp__law_scene_2) (sSeq (sAsg (.tp [(.nm 14), (.nm 15)]) (eTup [(eCB (best1F min) [(eLc [16] (iSeq (eB 4)) (.nm 16) (eC (.bool true)) (eOp ixF (eV 16) (eC (.int 0))))]), (eCB (best1F min) [(eLc [16] (iSeq (eB 4)) (.nm 16) (eC (.bool true)) (eOp ixF (eV 16) (eC (.int 1))))])])) (sRet (eTup [(eCB tupF [(eB 12)]), (eCB tupF [(eLc [8, 9] (iSeq (eB 4)) (.tp [(.nm 8), (.nm 9)]) (eC (.bool true)) (eTup [(eOp subF (eV 8) (eV 14)), (eOp subF (eV 9) (eV 15))]))])]))))))))))))
def sem__law_scene : List D → Rs := runB 2 19 b__law_scene
end VVlaw

set_option Elab.async false
set_option linter.all false
set_option maxRecDepth 100000
set_option maxHeartbeats 4000000
/-! PLs: the ground and the scene of the laws. -/
namespace VVlaw
open PySem PySem.Spec L2 VV
open PyProof.Rows hiding St
/-- a ground: twelve rows of fourteen levels below two hundred -/
structure Gr (g : List (List Int)) : Prop where
  len : g.length = 12
  row : ∀ r ∈ g, r.length = 14
  lev : ∀ r ∈ g, ∀ v ∈ r, 0 ≤ v ∧ v < 200
theorem ground_eq (ns : List Int) (t : Int) (h0 : 0 ≤ t) : ∃ g, sem__law_ground [rdL ns, .int t] = .ok (shD g) ∧ Gr g := by
  obtain ⟨r, er, R⟩ := law_row_eq ns t h0
  have i0 : ixF (.list (r.map PyData.int)) (.int 0) = some (.int (r.getD 0 0)) := R.at 0 (by decide) (by decide)
  have i1 : ixF (.list (r.map PyData.int)) (.int 1) = some (.int (r.getD 1 0)) := R.at 1 (by decide) (by decide)
  obtain ⟨by_, eby, hby⟩ := pick3 1 7 13 (r.getD 0 0)
  have b1 := R.bdAt 1
  generalize r.getD 1 0 = r1 at *
  have er12 : (RL.ok [.int 12]).items rng1 = .ok (rangeD 0 12) := rng1_ok 12 (by decide) (by decide)
  have er14 : (RL.ok [.int 14]).items rng1 = .ok (rangeD 0 14) := rng1_ok 14 (by decide) (by decide)
  obtain ⟨ρ', e, G, o5, o6, o7, o8, rfl, hG, hq⟩ := forGo_rng (i := 5) (lo := 0) (n := 12) (f := lp__law_ground_2)
    (fun k ρ => ∃ (G : List (List Int)) (o5 o6 o7 o8 : Option Sl), ρ = [some (.val (rdL ns)), some (.val (.int t)), some (.val (.list (r.map PyData.int))), some (.val (.int by_)), some (.own (.list (G.map rowD))), o5, o6, o7, o8] ∧ G.length = k ∧ ∀ q ∈ G, q.length = 14 ∧ ∀ z ∈ q, 0 ≤ z ∧ z < 200)
    (ρ := [some (.val (rdL ns)), some (.val (.int t)), some (.val (.list (r.map PyData.int))), some (.val (.int by_)), some (.own (.list [])), none, none, none, none]) ⟨[], none, none, none, none, rfl, rfl, by simp⟩ (by
      rintro k ρ hk ⟨G, o5, o6, o7, o8, rfl, hG, hq⟩
      obtain ⟨ρ2, e2, L, p7, p8, rfl, hL, hz⟩ := forGo_rng (i := 7) (lo := 0) (n := 14) (f := lp__law_ground_1)
        (fun j ρ => ∃ (L : List Int) (o7 o8 : Option Sl), ρ = [some (.val (rdL ns)), some (.val (.int t)), some (.val (.list (r.map PyData.int))), some (.val (.int by_)), some (.own (.list (G.map rowD))), some (.val (.int (0 + (k : Int)))), some (.own (.list (L.map PyData.int))), o7, o8] ∧ L.length = j ∧ ∀ z ∈ L, 0 ≤ z ∧ z < 200)
        (ρ := [some (.val (rdL ns)), some (.val (.int t)), some (.val (.list (r.map PyData.int))), some (.val (.int by_)), some (.own (.list (G.map rowD))), some (.val (.int (0 + (k : Int)))), some (.own (.list [])), o7, o8]) ⟨[], o7, o8, rfl, rfl, by simp⟩ (by
          rintro j ρ hj ⟨L, p7, p8, rfl, hL, hz⟩
          have hlen : (L.map PyData.int).length < 16777216 := by rw [List.length_map]; omega
          have m1 : mulF (.int 5) (.int (0 + (k : Int))) = some (.int (5 * (0 + (k : Int)))) := f_mul _ _ (.inl (by decide))
          have m2 : mulF (.int 3) (.int (0 + (j : Int))) = some (.int (3 * (0 + (j : Int)))) := f_mul _ _ (.inl (by decide))
          have i3 : ixF (.list (r.map PyData.int)) (.int ((5 * (0 + (k : Int)) + 3 * (0 + (j : Int))) % 60)) = some (.int (r.getD ((5 * (0 + (k : Int)) + 3 * (0 + (j : Int))) % 60).toNat 0)) := R.at _ (by omega) (by omega)
          generalize r.getD ((5 * (0 + (k : Int)) + 3 * (0 + (j : Int))) % 60).toNat 0 = one at i3
          have m3 : mulF (.int one) (.int by_) = some (.int (one * by_)) := f_mul _ _ (.inr (by omega))
          have m4 : mulF (.int (0 + (j : Int))) (.int r1) = some (.int ((0 + (j : Int)) * r1)) := f_mul _ _ (.inr (by omega))
          have m5 : mulF (.int (0 + (k : Int))) (.int 11) = some (.int ((0 + (k : Int)) * 11)) := f_mul _ _ (.inr (by decide))
          simp -implicitDefEqProofs only [lp__law_ground_1, m1, m2, f_modP _ 60 (by decide), i3, m3, i1, m4, m5, f_modP _ 200 (by decide), appO_ok _ _ _ _ hlen, ap_sSeq, seqO_nx, seqO_rt, seqO_exc, ap_sIf, ifO_t, ifO_f, ifO_exc, ap_sNx, ap_sSet, ap_sOwn, ap_sRet, ap_sDrop, ap_sAsg, outB_some, bT_nm, bT_tp, bTs_nil, bTs_cons, ap_sRaise, ap_sPar, parO_ok, ap_sFor, ap_sRetV, retO_own, retO_val, ap_sFrz, frzO_own, frzO_val, ap_sApp, ap_sExt, ap_eV, valO_val, ap_eB, borO_val, borO_own, ap_eC, ap_eOp, opO_ok, ap_eUn, ap_eTup, ap_eLst, tupR_ok, lstR_ok, ap_eCB, ap_eCall, callO_ok, callO_exc, ap_gNot, notR_b, ap_gTru, truR_b, truR_list, ap_gAnd, ap_gOr, andO_t, andO_f, orO_t, orO_f, ap_eAnd, ap_eOr, eandO_t, eandO_f, eorO_t, eorO_f, ap_eNot, enotO_b, enotO_list, ap_eIf, eifO_t, eifO_f, ap_eChain, chO_ok, ap_eIsi, isiO_int, isiO_tup, isiO_lst, isiO_bl, isiO_str, isiO_non, isInt_int, isInt_bl, isInt_tup, isInt_lst, isInt_str, isInt_non, isBool_int, isBool_bl, isTup_tup, isTup_lst, isTup_int, isTup_non, isTup_str, isTup_bl, isLst_lst, isLst_tup, f_add, f_sub, f_neg, f_eqI, f_neI, f_eqB, f_neB, f_lt, f_le, f_gt, f_ge, f_is, f_isNot, isNone_int, isNone_tup, isNone_lst, isNone_non, f_len_l, f_len_t, f_len_rd, f_tup_l, f_tup_t, f_max2, f_min2, f_abs, f_sum_l, f_sum_t, f_ix0, f_ix1, f_ix2, f_ix3, f_rev_t, outR_nx, outR_rt, outR_exc, nones0, nonesS, runB_eq, ap_eSl, optI_none, optI_some, optO_int, ap_sWh, ap_iSeq, items_l, items_t, ap_iRange1, ap_iRange2, wipeE_nil, wipeE_cons, evA_nil, evA_cons, RL.cons_ok, RL.cons_exc, RL.bind_ok, RL.bind_exc, RL.out_ok, RL.out_exc, Rs.bind_ok, Rs.bind_exc, Rs.out_ok, Rs.out_exc, Rs.of_some, Option.bind_some, List.getElem?_cons_zero, List.getElem?_cons_succ, List.set_cons_zero, List.set_cons_succ, List.map_cons, List.map_nil, List.cons_append, List.nil_append, List.length_cons, List.length_nil, Nat.reduceAdd, Nat.reduceSub, Nat.reduceLeDiff, Nat.reduceLT, Bool.not_true, Bool.not_false, decide_true, decide_false]
          refine ⟨_, rfl, L ++ [(one * by_ + (0 + (j : Int)) * r1 + (0 + (k : Int)) * 11) % 200], some (.val (.int (0 + (j : Int)))), some (.val (.int (one * by_))), ?_, by simp [hL], ?_⟩
          · rw [List.map_append]; rfl
          · intro z hz'
            rw [List.mem_append] at hz'
            rcases hz' with hz' | hz'
            · exact hz z hz'
            · simp -implicitDefEqProofs only [List.mem_singleton] at hz'
              subst hz'
              omega)
      have hlen : (G.map rowD).length < 16777216 := by rw [List.length_map]; omega
      simp -implicitDefEqProofs only [lp__law_ground_2, er14, e2, appO_ok _ _ _ _ hlen, ap_sSeq, seqO_nx, seqO_rt, seqO_exc, ap_sIf, ifO_t, ifO_f, ifO_exc, ap_sNx, ap_sSet, ap_sOwn, ap_sRet, ap_sDrop, ap_sAsg, outB_some, bT_nm, bT_tp, bTs_nil, bTs_cons, ap_sRaise, ap_sPar, parO_ok, ap_sFor, ap_sRetV, retO_own, retO_val, ap_sFrz, frzO_own, frzO_val, ap_sApp, ap_sExt, ap_eV, valO_val, ap_eB, borO_val, borO_own, ap_eC, ap_eOp, opO_ok, ap_eUn, ap_eTup, ap_eLst, tupR_ok, lstR_ok, ap_eCB, ap_eCall, callO_ok, callO_exc, ap_gNot, notR_b, ap_gTru, truR_b, truR_list, ap_gAnd, ap_gOr, andO_t, andO_f, orO_t, orO_f, ap_eAnd, ap_eOr, eandO_t, eandO_f, eorO_t, eorO_f, ap_eNot, enotO_b, enotO_list, ap_eIf, eifO_t, eifO_f, ap_eChain, chO_ok, ap_eIsi, isiO_int, isiO_tup, isiO_lst, isiO_bl, isiO_str, isiO_non, isInt_int, isInt_bl, isInt_tup, isInt_lst, isInt_str, isInt_non, isBool_int, isBool_bl, isTup_tup, isTup_lst, isTup_int, isTup_non, isTup_str, isTup_bl, isLst_lst, isLst_tup, f_add, f_sub, f_neg, f_eqI, f_neI, f_eqB, f_neB, f_lt, f_le, f_gt, f_ge, f_is, f_isNot, isNone_int, isNone_tup, isNone_lst, isNone_non, f_len_l, f_len_t, f_len_rd, f_tup_l, f_tup_t, f_max2, f_min2, f_abs, f_sum_l, f_sum_t, f_ix0, f_ix1, f_ix2, f_ix3, f_rev_t, outR_nx, outR_rt, outR_exc, nones0, nonesS, runB_eq, ap_eSl, optI_none, optI_some, optO_int, ap_sWh, ap_iSeq, items_l, items_t, ap_iRange1, ap_iRange2, wipeE_nil, wipeE_cons, evA_nil, evA_cons, RL.cons_ok, RL.cons_exc, RL.bind_ok, RL.bind_exc, RL.out_ok, RL.out_exc, Rs.bind_ok, Rs.bind_exc, Rs.out_ok, Rs.out_exc, Rs.of_some, Option.bind_some, List.getElem?_cons_zero, List.getElem?_cons_succ, List.set_cons_zero, List.set_cons_succ, List.map_cons, List.map_nil, List.cons_append, List.nil_append, List.length_cons, List.length_nil, Nat.reduceAdd, Nat.reduceSub, Nat.reduceLeDiff, Nat.reduceLT, Bool.not_true, Bool.not_false, decide_true, decide_false]
      refine ⟨_, rfl, G ++ [L], some (.val (.int (0 + (k : Int)))), some (.own (.list (L.map PyData.int))), p7, p8, ?_, by simp [hG], ?_⟩
      · rw [List.map_append]; rfl
      · intro q hq'
        rw [List.mem_append] at hq'
        rcases hq' with hq' | hq'
        · exact hq q hq'
        · simp -implicitDefEqProofs only [List.mem_singleton] at hq'
          subst hq'
          exact ⟨hL, hz⟩)
  refine ⟨G, ?_, hG, fun q h => (hq q h).1, fun q h => (hq q h).2⟩
  simp -implicitDefEqProofs only [sem__law_ground, b__law_ground, er, i0, f_modP _ 3 (by decide), eby, er12, e, ap_sSeq, seqO_nx, seqO_rt, seqO_exc, ap_sIf, ifO_t, ifO_f, ifO_exc, ap_sNx, ap_sSet, ap_sOwn, ap_sRet, ap_sDrop, ap_sAsg, outB_some, bT_nm, bT_tp, bTs_nil, bTs_cons, ap_sRaise, ap_sPar, parO_ok, ap_sFor, ap_sRetV, retO_own, retO_val, ap_sFrz, frzO_own, frzO_val, ap_sApp, ap_sExt, ap_eV, valO_val, ap_eB, borO_val, borO_own, ap_eC, ap_eOp, opO_ok, ap_eUn, ap_eTup, ap_eLst, tupR_ok, lstR_ok, ap_eCB, ap_eCall, callO_ok, callO_exc, ap_gNot, notR_b, ap_gTru, truR_b, truR_list, ap_gAnd, ap_gOr, andO_t, andO_f, orO_t, orO_f, ap_eAnd, ap_eOr, eandO_t, eandO_f, eorO_t, eorO_f, ap_eNot, enotO_b, enotO_list, ap_eIf, eifO_t, eifO_f, ap_eChain, chO_ok, ap_eIsi, isiO_int, isiO_tup, isiO_lst, isiO_bl, isiO_str, isiO_non, isInt_int, isInt_bl, isInt_tup, isInt_lst, isInt_str, isInt_non, isBool_int, isBool_bl, isTup_tup, isTup_lst, isTup_int, isTup_non, isTup_str, isTup_bl, isLst_lst, isLst_tup, f_add, f_sub, f_neg, f_eqI, f_neI, f_eqB, f_neB, f_lt, f_le, f_gt, f_ge, f_is, f_isNot, isNone_int, isNone_tup, isNone_lst, isNone_non, f_len_l, f_len_t, f_len_rd, f_tup_l, f_tup_t, f_max2, f_min2, f_abs, f_sum_l, f_sum_t, f_ix0, f_ix1, f_ix2, f_ix3, f_rev_t, outR_nx, outR_rt, outR_exc, nones0, nonesS, runB_eq, ap_eSl, optI_none, optI_some, optO_int, ap_sWh, ap_iSeq, items_l, items_t, ap_iRange1, ap_iRange2, wipeE_nil, wipeE_cons, evA_nil, evA_cons, RL.cons_ok, RL.cons_exc, RL.bind_ok, RL.bind_exc, RL.out_ok, RL.out_exc, Rs.bind_ok, Rs.bind_exc, Rs.out_ok, Rs.out_exc, Rs.of_some, Option.bind_some, List.getElem?_cons_zero, List.getElem?_cons_succ, List.set_cons_zero, List.set_cons_succ, List.map_cons, List.map_nil, List.cons_append, List.nil_append, List.length_cons, List.length_nil, Nat.reduceAdd, Nat.reduceSub, Nat.reduceLeDiff, Nat.reduceLT, Bool.not_true, Bool.not_false, decide_true, decide_false]
  rfl
/-! the scene -/
/-- a place and a size -/
abbrev Pc := (Int × Int) × (Int × Int)
def wyD (z : Int × Int) : D := .tuple [.int z.1, .int z.2]
theorem bT_wy (i j : Nat) (z : Int × Int) (ρ : En) : bindT (.tp [.nm i, .nm j]) (wyD z) ρ = some ((ρ.set i (some (.val (.int z.1)))).set j (some (.val (.int z.2)))) := by
  simp -implicitDefEqProofs only [wyD, bT_tp, bTs_cons, bTs_nil, bT_nm, Option.bind_some]
theorem ix_wy0 (z : Int × Int) : ixF (wyD z) (.int 0) = some (.int z.1) := f_ix0 _ _
theorem ix_wy1 (z : Int × Int) : ixF (wyD z) (.int 1) = some (.int z.2) := f_ix1 _ _ _
structure PcOk (e : Pc) : Prop where
  x0 : 0 ≤ e.1.1
  y0 : 0 ≤ e.1.2
  w1 : 3 ≤ e.2.1
  w2 : e.2.1 ≤ 6
  h1 : 3 ≤ e.2.2
  h2 : e.2.2 ≤ 5
  xw : e.1.1 + e.2.1 ≤ 14
  yh : e.1.2 + e.2.2 ≤ 12
/-- a box of the ground with more light -/
def cutLit (g : List (List Int)) (e : Pc) (m : Int) : List (List Int) := ((g.drop e.1.2.toNat).take e.2.2.toNat).map fun r => ((r.drop e.1.1.toNat).take e.2.1.toNat).map fun v => v + m
theorem cutLit_sh {g : List (List Int)} (G : Gr g) {e : Pc} (E : PcOk e) {m : Int} (h0 : 0 ≤ m) (h1 : m ≤ 55) : Sh (cutLit g e m) e.2.2.toNat e.2.1.toNat where
  len := by
    have := E.y0; have := E.yh; have := E.h1; have := G.len
    unfold cutLit
    rw [List.length_map, List.length_take, List.length_drop]
    omega
  h1 := by have := E.h1; omega
  h2 := by have := E.h2; omega
  w1 := by have := E.w1; omega
  w2 := by have := E.w2; omega
  row := fun r hr => by
    obtain ⟨q, hq, rfl⟩ := List.mem_map.mp hr
    have := G.row q (List.mem_of_mem_drop (List.mem_of_mem_take hq))
    have := E.x0; have := E.xw; have := E.w1
    rw [List.length_map, List.length_take, List.length_drop]
    omega
  lev := fun r hr v hv => by
    obtain ⟨q, hq, rfl⟩ := List.mem_map.mp hr
    obtain ⟨z, hz, rfl⟩ := List.mem_map.mp hv
    have := G.lev q (List.mem_of_mem_drop (List.mem_of_mem_take hq)) z (List.mem_of_mem_drop (List.mem_of_mem_take hz))
    omega
/-- how much more light the shot of a number has -/
def more (r : List Int) (i : Nat) : Int := if r.getD 34 0 % 2 = 0 then r.getD (35 + i) 0 % 41 else 0
theorem more_bd (r : List Int) (i : Nat) : 0 ≤ more r i ∧ more r i ≤ 40 := by
  unfold more
  split <;> omega
def litBoxes (g : List (List Int)) (r : List Int) (P : List Pc) : List (List (List Int)) := P.mapIdx fun i e => cutLit g e (more r i)
theorem litBoxes_snoc (g : List (List Int)) (r : List Int) (P : List Pc) (e : Pc) : litBoxes g r (P ++ [e]) = litBoxes g r P ++ [cutLit g e (more r P.length)] := by
  unfold litBoxes
  rw [List.mapIdx_append]
  simp
theorem litBoxes_length (g : List (List Int)) (r : List Int) (P : List Pc) : (litBoxes g r P).length = P.length := by simp [litBoxes]
theorem min_ex {L : List Int} (h : L ≠ []) : ∃ m, best1F min [.list (L.map PyData.int)] = some (.int m) ∧ m ∈ L ∧ ∀ y ∈ L, m ≤ y := by
  cases L with
  | nil => exact absurd rfl h
  | cons x L =>
    obtain ⟨h1, h2⟩ := foldl_min L x
    exact ⟨_, f_best_l min x L, h1, h2⟩
theorem max_ex {L : List Int} (h : L ≠ []) : ∃ m, best1F max [.list (L.map PyData.int)] = some (.int m) ∧ m ∈ L ∧ ∀ y ∈ L, y ≤ m := by
  cases L with
  | nil => exact absurd rfl h
  | cons x L =>
    obtain ⟨h1, h2⟩ := foldl_max L x
    exact ⟨_, f_best_l max x L, h1, h2⟩
/-- one more place and size -/
theorem scene_go {r : List Int} (R : Rw r) (z0 z1 z2 : Option Sl) (n : Nat) (hn : n ≤ 4) (e0 : Pc) (E0 : PcOk e0) : ∃ (P : List Pc) (o6 o7 o8 o9 o10 o11 : Option Sl), P.length = n + 1 ∧ (∀ e ∈ P, PcOk e) ∧
    forGo (.nm 6) lp__law_scene_1 (rangeD 0 n) [z0, z1, z2, some (.val (.list (r.map PyData.int))), some (.own (.list ([e0].map fun e => wyD e.1))), some (.own (.list ([e0].map fun e => wyD e.2))), none, none, none, none, none, none, none, none, none, none, none, none, none] =
      .nx [z0, z1, z2, some (.val (.list (r.map PyData.int))), some (.own (.list (P.map fun e => wyD e.1))), some (.own (.list (P.map fun e => wyD e.2))), o6, o7, o8, o9, o10, o11, none, none, none, none, none, none, none] := by
  obtain ⟨ρ', e, P, o6, o7, o8, o9, o10, o11, rfl, hP, hok⟩ := forGo_rng (i := 6) (lo := 0) (n := n) (f := lp__law_scene_1)
    (fun k ρ => ∃ (P : List Pc) (o6 o7 o8 o9 o10 o11 : Option Sl), ρ = [z0, z1, z2, some (.val (.list (r.map PyData.int))), some (.own (.list (P.map fun e => wyD e.1))), some (.own (.list (P.map fun e => wyD e.2))), o6, o7, o8, o9, o10, o11, none, none, none, none, none, none, none] ∧ P.length = k + 1 ∧ ∀ e ∈ P, PcOk e)
    (ρ := [z0, z1, z2, some (.val (.list (r.map PyData.int))), some (.own (.list ([e0].map fun e => wyD e.1))), some (.own (.list ([e0].map fun e => wyD e.2))), none, none, none, none, none, none, none, none, none, none, none, none, none]) ⟨[e0], none, none, none, none, none, none, rfl, rfl, by simpa using E0⟩ (by
      rintro k ρ hk ⟨P, o6, o7, o8, o9, o10, o11, rfl, hP, hok⟩
      have z0k : (0 : Int) + (k : Nat) = (k : Int) := by omega
      have m6 : mulF (.int 6) (.int (k : Int)) = some (.int (6 * (k : Int))) := f_mul _ _ (.inl (by decide))
      have at_ : ∀ j : Int, 0 ≤ j → j < 60 → ∃ v, ixF (.list (r.map PyData.int)) (.int j) = some (.int v) ∧ 0 ≤ v ∧ v < 1000 := fun j h0 h => ⟨_, R.at j h0 h, R.bdAt _⟩
      obtain ⟨v0, q0, b0⟩ := at_ (5 + 6 * (k : Int)) (by omega) (by omega)
      obtain ⟨v1, q1, b1⟩ := at_ (5 + 6 * (k : Int) + 1) (by omega) (by omega)
      obtain ⟨v2, q2, b2⟩ := at_ (5 + 6 * (k : Int) + 2) (by omega) (by omega)
      obtain ⟨v3, q3, b3⟩ := at_ (5 + 6 * (k : Int) + 3) (by omega) (by omega)
      obtain ⟨v4, q4, b4⟩ := at_ (5 + 6 * (k : Int) + 4) (by omega) (by omega)
      have lp : ((P.length : Nat) : Int) = (k : Int) + 1 := by omega
      have mm : modF (.int v0) (.int ((k : Int) + 1)) = some (.int (v0 % ((k : Int) + 1))) := f_modP _ _ (by omega)
      have r0 := Int.emod_nonneg v0 (show (k : Int) + 1 ≠ 0 by omega)
      have r1 := Int.emod_lt_of_pos v0 (show 0 < (k : Int) + 1 by omega)
      have li : (v0 % ((k : Int) + 1)).toNat < P.length := by omega
      have pick := ix_map_l (fun e : Pc => wyD e.1) P (v0 % ((k : Int) + 1)) r0 li
      have ok := hok _ (List.getElem_mem li)
      generalize P[(v0 % ((k : Int) + 1)).toNat] = pe at pick ok
      have x0 := ok.x0
      have y0 := ok.y0
      have hl1 : (P.map fun e : Pc => wyD e.1).length < 16777216 := by rw [List.length_map]; omega
      have hl2 : (P.map fun e : Pc => wyD e.2).length < 16777216 := by rw [List.length_map]; omega
      generalize hx : max (pe.1.1 + v3 % 7 - 3) 0 = x'
      generalize hy : max (pe.1.2 + v4 % 5 - 2) 0 = y'
      refine ⟨_, by simp -implicitDefEqProofs only [lp__law_scene_1, z0k, m6, q0, q1, q2, q3, q4, List.length_map, lp, mm, pick, bT_wy, f_modP _ 4 (by decide), f_modP _ 3 (by decide), f_modP _ 7 (by decide), f_modP _ 5 (by decide), hx, hy, appO_ok _ _ _ _ hl1, appO_ok _ _ _ _ hl2, ap_sSeq, seqO_nx, seqO_rt, seqO_exc, ap_sIf, ifO_t, ifO_f, ifO_exc, ap_sNx, ap_sSet, ap_sOwn, ap_sRet, ap_sDrop, ap_sAsg, outB_some, bT_nm, bT_tp, bTs_nil, bTs_cons, ap_sRaise, ap_sPar, parO_ok, ap_sFor, ap_sRetV, retO_own, retO_val, ap_sFrz, frzO_own, frzO_val, ap_sApp, ap_sExt, ap_eV, valO_val, ap_eB, borO_val, borO_own, ap_eC, ap_eOp, opO_ok, ap_eUn, ap_eTup, ap_eLst, tupR_ok, lstR_ok, ap_eCB, ap_eCall, callO_ok, callO_exc, ap_gNot, notR_b, ap_gTru, truR_b, truR_list, ap_gAnd, ap_gOr, andO_t, andO_f, orO_t, orO_f, ap_eAnd, ap_eOr, eandO_t, eandO_f, eorO_t, eorO_f, ap_eNot, enotO_b, enotO_list, ap_eIf, eifO_t, eifO_f, ap_eChain, chO_ok, ap_eIsi, isiO_int, isiO_tup, isiO_lst, isiO_bl, isiO_str, isiO_non, isInt_int, isInt_bl, isInt_tup, isInt_lst, isInt_str, isInt_non, isBool_int, isBool_bl, isTup_tup, isTup_lst, isTup_int, isTup_non, isTup_str, isTup_bl, isLst_lst, isLst_tup, f_add, f_sub, f_neg, f_eqI, f_neI, f_eqB, f_neB, f_lt, f_le, f_gt, f_ge, f_is, f_isNot, isNone_int, isNone_tup, isNone_lst, isNone_non, f_len_l, f_len_t, f_len_rd, f_tup_l, f_tup_t, f_max2, f_min2, f_abs, f_sum_l, f_sum_t, f_ix0, f_ix1, f_ix2, f_ix3, f_rev_t, outR_nx, outR_rt, outR_exc, nones0, nonesS, runB_eq, ap_eSl, optI_none, optI_some, optO_int, ap_sWh, ap_iSeq, items_l, items_t, ap_iRange1, ap_iRange2, wipeE_nil, wipeE_cons, evA_nil, evA_cons, RL.cons_ok, RL.cons_exc, RL.bind_ok, RL.bind_exc, RL.out_ok, RL.out_exc, Rs.bind_ok, Rs.bind_exc, Rs.out_ok, Rs.out_exc, Rs.of_some, Option.bind_some, List.getElem?_cons_zero, List.getElem?_cons_succ, List.set_cons_zero, List.set_cons_succ, List.map_cons, List.map_nil, List.cons_append, List.nil_append, List.length_cons, List.length_nil, Nat.reduceAdd, Nat.reduceSub, Nat.reduceLeDiff, Nat.reduceLT, Bool.not_true, Bool.not_false, decide_true, decide_false]; rfl, P ++ [((min x' (14 - (3 + v1 % 4)), min y' (12 - (3 + v2 % 3))), (3 + v1 % 4, 3 + v2 % 3))], some (.val (.int (k : Int))), some (.val (.int (5 + 6 * (k : Int)))), some (.val (.int x')), some (.val (.int y')), some (.val (.int (3 + v1 % 4))), some (.val (.int (3 + v2 % 3))), ?_, by simp [hP], ?_⟩
      · rw [List.map_append, List.map_append]
        rfl
      · intro e he
        rcases List.mem_append.mp he with he | he
        · exact hok e he
        · simp -implicitDefEqProofs only [List.mem_singleton] at he
          subst he
          constructor <;> simp -implicitDefEqProofs only <;> omega)
  exact ⟨P, o6, o7, o8, o9, o10, o11, hP, hok, e⟩
/-- the shots -/
theorem shots_go {g : List (List Int)} (G : Gr g) {r : List Int} (R : Rw r) (z0 z1 z4 z5 z6 z7 : Option Sl) (P : List Pc) (hP : P.length ≤ 5) (hok : ∀ e ∈ P, PcOk e) (o8 o9 o10 o11 : Option Sl) : ∃ p8 p9 p10 p11 p13 : Option Sl,
    forGo (.tp [(.tp [(.nm 8), (.nm 9)]), (.tp [(.nm 10), (.nm 11)])]) lp__law_scene_2 (P.map fun e => .tuple [wyD e.1, wyD e.2]) [z0, z1, some (.val (shD g)), some (.val (.list (r.map PyData.int))), z4, z5, z6, z7, o8, o9, o10, o11, some (.own (.list [])), none, none, none, none, none, none] =
      .nx [z0, z1, some (.val (shD g)), some (.val (.list (r.map PyData.int))), z4, z5, z6, z7, p8, p9, p10, p11, some (.own (.list ((litBoxes g r P).map shD))), p13, none, none, none, none, none] := by
  have go := forGo_fold (t := .tp [(.tp [(.nm 8), (.nm 9)]), (.tp [(.nm 10), (.nm 11)])]) (f := lp__law_scene_2) (fun e : Pc => PyData.tuple [wyD e.1, wyD e.2])
    (fun s : List Pc × Option Sl × Option Sl × Option Sl × Option Sl × Option Sl => [z0, z1, some (.val (shD g)), some (.val (.list (r.map PyData.int))), z4, z5, z6, z7, s.2.1, s.2.2.1, s.2.2.2.1, s.2.2.2.2.1, some (.own (.list ((litBoxes g r s.1).map shD))), s.2.2.2.2.2, none, none, none, none, none])
    (fun s e => (s.1 ++ [e], some (.val (.int e.1.1)), some (.val (.int e.1.2)), some (.val (.int e.2.1)), some (.val (.int e.2.2)), some (.val (.int (more r s.1.length)))))
    (fun s rest => s.1 ++ rest = P) (by
      rintro ⟨Q, s8, s9, s10, s11, s13⟩ e rest hQ
      dsimp only at hQ ⊢
      have me : e ∈ P := by rw [← hQ]; simp
      have E := hok e me
      have hlQ : Q.length < 5 := by
        have := congrArg List.length hQ
        rw [List.length_append, List.length_cons] at this
        omega
      have i34 : ixF (.list (r.map PyData.int)) (.int 34) = some (.int (r.getD 34 0)) := R.at 34 (by decide) (by decide)
      have i35 : ixF (.list (r.map PyData.int)) (.int (35 + (Q.length : Int))) = some (.int (r.getD (35 + Q.length) 0)) := by
        have := R.at (35 + (Q.length : Int)) (by omega) (by omega)
        rw [this]
        congr 3
      have hrows : slF (shD g) (some e.1.2) (some (e.1.2 + e.2.2)) = some (.tuple (((g.drop e.1.2.toNat).take e.2.2.toNat).map rowD)) := by
        have := sl_t rowD g e.1.2 (e.1.2 + e.2.2) E.y0 (by have := E.h1; omega) (by rw [G.len]; have := E.yh; omega)
        rw [show e.1.2 + e.2.2 - e.1.2 = e.2.2 by omega] at this
        exact this
      have hl : ((litBoxes g r Q).map shD).length < 16777216 := by rw [List.length_map, litBoxes_length]; omega
      have comp : ∀ q4 q5 q6 q7 q0 q1 q3 q12 q14 q15 q16 q17 q18 : Option Sl, eLc [17] (iSeq (eSl (eV 2) (some (eV 9)) (some (eOp addF (eV 9) (eV 11))))) (.nm 17) (eC (.bool true)) (eCB tupF [(eLc [18] (iSeq (eSl (eV 17) (some (eV 8)) (some (eOp addF (eV 8) (eV 10))))) (.nm 18) (eC (.bool true)) (eOp addF (eV 18) (eV 13)))])
          [q0, q1, some (.val (shD g)), q3, q4, q5, q6, q7, some (.val (.int e.1.1)), some (.val (.int e.1.2)), some (.val (.int e.2.1)), some (.val (.int e.2.2)), q12, some (.val (.int (more r Q.length))), q14, q15, q16, q17, q18] = .ok (.list ((cutLit g e (more r Q.length)).map rowD)) := by
        intro q4 q5 q6 q7 q0 q1 q3 q12 q14 q15 q16 q17 q18
        rw [eLc_mapA ((g.drop e.1.2.toNat).take e.2.2.toNat) rowD (fun q => rowD (((q.drop e.1.1.toNat).take e.2.1.toNat).map fun v => v + more r Q.length)) (by simp -implicitDefEqProofs only [hrows, ap_sSeq, seqO_nx, seqO_rt, seqO_exc, ap_sIf, ifO_t, ifO_f, ifO_exc, ap_sNx, ap_sSet, ap_sOwn, ap_sRet, ap_sDrop, ap_sAsg, outB_some, bT_nm, bT_tp, bTs_nil, bTs_cons, ap_sRaise, ap_sPar, parO_ok, ap_sFor, ap_sRetV, retO_own, retO_val, ap_sFrz, frzO_own, frzO_val, ap_sApp, ap_sExt, ap_eV, valO_val, ap_eB, borO_val, borO_own, ap_eC, ap_eOp, opO_ok, ap_eUn, ap_eTup, ap_eLst, tupR_ok, lstR_ok, ap_eCB, ap_eCall, callO_ok, callO_exc, ap_gNot, notR_b, ap_gTru, truR_b, truR_list, ap_gAnd, ap_gOr, andO_t, andO_f, orO_t, orO_f, ap_eAnd, ap_eOr, eandO_t, eandO_f, eorO_t, eorO_f, ap_eNot, enotO_b, enotO_list, ap_eIf, eifO_t, eifO_f, ap_eChain, chO_ok, ap_eIsi, isiO_int, isiO_tup, isiO_lst, isiO_bl, isiO_str, isiO_non, isInt_int, isInt_bl, isInt_tup, isInt_lst, isInt_str, isInt_non, isBool_int, isBool_bl, isTup_tup, isTup_lst, isTup_int, isTup_non, isTup_str, isTup_bl, isLst_lst, isLst_tup, f_add, f_sub, f_neg, f_eqI, f_neI, f_eqB, f_neB, f_lt, f_le, f_gt, f_ge, f_is, f_isNot, isNone_int, isNone_tup, isNone_lst, isNone_non, f_len_l, f_len_t, f_len_rd, f_tup_l, f_tup_t, f_max2, f_min2, f_abs, f_sum_l, f_sum_t, f_ix0, f_ix1, f_ix2, f_ix3, f_rev_t, outR_nx, outR_rt, outR_exc, nones0, nonesS, runB_eq, ap_eSl, optI_none, optI_some, optO_int, ap_sWh, ap_iSeq, items_l, items_t, ap_iRange1, ap_iRange2, wipeE_nil, wipeE_cons, evA_nil, evA_cons, RL.cons_ok, RL.cons_exc, RL.bind_ok, RL.bind_exc, RL.out_ok, RL.out_exc, Rs.bind_ok, Rs.bind_exc, Rs.out_ok, Rs.out_exc, Rs.of_some, Option.bind_some, List.getElem?_cons_zero, List.getElem?_cons_succ, List.set_cons_zero, List.set_cons_succ, List.map_cons, List.map_nil, List.cons_append, List.nil_append, List.length_cons, List.length_nil, Nat.reduceAdd, Nat.reduceSub, Nat.reduceLeDiff, Nat.reduceLT, Bool.not_true, Bool.not_false, decide_true, decide_false]) (by rw [List.length_take, List.length_drop, G.len]; omega) (by
          intro q hq
          have hq' : q ∈ g := List.mem_of_mem_drop (List.mem_of_mem_take hq)
          have hcols : slF (rowD q) (some e.1.1) (some (e.1.1 + e.2.1)) = some (.tuple (((q.drop e.1.1.toNat).take e.2.1.toNat).map PyData.int)) := by
            have := sl_t PyData.int q e.1.1 (e.1.1 + e.2.1) E.x0 (by have := E.w1; omega) (by rw [G.row q hq']; have := E.xw; omega)
            rw [show e.1.1 + e.2.1 - e.1.1 = e.2.1 by omega] at this
            exact this
          refine ⟨rfl, ?_⟩
          simp -implicitDefEqProofs only [ap_sSeq, seqO_nx, seqO_rt, seqO_exc, ap_sIf, ifO_t, ifO_f, ifO_exc, ap_sNx, ap_sSet, ap_sOwn, ap_sRet, ap_sDrop, ap_sAsg, outB_some, bT_nm, bT_tp, bTs_nil, bTs_cons, ap_sRaise, ap_sPar, parO_ok, ap_sFor, ap_sRetV, retO_own, retO_val, ap_sFrz, frzO_own, frzO_val, ap_sApp, ap_sExt, ap_eV, valO_val, ap_eB, borO_val, borO_own, ap_eC, ap_eOp, opO_ok, ap_eUn, ap_eTup, ap_eLst, tupR_ok, lstR_ok, ap_eCB, ap_eCall, callO_ok, callO_exc, ap_gNot, notR_b, ap_gTru, truR_b, truR_list, ap_gAnd, ap_gOr, andO_t, andO_f, orO_t, orO_f, ap_eAnd, ap_eOr, eandO_t, eandO_f, eorO_t, eorO_f, ap_eNot, enotO_b, enotO_list, ap_eIf, eifO_t, eifO_f, ap_eChain, chO_ok, ap_eIsi, isiO_int, isiO_tup, isiO_lst, isiO_bl, isiO_str, isiO_non, isInt_int, isInt_bl, isInt_tup, isInt_lst, isInt_str, isInt_non, isBool_int, isBool_bl, isTup_tup, isTup_lst, isTup_int, isTup_non, isTup_str, isTup_bl, isLst_lst, isLst_tup, f_add, f_sub, f_neg, f_eqI, f_neI, f_eqB, f_neB, f_lt, f_le, f_gt, f_ge, f_is, f_isNot, isNone_int, isNone_tup, isNone_lst, isNone_non, f_len_l, f_len_t, f_len_rd, f_tup_l, f_tup_t, f_max2, f_min2, f_abs, f_sum_l, f_sum_t, f_ix0, f_ix1, f_ix2, f_ix3, f_rev_t, outR_nx, outR_rt, outR_exc, nones0, nonesS, runB_eq, ap_eSl, optI_none, optI_some, optO_int, ap_sWh, ap_iSeq, items_l, items_t, ap_iRange1, ap_iRange2, wipeE_nil, wipeE_cons, evA_nil, evA_cons, RL.cons_ok, RL.cons_exc, RL.bind_ok, RL.bind_exc, RL.out_ok, RL.out_exc, Rs.bind_ok, Rs.bind_exc, Rs.out_ok, Rs.out_exc, Rs.of_some, Option.bind_some, List.getElem?_cons_zero, List.getElem?_cons_succ, List.set_cons_zero, List.set_cons_succ, List.map_cons, List.map_nil, List.cons_append, List.nil_append, List.length_cons, List.length_nil, Nat.reduceAdd, Nat.reduceSub, Nat.reduceLeDiff, Nat.reduceLT, Bool.not_true, Bool.not_false, decide_true, decide_false]
          rw [eLc_mapA ((q.drop e.1.1.toNat).take e.2.1.toNat) PyData.int (fun v => .int (v + more r Q.length)) (by simp -implicitDefEqProofs only [hcols, ap_sSeq, seqO_nx, seqO_rt, seqO_exc, ap_sIf, ifO_t, ifO_f, ifO_exc, ap_sNx, ap_sSet, ap_sOwn, ap_sRet, ap_sDrop, ap_sAsg, outB_some, bT_nm, bT_tp, bTs_nil, bTs_cons, ap_sRaise, ap_sPar, parO_ok, ap_sFor, ap_sRetV, retO_own, retO_val, ap_sFrz, frzO_own, frzO_val, ap_sApp, ap_sExt, ap_eV, valO_val, ap_eB, borO_val, borO_own, ap_eC, ap_eOp, opO_ok, ap_eUn, ap_eTup, ap_eLst, tupR_ok, lstR_ok, ap_eCB, ap_eCall, callO_ok, callO_exc, ap_gNot, notR_b, ap_gTru, truR_b, truR_list, ap_gAnd, ap_gOr, andO_t, andO_f, orO_t, orO_f, ap_eAnd, ap_eOr, eandO_t, eandO_f, eorO_t, eorO_f, ap_eNot, enotO_b, enotO_list, ap_eIf, eifO_t, eifO_f, ap_eChain, chO_ok, ap_eIsi, isiO_int, isiO_tup, isiO_lst, isiO_bl, isiO_str, isiO_non, isInt_int, isInt_bl, isInt_tup, isInt_lst, isInt_str, isInt_non, isBool_int, isBool_bl, isTup_tup, isTup_lst, isTup_int, isTup_non, isTup_str, isTup_bl, isLst_lst, isLst_tup, f_add, f_sub, f_neg, f_eqI, f_neI, f_eqB, f_neB, f_lt, f_le, f_gt, f_ge, f_is, f_isNot, isNone_int, isNone_tup, isNone_lst, isNone_non, f_len_l, f_len_t, f_len_rd, f_tup_l, f_tup_t, f_max2, f_min2, f_abs, f_sum_l, f_sum_t, f_ix0, f_ix1, f_ix2, f_ix3, f_rev_t, outR_nx, outR_rt, outR_exc, nones0, nonesS, runB_eq, ap_eSl, optI_none, optI_some, optO_int, ap_sWh, ap_iSeq, items_l, items_t, ap_iRange1, ap_iRange2, wipeE_nil, wipeE_cons, evA_nil, evA_cons, RL.cons_ok, RL.cons_exc, RL.bind_ok, RL.bind_exc, RL.out_ok, RL.out_exc, Rs.bind_ok, Rs.bind_exc, Rs.out_ok, Rs.out_exc, Rs.of_some, Option.bind_some, List.getElem?_cons_zero, List.getElem?_cons_succ, List.set_cons_zero, List.set_cons_succ, List.map_cons, List.map_nil, List.cons_append, List.nil_append, List.length_cons, List.length_nil, Nat.reduceAdd, Nat.reduceSub, Nat.reduceLeDiff, Nat.reduceLT, Bool.not_true, Bool.not_false, decide_true, decide_false]) (by rw [List.length_take, List.length_drop, G.row q hq']; omega) (by
            intro v hv
            refine ⟨rfl, ?_⟩
            simp -implicitDefEqProofs only [ap_sSeq, seqO_nx, seqO_rt, seqO_exc, ap_sIf, ifO_t, ifO_f, ifO_exc, ap_sNx, ap_sSet, ap_sOwn, ap_sRet, ap_sDrop, ap_sAsg, outB_some, bT_nm, bT_tp, bTs_nil, bTs_cons, ap_sRaise, ap_sPar, parO_ok, ap_sFor, ap_sRetV, retO_own, retO_val, ap_sFrz, frzO_own, frzO_val, ap_sApp, ap_sExt, ap_eV, valO_val, ap_eB, borO_val, borO_own, ap_eC, ap_eOp, opO_ok, ap_eUn, ap_eTup, ap_eLst, tupR_ok, lstR_ok, ap_eCB, ap_eCall, callO_ok, callO_exc, ap_gNot, notR_b, ap_gTru, truR_b, truR_list, ap_gAnd, ap_gOr, andO_t, andO_f, orO_t, orO_f, ap_eAnd, ap_eOr, eandO_t, eandO_f, eorO_t, eorO_f, ap_eNot, enotO_b, enotO_list, ap_eIf, eifO_t, eifO_f, ap_eChain, chO_ok, ap_eIsi, isiO_int, isiO_tup, isiO_lst, isiO_bl, isiO_str, isiO_non, isInt_int, isInt_bl, isInt_tup, isInt_lst, isInt_str, isInt_non, isBool_int, isBool_bl, isTup_tup, isTup_lst, isTup_int, isTup_non, isTup_str, isTup_bl, isLst_lst, isLst_tup, f_add, f_sub, f_neg, f_eqI, f_neI, f_eqB, f_neB, f_lt, f_le, f_gt, f_ge, f_is, f_isNot, isNone_int, isNone_tup, isNone_lst, isNone_non, f_len_l, f_len_t, f_len_rd, f_tup_l, f_tup_t, f_max2, f_min2, f_abs, f_sum_l, f_sum_t, f_ix0, f_ix1, f_ix2, f_ix3, f_rev_t, outR_nx, outR_rt, outR_exc, nones0, nonesS, runB_eq, ap_eSl, optI_none, optI_some, optO_int, ap_sWh, ap_iSeq, items_l, items_t, ap_iRange1, ap_iRange2, wipeE_nil, wipeE_cons, evA_nil, evA_cons, RL.cons_ok, RL.cons_exc, RL.bind_ok, RL.bind_exc, RL.out_ok, RL.out_exc, Rs.bind_ok, Rs.bind_exc, Rs.out_ok, Rs.out_exc, Rs.of_some, Option.bind_some, List.getElem?_cons_zero, List.getElem?_cons_succ, List.set_cons_zero, List.set_cons_succ, List.map_cons, List.map_nil, List.cons_append, List.nil_append, List.length_cons, List.length_nil, Nat.reduceAdd, Nat.reduceSub, Nat.reduceLeDiff, Nat.reduceLT, Bool.not_true, Bool.not_false, decide_true, decide_false])]
          simp -implicitDefEqProofs only [ap_sSeq, seqO_nx, seqO_rt, seqO_exc, ap_sIf, ifO_t, ifO_f, ifO_exc, ap_sNx, ap_sSet, ap_sOwn, ap_sRet, ap_sDrop, ap_sAsg, outB_some, bT_nm, bT_tp, bTs_nil, bTs_cons, ap_sRaise, ap_sPar, parO_ok, ap_sFor, ap_sRetV, retO_own, retO_val, ap_sFrz, frzO_own, frzO_val, ap_sApp, ap_sExt, ap_eV, valO_val, ap_eB, borO_val, borO_own, ap_eC, ap_eOp, opO_ok, ap_eUn, ap_eTup, ap_eLst, tupR_ok, lstR_ok, ap_eCB, ap_eCall, callO_ok, callO_exc, ap_gNot, notR_b, ap_gTru, truR_b, truR_list, ap_gAnd, ap_gOr, andO_t, andO_f, orO_t, orO_f, ap_eAnd, ap_eOr, eandO_t, eandO_f, eorO_t, eorO_f, ap_eNot, enotO_b, enotO_list, ap_eIf, eifO_t, eifO_f, ap_eChain, chO_ok, ap_eIsi, isiO_int, isiO_tup, isiO_lst, isiO_bl, isiO_str, isiO_non, isInt_int, isInt_bl, isInt_tup, isInt_lst, isInt_str, isInt_non, isBool_int, isBool_bl, isTup_tup, isTup_lst, isTup_int, isTup_non, isTup_str, isTup_bl, isLst_lst, isLst_tup, f_add, f_sub, f_neg, f_eqI, f_neI, f_eqB, f_neB, f_lt, f_le, f_gt, f_ge, f_is, f_isNot, isNone_int, isNone_tup, isNone_lst, isNone_non, f_len_l, f_len_t, f_len_rd, f_tup_l, f_tup_t, f_max2, f_min2, f_abs, f_sum_l, f_sum_t, f_ix0, f_ix1, f_ix2, f_ix3, f_rev_t, outR_nx, outR_rt, outR_exc, nones0, nonesS, runB_eq, ap_eSl, optI_none, optI_some, optO_int, ap_sWh, ap_iSeq, items_l, items_t, ap_iRange1, ap_iRange2, wipeE_nil, wipeE_cons, evA_nil, evA_cons, RL.cons_ok, RL.cons_exc, RL.bind_ok, RL.bind_exc, RL.out_ok, RL.out_exc, Rs.bind_ok, Rs.bind_exc, Rs.out_ok, Rs.out_exc, Rs.of_some, Option.bind_some, List.getElem?_cons_zero, List.getElem?_cons_succ, List.set_cons_zero, List.set_cons_succ, List.map_cons, List.map_nil, List.cons_append, List.nil_append, List.length_cons, List.length_nil, Nat.reduceAdd, Nat.reduceSub, Nat.reduceLeDiff, Nat.reduceLT, Bool.not_true, Bool.not_false, decide_true, decide_false]
          unfold rowD
          rw [List.map_map]
          rfl)]
        unfold cutLit
        rw [List.map_map]
        rfl
      refine ⟨_, by simp -implicitDefEqProofs only [bT_wy, ap_sSeq, seqO_nx, seqO_rt, seqO_exc, ap_sIf, ifO_t, ifO_f, ifO_exc, ap_sNx, ap_sSet, ap_sOwn, ap_sRet, ap_sDrop, ap_sAsg, outB_some, bT_nm, bT_tp, bTs_nil, bTs_cons, ap_sRaise, ap_sPar, parO_ok, ap_sFor, ap_sRetV, retO_own, retO_val, ap_sFrz, frzO_own, frzO_val, ap_sApp, ap_sExt, ap_eV, valO_val, ap_eB, borO_val, borO_own, ap_eC, ap_eOp, opO_ok, ap_eUn, ap_eTup, ap_eLst, tupR_ok, lstR_ok, ap_eCB, ap_eCall, callO_ok, callO_exc, ap_gNot, notR_b, ap_gTru, truR_b, truR_list, ap_gAnd, ap_gOr, andO_t, andO_f, orO_t, orO_f, ap_eAnd, ap_eOr, eandO_t, eandO_f, eorO_t, eorO_f, ap_eNot, enotO_b, enotO_list, ap_eIf, eifO_t, eifO_f, ap_eChain, chO_ok, ap_eIsi, isiO_int, isiO_tup, isiO_lst, isiO_bl, isiO_str, isiO_non, isInt_int, isInt_bl, isInt_tup, isInt_lst, isInt_str, isInt_non, isBool_int, isBool_bl, isTup_tup, isTup_lst, isTup_int, isTup_non, isTup_str, isTup_bl, isLst_lst, isLst_tup, f_add, f_sub, f_neg, f_eqI, f_neI, f_eqB, f_neB, f_lt, f_le, f_gt, f_ge, f_is, f_isNot, isNone_int, isNone_tup, isNone_lst, isNone_non, f_len_l, f_len_t, f_len_rd, f_tup_l, f_tup_t, f_max2, f_min2, f_abs, f_sum_l, f_sum_t, f_ix0, f_ix1, f_ix2, f_ix3, f_rev_t, outR_nx, outR_rt, outR_exc, nones0, nonesS, runB_eq, ap_eSl, optI_none, optI_some, optO_int, ap_sWh, ap_iSeq, items_l, items_t, ap_iRange1, ap_iRange2, wipeE_nil, wipeE_cons, evA_nil, evA_cons, RL.cons_ok, RL.cons_exc, RL.bind_ok, RL.bind_exc, RL.out_ok, RL.out_exc, Rs.bind_ok, Rs.bind_exc, Rs.out_ok, Rs.out_exc, Rs.of_some, Option.bind_some, List.getElem?_cons_zero, List.getElem?_cons_succ, List.set_cons_zero, List.set_cons_succ, List.map_cons, List.map_nil, List.cons_append, List.nil_append, List.length_cons, List.length_nil, Nat.reduceAdd, Nat.reduceSub, Nat.reduceLeDiff, Nat.reduceLT, Bool.not_true, Bool.not_false, decide_true, decide_false]; rfl, ?_, by rw [← hQ, List.append_assoc]; rfl⟩
      by_cases c : r.getD 34 0 % 2 = 0
      · have em : more r Q.length = r.getD (35 + Q.length) 0 % 41 := by unfold more; rw [if_pos c]
        rw [em] at comp
        simp -implicitDefEqProofs only [lp__law_scene_2, i34, f_modP _ 2 (by decide), c, List.length_map, litBoxes_length, i35, f_modP _ 41 (by decide), comp, appO_ok _ _ _ _ hl, ap_sSeq, seqO_nx, seqO_rt, seqO_exc, ap_sIf, ifO_t, ifO_f, ifO_exc, ap_sNx, ap_sSet, ap_sOwn, ap_sRet, ap_sDrop, ap_sAsg, outB_some, bT_nm, bT_tp, bTs_nil, bTs_cons, ap_sRaise, ap_sPar, parO_ok, ap_sFor, ap_sRetV, retO_own, retO_val, ap_sFrz, frzO_own, frzO_val, ap_sApp, ap_sExt, ap_eV, valO_val, ap_eB, borO_val, borO_own, ap_eC, ap_eOp, opO_ok, ap_eUn, ap_eTup, ap_eLst, tupR_ok, lstR_ok, ap_eCB, ap_eCall, callO_ok, callO_exc, ap_gNot, notR_b, ap_gTru, truR_b, truR_list, ap_gAnd, ap_gOr, andO_t, andO_f, orO_t, orO_f, ap_eAnd, ap_eOr, eandO_t, eandO_f, eorO_t, eorO_f, ap_eNot, enotO_b, enotO_list, ap_eIf, eifO_t, eifO_f, ap_eChain, chO_ok, ap_eIsi, isiO_int, isiO_tup, isiO_lst, isiO_bl, isiO_str, isiO_non, isInt_int, isInt_bl, isInt_tup, isInt_lst, isInt_str, isInt_non, isBool_int, isBool_bl, isTup_tup, isTup_lst, isTup_int, isTup_non, isTup_str, isTup_bl, isLst_lst, isLst_tup, f_add, f_sub, f_neg, f_eqI, f_neI, f_eqB, f_neB, f_lt, f_le, f_gt, f_ge, f_is, f_isNot, isNone_int, isNone_tup, isNone_lst, isNone_non, f_len_l, f_len_t, f_len_rd, f_tup_l, f_tup_t, f_max2, f_min2, f_abs, f_sum_l, f_sum_t, f_ix0, f_ix1, f_ix2, f_ix3, f_rev_t, outR_nx, outR_rt, outR_exc, nones0, nonesS, runB_eq, ap_eSl, optI_none, optI_some, optO_int, ap_sWh, ap_iSeq, items_l, items_t, ap_iRange1, ap_iRange2, wipeE_nil, wipeE_cons, evA_nil, evA_cons, RL.cons_ok, RL.cons_exc, RL.bind_ok, RL.bind_exc, RL.out_ok, RL.out_exc, Rs.bind_ok, Rs.bind_exc, Rs.out_ok, Rs.out_exc, Rs.of_some, Option.bind_some, List.getElem?_cons_zero, List.getElem?_cons_succ, List.set_cons_zero, List.set_cons_succ, List.map_cons, List.map_nil, List.cons_append, List.nil_append, List.length_cons, List.length_nil, Nat.reduceAdd, Nat.reduceSub, Nat.reduceLeDiff, Nat.reduceLT, Bool.not_true, Bool.not_false, decide_true, decide_false]
        rw [litBoxes_snoc, em, List.map_append]
        rfl
      · have em : more r Q.length = 0 := by unfold more; rw [if_neg c]
        rw [em] at comp
        simp -implicitDefEqProofs only [lp__law_scene_2, i34, f_modP _ 2 (by decide), c, comp, appO_ok _ _ _ _ hl, ap_sSeq, seqO_nx, seqO_rt, seqO_exc, ap_sIf, ifO_t, ifO_f, ifO_exc, ap_sNx, ap_sSet, ap_sOwn, ap_sRet, ap_sDrop, ap_sAsg, outB_some, bT_nm, bT_tp, bTs_nil, bTs_cons, ap_sRaise, ap_sPar, parO_ok, ap_sFor, ap_sRetV, retO_own, retO_val, ap_sFrz, frzO_own, frzO_val, ap_sApp, ap_sExt, ap_eV, valO_val, ap_eB, borO_val, borO_own, ap_eC, ap_eOp, opO_ok, ap_eUn, ap_eTup, ap_eLst, tupR_ok, lstR_ok, ap_eCB, ap_eCall, callO_ok, callO_exc, ap_gNot, notR_b, ap_gTru, truR_b, truR_list, ap_gAnd, ap_gOr, andO_t, andO_f, orO_t, orO_f, ap_eAnd, ap_eOr, eandO_t, eandO_f, eorO_t, eorO_f, ap_eNot, enotO_b, enotO_list, ap_eIf, eifO_t, eifO_f, ap_eChain, chO_ok, ap_eIsi, isiO_int, isiO_tup, isiO_lst, isiO_bl, isiO_str, isiO_non, isInt_int, isInt_bl, isInt_tup, isInt_lst, isInt_str, isInt_non, isBool_int, isBool_bl, isTup_tup, isTup_lst, isTup_int, isTup_non, isTup_str, isTup_bl, isLst_lst, isLst_tup, f_add, f_sub, f_neg, f_eqI, f_neI, f_eqB, f_neB, f_lt, f_le, f_gt, f_ge, f_is, f_isNot, isNone_int, isNone_tup, isNone_lst, isNone_non, f_len_l, f_len_t, f_len_rd, f_tup_l, f_tup_t, f_max2, f_min2, f_abs, f_sum_l, f_sum_t, f_ix0, f_ix1, f_ix2, f_ix3, f_rev_t, outR_nx, outR_rt, outR_exc, nones0, nonesS, runB_eq, ap_eSl, optI_none, optI_some, optO_int, ap_sWh, ap_iSeq, items_l, items_t, ap_iRange1, ap_iRange2, wipeE_nil, wipeE_cons, evA_nil, evA_cons, RL.cons_ok, RL.cons_exc, RL.bind_ok, RL.bind_exc, RL.out_ok, RL.out_exc, Rs.bind_ok, Rs.bind_exc, Rs.out_ok, Rs.out_exc, Rs.of_some, Option.bind_some, List.getElem?_cons_zero, List.getElem?_cons_succ, List.set_cons_zero, List.set_cons_succ, List.map_cons, List.map_nil, List.cons_append, List.nil_append, List.length_cons, List.length_nil, Nat.reduceAdd, Nat.reduceSub, Nat.reduceLeDiff, Nat.reduceLT, Bool.not_true, Bool.not_false, decide_true, decide_false]
        rw [litBoxes_snoc, em, List.map_append]
        rfl)
    P ([], o8, o9, o10, o11, none) rfl
  obtain ⟨go, hfin⟩ := go
  dsimp only at hfin go
  generalize hs : List.foldl _ _ P = s at go hfin
  rw [List.append_nil] at hfin
  refine ⟨s.2.1, s.2.2.1, s.2.2.2.1, s.2.2.2.2.1, s.2.2.2.2.2, ?_⟩
  rw [hfin] at go
  exact go
theorem scene_eq (ns : List Int) (t : Int) (h0 : 0 ≤ t) : ∃ (g : List (List Int)) (r : List Int) (P : List Pc) (lx ly : Int), sem__law_ground [rdL ns, .int t] = .ok (shD g) ∧ Gr g ∧ 2 ≤ P.length ∧ P.length ≤ 5 ∧ (∀ e ∈ P, PcOk e) ∧
    ((∃ e ∈ P, e.1.1 = lx) ∧ ∀ e ∈ P, lx ≤ e.1.1) ∧ ((∃ e ∈ P, e.1.2 = ly) ∧ ∀ e ∈ P, ly ≤ e.1.2) ∧
    sem__law_scene [rdL ns, .int t] = .ok (.tuple [.tuple ((litBoxes g r P).map shD), .tuple (P.map fun e => wyD (e.1.1 - lx, e.1.2 - ly))]) := by
  obtain ⟨g, eg, G⟩ := ground_eq ns t h0
  obtain ⟨r, er, R⟩ := law_row_eq ns (t + 1) (by omega)
  have at_ : ∀ j : Int, 0 ≤ j → j < 60 → ∃ v, ixF (.list (r.map PyData.int)) (.int j) = some (.int v) ∧ 0 ≤ v ∧ v < 1000 := fun j h0 h => ⟨_, R.at j h0 h, R.bdAt _⟩
  obtain ⟨v0, q0, b0⟩ := at_ 0 (by decide) (by decide)
  obtain ⟨v1, q1, b1⟩ := at_ 1 (by decide) (by decide)
  obtain ⟨v2, q2, b2⟩ := at_ 2 (by decide) (by decide)
  obtain ⟨v3, q3, b3⟩ := at_ 3 (by decide) (by decide)
  obtain ⟨v4, q4, b4⟩ := at_ 4 (by decide) (by decide)
  have hr4 := rng1_ok (1 + v4 % 4) (by omega) (by omega)
  obtain ⟨P, o6, o7, o8, o9, o10, o11, lP, hok, go1⟩ := scene_go R (some (.val (rdL ns))) (some (.val (.int t))) (some (.val (shD g))) (1 + v4 % 4).toNat (by omega) ((v0 % 4, v1 % 3), (3 + v2 % 4, 3 + v3 % 3)) (by constructor <;> simp -implicitDefEqProofs only <;> omega)
  obtain ⟨p8, p9, p10, p11, p13, go2⟩ := shots_go G R (some (.val (rdL ns))) (some (.val (.int t))) (some (.val (.list (P.map fun e => wyD e.1)))) (some (.val (.list (P.map fun e => wyD e.2)))) o6 o7 P (by omega) hok o8 o9 o10 o11
  have hz : zipD (P.map fun e : Pc => wyD e.1) (P.map fun e => wyD e.2) = P.map fun e => .tuple [wyD e.1, wyD e.2] := zipD_map _ _ P
  have neX : P.map (fun e : Pc => e.1.1) ≠ [] := fun z => by have := congrArg List.length z; simp at this; rw [this] at lP; simp at lP
  have neY : P.map (fun e : Pc => e.1.2) ≠ [] := fun z => by have := congrArg List.length z; simp at this; rw [this] at lP; simp at lP
  obtain ⟨lx, ex, mx, lex⟩ := min_ex neX
  obtain ⟨ly, ey, my, ley⟩ := min_ex neY
  have c1 : ∀ s0 s1 s2 s3 s5 s6 s7 s8 s9 s10 s11 s12 s13 s14 s15 s16 s17 s18 : Option Sl, eLc [16] (iSeq (eB 4)) (.nm 16) (eC (.bool true)) (eOp ixF (eV 16) (eC (.int 0))) [s0, s1, s2, s3, some (.val (.list (P.map fun e => wyD e.1))), s5, s6, s7, s8, s9, s10, s11, s12, s13, s14, s15, s16, s17, s18] = .ok (.list ((P.map fun e => e.1.1).map PyData.int)) := by
    intros
    rw [eLc_mapA P (fun e => wyD e.1) (fun e => .int e.1.1) (by simp -implicitDefEqProofs only [ap_sSeq, seqO_nx, seqO_rt, seqO_exc, ap_sIf, ifO_t, ifO_f, ifO_exc, ap_sNx, ap_sSet, ap_sOwn, ap_sRet, ap_sDrop, ap_sAsg, outB_some, bT_nm, bT_tp, bTs_nil, bTs_cons, ap_sRaise, ap_sPar, parO_ok, ap_sFor, ap_sRetV, retO_own, retO_val, ap_sFrz, frzO_own, frzO_val, ap_sApp, ap_sExt, ap_eV, valO_val, ap_eB, borO_val, borO_own, ap_eC, ap_eOp, opO_ok, ap_eUn, ap_eTup, ap_eLst, tupR_ok, lstR_ok, ap_eCB, ap_eCall, callO_ok, callO_exc, ap_gNot, notR_b, ap_gTru, truR_b, truR_list, ap_gAnd, ap_gOr, andO_t, andO_f, orO_t, orO_f, ap_eAnd, ap_eOr, eandO_t, eandO_f, eorO_t, eorO_f, ap_eNot, enotO_b, enotO_list, ap_eIf, eifO_t, eifO_f, ap_eChain, chO_ok, ap_eIsi, isiO_int, isiO_tup, isiO_lst, isiO_bl, isiO_str, isiO_non, isInt_int, isInt_bl, isInt_tup, isInt_lst, isInt_str, isInt_non, isBool_int, isBool_bl, isTup_tup, isTup_lst, isTup_int, isTup_non, isTup_str, isTup_bl, isLst_lst, isLst_tup, f_add, f_sub, f_neg, f_eqI, f_neI, f_eqB, f_neB, f_lt, f_le, f_gt, f_ge, f_is, f_isNot, isNone_int, isNone_tup, isNone_lst, isNone_non, f_len_l, f_len_t, f_len_rd, f_tup_l, f_tup_t, f_max2, f_min2, f_abs, f_sum_l, f_sum_t, f_ix0, f_ix1, f_ix2, f_ix3, f_rev_t, outR_nx, outR_rt, outR_exc, nones0, nonesS, runB_eq, ap_eSl, optI_none, optI_some, optO_int, ap_sWh, ap_iSeq, items_l, items_t, ap_iRange1, ap_iRange2, wipeE_nil, wipeE_cons, evA_nil, evA_cons, RL.cons_ok, RL.cons_exc, RL.bind_ok, RL.bind_exc, RL.out_ok, RL.out_exc, Rs.bind_ok, Rs.bind_exc, Rs.out_ok, Rs.out_exc, Rs.of_some, Option.bind_some, List.getElem?_cons_zero, List.getElem?_cons_succ, List.set_cons_zero, List.set_cons_succ, List.map_cons, List.map_nil, List.cons_append, List.nil_append, List.length_cons, List.length_nil, Nat.reduceAdd, Nat.reduceSub, Nat.reduceLeDiff, Nat.reduceLT, Bool.not_true, Bool.not_false, decide_true, decide_false]) (by omega) (by
      intro e he
      simp -implicitDefEqProofs only [ix_wy0, ix_wy1, ap_sSeq, seqO_nx, seqO_rt, seqO_exc, ap_sIf, ifO_t, ifO_f, ifO_exc, ap_sNx, ap_sSet, ap_sOwn, ap_sRet, ap_sDrop, ap_sAsg, outB_some, bT_nm, bT_tp, bTs_nil, bTs_cons, ap_sRaise, ap_sPar, parO_ok, ap_sFor, ap_sRetV, retO_own, retO_val, ap_sFrz, frzO_own, frzO_val, ap_sApp, ap_sExt, ap_eV, valO_val, ap_eB, borO_val, borO_own, ap_eC, ap_eOp, opO_ok, ap_eUn, ap_eTup, ap_eLst, tupR_ok, lstR_ok, ap_eCB, ap_eCall, callO_ok, callO_exc, ap_gNot, notR_b, ap_gTru, truR_b, truR_list, ap_gAnd, ap_gOr, andO_t, andO_f, orO_t, orO_f, ap_eAnd, ap_eOr, eandO_t, eandO_f, eorO_t, eorO_f, ap_eNot, enotO_b, enotO_list, ap_eIf, eifO_t, eifO_f, ap_eChain, chO_ok, ap_eIsi, isiO_int, isiO_tup, isiO_lst, isiO_bl, isiO_str, isiO_non, isInt_int, isInt_bl, isInt_tup, isInt_lst, isInt_str, isInt_non, isBool_int, isBool_bl, isTup_tup, isTup_lst, isTup_int, isTup_non, isTup_str, isTup_bl, isLst_lst, isLst_tup, f_add, f_sub, f_neg, f_eqI, f_neI, f_eqB, f_neB, f_lt, f_le, f_gt, f_ge, f_is, f_isNot, isNone_int, isNone_tup, isNone_lst, isNone_non, f_len_l, f_len_t, f_len_rd, f_tup_l, f_tup_t, f_max2, f_min2, f_abs, f_sum_l, f_sum_t, f_ix0, f_ix1, f_ix2, f_ix3, f_rev_t, outR_nx, outR_rt, outR_exc, nones0, nonesS, runB_eq, ap_eSl, optI_none, optI_some, optO_int, ap_sWh, ap_iSeq, items_l, items_t, ap_iRange1, ap_iRange2, wipeE_nil, wipeE_cons, evA_nil, evA_cons, RL.cons_ok, RL.cons_exc, RL.bind_ok, RL.bind_exc, RL.out_ok, RL.out_exc, Rs.bind_ok, Rs.bind_exc, Rs.out_ok, Rs.out_exc, Rs.of_some, Option.bind_some, List.getElem?_cons_zero, List.getElem?_cons_succ, List.set_cons_zero, List.set_cons_succ, List.map_cons, List.map_nil, List.cons_append, List.nil_append, List.length_cons, List.length_nil, Nat.reduceAdd, Nat.reduceSub, Nat.reduceLeDiff, Nat.reduceLT, Bool.not_true, Bool.not_false, decide_true, decide_false]
      exact ⟨trivial, trivial⟩), List.map_map]
    rfl
  have c2 : ∀ s0 s1 s2 s3 s5 s6 s7 s8 s9 s10 s11 s12 s13 s14 s15 s16 s17 s18 : Option Sl, eLc [16] (iSeq (eB 4)) (.nm 16) (eC (.bool true)) (eOp ixF (eV 16) (eC (.int 1))) [s0, s1, s2, s3, some (.val (.list (P.map fun e => wyD e.1))), s5, s6, s7, s8, s9, s10, s11, s12, s13, s14, s15, s16, s17, s18] = .ok (.list ((P.map fun e => e.1.2).map PyData.int)) := by
    intros
    rw [eLc_mapA P (fun e => wyD e.1) (fun e => .int e.1.2) (by simp -implicitDefEqProofs only [ap_sSeq, seqO_nx, seqO_rt, seqO_exc, ap_sIf, ifO_t, ifO_f, ifO_exc, ap_sNx, ap_sSet, ap_sOwn, ap_sRet, ap_sDrop, ap_sAsg, outB_some, bT_nm, bT_tp, bTs_nil, bTs_cons, ap_sRaise, ap_sPar, parO_ok, ap_sFor, ap_sRetV, retO_own, retO_val, ap_sFrz, frzO_own, frzO_val, ap_sApp, ap_sExt, ap_eV, valO_val, ap_eB, borO_val, borO_own, ap_eC, ap_eOp, opO_ok, ap_eUn, ap_eTup, ap_eLst, tupR_ok, lstR_ok, ap_eCB, ap_eCall, callO_ok, callO_exc, ap_gNot, notR_b, ap_gTru, truR_b, truR_list, ap_gAnd, ap_gOr, andO_t, andO_f, orO_t, orO_f, ap_eAnd, ap_eOr, eandO_t, eandO_f, eorO_t, eorO_f, ap_eNot, enotO_b, enotO_list, ap_eIf, eifO_t, eifO_f, ap_eChain, chO_ok, ap_eIsi, isiO_int, isiO_tup, isiO_lst, isiO_bl, isiO_str, isiO_non, isInt_int, isInt_bl, isInt_tup, isInt_lst, isInt_str, isInt_non, isBool_int, isBool_bl, isTup_tup, isTup_lst, isTup_int, isTup_non, isTup_str, isTup_bl, isLst_lst, isLst_tup, f_add, f_sub, f_neg, f_eqI, f_neI, f_eqB, f_neB, f_lt, f_le, f_gt, f_ge, f_is, f_isNot, isNone_int, isNone_tup, isNone_lst, isNone_non, f_len_l, f_len_t, f_len_rd, f_tup_l, f_tup_t, f_max2, f_min2, f_abs, f_sum_l, f_sum_t, f_ix0, f_ix1, f_ix2, f_ix3, f_rev_t, outR_nx, outR_rt, outR_exc, nones0, nonesS, runB_eq, ap_eSl, optI_none, optI_some, optO_int, ap_sWh, ap_iSeq, items_l, items_t, ap_iRange1, ap_iRange2, wipeE_nil, wipeE_cons, evA_nil, evA_cons, RL.cons_ok, RL.cons_exc, RL.bind_ok, RL.bind_exc, RL.out_ok, RL.out_exc, Rs.bind_ok, Rs.bind_exc, Rs.out_ok, Rs.out_exc, Rs.of_some, Option.bind_some, List.getElem?_cons_zero, List.getElem?_cons_succ, List.set_cons_zero, List.set_cons_succ, List.map_cons, List.map_nil, List.cons_append, List.nil_append, List.length_cons, List.length_nil, Nat.reduceAdd, Nat.reduceSub, Nat.reduceLeDiff, Nat.reduceLT, Bool.not_true, Bool.not_false, decide_true, decide_false]) (by omega) (by
      intro e he
      simp -implicitDefEqProofs only [ix_wy0, ix_wy1, ap_sSeq, seqO_nx, seqO_rt, seqO_exc, ap_sIf, ifO_t, ifO_f, ifO_exc, ap_sNx, ap_sSet, ap_sOwn, ap_sRet, ap_sDrop, ap_sAsg, outB_some, bT_nm, bT_tp, bTs_nil, bTs_cons, ap_sRaise, ap_sPar, parO_ok, ap_sFor, ap_sRetV, retO_own, retO_val, ap_sFrz, frzO_own, frzO_val, ap_sApp, ap_sExt, ap_eV, valO_val, ap_eB, borO_val, borO_own, ap_eC, ap_eOp, opO_ok, ap_eUn, ap_eTup, ap_eLst, tupR_ok, lstR_ok, ap_eCB, ap_eCall, callO_ok, callO_exc, ap_gNot, notR_b, ap_gTru, truR_b, truR_list, ap_gAnd, ap_gOr, andO_t, andO_f, orO_t, orO_f, ap_eAnd, ap_eOr, eandO_t, eandO_f, eorO_t, eorO_f, ap_eNot, enotO_b, enotO_list, ap_eIf, eifO_t, eifO_f, ap_eChain, chO_ok, ap_eIsi, isiO_int, isiO_tup, isiO_lst, isiO_bl, isiO_str, isiO_non, isInt_int, isInt_bl, isInt_tup, isInt_lst, isInt_str, isInt_non, isBool_int, isBool_bl, isTup_tup, isTup_lst, isTup_int, isTup_non, isTup_str, isTup_bl, isLst_lst, isLst_tup, f_add, f_sub, f_neg, f_eqI, f_neI, f_eqB, f_neB, f_lt, f_le, f_gt, f_ge, f_is, f_isNot, isNone_int, isNone_tup, isNone_lst, isNone_non, f_len_l, f_len_t, f_len_rd, f_tup_l, f_tup_t, f_max2, f_min2, f_abs, f_sum_l, f_sum_t, f_ix0, f_ix1, f_ix2, f_ix3, f_rev_t, outR_nx, outR_rt, outR_exc, nones0, nonesS, runB_eq, ap_eSl, optI_none, optI_some, optO_int, ap_sWh, ap_iSeq, items_l, items_t, ap_iRange1, ap_iRange2, wipeE_nil, wipeE_cons, evA_nil, evA_cons, RL.cons_ok, RL.cons_exc, RL.bind_ok, RL.bind_exc, RL.out_ok, RL.out_exc, Rs.bind_ok, Rs.bind_exc, Rs.out_ok, Rs.out_exc, Rs.of_some, Option.bind_some, List.getElem?_cons_zero, List.getElem?_cons_succ, List.set_cons_zero, List.set_cons_succ, List.map_cons, List.map_nil, List.cons_append, List.nil_append, List.length_cons, List.length_nil, Nat.reduceAdd, Nat.reduceSub, Nat.reduceLeDiff, Nat.reduceLT, Bool.not_true, Bool.not_false, decide_true, decide_false]
      exact ⟨trivial, trivial⟩), List.map_map]
    rfl
  have c3 : ∀ s0 s1 s2 s3 s5 s6 s7 s8 s9 s10 s11 s12 s13 s16 s17 s18 : Option Sl, eLc [8, 9] (iSeq (eB 4)) (.tp [(.nm 8), (.nm 9)]) (eC (.bool true)) (eTup [(eOp subF (eV 8) (eV 14)), (eOp subF (eV 9) (eV 15))]) [s0, s1, s2, s3, some (.val (.list (P.map fun e => wyD e.1))), s5, s6, s7, s8, s9, s10, s11, s12, s13, some (.val (.int lx)), some (.val (.int ly)), s16, s17, s18] = .ok (.list (P.map fun e => wyD (e.1.1 - lx, e.1.2 - ly))) := by
    intros
    rw [eLc_mapT P (fun e => wyD e.1) (fun e => wyD (e.1.1 - lx, e.1.2 - ly)) (by simp -implicitDefEqProofs only [ap_sSeq, seqO_nx, seqO_rt, seqO_exc, ap_sIf, ifO_t, ifO_f, ifO_exc, ap_sNx, ap_sSet, ap_sOwn, ap_sRet, ap_sDrop, ap_sAsg, outB_some, bT_nm, bT_tp, bTs_nil, bTs_cons, ap_sRaise, ap_sPar, parO_ok, ap_sFor, ap_sRetV, retO_own, retO_val, ap_sFrz, frzO_own, frzO_val, ap_sApp, ap_sExt, ap_eV, valO_val, ap_eB, borO_val, borO_own, ap_eC, ap_eOp, opO_ok, ap_eUn, ap_eTup, ap_eLst, tupR_ok, lstR_ok, ap_eCB, ap_eCall, callO_ok, callO_exc, ap_gNot, notR_b, ap_gTru, truR_b, truR_list, ap_gAnd, ap_gOr, andO_t, andO_f, orO_t, orO_f, ap_eAnd, ap_eOr, eandO_t, eandO_f, eorO_t, eorO_f, ap_eNot, enotO_b, enotO_list, ap_eIf, eifO_t, eifO_f, ap_eChain, chO_ok, ap_eIsi, isiO_int, isiO_tup, isiO_lst, isiO_bl, isiO_str, isiO_non, isInt_int, isInt_bl, isInt_tup, isInt_lst, isInt_str, isInt_non, isBool_int, isBool_bl, isTup_tup, isTup_lst, isTup_int, isTup_non, isTup_str, isTup_bl, isLst_lst, isLst_tup, f_add, f_sub, f_neg, f_eqI, f_neI, f_eqB, f_neB, f_lt, f_le, f_gt, f_ge, f_is, f_isNot, isNone_int, isNone_tup, isNone_lst, isNone_non, f_len_l, f_len_t, f_len_rd, f_tup_l, f_tup_t, f_max2, f_min2, f_abs, f_sum_l, f_sum_t, f_ix0, f_ix1, f_ix2, f_ix3, f_rev_t, outR_nx, outR_rt, outR_exc, nones0, nonesS, runB_eq, ap_eSl, optI_none, optI_some, optO_int, ap_sWh, ap_iSeq, items_l, items_t, ap_iRange1, ap_iRange2, wipeE_nil, wipeE_cons, evA_nil, evA_cons, RL.cons_ok, RL.cons_exc, RL.bind_ok, RL.bind_exc, RL.out_ok, RL.out_exc, Rs.bind_ok, Rs.bind_exc, Rs.out_ok, Rs.out_exc, Rs.of_some, Option.bind_some, List.getElem?_cons_zero, List.getElem?_cons_succ, List.set_cons_zero, List.set_cons_succ, List.map_cons, List.map_nil, List.cons_append, List.nil_append, List.length_cons, List.length_nil, Nat.reduceAdd, Nat.reduceSub, Nat.reduceLeDiff, Nat.reduceLT, Bool.not_true, Bool.not_false, decide_true, decide_false]) (by omega) (by
      intro e he
      refine ⟨_, by simp -implicitDefEqProofs only [bT_wy, ap_sSeq, seqO_nx, seqO_rt, seqO_exc, ap_sIf, ifO_t, ifO_f, ifO_exc, ap_sNx, ap_sSet, ap_sOwn, ap_sRet, ap_sDrop, ap_sAsg, outB_some, bT_nm, bT_tp, bTs_nil, bTs_cons, ap_sRaise, ap_sPar, parO_ok, ap_sFor, ap_sRetV, retO_own, retO_val, ap_sFrz, frzO_own, frzO_val, ap_sApp, ap_sExt, ap_eV, valO_val, ap_eB, borO_val, borO_own, ap_eC, ap_eOp, opO_ok, ap_eUn, ap_eTup, ap_eLst, tupR_ok, lstR_ok, ap_eCB, ap_eCall, callO_ok, callO_exc, ap_gNot, notR_b, ap_gTru, truR_b, truR_list, ap_gAnd, ap_gOr, andO_t, andO_f, orO_t, orO_f, ap_eAnd, ap_eOr, eandO_t, eandO_f, eorO_t, eorO_f, ap_eNot, enotO_b, enotO_list, ap_eIf, eifO_t, eifO_f, ap_eChain, chO_ok, ap_eIsi, isiO_int, isiO_tup, isiO_lst, isiO_bl, isiO_str, isiO_non, isInt_int, isInt_bl, isInt_tup, isInt_lst, isInt_str, isInt_non, isBool_int, isBool_bl, isTup_tup, isTup_lst, isTup_int, isTup_non, isTup_str, isTup_bl, isLst_lst, isLst_tup, f_add, f_sub, f_neg, f_eqI, f_neI, f_eqB, f_neB, f_lt, f_le, f_gt, f_ge, f_is, f_isNot, isNone_int, isNone_tup, isNone_lst, isNone_non, f_len_l, f_len_t, f_len_rd, f_tup_l, f_tup_t, f_max2, f_min2, f_abs, f_sum_l, f_sum_t, f_ix0, f_ix1, f_ix2, f_ix3, f_rev_t, outR_nx, outR_rt, outR_exc, nones0, nonesS, runB_eq, ap_eSl, optI_none, optI_some, optO_int, ap_sWh, ap_iSeq, items_l, items_t, ap_iRange1, ap_iRange2, wipeE_nil, wipeE_cons, evA_nil, evA_cons, RL.cons_ok, RL.cons_exc, RL.bind_ok, RL.bind_exc, RL.out_ok, RL.out_exc, Rs.bind_ok, Rs.bind_exc, Rs.out_ok, Rs.out_exc, Rs.of_some, Option.bind_some, List.getElem?_cons_zero, List.getElem?_cons_succ, List.set_cons_zero, List.set_cons_succ, List.map_cons, List.map_nil, List.cons_append, List.nil_append, List.length_cons, List.length_nil, Nat.reduceAdd, Nat.reduceSub, Nat.reduceLeDiff, Nat.reduceLT, Bool.not_true, Bool.not_false, decide_true, decide_false]; rfl, rfl, ?_⟩
      simp -implicitDefEqProofs only [ap_sSeq, seqO_nx, seqO_rt, seqO_exc, ap_sIf, ifO_t, ifO_f, ifO_exc, ap_sNx, ap_sSet, ap_sOwn, ap_sRet, ap_sDrop, ap_sAsg, outB_some, bT_nm, bT_tp, bTs_nil, bTs_cons, ap_sRaise, ap_sPar, parO_ok, ap_sFor, ap_sRetV, retO_own, retO_val, ap_sFrz, frzO_own, frzO_val, ap_sApp, ap_sExt, ap_eV, valO_val, ap_eB, borO_val, borO_own, ap_eC, ap_eOp, opO_ok, ap_eUn, ap_eTup, ap_eLst, tupR_ok, lstR_ok, ap_eCB, ap_eCall, callO_ok, callO_exc, ap_gNot, notR_b, ap_gTru, truR_b, truR_list, ap_gAnd, ap_gOr, andO_t, andO_f, orO_t, orO_f, ap_eAnd, ap_eOr, eandO_t, eandO_f, eorO_t, eorO_f, ap_eNot, enotO_b, enotO_list, ap_eIf, eifO_t, eifO_f, ap_eChain, chO_ok, ap_eIsi, isiO_int, isiO_tup, isiO_lst, isiO_bl, isiO_str, isiO_non, isInt_int, isInt_bl, isInt_tup, isInt_lst, isInt_str, isInt_non, isBool_int, isBool_bl, isTup_tup, isTup_lst, isTup_int, isTup_non, isTup_str, isTup_bl, isLst_lst, isLst_tup, f_add, f_sub, f_neg, f_eqI, f_neI, f_eqB, f_neB, f_lt, f_le, f_gt, f_ge, f_is, f_isNot, isNone_int, isNone_tup, isNone_lst, isNone_non, f_len_l, f_len_t, f_len_rd, f_tup_l, f_tup_t, f_max2, f_min2, f_abs, f_sum_l, f_sum_t, f_ix0, f_ix1, f_ix2, f_ix3, f_rev_t, outR_nx, outR_rt, outR_exc, nones0, nonesS, runB_eq, ap_eSl, optI_none, optI_some, optO_int, ap_sWh, ap_iSeq, items_l, items_t, ap_iRange1, ap_iRange2, wipeE_nil, wipeE_cons, evA_nil, evA_cons, RL.cons_ok, RL.cons_exc, RL.bind_ok, RL.bind_exc, RL.out_ok, RL.out_exc, Rs.bind_ok, Rs.bind_exc, Rs.out_ok, Rs.out_exc, Rs.of_some, Option.bind_some, List.getElem?_cons_zero, List.getElem?_cons_succ, List.set_cons_zero, List.set_cons_succ, List.map_cons, List.map_nil, List.cons_append, List.nil_append, List.length_cons, List.length_nil, Nat.reduceAdd, Nat.reduceSub, Nat.reduceLeDiff, Nat.reduceLT, Bool.not_true, Bool.not_false, decide_true, decide_false]
      rfl)]
  refine ⟨g, r, P, lx, ly, eg, G, by omega, by omega, hok, ⟨?_, fun e he => lex _ (List.mem_map_of_mem he)⟩, ⟨?_, fun e he => ley _ (List.mem_map_of_mem he)⟩, ?_⟩
  · obtain ⟨e, he, h⟩ := List.mem_map.mp mx
    exact ⟨e, he, h⟩
  · obtain ⟨e, he, h⟩ := List.mem_map.mp my
    exact ⟨e, he, h⟩
  · have w0 : ∀ a b : Int, (PyData.tuple [.int a, .int b]) = wyD (a, b) := fun _ _ => rfl
    simp -implicitDefEqProofs only [List.map_cons, List.map_nil] at go1
    simp -implicitDefEqProofs only [sem__law_scene, b__law_scene, eg, er, q0, q1, q2, q3, q4, f_modP _ 4 (by decide), f_modP _ 3 (by decide), hr4, w0, go1, ap_iZip, items_zipL, hz, go2, ap_sSeq, seqO_nx, seqO_rt, seqO_exc, ap_sIf, ifO_t, ifO_f, ifO_exc, ap_sNx, ap_sSet, ap_sOwn, ap_sRet, ap_sDrop, ap_sAsg, outB_some, bT_nm, bT_tp, bTs_nil, bTs_cons, ap_sRaise, ap_sPar, parO_ok, ap_sFor, ap_sRetV, retO_own, retO_val, ap_sFrz, frzO_own, frzO_val, ap_sApp, ap_sExt, ap_eV, valO_val, ap_eB, borO_val, borO_own, ap_eC, ap_eOp, opO_ok, ap_eUn, ap_eTup, ap_eLst, tupR_ok, lstR_ok, ap_eCB, ap_eCall, callO_ok, callO_exc, ap_gNot, notR_b, ap_gTru, truR_b, truR_list, ap_gAnd, ap_gOr, andO_t, andO_f, orO_t, orO_f, ap_eAnd, ap_eOr, eandO_t, eandO_f, eorO_t, eorO_f, ap_eNot, enotO_b, enotO_list, ap_eIf, eifO_t, eifO_f, ap_eChain, chO_ok, ap_eIsi, isiO_int, isiO_tup, isiO_lst, isiO_bl, isiO_str, isiO_non, isInt_int, isInt_bl, isInt_tup, isInt_lst, isInt_str, isInt_non, isBool_int, isBool_bl, isTup_tup, isTup_lst, isTup_int, isTup_non, isTup_str, isTup_bl, isLst_lst, isLst_tup, f_add, f_sub, f_neg, f_eqI, f_neI, f_eqB, f_neB, f_lt, f_le, f_gt, f_ge, f_is, f_isNot, isNone_int, isNone_tup, isNone_lst, isNone_non, f_len_l, f_len_t, f_len_rd, f_tup_l, f_tup_t, f_max2, f_min2, f_abs, f_sum_l, f_sum_t, f_ix0, f_ix1, f_ix2, f_ix3, f_rev_t, outR_nx, outR_rt, outR_exc, nones0, nonesS, runB_eq, ap_eSl, optI_none, optI_some, optO_int, ap_sWh, ap_iSeq, items_l, items_t, ap_iRange1, ap_iRange2, wipeE_nil, wipeE_cons, evA_nil, evA_cons, RL.cons_ok, RL.cons_exc, RL.bind_ok, RL.bind_exc, RL.out_ok, RL.out_exc, Rs.bind_ok, Rs.bind_exc, Rs.out_ok, Rs.out_exc, Rs.of_some, Option.bind_some, List.getElem?_cons_zero, List.getElem?_cons_succ, List.set_cons_zero, List.set_cons_succ, List.map_cons, List.map_nil, List.cons_append, List.nil_append, List.length_cons, List.length_nil, Nat.reduceAdd, Nat.reduceSub, Nat.reduceLeDiff, Nat.reduceLT, Bool.not_true, Bool.not_false, decide_true, decide_false]
    simp -implicitDefEqProofs only [c1, c2, ex, ey, bT_wy, w0, c3, ap_sSeq, seqO_nx, seqO_rt, seqO_exc, ap_sIf, ifO_t, ifO_f, ifO_exc, ap_sNx, ap_sSet, ap_sOwn, ap_sRet, ap_sDrop, ap_sAsg, outB_some, bT_nm, bT_tp, bTs_nil, bTs_cons, ap_sRaise, ap_sPar, parO_ok, ap_sFor, ap_sRetV, retO_own, retO_val, ap_sFrz, frzO_own, frzO_val, ap_sApp, ap_sExt, ap_eV, valO_val, ap_eB, borO_val, borO_own, ap_eC, ap_eOp, opO_ok, ap_eUn, ap_eTup, ap_eLst, tupR_ok, lstR_ok, ap_eCB, ap_eCall, callO_ok, callO_exc, ap_gNot, notR_b, ap_gTru, truR_b, truR_list, ap_gAnd, ap_gOr, andO_t, andO_f, orO_t, orO_f, ap_eAnd, ap_eOr, eandO_t, eandO_f, eorO_t, eorO_f, ap_eNot, enotO_b, enotO_list, ap_eIf, eifO_t, eifO_f, ap_eChain, chO_ok, ap_eIsi, isiO_int, isiO_tup, isiO_lst, isiO_bl, isiO_str, isiO_non, isInt_int, isInt_bl, isInt_tup, isInt_lst, isInt_str, isInt_non, isBool_int, isBool_bl, isTup_tup, isTup_lst, isTup_int, isTup_non, isTup_str, isTup_bl, isLst_lst, isLst_tup, f_add, f_sub, f_neg, f_eqI, f_neI, f_eqB, f_neB, f_lt, f_le, f_gt, f_ge, f_is, f_isNot, isNone_int, isNone_tup, isNone_lst, isNone_non, f_len_l, f_len_t, f_len_rd, f_tup_l, f_tup_t, f_max2, f_min2, f_abs, f_sum_l, f_sum_t, f_ix0, f_ix1, f_ix2, f_ix3, f_rev_t, outR_nx, outR_rt, outR_exc, nones0, nonesS, runB_eq, ap_eSl, optI_none, optI_some, optO_int, ap_sWh, ap_iSeq, items_l, items_t, ap_iRange1, ap_iRange2, wipeE_nil, wipeE_cons, evA_nil, evA_cons, RL.cons_ok, RL.cons_exc, RL.bind_ok, RL.bind_exc, RL.out_ok, RL.out_exc, Rs.bind_ok, Rs.bind_exc, Rs.out_ok, Rs.out_exc, Rs.of_some, Option.bind_some, List.getElem?_cons_zero, List.getElem?_cons_succ, List.set_cons_zero, List.set_cons_succ, List.map_cons, List.map_nil, List.cons_append, List.nil_append, List.length_cons, List.length_nil, Nat.reduceAdd, Nat.reduceSub, Nat.reduceLeDiff, Nat.reduceLT, Bool.not_true, Bool.not_false, decide_true, decide_false]
end VVlaw

set_option Elab.async false
set_option linter.all false
set_option maxRecDepth 100000
set_option maxHeartbeats 4000000
/-! PLg: the best way of a shot over itself. -/
namespace VVlaw
open PySem PySem.Spec L2 VV
open PyProof.Rows hiding St
def wayD (z : Int × Int) : D := .tuple [.int z.1, .int z.2]
def waysOf (w h w' h' : Nat) : List (Int × Int) := (rangeI (1 - w') (w + w' - 1)).flatMap fun x => (rangeI (1 - h') (h + h' - 1)).map fun y => (x, y)
theorem all_ways_eq {a b : List (List Int)} {h w h' w' : Nat} (A : Sh a h w) (B : Sh b h' w') : sem_all_ways [shD a, shD b] = .ok (.list ((waysOf w h w' h').map wayD)) := by
  have a1 := A.w1; have a2 := A.w2; have a3 := A.h1; have a4 := A.h2
  have b1 := B.w1; have b2 := B.w2; have b3 := B.h1; have b4 := B.h2
  have e1 : (RL.ok [.int (1 - (w' : Int)), .int (w : Int)]).items rng2 = .ok ((rangeI (1 - w') (w + w' - 1)).map PyData.int) := by
    rw [rng2_ok _ _ (by omega), rangeD_eq]
    congr 3
    omega
  have e2 : (RL.ok [.int (1 - (h' : Int)), .int (h : Int)]).items rng2 = .ok ((rangeI (1 - h') (h + h' - 1)).map PyData.int) := by
    rw [rng2_ok _ _ (by omega), rangeD_eq]
    congr 3
    omega
  simp -implicitDefEqProofs only [sem_all_ways, b_all_ways, size_of_eq A, size_of_eq B, ap_sSeq, seqO_nx, seqO_rt, seqO_exc, ap_sIf, ifO_t, ifO_f, ifO_exc, ap_sNx, ap_sSet, ap_sOwn, ap_sRet, ap_sDrop, ap_sAsg, outB_some, bT_nm, bT_tp, bTs_nil, bTs_cons, ap_sRaise, ap_sPar, parO_ok, ap_sFor, ap_sRetV, retO_own, retO_val, ap_sFrz, frzO_own, frzO_val, ap_sApp, ap_sExt, ap_eV, valO_val, ap_eB, borO_val, borO_own, ap_eC, ap_eOp, opO_ok, ap_eUn, ap_eTup, ap_eLst, tupR_ok, lstR_ok, ap_eCB, ap_eCall, callO_ok, callO_exc, ap_gNot, notR_b, ap_gTru, truR_b, truR_list, ap_gAnd, ap_gOr, andO_t, andO_f, orO_t, orO_f, ap_eAnd, ap_eOr, eandO_t, eandO_f, eorO_t, eorO_f, ap_eNot, enotO_b, enotO_list, ap_eIf, eifO_t, eifO_f, ap_eChain, chO_ok, ap_eIsi, isiO_int, isiO_tup, isiO_lst, isiO_bl, isiO_str, isiO_non, isInt_int, isInt_bl, isInt_tup, isInt_lst, isInt_str, isInt_non, isBool_int, isBool_bl, isTup_tup, isTup_lst, isTup_int, isTup_non, isTup_str, isTup_bl, isLst_lst, isLst_tup, f_add, f_sub, f_neg, f_eqI, f_neI, f_eqB, f_neB, f_lt, f_le, f_gt, f_ge, f_is, f_isNot, isNone_int, isNone_tup, isNone_lst, isNone_non, f_len_l, f_len_t, f_len_rd, f_tup_l, f_tup_t, f_max2, f_min2, f_abs, f_sum_l, f_sum_t, f_ix0, f_ix1, f_ix2, f_ix3, f_rev_t, outR_nx, outR_rt, outR_exc, nones0, nonesS, runB_eq, ap_eSl, optI_none, optI_some, optO_int, ap_sWh, ap_iSeq, items_l, items_t, ap_iRange1, ap_iRange2, wipeE_nil, wipeE_cons, evA_nil, evA_cons, RL.cons_ok, RL.cons_exc, RL.bind_ok, RL.bind_exc, RL.out_ok, RL.out_exc, Rs.bind_ok, Rs.bind_exc, Rs.out_ok, Rs.out_exc, Rs.of_some, Option.bind_some, List.getElem?_cons_zero, List.getElem?_cons_succ, List.set_cons_zero, List.set_cons_succ, List.map_cons, List.map_nil, List.cons_append, List.nil_append, List.length_cons, List.length_nil, Nat.reduceAdd, Nat.reduceSub, Nat.reduceLeDiff, Nat.reduceLT, Bool.not_true, Bool.not_false, decide_true, decide_false]
  have hl : ((rangeI (1 - w') (w + w' - 1)).flatMap fun x => (rangeI (1 - h') (h + h' - 1)).map fun y => wayD (x, y)).length ≤ 16777216 := by
    rw [List.length_flatMap]
    simp -implicitDefEqProofs only [List.length_map, rangeI_length, List.map_const', List.sum_replicate_nat]
    exact Nat.le_trans (Nat.mul_le_mul (show _ ≤ 24 by omega) (show _ ≤ 24 by omega)) (by decide)
  rw [eLc2_map (rangeI (1 - w') (w + w' - 1)) (fun _ => rangeI (1 - h') (h + h' - 1)) (fun x y => wayD (x, y)) (by simp -implicitDefEqProofs only [e1, ap_sSeq, seqO_nx, seqO_rt, seqO_exc, ap_sIf, ifO_t, ifO_f, ifO_exc, ap_sNx, ap_sSet, ap_sOwn, ap_sRet, ap_sDrop, ap_sAsg, outB_some, bT_nm, bT_tp, bTs_nil, bTs_cons, ap_sRaise, ap_sPar, parO_ok, ap_sFor, ap_sRetV, retO_own, retO_val, ap_sFrz, frzO_own, frzO_val, ap_sApp, ap_sExt, ap_eV, valO_val, ap_eB, borO_val, borO_own, ap_eC, ap_eOp, opO_ok, ap_eUn, ap_eTup, ap_eLst, tupR_ok, lstR_ok, ap_eCB, ap_eCall, callO_ok, callO_exc, ap_gNot, notR_b, ap_gTru, truR_b, truR_list, ap_gAnd, ap_gOr, andO_t, andO_f, orO_t, orO_f, ap_eAnd, ap_eOr, eandO_t, eandO_f, eorO_t, eorO_f, ap_eNot, enotO_b, enotO_list, ap_eIf, eifO_t, eifO_f, ap_eChain, chO_ok, ap_eIsi, isiO_int, isiO_tup, isiO_lst, isiO_bl, isiO_str, isiO_non, isInt_int, isInt_bl, isInt_tup, isInt_lst, isInt_str, isInt_non, isBool_int, isBool_bl, isTup_tup, isTup_lst, isTup_int, isTup_non, isTup_str, isTup_bl, isLst_lst, isLst_tup, f_add, f_sub, f_neg, f_eqI, f_neI, f_eqB, f_neB, f_lt, f_le, f_gt, f_ge, f_is, f_isNot, isNone_int, isNone_tup, isNone_lst, isNone_non, f_len_l, f_len_t, f_len_rd, f_tup_l, f_tup_t, f_max2, f_min2, f_abs, f_sum_l, f_sum_t, f_ix0, f_ix1, f_ix2, f_ix3, f_rev_t, outR_nx, outR_rt, outR_exc, nones0, nonesS, runB_eq, ap_eSl, optI_none, optI_some, optO_int, ap_sWh, ap_iSeq, items_l, items_t, ap_iRange1, ap_iRange2, wipeE_nil, wipeE_cons, evA_nil, evA_cons, RL.cons_ok, RL.cons_exc, RL.bind_ok, RL.bind_exc, RL.out_ok, RL.out_exc, Rs.bind_ok, Rs.bind_exc, Rs.out_ok, Rs.out_exc, Rs.of_some, Option.bind_some, List.getElem?_cons_zero, List.getElem?_cons_succ, List.set_cons_zero, List.set_cons_succ, List.map_cons, List.map_nil, List.cons_append, List.nil_append, List.length_cons, List.length_nil, Nat.reduceAdd, Nat.reduceSub, Nat.reduceLeDiff, Nat.reduceLT, Bool.not_true, Bool.not_false, decide_true, decide_false]) hl (by
    intro x hx
    refine ⟨by simp -implicitDefEqProofs only [ap_sSeq, seqO_nx, seqO_rt, seqO_exc, ap_sIf, ifO_t, ifO_f, ifO_exc, ap_sNx, ap_sSet, ap_sOwn, ap_sRet, ap_sDrop, ap_sAsg, outB_some, bT_nm, bT_tp, bTs_nil, bTs_cons, ap_sRaise, ap_sPar, parO_ok, ap_sFor, ap_sRetV, retO_own, retO_val, ap_sFrz, frzO_own, frzO_val, ap_sApp, ap_sExt, ap_eV, valO_val, ap_eB, borO_val, borO_own, ap_eC, ap_eOp, opO_ok, ap_eUn, ap_eTup, ap_eLst, tupR_ok, lstR_ok, ap_eCB, ap_eCall, callO_ok, callO_exc, ap_gNot, notR_b, ap_gTru, truR_b, truR_list, ap_gAnd, ap_gOr, andO_t, andO_f, orO_t, orO_f, ap_eAnd, ap_eOr, eandO_t, eandO_f, eorO_t, eorO_f, ap_eNot, enotO_b, enotO_list, ap_eIf, eifO_t, eifO_f, ap_eChain, chO_ok, ap_eIsi, isiO_int, isiO_tup, isiO_lst, isiO_bl, isiO_str, isiO_non, isInt_int, isInt_bl, isInt_tup, isInt_lst, isInt_str, isInt_non, isBool_int, isBool_bl, isTup_tup, isTup_lst, isTup_int, isTup_non, isTup_str, isTup_bl, isLst_lst, isLst_tup, f_add, f_sub, f_neg, f_eqI, f_neI, f_eqB, f_neB, f_lt, f_le, f_gt, f_ge, f_is, f_isNot, isNone_int, isNone_tup, isNone_lst, isNone_non, f_len_l, f_len_t, f_len_rd, f_tup_l, f_tup_t, f_max2, f_min2, f_abs, f_sum_l, f_sum_t, f_ix0, f_ix1, f_ix2, f_ix3, f_rev_t, outR_nx, outR_rt, outR_exc, nones0, nonesS, runB_eq, ap_eSl, optI_none, optI_some, optO_int, ap_sWh, ap_iSeq, items_l, items_t, ap_iRange1, ap_iRange2, wipeE_nil, wipeE_cons, evA_nil, evA_cons, RL.cons_ok, RL.cons_exc, RL.bind_ok, RL.bind_exc, RL.out_ok, RL.out_exc, Rs.bind_ok, Rs.bind_exc, Rs.out_ok, Rs.out_exc, Rs.of_some, Option.bind_some, List.getElem?_cons_zero, List.getElem?_cons_succ, List.set_cons_zero, List.set_cons_succ, List.map_cons, List.map_nil, List.cons_append, List.nil_append, List.length_cons, List.length_nil, Nat.reduceAdd, Nat.reduceSub, Nat.reduceLeDiff, Nat.reduceLT, Bool.not_true, Bool.not_false, decide_true, decide_false], by simp -implicitDefEqProofs only [e2, ap_sSeq, seqO_nx, seqO_rt, seqO_exc, ap_sIf, ifO_t, ifO_f, ifO_exc, ap_sNx, ap_sSet, ap_sOwn, ap_sRet, ap_sDrop, ap_sAsg, outB_some, bT_nm, bT_tp, bTs_nil, bTs_cons, ap_sRaise, ap_sPar, parO_ok, ap_sFor, ap_sRetV, retO_own, retO_val, ap_sFrz, frzO_own, frzO_val, ap_sApp, ap_sExt, ap_eV, valO_val, ap_eB, borO_val, borO_own, ap_eC, ap_eOp, opO_ok, ap_eUn, ap_eTup, ap_eLst, tupR_ok, lstR_ok, ap_eCB, ap_eCall, callO_ok, callO_exc, ap_gNot, notR_b, ap_gTru, truR_b, truR_list, ap_gAnd, ap_gOr, andO_t, andO_f, orO_t, orO_f, ap_eAnd, ap_eOr, eandO_t, eandO_f, eorO_t, eorO_f, ap_eNot, enotO_b, enotO_list, ap_eIf, eifO_t, eifO_f, ap_eChain, chO_ok, ap_eIsi, isiO_int, isiO_tup, isiO_lst, isiO_bl, isiO_str, isiO_non, isInt_int, isInt_bl, isInt_tup, isInt_lst, isInt_str, isInt_non, isBool_int, isBool_bl, isTup_tup, isTup_lst, isTup_int, isTup_non, isTup_str, isTup_bl, isLst_lst, isLst_tup, f_add, f_sub, f_neg, f_eqI, f_neI, f_eqB, f_neB, f_lt, f_le, f_gt, f_ge, f_is, f_isNot, isNone_int, isNone_tup, isNone_lst, isNone_non, f_len_l, f_len_t, f_len_rd, f_tup_l, f_tup_t, f_max2, f_min2, f_abs, f_sum_l, f_sum_t, f_ix0, f_ix1, f_ix2, f_ix3, f_rev_t, outR_nx, outR_rt, outR_exc, nones0, nonesS, runB_eq, ap_eSl, optI_none, optI_some, optO_int, ap_sWh, ap_iSeq, items_l, items_t, ap_iRange1, ap_iRange2, wipeE_nil, wipeE_cons, evA_nil, evA_cons, RL.cons_ok, RL.cons_exc, RL.bind_ok, RL.bind_exc, RL.out_ok, RL.out_exc, Rs.bind_ok, Rs.bind_exc, Rs.out_ok, Rs.out_exc, Rs.of_some, Option.bind_some, List.getElem?_cons_zero, List.getElem?_cons_succ, List.set_cons_zero, List.set_cons_succ, List.map_cons, List.map_nil, List.cons_append, List.nil_append, List.length_cons, List.length_nil, Nat.reduceAdd, Nat.reduceSub, Nat.reduceLeDiff, Nat.reduceLT, Bool.not_true, Bool.not_false, decide_true, decide_false], fun y hy => ?_⟩
    simp -implicitDefEqProofs only [ap_sSeq, seqO_nx, seqO_rt, seqO_exc, ap_sIf, ifO_t, ifO_f, ifO_exc, ap_sNx, ap_sSet, ap_sOwn, ap_sRet, ap_sDrop, ap_sAsg, outB_some, bT_nm, bT_tp, bTs_nil, bTs_cons, ap_sRaise, ap_sPar, parO_ok, ap_sFor, ap_sRetV, retO_own, retO_val, ap_sFrz, frzO_own, frzO_val, ap_sApp, ap_sExt, ap_eV, valO_val, ap_eB, borO_val, borO_own, ap_eC, ap_eOp, opO_ok, ap_eUn, ap_eTup, ap_eLst, tupR_ok, lstR_ok, ap_eCB, ap_eCall, callO_ok, callO_exc, ap_gNot, notR_b, ap_gTru, truR_b, truR_list, ap_gAnd, ap_gOr, andO_t, andO_f, orO_t, orO_f, ap_eAnd, ap_eOr, eandO_t, eandO_f, eorO_t, eorO_f, ap_eNot, enotO_b, enotO_list, ap_eIf, eifO_t, eifO_f, ap_eChain, chO_ok, ap_eIsi, isiO_int, isiO_tup, isiO_lst, isiO_bl, isiO_str, isiO_non, isInt_int, isInt_bl, isInt_tup, isInt_lst, isInt_str, isInt_non, isBool_int, isBool_bl, isTup_tup, isTup_lst, isTup_int, isTup_non, isTup_str, isTup_bl, isLst_lst, isLst_tup, f_add, f_sub, f_neg, f_eqI, f_neI, f_eqB, f_neB, f_lt, f_le, f_gt, f_ge, f_is, f_isNot, isNone_int, isNone_tup, isNone_lst, isNone_non, f_len_l, f_len_t, f_len_rd, f_tup_l, f_tup_t, f_max2, f_min2, f_abs, f_sum_l, f_sum_t, f_ix0, f_ix1, f_ix2, f_ix3, f_rev_t, outR_nx, outR_rt, outR_exc, nones0, nonesS, runB_eq, ap_eSl, optI_none, optI_some, optO_int, ap_sWh, ap_iSeq, items_l, items_t, ap_iRange1, ap_iRange2, wipeE_nil, wipeE_cons, evA_nil, evA_cons, RL.cons_ok, RL.cons_exc, RL.bind_ok, RL.bind_exc, RL.out_ok, RL.out_exc, Rs.bind_ok, Rs.bind_exc, Rs.out_ok, Rs.out_exc, Rs.of_some, Option.bind_some, List.getElem?_cons_zero, List.getElem?_cons_succ, List.set_cons_zero, List.set_cons_succ, List.map_cons, List.map_nil, List.cons_append, List.nil_append, List.length_cons, List.length_nil, Nat.reduceAdd, Nat.reduceSub, Nat.reduceLeDiff, Nat.reduceLT, Bool.not_true, Bool.not_false, decide_true, decide_false]
    exact ⟨trivial, rfl⟩)]
  unfold waysOf
  rw [List.map_flatMap]
  simp -implicitDefEqProofs only [List.map_map, ap_sSeq, seqO_nx, seqO_rt, seqO_exc, ap_sIf, ifO_t, ifO_f, ifO_exc, ap_sNx, ap_sSet, ap_sOwn, ap_sRet, ap_sDrop, ap_sAsg, outB_some, bT_nm, bT_tp, bTs_nil, bTs_cons, ap_sRaise, ap_sPar, parO_ok, ap_sFor, ap_sRetV, retO_own, retO_val, ap_sFrz, frzO_own, frzO_val, ap_sApp, ap_sExt, ap_eV, valO_val, ap_eB, borO_val, borO_own, ap_eC, ap_eOp, opO_ok, ap_eUn, ap_eTup, ap_eLst, tupR_ok, lstR_ok, ap_eCB, ap_eCall, callO_ok, callO_exc, ap_gNot, notR_b, ap_gTru, truR_b, truR_list, ap_gAnd, ap_gOr, andO_t, andO_f, orO_t, orO_f, ap_eAnd, ap_eOr, eandO_t, eandO_f, eorO_t, eorO_f, ap_eNot, enotO_b, enotO_list, ap_eIf, eifO_t, eifO_f, ap_eChain, chO_ok, ap_eIsi, isiO_int, isiO_tup, isiO_lst, isiO_bl, isiO_str, isiO_non, isInt_int, isInt_bl, isInt_tup, isInt_lst, isInt_str, isInt_non, isBool_int, isBool_bl, isTup_tup, isTup_lst, isTup_int, isTup_non, isTup_str, isTup_bl, isLst_lst, isLst_tup, f_add, f_sub, f_neg, f_eqI, f_neI, f_eqB, f_neB, f_lt, f_le, f_gt, f_ge, f_is, f_isNot, isNone_int, isNone_tup, isNone_lst, isNone_non, f_len_l, f_len_t, f_len_rd, f_tup_l, f_tup_t, f_max2, f_min2, f_abs, f_sum_l, f_sum_t, f_ix0, f_ix1, f_ix2, f_ix3, f_rev_t, outR_nx, outR_rt, outR_exc, nones0, nonesS, runB_eq, ap_eSl, optI_none, optI_some, optO_int, ap_sWh, ap_iSeq, items_l, items_t, ap_iRange1, ap_iRange2, wipeE_nil, wipeE_cons, evA_nil, evA_cons, RL.cons_ok, RL.cons_exc, RL.bind_ok, RL.bind_exc, RL.out_ok, RL.out_exc, Rs.bind_ok, Rs.bind_exc, Rs.out_ok, Rs.out_exc, Rs.of_some, Option.bind_some, List.getElem?_cons_zero, List.getElem?_cons_succ, List.set_cons_zero, List.set_cons_succ, List.map_cons, List.map_nil, List.cons_append, List.nil_append, List.length_cons, List.length_nil, Nat.reduceAdd, Nat.reduceSub, Nat.reduceLeDiff, Nat.reduceLT, Bool.not_true, Bool.not_false, decide_true, decide_false]
  rfl
theorem ways_bd {w h w' h' : Nat} {z : Int × Int} (hz : z ∈ waysOf w h w' h') : 1 - (w' : Int) ≤ z.1 ∧ z.1 < 1 - (w' : Int) + (w + w' - 1 : Nat) ∧ 1 - (h' : Int) ≤ z.2 ∧ z.2 < 1 - (h' : Int) + (h + h' - 1 : Nat) := by
  unfold waysOf at hz
  obtain ⟨x, hx, hz⟩ := List.mem_flatMap.mp hz
  obtain ⟨y, hy, rfl⟩ := List.mem_map.mp hz
  have := mem_rangeI.mp hx
  have := mem_rangeI.mp hy
  exact ⟨by omega, by omega, by omega, by omega⟩
theorem ways_zero {w h w' h' : Nat} (h1 : 1 ≤ w) (h2 : 1 ≤ h) (h3 : 1 ≤ w') (h4 : 1 ≤ h') : ((0 : Int), (0 : Int)) ∈ waysOf w h w' h' := by
  unfold waysOf
  exact List.mem_flatMap.mpr ⟨0, mem_rangeI.mpr (by omega), List.mem_map.mpr ⟨0, mem_rangeI.mpr (by omega), rfl⟩⟩
theorem cut_self {s : List (List Int)} {h w : Nat} (S : Sh s h w) : cutS' s 0 0 w h = s := by
  unfold cutS'
  rw [List.drop_zero, List.take_of_length_le (by rw [S.len]; exact Nat.le_refl _)]
  conv => rhs; rw [← List.map_id s]
  refine List.map_congr_left fun r hr => ?_
  rw [List.drop_zero, List.take_of_length_le (by rw [S.row r hr]; exact Nat.le_refl _)]
  rfl
theorem steps_self {s : List (List Int)} {h w : Nat} (S : Sh s h w) : unl (steps s s w h w h 0 0) = .tuple [.int 0, .int 1] := by
  have h1 := S.h1; have w1 := S.w1
  have hz := steps_cut S 0 0 w h (by omega) (by omega)
  rw [cut_self S] at hz
  exact unl_zero hz (steps_ne (by omega) (by omega)) (steps_len S.w2 S.h2 w h 0 0)
def bestD (n : Int) : D := .tuple [wayD (0, 0), .tuple [.int 0, .int 1], .int n]
theorem best_go {s : List (List Int)} {h w : Nat} (S : Sh s h w) : ∀ (ws : List (Int × Int)), (∀ z ∈ ws, z ∈ waysOf w h w h) → ∀ (fd : D) (o4 o5 o6 : Option Sl), (fd = .none ∨ fd = bestD (h * w : Nat)) →
    ∃ p4 p5 p6, forGo (.nm 4) lp_best_of_1 (ws.map wayD) [some (.val (shD s)), some (.val (shD s)), some (.val (.int (h * w : Nat))), some (.val fd), o4, o5, o6] = .nx [some (.val (shD s)), some (.val (shD s)), some (.val (.int (h * w : Nat))), some (.val (if ((0 : Int), (0 : Int)) ∈ ws then bestD (h * w : Nat) else fd)), p4, p5, p6]
  | [], _, fd, o4, o5, o6, _ => ⟨o4, o5, o6, by simp -implicitDefEqProofs only [List.map_nil, forGo_nil, List.not_mem_nil, if_false]⟩
  | z :: ws, hw, fd, o4, o5, o6, hfd => by
    have h1 := S.h1; have w1 := S.w1; have h2 := S.h2; have w2 := S.w2
    have hz := ways_bd (hw z (by simp))
    have st := steps_of_eq S S z.1 z.2 (by omega) (by omega)
    have un := unlike_of_eq S S z.1 z.2 (by omega) (by omega)
    have ln := steps_length s s w h w h z.1 z.2
    rw [List.map_cons]
    by_cases c : z = (0, 0)
    · subst c
      have e0 : ((steps s s w h w h 0 0).length : Int) = ((h * w : Nat) : Int) := by
        rw [ln]
        congr 2 <;> omega
      have un' : sem_unlike_of [shD s, shD s, wayD (0, 0)] = .ok (.tuple [.int 0, .int 1]) := by
        rw [← steps_self S]
        exact un
      have st' : sem_steps_of [shD s, shD s, wayD (0, 0)] = .ok (.list ((steps s s w h w h 0 0).map PyData.int)) := st
      have nlt : ¬ ((h * w : Nat) : Int) < ((h * w : Nat) : Int) := by omega
      have body : ∃ p5 p6, lp_best_of_1 [some (.val (shD s)), some (.val (shD s)), some (.val (.int (h * w : Nat))), some (.val fd), some (.val (wayD (0, 0))), o5, o6] = .nx [some (.val (shD s)), some (.val (shD s)), some (.val (.int (h * w : Nat))), some (.val (bestD (h * w : Nat))), some (.val (wayD (0, 0))), p5, p6] := by
        rcases hfd with rfl | rfl
        · refine ⟨some (.val (.int (h * w : Nat))), some (.val (.tuple [.int 0, .int 1])), ?_⟩
          simp -implicitDefEqProofs only [lp_best_of_1, st', un', List.length_map, e0, Int.le_refl, bestD, ap_sSeq, seqO_nx, seqO_rt, seqO_exc, ap_sIf, ifO_t, ifO_f, ifO_exc, ap_sNx, ap_sSet, ap_sOwn, ap_sRet, ap_sDrop, ap_sAsg, outB_some, bT_nm, bT_tp, bTs_nil, bTs_cons, ap_sRaise, ap_sPar, parO_ok, ap_sFor, ap_sRetV, retO_own, retO_val, ap_sFrz, frzO_own, frzO_val, ap_sApp, ap_sExt, ap_eV, valO_val, ap_eB, borO_val, borO_own, ap_eC, ap_eOp, opO_ok, ap_eUn, ap_eTup, ap_eLst, tupR_ok, lstR_ok, ap_eCB, ap_eCall, callO_ok, callO_exc, ap_gNot, notR_b, ap_gTru, truR_b, truR_list, ap_gAnd, ap_gOr, andO_t, andO_f, orO_t, orO_f, ap_eAnd, ap_eOr, eandO_t, eandO_f, eorO_t, eorO_f, ap_eNot, enotO_b, enotO_list, ap_eIf, eifO_t, eifO_f, ap_eChain, chO_ok, ap_eIsi, isiO_int, isiO_tup, isiO_lst, isiO_bl, isiO_str, isiO_non, isInt_int, isInt_bl, isInt_tup, isInt_lst, isInt_str, isInt_non, isBool_int, isBool_bl, isTup_tup, isTup_lst, isTup_int, isTup_non, isTup_str, isTup_bl, isLst_lst, isLst_tup, f_add, f_sub, f_neg, f_eqI, f_neI, f_eqB, f_neB, f_lt, f_le, f_gt, f_ge, f_is, f_isNot, isNone_int, isNone_tup, isNone_lst, isNone_non, f_len_l, f_len_t, f_len_rd, f_tup_l, f_tup_t, f_max2, f_min2, f_abs, f_sum_l, f_sum_t, f_ix0, f_ix1, f_ix2, f_ix3, f_rev_t, outR_nx, outR_rt, outR_exc, nones0, nonesS, runB_eq, ap_eSl, optI_none, optI_some, optO_int, ap_sWh, ap_iSeq, items_l, items_t, ap_iRange1, ap_iRange2, wipeE_nil, wipeE_cons, evA_nil, evA_cons, RL.cons_ok, RL.cons_exc, RL.bind_ok, RL.bind_exc, RL.out_ok, RL.out_exc, Rs.bind_ok, Rs.bind_exc, Rs.out_ok, Rs.out_exc, Rs.of_some, Option.bind_some, List.getElem?_cons_zero, List.getElem?_cons_succ, List.set_cons_zero, List.set_cons_succ, List.map_cons, List.map_nil, List.cons_append, List.nil_append, List.length_cons, List.length_nil, Nat.reduceAdd, Nat.reduceSub, Nat.reduceLeDiff, Nat.reduceLT, Bool.not_true, Bool.not_false, decide_true, decide_false]
        · have l1 : sem_is_less [.tuple [.int 0, .int 1], .tuple [.int 0, .int 1]] = .ok (.bool false) := by
            have m : mulF (.int 0) (.int 1) = some (.int (0 * 1)) := f_mul 0 1 (.inl (by decide))
            simp -implicitDefEqProofs only [sem_is_less, b_is_less, m, Int.lt_irrefl, ap_sSeq, seqO_nx, seqO_rt, seqO_exc, ap_sIf, ifO_t, ifO_f, ifO_exc, ap_sNx, ap_sSet, ap_sOwn, ap_sRet, ap_sDrop, ap_sAsg, outB_some, bT_nm, bT_tp, bTs_nil, bTs_cons, ap_sRaise, ap_sPar, parO_ok, ap_sFor, ap_sRetV, retO_own, retO_val, ap_sFrz, frzO_own, frzO_val, ap_sApp, ap_sExt, ap_eV, valO_val, ap_eB, borO_val, borO_own, ap_eC, ap_eOp, opO_ok, ap_eUn, ap_eTup, ap_eLst, tupR_ok, lstR_ok, ap_eCB, ap_eCall, callO_ok, callO_exc, ap_gNot, notR_b, ap_gTru, truR_b, truR_list, ap_gAnd, ap_gOr, andO_t, andO_f, orO_t, orO_f, ap_eAnd, ap_eOr, eandO_t, eandO_f, eorO_t, eorO_f, ap_eNot, enotO_b, enotO_list, ap_eIf, eifO_t, eifO_f, ap_eChain, chO_ok, ap_eIsi, isiO_int, isiO_tup, isiO_lst, isiO_bl, isiO_str, isiO_non, isInt_int, isInt_bl, isInt_tup, isInt_lst, isInt_str, isInt_non, isBool_int, isBool_bl, isTup_tup, isTup_lst, isTup_int, isTup_non, isTup_str, isTup_bl, isLst_lst, isLst_tup, f_add, f_sub, f_neg, f_eqI, f_neI, f_eqB, f_neB, f_lt, f_le, f_gt, f_ge, f_is, f_isNot, isNone_int, isNone_tup, isNone_lst, isNone_non, f_len_l, f_len_t, f_len_rd, f_tup_l, f_tup_t, f_max2, f_min2, f_abs, f_sum_l, f_sum_t, f_ix0, f_ix1, f_ix2, f_ix3, f_rev_t, outR_nx, outR_rt, outR_exc, nones0, nonesS, runB_eq, ap_eSl, optI_none, optI_some, optO_int, ap_sWh, ap_iSeq, items_l, items_t, ap_iRange1, ap_iRange2, wipeE_nil, wipeE_cons, evA_nil, evA_cons, RL.cons_ok, RL.cons_exc, RL.bind_ok, RL.bind_exc, RL.out_ok, RL.out_exc, Rs.bind_ok, Rs.bind_exc, Rs.out_ok, Rs.out_exc, Rs.of_some, Option.bind_some, List.getElem?_cons_zero, List.getElem?_cons_succ, List.set_cons_zero, List.set_cons_succ, List.map_cons, List.map_nil, List.cons_append, List.nil_append, List.length_cons, List.length_nil, Nat.reduceAdd, Nat.reduceSub, Nat.reduceLeDiff, Nat.reduceLT, Bool.not_true, Bool.not_false, decide_true, decide_false]
          have l2 : eqF (.tuple [.int 0, .int 1]) (.tuple [.int 0, .int 1]) = some (.bool true) := by
            refine f_eq_self (k := 1) (Ly.tuple fun d hd => ?_) (by decide)
            simp -implicitDefEqProofs only [List.mem_cons, List.not_mem_nil, or_false] at hd
            rcases hd with rfl | rfl <;> exact Ly.int 0 _
          refine ⟨some (.val (.int (h * w : Nat))), some (.val (.tuple [.int 0, .int 1])), ?_⟩
          simp -implicitDefEqProofs only [lp_best_of_1, st', un', List.length_map, e0, Int.le_refl, bestD, l1, l2, nlt, ap_sSeq, seqO_nx, seqO_rt, seqO_exc, ap_sIf, ifO_t, ifO_f, ifO_exc, ap_sNx, ap_sSet, ap_sOwn, ap_sRet, ap_sDrop, ap_sAsg, outB_some, bT_nm, bT_tp, bTs_nil, bTs_cons, ap_sRaise, ap_sPar, parO_ok, ap_sFor, ap_sRetV, retO_own, retO_val, ap_sFrz, frzO_own, frzO_val, ap_sApp, ap_sExt, ap_eV, valO_val, ap_eB, borO_val, borO_own, ap_eC, ap_eOp, opO_ok, ap_eUn, ap_eTup, ap_eLst, tupR_ok, lstR_ok, ap_eCB, ap_eCall, callO_ok, callO_exc, ap_gNot, notR_b, ap_gTru, truR_b, truR_list, ap_gAnd, ap_gOr, andO_t, andO_f, orO_t, orO_f, ap_eAnd, ap_eOr, eandO_t, eandO_f, eorO_t, eorO_f, ap_eNot, enotO_b, enotO_list, ap_eIf, eifO_t, eifO_f, ap_eChain, chO_ok, ap_eIsi, isiO_int, isiO_tup, isiO_lst, isiO_bl, isiO_str, isiO_non, isInt_int, isInt_bl, isInt_tup, isInt_lst, isInt_str, isInt_non, isBool_int, isBool_bl, isTup_tup, isTup_lst, isTup_int, isTup_non, isTup_str, isTup_bl, isLst_lst, isLst_tup, f_add, f_sub, f_neg, f_eqI, f_neI, f_eqB, f_neB, f_lt, f_le, f_gt, f_ge, f_is, f_isNot, isNone_int, isNone_tup, isNone_lst, isNone_non, f_len_l, f_len_t, f_len_rd, f_tup_l, f_tup_t, f_max2, f_min2, f_abs, f_sum_l, f_sum_t, f_ix0, f_ix1, f_ix2, f_ix3, f_rev_t, outR_nx, outR_rt, outR_exc, nones0, nonesS, runB_eq, ap_eSl, optI_none, optI_some, optO_int, ap_sWh, ap_iSeq, items_l, items_t, ap_iRange1, ap_iRange2, wipeE_nil, wipeE_cons, evA_nil, evA_cons, RL.cons_ok, RL.cons_exc, RL.bind_ok, RL.bind_exc, RL.out_ok, RL.out_exc, Rs.bind_ok, Rs.bind_exc, Rs.out_ok, Rs.out_exc, Rs.of_some, Option.bind_some, List.getElem?_cons_zero, List.getElem?_cons_succ, List.set_cons_zero, List.set_cons_succ, List.map_cons, List.map_nil, List.cons_append, List.nil_append, List.length_cons, List.length_nil, Nat.reduceAdd, Nat.reduceSub, Nat.reduceLeDiff, Nat.reduceLT, Bool.not_true, Bool.not_false, decide_true, decide_false]
      obtain ⟨p5, p6, eb⟩ := body
      have eb' : lp_best_of_1 ([some (.val (shD s)), some (.val (shD s)), some (.val (.int (h * w : Nat))), some (.val fd), o4, o5, o6].set 4 (some (.val (wayD (0, 0))))) = _ := eb
      rw [forGo_nx eb']
      obtain ⟨q4, q5, q6, e⟩ := best_go S ws (fun z hz => hw z (by simp [hz])) (bestD (h * w : Nat)) (some (.val (wayD (0, 0)))) p5 p6 (.inr rfl)
      refine ⟨q4, q5, q6, ?_⟩
      rw [e]
      simp
    · have hne : ¬ z.1 = 0 ∨ ¬ z.2 = 0 := by
        rcases Classical.em (z.1 = 0) with q | q
        · right
          intro q2
          exact c (Prod.ext q q2)
        · exact .inl q
      have hlt : (steps s s w h w h z.1 z.2).length < h * w := by
        rw [ln]
        rcases hne with q | q
        · have : (min (h : Int) (z.2 + h) - max 0 z.2).toNat * (min (w : Int) (z.1 + w) - max 0 z.1).toNat ≤ h * (w - 1) := Nat.mul_le_mul (by omega) (by omega)
          have e : h * (w - 1) + h = h * w := by
            rw [← Nat.mul_succ]
            congr 1
            omega
          omega
        · have : (min (h : Int) (z.2 + h) - max 0 z.2).toNat * (min (w : Int) (z.1 + w) - max 0 z.1).toNat ≤ (h - 1) * w := Nat.mul_le_mul (by omega) (by omega)
          have e : (h - 1) * w + w = h * w := by
            rw [← Nat.succ_mul]
            congr 1
            omega
          omega
      have st' : sem_steps_of [shD s, shD s, wayD z] = .ok (.list ((steps s s w h w h z.1 z.2).map PyData.int)) := st
      have nle : ¬ ((h * w : Nat) : Int) ≤ ((steps s s w h w h z.1 z.2).length : Int) := by omega
      have eb' : lp_best_of_1 ([some (.val (shD s)), some (.val (shD s)), some (.val (.int (h * w : Nat))), some (.val fd), o4, o5, o6].set 4 (some (.val (wayD z)))) = .nx [some (.val (shD s)), some (.val (shD s)), some (.val (.int (h * w : Nat))), some (.val fd), some (.val (wayD z)), some (.val (.int (steps s s w h w h z.1 z.2).length)), o6] := by
        simp -implicitDefEqProofs only [lp_best_of_1, st', List.length_map, nle, ap_sSeq, seqO_nx, seqO_rt, seqO_exc, ap_sIf, ifO_t, ifO_f, ifO_exc, ap_sNx, ap_sSet, ap_sOwn, ap_sRet, ap_sDrop, ap_sAsg, outB_some, bT_nm, bT_tp, bTs_nil, bTs_cons, ap_sRaise, ap_sPar, parO_ok, ap_sFor, ap_sRetV, retO_own, retO_val, ap_sFrz, frzO_own, frzO_val, ap_sApp, ap_sExt, ap_eV, valO_val, ap_eB, borO_val, borO_own, ap_eC, ap_eOp, opO_ok, ap_eUn, ap_eTup, ap_eLst, tupR_ok, lstR_ok, ap_eCB, ap_eCall, callO_ok, callO_exc, ap_gNot, notR_b, ap_gTru, truR_b, truR_list, ap_gAnd, ap_gOr, andO_t, andO_f, orO_t, orO_f, ap_eAnd, ap_eOr, eandO_t, eandO_f, eorO_t, eorO_f, ap_eNot, enotO_b, enotO_list, ap_eIf, eifO_t, eifO_f, ap_eChain, chO_ok, ap_eIsi, isiO_int, isiO_tup, isiO_lst, isiO_bl, isiO_str, isiO_non, isInt_int, isInt_bl, isInt_tup, isInt_lst, isInt_str, isInt_non, isBool_int, isBool_bl, isTup_tup, isTup_lst, isTup_int, isTup_non, isTup_str, isTup_bl, isLst_lst, isLst_tup, f_add, f_sub, f_neg, f_eqI, f_neI, f_eqB, f_neB, f_lt, f_le, f_gt, f_ge, f_is, f_isNot, isNone_int, isNone_tup, isNone_lst, isNone_non, f_len_l, f_len_t, f_len_rd, f_tup_l, f_tup_t, f_max2, f_min2, f_abs, f_sum_l, f_sum_t, f_ix0, f_ix1, f_ix2, f_ix3, f_rev_t, outR_nx, outR_rt, outR_exc, nones0, nonesS, runB_eq, ap_eSl, optI_none, optI_some, optO_int, ap_sWh, ap_iSeq, items_l, items_t, ap_iRange1, ap_iRange2, wipeE_nil, wipeE_cons, evA_nil, evA_cons, RL.cons_ok, RL.cons_exc, RL.bind_ok, RL.bind_exc, RL.out_ok, RL.out_exc, Rs.bind_ok, Rs.bind_exc, Rs.out_ok, Rs.out_exc, Rs.of_some, Option.bind_some, List.getElem?_cons_zero, List.getElem?_cons_succ, List.set_cons_zero, List.set_cons_succ, List.map_cons, List.map_nil, List.cons_append, List.nil_append, List.length_cons, List.length_nil, Nat.reduceAdd, Nat.reduceSub, Nat.reduceLeDiff, Nat.reduceLT, Bool.not_true, Bool.not_false, decide_true, decide_false]
      rw [forGo_nx eb']
      obtain ⟨q4, q5, q6, e⟩ := best_go S ws (fun z hz => hw z (by simp [hz])) fd _ _ _ hfd
      refine ⟨q4, q5, q6, ?_⟩
      rw [e]
      have c' : ¬ ((0 : Int), (0 : Int)) = z := fun q => c q.symm
      simp -implicitDefEqProofs only [List.mem_cons, c', false_or]
theorem best_way_self {s : List (List Int)} {h w : Nat} (S : Sh s h w) : sem_best_way [shD s, shD s, .int (h * w : Nat)] = .ok (.tuple [.tuple [.int 0, .int 0], .tuple [.int 0, .int 1]]) := by
  have h1 := S.h1; have w1 := S.w1; have h2 := S.h2; have w2 := S.w2
  have m1 : 1 ≤ h * w := Nat.mul_le_mul h1 w1
  have m2 : h * w ≤ 12 * 12 := Nat.mul_le_mul h2 w2
  have c : 1 ≤ ((h * w : Nat) : Int) ∧ ((h * w : Nat) : Int) ≤ 144 := by omega
  have lc : sem_look_cells [.int (h * w : Nat)] = .ok .none := by
    simp -implicitDefEqProofs only [sem_look_cells, b_look_cells, is_within_eq, c, and_self, ap_sSeq, seqO_nx, seqO_rt, seqO_exc, ap_sIf, ifO_t, ifO_f, ifO_exc, ap_sNx, ap_sSet, ap_sOwn, ap_sRet, ap_sDrop, ap_sAsg, outB_some, bT_nm, bT_tp, bTs_nil, bTs_cons, ap_sRaise, ap_sPar, parO_ok, ap_sFor, ap_sRetV, retO_own, retO_val, ap_sFrz, frzO_own, frzO_val, ap_sApp, ap_sExt, ap_eV, valO_val, ap_eB, borO_val, borO_own, ap_eC, ap_eOp, opO_ok, ap_eUn, ap_eTup, ap_eLst, tupR_ok, lstR_ok, ap_eCB, ap_eCall, callO_ok, callO_exc, ap_gNot, notR_b, ap_gTru, truR_b, truR_list, ap_gAnd, ap_gOr, andO_t, andO_f, orO_t, orO_f, ap_eAnd, ap_eOr, eandO_t, eandO_f, eorO_t, eorO_f, ap_eNot, enotO_b, enotO_list, ap_eIf, eifO_t, eifO_f, ap_eChain, chO_ok, ap_eIsi, isiO_int, isiO_tup, isiO_lst, isiO_bl, isiO_str, isiO_non, isInt_int, isInt_bl, isInt_tup, isInt_lst, isInt_str, isInt_non, isBool_int, isBool_bl, isTup_tup, isTup_lst, isTup_int, isTup_non, isTup_str, isTup_bl, isLst_lst, isLst_tup, f_add, f_sub, f_neg, f_eqI, f_neI, f_eqB, f_neB, f_lt, f_le, f_gt, f_ge, f_is, f_isNot, isNone_int, isNone_tup, isNone_lst, isNone_non, f_len_l, f_len_t, f_len_rd, f_tup_l, f_tup_t, f_max2, f_min2, f_abs, f_sum_l, f_sum_t, f_ix0, f_ix1, f_ix2, f_ix3, f_rev_t, outR_nx, outR_rt, outR_exc, nones0, nonesS, runB_eq, ap_eSl, optI_none, optI_some, optO_int, ap_sWh, ap_iSeq, items_l, items_t, ap_iRange1, ap_iRange2, wipeE_nil, wipeE_cons, evA_nil, evA_cons, RL.cons_ok, RL.cons_exc, RL.bind_ok, RL.bind_exc, RL.out_ok, RL.out_exc, Rs.bind_ok, Rs.bind_exc, Rs.out_ok, Rs.out_exc, Rs.of_some, Option.bind_some, List.getElem?_cons_zero, List.getElem?_cons_succ, List.set_cons_zero, List.set_cons_succ, List.map_cons, List.map_nil, List.cons_append, List.nil_append, List.length_cons, List.length_nil, Nat.reduceAdd, Nat.reduceSub, Nat.reduceLeDiff, Nat.reduceLT, Bool.not_true, Bool.not_false, decide_true, decide_false]
  have bo : sem_best_of [shD s, shD s, .int (h * w : Nat)] = .ok (.tuple [.tuple [.int 0, .int 0], .tuple [.int 0, .int 1]]) := by
    obtain ⟨q4, q5, q6, e⟩ := best_go S (waysOf w h w h) (fun _ q => q) .none none none none (.inl rfl)
    rw [if_pos (ways_zero w1 h1 w1 h1)] at e
    have sl : slF (bestD (h * w : Nat)) none (some 2) = some (.tuple [.tuple [.int 0, .int 0], .tuple [.int 0, .int 1]]) := by
      simp [slF, bestD, cutL, HT.sIx, wayD]
    have isn : isNone (bestD (h * w : Nat)) = false := rfl
    simp -implicitDefEqProofs only [sem_best_of, b_best_of, all_ways_eq S S, e, isn, sl, ap_sSeq, seqO_nx, seqO_rt, seqO_exc, ap_sIf, ifO_t, ifO_f, ifO_exc, ap_sNx, ap_sSet, ap_sOwn, ap_sRet, ap_sDrop, ap_sAsg, outB_some, bT_nm, bT_tp, bTs_nil, bTs_cons, ap_sRaise, ap_sPar, parO_ok, ap_sFor, ap_sRetV, retO_own, retO_val, ap_sFrz, frzO_own, frzO_val, ap_sApp, ap_sExt, ap_eV, valO_val, ap_eB, borO_val, borO_own, ap_eC, ap_eOp, opO_ok, ap_eUn, ap_eTup, ap_eLst, tupR_ok, lstR_ok, ap_eCB, ap_eCall, callO_ok, callO_exc, ap_gNot, notR_b, ap_gTru, truR_b, truR_list, ap_gAnd, ap_gOr, andO_t, andO_f, orO_t, orO_f, ap_eAnd, ap_eOr, eandO_t, eandO_f, eorO_t, eorO_f, ap_eNot, enotO_b, enotO_list, ap_eIf, eifO_t, eifO_f, ap_eChain, chO_ok, ap_eIsi, isiO_int, isiO_tup, isiO_lst, isiO_bl, isiO_str, isiO_non, isInt_int, isInt_bl, isInt_tup, isInt_lst, isInt_str, isInt_non, isBool_int, isBool_bl, isTup_tup, isTup_lst, isTup_int, isTup_non, isTup_str, isTup_bl, isLst_lst, isLst_tup, f_add, f_sub, f_neg, f_eqI, f_neI, f_eqB, f_neB, f_lt, f_le, f_gt, f_ge, f_is, f_isNot, isNone_int, isNone_tup, isNone_lst, isNone_non, f_len_l, f_len_t, f_len_rd, f_tup_l, f_tup_t, f_max2, f_min2, f_abs, f_sum_l, f_sum_t, f_ix0, f_ix1, f_ix2, f_ix3, f_rev_t, outR_nx, outR_rt, outR_exc, nones0, nonesS, runB_eq, ap_eSl, optI_none, optI_some, optO_int, ap_sWh, ap_iSeq, items_l, items_t, ap_iRange1, ap_iRange2, wipeE_nil, wipeE_cons, evA_nil, evA_cons, RL.cons_ok, RL.cons_exc, RL.bind_ok, RL.bind_exc, RL.out_ok, RL.out_exc, Rs.bind_ok, Rs.bind_exc, Rs.out_ok, Rs.out_exc, Rs.of_some, Option.bind_some, List.getElem?_cons_zero, List.getElem?_cons_succ, List.set_cons_zero, List.set_cons_succ, List.map_cons, List.map_nil, List.cons_append, List.nil_append, List.length_cons, List.length_nil, Nat.reduceAdd, Nat.reduceSub, Nat.reduceLeDiff, Nat.reduceLT, Bool.not_true, Bool.not_false, decide_true, decide_false]
  simp -implicitDefEqProofs only [sem_best_way, b_best_way, look_eq S, lc, bo, ap_sSeq, seqO_nx, seqO_rt, seqO_exc, ap_sIf, ifO_t, ifO_f, ifO_exc, ap_sNx, ap_sSet, ap_sOwn, ap_sRet, ap_sDrop, ap_sAsg, outB_some, bT_nm, bT_tp, bTs_nil, bTs_cons, ap_sRaise, ap_sPar, parO_ok, ap_sFor, ap_sRetV, retO_own, retO_val, ap_sFrz, frzO_own, frzO_val, ap_sApp, ap_sExt, ap_eV, valO_val, ap_eB, borO_val, borO_own, ap_eC, ap_eOp, opO_ok, ap_eUn, ap_eTup, ap_eLst, tupR_ok, lstR_ok, ap_eCB, ap_eCall, callO_ok, callO_exc, ap_gNot, notR_b, ap_gTru, truR_b, truR_list, ap_gAnd, ap_gOr, andO_t, andO_f, orO_t, orO_f, ap_eAnd, ap_eOr, eandO_t, eandO_f, eorO_t, eorO_f, ap_eNot, enotO_b, enotO_list, ap_eIf, eifO_t, eifO_f, ap_eChain, chO_ok, ap_eIsi, isiO_int, isiO_tup, isiO_lst, isiO_bl, isiO_str, isiO_non, isInt_int, isInt_bl, isInt_tup, isInt_lst, isInt_str, isInt_non, isBool_int, isBool_bl, isTup_tup, isTup_lst, isTup_int, isTup_non, isTup_str, isTup_bl, isLst_lst, isLst_tup, f_add, f_sub, f_neg, f_eqI, f_neI, f_eqB, f_neB, f_lt, f_le, f_gt, f_ge, f_is, f_isNot, isNone_int, isNone_tup, isNone_lst, isNone_non, f_len_l, f_len_t, f_len_rd, f_tup_l, f_tup_t, f_max2, f_min2, f_abs, f_sum_l, f_sum_t, f_ix0, f_ix1, f_ix2, f_ix3, f_rev_t, outR_nx, outR_rt, outR_exc, nones0, nonesS, runB_eq, ap_eSl, optI_none, optI_some, optO_int, ap_sWh, ap_iSeq, items_l, items_t, ap_iRange1, ap_iRange2, wipeE_nil, wipeE_cons, evA_nil, evA_cons, RL.cons_ok, RL.cons_exc, RL.bind_ok, RL.bind_exc, RL.out_ok, RL.out_exc, Rs.bind_ok, Rs.bind_exc, Rs.out_ok, Rs.out_exc, Rs.of_some, Option.bind_some, List.getElem?_cons_zero, List.getElem?_cons_succ, List.set_cons_zero, List.set_cons_succ, List.map_cons, List.map_nil, List.cons_append, List.nil_append, List.length_cons, List.length_nil, Nat.reduceAdd, Nat.reduceSub, Nat.reduceLeDiff, Nat.reduceLT, Bool.not_true, Bool.not_false, decide_true, decide_false]
end VVlaw

set_option Elab.async false
set_option linter.all false
set_option maxRecDepth 100000
set_option maxHeartbeats 4000000
/-! PLt: try and except, by need; least and greatest of a list. -/
namespace VVlaw
open PySem PySem.Spec L2 VV
open PyProof.Rows hiding St
def tryO (i : Nat) (sub : Str → Option Bool) (fh : Str → SF) : Out → Out
  | .exc c fs ρ' => (match sub c with
    | some true => (match fs with
      | [] => (match ρ'[i]? with
        | some _ => Out.clr i (fh c (ρ'.set i none))
        | none => .bad)
      | _ => .bad)
    | some false => .exc c fs ρ'
    | none => .bad)
  | o => o
theorem ap_sTryAs (i : Nat) (sub : Str → Option Bool) (fb : SF) (fh : Str → SF) (ρ : En) : sTryAs i sub fb fh ρ = tryO i sub fh (fb ρ) := by
  unfold sTryAs tryO
  cases fb ρ <;> rfl
theorem tryO_hit (i : Nat) (sub : Str → Option Bool) (fh : Str → SF) (c : Str) (ρ : En) (o : Option Sl) (h : sub c = some true) (h2 : ρ[i]? = some o) : tryO i sub fh (.exc c [] ρ) = Out.clr i (fh c (ρ.set i none)) := by
  simp -implicitDefEqProofs only [tryO, h, h2]
theorem tryO_rt (i : Nat) (sub : Str → Option Bool) (fh : Str → SF) (d : D) : tryO i sub fh (.rt d) = .rt d := rfl
theorem tryO_nx (i : Nat) (sub : Str → Option Bool) (fh : Str → SF) (ρ : En) : tryO i sub fh (.nx ρ) = .nx ρ := rfl
theorem clr_rt (i : Nat) (d : D) : Out.clr i (.rt d) = .rt d := rfl
theorem clr_nx (i : Nat) (ρ : En) : Out.clr i (.nx ρ) = .nx (ρ.set i none) := rfl
/-- the same by need -/
def hitO (i : Nat) (fh : Str → SF) (c : Str) (ρ : En) : Option Bool → Option (Option Sl) → Out
  | some true, some _ => Out.clr i (fh c (ρ.set i none))
  | some true, none => .bad
  | some false, _ => .exc c [] ρ
  | none, _ => .bad
theorem tryO_exc (i : Nat) (sub : Str → Option Bool) (fh : Str → SF) (c : Str) (ρ : En) : tryO i sub fh (.exc c [] ρ) = hitO i fh c ρ (sub c) ρ[i]? := by
  simp -implicitDefEqProofs only [tryO, hitO]
  rcases sub c with _ | _ | _ <;> rcases ρ[i]? with _ | _ <;> rfl
theorem hitO_t (i : Nat) (fh : Str → SF) (c : Str) (ρ : En) (o : Option Sl) : hitO i fh c ρ (some true) (some o) = Out.clr i (fh c (ρ.set i none)) := rfl
theorem hitO_f (i : Nat) (fh : Str → SF) (c : Str) (ρ : En) (o : Option (Option Sl)) : hitO i fh c ρ (some false) o = .exc c [] ρ := rfl
def try1O (sub : Str → Option Bool) (fh : SF) : Out → Out
  | .exc c fs ρ' => (match sub c with
    | some true => Out.suf (fh ρ')
    | some false => .exc c fs ρ'
    | none => .bad)
  | o => o
theorem ap_sTry1 (sub : Str → Option Bool) (fb fh : SF) (ρ : En) : sTry1 sub fb fh ρ = try1O sub fh (fb ρ) := by
  unfold sTry1 try1O
  cases fb ρ <;> rfl
theorem try1O_hit (sub : Str → Option Bool) (fh : SF) (c : Str) (fs : List (Str × D)) (ρ : En) (h : sub c = some true) : try1O sub fh (.exc c fs ρ) = Out.suf (fh ρ) := by
  simp -implicitDefEqProofs only [try1O, h]
def hit1O (fh : SF) (c : Str) (fs : List (Str × D)) (ρ : En) : Option Bool → Out
  | some true => Out.suf (fh ρ)
  | some false => .exc c fs ρ
  | none => .bad
theorem try1O_exc (sub : Str → Option Bool) (fh : SF) (c : Str) (fs : List (Str × D)) (ρ : En) : try1O sub fh (.exc c fs ρ) = hit1O fh c fs ρ (sub c) := by
  simp -implicitDefEqProofs only [try1O, hit1O]
theorem hit1O_t (fh : SF) (c : Str) (fs : List (Str × D)) (ρ : En) : hit1O fh c fs ρ (some true) = Out.suf (fh ρ) := rfl
theorem hit1O_f (fh : SF) (c : Str) (fs : List (Str × D)) (ρ : En) : hit1O fh c fs ρ (some false) = .exc c fs ρ := rfl
theorem try1O_rt (sub : Str → Option Bool) (fh : SF) (d : D) : try1O sub fh (.rt d) = .rt d := rfl
theorem try1O_nx (sub : Str → Option Bool) (fh : SF) (ρ : En) : try1O sub fh (.nx ρ) = .nx ρ := rfl
theorem suf_rt (d : D) : Out.suf (.rt d) = .rt d := rfl
theorem suf_nx (ρ : En) : Out.suf (.nx ρ) = .nx ρ := rfl
/-- the least of a list -/
theorem min_of {L : List Int} {m : Int} (hm : m ∈ L) (hl : ∀ y ∈ L, m ≤ y) : best1F min [.list (L.map PyData.int)] = some (.int m) := by
  cases L with
  | nil => cases hm
  | cons x L =>
    rw [f_best_l]
    obtain ⟨h1, h2⟩ := foldl_min L x
    have := hl _ h1
    have := h2 _ hm
    congr 2
    omega
theorem max_of {L : List Int} {m : Int} (hm : m ∈ L) (hl : ∀ y ∈ L, y ≤ m) : best1F max [.list (L.map PyData.int)] = some (.int m) := by
  cases L with
  | nil => cases hm
  | cons x L =>
    rw [f_best_l]
    obtain ⟨h1, h2⟩ := foldl_max L x
    have := hl _ h1
    have := h2 _ hm
    congr 2
    omega
end VVlaw

set_option Elab.async false
set_option linter.all false
set_option maxRecDepth 100000
set_option maxHeartbeats 4000000
/-! PLn: the best of all ways, as a fold; the laws' own search. -/
namespace VVlaw
open PySem PySem.Spec L2 VV
open PyProof.Rows hiding St
/-- less, of fractions as they lie -/
def lessD : D → D → Bool
  | .tuple [.int a, .int b], .tuple [.int c, .int d] => decide (a * d < c * b)
  | _, _ => false
/-- a fraction with a small bottom -/
def UF (d : D) : Prop := ∃ n m : Int, d = .tuple [.int n, .int m] ∧ 0 < m ∧ m < 1000000
theorem unl_uf {L : List Int} (h : L ≠ []) (hl : L.length ≤ 144) : UF (unl L) := by
  rw [unl_fr h]
  have l0 : 0 < L.length := List.length_pos_iff.mpr h
  have p0 : 0 < (L.length : Int) * L.length := Int.mul_pos (by omega) (by omega)
  refine ⟨_, _, rfl, fr_pos p0, ?_⟩
  have e := (fr_mul (a := (L.length : Int) * (L.map fun x => x * x).sum - L.sum * L.sum) (b := (L.length : Int) * L.length)).2
  have g := gcd_pos (a := (L.length : Int) * (L.map fun x => x * x).sum - L.sum * L.sum) p0
  have q := fr_pos (a := (L.length : Int) * (L.map fun x => x * x).sum - L.sum * L.sum) p0
  have m2 : (L.length : Int) * L.length ≤ 144 * 144 := Int.mul_le_mul (by omega) (by omega) (by omega) (by omega)
  have := Int.mul_le_mul_of_nonneg_left (show (1 : Int) ≤ _ from g) (Int.le_of_lt q)
  omega
theorem is_less_uf {x y : D} (hx : UF x) (hy : UF y) : sem_is_less [x, y] = .ok (.bool (lessD x y)) := by
  obtain ⟨a, b, rfl, b0, b1⟩ := hx
  obtain ⟨c, d, rfl, d0, d1⟩ := hy
  have e1 : mulF (.int a) (.int d) = some (.int (a * d)) := f_mul _ _ (.inr (by omega))
  have e2 : mulF (.int c) (.int b) = some (.int (c * b)) := f_mul _ _ (.inr (by omega))
  simp -implicitDefEqProofs only [sem_is_less, b_is_less, e1, e2, ap_sSeq, seqO_nx, seqO_rt, seqO_exc, ap_sIf, ifO_t, ifO_f, ifO_exc, ap_sNx, ap_sSet, ap_sOwn, ap_sRet, ap_sDrop, ap_sAsg, outB_some, bT_nm, bT_tp, bTs_nil, bTs_cons, ap_sRaise, ap_sPar, parO_ok, ap_sFor, ap_sRetV, retO_own, retO_val, ap_sFrz, frzO_own, frzO_val, ap_sApp, ap_sExt, ap_eV, valO_val, ap_eB, borO_val, borO_own, ap_eC, ap_eOp, opO_ok, ap_eUn, ap_eTup, ap_eLst, tupR_ok, lstR_ok, ap_eCB, ap_eCall, callO_ok, callO_exc, ap_gNot, notR_b, ap_gTru, truR_b, truR_list, ap_gAnd, ap_gOr, andO_t, andO_f, orO_t, orO_f, ap_eAnd, ap_eOr, eandO_t, eandO_f, eorO_t, eorO_f, ap_eNot, enotO_b, enotO_list, ap_eIf, eifO_t, eifO_f, ap_eChain, chO_ok, ap_eIsi, isiO_int, isiO_tup, isiO_lst, isiO_bl, isiO_str, isiO_non, isInt_int, isInt_bl, isInt_tup, isInt_lst, isInt_str, isInt_non, isBool_int, isBool_bl, isTup_tup, isTup_lst, isTup_int, isTup_non, isTup_str, isTup_bl, isLst_lst, isLst_tup, f_add, f_sub, f_neg, f_eqI, f_neI, f_eqB, f_neB, f_lt, f_le, f_gt, f_ge, f_is, f_isNot, isNone_int, isNone_tup, isNone_lst, isNone_non, f_len_l, f_len_t, f_len_rd, f_tup_l, f_tup_t, f_max2, f_min2, f_abs, f_sum_l, f_sum_t, f_ix0, f_ix1, f_ix2, f_ix3, f_rev_t, outR_nx, outR_rt, outR_exc, nones0, nonesS, runB_eq, ap_eSl, optI_none, optI_some, optO_int, ap_sWh, ap_iSeq, items_l, items_t, ap_iRange1, ap_iRange2, wipeE_nil, wipeE_cons, evA_nil, evA_cons, RL.cons_ok, RL.cons_exc, RL.bind_ok, RL.bind_exc, RL.out_ok, RL.out_exc, Rs.bind_ok, Rs.bind_exc, Rs.out_ok, Rs.out_exc, Rs.of_some, Option.bind_some, List.getElem?_cons_zero, List.getElem?_cons_succ, List.set_cons_zero, List.set_cons_succ, List.map_cons, List.map_nil, List.cons_append, List.nil_append, List.length_cons, List.length_nil, Nat.reduceAdd, Nat.reduceSub, Nat.reduceLeDiff, Nat.reduceLT, Bool.not_true, Bool.not_false, decide_true, decide_false]
  rfl
theorem below_uf {x y : D} (hx : UF x) (hy : UF y) : sem__law_below [x, y] = .ok (.bool (lessD x y)) := by
  obtain ⟨a, b, rfl, b0, b1⟩ := hx
  obtain ⟨c, d, rfl, d0, d1⟩ := hy
  have e1 : mulF (.int a) (.int d) = some (.int (a * d)) := f_mul _ _ (.inr (by omega))
  have e2 : mulF (.int c) (.int b) = some (.int (c * b)) := f_mul _ _ (.inr (by omega))
  simp -implicitDefEqProofs only [sem__law_below, b__law_below, e1, e2, ap_sSeq, seqO_nx, seqO_rt, seqO_exc, ap_sIf, ifO_t, ifO_f, ifO_exc, ap_sNx, ap_sSet, ap_sOwn, ap_sRet, ap_sDrop, ap_sAsg, outB_some, bT_nm, bT_tp, bTs_nil, bTs_cons, ap_sRaise, ap_sPar, parO_ok, ap_sFor, ap_sRetV, retO_own, retO_val, ap_sFrz, frzO_own, frzO_val, ap_sApp, ap_sExt, ap_eV, valO_val, ap_eB, borO_val, borO_own, ap_eC, ap_eOp, opO_ok, ap_eUn, ap_eTup, ap_eLst, tupR_ok, lstR_ok, ap_eCB, ap_eCall, callO_ok, callO_exc, ap_gNot, notR_b, ap_gTru, truR_b, truR_list, ap_gAnd, ap_gOr, andO_t, andO_f, orO_t, orO_f, ap_eAnd, ap_eOr, eandO_t, eandO_f, eorO_t, eorO_f, ap_eNot, enotO_b, enotO_list, ap_eIf, eifO_t, eifO_f, ap_eChain, chO_ok, ap_eIsi, isiO_int, isiO_tup, isiO_lst, isiO_bl, isiO_str, isiO_non, isInt_int, isInt_bl, isInt_tup, isInt_lst, isInt_str, isInt_non, isBool_int, isBool_bl, isTup_tup, isTup_lst, isTup_int, isTup_non, isTup_str, isTup_bl, isLst_lst, isLst_tup, f_add, f_sub, f_neg, f_eqI, f_neI, f_eqB, f_neB, f_lt, f_le, f_gt, f_ge, f_is, f_isNot, isNone_int, isNone_tup, isNone_lst, isNone_non, f_len_l, f_len_t, f_len_rd, f_tup_l, f_tup_t, f_max2, f_min2, f_abs, f_sum_l, f_sum_t, f_ix0, f_ix1, f_ix2, f_ix3, f_rev_t, outR_nx, outR_rt, outR_exc, nones0, nonesS, runB_eq, ap_eSl, optI_none, optI_some, optO_int, ap_sWh, ap_iSeq, items_l, items_t, ap_iRange1, ap_iRange2, wipeE_nil, wipeE_cons, evA_nil, evA_cons, RL.cons_ok, RL.cons_exc, RL.bind_ok, RL.bind_exc, RL.out_ok, RL.out_exc, Rs.bind_ok, Rs.bind_exc, Rs.out_ok, Rs.out_exc, Rs.of_some, Option.bind_some, List.getElem?_cons_zero, List.getElem?_cons_succ, List.set_cons_zero, List.set_cons_succ, List.map_cons, List.map_nil, List.cons_append, List.nil_append, List.length_cons, List.length_nil, Nat.reduceAdd, Nat.reduceSub, Nat.reduceLeDiff, Nat.reduceLT, Bool.not_true, Bool.not_false, decide_true, decide_false]
  rfl
section
variable (a b : List (List Int)) (h w h' w' : Nat) (cells : Int)
abbrev stp (z : Int × Int) : List Int := steps a b w h w' h' z.1 z.2
def better (z u : Int × Int) : Bool := lessD (unl (stp a b h w h' w' z)) (unl (stp a b h w h' w' u)) || (PyData.eqv (unl (stp a b h w h' w' z)) (unl (stp a b h w h' w' u)) && decide (((stp a b h w h' w' u).length : Int) < (stp a b h w h' w' z).length))
def enough (z : Int × Int) : Bool := decide (cells ≤ ((stp a b h w h' w' z).length : Int))
def pick1 (s : Option (Int × Int)) (z : Int × Int) : Option (Int × Int) := match s with
  | none => some z
  | some u => if better a b h w h' w' z u then some z else some u
def pick (s : Option (Int × Int)) (z : Int × Int) : Option (Int × Int) := if enough a b h w h' w' cells z = true then pick1 a b h w h' w' s z else s
def encS : Option (Int × Int) → D
  | none => .none
  | some z => .tuple [wayD z, unl (stp a b h w h' w' z), .int (stp a b h w h' w' z).length]
def encR : Option (Int × Int) → D
  | none => .none
  | some z => .tuple [wayD z, unl (stp a b h w h' w' z)]
end
section
variable {a b : List (List Int)} {h w h' w' : Nat} {cells : Int}
theorem stp_uf (A : Sh a h w) (hc : 1 ≤ cells) {z : Int × Int} (hz : enough a b h w h' w' cells z = true) : UF (unl (stp a b h w h' w' z)) := by
  have h1 := of_decide_eq_true hz
  have hl := steps_len (a := a) (b := b) A.w2 A.h2 w' h' z.1 z.2
  exact unl_uf (fun e => by rw [e] at h1; simp at h1; omega) hl
theorem eq_unl (z u : Int × Int) : eqF (unl (stp a b h w h' w' z)) (unl (stp a b h w h' w' u)) = some (.bool (PyData.eqv (unl (stp a b h w h' w' z)) (unl (stp a b h w h' w' u)))) := f_eq (unl_ly _) (unl_ly _) (by decide)
theorem best_of_eq (A : Sh a h w) (B : Sh b h' w') (hc : 1 ≤ cells) : sem_best_of [shD a, shD b, .int cells] = .ok (encR a b h w h' w' ((waysOf w h w' h').foldl (pick a b h w h' w' cells) none)) := by
  have w2 := A.w2; have h2 := A.h2; have w2' := B.w2; have h2' := B.h2; have w1 := A.w1; have h1 := A.h1; have w1' := B.w1; have h1' := B.h1
  have go := forGo_fold (t := .nm 4) (f := lp_best_of_1) wayD
    (fun s : Option (Int × Int) × Option Sl × Option Sl × Option Sl => [some (.val (shD a)), some (.val (shD b)), some (.val (.int cells)), some (.val (encS a b h w h' w' s.1)), s.2.1, s.2.2.1, s.2.2.2])
    (fun s z => (pick a b h w h' w' cells s.1 z, some (.val (wayD z)), some (.val (.int (stp a b h w h' w' z).length)), if enough a b h w h' w' cells z = true then some (.val (unl (stp a b h w h' w' z))) else s.2.2.2))
    (fun s rest => (∀ z ∈ rest, z ∈ waysOf w h w' h') ∧ ∀ u, s.1 = some u → enough a b h w h' w' cells u = true) (by
      rintro ⟨s, o4, o5, o6⟩ z rest ⟨hr, hs⟩
      dsimp only at hs ⊢
      have hz := ways_bd (hr z (by simp))
      have bp : -12 ≤ z.1 ∧ z.1 ≤ 12 := by omega
      have bq : -12 ≤ z.2 ∧ z.2 ≤ 12 := by omega
      have e1 := steps_of_eq A B z.1 z.2 bp bq
      have e2 := unlike_of_eq A B z.1 z.2 bp bq
      have ew : (PyData.tuple [.int z.1, .int z.2]) = wayD z := rfl
      rw [ew] at e1 e2
      refine ⟨_, bT_nm .., ?_, fun y hy => hr y (by simp [hy]), ?_⟩
      · by_cases c : enough a b h w h' w' cells z = true
        · have c' : cells ≤ ((steps a b w h w' h' z.1 z.2).length : Int) := of_decide_eq_true c
          cases s with
          | none =>
            simp -implicitDefEqProofs only [lp_best_of_1, e1, e2, List.length_map, c', encS, pick, pick1, c, if_true, ap_sSeq, seqO_nx, seqO_rt, seqO_exc, ap_sIf, ifO_t, ifO_f, ifO_exc, ap_sNx, ap_sSet, ap_sOwn, ap_sRet, ap_sDrop, ap_sAsg, outB_some, bT_nm, bT_tp, bTs_nil, bTs_cons, ap_sRaise, ap_sPar, parO_ok, ap_sFor, ap_sRetV, retO_own, retO_val, ap_sFrz, frzO_own, frzO_val, ap_sApp, ap_sExt, ap_eV, valO_val, ap_eB, borO_val, borO_own, ap_eC, ap_eOp, opO_ok, ap_eUn, ap_eTup, ap_eLst, tupR_ok, lstR_ok, ap_eCB, ap_eCall, callO_ok, callO_exc, ap_gNot, notR_b, ap_gTru, truR_b, truR_list, ap_gAnd, ap_gOr, andO_t, andO_f, orO_t, orO_f, ap_eAnd, ap_eOr, eandO_t, eandO_f, eorO_t, eorO_f, ap_eNot, enotO_b, enotO_list, ap_eIf, eifO_t, eifO_f, ap_eChain, chO_ok, ap_eIsi, isiO_int, isiO_tup, isiO_lst, isiO_bl, isiO_str, isiO_non, isInt_int, isInt_bl, isInt_tup, isInt_lst, isInt_str, isInt_non, isBool_int, isBool_bl, isTup_tup, isTup_lst, isTup_int, isTup_non, isTup_str, isTup_bl, isLst_lst, isLst_tup, f_add, f_sub, f_neg, f_eqI, f_neI, f_eqB, f_neB, f_lt, f_le, f_gt, f_ge, f_is, f_isNot, isNone_int, isNone_tup, isNone_lst, isNone_non, f_len_l, f_len_t, f_len_rd, f_tup_l, f_tup_t, f_max2, f_min2, f_abs, f_sum_l, f_sum_t, f_ix0, f_ix1, f_ix2, f_ix3, f_rev_t, outR_nx, outR_rt, outR_exc, nones0, nonesS, runB_eq, ap_eSl, optI_none, optI_some, optO_int, ap_sWh, ap_iSeq, items_l, items_t, ap_iRange1, ap_iRange2, wipeE_nil, wipeE_cons, evA_nil, evA_cons, RL.cons_ok, RL.cons_exc, RL.bind_ok, RL.bind_exc, RL.out_ok, RL.out_exc, Rs.bind_ok, Rs.bind_exc, Rs.out_ok, Rs.out_exc, Rs.of_some, Option.bind_some, List.getElem?_cons_zero, List.getElem?_cons_succ, List.set_cons_zero, List.set_cons_succ, List.map_cons, List.map_nil, List.cons_append, List.nil_append, List.length_cons, List.length_nil, Nat.reduceAdd, Nat.reduceSub, Nat.reduceLeDiff, Nat.reduceLT, Bool.not_true, Bool.not_false, decide_true, decide_false]
          | some u =>
            have uz := stp_uf A hc c
            have uu := stp_uf A hc (hs u rfl)
            have l1 := is_less_uf uz uu
            have l2 := eq_unl (a := a) (b := b) (h := h) (w := w) (h' := h') (w' := w') z u
            simp -implicitDefEqProofs only [lp_best_of_1, e1, e2, List.length_map, c', encS, pick, pick1, c, if_true, l1, ap_sSeq, seqO_nx, seqO_rt, seqO_exc, ap_sIf, ifO_t, ifO_f, ifO_exc, ap_sNx, ap_sSet, ap_sOwn, ap_sRet, ap_sDrop, ap_sAsg, outB_some, bT_nm, bT_tp, bTs_nil, bTs_cons, ap_sRaise, ap_sPar, parO_ok, ap_sFor, ap_sRetV, retO_own, retO_val, ap_sFrz, frzO_own, frzO_val, ap_sApp, ap_sExt, ap_eV, valO_val, ap_eB, borO_val, borO_own, ap_eC, ap_eOp, opO_ok, ap_eUn, ap_eTup, ap_eLst, tupR_ok, lstR_ok, ap_eCB, ap_eCall, callO_ok, callO_exc, ap_gNot, notR_b, ap_gTru, truR_b, truR_list, ap_gAnd, ap_gOr, andO_t, andO_f, orO_t, orO_f, ap_eAnd, ap_eOr, eandO_t, eandO_f, eorO_t, eorO_f, ap_eNot, enotO_b, enotO_list, ap_eIf, eifO_t, eifO_f, ap_eChain, chO_ok, ap_eIsi, isiO_int, isiO_tup, isiO_lst, isiO_bl, isiO_str, isiO_non, isInt_int, isInt_bl, isInt_tup, isInt_lst, isInt_str, isInt_non, isBool_int, isBool_bl, isTup_tup, isTup_lst, isTup_int, isTup_non, isTup_str, isTup_bl, isLst_lst, isLst_tup, f_add, f_sub, f_neg, f_eqI, f_neI, f_eqB, f_neB, f_lt, f_le, f_gt, f_ge, f_is, f_isNot, isNone_int, isNone_tup, isNone_lst, isNone_non, f_len_l, f_len_t, f_len_rd, f_tup_l, f_tup_t, f_max2, f_min2, f_abs, f_sum_l, f_sum_t, f_ix0, f_ix1, f_ix2, f_ix3, f_rev_t, outR_nx, outR_rt, outR_exc, nones0, nonesS, runB_eq, ap_eSl, optI_none, optI_some, optO_int, ap_sWh, ap_iSeq, items_l, items_t, ap_iRange1, ap_iRange2, wipeE_nil, wipeE_cons, evA_nil, evA_cons, RL.cons_ok, RL.cons_exc, RL.bind_ok, RL.bind_exc, RL.out_ok, RL.out_exc, Rs.bind_ok, Rs.bind_exc, Rs.out_ok, Rs.out_exc, Rs.of_some, Option.bind_some, List.getElem?_cons_zero, List.getElem?_cons_succ, List.set_cons_zero, List.set_cons_succ, List.map_cons, List.map_nil, List.cons_append, List.nil_append, List.length_cons, List.length_nil, Nat.reduceAdd, Nat.reduceSub, Nat.reduceLeDiff, Nat.reduceLT, Bool.not_true, Bool.not_false, decide_true, decide_false]
            cases hl : lessD (unl (stp a b h w h' w' z)) (unl (stp a b h w h' w' u)) with
            | true => simp -implicitDefEqProofs only [better, hl, Bool.true_or, if_true, encS, ap_sSeq, seqO_nx, seqO_rt, seqO_exc, ap_sIf, ifO_t, ifO_f, ifO_exc, ap_sNx, ap_sSet, ap_sOwn, ap_sRet, ap_sDrop, ap_sAsg, outB_some, bT_nm, bT_tp, bTs_nil, bTs_cons, ap_sRaise, ap_sPar, parO_ok, ap_sFor, ap_sRetV, retO_own, retO_val, ap_sFrz, frzO_own, frzO_val, ap_sApp, ap_sExt, ap_eV, valO_val, ap_eB, borO_val, borO_own, ap_eC, ap_eOp, opO_ok, ap_eUn, ap_eTup, ap_eLst, tupR_ok, lstR_ok, ap_eCB, ap_eCall, callO_ok, callO_exc, ap_gNot, notR_b, ap_gTru, truR_b, truR_list, ap_gAnd, ap_gOr, andO_t, andO_f, orO_t, orO_f, ap_eAnd, ap_eOr, eandO_t, eandO_f, eorO_t, eorO_f, ap_eNot, enotO_b, enotO_list, ap_eIf, eifO_t, eifO_f, ap_eChain, chO_ok, ap_eIsi, isiO_int, isiO_tup, isiO_lst, isiO_bl, isiO_str, isiO_non, isInt_int, isInt_bl, isInt_tup, isInt_lst, isInt_str, isInt_non, isBool_int, isBool_bl, isTup_tup, isTup_lst, isTup_int, isTup_non, isTup_str, isTup_bl, isLst_lst, isLst_tup, f_add, f_sub, f_neg, f_eqI, f_neI, f_eqB, f_neB, f_lt, f_le, f_gt, f_ge, f_is, f_isNot, isNone_int, isNone_tup, isNone_lst, isNone_non, f_len_l, f_len_t, f_len_rd, f_tup_l, f_tup_t, f_max2, f_min2, f_abs, f_sum_l, f_sum_t, f_ix0, f_ix1, f_ix2, f_ix3, f_rev_t, outR_nx, outR_rt, outR_exc, nones0, nonesS, runB_eq, ap_eSl, optI_none, optI_some, optO_int, ap_sWh, ap_iSeq, items_l, items_t, ap_iRange1, ap_iRange2, wipeE_nil, wipeE_cons, evA_nil, evA_cons, RL.cons_ok, RL.cons_exc, RL.bind_ok, RL.bind_exc, RL.out_ok, RL.out_exc, Rs.bind_ok, Rs.bind_exc, Rs.out_ok, Rs.out_exc, Rs.of_some, Option.bind_some, List.getElem?_cons_zero, List.getElem?_cons_succ, List.set_cons_zero, List.set_cons_succ, List.map_cons, List.map_nil, List.cons_append, List.nil_append, List.length_cons, List.length_nil, Nat.reduceAdd, Nat.reduceSub, Nat.reduceLeDiff, Nat.reduceLT, Bool.not_true, Bool.not_false, decide_true, decide_false]
            | false =>
              simp -implicitDefEqProofs only [l2, ap_sSeq, seqO_nx, seqO_rt, seqO_exc, ap_sIf, ifO_t, ifO_f, ifO_exc, ap_sNx, ap_sSet, ap_sOwn, ap_sRet, ap_sDrop, ap_sAsg, outB_some, bT_nm, bT_tp, bTs_nil, bTs_cons, ap_sRaise, ap_sPar, parO_ok, ap_sFor, ap_sRetV, retO_own, retO_val, ap_sFrz, frzO_own, frzO_val, ap_sApp, ap_sExt, ap_eV, valO_val, ap_eB, borO_val, borO_own, ap_eC, ap_eOp, opO_ok, ap_eUn, ap_eTup, ap_eLst, tupR_ok, lstR_ok, ap_eCB, ap_eCall, callO_ok, callO_exc, ap_gNot, notR_b, ap_gTru, truR_b, truR_list, ap_gAnd, ap_gOr, andO_t, andO_f, orO_t, orO_f, ap_eAnd, ap_eOr, eandO_t, eandO_f, eorO_t, eorO_f, ap_eNot, enotO_b, enotO_list, ap_eIf, eifO_t, eifO_f, ap_eChain, chO_ok, ap_eIsi, isiO_int, isiO_tup, isiO_lst, isiO_bl, isiO_str, isiO_non, isInt_int, isInt_bl, isInt_tup, isInt_lst, isInt_str, isInt_non, isBool_int, isBool_bl, isTup_tup, isTup_lst, isTup_int, isTup_non, isTup_str, isTup_bl, isLst_lst, isLst_tup, f_add, f_sub, f_neg, f_eqI, f_neI, f_eqB, f_neB, f_lt, f_le, f_gt, f_ge, f_is, f_isNot, isNone_int, isNone_tup, isNone_lst, isNone_non, f_len_l, f_len_t, f_len_rd, f_tup_l, f_tup_t, f_max2, f_min2, f_abs, f_sum_l, f_sum_t, f_ix0, f_ix1, f_ix2, f_ix3, f_rev_t, outR_nx, outR_rt, outR_exc, nones0, nonesS, runB_eq, ap_eSl, optI_none, optI_some, optO_int, ap_sWh, ap_iSeq, items_l, items_t, ap_iRange1, ap_iRange2, wipeE_nil, wipeE_cons, evA_nil, evA_cons, RL.cons_ok, RL.cons_exc, RL.bind_ok, RL.bind_exc, RL.out_ok, RL.out_exc, Rs.bind_ok, Rs.bind_exc, Rs.out_ok, Rs.out_exc, Rs.of_some, Option.bind_some, List.getElem?_cons_zero, List.getElem?_cons_succ, List.set_cons_zero, List.set_cons_succ, List.map_cons, List.map_nil, List.cons_append, List.nil_append, List.length_cons, List.length_nil, Nat.reduceAdd, Nat.reduceSub, Nat.reduceLeDiff, Nat.reduceLT, Bool.not_true, Bool.not_false, decide_true, decide_false]
              cases he : PyData.eqv (unl (stp a b h w h' w' z)) (unl (stp a b h w h' w' u)) with
              | false => simp -implicitDefEqProofs only [better, hl, he, Bool.false_or, Bool.false_and, Bool.false_eq_true, if_false, encS, ap_sSeq, seqO_nx, seqO_rt, seqO_exc, ap_sIf, ifO_t, ifO_f, ifO_exc, ap_sNx, ap_sSet, ap_sOwn, ap_sRet, ap_sDrop, ap_sAsg, outB_some, bT_nm, bT_tp, bTs_nil, bTs_cons, ap_sRaise, ap_sPar, parO_ok, ap_sFor, ap_sRetV, retO_own, retO_val, ap_sFrz, frzO_own, frzO_val, ap_sApp, ap_sExt, ap_eV, valO_val, ap_eB, borO_val, borO_own, ap_eC, ap_eOp, opO_ok, ap_eUn, ap_eTup, ap_eLst, tupR_ok, lstR_ok, ap_eCB, ap_eCall, callO_ok, callO_exc, ap_gNot, notR_b, ap_gTru, truR_b, truR_list, ap_gAnd, ap_gOr, andO_t, andO_f, orO_t, orO_f, ap_eAnd, ap_eOr, eandO_t, eandO_f, eorO_t, eorO_f, ap_eNot, enotO_b, enotO_list, ap_eIf, eifO_t, eifO_f, ap_eChain, chO_ok, ap_eIsi, isiO_int, isiO_tup, isiO_lst, isiO_bl, isiO_str, isiO_non, isInt_int, isInt_bl, isInt_tup, isInt_lst, isInt_str, isInt_non, isBool_int, isBool_bl, isTup_tup, isTup_lst, isTup_int, isTup_non, isTup_str, isTup_bl, isLst_lst, isLst_tup, f_add, f_sub, f_neg, f_eqI, f_neI, f_eqB, f_neB, f_lt, f_le, f_gt, f_ge, f_is, f_isNot, isNone_int, isNone_tup, isNone_lst, isNone_non, f_len_l, f_len_t, f_len_rd, f_tup_l, f_tup_t, f_max2, f_min2, f_abs, f_sum_l, f_sum_t, f_ix0, f_ix1, f_ix2, f_ix3, f_rev_t, outR_nx, outR_rt, outR_exc, nones0, nonesS, runB_eq, ap_eSl, optI_none, optI_some, optO_int, ap_sWh, ap_iSeq, items_l, items_t, ap_iRange1, ap_iRange2, wipeE_nil, wipeE_cons, evA_nil, evA_cons, RL.cons_ok, RL.cons_exc, RL.bind_ok, RL.bind_exc, RL.out_ok, RL.out_exc, Rs.bind_ok, Rs.bind_exc, Rs.out_ok, Rs.out_exc, Rs.of_some, Option.bind_some, List.getElem?_cons_zero, List.getElem?_cons_succ, List.set_cons_zero, List.set_cons_succ, List.map_cons, List.map_nil, List.cons_append, List.nil_append, List.length_cons, List.length_nil, Nat.reduceAdd, Nat.reduceSub, Nat.reduceLeDiff, Nat.reduceLT, Bool.not_true, Bool.not_false, decide_true, decide_false]
              | true =>
                by_cases hg : (((stp a b h w h' w' u).length : Int) < (stp a b h w h' w' z).length)
                · simp -implicitDefEqProofs only [better, hl, he, hg, Bool.false_or, Bool.true_and, if_true, encS, ap_sSeq, seqO_nx, seqO_rt, seqO_exc, ap_sIf, ifO_t, ifO_f, ifO_exc, ap_sNx, ap_sSet, ap_sOwn, ap_sRet, ap_sDrop, ap_sAsg, outB_some, bT_nm, bT_tp, bTs_nil, bTs_cons, ap_sRaise, ap_sPar, parO_ok, ap_sFor, ap_sRetV, retO_own, retO_val, ap_sFrz, frzO_own, frzO_val, ap_sApp, ap_sExt, ap_eV, valO_val, ap_eB, borO_val, borO_own, ap_eC, ap_eOp, opO_ok, ap_eUn, ap_eTup, ap_eLst, tupR_ok, lstR_ok, ap_eCB, ap_eCall, callO_ok, callO_exc, ap_gNot, notR_b, ap_gTru, truR_b, truR_list, ap_gAnd, ap_gOr, andO_t, andO_f, orO_t, orO_f, ap_eAnd, ap_eOr, eandO_t, eandO_f, eorO_t, eorO_f, ap_eNot, enotO_b, enotO_list, ap_eIf, eifO_t, eifO_f, ap_eChain, chO_ok, ap_eIsi, isiO_int, isiO_tup, isiO_lst, isiO_bl, isiO_str, isiO_non, isInt_int, isInt_bl, isInt_tup, isInt_lst, isInt_str, isInt_non, isBool_int, isBool_bl, isTup_tup, isTup_lst, isTup_int, isTup_non, isTup_str, isTup_bl, isLst_lst, isLst_tup, f_add, f_sub, f_neg, f_eqI, f_neI, f_eqB, f_neB, f_lt, f_le, f_gt, f_ge, f_is, f_isNot, isNone_int, isNone_tup, isNone_lst, isNone_non, f_len_l, f_len_t, f_len_rd, f_tup_l, f_tup_t, f_max2, f_min2, f_abs, f_sum_l, f_sum_t, f_ix0, f_ix1, f_ix2, f_ix3, f_rev_t, outR_nx, outR_rt, outR_exc, nones0, nonesS, runB_eq, ap_eSl, optI_none, optI_some, optO_int, ap_sWh, ap_iSeq, items_l, items_t, ap_iRange1, ap_iRange2, wipeE_nil, wipeE_cons, evA_nil, evA_cons, RL.cons_ok, RL.cons_exc, RL.bind_ok, RL.bind_exc, RL.out_ok, RL.out_exc, Rs.bind_ok, Rs.bind_exc, Rs.out_ok, Rs.out_exc, Rs.of_some, Option.bind_some, List.getElem?_cons_zero, List.getElem?_cons_succ, List.set_cons_zero, List.set_cons_succ, List.map_cons, List.map_nil, List.cons_append, List.nil_append, List.length_cons, List.length_nil, Nat.reduceAdd, Nat.reduceSub, Nat.reduceLeDiff, Nat.reduceLT, Bool.not_true, Bool.not_false, decide_true, decide_false]
                · simp -implicitDefEqProofs only [better, hl, he, hg, Bool.false_or, Bool.true_and, Bool.false_eq_true, if_false, encS, ap_sSeq, seqO_nx, seqO_rt, seqO_exc, ap_sIf, ifO_t, ifO_f, ifO_exc, ap_sNx, ap_sSet, ap_sOwn, ap_sRet, ap_sDrop, ap_sAsg, outB_some, bT_nm, bT_tp, bTs_nil, bTs_cons, ap_sRaise, ap_sPar, parO_ok, ap_sFor, ap_sRetV, retO_own, retO_val, ap_sFrz, frzO_own, frzO_val, ap_sApp, ap_sExt, ap_eV, valO_val, ap_eB, borO_val, borO_own, ap_eC, ap_eOp, opO_ok, ap_eUn, ap_eTup, ap_eLst, tupR_ok, lstR_ok, ap_eCB, ap_eCall, callO_ok, callO_exc, ap_gNot, notR_b, ap_gTru, truR_b, truR_list, ap_gAnd, ap_gOr, andO_t, andO_f, orO_t, orO_f, ap_eAnd, ap_eOr, eandO_t, eandO_f, eorO_t, eorO_f, ap_eNot, enotO_b, enotO_list, ap_eIf, eifO_t, eifO_f, ap_eChain, chO_ok, ap_eIsi, isiO_int, isiO_tup, isiO_lst, isiO_bl, isiO_str, isiO_non, isInt_int, isInt_bl, isInt_tup, isInt_lst, isInt_str, isInt_non, isBool_int, isBool_bl, isTup_tup, isTup_lst, isTup_int, isTup_non, isTup_str, isTup_bl, isLst_lst, isLst_tup, f_add, f_sub, f_neg, f_eqI, f_neI, f_eqB, f_neB, f_lt, f_le, f_gt, f_ge, f_is, f_isNot, isNone_int, isNone_tup, isNone_lst, isNone_non, f_len_l, f_len_t, f_len_rd, f_tup_l, f_tup_t, f_max2, f_min2, f_abs, f_sum_l, f_sum_t, f_ix0, f_ix1, f_ix2, f_ix3, f_rev_t, outR_nx, outR_rt, outR_exc, nones0, nonesS, runB_eq, ap_eSl, optI_none, optI_some, optO_int, ap_sWh, ap_iSeq, items_l, items_t, ap_iRange1, ap_iRange2, wipeE_nil, wipeE_cons, evA_nil, evA_cons, RL.cons_ok, RL.cons_exc, RL.bind_ok, RL.bind_exc, RL.out_ok, RL.out_exc, Rs.bind_ok, Rs.bind_exc, Rs.out_ok, Rs.out_exc, Rs.of_some, Option.bind_some, List.getElem?_cons_zero, List.getElem?_cons_succ, List.set_cons_zero, List.set_cons_succ, List.map_cons, List.map_nil, List.cons_append, List.nil_append, List.length_cons, List.length_nil, Nat.reduceAdd, Nat.reduceSub, Nat.reduceLeDiff, Nat.reduceLT, Bool.not_true, Bool.not_false, decide_true, decide_false]
        · have c' : ¬ cells ≤ ((steps a b w h w' h' z.1 z.2).length : Int) := fun q => c (decide_eq_true q)
          simp -implicitDefEqProofs only [lp_best_of_1, e1, List.length_map, c', pick, c, Bool.false_eq_true, if_false, ap_sSeq, seqO_nx, seqO_rt, seqO_exc, ap_sIf, ifO_t, ifO_f, ifO_exc, ap_sNx, ap_sSet, ap_sOwn, ap_sRet, ap_sDrop, ap_sAsg, outB_some, bT_nm, bT_tp, bTs_nil, bTs_cons, ap_sRaise, ap_sPar, parO_ok, ap_sFor, ap_sRetV, retO_own, retO_val, ap_sFrz, frzO_own, frzO_val, ap_sApp, ap_sExt, ap_eV, valO_val, ap_eB, borO_val, borO_own, ap_eC, ap_eOp, opO_ok, ap_eUn, ap_eTup, ap_eLst, tupR_ok, lstR_ok, ap_eCB, ap_eCall, callO_ok, callO_exc, ap_gNot, notR_b, ap_gTru, truR_b, truR_list, ap_gAnd, ap_gOr, andO_t, andO_f, orO_t, orO_f, ap_eAnd, ap_eOr, eandO_t, eandO_f, eorO_t, eorO_f, ap_eNot, enotO_b, enotO_list, ap_eIf, eifO_t, eifO_f, ap_eChain, chO_ok, ap_eIsi, isiO_int, isiO_tup, isiO_lst, isiO_bl, isiO_str, isiO_non, isInt_int, isInt_bl, isInt_tup, isInt_lst, isInt_str, isInt_non, isBool_int, isBool_bl, isTup_tup, isTup_lst, isTup_int, isTup_non, isTup_str, isTup_bl, isLst_lst, isLst_tup, f_add, f_sub, f_neg, f_eqI, f_neI, f_eqB, f_neB, f_lt, f_le, f_gt, f_ge, f_is, f_isNot, isNone_int, isNone_tup, isNone_lst, isNone_non, f_len_l, f_len_t, f_len_rd, f_tup_l, f_tup_t, f_max2, f_min2, f_abs, f_sum_l, f_sum_t, f_ix0, f_ix1, f_ix2, f_ix3, f_rev_t, outR_nx, outR_rt, outR_exc, nones0, nonesS, runB_eq, ap_eSl, optI_none, optI_some, optO_int, ap_sWh, ap_iSeq, items_l, items_t, ap_iRange1, ap_iRange2, wipeE_nil, wipeE_cons, evA_nil, evA_cons, RL.cons_ok, RL.cons_exc, RL.bind_ok, RL.bind_exc, RL.out_ok, RL.out_exc, Rs.bind_ok, Rs.bind_exc, Rs.out_ok, Rs.out_exc, Rs.of_some, Option.bind_some, List.getElem?_cons_zero, List.getElem?_cons_succ, List.set_cons_zero, List.set_cons_succ, List.map_cons, List.map_nil, List.cons_append, List.nil_append, List.length_cons, List.length_nil, Nat.reduceAdd, Nat.reduceSub, Nat.reduceLeDiff, Nat.reduceLT, Bool.not_true, Bool.not_false, decide_true, decide_false]
      · intro u hu
        unfold pick at hu
        split at hu
        · rename_i c
          unfold pick1 at hu
          cases s with
          | none => cases hu; exact c
          | some v =>
            dsimp only at hu
            split at hu
            · cases hu; exact c
            · exact Option.some.inj hu ▸ hs v rfl
        · exact hs u hu)
    (waysOf w h w' h') (none, none, none, none) ⟨fun z hz => hz, by simp⟩
  obtain ⟨go, -⟩ := go
  dsimp only at go
  generalize hf : List.foldl _ (none, none, none, none) (waysOf w h w' h') = s at go
  have es : s.1 = (waysOf w h w' h').foldl (pick a b h w h' w' cells) none := by
    rw [← hf]
    have : ∀ (xs : List (Int × Int)) (s : Option (Int × Int) × Option Sl × Option Sl × Option Sl), (xs.foldl (fun s z => (pick a b h w h' w' cells s.1 z, some (Sl.val (wayD z)), some (Sl.val (.int (stp a b h w h' w' z).length)), if enough a b h w h' w' cells z = true then some (Sl.val (unl (stp a b h w h' w' z))) else s.2.2.2)) s).1 = xs.foldl (pick a b h w h' w' cells) s.1 := by
      intro xs
      induction xs with
      | nil => intro s; rfl
      | cons x xs ih => intro s; exact ih _
    exact this _ _
  rw [← es]
  have e0 : (encS a b h w h' w' none) = .none := rfl
  rw [e0] at go
  have aw := all_ways_eq A B
  obtain ⟨s1, o4, o5, o6⟩ := s
  dsimp only at go
  cases s1 with
  | none => simp -implicitDefEqProofs only [sem_best_of, b_best_of, aw, go, encS, encR, ap_sSeq, seqO_nx, seqO_rt, seqO_exc, ap_sIf, ifO_t, ifO_f, ifO_exc, ap_sNx, ap_sSet, ap_sOwn, ap_sRet, ap_sDrop, ap_sAsg, outB_some, bT_nm, bT_tp, bTs_nil, bTs_cons, ap_sRaise, ap_sPar, parO_ok, ap_sFor, ap_sRetV, retO_own, retO_val, ap_sFrz, frzO_own, frzO_val, ap_sApp, ap_sExt, ap_eV, valO_val, ap_eB, borO_val, borO_own, ap_eC, ap_eOp, opO_ok, ap_eUn, ap_eTup, ap_eLst, tupR_ok, lstR_ok, ap_eCB, ap_eCall, callO_ok, callO_exc, ap_gNot, notR_b, ap_gTru, truR_b, truR_list, ap_gAnd, ap_gOr, andO_t, andO_f, orO_t, orO_f, ap_eAnd, ap_eOr, eandO_t, eandO_f, eorO_t, eorO_f, ap_eNot, enotO_b, enotO_list, ap_eIf, eifO_t, eifO_f, ap_eChain, chO_ok, ap_eIsi, isiO_int, isiO_tup, isiO_lst, isiO_bl, isiO_str, isiO_non, isInt_int, isInt_bl, isInt_tup, isInt_lst, isInt_str, isInt_non, isBool_int, isBool_bl, isTup_tup, isTup_lst, isTup_int, isTup_non, isTup_str, isTup_bl, isLst_lst, isLst_tup, f_add, f_sub, f_neg, f_eqI, f_neI, f_eqB, f_neB, f_lt, f_le, f_gt, f_ge, f_is, f_isNot, isNone_int, isNone_tup, isNone_lst, isNone_non, f_len_l, f_len_t, f_len_rd, f_tup_l, f_tup_t, f_max2, f_min2, f_abs, f_sum_l, f_sum_t, f_ix0, f_ix1, f_ix2, f_ix3, f_rev_t, outR_nx, outR_rt, outR_exc, nones0, nonesS, runB_eq, ap_eSl, optI_none, optI_some, optO_int, ap_sWh, ap_iSeq, items_l, items_t, ap_iRange1, ap_iRange2, wipeE_nil, wipeE_cons, evA_nil, evA_cons, RL.cons_ok, RL.cons_exc, RL.bind_ok, RL.bind_exc, RL.out_ok, RL.out_exc, Rs.bind_ok, Rs.bind_exc, Rs.out_ok, Rs.out_exc, Rs.of_some, Option.bind_some, List.getElem?_cons_zero, List.getElem?_cons_succ, List.set_cons_zero, List.set_cons_succ, List.map_cons, List.map_nil, List.cons_append, List.nil_append, List.length_cons, List.length_nil, Nat.reduceAdd, Nat.reduceSub, Nat.reduceLeDiff, Nat.reduceLT, Bool.not_true, Bool.not_false, decide_true, decide_false]
  | some z =>
    have sl : slF (.tuple [wayD z, unl (stp a b h w h' w' z), .int (stp a b h w h' w' z).length]) none (some 2) = some (.tuple [wayD z, unl (stp a b h w h' w' z)]) := by rfl
    simp -implicitDefEqProofs only [sem_best_of, b_best_of, aw, go, encS, encR, sl, ap_sSeq, seqO_nx, seqO_rt, seqO_exc, ap_sIf, ifO_t, ifO_f, ifO_exc, ap_sNx, ap_sSet, ap_sOwn, ap_sRet, ap_sDrop, ap_sAsg, outB_some, bT_nm, bT_tp, bTs_nil, bTs_cons, ap_sRaise, ap_sPar, parO_ok, ap_sFor, ap_sRetV, retO_own, retO_val, ap_sFrz, frzO_own, frzO_val, ap_sApp, ap_sExt, ap_eV, valO_val, ap_eB, borO_val, borO_own, ap_eC, ap_eOp, opO_ok, ap_eUn, ap_eTup, ap_eLst, tupR_ok, lstR_ok, ap_eCB, ap_eCall, callO_ok, callO_exc, ap_gNot, notR_b, ap_gTru, truR_b, truR_list, ap_gAnd, ap_gOr, andO_t, andO_f, orO_t, orO_f, ap_eAnd, ap_eOr, eandO_t, eandO_f, eorO_t, eorO_f, ap_eNot, enotO_b, enotO_list, ap_eIf, eifO_t, eifO_f, ap_eChain, chO_ok, ap_eIsi, isiO_int, isiO_tup, isiO_lst, isiO_bl, isiO_str, isiO_non, isInt_int, isInt_bl, isInt_tup, isInt_lst, isInt_str, isInt_non, isBool_int, isBool_bl, isTup_tup, isTup_lst, isTup_int, isTup_non, isTup_str, isTup_bl, isLst_lst, isLst_tup, f_add, f_sub, f_neg, f_eqI, f_neI, f_eqB, f_neB, f_lt, f_le, f_gt, f_ge, f_is, f_isNot, isNone_int, isNone_tup, isNone_lst, isNone_non, f_len_l, f_len_t, f_len_rd, f_tup_l, f_tup_t, f_max2, f_min2, f_abs, f_sum_l, f_sum_t, f_ix0, f_ix1, f_ix2, f_ix3, f_rev_t, outR_nx, outR_rt, outR_exc, nones0, nonesS, runB_eq, ap_eSl, optI_none, optI_some, optO_int, ap_sWh, ap_iSeq, items_l, items_t, ap_iRange1, ap_iRange2, wipeE_nil, wipeE_cons, evA_nil, evA_cons, RL.cons_ok, RL.cons_exc, RL.bind_ok, RL.bind_exc, RL.out_ok, RL.out_exc, Rs.bind_ok, Rs.bind_exc, Rs.out_ok, Rs.out_exc, Rs.of_some, Option.bind_some, List.getElem?_cons_zero, List.getElem?_cons_succ, List.set_cons_zero, List.set_cons_succ, List.map_cons, List.map_nil, List.cons_append, List.nil_append, List.length_cons, List.length_nil, Nat.reduceAdd, Nat.reduceSub, Nat.reduceLeDiff, Nat.reduceLT, Bool.not_true, Bool.not_false, decide_true, decide_false]
theorem best_way_eq (A : Sh a h w) (B : Sh b h' w') (hc : 1 ≤ cells) (hc2 : cells ≤ 144) : sem_best_way [shD a, shD b, .int cells] = .ok (encR a b h w h' w' ((waysOf w h w' h').foldl (pick a b h w h' w' cells) none)) := by
  have lc : sem_look_cells [.int cells] = .ok .none := by simp -implicitDefEqProofs only [sem_look_cells, b_look_cells, is_within_eq, hc, hc2, and_self, ap_sSeq, seqO_nx, seqO_rt, seqO_exc, ap_sIf, ifO_t, ifO_f, ifO_exc, ap_sNx, ap_sSet, ap_sOwn, ap_sRet, ap_sDrop, ap_sAsg, outB_some, bT_nm, bT_tp, bTs_nil, bTs_cons, ap_sRaise, ap_sPar, parO_ok, ap_sFor, ap_sRetV, retO_own, retO_val, ap_sFrz, frzO_own, frzO_val, ap_sApp, ap_sExt, ap_eV, valO_val, ap_eB, borO_val, borO_own, ap_eC, ap_eOp, opO_ok, ap_eUn, ap_eTup, ap_eLst, tupR_ok, lstR_ok, ap_eCB, ap_eCall, callO_ok, callO_exc, ap_gNot, notR_b, ap_gTru, truR_b, truR_list, ap_gAnd, ap_gOr, andO_t, andO_f, orO_t, orO_f, ap_eAnd, ap_eOr, eandO_t, eandO_f, eorO_t, eorO_f, ap_eNot, enotO_b, enotO_list, ap_eIf, eifO_t, eifO_f, ap_eChain, chO_ok, ap_eIsi, isiO_int, isiO_tup, isiO_lst, isiO_bl, isiO_str, isiO_non, isInt_int, isInt_bl, isInt_tup, isInt_lst, isInt_str, isInt_non, isBool_int, isBool_bl, isTup_tup, isTup_lst, isTup_int, isTup_non, isTup_str, isTup_bl, isLst_lst, isLst_tup, f_add, f_sub, f_neg, f_eqI, f_neI, f_eqB, f_neB, f_lt, f_le, f_gt, f_ge, f_is, f_isNot, isNone_int, isNone_tup, isNone_lst, isNone_non, f_len_l, f_len_t, f_len_rd, f_tup_l, f_tup_t, f_max2, f_min2, f_abs, f_sum_l, f_sum_t, f_ix0, f_ix1, f_ix2, f_ix3, f_rev_t, outR_nx, outR_rt, outR_exc, nones0, nonesS, runB_eq, ap_eSl, optI_none, optI_some, optO_int, ap_sWh, ap_iSeq, items_l, items_t, ap_iRange1, ap_iRange2, wipeE_nil, wipeE_cons, evA_nil, evA_cons, RL.cons_ok, RL.cons_exc, RL.bind_ok, RL.bind_exc, RL.out_ok, RL.out_exc, Rs.bind_ok, Rs.bind_exc, Rs.out_ok, Rs.out_exc, Rs.of_some, Option.bind_some, List.getElem?_cons_zero, List.getElem?_cons_succ, List.set_cons_zero, List.set_cons_succ, List.map_cons, List.map_nil, List.cons_append, List.nil_append, List.length_cons, List.length_nil, Nat.reduceAdd, Nat.reduceSub, Nat.reduceLeDiff, Nat.reduceLT, Bool.not_true, Bool.not_false, decide_true, decide_false]
  simp -implicitDefEqProofs only [sem_best_way, b_best_way, look_eq A, look_eq B, lc, best_of_eq A B hc, ap_sSeq, seqO_nx, seqO_rt, seqO_exc, ap_sIf, ifO_t, ifO_f, ifO_exc, ap_sNx, ap_sSet, ap_sOwn, ap_sRet, ap_sDrop, ap_sAsg, outB_some, bT_nm, bT_tp, bTs_nil, bTs_cons, ap_sRaise, ap_sPar, parO_ok, ap_sFor, ap_sRetV, retO_own, retO_val, ap_sFrz, frzO_own, frzO_val, ap_sApp, ap_sExt, ap_eV, valO_val, ap_eB, borO_val, borO_own, ap_eC, ap_eOp, opO_ok, ap_eUn, ap_eTup, ap_eLst, tupR_ok, lstR_ok, ap_eCB, ap_eCall, callO_ok, callO_exc, ap_gNot, notR_b, ap_gTru, truR_b, truR_list, ap_gAnd, ap_gOr, andO_t, andO_f, orO_t, orO_f, ap_eAnd, ap_eOr, eandO_t, eandO_f, eorO_t, eorO_f, ap_eNot, enotO_b, enotO_list, ap_eIf, eifO_t, eifO_f, ap_eChain, chO_ok, ap_eIsi, isiO_int, isiO_tup, isiO_lst, isiO_bl, isiO_str, isiO_non, isInt_int, isInt_bl, isInt_tup, isInt_lst, isInt_str, isInt_non, isBool_int, isBool_bl, isTup_tup, isTup_lst, isTup_int, isTup_non, isTup_str, isTup_bl, isLst_lst, isLst_tup, f_add, f_sub, f_neg, f_eqI, f_neI, f_eqB, f_neB, f_lt, f_le, f_gt, f_ge, f_is, f_isNot, isNone_int, isNone_tup, isNone_lst, isNone_non, f_len_l, f_len_t, f_len_rd, f_tup_l, f_tup_t, f_max2, f_min2, f_abs, f_sum_l, f_sum_t, f_ix0, f_ix1, f_ix2, f_ix3, f_rev_t, outR_nx, outR_rt, outR_exc, nones0, nonesS, runB_eq, ap_eSl, optI_none, optI_some, optO_int, ap_sWh, ap_iSeq, items_l, items_t, ap_iRange1, ap_iRange2, wipeE_nil, wipeE_cons, evA_nil, evA_cons, RL.cons_ok, RL.cons_exc, RL.bind_ok, RL.bind_exc, RL.out_ok, RL.out_exc, Rs.bind_ok, Rs.bind_exc, Rs.out_ok, Rs.out_exc, Rs.of_some, Option.bind_some, List.getElem?_cons_zero, List.getElem?_cons_succ, List.set_cons_zero, List.set_cons_succ, List.map_cons, List.map_nil, List.cons_append, List.nil_append, List.length_cons, List.length_nil, Nat.reduceAdd, Nat.reduceSub, Nat.reduceLeDiff, Nat.reduceLT, Bool.not_true, Bool.not_false, decide_true, decide_false]
end
/-! ways without a shared cell do nothing -/
theorem foldl_pick {a b : List (List Int)} {h w h' w' : Nat} {cells : Int} : ∀ (xs : List (Int × Int)) (s : Option (Int × Int)), xs.foldl (pick a b h w h' w' cells) s = (xs.filter (enough a b h w h' w' cells)).foldl (pick1 a b h w h' w') s
  | [], s => rfl
  | x :: xs, s => by
    rw [List.foldl_cons, foldl_pick xs, List.filter_cons]
    unfold pick
    split <;> rfl
/-- a frame around a range -/
theorem rangeI_frame (lo : Int) (n : Nat) : rangeI lo (n + 2) = lo :: (rangeI (lo + 1) n ++ [lo + n + 1]) := by
  have h1 : rangeI lo (n + 2) = rangeI lo (1 + (n + 1)) := by congr 1; omega
  rw [h1, rangeI_split]
  show (rangeI lo 1) ++ _ = _
  have : rangeI lo 1 = [lo] := by simp [rangeI]
  have e1 : lo + ((1 : Nat) : Int) = lo + 1 := rfl
  have e2 : lo + 1 + (n : Int) = lo + n + 1 := by omega
  rw [this, e1, rangeI_succ, e2]
  rfl
def lawWays (w h w' h' : Nat) : List (Int × Int) := (rangeI (-(w' : Int)) (w + w' + 1)).flatMap fun x => (rangeI (-(h' : Int)) (h + h' + 1)).map fun y => (x, y)
theorem filter_ways {p : Int × Int → Bool} {w h w' h' : Nat} (h1 : 1 ≤ w) (h2 : 1 ≤ h) (h3 : 1 ≤ w') (h4 : 1 ≤ h') (px : ∀ y, p (-(w' : Int), y) = false ∧ p ((w : Int), y) = false) (py : ∀ x, p (x, -(h' : Int)) = false ∧ p (x, (h : Int)) = false) :
    (lawWays w h w' h').filter p = (waysOf w h w' h').filter p := by
  have none_ : ∀ (x : Int) (ys : List Int), (∀ y, p (x, y) = false) → (ys.map fun y => (x, y)).filter p = [] := fun x ys hx => List.filter_eq_nil_iff.mpr fun z hz => by
    obtain ⟨y, _, rfl⟩ := List.mem_map.mp hz
    simp [hx y]
  have row : ∀ x : Int, ((rangeI (-(h' : Int)) (h + h' + 1)).map fun y => (x, y)).filter p = ((rangeI (1 - (h' : Int)) (h + h' - 1)).map fun y => (x, y)).filter p := fun x => by
    rw [show h + h' + 1 = (h + h' - 1) + 2 by omega, rangeI_frame, List.map_cons, List.map_append, List.filter_cons_of_neg (by simp [(py x).1]), List.filter_append]
    have : ([(-(h' : Int) + ((h + h' - 1 : Nat) : Int) + 1)].map fun y => (x, y)).filter p = [] := by
      have e : -(h' : Int) + ((h + h' - 1 : Nat) : Int) + 1 = h := by omega
      rw [e]
      simp [(py x).2]
    rw [this, List.append_nil]
    congr 2
    congr 1
    omega
  unfold lawWays waysOf
  rw [show w + w' + 1 = (w + w' - 1) + 2 by omega, rangeI_frame, List.flatMap_cons, List.flatMap_append, List.filter_append, List.filter_append, none_ _ _ fun y => (px y).1]
  have last : (List.flatMap (fun x => (rangeI (-(h' : Int)) (h + h' + 1)).map fun y => (x, y)) [-(w' : Int) + ((w + w' - 1 : Nat) : Int) + 1]).filter p = [] := by
    have e : -(w' : Int) + ((w + w' - 1 : Nat) : Int) + 1 = w := by omega
    rw [e, List.flatMap_cons, List.flatMap_nil, List.append_nil]
    exact none_ _ _ fun y => (px y).2
  rw [last, List.nil_append, List.append_nil, List.filter_flatMap, List.filter_flatMap]
  rw [show -(w' : Int) + 1 = 1 - (w' : Int) by omega]
  exact flatMap_congr' fun x _ => row x
theorem law_fold {a b : List (List Int)} {h w h' w' : Nat} {cells : Int} (A : Sh a h w) (B : Sh b h' w') (hc : 1 ≤ cells) (s : Option (Int × Int)) : (lawWays w h w' h').foldl (pick a b h w h' w' cells) s = (waysOf w h w' h').foldl (pick a b h w h' w' cells) s := by
  rw [foldl_pick, foldl_pick, filter_ways A.w1 A.h1 B.w1 B.h1]
  · intro y
    constructor
    · refine decide_eq_false fun q => ?_
      rw [steps_length] at q
      have : (min (w : Int) (-(w' : Int) + w') - max 0 (-(w' : Int))).toNat = 0 := by omega
      dsimp only at q
      rw [this] at q
      simp at q
      omega
    · refine decide_eq_false fun q => ?_
      rw [steps_length] at q
      have : (min (w : Int) ((w : Int) + w') - max 0 (w : Int)).toNat = 0 := by omega
      dsimp only at q
      rw [this] at q
      simp at q
      omega
  · intro x
    constructor
    · refine decide_eq_false fun q => ?_
      rw [steps_length] at q
      have : (min (h : Int) (-(h' : Int) + h') - max 0 (-(h' : Int))).toNat = 0 := by omega
      dsimp only at q
      rw [this] at q
      simp at q
      omega
    · refine decide_eq_false fun q => ?_
      rw [steps_length] at q
      have : (min (h : Int) ((h : Int) + h') - max 0 (h : Int)).toNat = 0 := by omega
      dsimp only at q
      rw [this] at q
      simp at q
      omega
end VVlaw

set_option Elab.async false
set_option linter.all false
set_option maxRecDepth 100000
set_option maxHeartbeats 4000000
namespace VVlaw
open PySem PySem.Spec L2 VV
open PyProof.Rows hiding St
def sub_BadCount : Str → Option Bool := fun c => if c = "BadCount" then some true else if c = "BadShot" then some false else none
def b__law_count_refused : SF := (sSeq (sTryAs 3 sub_BadCount (sDrop (eCall sem_best_way ([(eV 0), (eV 1)] ++ [(eV 2)]))) (fun _ => (sRet (eAnd (eC (.bool true)) (eNot (eC (.bool false))))))) (sRet (eC (.bool false))))
def sem__law_count_refused : List D → Rs := runB 3 4 b__law_count_refused
def lp_law_1 : SF := (sSeq (sSet 10 (eCall sem__law_steps [(eV 4), (eV 5), (eTup [(eV 8), (eV 9)])])) (sIf (eOp geF (eCB lenF [(eV 10)]) (eV 6)) (sSeq (sSet 11 (eCall sem__law_unlike [(eV 10)])) (sIf (gOr (eOp isF (eV 7) (eC .none)) (gOr (gTru (eCall sem__law_below [(eV 11), (eOp ixF (eV 7) (eC (.int 1)))])) (gAnd (eOp eqF (eV 11) (eOp ixF (eV 7) (eC (.int 1)))) (eOp gtF (eCB lenF [(eV 10)]) (eOp ixF (eV 7) (eC (.int 2))))))) (sSet 7 (eTup [(eTup [(eV 8), (eV 9)]), (eV 11), (eCB lenF [(eV 10)])])) sNx)) sNx))
def lp_law_2 : SF := (sFor (iRange2 [(eUn negF (eCB lenF [(eV 5)])), (eOp addF (eCB lenF [(eV 4)]) (eC (.int 1)))]) (.nm 9) lp_law_1)
def b_law : SF := (sSeq (sSet 1 (eCall sem__law_row [(eV 0), (eC (.int 2))])) (sSeq (sIf (eOp eqF (eOp modF (eOp ixF (eV 1) (eC (.int 1))) (eC (.int 2))) (eC (.int 0))) (sSeq (sAsg (.tp [(.nm 2), (.nm 3)]) (eCall sem__law_scene [(eV 0), (eC (.int 3))])) (sPar 4 5 [(eOp ixF (eV 2) (eC (.int 0))), (eOp ixF (eV 2) (eC (.int 1)))])) (sPar 4 5 [(eCall sem__law_shot [(eV 1), (eC (.int 5)), (eOp ixF (eV 1) (eC (.int 0)))]), (eCall sem__law_shot [(eCall sem__law_row [(eV 0), (eC (.int 3))]), (eC (.int 5)), (eOp ixF (eV 1) (eC (.int 0)))])])) (sSeq (sSet 6 (eOp addF (eC (.int 1)) (eOp modF (eOp ixF (eV 1) (eC (.int 40))) (eC (.int 9))))) (sSeq (sSet 7 (eC .none)) (sSeq (sFor (iRange2 [(eUn negF (eCB lenF [(eOp ixF (eV 5) (eC (.int 0)))])), (eOp addF (eCB lenF [(eOp ixF (eV 4) (eC (.int 0)))]) (eC (.int 1)))]) (.nm 8) lp_law_2) (sSeq (sSet 12 (eIf (eOp isF (eV 7) (eC .none)) (eC .none) (eSl (eV 7) none (some (eC (.int 2)))))) (sSeq (sIf (eOp neF (eCall sem_best_way ([(eV 4), (eV 5)] ++ [(eV 6)])) (eV 12)) (sRet (eC (.bool false))) sNx) (sRet (eCall sem__law_count_refused [(eV 4), (eV 5), (eOp ixF (eLst [(eC (.int 0)), (eC (.int 145)), (eC .none), (eC (.bool true))]) (eOp modF (eOp ixF (eV 1) (eC (.int 41))) (eC (.int 4))))])))))))))
def sem_law : List D → Rs := runB 1 13 b_law
end VVlaw

set_option Elab.async false
set_option linter.all false
set_option maxRecDepth 100000
set_option maxHeartbeats 8000000
/-! K05l: the law k05. -/
namespace VVlaw
open PySem PySem.Spec L2 VV
open PyProof.Rows hiding St
theorem len_T (E : List Ent) : lenF [dicT E] = some (.int E.length) := by
  have : lenF [dicT E] = some (.int ((E.map entD).length : Int)) := by cases E <;> rfl
  rw [this, List.length_map]
section
variable {a b : List (List Int)} {h w h' w' : Nat} {cells : Int}
theorem box_len (a b : List (List Int)) (w h w' h' p q : Int) : (boxE a b w h w' h' p q).length = (steps a b w h w' h' p q).length := by
  rw [← box_vals, List.length_map]
theorem law_go1 (A : Sh a h w) (B : Sh b h' w') (hc : 1 ≤ cells) (z0 z1 z2 z3 z12 : Option Sl) (x : Int) (ys : List Int) : ∀ (s : Option (Int × Int)) (o9 o10 o11 : Option Sl), (∀ u, s = some u → enough a b h w h' w' cells u = true) →
    ∃ o9' o10' o11', forGo (.nm 9) lp_law_1 (ys.map PyData.int) [z0, z1, z2, z3, some (.val (shD a)), some (.val (shD b)), some (.val (.int cells)), some (.val (encS a b h w h' w' s)), some (.val (.int x)), o9, o10, o11, z12] =
      .nx [z0, z1, z2, z3, some (.val (shD a)), some (.val (shD b)), some (.val (.int cells)), some (.val (encS a b h w h' w' ((ys.map fun y => (x, y)).foldl (pick a b h w h' w' cells) s))), some (.val (.int x)), o9', o10', o11', z12] ∧ ∀ u, (ys.map fun y => (x, y)).foldl (pick a b h w h' w' cells) s = some u → enough a b h w h' w' cells u = true := by
  induction ys with
  | nil => intro s o9 o10 o11 hs; exact ⟨o9, o10, o11, rfl, hs⟩
  | cons y ys ih =>
    intro s o9 o10 o11 hs
    have hs' : ∀ u, pick a b h w h' w' cells s (x, y) = some u → enough a b h w h' w' cells u = true := by
      intro u hu
      unfold pick at hu
      split at hu
      · rename_i c
        unfold pick1 at hu
        cases s with
        | none => cases hu; exact c
        | some v =>
          dsimp only at hu
          split at hu
          · cases hu; exact c
          · exact Option.some.inj hu ▸ hs v rfl
      · exact hs u hu
    have e1 := lsteps_eq A B x y
    rw [both_box] at e1
    have ls := steps_len (a := a) (b := b) A.w2 A.h2 w' h' x y
    have lE := box_len a b w h w' h' x y
    have e2 := lunlike_eq (boxE a b w h w' h' x y) (box_nodup ..) (by omega) (by rw [box_vals]; exact steps_bd A B _ _ _ _ _ _)
    rw [box_vals] at e2
    have e3 := len_T (boxE a b w h w' h' x y)
    rw [lE] at e3
    have ew : (PyData.tuple [.int x, .int y]) = wayD (x, y) := rfl
    rw [ew] at e1
    have one : ∃ p10 p11, lp_law_1 [z0, z1, z2, z3, some (.val (shD a)), some (.val (shD b)), some (.val (.int cells)), some (.val (encS a b h w h' w' s)), some (.val (.int x)), some (.val (.int y)), o10, o11, z12] =
        .nx [z0, z1, z2, z3, some (.val (shD a)), some (.val (shD b)), some (.val (.int cells)), some (.val (encS a b h w h' w' (pick a b h w h' w' cells s (x, y)))), some (.val (.int x)), some (.val (.int y)), p10, p11, z12] := by
      by_cases c : enough a b h w h' w' cells (x, y) = true
      · have c' : cells ≤ ((steps a b w h w' h' x y).length : Int) := of_decide_eq_true c
        refine ⟨some (.val (dicT (boxE a b w h w' h' x y))), some (.val (unl (steps a b w h w' h' x y))), ?_⟩
        cases s with
        | none => simp -implicitDefEqProofs only [lp_law_1, e1, e2, e3, c', encS, pick, pick1, c, if_true, ew, ap_sSeq, seqO_nx, seqO_rt, seqO_exc, ap_sIf, ifO_t, ifO_f, ifO_exc, ap_sNx, ap_sSet, ap_sOwn, ap_sRet, ap_sDrop, ap_sAsg, outB_some, bT_nm, bT_tp, bTs_nil, bTs_cons, ap_sRaise, ap_sPar, parO_ok, ap_sFor, ap_sRetV, retO_own, retO_val, ap_sFrz, frzO_own, frzO_val, ap_sApp, ap_sExt, ap_eV, valO_val, ap_eB, borO_val, borO_own, ap_eC, ap_eOp, opO_ok, ap_eUn, ap_eTup, ap_eLst, tupR_ok, lstR_ok, ap_eCB, ap_eCall, callO_ok, callO_exc, ap_gNot, notR_b, ap_gTru, truR_b, truR_list, ap_gAnd, ap_gOr, andO_t, andO_f, orO_t, orO_f, ap_eAnd, ap_eOr, eandO_t, eandO_f, eorO_t, eorO_f, ap_eNot, enotO_b, enotO_list, ap_eIf, eifO_t, eifO_f, ap_eChain, chO_ok, ap_eIsi, isiO_int, isiO_tup, isiO_lst, isiO_bl, isiO_str, isiO_non, isInt_int, isInt_bl, isInt_tup, isInt_lst, isInt_str, isInt_non, isBool_int, isBool_bl, isTup_tup, isTup_lst, isTup_int, isTup_non, isTup_str, isTup_bl, isLst_lst, isLst_tup, f_add, f_sub, f_neg, f_eqI, f_neI, f_eqB, f_neB, f_lt, f_le, f_gt, f_ge, f_is, f_isNot, isNone_int, isNone_tup, isNone_lst, isNone_non, f_len_l, f_len_t, f_len_rd, f_tup_l, f_tup_t, f_max2, f_min2, f_abs, f_sum_l, f_sum_t, f_ix0, f_ix1, f_ix2, f_ix3, f_rev_t, outR_nx, outR_rt, outR_exc, nones0, nonesS, runB_eq, ap_eSl, optI_none, optI_some, optO_int, ap_sWh, ap_iSeq, items_l, items_t, ap_iRange1, ap_iRange2, wipeE_nil, wipeE_cons, evA_nil, evA_cons, RL.cons_ok, RL.cons_exc, RL.bind_ok, RL.bind_exc, RL.out_ok, RL.out_exc, Rs.bind_ok, Rs.bind_exc, Rs.out_ok, Rs.out_exc, Rs.of_some, Option.bind_some, List.getElem?_cons_zero, List.getElem?_cons_succ, List.set_cons_zero, List.set_cons_succ, List.map_cons, List.map_nil, List.cons_append, List.nil_append, List.length_cons, List.length_nil, Nat.reduceAdd, Nat.reduceSub, Nat.reduceLeDiff, Nat.reduceLT, Bool.not_true, Bool.not_false, decide_true, decide_false]
        | some u =>
          have uz := stp_uf A hc c
          have uu := stp_uf A hc (hs u rfl)
          have l1 := below_uf uz uu
          have l2 := eq_unl (a := a) (b := b) (h := h) (w := w) (h' := h') (w' := w') (x, y) u
          simp -implicitDefEqProofs only [lp_law_1, ew, e1, e2, e3, c', encS, pick, pick1, c, if_true, l1, ap_sSeq, seqO_nx, seqO_rt, seqO_exc, ap_sIf, ifO_t, ifO_f, ifO_exc, ap_sNx, ap_sSet, ap_sOwn, ap_sRet, ap_sDrop, ap_sAsg, outB_some, bT_nm, bT_tp, bTs_nil, bTs_cons, ap_sRaise, ap_sPar, parO_ok, ap_sFor, ap_sRetV, retO_own, retO_val, ap_sFrz, frzO_own, frzO_val, ap_sApp, ap_sExt, ap_eV, valO_val, ap_eB, borO_val, borO_own, ap_eC, ap_eOp, opO_ok, ap_eUn, ap_eTup, ap_eLst, tupR_ok, lstR_ok, ap_eCB, ap_eCall, callO_ok, callO_exc, ap_gNot, notR_b, ap_gTru, truR_b, truR_list, ap_gAnd, ap_gOr, andO_t, andO_f, orO_t, orO_f, ap_eAnd, ap_eOr, eandO_t, eandO_f, eorO_t, eorO_f, ap_eNot, enotO_b, enotO_list, ap_eIf, eifO_t, eifO_f, ap_eChain, chO_ok, ap_eIsi, isiO_int, isiO_tup, isiO_lst, isiO_bl, isiO_str, isiO_non, isInt_int, isInt_bl, isInt_tup, isInt_lst, isInt_str, isInt_non, isBool_int, isBool_bl, isTup_tup, isTup_lst, isTup_int, isTup_non, isTup_str, isTup_bl, isLst_lst, isLst_tup, f_add, f_sub, f_neg, f_eqI, f_neI, f_eqB, f_neB, f_lt, f_le, f_gt, f_ge, f_is, f_isNot, isNone_int, isNone_tup, isNone_lst, isNone_non, f_len_l, f_len_t, f_len_rd, f_tup_l, f_tup_t, f_max2, f_min2, f_abs, f_sum_l, f_sum_t, f_ix0, f_ix1, f_ix2, f_ix3, f_rev_t, outR_nx, outR_rt, outR_exc, nones0, nonesS, runB_eq, ap_eSl, optI_none, optI_some, optO_int, ap_sWh, ap_iSeq, items_l, items_t, ap_iRange1, ap_iRange2, wipeE_nil, wipeE_cons, evA_nil, evA_cons, RL.cons_ok, RL.cons_exc, RL.bind_ok, RL.bind_exc, RL.out_ok, RL.out_exc, Rs.bind_ok, Rs.bind_exc, Rs.out_ok, Rs.out_exc, Rs.of_some, Option.bind_some, List.getElem?_cons_zero, List.getElem?_cons_succ, List.set_cons_zero, List.set_cons_succ, List.map_cons, List.map_nil, List.cons_append, List.nil_append, List.length_cons, List.length_nil, Nat.reduceAdd, Nat.reduceSub, Nat.reduceLeDiff, Nat.reduceLT, Bool.not_true, Bool.not_false, decide_true, decide_false]
          cases hl : lessD (unl (stp a b h w h' w' (x, y))) (unl (stp a b h w h' w' u)) with
          | true => simp -implicitDefEqProofs only [better, hl, Bool.true_or, if_true, encS, ew, e3, ap_sSeq, seqO_nx, seqO_rt, seqO_exc, ap_sIf, ifO_t, ifO_f, ifO_exc, ap_sNx, ap_sSet, ap_sOwn, ap_sRet, ap_sDrop, ap_sAsg, outB_some, bT_nm, bT_tp, bTs_nil, bTs_cons, ap_sRaise, ap_sPar, parO_ok, ap_sFor, ap_sRetV, retO_own, retO_val, ap_sFrz, frzO_own, frzO_val, ap_sApp, ap_sExt, ap_eV, valO_val, ap_eB, borO_val, borO_own, ap_eC, ap_eOp, opO_ok, ap_eUn, ap_eTup, ap_eLst, tupR_ok, lstR_ok, ap_eCB, ap_eCall, callO_ok, callO_exc, ap_gNot, notR_b, ap_gTru, truR_b, truR_list, ap_gAnd, ap_gOr, andO_t, andO_f, orO_t, orO_f, ap_eAnd, ap_eOr, eandO_t, eandO_f, eorO_t, eorO_f, ap_eNot, enotO_b, enotO_list, ap_eIf, eifO_t, eifO_f, ap_eChain, chO_ok, ap_eIsi, isiO_int, isiO_tup, isiO_lst, isiO_bl, isiO_str, isiO_non, isInt_int, isInt_bl, isInt_tup, isInt_lst, isInt_str, isInt_non, isBool_int, isBool_bl, isTup_tup, isTup_lst, isTup_int, isTup_non, isTup_str, isTup_bl, isLst_lst, isLst_tup, f_add, f_sub, f_neg, f_eqI, f_neI, f_eqB, f_neB, f_lt, f_le, f_gt, f_ge, f_is, f_isNot, isNone_int, isNone_tup, isNone_lst, isNone_non, f_len_l, f_len_t, f_len_rd, f_tup_l, f_tup_t, f_max2, f_min2, f_abs, f_sum_l, f_sum_t, f_ix0, f_ix1, f_ix2, f_ix3, f_rev_t, outR_nx, outR_rt, outR_exc, nones0, nonesS, runB_eq, ap_eSl, optI_none, optI_some, optO_int, ap_sWh, ap_iSeq, items_l, items_t, ap_iRange1, ap_iRange2, wipeE_nil, wipeE_cons, evA_nil, evA_cons, RL.cons_ok, RL.cons_exc, RL.bind_ok, RL.bind_exc, RL.out_ok, RL.out_exc, Rs.bind_ok, Rs.bind_exc, Rs.out_ok, Rs.out_exc, Rs.of_some, Option.bind_some, List.getElem?_cons_zero, List.getElem?_cons_succ, List.set_cons_zero, List.set_cons_succ, List.map_cons, List.map_nil, List.cons_append, List.nil_append, List.length_cons, List.length_nil, Nat.reduceAdd, Nat.reduceSub, Nat.reduceLeDiff, Nat.reduceLT, Bool.not_true, Bool.not_false, decide_true, decide_false]
          | false =>
            simp -implicitDefEqProofs only [l2, e3, ap_sSeq, seqO_nx, seqO_rt, seqO_exc, ap_sIf, ifO_t, ifO_f, ifO_exc, ap_sNx, ap_sSet, ap_sOwn, ap_sRet, ap_sDrop, ap_sAsg, outB_some, bT_nm, bT_tp, bTs_nil, bTs_cons, ap_sRaise, ap_sPar, parO_ok, ap_sFor, ap_sRetV, retO_own, retO_val, ap_sFrz, frzO_own, frzO_val, ap_sApp, ap_sExt, ap_eV, valO_val, ap_eB, borO_val, borO_own, ap_eC, ap_eOp, opO_ok, ap_eUn, ap_eTup, ap_eLst, tupR_ok, lstR_ok, ap_eCB, ap_eCall, callO_ok, callO_exc, ap_gNot, notR_b, ap_gTru, truR_b, truR_list, ap_gAnd, ap_gOr, andO_t, andO_f, orO_t, orO_f, ap_eAnd, ap_eOr, eandO_t, eandO_f, eorO_t, eorO_f, ap_eNot, enotO_b, enotO_list, ap_eIf, eifO_t, eifO_f, ap_eChain, chO_ok, ap_eIsi, isiO_int, isiO_tup, isiO_lst, isiO_bl, isiO_str, isiO_non, isInt_int, isInt_bl, isInt_tup, isInt_lst, isInt_str, isInt_non, isBool_int, isBool_bl, isTup_tup, isTup_lst, isTup_int, isTup_non, isTup_str, isTup_bl, isLst_lst, isLst_tup, f_add, f_sub, f_neg, f_eqI, f_neI, f_eqB, f_neB, f_lt, f_le, f_gt, f_ge, f_is, f_isNot, isNone_int, isNone_tup, isNone_lst, isNone_non, f_len_l, f_len_t, f_len_rd, f_tup_l, f_tup_t, f_max2, f_min2, f_abs, f_sum_l, f_sum_t, f_ix0, f_ix1, f_ix2, f_ix3, f_rev_t, outR_nx, outR_rt, outR_exc, nones0, nonesS, runB_eq, ap_eSl, optI_none, optI_some, optO_int, ap_sWh, ap_iSeq, items_l, items_t, ap_iRange1, ap_iRange2, wipeE_nil, wipeE_cons, evA_nil, evA_cons, RL.cons_ok, RL.cons_exc, RL.bind_ok, RL.bind_exc, RL.out_ok, RL.out_exc, Rs.bind_ok, Rs.bind_exc, Rs.out_ok, Rs.out_exc, Rs.of_some, Option.bind_some, List.getElem?_cons_zero, List.getElem?_cons_succ, List.set_cons_zero, List.set_cons_succ, List.map_cons, List.map_nil, List.cons_append, List.nil_append, List.length_cons, List.length_nil, Nat.reduceAdd, Nat.reduceSub, Nat.reduceLeDiff, Nat.reduceLT, Bool.not_true, Bool.not_false, decide_true, decide_false]
            cases he : PyData.eqv (unl (stp a b h w h' w' (x, y))) (unl (stp a b h w h' w' u)) with
            | false => simp -implicitDefEqProofs only [better, hl, he, Bool.false_or, Bool.false_and, Bool.false_eq_true, if_false, encS, e3, ap_sSeq, seqO_nx, seqO_rt, seqO_exc, ap_sIf, ifO_t, ifO_f, ifO_exc, ap_sNx, ap_sSet, ap_sOwn, ap_sRet, ap_sDrop, ap_sAsg, outB_some, bT_nm, bT_tp, bTs_nil, bTs_cons, ap_sRaise, ap_sPar, parO_ok, ap_sFor, ap_sRetV, retO_own, retO_val, ap_sFrz, frzO_own, frzO_val, ap_sApp, ap_sExt, ap_eV, valO_val, ap_eB, borO_val, borO_own, ap_eC, ap_eOp, opO_ok, ap_eUn, ap_eTup, ap_eLst, tupR_ok, lstR_ok, ap_eCB, ap_eCall, callO_ok, callO_exc, ap_gNot, notR_b, ap_gTru, truR_b, truR_list, ap_gAnd, ap_gOr, andO_t, andO_f, orO_t, orO_f, ap_eAnd, ap_eOr, eandO_t, eandO_f, eorO_t, eorO_f, ap_eNot, enotO_b, enotO_list, ap_eIf, eifO_t, eifO_f, ap_eChain, chO_ok, ap_eIsi, isiO_int, isiO_tup, isiO_lst, isiO_bl, isiO_str, isiO_non, isInt_int, isInt_bl, isInt_tup, isInt_lst, isInt_str, isInt_non, isBool_int, isBool_bl, isTup_tup, isTup_lst, isTup_int, isTup_non, isTup_str, isTup_bl, isLst_lst, isLst_tup, f_add, f_sub, f_neg, f_eqI, f_neI, f_eqB, f_neB, f_lt, f_le, f_gt, f_ge, f_is, f_isNot, isNone_int, isNone_tup, isNone_lst, isNone_non, f_len_l, f_len_t, f_len_rd, f_tup_l, f_tup_t, f_max2, f_min2, f_abs, f_sum_l, f_sum_t, f_ix0, f_ix1, f_ix2, f_ix3, f_rev_t, outR_nx, outR_rt, outR_exc, nones0, nonesS, runB_eq, ap_eSl, optI_none, optI_some, optO_int, ap_sWh, ap_iSeq, items_l, items_t, ap_iRange1, ap_iRange2, wipeE_nil, wipeE_cons, evA_nil, evA_cons, RL.cons_ok, RL.cons_exc, RL.bind_ok, RL.bind_exc, RL.out_ok, RL.out_exc, Rs.bind_ok, Rs.bind_exc, Rs.out_ok, Rs.out_exc, Rs.of_some, Option.bind_some, List.getElem?_cons_zero, List.getElem?_cons_succ, List.set_cons_zero, List.set_cons_succ, List.map_cons, List.map_nil, List.cons_append, List.nil_append, List.length_cons, List.length_nil, Nat.reduceAdd, Nat.reduceSub, Nat.reduceLeDiff, Nat.reduceLT, Bool.not_true, Bool.not_false, decide_true, decide_false]
            | true =>
              by_cases hg : (((stp a b h w h' w' u).length : Int) < (stp a b h w h' w' (x, y)).length)
              · simp -implicitDefEqProofs only [better, hl, he, hg, Bool.false_or, Bool.true_and, if_true, encS, ew, e3, ap_sSeq, seqO_nx, seqO_rt, seqO_exc, ap_sIf, ifO_t, ifO_f, ifO_exc, ap_sNx, ap_sSet, ap_sOwn, ap_sRet, ap_sDrop, ap_sAsg, outB_some, bT_nm, bT_tp, bTs_nil, bTs_cons, ap_sRaise, ap_sPar, parO_ok, ap_sFor, ap_sRetV, retO_own, retO_val, ap_sFrz, frzO_own, frzO_val, ap_sApp, ap_sExt, ap_eV, valO_val, ap_eB, borO_val, borO_own, ap_eC, ap_eOp, opO_ok, ap_eUn, ap_eTup, ap_eLst, tupR_ok, lstR_ok, ap_eCB, ap_eCall, callO_ok, callO_exc, ap_gNot, notR_b, ap_gTru, truR_b, truR_list, ap_gAnd, ap_gOr, andO_t, andO_f, orO_t, orO_f, ap_eAnd, ap_eOr, eandO_t, eandO_f, eorO_t, eorO_f, ap_eNot, enotO_b, enotO_list, ap_eIf, eifO_t, eifO_f, ap_eChain, chO_ok, ap_eIsi, isiO_int, isiO_tup, isiO_lst, isiO_bl, isiO_str, isiO_non, isInt_int, isInt_bl, isInt_tup, isInt_lst, isInt_str, isInt_non, isBool_int, isBool_bl, isTup_tup, isTup_lst, isTup_int, isTup_non, isTup_str, isTup_bl, isLst_lst, isLst_tup, f_add, f_sub, f_neg, f_eqI, f_neI, f_eqB, f_neB, f_lt, f_le, f_gt, f_ge, f_is, f_isNot, isNone_int, isNone_tup, isNone_lst, isNone_non, f_len_l, f_len_t, f_len_rd, f_tup_l, f_tup_t, f_max2, f_min2, f_abs, f_sum_l, f_sum_t, f_ix0, f_ix1, f_ix2, f_ix3, f_rev_t, outR_nx, outR_rt, outR_exc, nones0, nonesS, runB_eq, ap_eSl, optI_none, optI_some, optO_int, ap_sWh, ap_iSeq, items_l, items_t, ap_iRange1, ap_iRange2, wipeE_nil, wipeE_cons, evA_nil, evA_cons, RL.cons_ok, RL.cons_exc, RL.bind_ok, RL.bind_exc, RL.out_ok, RL.out_exc, Rs.bind_ok, Rs.bind_exc, Rs.out_ok, Rs.out_exc, Rs.of_some, Option.bind_some, List.getElem?_cons_zero, List.getElem?_cons_succ, List.set_cons_zero, List.set_cons_succ, List.map_cons, List.map_nil, List.cons_append, List.nil_append, List.length_cons, List.length_nil, Nat.reduceAdd, Nat.reduceSub, Nat.reduceLeDiff, Nat.reduceLT, Bool.not_true, Bool.not_false, decide_true, decide_false]
              · simp -implicitDefEqProofs only [better, hl, he, hg, Bool.false_or, Bool.true_and, Bool.false_eq_true, if_false, encS, e3, ap_sSeq, seqO_nx, seqO_rt, seqO_exc, ap_sIf, ifO_t, ifO_f, ifO_exc, ap_sNx, ap_sSet, ap_sOwn, ap_sRet, ap_sDrop, ap_sAsg, outB_some, bT_nm, bT_tp, bTs_nil, bTs_cons, ap_sRaise, ap_sPar, parO_ok, ap_sFor, ap_sRetV, retO_own, retO_val, ap_sFrz, frzO_own, frzO_val, ap_sApp, ap_sExt, ap_eV, valO_val, ap_eB, borO_val, borO_own, ap_eC, ap_eOp, opO_ok, ap_eUn, ap_eTup, ap_eLst, tupR_ok, lstR_ok, ap_eCB, ap_eCall, callO_ok, callO_exc, ap_gNot, notR_b, ap_gTru, truR_b, truR_list, ap_gAnd, ap_gOr, andO_t, andO_f, orO_t, orO_f, ap_eAnd, ap_eOr, eandO_t, eandO_f, eorO_t, eorO_f, ap_eNot, enotO_b, enotO_list, ap_eIf, eifO_t, eifO_f, ap_eChain, chO_ok, ap_eIsi, isiO_int, isiO_tup, isiO_lst, isiO_bl, isiO_str, isiO_non, isInt_int, isInt_bl, isInt_tup, isInt_lst, isInt_str, isInt_non, isBool_int, isBool_bl, isTup_tup, isTup_lst, isTup_int, isTup_non, isTup_str, isTup_bl, isLst_lst, isLst_tup, f_add, f_sub, f_neg, f_eqI, f_neI, f_eqB, f_neB, f_lt, f_le, f_gt, f_ge, f_is, f_isNot, isNone_int, isNone_tup, isNone_lst, isNone_non, f_len_l, f_len_t, f_len_rd, f_tup_l, f_tup_t, f_max2, f_min2, f_abs, f_sum_l, f_sum_t, f_ix0, f_ix1, f_ix2, f_ix3, f_rev_t, outR_nx, outR_rt, outR_exc, nones0, nonesS, runB_eq, ap_eSl, optI_none, optI_some, optO_int, ap_sWh, ap_iSeq, items_l, items_t, ap_iRange1, ap_iRange2, wipeE_nil, wipeE_cons, evA_nil, evA_cons, RL.cons_ok, RL.cons_exc, RL.bind_ok, RL.bind_exc, RL.out_ok, RL.out_exc, Rs.bind_ok, Rs.bind_exc, Rs.out_ok, Rs.out_exc, Rs.of_some, Option.bind_some, List.getElem?_cons_zero, List.getElem?_cons_succ, List.set_cons_zero, List.set_cons_succ, List.map_cons, List.map_nil, List.cons_append, List.nil_append, List.length_cons, List.length_nil, Nat.reduceAdd, Nat.reduceSub, Nat.reduceLeDiff, Nat.reduceLT, Bool.not_true, Bool.not_false, decide_true, decide_false]
      · have c' : ¬ cells ≤ ((steps a b w h w' h' x y).length : Int) := fun q => c (decide_eq_true q)
        refine ⟨some (.val (dicT (boxE a b w h w' h' x y))), o11, ?_⟩
        simp -implicitDefEqProofs only [lp_law_1, ew, e1, e3, c', pick, c, Bool.false_eq_true, if_false, ap_sSeq, seqO_nx, seqO_rt, seqO_exc, ap_sIf, ifO_t, ifO_f, ifO_exc, ap_sNx, ap_sSet, ap_sOwn, ap_sRet, ap_sDrop, ap_sAsg, outB_some, bT_nm, bT_tp, bTs_nil, bTs_cons, ap_sRaise, ap_sPar, parO_ok, ap_sFor, ap_sRetV, retO_own, retO_val, ap_sFrz, frzO_own, frzO_val, ap_sApp, ap_sExt, ap_eV, valO_val, ap_eB, borO_val, borO_own, ap_eC, ap_eOp, opO_ok, ap_eUn, ap_eTup, ap_eLst, tupR_ok, lstR_ok, ap_eCB, ap_eCall, callO_ok, callO_exc, ap_gNot, notR_b, ap_gTru, truR_b, truR_list, ap_gAnd, ap_gOr, andO_t, andO_f, orO_t, orO_f, ap_eAnd, ap_eOr, eandO_t, eandO_f, eorO_t, eorO_f, ap_eNot, enotO_b, enotO_list, ap_eIf, eifO_t, eifO_f, ap_eChain, chO_ok, ap_eIsi, isiO_int, isiO_tup, isiO_lst, isiO_bl, isiO_str, isiO_non, isInt_int, isInt_bl, isInt_tup, isInt_lst, isInt_str, isInt_non, isBool_int, isBool_bl, isTup_tup, isTup_lst, isTup_int, isTup_non, isTup_str, isTup_bl, isLst_lst, isLst_tup, f_add, f_sub, f_neg, f_eqI, f_neI, f_eqB, f_neB, f_lt, f_le, f_gt, f_ge, f_is, f_isNot, isNone_int, isNone_tup, isNone_lst, isNone_non, f_len_l, f_len_t, f_len_rd, f_tup_l, f_tup_t, f_max2, f_min2, f_abs, f_sum_l, f_sum_t, f_ix0, f_ix1, f_ix2, f_ix3, f_rev_t, outR_nx, outR_rt, outR_exc, nones0, nonesS, runB_eq, ap_eSl, optI_none, optI_some, optO_int, ap_sWh, ap_iSeq, items_l, items_t, ap_iRange1, ap_iRange2, wipeE_nil, wipeE_cons, evA_nil, evA_cons, RL.cons_ok, RL.cons_exc, RL.bind_ok, RL.bind_exc, RL.out_ok, RL.out_exc, Rs.bind_ok, Rs.bind_exc, Rs.out_ok, Rs.out_exc, Rs.of_some, Option.bind_some, List.getElem?_cons_zero, List.getElem?_cons_succ, List.set_cons_zero, List.set_cons_succ, List.map_cons, List.map_nil, List.cons_append, List.nil_append, List.length_cons, List.length_nil, Nat.reduceAdd, Nat.reduceSub, Nat.reduceLeDiff, Nat.reduceLT, Bool.not_true, Bool.not_false, decide_true, decide_false]
    obtain ⟨p10, p11, one⟩ := one
    have one' : lp_law_1 (List.set [z0, z1, z2, z3, some (.val (shD a)), some (.val (shD b)), some (.val (.int cells)), some (.val (encS a b h w h' w' s)), some (.val (.int x)), o9, o10, o11, z12] 9 (some (.val (.int y)))) = _ := one
    obtain ⟨q9, q10, q11, i1, i2⟩ := ih (pick a b h w h' w' cells s (x, y)) (some (.val (.int y))) p10 p11 hs'
    refine ⟨q9, q10, q11, ?_, i2⟩
    rw [List.map_cons, forGo_nx one', i1]
    simp -implicitDefEqProofs only [List.map_cons, List.foldl_cons]
theorem law_go2 (A : Sh a h w) (B : Sh b h' w') (hc : 1 ≤ cells) (z0 z1 z2 z3 z12 : Option Sl) (xs : List Int) : ∀ (s : Option (Int × Int)) (o8 o9 o10 o11 : Option Sl), (∀ u, s = some u → enough a b h w h' w' cells u = true) →
    ∃ o8' o9' o10' o11', forGo (.nm 8) lp_law_2 (xs.map PyData.int) [z0, z1, z2, z3, some (.val (shD a)), some (.val (shD b)), some (.val (.int cells)), some (.val (encS a b h w h' w' s)), o8, o9, o10, o11, z12] =
      .nx [z0, z1, z2, z3, some (.val (shD a)), some (.val (shD b)), some (.val (.int cells)), some (.val (encS a b h w h' w' ((xs.flatMap fun x => (rangeI (-(h' : Int)) (h + h' + 1)).map fun y => (x, y)).foldl (pick a b h w h' w' cells) s))), o8', o9', o10', o11', z12] := by
  induction xs with
  | nil => intro s o8 o9 o10 o11 hs; exact ⟨o8, o9, o10, o11, rfl⟩
  | cons x xs ih =>
    intro s o8 o9 o10 o11 hs
    have la := A.len; have lb := B.len; have h2 := A.h2; have h2' := B.h2
    obtain ⟨q9, q10, q11, i1, i2⟩ := law_go1 A B hc z0 z1 z2 z3 z12 x (rangeI (-(h' : Int)) (h + h' + 1)) s o9 o10 o11 hs
    have er : (RL.ok [.int (-(h' : Int)), .int ((h : Int) + 1)]).items rng2 = .ok ((rangeI (-(h' : Int)) (h + h' + 1)).map PyData.int) := by
      rw [rng2_ok _ _ (by omega), rangeD_eq]
      congr 3
      omega
    obtain ⟨r8, r9, r10, r11, j1⟩ := ih _ (some (.val (.int x))) q9 q10 q11 i2
    refine ⟨r8, r9, r10, r11, ?_⟩
    rw [List.map_cons, forGo_nx (ρ2 := [z0, z1, z2, z3, some (.val (shD a)), some (.val (shD b)), some (.val (.int cells)), some (.val (encS a b h w h' w' (((rangeI (-(h' : Int)) (h + h' + 1)).map fun y => (x, y)).foldl (pick a b h w h' w' cells) s))), some (.val (.int x)), q9, q10, q11, z12]), j1, List.flatMap_cons, List.foldl_append]
    simp -implicitDefEqProofs only [lp_law_2, len_sh, la, lb, er, i1, ap_sSeq, seqO_nx, seqO_rt, seqO_exc, ap_sIf, ifO_t, ifO_f, ifO_exc, ap_sNx, ap_sSet, ap_sOwn, ap_sRet, ap_sDrop, ap_sAsg, outB_some, bT_nm, bT_tp, bTs_nil, bTs_cons, ap_sRaise, ap_sPar, parO_ok, ap_sFor, ap_sRetV, retO_own, retO_val, ap_sFrz, frzO_own, frzO_val, ap_sApp, ap_sExt, ap_eV, valO_val, ap_eB, borO_val, borO_own, ap_eC, ap_eOp, opO_ok, ap_eUn, ap_eTup, ap_eLst, tupR_ok, lstR_ok, ap_eCB, ap_eCall, callO_ok, callO_exc, ap_gNot, notR_b, ap_gTru, truR_b, truR_list, ap_gAnd, ap_gOr, andO_t, andO_f, orO_t, orO_f, ap_eAnd, ap_eOr, eandO_t, eandO_f, eorO_t, eorO_f, ap_eNot, enotO_b, enotO_list, ap_eIf, eifO_t, eifO_f, ap_eChain, chO_ok, ap_eIsi, isiO_int, isiO_tup, isiO_lst, isiO_bl, isiO_str, isiO_non, isInt_int, isInt_bl, isInt_tup, isInt_lst, isInt_str, isInt_non, isBool_int, isBool_bl, isTup_tup, isTup_lst, isTup_int, isTup_non, isTup_str, isTup_bl, isLst_lst, isLst_tup, f_add, f_sub, f_neg, f_eqI, f_neI, f_eqB, f_neB, f_lt, f_le, f_gt, f_ge, f_is, f_isNot, isNone_int, isNone_tup, isNone_lst, isNone_non, f_len_l, f_len_t, f_len_rd, f_tup_l, f_tup_t, f_max2, f_min2, f_abs, f_sum_l, f_sum_t, f_ix0, f_ix1, f_ix2, f_ix3, f_rev_t, outR_nx, outR_rt, outR_exc, nones0, nonesS, runB_eq, ap_eSl, optI_none, optI_some, optO_int, ap_sWh, ap_iSeq, items_l, items_t, ap_iRange1, ap_iRange2, wipeE_nil, wipeE_cons, evA_nil, evA_cons, RL.cons_ok, RL.cons_exc, RL.bind_ok, RL.bind_exc, RL.out_ok, RL.out_exc, Rs.bind_ok, Rs.bind_exc, Rs.out_ok, Rs.out_exc, Rs.of_some, Option.bind_some, List.getElem?_cons_zero, List.getElem?_cons_succ, List.set_cons_zero, List.set_cons_succ, List.map_cons, List.map_nil, List.cons_append, List.nil_append, List.length_cons, List.length_nil, Nat.reduceAdd, Nat.reduceSub, Nat.reduceLeDiff, Nat.reduceLT, Bool.not_true, Bool.not_false, decide_true, decide_false]
theorem way_ly (z : Int × Int) : Ly 1 (wayD z) := Ly.tuple fun d hd => by
  simp -implicitDefEqProofs only [List.mem_cons, List.not_mem_nil, or_false] at hd
  rcases hd with rfl | rfl <;> exact Ly.int 0 _
theorem encR_ly (s : Option (Int × Int)) : Ly 2 (encR a b h w h' w' s) := by
  cases s with
  | none => exact Ly.none 2
  | some z =>
    refine Ly.tuple fun d hd => ?_
    simp -implicitDefEqProofs only [List.mem_cons, List.not_mem_nil, or_false] at hd
    rcases hd with rfl | rfl
    · exact way_ly z
    · exact unl_ly _
end
theorem sub_count : sub_BadCount "BadCount" = some true := by kernel_rfl
theorem count_refused {a b : List (List Int)} {h w h' w' : Nat} (A : Sh a h w) (B : Sh b h' w') {x : D} (hx : sem_look_cells [x] = .exc "BadCount" []) : sem__law_count_refused [shD a, shD b, x] = .ok (.bool true) := by
  have e : sem_best_way [shD a, shD b, x] = .exc "BadCount" [] := by simp -implicitDefEqProofs only [sem_best_way, b_best_way, look_eq A, look_eq B, hx, ap_sSeq, seqO_nx, seqO_rt, seqO_exc, ap_sIf, ifO_t, ifO_f, ifO_exc, ap_sNx, ap_sSet, ap_sOwn, ap_sRet, ap_sDrop, ap_sAsg, outB_some, bT_nm, bT_tp, bTs_nil, bTs_cons, ap_sRaise, ap_sPar, parO_ok, ap_sFor, ap_sRetV, retO_own, retO_val, ap_sFrz, frzO_own, frzO_val, ap_sApp, ap_sExt, ap_eV, valO_val, ap_eB, borO_val, borO_own, ap_eC, ap_eOp, opO_ok, ap_eUn, ap_eTup, ap_eLst, tupR_ok, lstR_ok, ap_eCB, ap_eCall, callO_ok, callO_exc, ap_gNot, notR_b, ap_gTru, truR_b, truR_list, ap_gAnd, ap_gOr, andO_t, andO_f, orO_t, orO_f, ap_eAnd, ap_eOr, eandO_t, eandO_f, eorO_t, eorO_f, ap_eNot, enotO_b, enotO_list, ap_eIf, eifO_t, eifO_f, ap_eChain, chO_ok, ap_eIsi, isiO_int, isiO_tup, isiO_lst, isiO_bl, isiO_str, isiO_non, isInt_int, isInt_bl, isInt_tup, isInt_lst, isInt_str, isInt_non, isBool_int, isBool_bl, isTup_tup, isTup_lst, isTup_int, isTup_non, isTup_str, isTup_bl, isLst_lst, isLst_tup, f_add, f_sub, f_neg, f_eqI, f_neI, f_eqB, f_neB, f_lt, f_le, f_gt, f_ge, f_is, f_isNot, isNone_int, isNone_tup, isNone_lst, isNone_non, f_len_l, f_len_t, f_len_rd, f_tup_l, f_tup_t, f_max2, f_min2, f_abs, f_sum_l, f_sum_t, f_ix0, f_ix1, f_ix2, f_ix3, f_rev_t, outR_nx, outR_rt, outR_exc, nones0, nonesS, runB_eq, ap_eSl, optI_none, optI_some, optO_int, ap_sWh, ap_iSeq, items_l, items_t, ap_iRange1, ap_iRange2, wipeE_nil, wipeE_cons, evA_nil, evA_cons, RL.cons_ok, RL.cons_exc, RL.bind_ok, RL.bind_exc, RL.out_ok, RL.out_exc, Rs.bind_ok, Rs.bind_exc, Rs.out_ok, Rs.out_exc, Rs.of_some, Option.bind_some, List.getElem?_cons_zero, List.getElem?_cons_succ, List.set_cons_zero, List.set_cons_succ, List.map_cons, List.map_nil, List.cons_append, List.nil_append, List.length_cons, List.length_nil, Nat.reduceAdd, Nat.reduceSub, Nat.reduceLeDiff, Nat.reduceLT, Bool.not_true, Bool.not_false, decide_true, decide_false]
  simp -implicitDefEqProofs only [sem__law_count_refused, b__law_count_refused, e, ap_sTryAs, tryO_exc, sub_count, hitO_t, clr_rt, ap_sSeq, seqO_nx, seqO_rt, seqO_exc, ap_sIf, ifO_t, ifO_f, ifO_exc, ap_sNx, ap_sSet, ap_sOwn, ap_sRet, ap_sDrop, ap_sAsg, outB_some, bT_nm, bT_tp, bTs_nil, bTs_cons, ap_sRaise, ap_sPar, parO_ok, ap_sFor, ap_sRetV, retO_own, retO_val, ap_sFrz, frzO_own, frzO_val, ap_sApp, ap_sExt, ap_eV, valO_val, ap_eB, borO_val, borO_own, ap_eC, ap_eOp, opO_ok, ap_eUn, ap_eTup, ap_eLst, tupR_ok, lstR_ok, ap_eCB, ap_eCall, callO_ok, callO_exc, ap_gNot, notR_b, ap_gTru, truR_b, truR_list, ap_gAnd, ap_gOr, andO_t, andO_f, orO_t, orO_f, ap_eAnd, ap_eOr, eandO_t, eandO_f, eorO_t, eorO_f, ap_eNot, enotO_b, enotO_list, ap_eIf, eifO_t, eifO_f, ap_eChain, chO_ok, ap_eIsi, isiO_int, isiO_tup, isiO_lst, isiO_bl, isiO_str, isiO_non, isInt_int, isInt_bl, isInt_tup, isInt_lst, isInt_str, isInt_non, isBool_int, isBool_bl, isTup_tup, isTup_lst, isTup_int, isTup_non, isTup_str, isTup_bl, isLst_lst, isLst_tup, f_add, f_sub, f_neg, f_eqI, f_neI, f_eqB, f_neB, f_lt, f_le, f_gt, f_ge, f_is, f_isNot, isNone_int, isNone_tup, isNone_lst, isNone_non, f_len_l, f_len_t, f_len_rd, f_tup_l, f_tup_t, f_max2, f_min2, f_abs, f_sum_l, f_sum_t, f_ix0, f_ix1, f_ix2, f_ix3, f_rev_t, outR_nx, outR_rt, outR_exc, nones0, nonesS, runB_eq, ap_eSl, optI_none, optI_some, optO_int, ap_sWh, ap_iSeq, items_l, items_t, ap_iRange1, ap_iRange2, wipeE_nil, wipeE_cons, evA_nil, evA_cons, RL.cons_ok, RL.cons_exc, RL.bind_ok, RL.bind_exc, RL.out_ok, RL.out_exc, Rs.bind_ok, Rs.bind_exc, Rs.out_ok, Rs.out_exc, Rs.of_some, Option.bind_some, List.getElem?_cons_zero, List.getElem?_cons_succ, List.set_cons_zero, List.set_cons_succ, List.map_cons, List.map_nil, List.cons_append, List.nil_append, List.length_cons, List.length_nil, Nat.reduceAdd, Nat.reduceSub, Nat.reduceLeDiff, Nat.reduceLT, Bool.not_true, Bool.not_false, decide_true, decide_false]
theorem odd_count (k : Int) : ∃ x, ixF (.list [.int 0, .int 145, .none, .bool true]) (.int (k % 4)) = some x ∧ sem_look_cells [x] = .exc "BadCount" [] := by
  have hk : k % 4 = 0 ∨ k % 4 = 1 ∨ k % 4 = 2 ∨ k % 4 = 3 := by omega
  rcases hk with e | e | e | e <;> rw [e]
  · exact ⟨.int 0, by kernel_rfl, by kernel_rfl⟩
  · exact ⟨.int 145, by kernel_rfl, by kernel_rfl⟩
  · exact ⟨.none, by kernel_rfl, by kernel_rfl⟩
  · exact ⟨.bool true, by kernel_rfl, by kernel_rfl⟩
def law_tail : SF := (sSeq (sSet 6 (eOp addF (eC (.int 1)) (eOp modF (eOp ixF (eV 1) (eC (.int 40))) (eC (.int 9))))) (sSeq (sSet 7 (eC .none)) (sSeq (sFor (iRange2 [(eUn negF (eCB lenF [(eOp ixF (eV 5) (eC (.int 0)))])), (eOp addF (eCB lenF [(eOp ixF (eV 4) (eC (.int 0)))]) (eC (.int 1)))]) (.nm 8) lp_law_2) (sSeq (sSet 12 (eIf (eOp isF (eV 7) (eC .none)) (eC .none) (eSl (eV 7) none (some (eC (.int 2)))))) (sSeq (sIf (eOp neF (eCall sem_best_way ([(eV 4), (eV 5)] ++ [(eV 6)])) (eV 12)) (sRet (eC (.bool false))) sNx) (sRet (eCall sem__law_count_refused [(eV 4), (eV 5), (eOp ixF (eLst [(eC (.int 0)), (eC (.int 145)), (eC .none), (eC (.bool true))]) (eOp modF (eOp ixF (eV 1) (eC (.int 41))) (eC (.int 4))))])))))))
theorem b_law_eq : b_law = (sSeq (sSet 1 (eCall sem__law_row [(eV 0), (eC (.int 2))])) (sSeq (sIf (eOp eqF (eOp modF (eOp ixF (eV 1) (eC (.int 1))) (eC (.int 2))) (eC (.int 0))) (sSeq (sAsg (.tp [(.nm 2), (.nm 3)]) (eCall sem__law_scene [(eV 0), (eC (.int 3))])) (sPar 4 5 [(eOp ixF (eV 2) (eC (.int 0))), (eOp ixF (eV 2) (eC (.int 1)))])) (sPar 4 5 [(eCall sem__law_shot [(eV 1), (eC (.int 5)), (eOp ixF (eV 1) (eC (.int 0)))]), (eCall sem__law_shot [(eCall sem__law_row [(eV 0), (eC (.int 3))]), (eC (.int 5)), (eOp ixF (eV 1) (eC (.int 0)))])])) law_tail)) := rfl
theorem law_true : ∀ ns : List Int, ns.length ≤ 63 → sem_law [rdL ns] = .ok (.bool true) := by
  intro ns _
  obtain ⟨r, er, R⟩ := law_row_eq ns 2 (by decide)
  have i0 : ixF (.list (r.map PyData.int)) (.int 0) = some (.int (r.getD 0 0)) := R.at 0 (by decide) (by decide)
  have i1 : ixF (.list (r.map PyData.int)) (.int 1) = some (.int (r.getD 1 0)) := R.at 1 (by decide) (by decide)
  have i40 : ixF (.list (r.map PyData.int)) (.int 40) = some (.int (r.getD 40 0)) := R.at 40 (by decide) (by decide)
  have i41 : ixF (.list (r.map PyData.int)) (.int 41) = some (.int (r.getD 41 0)) := R.at 41 (by decide) (by decide)
  have m1 : modF (.int (r.getD 1 0)) (.int 2) = some (.int (r.getD 1 0 % 2)) := f_modP _ 2 (by decide)
  have m40 : modF (.int (r.getD 40 0)) (.int 9) = some (.int (r.getD 40 0 % 9)) := f_modP _ 9 (by decide)
  have m41 : modF (.int (r.getD 41 0)) (.int 4) = some (.int (r.getD 41 0 % 4)) := f_modP _ 4 (by decide)
  obtain ⟨x, ex, hx⟩ := odd_count (r.getD 41 0)
  generalize hcl : 1 + r.getD 40 0 % 9 = cells
  have hc : 1 ≤ cells := by omega
  have hc2 : cells ≤ 144 := by omega
  -- behind the two shots
  have rest : ∀ {a b : List (List Int)} {h w h' w' : Nat}, Sh a h w → Sh b h' w' → ∀ z2 z3 : Option Sl,
      law_tail [some (.val (rdL ns)), some (.val (.list (r.map PyData.int))), z2, z3, some (.val (shD a)), some (.val (shD b)), none, none, none, none, none, none, none] = .rt (.bool true) := by
    rintro a b h w h' w' A B z2 z3
    have la := A.len; have lb := B.len; have h2 := A.h2; have h2' := B.h2; have w2 := A.w2; have w2' := B.w2; have h1 := A.h1; have h1' := B.h1
    have ea : ixF (shD a) (.int 0) = some (rowD (rw' a 0)) := ix_sh a 0 (by decide) (by omega)
    have ra : (rw' a 0).length = w := A.rlen (by decide) (by omega)
    have eb : ixF (shD b) (.int 0) = some (rowD (rw' b 0)) := ix_sh b 0 (by decide) (by omega)
    have rb : (rw' b 0).length = w' := B.rlen (by decide) (by omega)
    obtain ⟨q8, q9, q10, q11, go⟩ := law_go2 A B hc (some (.val (rdL ns))) (some (.val (.list (r.map PyData.int)))) z2 z3 none (rangeI (-(w' : Int)) (w + w' + 1)) none none none none none (by simp)
    have er2 : (RL.ok [.int (-(w' : Int)), .int ((w : Int) + 1)]).items rng2 = .ok ((rangeI (-(w' : Int)) (w + w' + 1)).map PyData.int) := by
      rw [rng2_ok _ _ (by omega), rangeD_eq]
      congr 3
      omega
    have fe := law_fold A B hc none
    unfold lawWays at fe
    rw [fe] at go
    have bw := best_way_eq A B hc hc2
    have cr := count_refused A B hx
    have e0 : (encS a b h w h' w' none) = .none := rfl
    rw [e0] at go
    generalize (waysOf w h w' h').foldl (pick a b h w h' w' cells) none = s at go bw
    have ne := f_ne_self (encR_ly (a := a) (b := b) (h := h) (w := w) (h' := h') (w' := w') s) (by decide)
    cases s with
    | none =>
      simp -implicitDefEqProofs only [encS] at go
      simp -implicitDefEqProofs only [encR] at bw ne
      simp -implicitDefEqProofs only [law_tail, i40, m40, hcl, eb, ea, len_row, ra, rb, er2, go, bw, ne, i41, m41, ex, cr, ap_sSeq, seqO_nx, seqO_rt, seqO_exc, ap_sIf, ifO_t, ifO_f, ifO_exc, ap_sNx, ap_sSet, ap_sOwn, ap_sRet, ap_sDrop, ap_sAsg, outB_some, bT_nm, bT_tp, bTs_nil, bTs_cons, ap_sRaise, ap_sPar, parO_ok, ap_sFor, ap_sRetV, retO_own, retO_val, ap_sFrz, frzO_own, frzO_val, ap_sApp, ap_sExt, ap_eV, valO_val, ap_eB, borO_val, borO_own, ap_eC, ap_eOp, opO_ok, ap_eUn, ap_eTup, ap_eLst, tupR_ok, lstR_ok, ap_eCB, ap_eCall, callO_ok, callO_exc, ap_gNot, notR_b, ap_gTru, truR_b, truR_list, ap_gAnd, ap_gOr, andO_t, andO_f, orO_t, orO_f, ap_eAnd, ap_eOr, eandO_t, eandO_f, eorO_t, eorO_f, ap_eNot, enotO_b, enotO_list, ap_eIf, eifO_t, eifO_f, ap_eChain, chO_ok, ap_eIsi, isiO_int, isiO_tup, isiO_lst, isiO_bl, isiO_str, isiO_non, isInt_int, isInt_bl, isInt_tup, isInt_lst, isInt_str, isInt_non, isBool_int, isBool_bl, isTup_tup, isTup_lst, isTup_int, isTup_non, isTup_str, isTup_bl, isLst_lst, isLst_tup, f_add, f_sub, f_neg, f_eqI, f_neI, f_eqB, f_neB, f_lt, f_le, f_gt, f_ge, f_is, f_isNot, isNone_int, isNone_tup, isNone_lst, isNone_non, f_len_l, f_len_t, f_len_rd, f_tup_l, f_tup_t, f_max2, f_min2, f_abs, f_sum_l, f_sum_t, f_ix0, f_ix1, f_ix2, f_ix3, f_rev_t, outR_nx, outR_rt, outR_exc, nones0, nonesS, runB_eq, ap_eSl, optI_none, optI_some, optO_int, ap_sWh, ap_iSeq, items_l, items_t, ap_iRange1, ap_iRange2, wipeE_nil, wipeE_cons, evA_nil, evA_cons, RL.cons_ok, RL.cons_exc, RL.bind_ok, RL.bind_exc, RL.out_ok, RL.out_exc, Rs.bind_ok, Rs.bind_exc, Rs.out_ok, Rs.out_exc, Rs.of_some, Option.bind_some, List.getElem?_cons_zero, List.getElem?_cons_succ, List.set_cons_zero, List.set_cons_succ, List.map_cons, List.map_nil, List.cons_append, List.nil_append, List.length_cons, List.length_nil, Nat.reduceAdd, Nat.reduceSub, Nat.reduceLeDiff, Nat.reduceLT, Bool.not_true, Bool.not_false, decide_true, decide_false]
    | some z =>
      simp -implicitDefEqProofs only [encS] at go
      simp -implicitDefEqProofs only [encR] at bw ne
      have sl : slF (.tuple [wayD z, unl (stp a b h w h' w' z), .int (stp a b h w h' w' z).length]) none (some 2) = some (.tuple [wayD z, unl (stp a b h w h' w' z)]) := by rfl
      simp -implicitDefEqProofs only [law_tail, i40, m40, hcl, eb, ea, len_row, ra, rb, er2, go, sl, bw, ne, i41, m41, ex, cr, ap_sSeq, seqO_nx, seqO_rt, seqO_exc, ap_sIf, ifO_t, ifO_f, ifO_exc, ap_sNx, ap_sSet, ap_sOwn, ap_sRet, ap_sDrop, ap_sAsg, outB_some, bT_nm, bT_tp, bTs_nil, bTs_cons, ap_sRaise, ap_sPar, parO_ok, ap_sFor, ap_sRetV, retO_own, retO_val, ap_sFrz, frzO_own, frzO_val, ap_sApp, ap_sExt, ap_eV, valO_val, ap_eB, borO_val, borO_own, ap_eC, ap_eOp, opO_ok, ap_eUn, ap_eTup, ap_eLst, tupR_ok, lstR_ok, ap_eCB, ap_eCall, callO_ok, callO_exc, ap_gNot, notR_b, ap_gTru, truR_b, truR_list, ap_gAnd, ap_gOr, andO_t, andO_f, orO_t, orO_f, ap_eAnd, ap_eOr, eandO_t, eandO_f, eorO_t, eorO_f, ap_eNot, enotO_b, enotO_list, ap_eIf, eifO_t, eifO_f, ap_eChain, chO_ok, ap_eIsi, isiO_int, isiO_tup, isiO_lst, isiO_bl, isiO_str, isiO_non, isInt_int, isInt_bl, isInt_tup, isInt_lst, isInt_str, isInt_non, isBool_int, isBool_bl, isTup_tup, isTup_lst, isTup_int, isTup_non, isTup_str, isTup_bl, isLst_lst, isLst_tup, f_add, f_sub, f_neg, f_eqI, f_neI, f_eqB, f_neB, f_lt, f_le, f_gt, f_ge, f_is, f_isNot, isNone_int, isNone_tup, isNone_lst, isNone_non, f_len_l, f_len_t, f_len_rd, f_tup_l, f_tup_t, f_max2, f_min2, f_abs, f_sum_l, f_sum_t, f_ix0, f_ix1, f_ix2, f_ix3, f_rev_t, outR_nx, outR_rt, outR_exc, nones0, nonesS, runB_eq, ap_eSl, optI_none, optI_some, optO_int, ap_sWh, ap_iSeq, items_l, items_t, ap_iRange1, ap_iRange2, wipeE_nil, wipeE_cons, evA_nil, evA_cons, RL.cons_ok, RL.cons_exc, RL.bind_ok, RL.bind_exc, RL.out_ok, RL.out_exc, Rs.bind_ok, Rs.bind_exc, Rs.out_ok, Rs.out_exc, Rs.of_some, Option.bind_some, List.getElem?_cons_zero, List.getElem?_cons_succ, List.set_cons_zero, List.set_cons_succ, List.map_cons, List.map_nil, List.cons_append, List.nil_append, List.length_cons, List.length_nil, Nat.reduceAdd, Nat.reduceSub, Nat.reduceLeDiff, Nat.reduceLT, Bool.not_true, Bool.not_false, decide_true, decide_false]
  by_cases c : r.getD 1 0 % 2 = 0
  · obtain ⟨g, r', P, lx, ly, eg, G, l2, l5, hok, _, _, sc⟩ := scene_eq ns 3 (by decide)
    match P, l2, hok, sc with
    | e1 :: e2 :: P', l2, hok, sc =>
      have m1' := more_bd r' 0
      have m2' := more_bd r' 1
      have A := cutLit_sh G (hok e1 (by simp)) m1'.1 (by omega)
      have B := cutLit_sh G (hok e2 (by simp)) m2'.1 (by omega)
      have el : litBoxes g r' (e1 :: e2 :: P') = cutLit g e1 (more r' 0) :: cutLit g e2 (more r' 1) :: (P'.mapIdx fun i e => cutLit g e (more r' (i + 2))) := by
        simp [litBoxes, List.mapIdx_cons, Nat.add_assoc]
      rw [el] at sc
      simp -implicitDefEqProofs only [List.map_cons] at sc
      have := rest A B (some (.val (.tuple (shD (cutLit g e1 (more r' 0)) :: shD (cutLit g e2 (more r' 1)) :: (P'.mapIdx fun i e => cutLit g e (more r' (i + 2))).map shD)))) (some (.val (.tuple (wyD (e1.1.1 - lx, e1.1.2 - ly) :: wyD (e2.1.1 - lx, e2.1.2 - ly) :: P'.map fun e => wyD (e.1.1 - lx, e.1.2 - ly)))))
      simp -implicitDefEqProofs only [sem_law, b_law_eq, er, i1, m1, c, sc, this, ap_sSeq, seqO_nx, seqO_rt, seqO_exc, ap_sIf, ifO_t, ifO_f, ifO_exc, ap_sNx, ap_sSet, ap_sOwn, ap_sRet, ap_sDrop, ap_sAsg, outB_some, bT_nm, bT_tp, bTs_nil, bTs_cons, ap_sRaise, ap_sPar, parO_ok, ap_sFor, ap_sRetV, retO_own, retO_val, ap_sFrz, frzO_own, frzO_val, ap_sApp, ap_sExt, ap_eV, valO_val, ap_eB, borO_val, borO_own, ap_eC, ap_eOp, opO_ok, ap_eUn, ap_eTup, ap_eLst, tupR_ok, lstR_ok, ap_eCB, ap_eCall, callO_ok, callO_exc, ap_gNot, notR_b, ap_gTru, truR_b, truR_list, ap_gAnd, ap_gOr, andO_t, andO_f, orO_t, orO_f, ap_eAnd, ap_eOr, eandO_t, eandO_f, eorO_t, eorO_f, ap_eNot, enotO_b, enotO_list, ap_eIf, eifO_t, eifO_f, ap_eChain, chO_ok, ap_eIsi, isiO_int, isiO_tup, isiO_lst, isiO_bl, isiO_str, isiO_non, isInt_int, isInt_bl, isInt_tup, isInt_lst, isInt_str, isInt_non, isBool_int, isBool_bl, isTup_tup, isTup_lst, isTup_int, isTup_non, isTup_str, isTup_bl, isLst_lst, isLst_tup, f_add, f_sub, f_neg, f_eqI, f_neI, f_eqB, f_neB, f_lt, f_le, f_gt, f_ge, f_is, f_isNot, isNone_int, isNone_tup, isNone_lst, isNone_non, f_len_l, f_len_t, f_len_rd, f_tup_l, f_tup_t, f_max2, f_min2, f_abs, f_sum_l, f_sum_t, f_ix0, f_ix1, f_ix2, f_ix3, f_rev_t, outR_nx, outR_rt, outR_exc, nones0, nonesS, runB_eq, ap_eSl, optI_none, optI_some, optO_int, ap_sWh, ap_iSeq, items_l, items_t, ap_iRange1, ap_iRange2, wipeE_nil, wipeE_cons, evA_nil, evA_cons, RL.cons_ok, RL.cons_exc, RL.bind_ok, RL.bind_exc, RL.out_ok, RL.out_exc, Rs.bind_ok, Rs.bind_exc, Rs.out_ok, Rs.out_exc, Rs.of_some, Option.bind_some, List.getElem?_cons_zero, List.getElem?_cons_succ, List.set_cons_zero, List.set_cons_succ, List.map_cons, List.map_nil, List.cons_append, List.nil_append, List.length_cons, List.length_nil, Nat.reduceAdd, Nat.reduceSub, Nat.reduceLeDiff, Nat.reduceLT, Bool.not_true, Bool.not_false, decide_true, decide_false]
  · obtain ⟨r3, er3, R3⟩ := law_row_eq ns 3 (by decide)
    obtain ⟨a, h, w, ea, A, _, _⟩ := law_shot_eq R 5 (r.getD 0 0) (by decide)
    obtain ⟨b, h', w', eb, B, _, _⟩ := law_shot_eq R3 5 (r.getD 0 0) (by decide)
    have := rest A B none none
    simp -implicitDefEqProofs only [sem_law, b_law_eq, er, i1, m1, c, i0, ea, er3, eb, this, ap_sSeq, seqO_nx, seqO_rt, seqO_exc, ap_sIf, ifO_t, ifO_f, ifO_exc, ap_sNx, ap_sSet, ap_sOwn, ap_sRet, ap_sDrop, ap_sAsg, outB_some, bT_nm, bT_tp, bTs_nil, bTs_cons, ap_sRaise, ap_sPar, parO_ok, ap_sFor, ap_sRetV, retO_own, retO_val, ap_sFrz, frzO_own, frzO_val, ap_sApp, ap_sExt, ap_eV, valO_val, ap_eB, borO_val, borO_own, ap_eC, ap_eOp, opO_ok, ap_eUn, ap_eTup, ap_eLst, tupR_ok, lstR_ok, ap_eCB, ap_eCall, callO_ok, callO_exc, ap_gNot, notR_b, ap_gTru, truR_b, truR_list, ap_gAnd, ap_gOr, andO_t, andO_f, orO_t, orO_f, ap_eAnd, ap_eOr, eandO_t, eandO_f, eorO_t, eorO_f, ap_eNot, enotO_b, enotO_list, ap_eIf, eifO_t, eifO_f, ap_eChain, chO_ok, ap_eIsi, isiO_int, isiO_tup, isiO_lst, isiO_bl, isiO_str, isiO_non, isInt_int, isInt_bl, isInt_tup, isInt_lst, isInt_str, isInt_non, isBool_int, isBool_bl, isTup_tup, isTup_lst, isTup_int, isTup_non, isTup_str, isTup_bl, isLst_lst, isLst_tup, f_add, f_sub, f_neg, f_eqI, f_neI, f_eqB, f_neB, f_lt, f_le, f_gt, f_ge, f_is, f_isNot, isNone_int, isNone_tup, isNone_lst, isNone_non, f_len_l, f_len_t, f_len_rd, f_tup_l, f_tup_t, f_max2, f_min2, f_abs, f_sum_l, f_sum_t, f_ix0, f_ix1, f_ix2, f_ix3, f_rev_t, outR_nx, outR_rt, outR_exc, nones0, nonesS, runB_eq, ap_eSl, optI_none, optI_some, optO_int, ap_sWh, ap_iSeq, items_l, items_t, ap_iRange1, ap_iRange2, wipeE_nil, wipeE_cons, evA_nil, evA_cons, RL.cons_ok, RL.cons_exc, RL.bind_ok, RL.bind_exc, RL.out_ok, RL.out_exc, Rs.bind_ok, Rs.bind_exc, Rs.out_ok, Rs.out_exc, Rs.of_some, Option.bind_some, List.getElem?_cons_zero, List.getElem?_cons_succ, List.set_cons_zero, List.set_cons_succ, List.map_cons, List.map_nil, List.cons_append, List.nil_append, List.length_cons, List.length_nil, Nat.reduceAdd, Nat.reduceSub, Nat.reduceLeDiff, Nat.reduceLT, Bool.not_true, Bool.not_false, decide_true, decide_false]
end VVlaw

set_option Elab.async false
set_option linter.all false
set_option maxRecDepth 100000
set_option maxHeartbeats 0
namespace VVlaw
open PySem PySem.Spec L2 VV
open PyProof.Rows hiding St
def topS (i : Nat) : Stmt := PySem.Challenge.pw_vastview_k05_best_ways.main.body.getD i (.Pass ⟨0, 0, 0, 0⟩)
abbrev s_is_within : Stmt := topS 6
theorem sc_is_within : FnScope ["thing", "low", "high"] ["thing", "low", "high"] (defScope s_is_within) := ⟨rfl, rfl, rfl, by decide +kernel, rfl, by decide +kernel, by decide +kernel⟩
abbrev s_common : Stmt := topS 7
theorem sc_common : FnScope ["one", "other"] ["one", "other"] (defScope s_common) := ⟨rfl, rfl, rfl, by decide +kernel, rfl, by decide +kernel, by decide +kernel⟩
abbrev s_least : Stmt := topS 8
theorem sc_least : FnScope ["top", "bottom", "part"] ["top", "bottom"] (defScope s_least) := ⟨rfl, rfl, rfl, by decide +kernel, rfl, by decide +kernel, by decide +kernel⟩
abbrev s_is_less : Stmt := topS 9
theorem sc_is_less : FnScope ["one", "other"] ["one", "other"] (defScope s_is_less) := ⟨rfl, rfl, rfl, by decide +kernel, rfl, by decide +kernel, by decide +kernel⟩
abbrev s_is_row : Stmt := topS 13
theorem sc_is_row : FnScope ["thing", "wide", "one"] ["thing", "wide"] (defScope s_is_row) := ⟨rfl, rfl, rfl, by decide +kernel, rfl, by decide +kernel, by decide +kernel⟩
abbrev s_is_shot : Stmt := topS 14
theorem sc_is_shot : FnScope ["thing", "row"] ["thing"] (defScope s_is_shot) := ⟨rfl, rfl, rfl, by decide +kernel, rfl, by decide +kernel, by decide +kernel⟩
abbrev s_look : Stmt := topS 15
theorem sc_look : FnScope ["shot"] ["shot"] (defScope s_look) := ⟨rfl, rfl, rfl, by decide +kernel, rfl, by decide +kernel, by decide +kernel⟩
abbrev s_size_of : Stmt := topS 16
theorem sc_size_of : FnScope ["shot"] ["shot"] (defScope s_size_of) := ⟨rfl, rfl, rfl, by decide +kernel, rfl, by decide +kernel, by decide +kernel⟩
abbrev s_shared_of : Stmt := topS 19
theorem sc_shared_of : FnScope ["one", "other", "way", "wide", "high", "across", "down", "left", "top", "right", "low"] ["one", "other", "way"] (defScope s_shared_of) := ⟨rfl, rfl, rfl, by decide +kernel, rfl, by decide +kernel, by decide +kernel⟩
abbrev s_steps_of : Stmt := topS 20
theorem sc_steps_of : FnScope ["one", "other", "way", "box", "left", "top", "wide", "high", "found", "y", "x"] ["one", "other", "way"] (defScope s_steps_of) := ⟨rfl, rfl, rfl, by decide +kernel, rfl, by decide +kernel, by decide +kernel⟩
abbrev s_unlike_of : Stmt := topS 21
theorem sc_unlike_of : FnScope ["one", "other", "way", "steps", "many", "step"] ["one", "other", "way"] (defScope s_unlike_of) := ⟨rfl, rfl, rfl, by decide +kernel, rfl, by decide +kernel, by decide +kernel⟩
abbrev s_all_ways : Stmt := topS 22
theorem sc_all_ways : FnScope ["one", "other", "wide", "high", "across", "down", "x", "y"] ["one", "other"] (defScope s_all_ways) := ⟨rfl, rfl, rfl, by decide +kernel, rfl, by decide +kernel, by decide +kernel⟩
abbrev s_best_of : Stmt := topS 23
theorem sc_best_of : FnScope ["one", "other", "cells", "found", "way", "many", "here"] ["one", "other", "cells"] (defScope s_best_of) := ⟨rfl, rfl, rfl, by decide +kernel, rfl, by decide +kernel, by decide +kernel⟩
abbrev s_look_cells : Stmt := topS 24
theorem sc_look_cells : FnScope ["cells"] ["cells"] (defScope s_look_cells) := ⟨rfl, rfl, rfl, by decide +kernel, rfl, by decide +kernel, by decide +kernel⟩
abbrev s_best_way : Stmt := topS 25
theorem sc_best_way : FnScope ["one", "other", "cells"] ["one", "other", "cells"] (defScope s_best_way) := ⟨rfl, rfl, rfl, by decide +kernel, rfl, by decide +kernel, by decide +kernel⟩
abbrev s__law_cell : Stmt := topS 27
theorem sc__law_cell : FnScope ["script", "k"] ["script", "k"] (defScope s__law_cell) := ⟨rfl, rfl, rfl, by decide +kernel, rfl, by decide +kernel, by decide +kernel⟩
abbrev s__law_row : Stmt := topS 28
theorem sc__law_row : FnScope ["script", "at", "cell", "found", "time"] ["script", "at"] (defScope s__law_row) := ⟨rfl, rfl, rfl, by decide +kernel, rfl, by decide +kernel, by decide +kernel⟩
abbrev s__law_common : Stmt := topS 29
theorem sc__law_common : FnScope ["one", "other"] ["one", "other"] (defScope s__law_common) := ⟨rfl, rfl, rfl, by decide +kernel, rfl, by decide +kernel, by decide +kernel⟩
abbrev s__law_least : Stmt := topS 30
theorem sc__law_least : FnScope ["top", "bottom", "part"] ["top", "bottom"] (defScope s__law_least) := ⟨rfl, rfl, rfl, by decide +kernel, rfl, by decide +kernel, by decide +kernel⟩
abbrev s__law_plus : Stmt := topS 31
theorem sc__law_plus : FnScope ["one", "other"] ["one", "other"] (defScope s__law_plus) := ⟨rfl, rfl, rfl, by decide +kernel, rfl, by decide +kernel, by decide +kernel⟩
abbrev s__law_times : Stmt := topS 32
theorem sc__law_times : FnScope ["one", "other"] ["one", "other"] (defScope s__law_times) := ⟨rfl, rfl, rfl, by decide +kernel, rfl, by decide +kernel, by decide +kernel⟩
abbrev s__law_below : Stmt := topS 33
theorem sc__law_below : FnScope ["one", "other"] ["one", "other"] (defScope s__law_below) := ⟨rfl, rfl, rfl, by decide +kernel, rfl, by decide +kernel, by decide +kernel⟩
abbrev s__law_shot : Stmt := topS 34
theorem sc__law_shot : FnScope ["row", "at", "way", "high", "across", "found", "y", "line", "x", "one"] ["row", "at", "way"] (defScope s__law_shot) := ⟨rfl, rfl, rfl, by decide +kernel, rfl, by decide +kernel, by decide +kernel⟩
abbrev s__law_ground : Stmt := topS 35
theorem sc__law_ground : FnScope ["script", "at", "row", "by", "found", "y", "line", "x", "one"] ["script", "at"] (defScope s__law_ground) := ⟨rfl, rfl, rfl, by decide +kernel, rfl, by decide +kernel, by decide +kernel⟩
abbrev s__law_scene : Stmt := topS 36
theorem sc__law_scene : FnScope ["script", "at", "ground", "row", "places", "sizes", "time", "spot", "x", "y", "across", "down", "shots_here", "more", "left", "top", "place", "line", "one"] ["script", "at"] (defScope s__law_scene) := ⟨rfl, rfl, rfl, by decide +kernel, rfl, by decide +kernel, by decide +kernel⟩
abbrev s__law_steps : Stmt := topS 37
theorem sc__law_steps : FnScope ["one", "other", "way", "found", "y", "x", "across", "down"] ["one", "other", "way"] (defScope s__law_steps) := ⟨rfl, rfl, rfl, by decide +kernel, rfl, by decide +kernel, by decide +kernel⟩
abbrev s__law_unlike : Stmt := topS 38
theorem sc__law_unlike : FnScope ["steps", "some", "average", "total", "one", "more", "key"] ["steps"] (defScope s__law_unlike) := ⟨rfl, rfl, rfl, by decide +kernel, rfl, by decide +kernel, by decide +kernel⟩
abbrev s__law_count_refused : Stmt := topS 39
theorem sc__law_count_refused : FnScope ["one", "other", "count", "e"] ["one", "other", "count"] (defScope s__law_count_refused) := ⟨rfl, rfl, rfl, by decide +kernel, rfl, by decide +kernel, by decide +kernel⟩
abbrev s_law : Stmt := topS 40
theorem sc_law : FnScope ["script", "row", "shots_here", "places", "one", "other", "least_many", "found", "x", "y", "steps", "here", "due"] ["script"] (defScope s_law) := ⟨rfl, rfl, rfl, by decide +kernel, rfl, by decide +kernel, by decide +kernel⟩
structure Tx (K : PySem.W.Frag) (mg : Str → Option Value) : Prop where
  free_abs : mg "abs" = none
  free_bool : mg "bool" = none
  free_int : mg "int" = none
  free_isinstance : mg "isinstance" = none
  free_len : mg "len" = none
  free_max : mg "max" = none
  free_min : mg "min" = none
  free_range : mg "range" = none
  free_sorted : mg "sorted" = none
  free_sum : mg "sum" = none
  free_tuple : mg "tuple" = none
  free_zip : mg "zip" = none
  c_MOST_CELLS : ∃ t, mg "MOST_CELLS" = some (.int 144 t)
  c_MOST_LEVEL : ∃ t, mg "MOST_LEVEL" = some (.int 255 t)
  c_MOST_SIDE : ∃ t, mg "MOST_SIDE" = some (.int 12 t)
  x_BadCount : ExK K mg "BadCount"
  x_BadShot : ExK K mg "BadShot"
  xg_BadCount : mg "BadCount" = some (.ref (He.ga K "BadCount"))
  xg_BadWay : mg "BadWay" = some (.ref (He.ga K "BadWay"))
  xg_VastError : mg "VastError" = some (.ref (He.ga K "VastError"))
  m_BadCount_BadCount : PySem.W.exmOne K (.ref (He.ga K "BadCount")) (.ref (He.ga K "BadCount")) = some true
  m_BadCount_BadWay : PySem.W.exmOne K (.ref (He.ga K "BadCount")) (.ref (He.ga K "BadWay")) = some false
  m_BadCount_VastError : PySem.W.exmOne K (.ref (He.ga K "BadCount")) (.ref (He.ga K "VastError")) = some true
  m_BadShot_BadCount : PySem.W.exmOne K (.ref (He.ga K "BadShot")) (.ref (He.ga K "BadCount")) = some false
  ec_BadCount : ExcC K (He.ga K "BadCount")
  g_is_within : mg "is_within" = some (.ref (He.ga K "is_within"))
  f_is_within : ∃ fd, FunD K "is_within" "is_within" (defArgs s_is_within) (defBody s_is_within) (defScope s_is_within) [] [] (He.ga K "is_within") fd
  g_common : mg "common" = some (.ref (He.ga K "common"))
  f_common : ∃ fd, FunD K "common" "common" (defArgs s_common) (defBody s_common) (defScope s_common) [] [] (He.ga K "common") fd
  g_least : mg "least" = some (.ref (He.ga K "least"))
  f_least : ∃ fd, FunD K "least" "least" (defArgs s_least) (defBody s_least) (defScope s_least) [] [] (He.ga K "least") fd
  g_is_less : mg "is_less" = some (.ref (He.ga K "is_less"))
  f_is_less : ∃ fd, FunD K "is_less" "is_less" (defArgs s_is_less) (defBody s_is_less) (defScope s_is_less) [] [] (He.ga K "is_less") fd
  g_is_row : mg "is_row" = some (.ref (He.ga K "is_row"))
  f_is_row : ∃ fd, FunD K "is_row" "is_row" (defArgs s_is_row) (defBody s_is_row) (defScope s_is_row) [] [] (He.ga K "is_row") fd
  g_is_shot : mg "is_shot" = some (.ref (He.ga K "is_shot"))
  f_is_shot : ∃ fd, FunD K "is_shot" "is_shot" (defArgs s_is_shot) (defBody s_is_shot) (defScope s_is_shot) [] [] (He.ga K "is_shot") fd
  g_look : mg "look" = some (.ref (He.ga K "look"))
  f_look : ∃ fd, FunD K "look" "look" (defArgs s_look) (defBody s_look) (defScope s_look) [] [] (He.ga K "look") fd
  g_size_of : mg "size_of" = some (.ref (He.ga K "size_of"))
  f_size_of : ∃ fd, FunD K "size_of" "size_of" (defArgs s_size_of) (defBody s_size_of) (defScope s_size_of) [] [] (He.ga K "size_of") fd
  g_shared_of : mg "shared_of" = some (.ref (He.ga K "shared_of"))
  f_shared_of : ∃ fd, FunD K "shared_of" "shared_of" (defArgs s_shared_of) (defBody s_shared_of) (defScope s_shared_of) [] [] (He.ga K "shared_of") fd
  g_steps_of : mg "steps_of" = some (.ref (He.ga K "steps_of"))
  f_steps_of : ∃ fd, FunD K "steps_of" "steps_of" (defArgs s_steps_of) (defBody s_steps_of) (defScope s_steps_of) [] [] (He.ga K "steps_of") fd
  g_unlike_of : mg "unlike_of" = some (.ref (He.ga K "unlike_of"))
  f_unlike_of : ∃ fd, FunD K "unlike_of" "unlike_of" (defArgs s_unlike_of) (defBody s_unlike_of) (defScope s_unlike_of) [] [] (He.ga K "unlike_of") fd
  g_all_ways : mg "all_ways" = some (.ref (He.ga K "all_ways"))
  f_all_ways : ∃ fd, FunD K "all_ways" "all_ways" (defArgs s_all_ways) (defBody s_all_ways) (defScope s_all_ways) [] [] (He.ga K "all_ways") fd
  g_best_of : mg "best_of" = some (.ref (He.ga K "best_of"))
  f_best_of : ∃ fd, FunD K "best_of" "best_of" (defArgs s_best_of) (defBody s_best_of) (defScope s_best_of) [] [] (He.ga K "best_of") fd
  g_look_cells : mg "look_cells" = some (.ref (He.ga K "look_cells"))
  f_look_cells : ∃ fd, FunD K "look_cells" "look_cells" (defArgs s_look_cells) (defBody s_look_cells) (defScope s_look_cells) [] [] (He.ga K "look_cells") fd
  g_best_way : mg "best_way" = some (.ref (He.ga K "best_way"))
  f_best_way : ∃ fd, FunD K "best_way" "best_way" (defArgs s_best_way) (defBody s_best_way) (defScope s_best_way) [] [("cells", .int 4)] (He.ga K "best_way") fd
  g__law_cell : mg "_law_cell" = some (.ref (He.ga K "_law_cell"))
  f__law_cell : ∃ fd, FunD K "_law_cell" "_law_cell" (defArgs s__law_cell) (defBody s__law_cell) (defScope s__law_cell) [] [] (He.ga K "_law_cell") fd
  g__law_row : mg "_law_row" = some (.ref (He.ga K "_law_row"))
  f__law_row : ∃ fd, FunD K "_law_row" "_law_row" (defArgs s__law_row) (defBody s__law_row) (defScope s__law_row) [] [] (He.ga K "_law_row") fd
  g__law_common : mg "_law_common" = some (.ref (He.ga K "_law_common"))
  f__law_common : ∃ fd, FunD K "_law_common" "_law_common" (defArgs s__law_common) (defBody s__law_common) (defScope s__law_common) [] [] (He.ga K "_law_common") fd
  g__law_least : mg "_law_least" = some (.ref (He.ga K "_law_least"))
  f__law_least : ∃ fd, FunD K "_law_least" "_law_least" (defArgs s__law_least) (defBody s__law_least) (defScope s__law_least) [] [] (He.ga K "_law_least") fd
  g__law_plus : mg "_law_plus" = some (.ref (He.ga K "_law_plus"))
  f__law_plus : ∃ fd, FunD K "_law_plus" "_law_plus" (defArgs s__law_plus) (defBody s__law_plus) (defScope s__law_plus) [] [] (He.ga K "_law_plus") fd
  g__law_times : mg "_law_times" = some (.ref (He.ga K "_law_times"))
  f__law_times : ∃ fd, FunD K "_law_times" "_law_times" (defArgs s__law_times) (defBody s__law_times) (defScope s__law_times) [] [] (He.ga K "_law_times") fd
  g__law_below : mg "_law_below" = some (.ref (He.ga K "_law_below"))
  f__law_below : ∃ fd, FunD K "_law_below" "_law_below" (defArgs s__law_below) (defBody s__law_below) (defScope s__law_below) [] [] (He.ga K "_law_below") fd
  g__law_shot : mg "_law_shot" = some (.ref (He.ga K "_law_shot"))
  f__law_shot : ∃ fd, FunD K "_law_shot" "_law_shot" (defArgs s__law_shot) (defBody s__law_shot) (defScope s__law_shot) [] [] (He.ga K "_law_shot") fd
  g__law_ground : mg "_law_ground" = some (.ref (He.ga K "_law_ground"))
  f__law_ground : ∃ fd, FunD K "_law_ground" "_law_ground" (defArgs s__law_ground) (defBody s__law_ground) (defScope s__law_ground) [] [] (He.ga K "_law_ground") fd
  g__law_scene : mg "_law_scene" = some (.ref (He.ga K "_law_scene"))
  f__law_scene : ∃ fd, FunD K "_law_scene" "_law_scene" (defArgs s__law_scene) (defBody s__law_scene) (defScope s__law_scene) [] [] (He.ga K "_law_scene") fd
  g__law_steps : mg "_law_steps" = some (.ref (He.ga K "_law_steps"))
  f__law_steps : ∃ fd, FunD K "_law_steps" "_law_steps" (defArgs s__law_steps) (defBody s__law_steps) (defScope s__law_steps) [] [] (He.ga K "_law_steps") fd
  g__law_unlike : mg "_law_unlike" = some (.ref (He.ga K "_law_unlike"))
  f__law_unlike : ∃ fd, FunD K "_law_unlike" "_law_unlike" (defArgs s__law_unlike) (defBody s__law_unlike) (defScope s__law_unlike) [] [] (He.ga K "_law_unlike") fd
  g__law_count_refused : mg "_law_count_refused" = some (.ref (He.ga K "_law_count_refused"))
  f__law_count_refused : ∃ fd, FunD K "_law_count_refused" "_law_count_refused" (defArgs s__law_count_refused) (defBody s__law_count_refused) (defScope s__law_count_refused) [] [] (He.ga K "_law_count_refused") fd
  g_law : mg "law" = some (.ref (He.ga K "law"))
  f_law : ∃ fd, FunD K "law" "law" (defArgs s_law) (defBody s_law) (defScope s_law) [] [] (He.ga K "law") fd
section
variable {P : Program} {w : World} {K : PySem.W.Frag} {mg : Str → Option Value} {base : Heap}
theorem only_BadCount (c : Str) (h : sub_BadCount c = some true) : c = "BadCount" := by
  unfold sub_BadCount at h
  repeat
    first
    | assumption
    | (split at h; first | assumption | cases h | skip)
  all_goals first | assumption | cases h
theorem hsub_BadCount (T : Tx K mg) (c : Str) (b : Bool) (h : sub_BadCount c = some b) : PySem.W.exmOne K (.ref (He.ga K c)) (.ref (He.ga K "BadCount")) = some b := by
  unfold sub_BadCount at h
  by_cases z : c = "BadCount"
  · rw [if_pos z] at h
    cases h
    subst z
    exact T.m_BadCount_BadCount
  rw [if_neg z] at h
  clear z
  by_cases z : c = "BadShot"
  · rw [if_pos z] at h
    cases h
    subst z
    exact T.m_BadShot_BadCount
  rw [if_neg z] at h
  clear z
  cases h
theorem ok_is_within (T : Tx K mg)  : Dn P w K mg base "is_within" 1 3 sem_is_within := by
  obtain ⟨fd, F⟩ := T.f_is_within
  refine ⟨_, fd, _, T.g_is_within, fn_sem (k := 0) (f := b_is_within) F sc_is_within ?_, F.kp, F.bindsN (ps := ["thing", "low", "high"]) fun _ _ _ _ _ _ us hl => match us, hl with | [_, _, _], _ => rfl⟩
  intro cdv A outer s H E hr tk hp
  exact (ss_one (ss_ret (se_and (se_isi kit_int T.free_isinstance T.free_int (seb (se_v 0))) (se_and (se_not (seb (se_isi kit_bool T.free_isinstance T.free_bool (seb (se_v 0))))) (se_one (se_chain op_leD op_leD (fun _ _ _ => cmpF_b) (seb (se_v 1)) (seb (se_v 0)) (seb (se_v 2))))))))
theorem ok_common (T : Tx K mg)  : Dn P w K mg base "common" 1 2 sem_common := by
  obtain ⟨fd, F⟩ := T.f_common
  refine ⟨_, fd, _, T.g_common, fn_sem (k := 0) (f := b_common) F sc_common ?_, F.kp, F.bindsN (ps := ["one", "other"]) fun _ _ _ _ _ _ us hl => match us, hl with | [_, _], _ => rfl⟩
  intro cdv A outer s H E hr tk hp
  exact (ss_cons (ss_while (f := lp_common_1) 1000000 hp (st_cmp (op_neX hr) (fun _ _ _ => neF_b) (seb (se_v 1)) (seb se_int)) (ss_one (ss_par (i := 0) (j := 1) sc_common.nd (by decide) (sa_cons (se_v 1) (sa_cons (se_op op_modD (seb (se_v 0)) (seb (se_v 1))) sa_nil)) (by rfl)))) (ss_one (ss_ret (se_cb cl_abs T.free_abs (sba_cons (seb (se_v 0)) sba_nil)))))
theorem ok_least (T : Tx K mg) (d_common : Dn P w K mg base "common" 1 2 sem_common) : Dn P w K mg base "least" 2 2 sem_least := by
  obtain ⟨fd, F⟩ := T.f_least
  refine ⟨_, fd, _, T.g_least, fn_sem (k := 1) (f := b_least) F sc_least ?_, F.kp, F.bindsN (ps := ["top", "bottom"]) fun _ _ _ _ _ _ us hl => match us, hl with | [_, _], _ => rfl⟩
  intro cdv A outer s H E hr tk hp
  exact (ss_cons (ss_set (i := 2) sc_least.nd (se_call d_common (hr.mono (by decide)) tk (sa_cons (se_v 0) (sa_cons (se_v 1) sa_nil)))) (ss_cons (ss_if (st_cmp op_ltD (fun _ _ _ => cmpF_b) (seb (se_v 1)) (seb se_int)) (ss_one (ss_set (i := 2) sc_least.nd (se_un un_negD (seb (se_v 2))))) ss_nil) (ss_one (ss_ret (se_tup (sa_cons (se_op op_divD (seb (se_v 0)) (seb (se_v 2))) (sa_cons (se_op op_divD (seb (se_v 1)) (seb (se_v 2))) sa_nil)))))))
theorem ok_is_less (T : Tx K mg)  : Dn P w K mg base "is_less" 1 2 sem_is_less := by
  obtain ⟨fd, F⟩ := T.f_is_less
  refine ⟨_, fd, _, T.g_is_less, fn_sem (k := 0) (f := b_is_less) F sc_is_less ?_, F.kp, F.bindsN (ps := ["one", "other"]) fun _ _ _ _ _ _ us hl => match us, hl with | [_, _], _ => rfl⟩
  intro cdv A outer s H E hr tk hp
  exact (ss_one (ss_ret (se_cmp op_ltD (seb (se_op op_mulD (seb (se_ix (seb (se_v 0)) (seb se_int))) (seb (se_ix (seb (se_v 1)) (seb se_int))))) (seb (se_op op_mulD (seb (se_ix (seb (se_v 1)) (seb se_int))) (seb (se_ix (seb (se_v 0)) (seb se_int))))))))
theorem ok_is_row (T : Tx K mg) (d_is_within : Dn P w K mg base "is_within" 1 3 sem_is_within) : Dn P w K mg base "is_row" 2 2 sem_is_row := by
  obtain ⟨fd, F⟩ := T.f_is_row
  refine ⟨_, fd, _, T.g_is_row, fn_sem (k := 1) (f := b_is_row) F sc_is_row ?_, F.kp, F.bindsN (ps := ["thing", "wide"]) fun _ _ _ _ _ _ us hl => match us, hl with | [_, _], _ => rfl⟩
  intro cdv A outer s H E hr tk hp
  exact (ss_cons (ss_if (st_w (sw_or (st_not (st_tru (seb (se_isi kit_tup T.free_isinstance T.free_tuple (seb (se_v 0)))))) (sw_or1 (st_cmp (op_neX hr) (fun _ _ _ => neF_b) (seb (se_cb cl_len T.free_len (sba_cons (seb (se_v 0)) sba_nil))) (seb (se_v 1)))))) (ss_one (ss_ret se_bl)) ss_nil) (ss_one (ss_ret (se_not (snb (sn_lc (own := [("one", 2)]) sc_is_row.nd (si_seq (seb (se_v 0))) (blkOk_by (own := [("one", 2)]) (by kernel_rfl)) (fun _ _ _ _ _ => (sg_nm (i := 2) sc_is_row.nd)) (fun _ _ _ _ _ => (sts_one (st_not (st_tru (seb (se_call d_is_within (hr.mono (by decide)) takes0 (sa_cons (se_v 2) (sa_cons se_int (sa_cons (se_globI T.c_MOST_LEVEL) sa_nil))))))))) (fun _ _ _ _ _ => (se_v 2))))))))
theorem ok_is_shot (T : Tx K mg) (d_is_row : Dn P w K mg base "is_row" 2 2 sem_is_row) : Dn P w K mg base "is_shot" 3 1 sem_is_shot := by
  obtain ⟨fd, F⟩ := T.f_is_shot
  refine ⟨_, fd, _, T.g_is_shot, fn_sem (k := 2) (f := b_is_shot) F sc_is_shot ?_, F.kp, F.bindsN (ps := ["thing"]) fun _ _ _ _ _ _ us hl => match us, hl with | [_], _ => rfl⟩
  intro cdv A outer s H E hr tk hp
  exact (ss_cons (ss_if (st_w (sw_or (st_not (st_tru (seb (se_isi kit_tup T.free_isinstance T.free_tuple (seb (se_v 0)))))) (sw_or (st_not (st_chain op_leD op_leD (fun _ _ _ => cmpF_b) (fun _ _ _ => cmpF_b) (seb se_int) (seb (se_cb cl_len T.free_len (sba_cons (seb (se_v 0)) sba_nil))) (seb (se_globI T.c_MOST_SIDE)))) (sw_or1 (st_not (st_tru (seb (se_isi kit_tup T.free_isinstance T.free_tuple (seb (se_ix (seb (se_v 0)) (seb se_int))))))))))) (ss_one (ss_ret se_bl)) ss_nil) (ss_cons (ss_if (st_not (st_chain op_leD op_leD (fun _ _ _ => cmpF_b) (fun _ _ _ => cmpF_b) (seb se_int) (seb (se_cb cl_len T.free_len (sba_cons (seb (se_ix (seb (se_v 0)) (seb se_int))) sba_nil))) (seb (se_globI T.c_MOST_SIDE)))) (ss_one (ss_ret se_bl)) ss_nil) (ss_one (ss_ret (se_not (snb (sn_lc (own := [("row", 1)]) sc_is_shot.nd (si_seq (seb (se_v 0))) (blkOk_by (own := [("row", 1)]) (by kernel_rfl)) (fun _ _ _ _ _ => (sg_nm (i := 1) sc_is_shot.nd)) (fun _ _ _ _ _ => (sts_one (st_not (st_tru (seb (se_call d_is_row (hr.mono (by decide)) takes0 (sa_cons (se_v 1) (sa_cons (se_cb cl_len T.free_len (sba_cons (seb (se_ix (seb (se_v 0)) (seb se_int))) sba_nil)) sa_nil)))))))) (fun _ _ _ _ _ => (se_v 1)))))))))
theorem ok_look (T : Tx K mg) (d_is_shot : Dn P w K mg base "is_shot" 3 1 sem_is_shot) : Dn P w K mg base "look" 4 1 sem_look := by
  obtain ⟨fd, F⟩ := T.f_look
  refine ⟨_, fd, _, T.g_look, fn_sem (k := 3) (f := b_look) F sc_look ?_, F.kp, F.bindsN (ps := ["shot"]) fun _ _ _ _ _ _ us hl => match us, hl with | [_], _ => rfl⟩
  intro cdv A outer s H E hr tk hp
  exact (ss_one (ss_if (st_not (st_tru (seb (se_call d_is_shot (hr.mono (by decide)) tk (sa_cons (se_v 0) sa_nil))))) (ss_one (ss_raise tk T.x_BadShot)) ss_nil))
theorem ok_size_of (T : Tx K mg)  : Dn P w K mg base "size_of" 1 1 sem_size_of := by
  obtain ⟨fd, F⟩ := T.f_size_of
  refine ⟨_, fd, _, T.g_size_of, fn_sem (k := 0) (f := b_size_of) F sc_size_of ?_, F.kp, F.bindsN (ps := ["shot"]) fun _ _ _ _ _ _ us hl => match us, hl with | [_], _ => rfl⟩
  intro cdv A outer s H E hr tk hp
  exact (ss_one (ss_ret (se_tup (sa_cons (se_cb cl_len T.free_len (sba_cons (seb (se_ix (seb (se_v 0)) (seb se_int))) sba_nil)) (sa_cons (se_cb cl_len T.free_len (sba_cons (seb (se_v 0)) sba_nil)) sa_nil)))))
theorem ok_shared_of (T : Tx K mg) (d_size_of : Dn P w K mg base "size_of" 1 1 sem_size_of) : Dn P w K mg base "shared_of" 2 3 sem_shared_of := by
  obtain ⟨fd, F⟩ := T.f_shared_of
  refine ⟨_, fd, _, T.g_shared_of, fn_sem (k := 1) (f := b_shared_of) F sc_shared_of ?_, F.kp, F.bindsN (ps := ["one", "other", "way"]) fun _ _ _ _ _ _ us hl => match us, hl with | [_, _, _], _ => rfl⟩
  intro cdv A outer s H E hr tk hp
  exact (ss_cons (ss_asg (se_call d_size_of (hr.mono (by decide)) tk (sa_cons (se_v 0) sa_nil)) (sg_tp (sgs_cons (sg_nm (i := 3) sc_shared_of.nd) (sgs_cons (sg_nm (i := 4) sc_shared_of.nd) sgs_nil)))) (ss_cons (ss_asg (se_call d_size_of (hr.mono (by decide)) tk (sa_cons (se_v 1) sa_nil)) (sg_tp (sgs_cons (sg_nm (i := 5) sc_shared_of.nd) (sgs_cons (sg_nm (i := 6) sc_shared_of.nd) sgs_nil)))) (ss_cons (ss_par (i := 7) (j := 8) sc_shared_of.nd (by decide) (sa_cons (se_cb (cl_max2 rfl) T.free_max (sba_cons (seb se_int) (sba_cons (seb (se_ix (seb (se_v 2)) (seb se_int))) sba_nil))) (sa_cons (se_cb (cl_max2 rfl) T.free_max (sba_cons (seb se_int) (sba_cons (seb (se_ix (seb (se_v 2)) (seb se_int))) sba_nil))) sa_nil)) (by rfl)) (ss_cons (ss_par (i := 9) (j := 10) sc_shared_of.nd (by decide) (sa_cons (se_cb (cl_min2 rfl) T.free_min (sba_cons (seb (se_v 3)) (sba_cons (seb (se_op op_addD (seb (se_ix (seb (se_v 2)) (seb se_int))) (seb (se_v 5)))) sba_nil))) (sa_cons (se_cb (cl_min2 rfl) T.free_min (sba_cons (seb (se_v 4)) (sba_cons (seb (se_op op_addD (seb (se_ix (seb (se_v 2)) (seb se_int))) (seb (se_v 6)))) sba_nil))) sa_nil)) (by rfl)) (ss_one (ss_ret (se_if (st_w (sw_and (st_cmp op_ltD (fun _ _ _ => cmpF_b) (seb (se_v 7)) (seb (se_v 9))) (sw_and1 (st_cmp op_ltD (fun _ _ _ => cmpF_b) (seb (se_v 8)) (seb (se_v 10)))))) (se_tup (sa_cons (se_v 7) (sa_cons (se_v 8) (sa_cons (se_op op_subD (seb (se_v 9)) (seb (se_v 7))) (sa_cons (se_op op_subD (seb (se_v 10)) (seb (se_v 8))) sa_nil))))) se_non)))))))
theorem ok_steps_of (T : Tx K mg) (d_shared_of : Dn P w K mg base "shared_of" 2 3 sem_shared_of) : Dn P w K mg base "steps_of" 3 3 sem_steps_of := by
  obtain ⟨fd, F⟩ := T.f_steps_of
  refine ⟨_, fd, _, T.g_steps_of, fn_sem (k := 2) (f := b_steps_of) F sc_steps_of ?_, F.kp, F.bindsN (ps := ["one", "other", "way"]) fun _ _ _ _ _ _ us hl => match us, hl with | [_, _, _], _ => rfl⟩
  intro cdv A outer s H E hr tk hp
  exact (ss_cons (ss_set (i := 3) sc_steps_of.nd (se_call d_shared_of (hr.mono (by decide)) tk (sa_cons (se_v 0) (sa_cons (se_v 1) (sa_cons (se_v 2) sa_nil))))) (ss_cons (ss_if (st_cmp op_isX (fun _ _ _ => isF_b) (seb (se_v 3)) (seb se_non)) (ss_one (ss_ret (sne (sn_lst sa_nil)))) ss_nil) (ss_cons (ss_asg (se_v 3) (sg_tp (sgs_cons (sg_nm (i := 4) sc_steps_of.nd) (sgs_cons (sg_nm (i := 5) sc_steps_of.nd) (sgs_cons (sg_nm (i := 6) sc_steps_of.nd) (sgs_cons (sg_nm (i := 7) sc_steps_of.nd) sgs_nil)))))) (ss_cons (ss_own (i := 8) sc_steps_of.nd (sn_lst sa_nil)) (ss_cons (ss_for (f := lp_steps_of_1) hp (sis_range2 T.free_range (sba_cons (seb (se_v 5)) (sba_cons (seb (se_op op_addD (seb (se_v 5)) (seb (se_v 7)))) sba_nil))) (sg_nm (i := 9) sc_steps_of.nd) (ss_one (ss_ext 8 (snb (sn_lc (own := [("x", 10)]) sc_steps_of.nd (si_range2 T.free_range (sba_cons (seb (se_v 4)) (sba_cons (seb (se_op op_addD (seb (se_v 4)) (seb (se_v 6)))) sba_nil))) (blkOk_by (own := [("x", 10)]) (by kernel_rfl)) (fun _ _ _ _ _ => (sg_nm (i := 10) sc_steps_of.nd)) (fun _ _ _ _ _ => sts_nil) (fun _ _ _ _ _ => (se_op op_subD (seb (se_ix (seb (se_ix (seb (se_v 0)) (seb (se_v 9)))) (seb (se_v 10)))) (seb (se_ix (seb (se_ix (seb (se_v 1)) (seb (se_op op_subD (seb (se_v 9)) (seb (se_ix (seb (se_v 2)) (seb se_int))))))) (seb (se_op op_subD (seb (se_v 10)) (seb (se_ix (seb (se_v 2)) (seb se_int)))))))))))))) (ss_one (ss_retV 8)))))))
theorem ok_unlike_of (T : Tx K mg) (d_steps_of : Dn P w K mg base "steps_of" 3 3 sem_steps_of) (d_least : Dn P w K mg base "least" 2 2 sem_least) : Dn P w K mg base "unlike_of" 4 3 sem_unlike_of := by
  obtain ⟨fd, F⟩ := T.f_unlike_of
  refine ⟨_, fd, _, T.g_unlike_of, fn_sem (k := 3) (f := b_unlike_of) F sc_unlike_of ?_, F.kp, F.bindsN (ps := ["one", "other", "way"]) fun _ _ _ _ _ _ us hl => match us, hl with | [_, _, _], _ => rfl⟩
  intro cdv A outer s H E hr tk hp
  exact (ss_cons (ss_set (i := 3) sc_unlike_of.nd (se_call d_steps_of (hr.mono (by decide)) tk (sa_cons (se_v 0) (sa_cons (se_v 1) (sa_cons (se_v 2) sa_nil))))) (ss_cons (ss_if (st_not (st_tru (seb (se_v 3)))) (ss_one (ss_ret se_non)) ss_nil) (ss_cons (ss_set (i := 4) sc_unlike_of.nd (se_cb cl_len T.free_len (sba_cons (seb (se_v 3)) sba_nil))) (ss_one (ss_ret (se_call d_least (hr.mono (by decide)) tk (sa_cons (se_op op_subD (seb (se_op op_mulD (seb (se_v 4)) (seb (se_cb (cl_sum rfl) T.free_sum (sba_cons (snb (sn_lc (own := [("step", 5)]) sc_unlike_of.nd (si_seq (seb (se_v 3))) (blkOk_by (own := [("step", 5)]) (by kernel_rfl)) (fun _ _ _ _ _ => (sg_nm (i := 5) sc_unlike_of.nd)) (fun _ _ _ _ _ => sts_nil) (fun _ _ _ _ _ => (se_op op_mulD (seb (se_v 5)) (seb (se_v 5)))))) sba_nil))))) (seb (se_op op_mulD (seb (se_cb (cl_sum rfl) T.free_sum (sba_cons (seb (se_v 3)) sba_nil))) (seb (se_cb (cl_sum rfl) T.free_sum (sba_cons (seb (se_v 3)) sba_nil)))))) (sa_cons (se_op op_mulD (seb (se_v 4)) (seb (se_v 4))) sa_nil))))))))
theorem ok_all_ways (T : Tx K mg) (d_size_of : Dn P w K mg base "size_of" 1 1 sem_size_of) : Dn P w K mg base "all_ways" 2 2 sem_all_ways := by
  obtain ⟨fd, F⟩ := T.f_all_ways
  refine ⟨_, fd, _, T.g_all_ways, fn_sem (k := 1) (f := b_all_ways) F sc_all_ways ?_, F.kp, F.bindsN (ps := ["one", "other"]) fun _ _ _ _ _ _ us hl => match us, hl with | [_, _], _ => rfl⟩
  intro cdv A outer s H E hr tk hp
  exact (ss_cons (ss_asg (se_call d_size_of (hr.mono (by decide)) tk (sa_cons (se_v 0) sa_nil)) (sg_tp (sgs_cons (sg_nm (i := 2) sc_all_ways.nd) (sgs_cons (sg_nm (i := 3) sc_all_ways.nd) sgs_nil)))) (ss_cons (ss_asg (se_call d_size_of (hr.mono (by decide)) tk (sa_cons (se_v 1) sa_nil)) (sg_tp (sgs_cons (sg_nm (i := 4) sc_all_ways.nd) (sgs_cons (sg_nm (i := 5) sc_all_ways.nd) sgs_nil)))) (ss_one (ss_ret (sne (sn_lc2 (own := [("x", 6), ("y", 7)]) [7] sc_all_ways.nd (si_range2 T.free_range (sba_cons (seb (se_op op_subD (seb se_int) (seb (se_v 4)))) (sba_cons (seb (se_v 2)) sba_nil))) (blkOk_by (own := [("x", 6), ("y", 7)]) (by kernel_rfl)) (fun _ _ _ _ _ => (sg_nm (i := 6) sc_all_ways.nd)) (fun _ _ _ _ _ => sts_nil) (fun _ _ _ _ _ => (sis_range2 T.free_range (sba_cons (seb (se_op op_subD (seb se_int) (seb (se_v 5)))) (sba_cons (seb (se_v 3)) sba_nil)))) (fun _ _ _ _ _ => (sg_nm (i := 7) sc_all_ways.nd)) (fun _ _ _ _ _ => sts_nil) (fun _ _ _ _ _ => (se_tup (sa_cons (se_v 6) (sa_cons (se_v 7) sa_nil))))))))))
theorem ok_best_of (T : Tx K mg) (d_all_ways : Dn P w K mg base "all_ways" 2 2 sem_all_ways) (d_steps_of : Dn P w K mg base "steps_of" 3 3 sem_steps_of) (d_unlike_of : Dn P w K mg base "unlike_of" 4 3 sem_unlike_of) (d_is_less : Dn P w K mg base "is_less" 1 2 sem_is_less) : Dn P w K mg base "best_of" 5 3 sem_best_of := by
  obtain ⟨fd, F⟩ := T.f_best_of
  refine ⟨_, fd, _, T.g_best_of, fn_sem (k := 4) (f := b_best_of) F sc_best_of ?_, F.kp, F.bindsN (ps := ["one", "other", "cells"]) fun _ _ _ _ _ _ us hl => match us, hl with | [_, _, _], _ => rfl⟩
  intro cdv A outer s H E hr tk hp
  exact (ss_cons (ss_set (i := 3) sc_best_of.nd se_non) (ss_cons (ss_for (f := lp_best_of_1) hp (sis_seq (se_call d_all_ways (hr.mono (by decide)) tk (sa_cons (se_v 0) (sa_cons (se_v 1) sa_nil)))) (sg_nm (i := 4) sc_best_of.nd) (ss_cons (ss_set (i := 5) sc_best_of.nd (se_cb cl_len T.free_len (sba_cons (seb (se_call d_steps_of (hr.mono (by decide)) tk (sa_cons (se_v 0) (sa_cons (se_v 1) (sa_cons (se_v 4) sa_nil))))) sba_nil))) (ss_one (ss_if (st_cmp op_geD (fun _ _ _ => cmpF_b) (seb (se_v 5)) (seb (se_v 2))) (ss_cons (ss_set (i := 6) sc_best_of.nd (se_call d_unlike_of (hr.mono (by decide)) tk (sa_cons (se_v 0) (sa_cons (se_v 1) (sa_cons (se_v 4) sa_nil))))) (ss_one (ss_if (st_w (sw_or (st_cmp op_isX (fun _ _ _ => isF_b) (seb (se_v 3)) (seb se_non)) (sw_or (st_tru (seb (se_call d_is_less (hr.mono (by decide)) tk (sa_cons (se_v 6) (sa_cons (se_ix (seb (se_v 3)) (seb se_int)) sa_nil))))) (sw_or1 (st_w (sw_and (st_cmp (op_eqX hr) (fun _ _ _ => eqF_b) (seb (se_v 6)) (seb (se_ix (seb (se_v 3)) (seb se_int)))) (sw_and1 (st_cmp op_gtD (fun _ _ _ => cmpF_b) (seb (se_v 5)) (seb (se_ix (seb (se_v 3)) (seb se_int))))))))))) (ss_one (ss_set (i := 3) sc_best_of.nd (se_tup (sa_cons (se_v 4) (sa_cons (se_v 6) (sa_cons (se_v 5) sa_nil)))))) ss_nil))) ss_nil)))) (ss_one (ss_ret (se_if (st_cmp op_isX (fun _ _ _ => isF_b) (seb (se_v 3)) (seb se_non)) se_non (se_sl (seb (se_v 3)) so_none (so_some (seb se_int))))))))
theorem ok_look_cells (T : Tx K mg) (d_is_within : Dn P w K mg base "is_within" 1 3 sem_is_within) : Dn P w K mg base "look_cells" 2 1 sem_look_cells := by
  obtain ⟨fd, F⟩ := T.f_look_cells
  refine ⟨_, fd, _, T.g_look_cells, fn_sem (k := 1) (f := b_look_cells) F sc_look_cells ?_, F.kp, F.bindsN (ps := ["cells"]) fun _ _ _ _ _ _ us hl => match us, hl with | [_], _ => rfl⟩
  intro cdv A outer s H E hr tk hp
  exact (ss_one (ss_if (st_not (st_tru (seb (se_call d_is_within (hr.mono (by decide)) tk (sa_cons (se_v 0) (sa_cons se_int (sa_cons (se_globI T.c_MOST_CELLS) sa_nil))))))) (ss_one (ss_raise tk T.x_BadCount)) ss_nil))
theorem ok_best_way (T : Tx K mg) (d_look : Dn P w K mg base "look" 4 1 sem_look) (d_look_cells : Dn P w K mg base "look_cells" 2 1 sem_look_cells) (d_best_of : Dn P w K mg base "best_of" 5 3 sem_best_of) : Dk P w K mg base "best_way" 6 2 ["cells"] sem_best_way := by
  obtain ⟨fd, F⟩ := T.f_best_way
  refine ⟨_, fd, _, T.g_best_way, fn_sem (k := 5) (f := b_best_way) F sc_best_way ?_, F.kp, kbindsN (ps := ["one", "other", "cells"]) F 2 ["cells"] fun _ _ _ _ _ _ us ws hl hm => match us, ws, hl, hm with | [_, _], [_], _, _ => rfl⟩
  intro cdv A outer s H E hr tk hp
  exact (ss_cons (ss_drop (se_call d_look (hr.mono (by decide)) tk (sa_cons (se_v 0) sa_nil))) (ss_cons (ss_drop (se_call d_look (hr.mono (by decide)) tk (sa_cons (se_v 1) sa_nil))) (ss_cons (ss_drop (se_call d_look_cells (hr.mono (by decide)) tk (sa_cons (se_v 2) sa_nil))) (ss_one (ss_ret (se_call d_best_of (hr.mono (by decide)) tk (sa_cons (se_v 0) (sa_cons (se_v 1) (sa_cons (se_v 2) sa_nil)))))))))
theorem ok__law_cell (T : Tx K mg)  : Dn P w K mg base "_law_cell" 1 2 sem__law_cell := by
  obtain ⟨fd, F⟩ := T.f__law_cell
  refine ⟨_, fd, _, T.g__law_cell, fn_sem (k := 0) (f := b__law_cell) F sc__law_cell ?_, F.kp, F.bindsN (ps := ["script", "k"]) fun _ _ _ _ _ _ us hl => match us, hl with | [_, _], _ => rfl⟩
  intro cdv A outer s H E hr tk hp
  exact (ss_cons (ss_if (st_cmp op_ltD (fun _ _ _ => cmpF_b) (seb (se_v 1)) (seb (se_cb cl_len T.free_len (sba_cons (seb (se_v 0)) sba_nil)))) (ss_one (ss_ret (se_ix (seb (se_v 0)) (seb (se_v 1))))) ss_nil) (ss_one (ss_ret se_int)))
theorem ok__law_row (T : Tx K mg) (d__law_cell : Dn P w K mg base "_law_cell" 1 2 sem__law_cell) : Dn P w K mg base "_law_row" 2 2 sem__law_row := by
  obtain ⟨fd, F⟩ := T.f__law_row
  refine ⟨_, fd, _, T.g__law_row, fn_sem (k := 1) (f := b__law_row) F sc__law_row ?_, F.kp, F.bindsN (ps := ["script", "at"]) fun _ _ _ _ _ _ us hl => match us, hl with | [_, _], _ => rfl⟩
  intro cdv A outer s H E hr tk hp
  exact (ss_cons (ss_set (i := 2) sc__law_row.nd (se_call d__law_cell (hr.mono (by decide)) tk (sa_cons (se_v 0) (sa_cons (se_v 1) sa_nil)))) (ss_cons (ss_own (i := 3) sc__law_row.nd (sn_lst sa_nil)) (ss_cons (ss_for (f := lp__law_row_1) hp (sis_range1 T.free_range (sba_cons (seb se_int) sba_nil)) (sg_nm (i := 4) sc__law_row.nd) (ss_one (ss_if (st_cmp op_ltD (fun _ _ _ => cmpF_b) (seb (se_call d__law_cell (hr.mono (by decide)) tk (sa_cons (se_v 0) (sa_cons (se_v 1) sa_nil)))) (seb (se_op op_powD (seb se_int) (seb se_int)))) (ss_cons (ss_set (i := 2) sc__law_row.nd (se_op op_modD (seb (se_op op_addD (seb (se_op op_addD (seb (se_op op_addD (seb (se_op op_mulD (seb (se_v 2)) (seb se_int))) (seb (se_op op_mulD (seb se_int) (seb (se_v 4)))))) (seb se_int))) (seb (se_call d__law_cell (hr.mono (by decide)) tk (sa_cons (se_v 0) (sa_cons (se_op op_modD (seb (se_op op_addD (seb (se_op op_addD (seb (se_v 1)) (seb se_int))) (seb (se_v 4)))) (seb se_int)) sa_nil)))))) (seb se_int))) (ss_one (ss_app 3 (se_op op_modD (seb (se_op op_divD (seb (se_v 2)) (seb se_int))) (seb se_int))))) (ss_cons (ss_app 3 (se_op op_modD (seb (se_v 2)) (seb se_int))) (ss_one (ss_set (i := 2) sc__law_row.nd (se_op op_divD (seb (se_v 2)) (seb se_int)))))))) (ss_one (ss_retV 3)))))
theorem ok__law_common (T : Tx K mg)  : Dn P w K mg base "_law_common" 1 2 sem__law_common := by
  obtain ⟨fd, F⟩ := T.f__law_common
  refine ⟨_, fd, _, T.g__law_common, fn_sem (k := 0) (f := b__law_common) F sc__law_common ?_, F.kp, F.bindsN (ps := ["one", "other"]) fun _ _ _ _ _ _ us hl => match us, hl with | [_, _], _ => rfl⟩
  intro cdv A outer s H E hr tk hp
  exact (ss_cons (ss_while (f := lp__law_common_1) 1000000 hp (st_cmp (op_neX hr) (fun _ _ _ => neF_b) (seb (se_v 1)) (seb se_int)) (ss_one (ss_par (i := 0) (j := 1) sc__law_common.nd (by decide) (sa_cons (se_v 1) (sa_cons (se_op op_modD (seb (se_v 0)) (seb (se_v 1))) sa_nil)) (by rfl)))) (ss_one (ss_ret (se_cb cl_abs T.free_abs (sba_cons (seb (se_v 0)) sba_nil)))))
theorem ok__law_least (T : Tx K mg) (d__law_common : Dn P w K mg base "_law_common" 1 2 sem__law_common) : Dn P w K mg base "_law_least" 2 2 sem__law_least := by
  obtain ⟨fd, F⟩ := T.f__law_least
  refine ⟨_, fd, _, T.g__law_least, fn_sem (k := 1) (f := b__law_least) F sc__law_least ?_, F.kp, F.bindsN (ps := ["top", "bottom"]) fun _ _ _ _ _ _ us hl => match us, hl with | [_, _], _ => rfl⟩
  intro cdv A outer s H E hr tk hp
  exact (ss_cons (ss_set (i := 2) sc__law_least.nd (se_call d__law_common (hr.mono (by decide)) tk (sa_cons (se_v 0) (sa_cons (se_v 1) sa_nil)))) (ss_cons (ss_set (i := 2) sc__law_least.nd (se_if (st_cmp op_ltD (fun _ _ _ => cmpF_b) (seb (se_v 1)) (seb se_int)) (se_un un_negD (seb (se_v 2))) (se_v 2))) (ss_one (ss_ret (se_tup (sa_cons (se_op op_divD (seb (se_v 0)) (seb (se_v 2))) (sa_cons (se_op op_divD (seb (se_v 1)) (seb (se_v 2))) sa_nil)))))))
theorem ok__law_plus (T : Tx K mg) (d__law_least : Dn P w K mg base "_law_least" 2 2 sem__law_least) : Dn P w K mg base "_law_plus" 3 2 sem__law_plus := by
  obtain ⟨fd, F⟩ := T.f__law_plus
  refine ⟨_, fd, _, T.g__law_plus, fn_sem (k := 2) (f := b__law_plus) F sc__law_plus ?_, F.kp, F.bindsN (ps := ["one", "other"]) fun _ _ _ _ _ _ us hl => match us, hl with | [_, _], _ => rfl⟩
  intro cdv A outer s H E hr tk hp
  exact (ss_one (ss_ret (se_call d__law_least (hr.mono (by decide)) tk (sa_cons (se_op op_addD (seb (se_op op_mulD (seb (se_ix (seb (se_v 0)) (seb se_int))) (seb (se_ix (seb (se_v 1)) (seb se_int))))) (seb (se_op op_mulD (seb (se_ix (seb (se_v 1)) (seb se_int))) (seb (se_ix (seb (se_v 0)) (seb se_int)))))) (sa_cons (se_op op_mulD (seb (se_ix (seb (se_v 0)) (seb se_int))) (seb (se_ix (seb (se_v 1)) (seb se_int)))) sa_nil)))))
theorem ok__law_times (T : Tx K mg) (d__law_least : Dn P w K mg base "_law_least" 2 2 sem__law_least) : Dn P w K mg base "_law_times" 3 2 sem__law_times := by
  obtain ⟨fd, F⟩ := T.f__law_times
  refine ⟨_, fd, _, T.g__law_times, fn_sem (k := 2) (f := b__law_times) F sc__law_times ?_, F.kp, F.bindsN (ps := ["one", "other"]) fun _ _ _ _ _ _ us hl => match us, hl with | [_, _], _ => rfl⟩
  intro cdv A outer s H E hr tk hp
  exact (ss_one (ss_ret (se_call d__law_least (hr.mono (by decide)) tk (sa_cons (se_op op_mulD (seb (se_ix (seb (se_v 0)) (seb se_int))) (seb (se_ix (seb (se_v 1)) (seb se_int)))) (sa_cons (se_op op_mulD (seb (se_ix (seb (se_v 0)) (seb se_int))) (seb (se_ix (seb (se_v 1)) (seb se_int)))) sa_nil)))))
theorem ok__law_below (T : Tx K mg)  : Dn P w K mg base "_law_below" 1 2 sem__law_below := by
  obtain ⟨fd, F⟩ := T.f__law_below
  refine ⟨_, fd, _, T.g__law_below, fn_sem (k := 0) (f := b__law_below) F sc__law_below ?_, F.kp, F.bindsN (ps := ["one", "other"]) fun _ _ _ _ _ _ us hl => match us, hl with | [_, _], _ => rfl⟩
  intro cdv A outer s H E hr tk hp
  exact (ss_one (ss_ret (se_cmp op_ltD (seb (se_op op_mulD (seb (se_ix (seb (se_v 0)) (seb se_int))) (seb (se_ix (seb (se_v 1)) (seb se_int))))) (seb (se_op op_mulD (seb (se_ix (seb (se_v 1)) (seb se_int))) (seb (se_ix (seb (se_v 0)) (seb se_int))))))))
theorem ok__law_shot (T : Tx K mg)  : Dn P w K mg base "_law_shot" 1 3 sem__law_shot := by
  obtain ⟨fd, F⟩ := T.f__law_shot
  refine ⟨_, fd, _, T.g__law_shot, fn_sem (k := 0) (f := b__law_shot) F sc__law_shot ?_, F.kp, F.bindsN (ps := ["row", "at", "way"]) fun _ _ _ _ _ _ us hl => match us, hl with | [_, _, _], _ => rfl⟩
  intro cdv A outer s H E hr tk hp
  exact (ss_cons (ss_par (i := 3) (j := 4) sc__law_shot.nd (by decide) (sa_cons (se_op op_addD (seb se_int) (seb (se_op op_modD (seb (se_ix (seb (se_v 0)) (seb (se_op op_modD (seb (se_v 1)) (seb se_int))))) (seb se_int)))) (sa_cons (se_op op_addD (seb se_int) (seb (se_op op_modD (seb (se_op op_divD (seb (se_ix (seb (se_v 0)) (seb (se_op op_modD (seb (se_op op_addD (seb (se_v 1)) (seb se_int))) (seb se_int))))) (seb se_int))) (seb se_int)))) sa_nil)) (by rfl)) (ss_cons (ss_own (i := 5) sc__law_shot.nd (sn_lst sa_nil)) (ss_cons (ss_for (f := lp__law_shot_2) hp (sis_range1 T.free_range (sba_cons (seb (se_v 3)) sba_nil)) (sg_nm (i := 6) sc__law_shot.nd) (ss_cons (ss_own (i := 7) sc__law_shot.nd (sn_lst sa_nil)) (ss_cons (ss_for (f := lp__law_shot_1) hp (sis_range1 T.free_range (sba_cons (seb (se_v 4)) sba_nil)) (sg_nm (i := 8) sc__law_shot.nd) (ss_cons (ss_set (i := 9) sc__law_shot.nd (se_ix (seb (se_v 0)) (seb (se_op op_modD (seb (se_op op_addD (seb (se_op op_addD (seb (se_op op_addD (seb (se_v 1)) (seb se_int))) (seb (se_op op_mulD (seb se_int) (seb (se_v 6)))))) (seb (se_v 8)))) (seb se_int))))) (ss_one (ss_app 7 (se_ix (snb (sn_lst (sa_cons (se_op op_modD (seb (se_op op_mulD (seb (se_v 9)) (seb se_int))) (seb se_int)) (sa_cons (se_op op_mulD (seb (se_op op_modD (seb (se_v 9)) (seb se_int))) (seb se_int)) (sa_cons (se_op op_modD (seb (se_ix (seb (se_v 0)) (seb (se_op op_modD (seb (se_v 1)) (seb se_int))))) (seb se_int)) sa_nil))))) (seb (se_op op_modD (seb (se_v 2)) (seb se_int)))))))) (ss_one (ss_app 5 (se_ct cl_tup T.free_tuple (sba_cons (sb_v 7) sba_nil))))))) (ss_one (ss_ret (se_ct cl_tup T.free_tuple (sba_cons (sb_v 5) sba_nil)))))))
theorem ok__law_ground (T : Tx K mg) (d__law_row : Dn P w K mg base "_law_row" 2 2 sem__law_row) : Dn P w K mg base "_law_ground" 3 2 sem__law_ground := by
  obtain ⟨fd, F⟩ := T.f__law_ground
  refine ⟨_, fd, _, T.g__law_ground, fn_sem (k := 2) (f := b__law_ground) F sc__law_ground ?_, F.kp, F.bindsN (ps := ["script", "at"]) fun _ _ _ _ _ _ us hl => match us, hl with | [_, _], _ => rfl⟩
  intro cdv A outer s H E hr tk hp
  exact (ss_cons (ss_set (i := 2) sc__law_ground.nd (se_call d__law_row (hr.mono (by decide)) tk (sa_cons (se_v 0) (sa_cons (se_v 1) sa_nil)))) (ss_cons (ss_set (i := 3) sc__law_ground.nd (se_ix (snb (sn_lst (sa_cons se_int (sa_cons se_int (sa_cons se_int sa_nil))))) (seb (se_op op_modD (seb (se_ix (seb (se_v 2)) (seb se_int))) (seb se_int))))) (ss_cons (ss_own (i := 4) sc__law_ground.nd (sn_lst sa_nil)) (ss_cons (ss_for (f := lp__law_ground_2) hp (sis_range1 T.free_range (sba_cons (seb se_int) sba_nil)) (sg_nm (i := 5) sc__law_ground.nd) (ss_cons (ss_own (i := 6) sc__law_ground.nd (sn_lst sa_nil)) (ss_cons (ss_for (f := lp__law_ground_1) hp (sis_range1 T.free_range (sba_cons (seb se_int) sba_nil)) (sg_nm (i := 7) sc__law_ground.nd) (ss_cons (ss_set (i := 8) sc__law_ground.nd (se_op op_mulD (seb (se_ix (seb (se_v 2)) (seb (se_op op_modD (seb (se_op op_addD (seb (se_op op_mulD (seb se_int) (seb (se_v 5)))) (seb (se_op op_mulD (seb se_int) (seb (se_v 7)))))) (seb se_int))))) (seb (se_v 3)))) (ss_one (ss_app 6 (se_op op_modD (seb (se_op op_addD (seb (se_op op_addD (seb (se_v 8)) (seb (se_op op_mulD (seb (se_v 7)) (seb (se_ix (seb (se_v 2)) (seb se_int))))))) (seb (se_op op_mulD (seb (se_v 5)) (seb se_int))))) (seb se_int)))))) (ss_one (ss_app 4 (se_ct cl_tup T.free_tuple (sba_cons (sb_v 6) sba_nil))))))) (ss_one (ss_ret (se_ct cl_tup T.free_tuple (sba_cons (sb_v 4) sba_nil))))))))
theorem ok__law_scene (T : Tx K mg) (d__law_ground : Dn P w K mg base "_law_ground" 3 2 sem__law_ground) (d__law_row : Dn P w K mg base "_law_row" 2 2 sem__law_row) : Dn P w K mg base "_law_scene" 4 2 sem__law_scene := by
  obtain ⟨fd, F⟩ := T.f__law_scene
  refine ⟨_, fd, _, T.g__law_scene, fn_sem (k := 3) (f := b__law_scene) F sc__law_scene ?_, F.kp, F.bindsN (ps := ["script", "at"]) fun _ _ _ _ _ _ us hl => match us, hl with | [_, _], _ => rfl⟩
  intro cdv A outer s H E hr tk hp
  exact (ss_cons (ss_set (i := 2) sc__law_scene.nd (se_call d__law_ground (hr.mono (by decide)) tk (sa_cons (se_v 0) (sa_cons (se_v 1) sa_nil)))) (ss_cons (ss_set (i := 3) sc__law_scene.nd (se_call d__law_row (hr.mono (by decide)) tk (sa_cons (se_v 0) (sa_cons (se_op op_addD (seb (se_v 1)) (seb se_int)) sa_nil)))) (ss_cons (ss_own (i := 4) sc__law_scene.nd (sn_lst (sa_cons (se_tup (sa_cons (se_op op_modD (seb (se_ix (seb (se_v 3)) (seb se_int))) (seb se_int)) (sa_cons (se_op op_modD (seb (se_ix (seb (se_v 3)) (seb se_int))) (seb se_int)) sa_nil))) sa_nil))) (ss_cons (ss_own (i := 5) sc__law_scene.nd (sn_lst (sa_cons (se_tup (sa_cons (se_op op_addD (seb se_int) (seb (se_op op_modD (seb (se_ix (seb (se_v 3)) (seb se_int))) (seb se_int)))) (sa_cons (se_op op_addD (seb se_int) (seb (se_op op_modD (seb (se_ix (seb (se_v 3)) (seb se_int))) (seb se_int)))) sa_nil))) sa_nil))) (ss_cons (ss_for (f := lp__law_scene_1) hp (sis_range1 T.free_range (sba_cons (seb (se_op op_addD (seb se_int) (seb (se_op op_modD (seb (se_ix (seb (se_v 3)) (seb se_int))) (seb se_int))))) sba_nil)) (sg_nm (i := 6) sc__law_scene.nd) (ss_cons (ss_set (i := 7) sc__law_scene.nd (se_op op_addD (seb se_int) (seb (se_op op_mulD (seb se_int) (seb (se_v 6)))))) (ss_cons (ss_asg (se_ix (sb_v 4) (seb (se_op op_modD (seb (se_ix (seb (se_v 3)) (seb (se_v 7)))) (seb (se_cb cl_len T.free_len (sba_cons (sb_v 4) sba_nil)))))) (sg_tp (sgs_cons (sg_nm (i := 8) sc__law_scene.nd) (sgs_cons (sg_nm (i := 9) sc__law_scene.nd) sgs_nil)))) (ss_cons (ss_asg (se_tup (sa_cons (se_op op_addD (seb se_int) (seb (se_op op_modD (seb (se_ix (seb (se_v 3)) (seb (se_op op_addD (seb (se_v 7)) (seb se_int))))) (seb se_int)))) (sa_cons (se_op op_addD (seb se_int) (seb (se_op op_modD (seb (se_ix (seb (se_v 3)) (seb (se_op op_addD (seb (se_v 7)) (seb se_int))))) (seb se_int)))) sa_nil))) (sg_tp (sgs_cons (sg_nm (i := 10) sc__law_scene.nd) (sgs_cons (sg_nm (i := 11) sc__law_scene.nd) sgs_nil)))) (ss_cons (ss_asg (se_tup (sa_cons (se_cb (cl_max2 rfl) T.free_max (sba_cons (seb (se_op op_subD (seb (se_op op_addD (seb (se_v 8)) (seb (se_op op_modD (seb (se_ix (seb (se_v 3)) (seb (se_op op_addD (seb (se_v 7)) (seb se_int))))) (seb se_int))))) (seb se_int))) (sba_cons (seb se_int) sba_nil))) (sa_cons (se_cb (cl_max2 rfl) T.free_max (sba_cons (seb (se_op op_subD (seb (se_op op_addD (seb (se_v 9)) (seb (se_op op_modD (seb (se_ix (seb (se_v 3)) (seb (se_op op_addD (seb (se_v 7)) (seb se_int))))) (seb se_int))))) (seb se_int))) (sba_cons (seb se_int) sba_nil))) sa_nil))) (sg_tp (sgs_cons (sg_nm (i := 8) sc__law_scene.nd) (sgs_cons (sg_nm (i := 9) sc__law_scene.nd) sgs_nil)))) (ss_cons (ss_app 4 (se_tup (sa_cons (se_cb (cl_min2 rfl) T.free_min (sba_cons (seb (se_v 8)) (sba_cons (seb (se_op op_subD (seb se_int) (seb (se_v 10)))) sba_nil))) (sa_cons (se_cb (cl_min2 rfl) T.free_min (sba_cons (seb (se_v 9)) (sba_cons (seb (se_op op_subD (seb se_int) (seb (se_v 11)))) sba_nil))) sa_nil)))) (ss_one (ss_app 5 (se_tup (sa_cons (se_v 10) (sa_cons (se_v 11) sa_nil))))))))))) (ss_cons (ss_own (i := 12) sc__law_scene.nd (sn_lst sa_nil)) (ss_frz 4 (ss_frz 5 (ss_cons (ss_for (f := lp__law_scene_2) hp (sis_zip T.free_zip (sa_cons (se_v 4) (sa_cons (se_v 5) sa_nil))) (sg_tp (sgs_cons (sg_tp (sgs_cons (sg_nm (i := 8) sc__law_scene.nd) (sgs_cons (sg_nm (i := 9) sc__law_scene.nd) sgs_nil))) (sgs_cons (sg_tp (sgs_cons (sg_nm (i := 10) sc__law_scene.nd) (sgs_cons (sg_nm (i := 11) sc__law_scene.nd) sgs_nil))) sgs_nil))) (ss_cons (ss_set (i := 13) sc__law_scene.nd (se_if (st_cmp (op_eqX hr) (fun _ _ _ => eqF_b) (seb (se_op op_modD (seb (se_ix (seb (se_v 3)) (seb se_int))) (seb se_int))) (seb se_int)) (se_op op_modD (seb (se_ix (seb (se_v 3)) (seb (se_op op_addD (seb se_int) (seb (se_cb cl_len T.free_len (sba_cons (sb_v 12) sba_nil))))))) (seb se_int)) se_int)) (ss_one (ss_app 12 (se_ct cl_tup T.free_tuple (sba_cons (snb (sn_lc (own := [("line", 17)]) sc__law_scene.nd (si_seq (seb (se_sl (seb (se_v 2)) (so_some (seb (se_v 9))) (so_some (seb (se_op op_addD (seb (se_v 9)) (seb (se_v 11)))))))) (blkOk_by (own := [("line", 17)]) (by kernel_rfl)) (fun _ _ _ _ _ => (sg_nm (i := 17) sc__law_scene.nd)) (fun _ _ _ _ _ => sts_nil) (fun _ _ _ _ _ => (se_ct cl_tup T.free_tuple (sba_cons (snb (sn_lc (own := [("one", 18)]) sc__law_scene.nd (si_seq (seb (se_sl (seb (se_v 17)) (so_some (seb (se_v 8))) (so_some (seb (se_op op_addD (seb (se_v 8)) (seb (se_v 10)))))))) (blkOk_by (own := [("one", 18)]) (by kernel_rfl)) (fun _ _ _ _ _ => (sg_nm (i := 18) sc__law_scene.nd)) (fun _ _ _ _ _ => sts_nil) (fun _ _ _ _ _ => (se_op op_addD (seb (se_v 18)) (seb (se_v 13)))))) sba_nil))))) sba_nil)))))) (ss_cons (ss_asg (se_tup (sa_cons (se_cb (cl_min1 hr rfl) T.free_min (sba_cons (snb (sn_lc (own := [("place", 16)]) sc__law_scene.nd (si_seq (sb_v 4)) (blkOk_by (own := [("place", 16)]) (by kernel_rfl)) (fun _ _ _ _ _ => (sg_nm (i := 16) sc__law_scene.nd)) (fun _ _ _ _ _ => sts_nil) (fun _ _ _ _ _ => (se_ix (seb (se_v 16)) (seb se_int))))) sba_nil)) (sa_cons (se_cb (cl_min1 hr rfl) T.free_min (sba_cons (snb (sn_lc (own := [("place", 16)]) sc__law_scene.nd (si_seq (sb_v 4)) (blkOk_by (own := [("place", 16)]) (by kernel_rfl)) (fun _ _ _ _ _ => (sg_nm (i := 16) sc__law_scene.nd)) (fun _ _ _ _ _ => sts_nil) (fun _ _ _ _ _ => (se_ix (seb (se_v 16)) (seb se_int))))) sba_nil)) sa_nil))) (sg_tp (sgs_cons (sg_nm (i := 14) sc__law_scene.nd) (sgs_cons (sg_nm (i := 15) sc__law_scene.nd) sgs_nil)))) (ss_one (ss_ret (se_tup (sa_cons (se_ct cl_tup T.free_tuple (sba_cons (sb_v 12) sba_nil)) (sa_cons (se_ct cl_tup T.free_tuple (sba_cons (snb (sn_lc (own := [("x", 8), ("y", 9)]) sc__law_scene.nd (si_seq (sb_v 4)) (blkOk_by (own := [("x", 8), ("y", 9)]) (by kernel_rfl)) (fun _ _ _ _ _ => (sg_tp (sgs_cons (sg_nm (i := 8) sc__law_scene.nd) (sgs_cons (sg_nm (i := 9) sc__law_scene.nd) sgs_nil)))) (fun _ _ _ _ _ => sts_nil) (fun _ _ _ _ _ => (se_tup (sa_cons (se_op op_subD (seb (se_v 8)) (seb (se_v 14))) (sa_cons (se_op op_subD (seb (se_v 9)) (seb (se_v 15))) sa_nil)))))) sba_nil)) sa_nil)))))))))))))))
theorem ok__law_steps (T : Tx K mg)  : Dn P w K mg base "_law_steps" 1 3 sem__law_steps := by
  obtain ⟨fd, F⟩ := T.f__law_steps
  refine ⟨_, fd, _, T.g__law_steps, fn_sem (k := 0) (f := b__law_steps) F sc__law_steps ?_, F.kp, F.bindsN (ps := ["one", "other", "way"]) fun _ _ _ _ _ _ us hl => match us, hl with | [_, _, _], _ => rfl⟩
  intro cdv A outer s H E hr tk hp
  exact (ss_cons (ss_own (i := 3) sc__law_steps.nd sn_dt) (ss_cons (ss_for (f := lp__law_steps_2) hp (sis_range1 T.free_range (sba_cons (seb (se_cb cl_len T.free_len (sba_cons (seb (se_v 0)) sba_nil))) sba_nil)) (sg_nm (i := 4) sc__law_steps.nd) (ss_one (ss_for (f := lp__law_steps_1) hp (sis_range1 T.free_range (sba_cons (seb (se_cb cl_len T.free_len (sba_cons (seb (se_ix (seb (se_v 0)) (seb se_int))) sba_nil))) sba_nil)) (sg_nm (i := 5) sc__law_steps.nd) (ss_cons (ss_par (i := 6) (j := 7) sc__law_steps.nd (by decide) (sa_cons (se_op op_subD (seb (se_v 5)) (seb (se_ix (seb (se_v 2)) (seb se_int)))) (sa_cons (se_op op_subD (seb (se_v 4)) (seb (se_ix (seb (se_v 2)) (seb se_int)))) sa_nil)) (by rfl)) (ss_one (ss_if (st_w (sw_and (st_chain op_leD op_ltD (fun _ _ _ => cmpF_b) (fun _ _ _ => cmpF_b) (seb se_int) (seb (se_v 7)) (seb (se_cb cl_len T.free_len (sba_cons (seb (se_v 1)) sba_nil)))) (sw_and1 (st_chain op_leD op_ltD (fun _ _ _ => cmpF_b) (fun _ _ _ => cmpF_b) (seb se_int) (seb (se_v 6)) (seb (se_cb cl_len T.free_len (sba_cons (seb (se_ix (seb (se_v 1)) (seb se_int))) sba_nil))))))) (ss_one (ss_putD 3 hr (seb (se_tup (sa_cons (se_v 5) (sa_cons (se_v 4) sa_nil)))) (se_op op_subD (seb (se_ix (seb (se_ix (seb (se_v 0)) (seb (se_v 4)))) (seb (se_v 5)))) (seb (se_ix (seb (se_ix (seb (se_v 1)) (seb (se_v 7)))) (seb (se_v 6))))))) ss_nil)))))) (ss_one (ss_retV 3))))
theorem ok__law_unlike (T : Tx K mg) (d__law_least : Dn P w K mg base "_law_least" 2 2 sem__law_least) (d__law_plus : Dn P w K mg base "_law_plus" 3 2 sem__law_plus) (d__law_times : Dn P w K mg base "_law_times" 3 2 sem__law_times) : Dn P w K mg base "_law_unlike" 4 1 sem__law_unlike := by
  obtain ⟨fd, F⟩ := T.f__law_unlike
  refine ⟨_, fd, _, T.g__law_unlike, fn_sem (k := 3) (f := b__law_unlike) F sc__law_unlike ?_, F.kp, F.bindsN (ps := ["steps"]) fun _ _ _ _ _ _ us hl => match us, hl with | [_], _ => rfl⟩
  intro cdv A outer s H E hr tk hp
  exact (ss_cons (ss_setLc (i := 1) (own := [("key", 6)]) sc__law_unlike.nd (si_seq (snb (sn_cb (cl_sorted hr rfl) T.free_sorted (sba_cons (seb (se_v 0)) sba_nil)))) (blkOk_by (own := [("key", 6)]) (by kernel_rfl)) (fun _ _ _ _ _ => (sg_nm (i := 6) sc__law_unlike.nd)) (fun _ _ _ _ _ => sts_nil) (fun _ _ _ _ _ => (se_dix hr (seb (se_v 0)) (seb (se_v 6)))) (sw_true rfl rfl rfl (by kernel_rfl))) (ss_cons (ss_if (st_cmp (op_eqX hr) (fun _ _ _ => eqF_b) (seb (se_v 1)) (snb (sn_lst sa_nil))) (ss_one (ss_ret se_non)) ss_nil) (ss_cons (ss_set (i := 2) sc__law_unlike.nd (se_call d__law_least (hr.mono (by decide)) tk (sa_cons (se_cb (cl_sum rfl) T.free_sum (sba_cons (seb (se_v 1)) sba_nil)) (sa_cons (se_cb cl_len T.free_len (sba_cons (seb (se_v 1)) sba_nil)) sa_nil)))) (ss_cons (ss_set (i := 3) sc__law_unlike.nd (se_tup (sa_cons se_int (sa_cons se_int sa_nil)))) (ss_cons (ss_for (f := lp__law_unlike_1) hp (sis_seq (se_v 1)) (sg_nm (i := 4) sc__law_unlike.nd) (ss_cons (ss_set (i := 5) sc__law_unlike.nd (se_call d__law_plus (hr.mono (by decide)) tk (sa_cons (se_tup (sa_cons (se_v 4) (sa_cons se_int sa_nil))) (sa_cons (se_tup (sa_cons (se_un un_negD (seb (se_ix (seb (se_v 2)) (seb se_int)))) (sa_cons (se_ix (seb (se_v 2)) (seb se_int)) sa_nil))) sa_nil)))) (ss_one (ss_set (i := 3) sc__law_unlike.nd (se_call d__law_plus (hr.mono (by decide)) tk (sa_cons (se_v 3) (sa_cons (se_call d__law_times (hr.mono (by decide)) tk (sa_cons (se_v 5) (sa_cons (se_v 5) sa_nil))) sa_nil))))))) (ss_one (ss_ret (se_call d__law_times (hr.mono (by decide)) tk (sa_cons (se_v 3) (sa_cons (se_tup (sa_cons se_int (sa_cons (se_cb cl_len T.free_len (sba_cons (seb (se_v 1)) sba_nil)) sa_nil))) sa_nil))))))))))
theorem ok__law_count_refused (T : Tx K mg) (d_best_way : Dk P w K mg base "best_way" 6 2 ["cells"] sem_best_way) : Dn P w K mg base "_law_count_refused" 7 3 sem__law_count_refused := by
  obtain ⟨fd, F⟩ := T.f__law_count_refused
  refine ⟨_, fd, _, T.g__law_count_refused, fn_sem (k := 6) (f := b__law_count_refused) F sc__law_count_refused ?_, F.kp, F.bindsN (ps := ["one", "other", "count"]) fun _ _ _ _ _ _ us hl => match us, hl with | [_, _, _], _ => rfl⟩
  intro cdv A outer s H E hr tk hp
  exact (ss_cons (ss_tryAs (i := 3) sc__law_count_refused.nd tk T.xg_BadCount (hsub_BadCount T) (fun W pn xe tk hp => (ss_one (ss_drop (se_callK d_best_way (hr.mono (by decide)) tk (sa_cons (se_v 0) (sa_cons (se_v 1) sa_nil)) (sk_cons (se_v 2) sk_nil))))) (fun c a oe pn hc hz hf => by
    obtain rfl := only_BadCount c hc
    exact (us_ret (su_and (su_isi T.ec_BadCount hz hf T.free_isinstance T.xg_VastError (kit_of T.m_BadCount_VastError T.m_BadCount_BadCount)) (su_one (su_not (su_isi T.ec_BadCount hz hf T.free_isinstance T.xg_BadWay (kit_of T.m_BadCount_BadWay T.m_BadCount_BadCount)))))))) (ss_one (ss_ret se_bl)))
theorem ok_law (T : Tx K mg) {fd : FuncData} (F : FunD K "law" "law" (defArgs s_law) (defBody s_law) (defScope s_law) [] [] (He.ga K "law") fd) (d__law_row : Dn P w K mg base "_law_row" 2 2 sem__law_row) (d__law_scene : Dn P w K mg base "_law_scene" 4 2 sem__law_scene) (d__law_shot : Dn P w K mg base "_law_shot" 1 3 sem__law_shot) (d__law_steps : Dn P w K mg base "_law_steps" 1 3 sem__law_steps) (d__law_unlike : Dn P w K mg base "_law_unlike" 4 1 sem__law_unlike) (d__law_below : Dn P w K mg base "_law_below" 1 2 sem__law_below) (d_best_way : Dk P w K mg base "best_way" 6 2 ["cells"] sem_best_way) (d__law_count_refused : Dn P w K mg base "_law_count_refused" 7 3 sem__law_count_refused) : FnOk P w K mg base (L2.CX P w) 8 (He.ga K "law") fd ["script"] (spP K 1 sem_law) := by
  refine fn_sem (k := 7) (f := b_law) F sc_law ?_
  intro cdv A outer s H E hr tk hp
  exact (ss_cons (ss_set (i := 1) sc_law.nd (se_call d__law_row (hr.mono (by decide)) tk (sa_cons (se_v 0) (sa_cons se_int sa_nil)))) (ss_cons (ss_if (st_cmp (op_eqX hr) (fun _ _ _ => eqF_b) (seb (se_op op_modD (seb (se_ix (seb (se_v 1)) (seb se_int))) (seb se_int))) (seb se_int)) (ss_cons (ss_asg (se_call d__law_scene (hr.mono (by decide)) tk (sa_cons (se_v 0) (sa_cons se_int sa_nil))) (sg_tp (sgs_cons (sg_nm (i := 2) sc_law.nd) (sgs_cons (sg_nm (i := 3) sc_law.nd) sgs_nil)))) (ss_one (ss_par (i := 4) (j := 5) sc_law.nd (by decide) (sa_cons (se_ix (seb (se_v 2)) (seb se_int)) (sa_cons (se_ix (seb (se_v 2)) (seb se_int)) sa_nil)) (by rfl)))) (ss_one (ss_par (i := 4) (j := 5) sc_law.nd (by decide) (sa_cons (se_call d__law_shot (hr.mono (by decide)) tk (sa_cons (se_v 1) (sa_cons se_int (sa_cons (se_ix (seb (se_v 1)) (seb se_int)) sa_nil)))) (sa_cons (se_call d__law_shot (hr.mono (by decide)) tk (sa_cons (se_call d__law_row (hr.mono (by decide)) tk (sa_cons (se_v 0) (sa_cons se_int sa_nil))) (sa_cons se_int (sa_cons (se_ix (seb (se_v 1)) (seb se_int)) sa_nil)))) sa_nil)) (by rfl)))) (ss_cons (ss_set (i := 6) sc_law.nd (se_op op_addD (seb se_int) (seb (se_op op_modD (seb (se_ix (seb (se_v 1)) (seb se_int))) (seb se_int))))) (ss_cons (ss_set (i := 7) sc_law.nd se_non) (ss_cons (ss_for (f := lp_law_2) hp (sis_range2 T.free_range (sba_cons (seb (se_un un_negD (seb (se_cb cl_len T.free_len (sba_cons (seb (se_ix (seb (se_v 5)) (seb se_int))) sba_nil))))) (sba_cons (seb (se_op op_addD (seb (se_cb cl_len T.free_len (sba_cons (seb (se_ix (seb (se_v 4)) (seb se_int))) sba_nil))) (seb se_int))) sba_nil))) (sg_nm (i := 8) sc_law.nd) (ss_one (ss_for (f := lp_law_1) hp (sis_range2 T.free_range (sba_cons (seb (se_un un_negD (seb (se_cb cl_len T.free_len (sba_cons (seb (se_v 5)) sba_nil))))) (sba_cons (seb (se_op op_addD (seb (se_cb cl_len T.free_len (sba_cons (seb (se_v 4)) sba_nil))) (seb se_int))) sba_nil))) (sg_nm (i := 9) sc_law.nd) (ss_cons (ss_set (i := 10) sc_law.nd (se_call d__law_steps (hr.mono (by decide)) tk (sa_cons (se_v 4) (sa_cons (se_v 5) (sa_cons (se_tup (sa_cons (se_v 8) (sa_cons (se_v 9) sa_nil))) sa_nil))))) (ss_one (ss_if (st_cmp op_geD (fun _ _ _ => cmpF_b) (seb (se_cb cl_len T.free_len (sba_cons (seb (se_v 10)) sba_nil))) (seb (se_v 6))) (ss_cons (ss_set (i := 11) sc_law.nd (se_call d__law_unlike (hr.mono (by decide)) tk (sa_cons (se_v 10) sa_nil))) (ss_one (ss_if (st_w (sw_or (st_cmp op_isX (fun _ _ _ => isF_b) (seb (se_v 7)) (seb se_non)) (sw_or (st_tru (seb (se_call d__law_below (hr.mono (by decide)) tk (sa_cons (se_v 11) (sa_cons (se_ix (seb (se_v 7)) (seb se_int)) sa_nil))))) (sw_or1 (st_w (sw_and (st_cmp (op_eqX hr) (fun _ _ _ => eqF_b) (seb (se_v 11)) (seb (se_ix (seb (se_v 7)) (seb se_int)))) (sw_and1 (st_cmp op_gtD (fun _ _ _ => cmpF_b) (seb (se_cb cl_len T.free_len (sba_cons (seb (se_v 10)) sba_nil))) (seb (se_ix (seb (se_v 7)) (seb se_int))))))))))) (ss_one (ss_set (i := 7) sc_law.nd (se_tup (sa_cons (se_tup (sa_cons (se_v 8) (sa_cons (se_v 9) sa_nil))) (sa_cons (se_v 11) (sa_cons (se_cb cl_len T.free_len (sba_cons (seb (se_v 10)) sba_nil)) sa_nil)))))) ss_nil))) ss_nil)))))) (ss_cons (ss_set (i := 12) sc_law.nd (se_if (st_cmp op_isX (fun _ _ _ => isF_b) (seb (se_v 7)) (seb se_non)) se_non (se_sl (seb (se_v 7)) so_none (so_some (seb se_int))))) (ss_cons (ss_if (st_cmp (op_neX hr) (fun _ _ _ => neF_b) (seb (se_callK d_best_way (hr.mono (by decide)) tk (sa_cons (se_v 4) (sa_cons (se_v 5) sa_nil)) (sk_cons (se_v 6) sk_nil))) (seb (se_v 12))) (ss_one (ss_ret se_bl)) ss_nil) (ss_one (ss_ret (se_call d__law_count_refused (hr.mono (by decide)) tk (sa_cons (se_v 4) (sa_cons (se_v 5) (sa_cons (se_ix (snb (sn_lst (sa_cons se_int (sa_cons se_int (sa_cons se_non (sa_cons se_bl sa_nil)))))) (seb (se_op op_modD (seb (se_ix (seb (se_v 1)) (seb se_int))) (seb se_int)))) sa_nil)))))))))))))
end
def dd (i : Nat) (x y : Str) (kw : List (Str × He.Dv) := []) : He.DefD := ⟨(x, none), y, y, defArgs (topS i), defBody (topS i), defScope (topS i), [], kw⟩
def fn : List He.DefD := ([dd 6 "is_within" "is_within", dd 7 "common" "common", dd 8 "least" "least", dd 9 "is_less" "is_less", dd 13 "is_row" "is_row", dd 14 "is_shot" "is_shot", dd 15 "look" "look", dd 16 "size_of" "size_of", dd 19 "shared_of" "shared_of", dd 20 "steps_of" "steps_of", dd 21 "unlike_of" "unlike_of", dd 22 "all_ways" "all_ways", dd 23 "best_of" "best_of", dd 24 "look_cells" "look_cells", dd 25 "best_way" "best_way" [("cells", .int 4)], dd 27 "_law_cell" "_law_cell", dd 28 "_law_row" "_law_row", dd 29 "_law_common" "_law_common", dd 30 "_law_least" "_law_least", dd 31 "_law_plus" "_law_plus"] : List He.DefD) ++ ([dd 32 "_law_times" "_law_times", dd 33 "_law_below" "_law_below", dd 34 "_law_shot" "_law_shot", dd 35 "_law_ground" "_law_ground", dd 36 "_law_scene" "_law_scene", dd 37 "_law_steps" "_law_steps", dd 38 "_law_unlike" "_law_unlike", dd 39 "_law_count_refused" "_law_count_refused", dd 40 "law" "law"] : List He.DefD)
def fa : List He.Fa := ([.glo "is_within", .glo "common", .glo "least", .glo "is_less", .glo "is_row", .glo "is_shot", .glo "look", .glo "size_of", .glo "shared_of", .glo "steps_of", .glo "unlike_of", .glo "all_ways", .glo "best_of", .glo "look_cells", .glo "best_way", .glo "_law_cell", .glo "_law_row", .glo "_law_common", .glo "_law_least", .glo "_law_plus"] : List He.Fa) ++ ([.glo "_law_times", .glo "_law_below", .glo "_law_shot", .glo "_law_ground", .glo "_law_scene", .glo "_law_steps", .glo "_law_unlike", .glo "_law_count_refused", .glo "law", .free "abs", .free "bool", .free "int", .free "isinstance", .free "len", .free "max", .free "min", .free "range", .free "sorted", .free "sum", .free "tuple"] : List He.Fa) ++ ([.free "zip", .int "MOST_CELLS" 144, .int "MOST_LEVEL" 255, .int "MOST_SIDE" 12, .glo "BadCount", .exc "BadCount", .glo "BadShot", .exc "BadShot", .glo "BadWay", .glo "VastError", .exm "BadCount" "BadCount" true, .exm "BadCount" "BadWay" false, .exm "BadCount" "VastError" true, .exm "BadShot" "BadCount" false] : List He.Fa)
abbrev R : PySem.W.OpenRow := PySem.W.OpenLaw.row PySem.Challenge.rw_vastview_k05_best_ways
def xsE : List Str := ["BadCount"]
abbrev hk : PySem.W.Hook := VV.hookV 5 fa fn xsE
def ob (s : PySem.W.SharedT) : AlV := obsVG 5 fa fn xsE (HandSHeadRun.getT s)
theorem ob_eq (s : PySem.W.SharedT) : ob s = hk.obs s.abs := obsVG_eq (HandSHeadRun.getT_eq s)
def loose : List Str := (["VastError", "BadShot", "BadWay", "BadCount", "is_within", "common", "least", "is_less", "MOST_SIDE", "MOST_LEVEL", "is_row", "is_shot", "look", "size_of", "MOST_CELLS", "shared_of", "steps_of", "unlike_of", "all_ways", "best_of", "look_cells", "best_way", "_law_cell", "_law_row", "_law_common", "_law_least", "_law_plus", "_law_times", "_law_below", "_law_shot"] : List Str) ++ (["_law_ground", "_law_scene", "_law_steps", "_law_unlike", "_law_count_refused"] : List Str)
theorem run (w : World) : HandSHeadRun.RunEq R (PySem.W.view R.prog [40]) hk ob 4000 loose w := by
  intro os
  kernel_rfl
theorem tx {K : PySem.W.Frag} {h : Heap} {mg : Str → Option Value} (X : K.In h) (G : h.Ns mainGlobals mg) (c : He.SaysD fa fn K) (ce : ∀ x ∈ xsE, ExcC K (He.ga K x)) : Tx K mg where
  free_abs := He.free_ok X G (c.fact 29 (f := .free "abs") rfl)
  free_bool := He.free_ok X G (c.fact 30 (f := .free "bool") rfl)
  free_int := He.free_ok X G (c.fact 31 (f := .free "int") rfl)
  free_isinstance := He.free_ok X G (c.fact 32 (f := .free "isinstance") rfl)
  free_len := He.free_ok X G (c.fact 33 (f := .free "len") rfl)
  free_max := He.free_ok X G (c.fact 34 (f := .free "max") rfl)
  free_min := He.free_ok X G (c.fact 35 (f := .free "min") rfl)
  free_range := He.free_ok X G (c.fact 36 (f := .free "range") rfl)
  free_sorted := He.free_ok X G (c.fact 37 (f := .free "sorted") rfl)
  free_sum := He.free_ok X G (c.fact 38 (f := .free "sum") rfl)
  free_tuple := He.free_ok X G (c.fact 39 (f := .free "tuple") rfl)
  free_zip := He.free_ok X G (c.fact 40 (f := .free "zip") rfl)
  c_MOST_CELLS := He.int_ok X G (c.fact 41 (f := .int "MOST_CELLS" 144) rfl)
  c_MOST_LEVEL := He.int_ok X G (c.fact 42 (f := .int "MOST_LEVEL" 255) rfl)
  c_MOST_SIDE := He.int_ok X G (c.fact 43 (f := .int "MOST_SIDE" 12) rfl)
  x_BadCount := ⟨He.glo_ok X G (c.fact 44 (f := .glo "BadCount") rfl), c.fact 45 (f := .exc "BadCount") rfl⟩
  x_BadShot := ⟨He.glo_ok X G (c.fact 46 (f := .glo "BadShot") rfl), c.fact 47 (f := .exc "BadShot") rfl⟩
  xg_BadCount := He.glo_ok X G (c.fact 44 (f := .glo "BadCount") rfl)
  xg_BadWay := He.glo_ok X G (c.fact 48 (f := .glo "BadWay") rfl)
  xg_VastError := He.glo_ok X G (c.fact 49 (f := .glo "VastError") rfl)
  m_BadCount_BadCount := He.exm_ok (c.fact 50 (f := .exm "BadCount" "BadCount" true) rfl)
  m_BadCount_BadWay := He.exm_ok (c.fact 51 (f := .exm "BadCount" "BadWay" false) rfl)
  m_BadCount_VastError := He.exm_ok (c.fact 52 (f := .exm "BadCount" "VastError" true) rfl)
  m_BadShot_BadCount := He.exm_ok (c.fact 53 (f := .exm "BadShot" "BadCount" false) rfl)
  ec_BadCount := ce "BadCount" (by decide)
  g_is_within := He.glo_ok X G (c.fact 0 (f := .glo "is_within") rfl)
  f_is_within := c.def_ 0 (d := dd 6 "is_within" "is_within") rfl
  g_common := He.glo_ok X G (c.fact 1 (f := .glo "common") rfl)
  f_common := c.def_ 1 (d := dd 7 "common" "common") rfl
  g_least := He.glo_ok X G (c.fact 2 (f := .glo "least") rfl)
  f_least := c.def_ 2 (d := dd 8 "least" "least") rfl
  g_is_less := He.glo_ok X G (c.fact 3 (f := .glo "is_less") rfl)
  f_is_less := c.def_ 3 (d := dd 9 "is_less" "is_less") rfl
  g_is_row := He.glo_ok X G (c.fact 4 (f := .glo "is_row") rfl)
  f_is_row := c.def_ 4 (d := dd 13 "is_row" "is_row") rfl
  g_is_shot := He.glo_ok X G (c.fact 5 (f := .glo "is_shot") rfl)
  f_is_shot := c.def_ 5 (d := dd 14 "is_shot" "is_shot") rfl
  g_look := He.glo_ok X G (c.fact 6 (f := .glo "look") rfl)
  f_look := c.def_ 6 (d := dd 15 "look" "look") rfl
  g_size_of := He.glo_ok X G (c.fact 7 (f := .glo "size_of") rfl)
  f_size_of := c.def_ 7 (d := dd 16 "size_of" "size_of") rfl
  g_shared_of := He.glo_ok X G (c.fact 8 (f := .glo "shared_of") rfl)
  f_shared_of := c.def_ 8 (d := dd 19 "shared_of" "shared_of") rfl
  g_steps_of := He.glo_ok X G (c.fact 9 (f := .glo "steps_of") rfl)
  f_steps_of := c.def_ 9 (d := dd 20 "steps_of" "steps_of") rfl
  g_unlike_of := He.glo_ok X G (c.fact 10 (f := .glo "unlike_of") rfl)
  f_unlike_of := c.def_ 10 (d := dd 21 "unlike_of" "unlike_of") rfl
  g_all_ways := He.glo_ok X G (c.fact 11 (f := .glo "all_ways") rfl)
  f_all_ways := c.def_ 11 (d := dd 22 "all_ways" "all_ways") rfl
  g_best_of := He.glo_ok X G (c.fact 12 (f := .glo "best_of") rfl)
  f_best_of := c.def_ 12 (d := dd 23 "best_of" "best_of") rfl
  g_look_cells := He.glo_ok X G (c.fact 13 (f := .glo "look_cells") rfl)
  f_look_cells := c.def_ 13 (d := dd 24 "look_cells" "look_cells") rfl
  g_best_way := He.glo_ok X G (c.fact 14 (f := .glo "best_way") rfl)
  f_best_way := c.def_ 14 (d := dd 25 "best_way" "best_way" [("cells", .int 4)]) rfl
  g__law_cell := He.glo_ok X G (c.fact 15 (f := .glo "_law_cell") rfl)
  f__law_cell := c.def_ 15 (d := dd 27 "_law_cell" "_law_cell") rfl
  g__law_row := He.glo_ok X G (c.fact 16 (f := .glo "_law_row") rfl)
  f__law_row := c.def_ 16 (d := dd 28 "_law_row" "_law_row") rfl
  g__law_common := He.glo_ok X G (c.fact 17 (f := .glo "_law_common") rfl)
  f__law_common := c.def_ 17 (d := dd 29 "_law_common" "_law_common") rfl
  g__law_least := He.glo_ok X G (c.fact 18 (f := .glo "_law_least") rfl)
  f__law_least := c.def_ 18 (d := dd 30 "_law_least" "_law_least") rfl
  g__law_plus := He.glo_ok X G (c.fact 19 (f := .glo "_law_plus") rfl)
  f__law_plus := c.def_ 19 (d := dd 31 "_law_plus" "_law_plus") rfl
  g__law_times := He.glo_ok X G (c.fact 20 (f := .glo "_law_times") rfl)
  f__law_times := c.def_ 20 (d := dd 32 "_law_times" "_law_times") rfl
  g__law_below := He.glo_ok X G (c.fact 21 (f := .glo "_law_below") rfl)
  f__law_below := c.def_ 21 (d := dd 33 "_law_below" "_law_below") rfl
  g__law_shot := He.glo_ok X G (c.fact 22 (f := .glo "_law_shot") rfl)
  f__law_shot := c.def_ 22 (d := dd 34 "_law_shot" "_law_shot") rfl
  g__law_ground := He.glo_ok X G (c.fact 23 (f := .glo "_law_ground") rfl)
  f__law_ground := c.def_ 23 (d := dd 35 "_law_ground" "_law_ground") rfl
  g__law_scene := He.glo_ok X G (c.fact 24 (f := .glo "_law_scene") rfl)
  f__law_scene := c.def_ 24 (d := dd 36 "_law_scene" "_law_scene") rfl
  g__law_steps := He.glo_ok X G (c.fact 25 (f := .glo "_law_steps") rfl)
  f__law_steps := c.def_ 25 (d := dd 37 "_law_steps" "_law_steps") rfl
  g__law_unlike := He.glo_ok X G (c.fact 26 (f := .glo "_law_unlike") rfl)
  f__law_unlike := c.def_ 26 (d := dd 38 "_law_unlike" "_law_unlike") rfl
  g__law_count_refused := He.glo_ok X G (c.fact 27 (f := .glo "_law_count_refused") rfl)
  f__law_count_refused := c.def_ 27 (d := dd 39 "_law_count_refused" "_law_count_refused") rfl
  g_law := He.glo_ok X G (c.fact 28 (f := .glo "law") rfl)
  f_law := c.def_ 28 (d := dd 40 "law" "law") rfl
theorem facts {P : Program} {w : World} {K : PySem.W.Frag} {h : Heap} {mg : Str → Option Value} {f : Addr} (X : K.In h) (G : h.Ns mainGlobals mg) (hfa : mg ("law" : Str) = some (.ref f)) (c : He.SaysD fa fn K) (ce : ∀ x ∈ xsE, ExcC K (He.ga K x)) :
    ∃ fd : FuncData, (∀ (s : Shared) (v : Value), BindsTo s fd ⟨[v], []⟩ [("script", v)]) ∧ ∀ base : Heap, K.In base → base.Ns mainGlobals mg → FnOk P w K mg base (L2.CX P w) 8 f fd ["script"] (spP K 1 sem_law) := by
  have T := tx X G c ce
  obtain ⟨fd, F⟩ := T.f_law
  have e := hfa.symm.trans T.g_law
  cases e
  have b := FunD.bindsA (ps := ["script"]) F fun _ _ _ _ _ _ us hl => match us, hl with | [_], _ => rfl
  refine ⟨fd, fun s v => b s [v] rfl, fun base _ _ => ?_⟩
  have d_is_within := ok_is_within (P := P) (w := w) (base := base) T 
  have d_common := ok_common (P := P) (w := w) (base := base) T 
  have d_least := ok_least (P := P) (w := w) (base := base) T d_common
  have d_is_less := ok_is_less (P := P) (w := w) (base := base) T 
  have d_is_row := ok_is_row (P := P) (w := w) (base := base) T d_is_within
  have d_is_shot := ok_is_shot (P := P) (w := w) (base := base) T d_is_row
  have d_look := ok_look (P := P) (w := w) (base := base) T d_is_shot
  have d_size_of := ok_size_of (P := P) (w := w) (base := base) T 
  have d_shared_of := ok_shared_of (P := P) (w := w) (base := base) T d_size_of
  have d_steps_of := ok_steps_of (P := P) (w := w) (base := base) T d_shared_of
  have d_unlike_of := ok_unlike_of (P := P) (w := w) (base := base) T d_steps_of d_least
  have d_all_ways := ok_all_ways (P := P) (w := w) (base := base) T d_size_of
  have d_best_of := ok_best_of (P := P) (w := w) (base := base) T d_all_ways d_steps_of d_unlike_of d_is_less
  have d_look_cells := ok_look_cells (P := P) (w := w) (base := base) T d_is_within
  have d_best_way := ok_best_way (P := P) (w := w) (base := base) T d_look d_look_cells d_best_of
  have d__law_cell := ok__law_cell (P := P) (w := w) (base := base) T 
  have d__law_row := ok__law_row (P := P) (w := w) (base := base) T d__law_cell
  have d__law_common := ok__law_common (P := P) (w := w) (base := base) T 
  have d__law_least := ok__law_least (P := P) (w := w) (base := base) T d__law_common
  have d__law_plus := ok__law_plus (P := P) (w := w) (base := base) T d__law_least
  have d__law_times := ok__law_times (P := P) (w := w) (base := base) T d__law_least
  have d__law_below := ok__law_below (P := P) (w := w) (base := base) T 
  have d__law_shot := ok__law_shot (P := P) (w := w) (base := base) T 
  have d__law_ground := ok__law_ground (P := P) (w := w) (base := base) T d__law_row
  have d__law_scene := ok__law_scene (P := P) (w := w) (base := base) T d__law_ground d__law_row
  have d__law_steps := ok__law_steps (P := P) (w := w) (base := base) T 
  have d__law_unlike := ok__law_unlike (P := P) (w := w) (base := base) T d__law_least d__law_plus d__law_times
  have d__law_count_refused := ok__law_count_refused (P := P) (w := w) (base := base) T d_best_way
  exact ok_law T F d__law_row d__law_scene d__law_shot d__law_steps d__law_unlike d__law_below d_best_way d__law_count_refused
end VVlaw
open PySem PySem.W PySem.Calls PyProof.Rows
set_option maxRecDepth 100000 in
set_option maxHeartbeats 0 in
theorem PySem.Challenge.cw_vastview_k05_best_ways_holds : PySem.Challenge.rw_vastview_k05_best_ways.Holds := by
  w_on; o_law
  refine HandSHeadRun.head_any (r := OpenLaw.row PySem.Challenge.rw_vastview_k05_best_ways) (q := view (OpenLaw.row PySem.Challenge.rw_vastview_k05_best_ways).prog [40]) (H := VVlaw.hk) (ob := VVlaw.ob) (M := 4000) (loose := VVlaw.loose) (d := HandSHeadRun.topDef (OpenLaw.row PySem.Challenge.rw_vastview_k05_best_ways).prog 40) (kwd := []) VVlaw.ob_eq
    (by kernel_rfl) (fun s => by kernel_rfl) VVlaw.run (by kernel_rfl) (by kernel_rfl) (by kernel_rfl) (by rfl) (by first | assumption | decide +kernel) (by decide +kernel) ⟨rfl, rfl, rfl, rfl, rfl, by decide +kernel⟩ ?hw ?hc
  case hw => w_witness2
  case hc =>
    refine VV.law_end (l := PySem.Challenge.rw_vastview_k05_best_ways) (k := 8) rfl (by kernel_rfl) ⟨rfl, by decide, by decide⟩ VVlaw.law_true ?F
    intro w mg fa h Y G hmg0
    obtain ⟨K, KX, c, ce⟩ := Y
    have hmg : mg ("law" : PySem.Str) = some (.ref fa) := by
      have e : (HandSHeadRun.topDef (OpenLaw.row PySem.Challenge.rw_vastview_k05_best_ways).prog 40).name = ("law" : PySem.Str) := by kernel_rfl
      rw [← e]
      exact hmg0
    obtain ⟨fd, hb, hF⟩ := VVlaw.facts (P := (PySem.Challenge.rw_vastview_k05_best_ways).prog) (w := w) KX G hmg c ce
    exact ⟨K, fd, KX, hb, hF⟩

