import PyProof.Rows.All
import Wide.All
import OpenK.AllK
import Wide.FinOn
import HandS.ForMost
import HandS.ForExc
import HandS.More
import HandS.Defaults
import HandS.Flow
import HandS.Style
import HandS.Wide
import HandS.IsInst
import HandS.TupAny
import HandS.TupMul
import HandS.Zip
import HandS.Codes
import HandS.HeadHook2
import HandS.Deep
import HandS.TupLen
import KE.KStateDown
import HandS.Ends
import HandS.MakeKwOnly
import KE.DataMinMax
import HandS.Exc
import HandS.ExcIs
import HandS.TryOnly
import HandS.TryMany
import HandS.Head0
import HandS.Head1
import HandS.Head2
import HandS.HeadEnd
import HandS.HeadHook1
import HandS.Dict
import HandS.DictTup
import KE.SortData
import HandS.Conv
import KE.KDictWalk
import KE.KDictSum
import KE.KDictList
import KE.KEqDict
import KE.GoesEnum
import KE.GoesMore
import HandS.Text
import HandS.SetFor
import HandS.Strs
import PySem.Challenge.RW_vastview_k02_shots_turned_lit_and_cut
set_option Elab.async false
set_option linter.all false
set_option maxRecDepth 100000
set_option maxHeartbeats 4000000
/-! VVa: plain data, results, and how they lie in the abstract heap. -/
namespace VV
open PySem PySem.Spec L2
open PyProof.Rows hiding St

abbrev D := PyData
abbrev Ad := Addr → Prop
/-- a list that is only read: the law's script -/
def rdL (ns : List Int) : D := .dict [(.none, .list (ns.map PyData.int))]
def keyD : Key → D
  | .inl i => .int i
  | .inr x => .str x
/-- a list that never changes: locked, or the top's own -/
def SqF (K : PySem.W.Frag) (H : Hp) (a : Addr) (xs : List V) : Prop :=
  (∃ o, H a = some (.frz o (.lst xs))) ∨ SqL K (fun _ => none) a xs
theorem SqF.sq {K : PySem.W.Frag} {H : Hp} {a : Addr} {xs : List V} (h : SqF K H a xs) : SqL K H a xs := by
  rcases h with h | (h | ⟨_, h⟩) | h
  · exact .inl (.inr h)
  · cases h
  · cases h
  · exact .inr h

/-! ### how data lie in the heap; L: the addresses that may still be changed -/
mutual
inductive Rp (K : PySem.W.Frag) (H : Hp) (L : Ad) : D → V → Prop
  | non : Rp K H L .none .non
  | bl (b : Bool) : Rp K H L (.bool b) (.bl b)
  | int (i : Int) : Rp K H L (.int i) (.int i)
  | str (x : Str) : Rp K H L (.str x) (.str x)
  | tup {a : Addr} {vs : List V} {ds : List D} : H a = some (.tup vs) → RpL K H L ds vs → Rp K H L (.tuple ds) (.ref a)
  | lst {a : Addr} {vs : List V} {ds : List D} : H a = some (.lst vs) → ¬ L a → RpL K H L ds vs → Rp K H L (.list ds) (.ref a)
  | rd {a : Addr} {ns : List Int} : SqF K H a (ns.map V.int) → Rp K H L (rdL ns) (.ref a)
  | dk {a : Addr} {kvs : List (Key × V)} {ps : List (D × D)} : H a = some (.dK kvs) → ¬ L a → ps.map (·.1) = kvs.map (fun q => keyD q.1) → RpL K H L (ps.map (·.2)) (kvs.map (·.2)) → Rp K H L (.dict ps) (.ref a)
  | dt {a : Addr} {kvs : List (List Key × V)} {ps : List (D × D)} : H a = some (.dT kvs) → ¬ L a → ps.map (·.1) = kvs.map (fun q => PyData.tuple (q.1.map keyD)) → RpL K H L (ps.map (·.2)) (kvs.map (·.2)) → Rp K H L (.dict ((PyData.none, PyData.none) :: ps)) (.ref a)
inductive RpL (K : PySem.W.Frag) (H : Hp) (L : Ad) : List D → List V → Prop
  | nil : RpL K H L [] []
  | cons {d : D} {v : V} {ds : List D} {vs : List V} : Rp K H L d v → RpL K H L ds vs → RpL K H L (d :: ds) (v :: vs)
end
section
variable {K : PySem.W.Frag} {H H' : Hp} {L L' : Ad}
theorem SqF.mono {a : Addr} {xs : List V} (s : Same H H') (h : SqF K H a xs) : SqF K H' a xs := by
  rcases h with ⟨o, h⟩ | h
  · exact .inl ⟨o, s _ _ h⟩
  · exact .inr h
mutual
theorem Rp.mono (s : Same H H') : ∀ {d : D} {v : V}, Rp K H L d v → Rp K H' L d v
  | _, _, .non => .non
  | _, _, .bl b => .bl b
  | _, _, .int i => .int i
  | _, _, .str x => .str x
  | _, _, .tup h r => .tup (s _ _ h) (RpL.mono s r)
  | _, _, .lst h n r => .lst (s _ _ h) n (RpL.mono s r)
  | _, _, .rd h => .rd (h.mono s)
  | _, _, .dk h n e r => .dk (s _ _ h) n e (RpL.mono s r)
  | _, _, .dt h n e r => .dt (s _ _ h) n e (RpL.mono s r)
theorem RpL.mono (s : Same H H') : ∀ {ds : List D} {vs : List V}, RpL K H L ds vs → RpL K H' L ds vs
  | _, _, .nil => .nil
  | _, _, .cons h r => .cons (Rp.mono s h) (RpL.mono s r)
end
/- another set of addresses: fewer, or new ones -/
mutual
theorem Rp.lives (s : ∀ a, L' a → L a ∨ H a = none) : ∀ {d : D} {v : V}, Rp K H L d v → Rp K H L' d v
  | _, _, .non => .non
  | _, _, .bl b => .bl b
  | _, _, .int i => .int i
  | _, _, .str x => .str x
  | _, _, .tup h r => .tup h (RpL.lives s r)
  | _, _, .lst h n r => .lst h (fun z => (s _ z).elim n fun q => by rw [q] at h; cases h) (RpL.lives s r)
  | _, _, .rd h => .rd h
  | _, _, .dk h n e r => .dk h (fun z => (s _ z).elim n fun q => by rw [q] at h; cases h) e (RpL.lives s r)
  | _, _, .dt h n e r => .dt h (fun z => (s _ z).elim n fun q => by rw [q] at h; cases h) e (RpL.lives s r)
theorem RpL.lives (s : ∀ a, L' a → L a ∨ H a = none) : ∀ {ds : List D} {vs : List V}, RpL K H L ds vs → RpL K H L' ds vs
  | _, _, .nil => .nil
  | _, _, .cons h r => .cons (Rp.lives s h) (RpL.lives s r)
end
/-- what is no tuple and not locked -/
def Chg : HO → Prop
  | .lst _ => True
  | .dK _ => True
  | .dT _ => True
  | _ => False
theorem SqF.upd {a b : Addr} {o o' : HO} {xs : List V} (hb : H b = some o) (c : Chg o) (h : SqF K H a xs) : SqF K (upd H b o') a xs := by
  rcases h with ⟨q, h⟩ | h
  · refine .inl ⟨q, ?_⟩
    rw [upd_ne]
    · exact h
    · intro e; subst e; rw [hb] at h; cases h; exact c
  · exact .inr h
/- a changeable object is written -/
mutual
theorem Rp.upd {b : Addr} {o o' : HO} (hb : H b = some o) (c : Chg o) (hl : L b) : ∀ {d : D} {v : V}, Rp K H L d v → Rp K (upd H b o') L d v
  | _, _, .non => .non
  | _, _, .bl b => .bl b
  | _, _, .int i => .int i
  | _, _, .str x => .str x
  | _, _, .tup h r => .tup (by rw [upd_ne (by intro e; subst e; rw [hb] at h; cases h; exact c)]; exact h) (RpL.upd hb c hl r)
  | _, _, .lst h n r => .lst (by rw [upd_ne (by intro e; subst e; exact n hl)]; exact h) n (RpL.upd hb c hl r)
  | _, _, .rd h => .rd (SqF.upd hb c h)
  | _, _, .dk h n e r => .dk (by rw [upd_ne (by intro e; subst e; exact n hl)]; exact h) n e (RpL.upd hb c hl r)
  | _, _, .dt h n e r => .dt (by rw [upd_ne (by intro e; subst e; exact n hl)]; exact h) n e (RpL.upd hb c hl r)
theorem RpL.upd {b : Addr} {o o' : HO} (hb : H b = some o) (c : Chg o) (hl : L b) : ∀ {ds : List D} {vs : List V}, RpL K H L ds vs → RpL K (upd H b o') L ds vs
  | _, _, .nil => .nil
  | _, _, .cons h r => .cons (Rp.upd hb c hl h) (RpL.upd hb c hl r)
end
/-! ### lists of data -/
theorem RpL.length : ∀ {ds : List D} {vs : List V}, RpL K H L ds vs → ds.length = vs.length
  | _, _, .nil => rfl
  | _, _, .cons _ r => by simp [RpL.length r]
theorem RpL.get : ∀ {ds : List D} {vs : List V} {i : Nat} {d : D}, RpL K H L ds vs → ds[i]? = some d → ∃ v, vs[i]? = some v ∧ Rp K H L d v
  | _, _, _, _, .nil, h => by simp at h
  | _, _, 0, _, .cons r _, h => by simp at h; subst h; exact ⟨_, rfl, r⟩
  | _, _, i + 1, d, .cons _ r, h => by
    obtain ⟨v, e, q⟩ := RpL.get (i := i) (d := d) r (by simpa using h)
    exact ⟨v, by simpa using e, q⟩
theorem RpL.getV : ∀ {ds : List D} {vs : List V} {i : Nat} {v : V}, RpL K H L ds vs → vs[i]? = some v → ∃ d, ds[i]? = some d ∧ Rp K H L d v
  | _, _, _, _, .nil, h => by simp at h
  | _, _, 0, _, .cons r _, h => by simp at h; subst h; exact ⟨_, rfl, r⟩
  | _, _, i + 1, v, .cons _ r, h => by
    obtain ⟨d, e, q⟩ := RpL.getV (i := i) (v := v) r (by simpa using h)
    exact ⟨d, by simpa using e, q⟩
theorem RpL.append : ∀ {ds es : List D} {vs us : List V}, RpL K H L ds vs → RpL K H L es us → RpL K H L (ds ++ es) (vs ++ us)
  | _, _, _, _, .nil, s => s
  | _, _, _, _, .cons r t, s => .cons r (RpL.append t s)
theorem RpL.take (n : Nat) : ∀ {ds : List D} {vs : List V}, RpL K H L ds vs → RpL K H L (ds.take n) (vs.take n) := by
  induction n with
  | zero => intro ds vs _; simp; exact .nil
  | succ n ih =>
    intro ds vs h
    cases h with
    | nil => exact .nil
    | cons r t => exact .cons r (ih t)
theorem RpL.drop (n : Nat) : ∀ {ds : List D} {vs : List V}, RpL K H L ds vs → RpL K H L (ds.drop n) (vs.drop n) := by
  induction n with
  | zero => intro ds vs h; exact h
  | succ n ih =>
    intro ds vs h
    cases h with
    | nil => exact .nil
    | cons r t => exact ih t
theorem RpL.set {d : D} {v : V} (r : Rp K H L d v) (i : Nat) : ∀ {ds : List D} {vs : List V}, RpL K H L ds vs → RpL K H L (ds.set i d) (vs.set i v) := by
  induction i with
  | zero =>
    intro ds vs h
    cases h with
    | nil => exact .nil
    | cons q t => exact .cons r t
  | succ n ih =>
    intro ds vs h
    cases h with
    | nil => exact .nil
    | cons q t => exact .cons q (ih t)
theorem RpL.reverse {ds : List D} {vs : List V} (h : RpL K H L ds vs) : RpL K H L ds.reverse vs.reverse := by
  induction ds generalizing vs with
  | nil => cases h; exact .nil
  | cons d ds ih =>
    cases h with
    | cons r t =>
      simpa only [List.reverse_cons] using (ih t).append (.cons r .nil)
theorem RpL.rep {ds : List D} {vs : List V} (h : RpL K H L ds vs) : ∀ n : Nat, RpL K H L (List.replicate n ds).flatten (List.replicate n vs).flatten
  | 0 => by simp; exact .nil
  | n + 1 => by
    simpa only [List.replicate_succ, List.flatten_cons] using h.append (RpL.rep h n)
theorem RpL.eraseIdx : ∀ {ds : List D} {vs : List V} (i : Nat), RpL K H L ds vs → RpL K H L (ds.eraseIdx i) (vs.eraseIdx i)
  | _, _, _, .nil => by simp; exact .nil
  | _, _, 0, .cons _ t => t
  | _, _, i + 1, .cons q t => .cons q (RpL.eraseIdx i t)
/-- plain ints -/
theorem RpL.ints : ∀ {ns : List Int} {vs : List V}, RpL K H L (ns.map PyData.int) vs → vs = ns.map V.int
  | [], _, h => by cases h; rfl
  | n :: ns, _, h => by
    cases h with
    | cons r t =>
      cases r
      rw [RpL.ints t]
      rfl
theorem RpL.ofInts (ns : List Int) : RpL K H L (ns.map PyData.int) (ns.map V.int) := by
  induction ns with
  | nil => exact .nil
  | cons n ns ih => exact .cons (.int n) ih
theorem Rp.intV {i : Int} {v : V} (h : Rp K H L (.int i) v) : v = .int i := by cases h; rfl
theorem Rp.blV {b : Bool} {v : V} (h : Rp K H L (.bool b) v) : v = .bl b := by cases h; rfl
theorem Rp.strV {x : Str} {v : V} (h : Rp K H L (.str x) v) : v = .str x := by cases h; rfl
theorem Rp.nonV {v : V} (h : Rp K H L .none v) : v = .non := by cases h; rfl
theorem Rp.tupV {ds : List D} {v : V} (h : Rp K H L (.tuple ds) v) : ∃ a vs, v = .ref a ∧ H a = some (.tup vs) ∧ RpL K H L ds vs := by
  cases h with
  | tup h r => exact ⟨_, _, rfl, h, r⟩
theorem Rp.non_iff {d : D} {v : V} (h : Rp K H L d v) : v = .non ↔ d = .none := by
  cases h <;> simp [rdL]
end

/-! ### what may be changed is held by a slot; a value that is looked at for a moment may be such -/
/-- the object at a bears the list or dict d -/
inductive Ow (K : PySem.W.Frag) (H : Hp) (L : Ad) : D → Addr → Prop
  | lst {a : Addr} {vs : List V} {ds : List D} : H a = some (.lst vs) → RpL K H L ds vs → Ow K H L (.list ds) a
  | dk {a : Addr} {kvs : List (Key × V)} {ps : List (D × D)} : H a = some (.dK kvs) → ps.map (·.1) = kvs.map (fun q => keyD q.1) → RpL K H L (ps.map (·.2)) (kvs.map (·.2)) → Ow K H L (.dict ps) a
  | dt {a : Addr} {kvs : List (List Key × V)} {ps : List (D × D)} : H a = some (.dT kvs) → ps.map (·.1) = kvs.map (fun q => PyData.tuple (q.1.map keyD)) → RpL K H L (ps.map (·.2)) (kvs.map (·.2)) → Ow K H L (.dict ((PyData.none, PyData.none) :: ps)) a
def Rb (K : PySem.W.Frag) (H : Hp) (L : Ad) (d : D) (v : V) : Prop := Rp K H L d v ∨ ∃ a, v = .ref a ∧ Ow K H L d a
section
variable {K : PySem.W.Frag} {H H' : Hp} {L L' : Ad} {d : D} {v : V}
theorem Rp.rb (h : Rp K H L d v) : Rb K H L d v := .inl h
theorem Ow.mono {a : Addr} (s : Same H H') (h : Ow K H L d a) : Ow K H' L d a := by
  cases h with
  | lst h r => exact .lst (s _ _ h) (r.mono s)
  | dk h e r => exact .dk (s _ _ h) e (r.mono s)
  | dt h e r => exact .dt (s _ _ h) e (r.mono s)
theorem Ow.lives {a : Addr} (s : ∀ a, L' a → L a ∨ H a = none) (h : Ow K H L d a) : Ow K H L' d a := by
  cases h with
  | lst h r => exact .lst h (r.lives s)
  | dk h e r => exact .dk h e (r.lives s)
  | dt h e r => exact .dt h e (r.lives s)
theorem Ow.upd {a b : Addr} {o o' : HO} (hb : H b = some o) (c : Chg o) (hl : L b) (ne : a ≠ b) (h : Ow K H L d a) : Ow K (L2.upd H b o') L d a := by
  cases h with
  | lst h r => exact .lst (by rw [upd_ne ne]; exact h) (r.upd hb c hl)
  | dk h e r => exact .dk (by rw [upd_ne ne]; exact h) e (r.upd hb c hl)
  | dt h e r => exact .dt (by rw [upd_ne ne]; exact h) e (r.upd hb c hl)
theorem Ow.rp {a : Addr} (h : Ow K H L d a) (n : ¬ L a) : Rp K H L d (.ref a) := by
  cases h with
  | lst h r => exact .lst h n r
  | dk h e r => exact .dk h n e r
  | dt h e r => exact .dt h n e r
theorem Ow.chg {a : Addr} (h : Ow K H L d a) : ∃ o, H a = some o ∧ Chg o := by
  cases h with
  | lst h r => exact ⟨_, h, trivial⟩
  | dk h e r => exact ⟨_, h, trivial⟩
  | dt h e r => exact ⟨_, h, trivial⟩
theorem Rb.mono (s : Same H H') (h : Rb K H L d v) : Rb K H' L d v := by
  rcases h with h | ⟨a, e, h⟩
  · exact .inl (h.mono s)
  · exact .inr ⟨a, e, h.mono s⟩
theorem Rb.lstV {ds : List D} (h : Rb K H L (.list ds) v) : ∃ a vs, v = .ref a ∧ H a = some (.lst vs) ∧ RpL K H L ds vs := by
  rcases h with h | ⟨a, e, h⟩
  · cases h with
    | lst h n r => exact ⟨_, _, rfl, h, r⟩
  · cases h with
    | lst h r => exact ⟨a, _, e, h, r⟩
theorem Rb.tupV {ds : List D} (h : Rb K H L (.tuple ds) v) : ∃ a vs, v = .ref a ∧ H a = some (.tup vs) ∧ RpL K H L ds vs := by
  rcases h with h | ⟨a, e, h⟩
  · exact h.tupV
  · cases h
theorem Rb.intV {i : Int} (h : Rb K H L (.int i) v) : v = .int i := by
  rcases h with h | ⟨a, e, h⟩
  · exact h.intV
  · cases h
theorem Rb.blV {b : Bool} (h : Rb K H L (.bool b) v) : v = .bl b := by
  rcases h with h | ⟨a, e, h⟩
  · exact h.blV
  · cases h
theorem Rb.strV {x : Str} (h : Rb K H L (.str x) v) : v = .str x := by
  rcases h with h | ⟨a, e, h⟩
  · exact h.strV
  · cases h
theorem Rb.nonV (h : Rb K H L .none v) : v = .non := by
  rcases h with h | ⟨a, e, h⟩
  · exact h.nonV
  · cases h
theorem Rb.non_iff (h : Rb K H L d v) : v = .non ↔ d = .none := by
  rcases h with h | ⟨a, e, h⟩
  · exact h.non_iff
  · subst e
    cases h <;> simp
end
end VV

set_option Elab.async false
set_option linter.all false
set_option maxRecDepth 100000
set_option maxHeartbeats 4000000
/-! VVb: results, slots, the judgements of this layer, expressions. -/
namespace VV
open PySem PySem.Spec L2
open PyProof.Rows hiding St

/-! ### what an expression, a statement comes to -/
inductive Rs where
  | ok (d : D)
  | exc (c : Str) (fs : List (Str × D))
  | bad
def Rs.bind (r : Rs) (k : D → Rs) : Rs := match r with
  | .ok d => k d
  | .exc c fs => .exc c fs
  | .bad => .bad
def Rs.of : Option D → Rs
  | some d => .ok d
  | none => .bad
@[simp] theorem Rs.bind_ok (d : D) (k : D → Rs) : (Rs.ok d).bind k = k d := rfl
@[simp] theorem Rs.bind_exc (c : Str) (fs : List (Str × D)) (k : D → Rs) : (Rs.exc c fs).bind k = .exc c fs := rfl
@[simp] theorem Rs.bind_bad (k : D → Rs) : Rs.bad.bind k = .bad := rfl
@[simp] theorem Rs.of_some (d : D) : Rs.of (some d) = .ok d := rfl
@[simp] theorem Rs.of_none : Rs.of none = .bad := rfl
/-- a slot: a value; a list or dict that this frame alone holds -/
inductive Sl where
  | val (d : D)
  | own (d : D)
  | grid (rows : List (List D))
abbrev En := List (Option Sl)
abbrev EF := En → Rs
inductive Out where
  | nx (ρ : En)
  | rt (d : D)
  | bk (ρ : En)
  | ct (ρ : En)
  | exc (c : Str) (fs : List (Str × D)) (ρ : En)
  | bad
abbrev SF := En → Out
/-- live addresses are tracked -/
def LvOk (H : Hp) (L : Ad) : Prop := ∀ a, L a → H a ≠ none
theorem LvOk.mono {H H' : Hp} {L : Ad} (h : LvOk H L) (s : Same H H') : LvOk H' L := fun a z e => h a z (s.free e)
/-- a list of lists that all may be changed: rows by place, their addresses -/
structure Og (K : PySem.W.Frag) (H : Hp) (L : Ad) (rows : List (List D)) (a : Addr) (bs : List Addr) : Prop where
  top : H a = some (.lst (bs.map V.ref))
  len : rows.length = bs.length
  row : ∀ (k : Nat) (r : List D) (b : Addr), rows[k]? = some r → bs[k]? = some b → ∃ us, H b = some (.lst us) ∧ RpL K H L r us
section
variable {K : PySem.W.Frag} {H H' : Hp} {L L' : Ad} {rows : List (List D)} {a : Addr} {bs : List Addr}
theorem Og.mono (s : Same H H') (h : Og K H L rows a bs) : Og K H' L rows a bs := ⟨s _ _ h.top, h.len, fun k r b e1 e2 => let ⟨us, q, rl⟩ := h.row k r b e1 e2; ⟨us, s _ _ q, rl.mono s⟩⟩
theorem Og.lives (s : ∀ a, L' a → L a ∨ H a = none) (h : Og K H L rows a bs) : Og K H L' rows a bs := ⟨h.top, h.len, fun k r b e1 e2 => let ⟨us, q, rl⟩ := h.row k r b e1 e2; ⟨us, q, rl.lives s⟩⟩
theorem Og.upd {c : Addr} {o o' : HO} (hc : H c = some o) (ch : Chg o) (hl : L c) (na : a ≠ c) (nb : ∀ b ∈ bs, b ≠ c) (h : Og K H L rows a bs) : Og K (L2.upd H c o') L rows a bs :=
  ⟨by rw [upd_ne na]; exact h.top, h.len, fun k r b e1 e2 => let ⟨us, q, rl⟩ := h.row k r b e1 e2; ⟨us, by rw [upd_ne (nb b (List.mem_of_getElem? e2))]; exact q, rl.upd hc ch hl⟩⟩
theorem Og.there (h : Og K H L rows a bs) : H a ≠ none ∧ ∀ b ∈ bs, H b ≠ none := by
  refine ⟨by rw [h.top]; simp, fun b hb => ?_⟩
  obtain ⟨k, hk⟩ := List.mem_iff_getElem?.mp hb
  have lt : k < rows.length := by rw [h.len]; exact (List.getElem?_eq_some_iff.mp hk).1
  obtain ⟨us, q, _⟩ := h.row k rows[k] b (List.getElem?_eq_getElem lt) hk
  rw [q]
  simp
theorem Og.same {bs' : List Addr} {rows' : List (List D)} (h : Og K H L rows a bs) (h' : Og K H' L' rows' a bs') (s : Same H H') : bs' = bs := by
  have e := (s _ _ h.top).symm.trans h'.top
  have e2 : bs.map V.ref = bs'.map V.ref := by injection (Option.some.inj e)
  have aux : ∀ xs ys : List Addr, xs.map V.ref = ys.map V.ref → ys = xs := by
    intro xs
    induction xs with
    | nil => intro ys h; cases ys with
      | nil => rfl
      | cons _ _ => cases h
    | cons x xs ih => intro ys h; cases ys with
      | nil => cases h
      | cons y ys =>
        simp only [List.map_cons, List.cons.injEq] at h
        rw [ih ys h.2]
        injection h.1 with h1
        rw [h1]
  exact aux _ _ e2
end
def SlR (K : PySem.W.Frag) (H : Hp) (L : Ad) : Sl → Option V → Prop
  | .val d, o => ∃ v, o = some v ∧ Rp K H L d v
  | .own d, o => ∃ a, o = some (.ref a) ∧ Ow K H L d a
  | .grid rows, o => ∃ a bs, o = some (.ref a) ∧ Og K H L rows a bs
/-- the slots, read -/
structure RE (K : PySem.W.Frag) (H : Hp) (L : Ad) (ρ : En) (σ : St) : Prop where
  lv : LvOk H L
  len : ρ.length = σ.length
  sl : ∀ (i : Nat) (x : Sl), ρ[i]? = some (some x) → ∃ o, σ[i]? = some o ∧ SlR K H L x o
theorem SlR.mono {K : PySem.W.Frag} {H H' : Hp} {L : Ad} {x : Sl} {o : Option V} (s : Same H H') (h : SlR K H L x o) : SlR K H' L x o := by
  cases x with
  | val d => obtain ⟨v, e, r⟩ := h; exact ⟨v, e, r.mono s⟩
  | own d => obtain ⟨a, e, r⟩ := h; exact ⟨a, e, r.mono s⟩
  | grid rows => obtain ⟨a, bs, e, r⟩ := h; exact ⟨a, bs, e, r.mono s⟩
theorem RE.mono {K : PySem.W.Frag} {H H' : Hp} {L : Ad} {ρ : En} {σ : St} (h : RE K H L ρ σ) (s : Same H H') : RE K H' L ρ σ :=
  ⟨h.lv.mono s, h.len, fun i x e => let ⟨o, e1, r⟩ := h.sl i x e; ⟨o, e1, r.mono s⟩⟩
/-- an exception's fields -/
def XR (K : PySem.W.Frag) (H : Hp) (L : Ad) (fs : List (Str × D)) (x : Option Addr) : Prop :=
  (fs = [] ∧ x = none) ∨ ∃ (dd : Addr) (gs : List (Str × V)), fs ≠ [] ∧ x = some dd ∧ H dd = some (.xd gs) ∧ gs.map (·.1) = fs.map (·.1) ∧ RpL K H L (fs.map (·.2)) (gs.map (·.2))
def Post (K : PySem.W.Frag) (W : WX) (L : Ad) (σ : St) (H : Hp) (r : Rs) (Q : VK) : Prop := match r with
  | .ok d => ∀ (H' : Hp) (v : V), Same H H' → Rp K H' L d v → Q v H'
  | .exc c fs => ∀ (H' : Hp) (x : Option Addr), Same H H' → XR K H' L fs x → W (.ref (He.ga K c)) x σ H'
  | .bad => False
def PostB (K : PySem.W.Frag) (W : WX) (L : Ad) (σ : St) (H : Hp) (r : Rs) (Q : VK) : Prop := match r with
  | .ok d => ∀ (H' : Hp) (v : V), Same H H' → Rb K H' L d v → Q v H'
  | .exc c fs => ∀ (H' : Hp) (x : Option Addr), Same H H' → XR K H' L fs x → W (.ref (He.ga K c)) x σ H'
  | .bad => False
/-- L and one more -/
def Lp (L : Ad) (a : Addr) : Ad := fun z => L z ∨ z = a
/-- a new list or dict -/
def PostN (K : PySem.W.Frag) (W : WX) (L : Ad) (σ : St) (H : Hp) (r : Rs) (Q : VK) : Prop := match r with
  | .ok d => ∀ (H' : Hp) (a : Addr), Same H H' → H a = none → Ow K H' (Lp L a) d a → Q (.ref a) H'
  | .exc c fs => ∀ (H' : Hp) (x : Option Addr), Same H H' → XR K H' L fs x → W (.ref (He.ga K c)) x σ H'
  | .bad => False
/-- a test -/
def PostT (K : PySem.W.Frag) (W : WX) (L : Ad) (σ : St) (H : Hp) (r : Rs) (Q : Bool → Hp → Prop) : Prop := match r with
  | .ok (.bool b) => ∀ (H' : Hp), Same H H' → Q b H'
  | .exc c fs => ∀ (H' : Hp) (x : Option Addr), Same H H' → XR K H' L fs x → W (.ref (He.ga K c)) x σ H'
  | _ => False
section
variable {K : PySem.W.Frag} {W : WX} {L : Ad} {σ : St} {H H1 : Hp} {r : Rs} {Q R : VK}
theorem Post.mono (h : Post K W L σ H r Q) (s : Same H H1) : Post K W L σ H1 r Q := by
  cases r with
  | ok d => exact fun H' v s' => h H' v (s.trans s')
  | exc c fs => exact fun H' x s' => h H' x (s.trans s')
  | bad => exact h
theorem PostB.mono (h : PostB K W L σ H r Q) (s : Same H H1) : PostB K W L σ H1 r Q := by
  cases r with
  | ok d => exact fun H' v s' => h H' v (s.trans s')
  | exc c fs => exact fun H' x s' => h H' x (s.trans s')
  | bad => exact h
theorem PostT.mono {QT : Bool → Hp → Prop} (h : PostT K W L σ H r QT) (s : Same H H1) : PostT K W L σ H1 r QT := by
  cases r with
  | ok d =>
    cases d with
    | bool b => exact fun H' s' => h H' (s.trans s')
    | _ => exact h
  | exc c fs => exact fun H' x s' => h H' x (s.trans s')
  | bad => exact h
/-- one after the other -/
theorem Post.step {k : D → Rs} (h : Post K W L σ H (r.bind k) Q) (hk : ∀ d H1 v, Same H H1 → Rb K H1 L d v → Post K W L σ H1 (k d) Q → R v H1) : PostB K W L σ H r R := by
  cases r with
  | ok d => exact fun H' v s' rv => hk d H' v s' rv (Post.mono h s')
  | exc c fs => exact h
  | bad => exact h
theorem Post.stepE {k : D → Rs} (h : Post K W L σ H (r.bind k) Q) (hk : ∀ d H1 v, Same H H1 → Rp K H1 L d v → Post K W L σ H1 (k d) Q → R v H1) : Post K W L σ H r R := by
  cases r with
  | ok d => exact fun H' v s' rv => hk d H' v s' rv (Post.mono h s')
  | exc c fs => exact h
  | bad => exact h
theorem PostT.step {k : D → Rs} {QT : Bool → Hp → Prop} (h : PostT K W L σ H (r.bind k) QT) (hk : ∀ d H1 v, Same H H1 → Rb K H1 L d v → PostT K W L σ H1 (k d) QT → R v H1) : PostB K W L σ H r R := by
  cases r with
  | ok d => exact fun H' v s' rv => hk d H' v s' rv (PostT.mono h s')
  | exc c fs => exact h
  | bad => exact h
theorem PostT.stepT {k : D → Rs} {QT RT : Bool → Hp → Prop} (h : PostT K W L σ H (r.bind k) QT) (hb : ∀ d, (∀ b, d ≠ .bool b) → k d = .bad) (hk : ∀ b H1, Same H H1 → PostT K W L σ H1 (k (.bool b)) QT → RT b H1) : PostT K W L σ H r RT := by
  have key : ∀ d : D, (∀ b, d ≠ .bool b) → PostT K W L σ H ((Rs.ok d).bind k) QT → False := fun d hd h => by
    simp only [Rs.bind_ok] at h
    rw [hb d hd] at h
    exact h
  cases r with
  | ok d =>
    cases d with
    | bool b => exact fun H' s' => hk b H' s' (PostT.mono h s')
    | _ => exact (key _ (by intro b z; cases z) h).elim
  | exc c fs => exact h
  | bad => exact h
end
def tE (K : PySem.W.Frag) (W : WX) (f : EF) : TE := fun σ H Q => ∃ L ρ, RE K H L ρ σ ∧ Post K W L σ H (f ρ) Q
def tB (K : PySem.W.Frag) (W : WX) (f : EF) : TE := fun σ H Q => ∃ L ρ, RE K H L ρ σ ∧ PostB K W L σ H (f ρ) Q
def tN (K : PySem.W.Frag) (W : WX) (f : EF) : TE := fun σ H Q => ∃ L ρ, RE K H L ρ σ ∧ PostN K W L σ H (f ρ) Q
def tT (K : PySem.W.Frag) (W : WX) (f : EF) : TT := fun σ H Q => ∃ L ρ, RE K H L ρ σ ∧ PostT K W L σ H (f ρ) Q
/-- an expression has a value; .. for a moment; .. a new list or dict; a test -/
abbrev SE (X : Cx) (W : WX) (e : Expr) (f : EF) : Prop := PE X e (tE X.K W f)
abbrev SB (X : Cx) (W : WX) (e : Expr) (f : EF) : Prop := PE X e (tB X.K W f)
abbrev SN (X : Cx) (W : WX) (e : Expr) (f : EF) : Prop := PE X e (tN X.K W f)
abbrev ST (X : Cx) (W : WX) (e : Expr) (f : EF) : Prop := PT X e (tT X.K W f)
section
variable {X : Cx} {W : WX} {e : Expr} {f : EF}
theorem _root_.L2.PE.weak {t t' : TE} (h : PE X e t) (hw : ∀ σ H Q, t' σ H Q → t σ H Q) : PE X e t' := ⟨fun pins s σ H Q I q => h.run pins s σ H Q I (hw σ H Q q)⟩
theorem _root_.L2.PT.weak {t t' : TT} (h : PT X e t) (hw : ∀ σ H Q, t' σ H Q → t σ H Q) : PT X e t' := ⟨fun pins s σ H Q I q => h.run pins s σ H Q I (hw σ H Q q)⟩
theorem seb (h : SE X W e f) : SB X W e f := L2.PE.weak h fun σ H Q ⟨L, ρ, re, p⟩ => ⟨L, ρ, re, by
  cases hf : f ρ with
  | ok d => rw [hf] at p; exact fun H' v s r => p H' v s r.rb
  | exc c fs => rw [hf] at p; exact p
  | bad => rw [hf] at p; exact p⟩
theorem sne (h : SN X W e f) : SE X W e f := L2.PE.weak h fun σ H Q ⟨L, ρ, re, p⟩ => ⟨L, ρ, re, by
  cases hf : f ρ with
  | ok d => rw [hf] at p; exact fun H' a s n r => p H' (.ref a) s ((r.lives fun z q => .inl (.inl q)).rp fun z => re.lv a z n)
  | exc c fs => rw [hf] at p; exact p
  | bad => rw [hf] at p; exact p⟩
theorem snb (h : SN X W e f) : SB X W e f := seb (sne h)
end

/-! ### names, constants -/
def eV (i : Nat) : EF := fun ρ => match ρ[i]? with
  | some (some (.val d)) => .ok d
  | _ => .bad
def eB (i : Nat) : EF := fun ρ => match ρ[i]? with
  | some (some (.val d)) => .ok d
  | some (some (.own d)) => .ok d
  | _ => .bad
def eC (d : D) : EF := fun _ => .ok d
section
variable {X : Cx} {W : WX}
theorem se_v (i : Nat) {x : Str} {pos : Pos} (hN : X.N[i]? = some x := by rfl) (hv : Vis X.env.scope x := by first | exact Or.inl rfl | exact Or.inr (Or.inl rfl) | exact Or.inr (Or.inr rfl)) (hd : (x == ("__debug__" : Str)) = false := by decide)
    (hcd : (x == ("__classdict__" : Str)) = false := by decide) : SE X W (.Name x pos) (eV i) := (pe_var hN hv hd hcd).weak fun σ H Q ⟨L, ρ, re, p⟩ => by
  unfold eV at p
  cases hx : ρ[i]? with
  | none => simp only [hx] at p; exact p.elim
  | some o =>
    cases o with
    | none => simp only [hx] at p; exact p.elim
    | some x =>
      cases x with
      | own d => simp only [hx] at p; exact p.elim
      | grid _ => simp only [hx] at p; exact p.elim
      | val d =>
        simp only [hx] at p
        obtain ⟨o, e1, v, e2, r⟩ := re.sl i _ hx
        subst e2
        exact ⟨v, e1, p H v (Same.refl H) r⟩
theorem sb_v (i : Nat) {x : Str} {pos : Pos} (hN : X.N[i]? = some x := by rfl) (hv : Vis X.env.scope x := by first | exact Or.inl rfl | exact Or.inr (Or.inl rfl) | exact Or.inr (Or.inr rfl)) (hd : (x == ("__debug__" : Str)) = false := by decide)
    (hcd : (x == ("__classdict__" : Str)) = false := by decide) : SB X W (.Name x pos) (eB i) := (pe_var hN hv hd hcd).weak fun σ H Q ⟨L, ρ, re, p⟩ => by
  unfold eB at p
  cases hx : ρ[i]? with
  | none => simp only [hx] at p; exact p.elim
  | some o =>
    cases o with
    | none => simp only [hx] at p; exact p.elim
    | some x =>
      cases x with
      | grid _ => simp only [hx] at p; exact p.elim
      | own d =>
        simp only [hx] at p
        obtain ⟨o, e1, a, e2, r⟩ := re.sl i _ hx
        subst e2
        exact ⟨_, e1, p H _ (Same.refl H) (.inr ⟨a, rfl, r⟩)⟩
      | val d =>
        simp only [hx] at p
        obtain ⟨o, e1, v, e2, r⟩ := re.sl i _ hx
        subst e2
        exact ⟨v, e1, p H v (Same.refl H) r.rb⟩
theorem se_int {i j pos} : SE X W (.Constant (.int i) j pos) (eC (.int i)) := pe_int.weak fun σ H Q ⟨L, ρ, re, p⟩ => p H _ (Same.refl H) (.int i)
theorem se_bl {b j pos} : SE X W (.Constant (.bool b) j pos) (eC (.bool b)) := pe_bl.weak fun σ H Q ⟨L, ρ, re, p⟩ => p H _ (Same.refl H) (.bl b)
theorem se_non {j pos} : SE X W (.Constant .none j pos) (eC .none) := pe_non.weak fun σ H Q ⟨L, ρ, re, p⟩ => p H _ (Same.refl H) .non
theorem se_str {x j pos} : SE X W (.Constant (.str x) j pos) (eC (.str x)) := pe_str.weak fun σ H Q ⟨L, ρ, re, p⟩ => p H _ (Same.refl H) (.str x)
/-- a module's constant: an int, a text -/
theorem se_globI {x : Str} {i : Int} {pos : Pos} (hm : ∃ t, X.mg x = some (.int i t)) (hg : Gl X x := by rfl) (hd : (x == ("__debug__" : Str)) = false := by decide) : SE X W (.Name x pos) (eC (.int i)) := by
  obtain ⟨t, hm⟩ := hm
  exact (pe_glob (v := .int i) hg hm ⟨t, rfl⟩ hd).weak fun σ H Q ⟨L, ρ, re, p⟩ => p H _ (Same.refl H) (.int i)
theorem se_globS {x z : Str} {pos : Pos} (hm : ∃ t, X.mg x = some (.str z t)) (hg : Gl X x := by rfl) (hd : (x == ("__debug__" : Str)) = false := by decide) : SE X W (.Name x pos) (eC (.str z)) := by
  obtain ⟨t, hm⟩ := hm
  exact (pe_glob (v := .str z) hg hm ⟨t, rfl⟩ hd).weak fun σ H Q ⟨L, ρ, re, p⟩ => p H _ (Same.refl H) (.str z)
end

/-! ### operators -/
def eOp (fn : D → D → Option D) (f g : EF) : EF := fun ρ => (f ρ).bind fun x => (g ρ).bind fun y => Rs.of (fn x y)
def eUn (fn : D → Option D) (f : EF) : EF := fun ρ => (f ρ).bind fun x => Rs.of (fn x)
/-- an operation by values, as a function of data -/
def rD2 (K : PySem.W.Frag) (fn : D → D → Option D) : R2 := fun x y H Q => ∃ L dx dy d, LvOk H L ∧ Rb K H L dx x ∧ Rb K H L dy y ∧ fn dx dy = some d ∧ ∀ H' v, Same H H' → Rp K H' L d v → Q v H'
abbrev OpD (X : Cx) (op : Operator) (fn : D → D → Option D) : Prop := OpR X (binaryOp op) (rD2 X.K fn)
abbrev CmD (X : Cx) (op : CmpOp) (fn : D → D → Option D) : Prop := OpR X (compareOp op) (rD2 X.K fn)
def rD1 (K : PySem.W.Frag) (fn : D → Option D) : V → Hp → VK → Prop := fun x H Q => ∃ L dx d, LvOk H L ∧ Rb K H L dx x ∧ fn dx = some d ∧ ∀ H' v, Same H H' → Rp K H' L d v → Q v H'
section
variable {X : Cx} {W : WX} {a b c : Expr} {f g h : EF} {pos : Pos}
theorem tOp_of {K : PySem.W.Frag} {fn : D → D → Option D} : ∀ σ H Q, tE K W (eOp fn f g) σ H Q → tOp (rD2 K fn) (tB K W f) (tB K W g) σ H Q := fun σ H Q ⟨L, ρ, re, p⟩ =>
  ⟨L, ρ, re, p.step fun dx H1 x s1 rx p1 => ⟨L, ρ, re.mono s1, p1.step fun dy H2 y s2 ry p2 => by
    cases hd : fn dx dy with
    | none => rw [hd] at p2; exact p2.elim
    | some d => rw [hd] at p2; exact ⟨L, dx, dy, d, re.lv.mono (s1.trans s2), rx.mono s2, ry, hd, p2⟩⟩⟩
theorem se_op {op : Operator} {fn : D → D → Option D} (ho : OpD X op fn) (ha : SB X W a f) (hb : SB X W b g) : SE X W (.BinOp a op b pos) (eOp fn f g) := (pe_op ho ha hb).weak tOp_of
theorem se_cmp {op : CmpOp} {fn : D → D → Option D} (ho : CmD X op fn) (ha : SB X W a f) (hb : SB X W b g) (hm : behindInMarks op b = false := by first | exact nomark _ | rfl) : SE X W (.Compare a [op] [b] pos) (eOp fn f g) := (pe_cmpR ho ha hb hm).weak tOp_of
/-- the same as a test -/
theorem st_cmp {op : CmpOp} {fn : D → D → Option D} (ho : CmD X op fn) (hfn : ∀ x y d, fn x y = some d → ∃ b, d = .bool b) (ha : SB X W a f) (hb : SB X W b g) (hm : behindInMarks op b = false := by first | exact nomark _ | rfl) :
    ST X W (.Compare a [op] [b] pos) (eOp fn f g) := (pt_cmpR ho ha hb hm).weak fun σ H Q ⟨L, ρ, re, p⟩ =>
  ⟨L, ρ, re, p.step fun dx H1 x s1 rx p1 => ⟨L, ρ, re.mono s1, p1.step fun dy H2 y s2 ry p2 => by
    cases hd : fn dx dy with
    | none => rw [hd] at p2; exact p2.elim
    | some d =>
      obtain ⟨b, e⟩ := hfn _ _ _ hd
      subst e
      rw [hd] at p2
      exact ⟨L, dx, dy, _, re.lv.mono (s1.trans s2), rx.mono s2, ry, hd, fun H' v s r => ⟨b, r.blV, p2 H' s⟩⟩⟩⟩
/-- a op b op' c -/
def eChain (fn fn' : D → D → Option D) (f g h : EF) : EF := fun ρ => (f ρ).bind fun x => (g ρ).bind fun y => (Rs.of (fn x y)).bind fun b => match b with
  | .bool true => (h ρ).bind fun z => Rs.of (fn' y z)
  | .bool false => .ok (.bool false)
  | _ => .bad
theorem se_un {op : UnaryOp} {fn : D → Option D} (ho : UnR X (unaryOp op) (rD1 X.K fn)) (ha : SB X W a f) : SE X W (.UnaryOp op a pos) (eUn fn f) := (pe_un ho ha).weak fun σ H Q ⟨L, ρ, re, p⟩ =>
  ⟨L, ρ, re, p.step fun dx H1 x s1 rx p1 => by
    cases hd : fn dx with
    | none => rw [hd] at p1; exact p1.elim
    | some d => rw [hd] at p1; exact ⟨L, dx, d, re.lv.mono s1, rx, hd, p1⟩⟩
end
end VV

set_option Elab.async false
set_option linter.all false
set_option maxRecDepth 100000
set_option maxHeartbeats 4000000
/-! VVc: operators and comparisons as functions of data. -/
namespace VV
open PySem PySem.Spec L2
open PyProof.Rows hiding St

theorem same_upd {H : Hp} {p : Addr} {o : HO} (free : H p = none) : Same H (upd H p o) := fun _ _ e => (upd_ne (ne_of_none e free)).trans e
theorem new_not {H : Hp} {L : Ad} {p : Addr} (lv : LvOk H L) (h : H p = none) : ¬ L p := fun z => lv p z h

theorem Lp_new {H : Hp} {L : Ad} {p : Addr} (h : H p = none) : ∀ a, Lp L p a → L a ∨ H a = none := fun a z => z.elim .inl fun e => by subst e; exact .inr h

/-! ### arithmetic -/
def mulOk (i j : Int) : Bool := decide ((-(2 ^ 64) < i ∧ i < 2 ^ 64) ∨ (-(2 ^ 64) < j ∧ j < 2 ^ 64)) || decide (i.natAbs.log2 + j.natAbs.log2 < 1000000)
def divOk (j : Int) : Bool := decide (j ≠ 0) && decide (j.natAbs.log2 < 9000)
def addF : D → D → Option D
  | .int i, .int j => some (.int (i + j))
  | .str x, .str y => if x.length + y.length ≤ sizeLine then some (.str (x ++ y)) else none
  | .list xs, .list ys => if xs.length + ys.length ≤ sizeLine then some (.list (xs ++ ys)) else none
  | .tuple xs, .tuple ys => if xs.length + ys.length ≤ sizeLine then some (.tuple (xs ++ ys)) else none
  | _, _ => none
def subF : D → D → Option D
  | .int i, .int j => some (.int (i - j))
  | _, _ => none
def mulF : D → D → Option D
  | .int i, .int j => if mulOk i j = true then some (.int (i * j)) else none
  | .list xs, .int k => if (decide (-(2 ^ 63) ≤ k) && decide (k < 2 ^ 63) && decide (xs.length * k.toNat ≤ sizeLine)) = true then some (.list (List.replicate k.toNat xs).flatten) else none
  | .tuple xs, .int k => if (!xs.isEmpty && decide (2 ≤ k) && decide (k ≤ 1000) && decide (xs.length ≤ 1000)) = true then some (.tuple (List.replicate k.toNat xs).flatten) else none
  | _, _ => none
def divF : D → D → Option D
  | .int i, .int j => if divOk j = true then some (.int (i.fdiv j)) else none
  | _, _ => none
def modF : D → D → Option D
  | .int i, .int j => if j = 0 then none else some (.int (i.fmod j))
  | _, _ => none
def powF : D → D → Option D
  | .int i, .int j => if (decide (0 ≤ j) && decide (j ≤ 1000000) && decide (i.natAbs < 2 ^ 64)) = true then some (.int (i ^ j.toNat)) else none
  | _, _ => none
def negF : D → Option D
  | .int i => some (.int (-i))
  | _ => none
section
variable {X : Cx}
theorem op_addD : OpD X .Add addF := by
  intro pn s σ H x y v u Q I rx ry h
  obtain ⟨L, dx, dy, d, lv, bx, by', hf, k⟩ := h
  unfold addF at hf
  split at hf
  · obtain rfl := bx.intV
    obtain rfl := by'.intV
    cases hf
    exact op_add pn s σ H _ _ v u Q I rx ry ⟨_, _, rfl, rfl, k H _ (Same.refl H) (.int _)⟩
  · obtain rfl := bx.strV
    obtain rfl := by'.strV
    split at hf
    · cases hf
      exact op_add_str pn s σ H _ _ v u Q I rx ry ⟨_, _, rfl, rfl, by assumption, k H _ (Same.refl H) (.str _)⟩
    · cases hf
  · obtain ⟨a, vs, rfl, ha, ra⟩ := bx.lstV
    obtain ⟨b, us, rfl, hb, rb⟩ := by'.lstV
    split at hf
    · cases hf
      rename_i hz
      rw [ra.length, rb.length] at hz
      exact op_cat pn s σ H _ _ v u Q I rx ry ⟨a, b, vs, us, rfl, rfl, ha, hb, hz, fun p hp => k _ _ (same_upd hp) (.lst upd_same (new_not lv hp) ((ra.append rb).mono (same_upd hp)))⟩
    · cases hf
  · obtain ⟨a, vs, rfl, ha, ra⟩ := bx.tupV
    obtain ⟨b, us, rfl, hb, rb⟩ := by'.tupV
    split at hf
    · cases hf
      rename_i hz
      rw [ra.length, rb.length] at hz
      refine op_catA pn s σ H _ _ v u Q I rx ry ⟨a, b, vs, us, rfl, rfl, SqT.of ha, SqT.of hb, hz, ?_, ?_, ?_⟩
      · intro e
        subst e
        cases ra
        exact k H _ (Same.refl H) (.tup hb rb)
      · intro _ e
        subst e
        cases rb
        rw [List.append_nil] at k
        exact k H _ (Same.refl H) (.tup ha ra)
      · intro _ _ p hp
        exact k _ _ (same_upd hp) (.tup upd_same ((ra.append rb).mono (same_upd hp)))
    · cases hf
  · cases hf
theorem op_subD : OpD X .Sub subF := by
  intro pn s σ H x y v u Q I rx ry h
  obtain ⟨L, dx, dy, d, lv, bx, by', hf, k⟩ := h
  unfold subF at hf
  split at hf
  · obtain rfl := bx.intV
    obtain rfl := by'.intV
    cases hf
    exact op_sub pn s σ H _ _ v u Q I rx ry ⟨_, _, rfl, rfl, k H _ (Same.refl H) (.int _)⟩
  · cases hf
theorem op_mulD : OpD X .Mult mulF := by
  intro pn s σ H x y v u Q I rx ry h
  obtain ⟨L, dx, dy, d, lv, bx, by', hf, k⟩ := h
  unfold mulF at hf
  split at hf
  · obtain rfl := bx.intV
    obtain rfl := by'.intV
    split at hf
    · cases hf
      rename_i hz
      unfold mulOk at hz
      rcases Bool.or_eq_true_iff.mp hz with q | q
      · have q' := of_decide_eq_true q
        exact op_mul pn s σ H _ _ v u Q I rx ry ⟨_, _, rfl, rfl, q', k H _ (Same.refl H) (.int _)⟩
      · have q' := of_decide_eq_true q
        exact op_mulW pn s σ H _ _ v u Q I rx ry ⟨_, _, rfl, rfl, q', k H _ (Same.refl H) (.int _)⟩
    · cases hf
  · obtain ⟨a, vs, rfl, ha, ra⟩ := bx.lstV
    obtain rfl := by'.intV
    split at hf
    · cases hf
      rename_i hz
      simp only [Bool.and_eq_true, decide_eq_true_eq] at hz
      obtain ⟨⟨h1, h2⟩, h3⟩ := hz
      rw [ra.length] at h3
      exact op_rep pn s σ H _ _ v u Q I rx ry ⟨a, _, vs, rfl, rfl, ha, h1, h2, h3, fun p hp => k _ _ (same_upd hp) (.lst upd_same (new_not lv hp) ((ra.rep _).mono (same_upd hp)))⟩
    · cases hf
  · obtain ⟨a, vs, rfl, ha, ra⟩ := bx.tupV
    obtain rfl := by'.intV
    split at hf
    · cases hf
      rename_i hz
      simp only [Bool.and_eq_true, decide_eq_true_eq, Bool.not_eq_true'] at hz
      obtain ⟨⟨⟨h0, h1⟩, h2⟩, h3⟩ := hz
      rw [ra.length] at h3
      refine op_repT pn s σ H _ _ v u Q I rx ry ⟨a, _, vs, rfl, rfl, SqT.of ha, ?_, h1, h2, h3, fun p hp => k _ _ (same_upd hp) (.tup upd_same ((ra.rep _).mono (same_upd hp)))⟩
      intro e
      subst e
      cases ra
      cases h0
    · cases hf
  · cases hf
theorem op_divD : OpD X .FloorDiv divF := by
  intro pn s σ H x y v u Q I rx ry h
  obtain ⟨L, dx, dy, d, lv, bx, by', hf, k⟩ := h
  unfold divF at hf
  split at hf
  · obtain rfl := bx.intV
    obtain rfl := by'.intV
    split at hf
    · cases hf
      rename_i hz
      unfold divOk at hz
      simp only [Bool.and_eq_true, decide_eq_true_eq] at hz
      obtain ⟨t, rfl⟩ := rx
      obtain ⟨t', rfl⟩ := ry
      exact floordiv_int hz.1 ⟨.int _, H, I.tok _, ⟨_, rfl⟩, k H _ (Same.refl H) (.int _)⟩ (.inl (PyProof.noPylong_of_log2 hz.2))
    · cases hf
  · cases hf
theorem op_modD : OpD X .Mod modF := by
  intro pn s σ H x y v u Q I rx ry h
  obtain ⟨L, dx, dy, d, lv, bx, by', hf, k⟩ := h
  unfold modF at hf
  split at hf
  · obtain rfl := bx.intV
    obtain rfl := by'.intV
    split at hf
    · cases hf
    · cases hf
      exact op_modN pn s σ H _ _ v u Q I rx ry ⟨_, _, rfl, rfl, by assumption, k H _ (Same.refl H) (.int _)⟩
  · cases hf
theorem op_powD : OpD X .Pow powF := by
  intro pn s σ H x y v u Q I rx ry h
  obtain ⟨L, dx, dy, d, lv, bx, by', hf, k⟩ := h
  unfold powF at hf
  split at hf
  · obtain rfl := bx.intV
    obtain rfl := by'.intV
    split at hf
    · cases hf
      rename_i hz
      simp only [Bool.and_eq_true, decide_eq_true_eq] at hz
      exact op_pow pn s σ H _ _ v u Q I rx ry ⟨_, _, rfl, rfl, ⟨hz.1.1, hz.1.2, hz.2⟩, k H _ (Same.refl H) (.int _)⟩
    · cases hf
  · cases hf
theorem un_negD : UnR X (unaryOp .USub) (rD1 X.K negF) := by
  intro pn s σ H x v Q I rx h
  obtain ⟨L, dx, d, lv, bx, hf, k⟩ := h
  unfold negF at hf
  split at hf
  · obtain rfl := bx.intV
    cases hf
    exact un_neg pn s σ H _ v Q I rx ⟨_, rfl, k H _ (Same.refl H) (.int _)⟩
  · cases hf
end

/-! ### comparisons -/
def cmpF (p : Int → Int → Bool) (q : List Nat → List Nat → Bool) : D → D → Option D
  | .int i, .int j => some (.bool (p i j))
  | .str x, .str y => some (.bool (q x.cps.toList y.cps.toList))
  | _, _ => none
def ltF := cmpF (fun i j => decide (i < j)) fun x y => decide (x < y)
def leF := cmpF (fun i j => decide (i ≤ j)) fun x y => !decide (y < x)
def gtF := cmpF (fun i j => decide (j < i)) fun x y => decide (y < x)
def geF := cmpF (fun i j => decide (j ≤ i)) fun x y => !decide (x < y)
def eqF : D → D → Option D := fun x y => if (SeqAt.shaped x && SeqAt.shaped y) = true then some (.bool (PyData.eqv x y)) else none
def neF : D → D → Option D := fun x y => if (SeqAt.shaped x && SeqAt.shaped y) = true then some (.bool (!PyData.eqv x y)) else none
def isNone : D → Bool
  | .none => true
  | _ => false
def isF : D → D → Option D := fun x y => if isNone y = true then some (.bool (isNone x)) else none
def isNotF : D → D → Option D := fun x y => if isNone y = true then some (.bool (!isNone x)) else none
theorem isNone_iff {d : D} : isNone d = true ↔ d = .none := by cases d <;> simp [isNone]
theorem cmpF_b {p q x y d} (h : cmpF p q x y = some d) : ∃ b, d = .bool b := by
  unfold cmpF at h
  split at h <;> cases h <;> exact ⟨_, rfl⟩
theorem eqF_b {x y d} (h : eqF x y = some d) : ∃ b, d = .bool b := by
  unfold eqF at h
  split at h <;> cases h; exact ⟨_, rfl⟩
theorem neF_b {x y d} (h : neF x y = some d) : ∃ b, d = .bool b := by
  unfold neF at h
  split at h <;> cases h; exact ⟨_, rfl⟩
theorem isF_b {x y d} (h : isF x y = some d) : ∃ b, d = .bool b := by
  unfold isF at h
  split at h <;> cases h; exact ⟨_, rfl⟩
theorem isNotF_b {x y d} (h : isNotF x y = some d) : ∃ b, d = .bool b := by
  unfold isNotF at h
  split at h <;> cases h; exact ⟨_, rfl⟩
/-! data with no dict in it read as the library reads them -/
theorem not_lay_dict {ps : List (D × D)} : ¬ (PyData.dict ps).canLay0 = true := by simp [PyData.canLay0]
section
variable {K : PySem.W.Frag} {H : Hp} {L : Ad}
mutual
theorem Rp.dp : ∀ {d : D} {v : V}, Rp K H L d v → d.canLay0 = true → Dp K H v d
  | _, _, .non, _ => .non
  | _, _, .bl b, _ => .bl b
  | _, _, .int i, _ => .int i
  | _, _, .str x, _ => .str x
  | _, _, .tup h r, c => .tup (SqT.of h) (RpL.dp r (by simpa [PyData.canLay0] using c))
  | _, _, .lst h n r, c => .lst (SqL.of h) (RpL.dp r (by simpa [PyData.canLay0] using c))
  | _, _, .rd h, c => (not_lay_dict c).elim
  | _, _, .dk _ _ _ _, c => (not_lay_dict c).elim
  | _, _, .dt _ _ _ _, c => (not_lay_dict c).elim
theorem RpL.dp : ∀ {ds : List D} {vs : List V}, RpL K H L ds vs → PyData.canLayAll0 ds = true → DpAll K H vs ds
  | _, _, .nil, _ => .nil
  | _, _, .cons h r, c => by
    rw [PyData.canLayAll0, Bool.and_eq_true] at c
    exact .cons (Rp.dp h c.1) (RpL.dp r c.2)
end
theorem Rb.dp {d : D} {v : V} (h : Rb K H L d v) (c : d.canLay0 = true) : Dp K H v d := by
  rcases h with h | ⟨a, e, h⟩
  · exact h.dp c
  · subst e
    cases h with
    | lst h r => exact .lst (SqL.of h) (RpL.dp r (by simpa [PyData.canLay0] using c))
    | dk _ _ _ => exact (not_lay_dict c).elim
    | dt _ _ _ => exact (not_lay_dict c).elim
end
section
variable {X : Cx}
theorem op_cmpD {op : CmpOp} {p : Int → Int → Bool} {q : List Nat → List Nat → Bool} (h1 : OpR X (compareOp op) (rI0 fun i j => .bl (p i j))) (h2 : OpR X (compareOp op) (fun x y H Q => ∃ i j, x = .str i ∧ y = .str j ∧ Q (.bl (q i.cps.toList j.cps.toList)) H)) : CmD X op (cmpF p q) := by
  intro pn s σ H x y v u Q I rx ry h
  obtain ⟨L, dx, dy, d, lv, bx, by', hf, k⟩ := h
  unfold cmpF at hf
  split at hf
  · obtain rfl := bx.intV
    obtain rfl := by'.intV
    cases hf
    exact h1 pn s σ H _ _ v u Q I rx ry ⟨_, _, rfl, rfl, k H _ (Same.refl H) (.bl _)⟩
  · obtain rfl := bx.strV
    obtain rfl := by'.strV
    cases hf
    exact h2 pn s σ H _ _ v u Q I rx ry ⟨_, _, rfl, rfl, k H _ (Same.refl H) (.bl _)⟩
  · cases hf
theorem op_ltD : CmD X .Lt ltF := op_cmpD op_lt op_lt_str
theorem op_leD : CmD X .LtE leF := op_cmpD op_le op_le_str
theorem op_gtD : CmD X .Gt gtF := op_cmpD op_gt op_gt_str
theorem op_geD : CmD X .GtE geF := op_cmpD op_ge op_ge_str
theorem op_eqX {k : Nat} (hr : Room k X.A) : CmD X .Eq eqF := by
  intro pn s σ H x y v u Q I rx ry h
  obtain ⟨L, dx, dy, d, lv, bx, by', hf, k⟩ := h
  unfold eqF at hf
  split at hf
  · cases hf
    rename_i hz
    rw [Bool.and_eq_true] at hz
    exact op_eqD hr.units pn s σ H _ _ v u Q I rx ry ⟨dx, dy, bx.dp (SeqAt.canLay_of_shaped hz.1), by'.dp (SeqAt.canLay_of_shaped hz.2), hz.1, hz.2, k H _ (Same.refl H) (.bl _)⟩
  · cases hf
theorem op_neX {k : Nat} (hr : Room k X.A) : CmD X .NotEq neF := by
  intro pn s σ H x y v u Q I rx ry h
  obtain ⟨L, dx, dy, d, lv, bx, by', hf, k⟩ := h
  unfold neF at hf
  split at hf
  · cases hf
    rename_i hz
    rw [Bool.and_eq_true] at hz
    exact op_neD hr.units pn s σ H _ _ v u Q I rx ry ⟨dx, dy, bx.dp (SeqAt.canLay_of_shaped hz.1), by'.dp (SeqAt.canLay_of_shaped hz.2), hz.1, hz.2, k H _ (Same.refl H) (.bl _)⟩
  · cases hf
theorem op_isX : CmD X .Is isF := by
  intro pn s σ H x y v u Q I rx ry h
  obtain ⟨L, dx, dy, d, lv, bx, by', hf, k⟩ := h
  unfold isF at hf
  split at hf
  · cases hf
    rename_i hz
    have e := isNone_iff.mp hz
    subst e
    obtain rfl := by'.nonV
    refine op_isN pn s σ H _ _ v u Q I rx ry ⟨rfl, k H _ (Same.refl H) ?_⟩
    have e2 : decide (x = .non) = isNone dx := by
      cases hx : isNone dx with
      | true => exact decide_eq_true (bx.non_iff.mpr (isNone_iff.mp hx))
      | false => exact decide_eq_false fun z => by rw [isNone_iff.mpr (bx.non_iff.mp z)] at hx; cases hx
    rw [e2]
    exact .bl _
  · cases hf
theorem op_isNotX : CmD X .IsNot isNotF := by
  intro pn s σ H x y v u Q I rx ry h
  obtain ⟨L, dx, dy, d, lv, bx, by', hf, k⟩ := h
  unfold isNotF at hf
  split at hf
  · cases hf
    rename_i hz
    have e := isNone_iff.mp hz
    subst e
    obtain rfl := by'.nonV
    refine op_notN pn s σ H _ _ v u Q I rx ry ⟨rfl, k H _ (Same.refl H) ?_⟩
    have e2 : decide (x = .non) = isNone dx := by
      cases hx : isNone dx with
      | true => exact decide_eq_true (bx.non_iff.mpr (isNone_iff.mp hx))
      | false => exact decide_eq_false fun z => by rw [isNone_iff.mpr (bx.non_iff.mp z)] at hx; cases hx
    rw [e2]
    exact .bl _
  · cases hf
end
end VV

set_option Elab.async false
set_option linter.all false
set_option maxRecDepth 100000
set_option maxHeartbeats 4000000
/-! VVd: tests, and, or, not; arguments; calls; displays; subscripts. -/
namespace VV
open PySem PySem.Spec L2
open PyProof.Rows hiding St

/-! ### truth -/
def tru : D → Option Bool
  | .none => some false
  | .bool b => some b
  | .int i => some (i != 0)
  | .str x => if x.length ≤ sizeLine then some ((x.length : Int) != 0) else none
  | .list ds => some (!ds.isEmpty)
  | .tuple ds => some (!ds.isEmpty)
  | .dict _ => none
theorem isEmpty_len {α β : Type} {xs : List α} {ys : List β} (h : xs.length = ys.length) : xs.isEmpty = ys.isEmpty := by
  cases xs <;> cases ys <;> simp at h ⊢
theorem Rb.tru {K : PySem.W.Frag} {H : Hp} {L : Ad} {d : D} {v : V} {k : Bool} (h : Rb K H L d v) (e : tru d = some k) : TruV K v H k := by
  cases d with
  | none => obtain rfl := h.nonV; cases e; rfl
  | bool b => obtain rfl := h.blV; cases e; rfl
  | int i => obtain rfl := h.intV; cases e; rfl
  | str x =>
    obtain rfl := h.strV
    simp only [VV.tru] at e
    split at e
    · cases e; exact ⟨by assumption, rfl⟩
    · cases e
  | list ds =>
    obtain ⟨a, vs, rfl, ha, r⟩ := h.lstV
    cases e
    exact .inl ⟨vs, SqL.of ha, by rw [isEmpty_len r.length]⟩
  | tuple ds =>
    obtain ⟨a, vs, rfl, ha, r⟩ := h.tupV
    cases e
    exact .inr (.inl ⟨vs, SqT.of ha, by rw [isEmpty_len r.length]⟩)
  | dict ps => cases e
def truR (d : D) : Rs := match tru d with
  | some b => .ok (.bool b)
  | none => .bad
def gTru (f : EF) : EF := fun ρ => (f ρ).bind truR
def notR : D → Rs
  | .bool b => .ok (.bool (!b))
  | _ => .bad
def gNot (f : EF) : EF := fun ρ => (f ρ).bind notR
def andR (r : Rs) : D → Rs
  | .bool true => r
  | .bool false => .ok (.bool false)
  | _ => .bad
def orR (r : Rs) : D → Rs
  | .bool false => r
  | .bool true => .ok (.bool true)
  | _ => .bad
def gAnd (f g : EF) : EF := fun ρ => (f ρ).bind (andR (g ρ))
def gOr (f g : EF) : EF := fun ρ => (f ρ).bind (orR (g ρ))
/-- values -/
def eAnd (f g : EF) : EF := fun ρ => (f ρ).bind fun d => match tru d with
  | some true => g ρ
  | some false => .ok d
  | none => .bad
def eOr (f g : EF) : EF := fun ρ => (f ρ).bind fun d => match tru d with
  | some true => .ok d
  | some false => g ρ
  | none => .bad
def eNot (f : EF) : EF := fun ρ => (f ρ).bind fun d => match tru d with
  | some b => .ok (.bool (!b))
  | none => .bad
def ifR (r1 r2 : Rs) : D → Rs
  | .bool true => r1
  | .bool false => r2
  | _ => .bad
def eIf (c f g : EF) : EF := fun ρ => (c ρ).bind (ifR (f ρ) (g ρ))
abbrev SW (X : Cx) (W : WX) (e : Expr) (f : EF) : Prop := PW X e (tT X.K W f)
section
variable {X : Cx} {W : WX} {a b c : Expr} {f g h : EF} {pos : Pos} {rest : List Expr}
theorem _root_.L2.PW.weak {e : Expr} {t t' : TT} (h : PW X e t) (hw : ∀ σ H Q, t' σ H Q → t σ H Q) : PW X e t' := ⟨fun wh pn s σ H Q I q => h.run wh pn s σ H Q I (hw σ H Q q)⟩
theorem st_tru (ha : SB X W a f) (he : ∀ whole, isTrue a X.env whole = (do let v ← whole; standAt a.pos; holding [v] (truthy v)) := by intro _; rfl) : ST X W a (gTru f) := (pt_truth ha he).weak fun σ H Q ⟨L, ρ, re, p⟩ =>
  ⟨L, ρ, re, p.step fun d H1 v s1 r p1 => by
    unfold truR at p1
    cases e : tru d with
    | none => simp only [e] at p1; exact p1.elim
    | some k => simp only [e] at p1; exact ⟨k, r.tru e, p1 H1 (Same.refl H1)⟩⟩
theorem notR_bad (d : D) (h : ∀ b, d ≠ .bool b) : notR d = .bad := by
  cases d with
  | bool b => exact absurd rfl (h b)
  | _ => rfl
theorem andR_bad {r : Rs} (d : D) (h : ∀ b, d ≠ .bool b) : andR r d = .bad := by
  cases d with
  | bool b => exact absurd rfl (h b)
  | _ => rfl
theorem orR_bad {r : Rs} (d : D) (h : ∀ b, d ≠ .bool b) : orR r d = .bad := by
  cases d with
  | bool b => exact absurd rfl (h b)
  | _ => rfl
theorem ifR_bad {r r' : Rs} (d : D) (h : ∀ b, d ≠ .bool b) : ifR r r' d = .bad := by
  cases d with
  | bool b => exact absurd rfl (h b)
  | _ => rfl
theorem st_not (ha : ST X W a f) : ST X W (.UnaryOp .Not a pos) (gNot f) := (pt_not ha).weak fun σ H Q ⟨L, ρ, re, p⟩ =>
  ⟨L, ρ, re, p.stepT notR_bad fun b H1 s1 p1 => p1 H1 (Same.refl H1)⟩
theorem sw_and1 (ha : ST X W a f) : SW X W (.BoolOp .And [a] pos) f := pw_and1 ha
theorem sw_or1 (ha : ST X W a f) : SW X W (.BoolOp .Or [a] pos) f := pw_or1 ha
theorem sw_and (ha : ST X W a f) (hb : SW X W (.BoolOp .And (b :: rest) pos) g) : SW X W (.BoolOp .And (a :: b :: rest) pos) (gAnd f g) := (pw_and ha hb).weak fun σ H Q ⟨L, ρ, re, p⟩ =>
  ⟨L, ρ, re, p.stepT andR_bad fun b H1 s1 p1 => by
    cases b with
    | true => rw [if_pos rfl]; exact ⟨L, ρ, re.mono s1, p1⟩
    | false => rw [if_neg Bool.false_ne_true]; exact p1 H1 (Same.refl H1)⟩
theorem sw_or (ha : ST X W a f) (hb : SW X W (.BoolOp .Or (b :: rest) pos) g) : SW X W (.BoolOp .Or (a :: b :: rest) pos) (gOr f g) := (pw_or ha hb).weak fun σ H Q ⟨L, ρ, re, p⟩ =>
  ⟨L, ρ, re, p.stepT orR_bad fun b H1 s1 p1 => by
    cases b with
    | true => rw [if_pos rfl]; exact p1 H1 (Same.refl H1)
    | false => rw [if_neg Bool.false_ne_true]; exact ⟨L, ρ, re.mono s1, p1⟩⟩
theorem st_w (h : SW X W a f) : ST X W a f := PW.pt h
theorem se_one {op} (h : SE X W a f) : SE X W (.BoolOp op [a] pos) f := pe_one h
theorem se_and (ha : SE X W a f) (hb : SE X W (.BoolOp .And (b :: rest) pos) g) : SE X W (.BoolOp .And (a :: b :: rest) pos) (eAnd f g) := (pe_andT ha hb).weak fun σ H Q ⟨L, ρ, re, p⟩ =>
  ⟨L, ρ, re, p.stepE fun d H1 v s1 r p1 => by
    cases e : tru d with
    | none => simp only [e] at p1; exact p1.elim
    | some k =>
      simp only [e] at p1
      refine ⟨k, r.rb.tru e, ?_⟩
      cases k with
      | true => rw [if_pos rfl]; exact ⟨L, ρ, re.mono s1, p1⟩
      | false => rw [if_neg Bool.false_ne_true]; exact p1 H1 v (Same.refl H1) r⟩
theorem se_or (ha : SE X W a f) (hb : SE X W (.BoolOp .Or (b :: rest) pos) g) : SE X W (.BoolOp .Or (a :: b :: rest) pos) (eOr f g) := (pe_orT ha hb).weak fun σ H Q ⟨L, ρ, re, p⟩ =>
  ⟨L, ρ, re, p.stepE fun d H1 v s1 r p1 => by
    cases e : tru d with
    | none => simp only [e] at p1; exact p1.elim
    | some k =>
      simp only [e] at p1
      refine ⟨k, r.rb.tru e, ?_⟩
      cases k with
      | true => rw [if_pos rfl]; exact p1 H1 v (Same.refl H1) r
      | false => rw [if_neg Bool.false_ne_true]; exact ⟨L, ρ, re.mono s1, p1⟩⟩
theorem se_not (ha : SB X W a f) : SE X W (.UnaryOp .Not a pos) (eNot f) := (pe_notT ha).weak fun σ H Q ⟨L, ρ, re, p⟩ =>
  ⟨L, ρ, re, p.step fun d H1 v s1 r p1 => by
    cases e : tru d with
    | none => simp only [e] at p1; exact p1.elim
    | some k => simp only [e] at p1; exact ⟨k, r.tru e, p1 H1 _ (Same.refl H1) (.bl _)⟩⟩
theorem se_if (hc : ST X W c h) (ha : SE X W a f) (hb : SE X W b g) : SE X W (.IfExp c a b pos) (eIf h f g) := (pe_ifExp hc ha hb).weak fun σ H Q ⟨L, ρ, re, p⟩ => by
  refine ⟨L, ρ, re, ?_⟩
  unfold eIf at p
  cases hr : h ρ with
  | bad => rw [hr] at p; exact p
  | exc c fs => rw [hr] at p; exact p
  | ok d =>
    rw [hr] at p
    cases d with
    | bool k =>
      intro H1 s1
      have p1 := p.mono s1
      cases k with
      | true => rw [if_pos rfl]; exact ⟨L, ρ, re.mono s1, p1⟩
      | false => rw [if_neg Bool.false_ne_true]; exact ⟨L, ρ, re.mono s1, p1⟩
    | _ => exact p
/-- a op b op' c -/
theorem se_chain {op op' : CmpOp} {fn fn' : D → D → Option D} {h : EF} (ho : CmD X op fn) (ho' : CmD X op' fn') (hfn : ∀ x y d, fn x y = some d → ∃ b, d = .bool b) (ha : SB X W a f) (hb : SB X W b g) (hc : SB X W c h)
    (hm : lastMarks [op, op'] [b, c] = false := by with_unfolding_all rfl) : SE X W (.Compare a [op, op'] [b, c] pos) (eChain fn fn' f g h) :=
  (pe_chain ho ho' ha hb hc hm).weak fun σ H Q ⟨L, ρ, re, p⟩ =>
  ⟨L, ρ, re, p.step fun dx H1 x s1 rx p1 => ⟨L, ρ, re.mono s1, p1.step fun dy H2 y s2 ry p2 => by
    cases hd : fn dx dy with
    | none => rw [hd] at p2; exact p2.elim
    | some d =>
      obtain ⟨k, e⟩ := hfn _ _ _ hd
      subst e
      rw [hd] at p2
      refine ⟨L, dx, dy, _, re.lv.mono (s1.trans s2), rx.mono s2, ry, hd, fun H3 v s3 r => ⟨k, r.blV, ?_⟩⟩
      simp only [Rs.of_some, Rs.bind_ok] at p2
      have p3 := p2.mono s3
      cases k with
      | false => exact p3 H3 _ (Same.refl H3) (.bl _)
      | true =>
        refine ⟨L, ρ, re.mono (s1.trans (s2.trans s3)), p3.step fun dz H4 z s4 rz p4 => ?_⟩
        cases hz : fn' dy dz with
        | none => rw [hz] at p4; exact p4.elim
        | some d' => rw [hz] at p4; exact ⟨L, dy, dz, d', re.lv.mono (s1.trans (s2.trans (s3.trans s4))), ry.mono (s3.trans s4), rz, hz, p4⟩⟩⟩
theorem st_chain {op op' : CmpOp} {fn fn' : D → D → Option D} {h : EF} (ho : CmD X op fn) (ho' : CmD X op' fn') (hfn : ∀ x y d, fn x y = some d → ∃ b, d = .bool b) (hfn' : ∀ x y d, fn' x y = some d → ∃ b, d = .bool b) (ha : SB X W a f) (hb : SB X W b g) (hc : SB X W c h)
    (hm : lastMarks [op, op'] [b, c] = false := by with_unfolding_all rfl) : ST X W (.Compare a [op, op'] [b, c] pos) (eChain fn fn' f g h) :=
  (pt_chain ho ho' ha hb hc hm).weak fun σ H Q ⟨L, ρ, re, p⟩ =>
  ⟨L, ρ, re, p.step fun dx H1 x s1 rx p1 => ⟨L, ρ, re.mono s1, p1.step fun dy H2 y s2 ry p2 => by
    cases hd : fn dx dy with
    | none => rw [hd] at p2; exact p2.elim
    | some d =>
      obtain ⟨k, e⟩ := hfn _ _ _ hd
      subst e
      rw [hd] at p2
      refine ⟨L, dx, dy, _, re.lv.mono (s1.trans s2), rx.mono s2, ry, hd, fun H3 v s3 r => ⟨k, r.blV, ?_⟩⟩
      simp only [Rs.of_some, Rs.bind_ok] at p2
      have p3 := p2.mono s3
      cases k with
      | false => exact ⟨false, rfl, p3 H3 (Same.refl H3)⟩
      | true =>
        refine ⟨L, ρ, re.mono (s1.trans (s2.trans s3)), p3.step fun dz H4 z s4 rz p4 => ?_⟩
        cases hz : fn' dy dz with
        | none => rw [hz] at p4; exact p4.elim
        | some d' =>
          obtain ⟨k', e'⟩ := hfn' _ _ _ hz
          subst e'
          rw [hz] at p4
          exact ⟨L, dy, dz, _, re.lv.mono (s1.trans (s2.trans (s3.trans s4))), ry.mono (s3.trans s4), rz, hz, fun H5 v s5 r => ⟨k', r.blV, p4 H5 s5⟩⟩⟩⟩
end
end VV

set_option Elab.async false
set_option linter.all false
set_option maxRecDepth 100000
set_option maxHeartbeats 4000000
/-! VVe: arguments, calls, displays, subscripts. -/
namespace VV
open PySem PySem.Spec L2
open PyProof.Rows hiding St

/-! ### several expressions -/
inductive RL where
  | ok (ds : List D)
  | exc (c : Str) (fs : List (Str × D))
  | bad
def RL.bind (r : RL) (k : List D → Rs) : Rs := match r with
  | .ok ds => k ds
  | .exc c fs => .exc c fs
  | .bad => .bad
@[simp] theorem RL.bind_ok (d : List D) (k : List D → Rs) : (RL.ok d).bind k = k d := rfl
@[simp] theorem RL.bind_exc (c : Str) (fs : List (Str × D)) (k : List D → Rs) : (RL.exc c fs).bind k = .exc c fs := rfl
@[simp] theorem RL.bind_bad (k : List D → Rs) : RL.bad.bind k = .bad := rfl
def RL.cons (r : Rs) (q : RL) : RL := match r with
  | .ok d => (match q with
    | .ok ds => .ok (d :: ds)
    | .exc c fs => .exc c fs
    | .bad => .bad)
  | .exc c fs => .exc c fs
  | .bad => .bad
@[simp] theorem RL.cons_ok (d : D) (ds : List D) : RL.cons (.ok d) (.ok ds) = .ok (d :: ds) := rfl
@[simp] theorem RL.cons_exc (c : Str) (fs : List (Str × D)) (q : RL) : RL.cons (.exc c fs) q = .exc c fs := rfl
@[simp] theorem RL.cons_bad (q : RL) : RL.cons .bad q = .bad := rfl
@[simp] theorem RL.cons_ok_exc (d : D) (c : Str) (fs : List (Str × D)) : RL.cons (.ok d) (.exc c fs) = .exc c fs := rfl
@[simp] theorem RL.cons_ok_bad (d : D) : RL.cons (.ok d) .bad = .bad := rfl
def evA : List EF → En → RL
  | [], _ => .ok []
  | f :: fs, ρ => RL.cons (f ρ) (evA fs ρ)
@[simp] theorem evA_nil (ρ : En) : evA [] ρ = .ok [] := rfl
@[simp] theorem evA_cons (f : EF) (fs : List EF) (ρ : En) : evA (f :: fs) ρ = RL.cons (f ρ) (evA fs ρ) := rfl
inductive RbL (K : PySem.W.Frag) (H : Hp) (L : Ad) : List D → List V → Prop
  | nil : RbL K H L [] []
  | cons {d : D} {v : V} {ds : List D} {vs : List V} : Rb K H L d v → RbL K H L ds vs → RbL K H L (d :: ds) (v :: vs)
def PostA (K : PySem.W.Frag) (W : WX) (L : Ad) (σ : St) (H : Hp) (r : RL) (Q : List V → Hp → Prop) : Prop := match r with
  | .ok ds => ∀ (H' : Hp) (vs : List V), Same H H' → RpL K H' L ds vs → Q vs H'
  | .exc c fs => ∀ (H' : Hp) (x : Option Addr), Same H H' → XR K H' L fs x → W (.ref (He.ga K c)) x σ H'
  | .bad => False
def PostBA (K : PySem.W.Frag) (W : WX) (L : Ad) (σ : St) (H : Hp) (r : RL) (Q : List V → Hp → Prop) : Prop := match r with
  | .ok ds => ∀ (H' : Hp) (vs : List V), Same H H' → RbL K H' L ds vs → Q vs H'
  | .exc c fs => ∀ (H' : Hp) (x : Option Addr), Same H H' → XR K H' L fs x → W (.ref (He.ga K c)) x σ H'
  | .bad => False
section
variable {K : PySem.W.Frag} {W : WX} {L : Ad} {σ : St} {H H1 : Hp} {Q : VK} {QL : List V → Hp → Prop}
theorem RbL.mono {ds : List D} {vs : List V} (s : Same H H1) (h : RbL K H L ds vs) : RbL K H1 L ds vs := by
  induction h with
  | nil => exact .nil
  | cons r _ ih => exact .cons (r.mono s) ih
theorem PostA.mono {r : RL} (h : PostA K W L σ H r QL) (s : Same H H1) : PostA K W L σ H1 r QL := by
  cases r with
  | ok d => exact fun H' v s' => h H' v (s.trans s')
  | exc c fs => exact fun H' x s' => h H' x (s.trans s')
  | bad => exact h
theorem PostBA.mono {r : RL} (h : PostBA K W L σ H r QL) (s : Same H H1) : PostBA K W L σ H1 r QL := by
  cases r with
  | ok d => exact fun H' v s' => h H' v (s.trans s')
  | exc c fs => exact fun H' x s' => h H' x (s.trans s')
  | bad => exact h
theorem PostN.mono {r : Rs} (h : PostN K W L σ H r Q) (s : Same H H1) : PostN K W L σ H1 r Q := by
  cases r with
  | ok d => exact fun H' v s' n => h H' v (s.trans s') (s.free n)
  | exc c fs => exact fun H' x s' => h H' x (s.trans s')
  | bad => exact h
theorem Post.stepA {r : RL} {k : List D → Rs} (h : Post K W L σ H (r.bind k) Q) (hk : ∀ ds H1 vs, Same H H1 → RpL K H1 L ds vs → Post K W L σ H1 (k ds) Q → QL vs H1) : PostA K W L σ H r QL := by
  cases r with
  | ok d => exact fun H' v s' rv => hk d H' v s' rv (Post.mono h s')
  | exc c fs => exact h
  | bad => exact h
theorem Post.stepBA {r : RL} {k : List D → Rs} (h : Post K W L σ H (r.bind k) Q) (hk : ∀ ds H1 vs, Same H H1 → RbL K H1 L ds vs → Post K W L σ H1 (k ds) Q → QL vs H1) : PostBA K W L σ H r QL := by
  cases r with
  | ok d => exact fun H' v s' rv => hk d H' v s' rv (Post.mono h s')
  | exc c fs => exact h
  | bad => exact h
theorem PostN.stepA {r : RL} {k : List D → Rs} (h : PostN K W L σ H (r.bind k) Q) (hk : ∀ ds H1 vs, Same H H1 → RpL K H1 L ds vs → PostN K W L σ H1 (k ds) Q → QL vs H1) : PostA K W L σ H r QL := by
  cases r with
  | ok d => exact fun H' v s' rv => hk d H' v s' rv (PostN.mono h s')
  | exc c fs => exact h
  | bad => exact h
theorem PostN.stepBA {r : RL} {k : List D → Rs} (h : PostN K W L σ H (r.bind k) Q) (hk : ∀ ds H1 vs, Same H H1 → RbL K H1 L ds vs → PostN K W L σ H1 (k ds) Q → QL vs H1) : PostBA K W L σ H r QL := by
  cases r with
  | ok d => exact fun H' v s' rv => hk d H' v s' rv (PostN.mono h s')
  | exc c fs => exact h
  | bad => exact h
theorem PostN.stepB {r : Rs} {k : D → Rs} {R : VK} (h : PostN K W L σ H (r.bind k) Q) (hk : ∀ d H1 v, Same H H1 → Rb K H1 L d v → PostN K W L σ H1 (k d) Q → R v H1) : PostB K W L σ H r R := by
  cases r with
  | ok d => exact fun H' v s' rv => hk d H' v s' rv (PostN.mono h s')
  | exc c fs => exact h
  | bad => exact h
theorem RbL.one {d : D} {vs : List V} (h : RbL K H L [d] vs) : ∃ v, vs = [v] ∧ Rb K H L d v := by
  cases h with
  | cons r t => cases t; exact ⟨_, rfl, r⟩
theorem RbL.two {d e : D} {vs : List V} (h : RbL K H L [d, e] vs) : ∃ v w, vs = [v, w] ∧ Rb K H L d v ∧ Rb K H L e w := by
  cases h with
  | cons r t =>
    cases t with
    | cons r' t' => cases t'; exact ⟨_, _, rfl, r, r'⟩
end
def tA (K : PySem.W.Frag) (W : WX) (fs : List EF) : TA := fun σ H Q => ∃ L ρ, RE K H L ρ σ ∧ PostA K W L σ H (evA fs ρ) Q
def tBA (K : PySem.W.Frag) (W : WX) (fs : List EF) : TA := fun σ H Q => ∃ L ρ, RE K H L ρ σ ∧ PostBA K W L σ H (evA fs ρ) Q
abbrev SA (X : Cx) (W : WX) (es : List Expr) (fs : List EF) : Prop := PA X es (tA X.K W fs)
abbrev SBA (X : Cx) (W : WX) (es : List Expr) (fs : List EF) : Prop := PA X es (tBA X.K W fs)
section
variable {X : Cx} {W : WX} {e : Expr} {es : List Expr} {f : EF} {fs : List EF} {pos : Pos}
theorem _root_.L2.PA.weak {t t' : TA} (h : PA X es t) (hw : ∀ σ H Q, t' σ H Q → t σ H Q) : PA X es t' := ⟨fun p pn s σ H Q I q => h.run p pn s σ H Q I (hw σ H Q q)⟩
theorem sa_nil : SA X W [] [] := pa_nil.weak fun σ H Q ⟨L, ρ, re, p⟩ => p H [] (Same.refl H) .nil
theorem sba_nil : SBA X W [] [] := pa_nil.weak fun σ H Q ⟨L, ρ, re, p⟩ => p H [] (Same.refl H) .nil
theorem sa_cons (ha : SE X W e f) (hr : SA X W es fs) (hs : starEach (e :: es) X.env = (false, eval e X.env) :: starEach es X.env := by rfl) : SA X W (e :: es) (f :: fs) := (pa_cons ha hr hs).weak fun σ H Q ⟨L, ρ, re, p⟩ => by
  refine ⟨L, ρ, re, ?_⟩
  simp only [evA_cons] at p
  cases hf : f ρ with
  | bad => rw [hf] at p; exact p
  | exc c fs => rw [hf] at p; exact p
  | ok d =>
    rw [hf] at p
    intro H1 v s1 r1
    refine ⟨L, ρ, re.mono s1, ?_⟩
    cases hg : evA fs ρ with
    | bad => rw [hg] at p; exact p
    | exc c fs => rw [hg] at p; exact fun H' x s' => p H' x (s1.trans s')
    | ok ds => rw [hg] at p; exact fun H' vs s' r' => p H' (v :: vs) (s1.trans s') (.cons (r1.mono s') r')
theorem sba_cons (ha : SB X W e f) (hr : SBA X W es fs) (hs : starEach (e :: es) X.env = (false, eval e X.env) :: starEach es X.env := by rfl) : SBA X W (e :: es) (f :: fs) := (pa_cons ha hr hs).weak fun σ H Q ⟨L, ρ, re, p⟩ => by
  refine ⟨L, ρ, re, ?_⟩
  simp only [evA_cons] at p
  cases hf : f ρ with
  | bad => rw [hf] at p; exact p
  | exc c fs => rw [hf] at p; exact p
  | ok d =>
    rw [hf] at p
    intro H1 v s1 r1
    refine ⟨L, ρ, re.mono s1, ?_⟩
    cases hg : evA fs ρ with
    | bad => rw [hg] at p; exact p
    | exc c fs => rw [hg] at p; exact fun H' x s' => p H' x (s1.trans s')
    | ok ds => rw [hg] at p; exact fun H' vs s' r' => p H' (v :: vs) (s1.trans s') (.cons (r1.mono s') r')

/-! ### displays -/
def tupR (ds : List D) : Rs := if ds.length ≤ sizeLine then .ok (.tuple ds) else .bad
def lstR (ds : List D) : Rs := if ds.length ≤ sizeLine then .ok (.list ds) else .bad
def eTup (fs : List EF) : EF := fun ρ => (evA fs ρ).bind tupR
def eLst (fs : List EF) : EF := fun ρ => (evA fs ρ).bind lstR
theorem se_tup {x1} (h : SA X W es fs) : SE X W (.Tuple es x1 pos) (eTup fs) := (pe_tup h).weak fun σ H Q ⟨L, ρ, re, p⟩ =>
  ⟨L, ρ, re, p.stepA fun ds H1 vs s1 r p1 => by
    unfold tupR at p1
    split at p1
    · rename_i hz
      rw [r.length] at hz
      exact ⟨hz, fun q hq => p1 _ _ (same_upd hq) (.tup upd_same (r.mono (same_upd hq)))⟩
    · exact p1.elim⟩
theorem sn_lst (h : SA X W es fs) : SN X W (.List es pos) (eLst fs) := (pe_lst h).weak fun σ H Q ⟨L, ρ, re, p⟩ =>
  ⟨L, ρ, re, p.stepA fun ds H1 vs s1 r p1 => by
    unfold lstR at p1
    split at p1
    · rename_i hz
      rw [r.length] at hz
      exact ⟨hz, fun q hq => p1 _ _ (same_upd hq) hq (.lst upd_same ((r.lives (Lp_new hq)).mono (same_upd hq)))⟩
    · exact p1.elim⟩
theorem sn_dk : SN X W (.Dict [] [] pos) (eC (.dict [])) := pe_dnewK.weak fun σ H Q ⟨L, ρ, re, p⟩ => fun q hq => p _ _ (same_upd hq) hq (.dk upd_same rfl .nil)
theorem sn_dt : SN X W (.Dict [] [] pos) (eC (.dict [(.none, .none)])) := pe_dnewT.weak fun σ H Q ⟨L, ρ, re, p⟩ => fun q hq => p _ _ (same_upd hq) hq (.dt upd_same rfl .nil)

/-! ### built-in functions and classes called -/
def rDL (K : PySem.W.Frag) (fn : List D → Option D) : List V → Hp → VK → Prop := fun xs H Q => ∃ L ds d, LvOk H L ∧ RbL K H L ds xs ∧ fn ds = some d ∧ ∀ H' v, Same H H' → Rp K H' L d v → Q v H'
def rDN (K : PySem.W.Frag) (fn : List D → Option D) : List V → Hp → VK → Prop := fun xs H Q => ∃ L ds d, LvOk H L ∧ RbL K H L ds xs ∧ fn ds = some d ∧ ∀ H' a, Same H H' → H a = none → Ow K H' (Lp L a) d a → Q (.ref a) H'
abbrev ClD (X : Cx) (f : Value) (fn : List D → Option D) : Prop := CallR X f (rDL X.K fn)
abbrev ClN (X : Cx) (f : Value) (fn : List D → Option D) : Prop := CallR X f (rDN X.K fn)
def eCB (fn : List D → Option D) (fs : List EF) : EF := fun ρ => (evA fs ρ).bind fun ds => Rs.of (fn ds)
theorem tCB_of {K : PySem.W.Frag} {fn : List D → Option D} : ∀ σ H Q, tE K W (eCB fn fs) σ H Q → tCB (rDL K fn) (tBA K W fs) σ H Q := fun σ H Q ⟨L, ρ, re, p⟩ =>
  ⟨L, ρ, re, p.stepBA fun ds H1 vs s1 r p1 => by
    cases hd : fn ds with
    | none => rw [hd] at p1; exact p1.elim
    | some d => rw [hd] at p1; exact ⟨L, ds, d, re.lv.mono s1, r, hd, p1⟩⟩
theorem tCBN_of {K : PySem.W.Frag} {fn : List D → Option D} : ∀ σ H Q, tN K W (eCB fn fs) σ H Q → tCB (rDN K fn) (tBA K W fs) σ H Q := fun σ H Q ⟨L, ρ, re, p⟩ =>
  ⟨L, ρ, re, p.stepBA fun ds H1 vs s1 r p1 => by
    cases hd : fn ds with
    | none => rw [hd] at p1; exact p1.elim
    | some d => rw [hd] at p1; exact ⟨L, ds, d, re.lv.mono s1, r, hd, p1⟩⟩
variable {x : Str} {p : Pos} {id T : String} {fn : List D → Option D}
theorem se_cb (hc : ClD X (.builtin id) fn) (hm : X.mg x = none) (ha : SBA X W (e :: es) fs) (hg : Gl X x := by rfl) (hv : bootBuiltins x = some (.builtin id) := by decide +kernel) (hn : x ≠ "__name__" := by decide) (hdb : (x == ("__debug__" : Str)) = false := by decide)
    (he : starEach (e :: es) X.env = (false, eval e X.env) :: starEach es X.env := by rfl) (hpl : (backTo pos (starEach es X.env)).any (·.1) = false := by rfl) : SE X W (.Call (.Name x p) (e :: es) [] pos) (eCB fn fs) :=
  (pe_callB hc hg hm hv ha hn hdb he hpl).weak tCB_of
theorem sn_cb (hc : ClN X (.builtin id) fn) (hm : X.mg x = none) (ha : SBA X W (e :: es) fs) (hg : Gl X x := by rfl) (hv : bootBuiltins x = some (.builtin id) := by decide +kernel) (hn : x ≠ "__name__" := by decide) (hdb : (x == ("__debug__" : Str)) = false := by decide)
    (he : starEach (e :: es) X.env = (false, eval e X.env) :: starEach es X.env := by rfl) (hpl : (backTo pos (starEach es X.env)).any (·.1) = false := by rfl) : SN X W (.Call (.Name x p) (e :: es) [] pos) (eCB fn fs) :=
  (pe_callB hc hg hm hv ha hn hdb he hpl).weak tCBN_of
theorem se_ct (hc : ClD X (.type T) fn) (hm : X.mg x = none) (ha : SBA X W (e :: es) fs) (hg : Gl X x := by rfl) (hv : bootBuiltins x = some (.type T) := by decide +kernel) (hn : x ≠ "__name__" := by decide) (hdb : (x == ("__debug__" : Str)) = false := by decide)
    (he : starEach (e :: es) X.env = (false, eval e X.env) :: starEach es X.env := by rfl) (hpl : (backTo pos (starEach es X.env)).any (·.1) = false := by rfl) : SE X W (.Call (.Name x p) (e :: es) [] pos) (eCB fn fs) :=
  (pe_callTy hc hg hm hv ha hn hdb he hpl).weak tCB_of
theorem sn_ct (hc : ClN X (.type T) fn) (hm : X.mg x = none) (ha : SBA X W (e :: es) fs) (hg : Gl X x := by rfl) (hv : bootBuiltins x = some (.type T) := by decide +kernel) (hn : x ≠ "__name__" := by decide) (hdb : (x == ("__debug__" : Str)) = false := by decide)
    (he : starEach (e :: es) X.env = (false, eval e X.env) :: starEach es X.env := by rfl) (hpl : (backTo pos (starEach es X.env)).any (·.1) = false := by rfl) : SN X W (.Call (.Name x p) (e :: es) [] pos) (eCB fn fs) :=
  (pe_callTy hc hg hm hv ha hn hdb he hpl).weak tCBN_of

/-! ### own defs called -/
/-- the promise of a def that is a function of its arguments' data, and changes nothing -/
def spP (K : PySem.W.Frag) (n : Nat) (f : List D → Rs) : Sp := fun vs H Q E => ∃ L ds, LvOk H L ∧ ds.length = n ∧ RpL K H L ds vs ∧ match f ds with
  | .ok d => ∀ H' v, Same H H' → Rp K H' L d v → Q v H'
  | .exc c fs => ∀ H' x, Same H H' → XR K H' L fs x → E (.ref (He.ga K c)) x H'
  | .bad => False
structure Dn (P : Program) (w : World) (K : PySem.W.Frag) (mg : Str → Option Value) (base : Heap) (x : Str) (k n : Nat) (f : List D → Rs) : Prop where
  ex : ∃ (fa : Addr) (fd : FuncData) (ps : List Str), mg x = some (.ref fa) ∧ FnOk P w K mg base (L2.CX P w) k fa fd ps (spP K n f) ∧ PySem.W.keepIn K (.ref fa) = true ∧ Binds K fd ps []
def eCall (f : List D → Rs) (fs : List EF) : EF := fun ρ => (evA fs ρ).bind f
theorem se_call {k n : Nat} {g : List D → Rs} (F : Dn X.prog X.w X.K X.mg X.base x k n g) (hr : Room k X.A) (tk : Takes X W) (ha : SA X W (e :: es) fs) (hlen : (e :: es).length = n := by rfl) (hfl : fs.length = n := by rfl) (hg : Gl X x := by rfl) (hdb : (x == ("__debug__" : Str)) = false := by decide)
    (he : starEach (e :: es) X.env = (false, eval e X.env) :: starEach es X.env := by rfl) (hpl : (backTo pos (starEach es X.env)).any (·.1) = false := by rfl) : SE X W (.Call (.Name x p) (e :: es) [] pos) (eCall g fs) := by
  obtain ⟨fa, fd, ps, hm, F, hk, hb⟩ := F.ex
  have len : ∀ (gs : List EF) (ρ : En) (ds : List D), evA gs ρ = .ok ds → ds.length = gs.length := by
    intro gs
    induction gs with
    | nil => intro ρ ds h; cases h; rfl
    | cons g gs ih =>
      intro ρ ds h
      rw [evA_cons] at h
      cases hg : g ρ with
      | bad => rw [hg] at h; cases h
      | exc c fs => rw [hg] at h; cases h
      | ok d =>
        rw [hg] at h
        cases hq : evA gs ρ with
        | bad => rw [hq] at h; cases h
        | exc c fs => rw [hq] at h; cases h
        | ok es => rw [hq] at h; cases h; simp [ih ρ es hq]
  refine (pe_callS (E := WE W) F hr hg hm hk hb (fun σ => passAt tk σ) ha hdb he hpl).weak fun σ H Q ⟨L, ρ, re, p⟩ => ⟨L, ρ, re, ?_⟩
  unfold eCall at p
  cases hA : evA fs ρ with
  | bad => rw [hA] at p; exact p
  | exc c fs => rw [hA] at p; exact p
  | ok ds =>
    rw [hA] at p
    simp only [RL.bind_ok] at p
    refine fun H1 vs s1 r => ⟨L, ds, re.lv.mono s1, (len fs ρ ds hA).trans hfl, r, ?_⟩
    have p1 := p.mono s1
    cases hg : g ds with
    | bad => rw [hg] at p1; exact p1.elim
    | exc c fs => rw [hg] at p1; exact p1
    | ok d => rw [hg] at p1; exact p1
end
end VV

set_option Elab.async false
set_option linter.all false
set_option maxRecDepth 100000
set_option maxHeartbeats 4000000
/-! VVf: subscripts, slices, built-in functions. -/
namespace VV
open PySem PySem.Spec L2
open PyProof.Rows hiding St

/-! ### subscripts -/
def asRd : D → Option (List D)
  | .dict [(.none, .list ds)] => some ds
  | _ => none
def ixF : D → D → Option D
  | .list ds, .int i => atI ds i
  | .tuple ds, .int i => atI ds i
  | .str z, .int i => if z.length ≤ sizeLine then (atI z.cps.toList i).map fun c => .str ⟨#[c]⟩ else none
  | .dict ps, .int i => (asRd (.dict ps)).bind fun ds => atI ds i
  | _, _ => none
section
variable {K : PySem.W.Frag} {H : Hp} {L : Ad}
theorem RpL.atI {ds : List D} {vs : List V} {i : Int} {d : D} (r : RpL K H L ds vs) (h : L2.atI ds i = some d) : ∃ v, L2.atI vs i = some v ∧ Rp K H L d v := by
  unfold L2.atI at h
  cases e : ixN ds.length i with
  | none => exact absurd h (by rw [e]; simp)
  | some j =>
    rw [e] at h
    obtain ⟨v, e1, rv⟩ := r.get (i := j) h
    refine ⟨v, ?_, rv⟩
    unfold L2.atI
    rw [← r.length, e]
    exact e1
theorem keyD_ne (k : Key) : keyD k ≠ .none := by cases k <;> simp [keyD]
theorem Rb.rdV {ps : List (D × D)} {ds : List D} {v : V} (h : Rb K H L (.dict ps) v) (e : asRd (.dict ps) = some ds) : ∃ (a : Addr) (ns : List Int), v = .ref a ∧ SqL K H a (ns.map V.int) ∧ ds = ns.map PyData.int := by
  have hp : ps = [(.none, .list ds)] := by
    unfold asRd at e
    split at e
    · rename_i h1
      cases h1
      cases e
      rfl
    · cases e
  subst hp
  have nk : ∀ {kvs : List (Key × V)}, ([(PyData.none, PyData.list ds)] : List (D × D)).map (·.1) = kvs.map (fun q => keyD q.1) → False := fun {kvs} z => by
    cases kvs with
    | nil => cases z
    | cons q r =>
      simp only [List.map_cons, List.cons.injEq] at z
      exact keyD_ne _ z.1.symm
  have nt : ∀ {kvs : List (List Key × V)}, ([(PyData.none, PyData.list ds)] : List (D × D)).map (·.1) = kvs.map (fun q => PyData.tuple (q.1.map keyD)) → False := fun {kvs} z => by
    cases kvs with
    | nil => cases z
    | cons q r =>
      simp only [List.map_cons, List.cons.injEq] at z
      exact nomatch z.1
  rcases h with h | ⟨a, e1, h⟩
  · generalize hd : (PyData.dict [(PyData.none, PyData.list ds)]) = dd at h
    cases h with
    | rd h =>
      unfold rdL at hd
      simp only [PyData.dict.injEq, List.cons.injEq, Prod.mk.injEq, PyData.list.injEq, and_true, true_and] at hd
      exact ⟨_, _, rfl, h.sq, hd⟩
    | dk _ _ z _ => cases hd; exact (nk z).elim
    | dt _ _ z _ => cases hd
    | _ => cases hd
  · cases h with
    | dk _ z _ => exact (nk z).elim
end
section
variable {X : Cx} {W : WX} {a b : Expr} {f g : EF} {pos : Pos}
theorem ix_D : IxR X (rD2 X.K ixF) := by
  intro value slice pn s σ H x y v u Q I rx ry h hs
  obtain ⟨L, dx, dy, d, lv, bx, by', hf, k⟩ := h
  unfold ixF at hf
  split at hf
  · obtain ⟨p, vs, rfl, hp, r⟩ := bx.lstV
    obtain rfl := by'.intV
    obtain ⟨z, e, rz⟩ := r.atI hf
    exact ix_list value slice pn s σ H _ _ v u Q I rx ry ⟨p, vs, _, z, rfl, rfl, SqL.of hp, e, k H z (Same.refl H) rz⟩ hs
  · obtain ⟨p, vs, rfl, hp, r⟩ := bx.tupV
    obtain rfl := by'.intV
    obtain ⟨z, e, rz⟩ := r.atI hf
    exact ix_tup value slice pn s σ H _ _ v u Q I rx ry ⟨p, vs, _, z, rfl, rfl, SqT.of hp, e, k H z (Same.refl H) rz⟩ hs
  · obtain rfl := bx.strV
    obtain rfl := by'.intV
    split at hf
    · rename_i hz
      obtain ⟨c, e, rfl⟩ := Option.map_eq_some_iff.mp hf
      exact ix_str value slice pn s σ H _ _ v u Q I rx ry ⟨_, _, c, rfl, rfl, hz, e, k H _ (Same.refl H) (.str _)⟩ hs
    · cases hf
  · obtain rfl := by'.intV
    cases e : asRd (.dict _) with
    | none => rw [e] at hf; cases hf
    | some ds =>
      rw [e] at hf
      obtain ⟨p, ns, rfl, hp, rfl⟩ := bx.rdV e
      have hf' : L2.atI (ns.map PyData.int) _ = some d := hf
      obtain ⟨z, e2, rz⟩ := (RpL.ofInts (K := X.K) (H := H) (L := L) ns).atI hf'
      exact ix_list value slice pn s σ H _ _ v u Q I rx ry ⟨p, _, _, z, rfl, rfl, hp, e2, k H z (Same.refl H) rz⟩ hs
  · cases hf
theorem se_ix (ha : SB X W a f) (hb : SB X W b g) (hs : PlainIx b := by exact fun _ _ => rfl) : SE X W (.Subscript a b pos) (eOp ixF f g) := (pe_ix ix_D ha hb hs).weak tOp_of

/-! ### slices -/
def cutL {α : Type} (xs : List α) (lo hi : Option Int) : List α := (xs.drop (HT.sIx xs.length 0 lo)).take (HT.sIx xs.length xs.length hi - HT.sIx xs.length 0 lo)
def slF : D → Option Int → Option Int → Option D
  | .list ds, lo, hi => some (.list (cutL ds lo hi))
  | .tuple ds, lo, hi => some (.tuple (cutL ds lo hi))
  | .str z, lo, hi => if z.length ≤ sizeLine then some (.str (cutS z lo hi)) else none
  | _, _, _ => none
def optI (g : Option EF) (ρ : En) (k : Option Int → Rs) : Rs := match g with
  | none => k none
  | some g => (g ρ).bind fun d => match d with
    | .int i => k (some i)
    | _ => .bad
def eSl (f : EF) (lo hi : Option EF) : EF := fun ρ => (f ρ).bind fun x => optI lo ρ fun l => optI hi ρ fun h => Rs.of (slF x l h)
def tSO (K : PySem.W.Frag) (W : WX) : Option EF → TO
  | none => tNoPart
  | some g => tPart (tB K W g)
abbrev SO (X : Cx) (W : WX) (e : Option Expr) (g : Option EF) : Prop := PO X e (tSO X.K W g)
theorem so_none : SO X W none none := po_none
theorem so_some (h : SB X W a f) : SO X W (some a) (some f) := po_some h
theorem RpL.cut {K : PySem.W.Frag} {H : Hp} {L : Ad} {ds : List D} {vs : List V} (r : RpL K H L ds vs) (lo hi : Option Int) : RpL K H L (cutL ds lo hi) (cutV vs lo hi) := by
  unfold cutL cutV
  rw [r.length]
  exact (r.drop _).take _
theorem cutL_whole {α : Type} {xs : List α} {lo hi : Option Int} (h : HT.sIx xs.length 0 lo = 0 ∧ HT.sIx xs.length xs.length hi = xs.length) : cutL xs lo hi = xs := by
  unfold cutL
  rw [h.1, h.2, List.drop_zero, Nat.sub_zero, List.take_length]
theorem sl_D : L2.SlR X (fun x lo hi H Q => ∃ L dx d, LvOk H L ∧ Rb X.K H L dx x ∧ slF dx lo hi = some d ∧ ∀ H' v, Same H H' → Rp X.K H' L d v → Q v H') := by
  intro pn s σ H x v vl vu lo hi sl Q I rx hs pl pu h
  obtain ⟨L, dx, d, lv, bx, hf, k⟩ := h
  unfold slF at hf
  split at hf
  · obtain ⟨p, vs, rfl, hp, r⟩ := bx.lstV
    cases hf
    exact sl_list pn s σ H _ v vl vu lo hi sl Q I rx hs pl pu ⟨p, vs, rfl, SqL.of hp, fun q hq => k _ _ (same_upd hq) (.lst upd_same (new_not lv hq) ((r.cut lo hi).mono (same_upd hq)))⟩
  · obtain ⟨p, vs, rfl, hp, r⟩ := bx.tupV
    cases hf
    refine sl_tupA pn s σ H _ v vl vu lo hi sl Q I rx hs pl pu ⟨p, vs, rfl, SqT.of hp, fun hw => ?_, fun _ q hq => k _ _ (same_upd hq) (.tup upd_same ((r.cut lo hi).mono (same_upd hq)))⟩
    rw [← r.length] at hw
    rw [cutL_whole hw] at k
    exact k H _ (Same.refl H) (.tup hp r)
  · obtain rfl := bx.strV
    split at hf
    · cases hf
      exact sl_str pn s σ H _ v vl vu lo hi sl Q I rx hs pl pu ⟨_, rfl, by assumption, k H _ (Same.refl H) (.str _)⟩
    · cases hf
  · cases hf
theorem Post.stepO {K : PySem.W.Frag} {L : Ad} {σ : St} {H : Hp} {ρ : En} {go : Option EF} {k : Option Int → Rs} {Q : VK} {R : Option Int → Hp → Prop} (re : RE K H L ρ σ) (h : Post K W L σ H (optI go ρ k) Q)
    (hk : ∀ o H1, Same H H1 → Post K W L σ H1 (k o) Q → R o H1) : tSO K W go σ H R := by
  cases go with
  | none => exact hk none H (Same.refl H) h
  | some g =>
    refine ⟨L, ρ, re, h.step fun d H1 v s1 r p1 => ?_⟩
    cases d with
    | int i => exact ⟨i, r.intV, hk (some i) H1 s1 p1⟩
    | _ => exact p1.elim
theorem se_sl {lo hi : Option Expr} {gl gh : Option EF} {p2 : Pos} (ha : SB X W a f) (hl : SO X W lo gl) (hh : SO X W hi gh) : SE X W (.Subscript a (.Slice lo hi none p2) pos) (eSl f gl gh) := (pe_slice sl_D ha hl hh).weak fun σ H Q ⟨L, ρ, re, p⟩ =>
  ⟨L, ρ, re, p.step fun dx H1 x s1 rx p1 => Post.stepO (re.mono s1) p1 fun l H2 s2 p2 => Post.stepO (re.mono (s1.trans s2)) p2 fun h H3 s3 p3 => by
    cases hd : slF dx l h with
    | none => rw [hd] at p3; exact p3.elim
    | some d => rw [hd] at p3; exact ⟨L, dx, d, re.lv.mono (s1.trans (s2.trans s3)), rx.mono (s2.trans s3), hd, p3⟩⟩
end

/-! ### numbers out of data -/
def intsOf : List D → Option (List Int)
  | [] => some []
  | .int i :: r => (intsOf r).map fun is => i :: is
  | _ => none
theorem intsOf_eq : ∀ {ds : List D} {ns : List Int}, intsOf ds = some ns → ds = ns.map PyData.int
  | [], ns, h => by cases h; rfl
  | d :: ds, ns, h => by
    cases d with
    | int i =>
      unfold intsOf at h
      obtain ⟨is, e, rfl⟩ := Option.map_eq_some_iff.mp h
      rw [intsOf_eq e]
      rfl
    | _ => cases h
@[simp] theorem intsOf_map (ns : List Int) : intsOf (ns.map PyData.int) = some ns := by
  induction ns with
  | nil => rfl
  | cons n ns ih => simp [intsOf, ih]
def minI : List Int → Int
  | [] => 0
  | [n] => n
  | n :: m :: r => let z := minI (m :: r); if z < n then z else n
def maxI : List Int → Int
  | [] => 0
  | [n] => n
  | n :: m :: r => let z := maxI (m :: r); if n < z then z else n
theorem minI_mem : ∀ {ns : List Int}, 0 < ns.length → minI ns ∈ ns ∧ ∀ y ∈ ns, minI ns ≤ y
  | [], h => by cases h
  | [n], _ => by simp [minI]
  | n :: m :: r, _ => by
    have ih := minI_mem (ns := m :: r) (by simp)
    simp only [minI]
    generalize minI (m :: r) = z at ih
    split
    · refine ⟨List.mem_cons_of_mem _ ih.1, fun y hy => ?_⟩
      obtain e | e := List.mem_cons.mp hy
      · omega
      · exact ih.2 y e
    · refine ⟨List.mem_cons_self, fun y hy => ?_⟩
      obtain e | e := List.mem_cons.mp hy
      · omega
      · have := ih.2 y e; omega
theorem maxI_mem : ∀ {ns : List Int}, 0 < ns.length → maxI ns ∈ ns ∧ ∀ y ∈ ns, y ≤ maxI ns
  | [], h => by cases h
  | [n], _ => by simp [maxI]
  | n :: m :: r, _ => by
    have ih := maxI_mem (ns := m :: r) (by simp)
    simp only [maxI]
    generalize maxI (m :: r) = z at ih
    split
    · refine ⟨List.mem_cons_of_mem _ ih.1, fun y hy => ?_⟩
      obtain e | e := List.mem_cons.mp hy
      · omega
      · exact ih.2 y e
    · refine ⟨List.mem_cons_self, fun y hy => ?_⟩
      obtain e | e := List.mem_cons.mp hy
      · omega
      · have := ih.2 y e; omega

/-! ### built-in functions -/
/-- how many keys; a dict of tuples is marked by its first pair -/
def dLen : List (D × D) → Nat
  | (.none, .none) :: ps => ps.length
  | ps => ps.length
theorem dLen_dk {ps : List (D × D)} {kvs : List (Key × V)} (z : ps.map (·.1) = kvs.map (fun q => keyD q.1)) : dLen ps = ps.length := by
  unfold dLen
  split
  · cases kvs with
    | nil => simp at z
    | cons q r =>
      simp only [List.map_cons, List.cons.injEq] at z
      obtain ⟨z, _⟩ := z
      obtain ⟨qk, qv⟩ := q
      cases qk <;> cases z
  · rfl
def lenF : List D → Option D
  | [.list ds] => some (.int ds.length)
  | [.tuple ds] => some (.int ds.length)
  | [.str z] => if z.length ≤ sizeLine then some (.int z.length) else none
  | [.dict ps] => (match asRd (.dict ps) with
    | some ds => some (.int ds.length)
    | none => some (.int (dLen ps)))
  | _ => none
def absF : List D → Option D
  | [.int i] => some (.int (if i < 0 then -i else i))
  | _ => none
def intF : List D → Option D
  | [.int i] => some (.int i)
  | [.bool b] => some (.int (if b then 1 else 0))
  | _ => none
def tupF : List D → Option D
  | [.list ds] => some (.tuple ds)
  | [.tuple ds] => some (.tuple ds)
  | _ => none
def lstF : List D → Option D
  | [.list ds] => some (.list ds)
  | [.tuple ds] => some (.list ds)
  | _ => none
def sumF : List D → Option D
  | [.list ds] => (intsOf ds).map fun ns => .int ns.sum
  | [.tuple ds] => (intsOf ds).map fun ns => .int ns.sum
  | _ => none
def max2F : List D → Option D
  | [.int i, .int j] => some (.int (if j > i then j else i))
  | _ => none
def min2F : List D → Option D
  | [.int i, .int j] => some (.int (if j < i then j else i))
  | _ => none
def minF : List D → Option D
  | [.list ds] => (intsOf ds).bind fun ns => if ns = [] then none else some (.int (minI ns))
  | _ => none
def maxF : List D → Option D
  | [.list ds] => (intsOf ds).bind fun ns => if ns = [] then none else some (.int (maxI ns))
  | _ => none
section
variable {X : Cx}
theorem Rb.dictV {K : PySem.W.Frag} {H : Hp} {L : Ad} {ps : List (D × D)} {v : V} (h : Rb K H L (.dict ps) v) (e : asRd (.dict ps) = none) : ∃ a, v = .ref a ∧ Ow K H L (.dict ps) a := by
  rcases h with h | ⟨a, e1, h⟩
  · generalize hd : (PyData.dict ps) = dd at h e
    cases h with
    | rd h => unfold rdL at e; simp [asRd] at e
    | dk h1 _ z r => exact ⟨_, rfl, .dk h1 z r⟩
    | dt h1 _ z r => exact ⟨_, rfl, .dt h1 z r⟩
    | _ => cases hd
  · exact ⟨a, e1, h⟩
theorem cl_abs : ClD X (.builtin "abs") absF := by
  intro pn s σ H xs us Q I rs h
  obtain ⟨L, ds, d, lv, rb, hf, k⟩ := h
  unfold absF at hf
  split at hf
  · obtain ⟨v, rfl, r⟩ := rb.one
    obtain rfl := r.intV
    cases hf
    exact call_abs pn s σ H _ us Q I rs ⟨_, rfl, k H _ (Same.refl H) (.int _)⟩
  · cases hf
theorem cl_int : ClD X (.type "int") intF := by
  intro pn s σ H xs us Q I rs h
  obtain ⟨L, ds, d, lv, rb, hf, k⟩ := h
  unfold intF at hf
  split at hf
  · obtain ⟨v, rfl, r⟩ := rb.one
    obtain rfl := r.intV
    cases hf
    exact call_int1 pn s σ H _ us Q I rs (.inl ⟨_, rfl, k H _ (Same.refl H) (.int _)⟩)
  · obtain ⟨v, rfl, r⟩ := rb.one
    obtain rfl := r.blV
    cases hf
    exact call_int1 pn s σ H _ us Q I rs (.inr ⟨_, rfl, k H _ (Same.refl H) (.int _)⟩)
  · cases hf
theorem cl_max2 (hc : X.calm = true) : ClD X (.builtin "max") max2F := by
  intro pn s σ H xs us Q I rs h
  obtain ⟨L, ds, d, lv, rb, hf, k⟩ := h
  unfold max2F at hf
  split at hf
  · obtain ⟨v, w, rfl, r, r'⟩ := rb.two
    obtain rfl := r.intV
    obtain rfl := r'.intV
    cases hf
    exact call_max2 hc pn s σ H _ us Q I rs ⟨_, _, rfl, k H _ (Same.refl H) (.int _)⟩
  · cases hf
theorem cl_min2 (hc : X.calm = true) : ClD X (.builtin "min") min2F := by
  intro pn s σ H xs us Q I rs h
  obtain ⟨L, ds, d, lv, rb, hf, k⟩ := h
  unfold min2F at hf
  split at hf
  · obtain ⟨v, w, rfl, r, r'⟩ := rb.two
    obtain rfl := r.intV
    obtain rfl := r'.intV
    cases hf
    exact call_min2 hc pn s σ H _ us Q I rs ⟨_, _, rfl, k H _ (Same.refl H) (.int _)⟩
  · cases hf
theorem cl_minI (hc : X.calm = true) : ClD X (.builtin "min") minF := by
  intro pn s σ H xs us Q I rs h
  obtain ⟨L, ds, d, lv, rb, hf, k⟩ := h
  unfold minF at hf
  split at hf
  · obtain ⟨v, rfl, r⟩ := rb.one
    obtain ⟨a, vs, rfl, ha, rl⟩ := r.lstV
    obtain ⟨ns, e, hf2⟩ := Option.bind_eq_some_iff.mp hf
    clear hf
    have ed := intsOf_eq e
    subst ed
    have ev := rl.ints
    subst ev
    split at hf2
    · cases hf2
    · cases hf2
      rename_i hne
      have hl : 0 < ns.length := by cases ns with
        | nil => exact absurd rfl hne
        | cons _ _ => simp
      refine cr_min hc pn s σ H _ us Q I rs ⟨a, ns, rfl, SqL.of ha, hl, fun m hm hle => ?_⟩
      obtain ⟨h1, h2⟩ := minI_mem hl
      have e : m = minI ns := by have := hle _ h1; have := h2 _ hm; omega
      subst e
      exact k H _ (Same.refl H) (.int _)
  · cases hf
theorem cl_maxI (hc : X.calm = true) : ClD X (.builtin "max") maxF := by
  intro pn s σ H xs us Q I rs h
  obtain ⟨L, ds, d, lv, rb, hf, k⟩ := h
  unfold maxF at hf
  split at hf
  · obtain ⟨v, rfl, r⟩ := rb.one
    obtain ⟨a, vs, rfl, ha, rl⟩ := r.lstV
    obtain ⟨ns, e, hf2⟩ := Option.bind_eq_some_iff.mp hf
    clear hf
    have ed := intsOf_eq e
    subst ed
    have ev := rl.ints
    subst ev
    split at hf2
    · cases hf2
    · cases hf2
      rename_i hne
      have hl : 0 < ns.length := by cases ns with
        | nil => exact absurd rfl hne
        | cons _ _ => simp
      refine cr_max hc pn s σ H _ us Q I rs ⟨a, ns, rfl, SqL.of ha, hl, fun m hm hle => ?_⟩
      obtain ⟨h1, h2⟩ := maxI_mem hl
      have e : m = maxI ns := by have := hle _ h1; have := h2 _ hm; omega
      subst e
      exact k H _ (Same.refl H) (.int _)
  · cases hf
theorem cl_tup : ClD X (.type "tuple") tupF := by
  intro pn s σ H xs us Q I rs h
  obtain ⟨L, ds, d, lv, rb, hf, k⟩ := h
  unfold tupF at hf
  split at hf
  · obtain ⟨v, rfl, r⟩ := rb.one
    obtain ⟨a, vs, rfl, ha, rl⟩ := r.lstV
    cases hf
    exact call_tuple_of pn s σ H _ us Q I rs ⟨a, vs, rfl, .inl ⟨SqL.of ha, fun p hp => k _ _ (same_upd hp) (.tup upd_same (rl.mono (same_upd hp)))⟩⟩
  · obtain ⟨v, rfl, r⟩ := rb.one
    obtain ⟨a, vs, rfl, ha, rl⟩ := r.tupV
    cases hf
    exact call_tuple_of pn s σ H _ us Q I rs ⟨a, vs, rfl, .inr ⟨SqT.of ha, k H _ (Same.refl H) (.tup ha rl)⟩⟩
  · cases hf
theorem cl_lst : ClN X (.type "list") lstF := by
  intro pn s σ H xs us Q I rs h
  obtain ⟨L, ds, d, lv, rb, hf, k⟩ := h
  unfold lstF at hf
  split at hf
  · obtain ⟨v, rfl, r⟩ := rb.one
    obtain ⟨a, vs, rfl, ha, rl⟩ := r.lstV
    cases hf
    exact call_list_of pn s σ H _ us Q I rs ⟨a, vs, rfl, .inl (SqL.of ha), fun p hp => k _ _ (same_upd hp) hp (.lst upd_same ((rl.lives (Lp_new hp)).mono (same_upd hp)))⟩
  · obtain ⟨v, rfl, r⟩ := rb.one
    obtain ⟨a, vs, rfl, ha, rl⟩ := r.tupV
    cases hf
    exact call_list_of pn s σ H _ us Q I rs ⟨a, vs, rfl, .inr (SqT.of ha), fun p hp => k _ _ (same_upd hp) hp (.lst upd_same ((rl.lives (Lp_new hp)).mono (same_upd hp)))⟩
  · cases hf
theorem cl_len : ClD X (.builtin "len") lenF := by
  intro pn s σ H xs us Q I rs h
  obtain ⟨L, ds, d, lv, rb, hf, k⟩ := h
  unfold lenF at hf
  split at hf
  · obtain ⟨v, rfl, r⟩ := rb.one
    obtain ⟨a, vs, rfl, ha, rl⟩ := r.lstV
    cases hf
    rw [rl.length] at k
    exact call_len pn s σ H _ us Q I rs ⟨_, _, rfl, .inl ⟨vs, SqL.of ha, rfl⟩, k H _ (Same.refl H) (.int _)⟩
  · obtain ⟨v, rfl, r⟩ := rb.one
    obtain ⟨a, vs, rfl, ha, rl⟩ := r.tupV
    cases hf
    rw [rl.length] at k
    exact call_len pn s σ H _ us Q I rs ⟨_, _, rfl, .inr ⟨vs, SqT.of ha, rfl⟩, k H _ (Same.refl H) (.int _)⟩
  · obtain ⟨v, rfl, r⟩ := rb.one
    obtain rfl := r.strV
    split at hf
    · cases hf
      exact call_len pn s σ H _ us Q I rs ⟨_, _, rfl, ⟨by assumption, rfl⟩, k H _ (Same.refl H) (.int _)⟩
    · cases hf
  · obtain ⟨v, rfl, r⟩ := rb.one
    split at hf
    · rename_i e
      obtain ⟨a, ns, rfl, ha, rfl⟩ := r.rdV e
      cases hf
      have e2 : ((ns.map PyData.int).length : Int) = ((ns.map V.int).length : Int) := by simp
      rw [e2] at k
      exact call_len pn s σ H _ us Q I rs ⟨_, _, rfl, .inl ⟨_, ha, rfl⟩, k H _ (Same.refl H) (.int _)⟩
    · rename_i e
      obtain ⟨a, rfl, ow⟩ := r.dictV e
      cases hf
      obtain ⟨u, rfl, ru⟩ := vals1 rs
      cases ru
      cases ow with
      | dk h1 z rl =>
        have e2 := congrArg List.length z
        rw [List.length_map, List.length_map] at e2
        rw [dLen_dk z, e2] at k
        exact d_len I (.inl h1) fun t s' I' => ⟨.int _, H, I', ⟨t, rfl⟩, k H _ (Same.refl H) (.int _)⟩
      | dt h1 z rl =>
        have e2 := congrArg List.length z
        rw [List.length_map, List.length_map] at e2
        simp only [dLen] at k
        rw [e2] at k
        exact call_len_dT pn s σ H [.ref a] [.ref a] Q I (.cons rfl .nil) ⟨a, _, rfl, h1, k H _ (Same.refl H) (.int _)⟩
  · cases hf
/-! sum -/
theorem preSum_take (ns : List Int) : ∀ k : Nat, k ≤ ns.length → preSum (fun i => ns.getD i 0) k = (ns.take k).sum
  | 0, _ => by simp [preSum]
  | k + 1, hk => by
    have hlt : k < ns.length := hk
    have tk : ns.take (k + 1) = ns.take k ++ [ns.getD k 0] := by
      rw [List.take_add_one, List.getElem?_eq_getElem hlt, List.getD_eq_getElem?_getD, List.getElem?_eq_getElem hlt]
      simp
    rw [tk, List.sum_append, ← preSum_take ns k (by omega)]
    simp [preSum]
/-- sum(t), t a tuple of ints: over the library's walk of a tuple -/
theorem sum_tuple {prog : Program} {w : World} {A : Around} {E : Value → Shared → Prop} {s : Shared} {l : Addr} {its : List Value} {ns : List Int} {Q : Value → Shared → Prop} (hh : A.handled = none) (hl : s.heap.IsTuple l its.toArray) (hi : IntsAre its ns)
    (hq : ∀ hp tk t, (∀ b o, s.heap.get? b = some o → hp.get? b = some o) → Q (.int ns.sum t) { s with heap := hp, toks := tk }) : wpAny (model prog w) A (call (.builtin "sum") [.ref l]) Q E s := by
  have below : l < s.heap.objs.size := let ⟨_, ho, _⟩ := hl; Heap.lt_size ho
  have size : its.toArray.size = ns.length := by rw [List.size_toArray]; exact hi.length
  refine call_sum_walkG (wpAny_pyIter_tuple hl ⟨_, _, _, _, _, _, fun i => ns.getD i 0, rfl, Walks.tuple (A := A.in1) hh _ l (Nat.ne_of_lt below) its.toArray, ⟨⟨_, Heap.get?_push_size _ rfl, rfl, rfl⟩, hl.push _⟩, fun b hb => ?_, fun i v hv => ?_, fun hp tk t keep => ?_⟩)
  · have two : b = s.heap.objs.size ∨ b = l := by simpa using hb
    have grown : (s.heap.push { cls := .type "tuple_iterator", data := .fields #[.ref l, .int 0 0] }).objs.size = s.heap.objs.size + 1 := Heap.size_push ..
    show b < (s.heap.push { cls := .type "tuple_iterator", data := .fields #[.ref l, .int 0 0] }).objs.size
    rw [grown]
    rcases two with z | z
    · rw [z]; exact Nat.lt_succ_self _
    · rw [z]; exact Nat.lt_succ_of_lt below
  · exact PyProof.Rows.IntsAre.int_at hi i v (by simpa using hv)
  · rw [size, preSum_take ns _ (Nat.le_refl _), List.take_length]
    refine hq hp tk t fun b o ho => keep b o (fun z => ?_) (Heap.get?_push_of_some _ ho)
    have eb : b = s.heap.objs.size := by simpa using z
    have lb := Heap.lt_size ho
    rw [eb] at lb
    exact Nat.lt_irrefl _ lb
theorem cl_sum (hc : X.calm = true) : ClD X (.builtin "sum") sumF := by
  intro pn s σ H xs us Q I rs h
  obtain ⟨L, ds, d, lv, rb, hf, k⟩ := h
  unfold sumF at hf
  split at hf
  · obtain ⟨v, rfl, r⟩ := rb.one
    obtain ⟨a, vs, rfl, ha, rl⟩ := r.lstV
    obtain ⟨ns, e, rfl⟩ := Option.map_eq_some_iff.mp hf
    have ed := intsOf_eq e
    subst ed
    have ev := rl.ints
    subst ev
    exact cr_sum hc pn s σ H _ us Q I rs ⟨a, ns, rfl, SqL.of ha, k H _ (Same.refl H) (.int _)⟩
  · obtain ⟨v, rfl, r⟩ := rb.one
    obtain ⟨a, vs, rfl, ha, rl⟩ := r.tupV
    obtain ⟨ns, e, rfl⟩ := Option.map_eq_some_iff.mp hf
    have ed := intsOf_eq e
    subst ed
    have ev := rl.ints
    subst ev
    obtain ⟨u, rfl, ru⟩ := vals1 rs
    cases ru
    obtain ⟨its, rv, pl, hz⟩ := I.tuple (SqT.of ha)
    exact sum_tuple (I.ok.hd hc) pl (Vals.ints rv) fun h' tk t' kp => ⟨.int _, H, I.kept kp, ⟨t', rfl⟩, k H _ (Same.refl H) (.int _)⟩
  · cases hf
/-! isinstance(x, T), T a built-in class -/
def tyN : D → Option String
  | .none => some "NoneType"
  | .bool _ => some "bool"
  | .int _ => some "int"
  | .str _ => some "str"
  | .list _ => some "list"
  | .tuple _ => some "tuple"
  | .dict _ => none
def isInt : D → Bool
  | .int _ => true
  | .bool _ => true
  | _ => false
def isBool : D → Bool
  | .bool _ => true
  | _ => false
def isTup : D → Bool
  | .tuple _ => true
  | _ => false
def isLst : D → Bool
  | .list _ => true
  | _ => false
def isStr : D → Bool
  | .str _ => true
  | _ => false
def eIsi (g : D → Bool) (f : EF) : EF := fun ρ => (f ρ).bind fun d => match d with
  | .dict _ => .bad
  | d => .ok (.bool (g d))
theorem kit_int (d : D) (t : String) (h : tyN d = some t) : kitB t "int" = some (isInt d) := by
  cases d <;> cases h <;> first | rfl | decide +kernel
theorem kit_bool (d : D) (t : String) (h : tyN d = some t) : kitB t "bool" = some (isBool d) := by
  cases d <;> cases h <;> first | rfl | decide +kernel
theorem kit_tup (d : D) (t : String) (h : tyN d = some t) : kitB t "tuple" = some (isTup d) := by
  cases d <;> cases h <;> first | rfl | decide +kernel
theorem kit_lst (d : D) (t : String) (h : tyN d = some t) : kitB t "list" = some (isLst d) := by
  cases d <;> cases h <;> first | rfl | decide +kernel
theorem kit_str (d : D) (t : String) (h : tyN d = some t) : kitB t "str" = some (isStr d) := by
  cases d <;> cases h <;> first | rfl | decide +kernel
theorem Rb.ty {K : PySem.W.Frag} {H : Hp} {L : Ad} {d : D} {v : V} {t : String} (h : Rb K H L d v) (e : tyN d = some t) : TyX K H v (.type t) := by
  cases d with
  | none => obtain rfl := h.nonV; cases e; exact .base .non
  | bool b => obtain rfl := h.blV; cases e; exact .base (.bl b)
  | int i => obtain rfl := h.intV; cases e; exact .base (.int i)
  | str x => obtain rfl := h.strV; cases e; exact .base (.str x)
  | list ds => obtain ⟨a, vs, rfl, ha, r⟩ := h.lstV; cases e; exact .base (.lst ha)
  | tuple ds => obtain ⟨a, vs, rfl, ha, r⟩ := h.tupV; cases e; exact .base (.tup ha)
  | dict ps => cases e
theorem se_isi {W : WX} {a : Expr} {f : EF} {T : String} {x : Str} {g : D → Bool} {p p2 pos : Pos} (hT : ∀ d t, tyN d = some t → kitB t T = some (g d)) (hm : X.mg "isinstance" = none) (hmT : X.mg x = none) (ha : SB X W a f)
    (hg : Gl X "isinstance" := by rfl) (hgT : Gl X x := by rfl) (hv : bootBuiltins "isinstance" = some (.builtin "isinstance") := by decide +kernel) (hvT : bootBuiltins x = some (.type T) := by decide +kernel)
    (hn : x ≠ "__name__" := by decide) (hd : (x == ("__debug__" : Str)) = false := by decide)
    (he : starEach (a :: [Expr.Name x p2]) X.env = (false, eval a X.env) :: starEach [Expr.Name x p2] X.env := by rfl) (he2 : starEach (Expr.Name x p2 :: []) X.env = (false, eval (Expr.Name x p2) X.env) :: starEach [] X.env := by rfl) (hpl : (backTo pos (starEach [Expr.Name x p2] X.env)).any (·.1) = false := by rfl) :
    SE X W (.Call (.Name "isinstance" p) [a, .Name x p2] [] pos) (eIsi g f) :=
  (pe_callB call_isi hg hm hv (pa_cons ha (pa_cons (pe_bltn (v := .ty T) hgT hmT hvT rfl hn hd) pa_nil he2) he) (by decide) (by decide) he hpl).weak fun σ H Q ⟨L, ρ, re, pp⟩ =>
    ⟨L, ρ, re, pp.step fun d H1 v s1 r p1 => by
      cases e : tyN d with
      | none =>
        cases d with
        | dict _ => exact p1.elim
        | _ => cases e
      | some t =>
        refine ⟨v, .ty T, .type t, .type T, g d, rfl, .ty T, r.ty e, kit_ty (hT d t e), ?_⟩
        cases d with
        | dict _ => cases e
        | _ => exact p1 H1 _ (Same.refl H1) (.bl _)⟩
end
end VV

set_option Elab.async false
set_option linter.all false
set_option maxRecDepth 100000
set_option maxHeartbeats 4000000
/-! VVg: what is walked, targets, comprehensions. -/
namespace VV
open PySem PySem.Spec L2
open PyProof.Rows hiding St

section
variable {K : PySem.W.Frag} {H H' : Hp} {L L' : Ad} {d : D} {v : V}
theorem Rb.lives (s : ∀ a, L' a → L a ∨ H a = none) (h : Rb K H L d v) : Rb K H L' d v := by
  rcases h with h | ⟨a, e, h⟩
  · exact .inl (h.lives s)
  · exact .inr ⟨a, e, h.lives s⟩
theorem SlR.lives {x : Sl} {o : Option V} (s : ∀ a, L' a → L a ∨ H a = none) (h : SlR K H L x o) : SlR K H L' x o := by
  cases x with
  | val d => obtain ⟨v, e, r⟩ := h; exact ⟨v, e, r.lives s⟩
  | own d => obtain ⟨a, e, r⟩ := h; exact ⟨a, e, r.lives s⟩
  | grid rows => obtain ⟨a, bs, e, r⟩ := h; exact ⟨a, bs, e, r.lives s⟩
theorem RE.lives {ρ : En} {σ : St} (s : ∀ a, L' a → L a ∨ H a = none) (lv : LvOk H L') (h : RE K H L ρ σ) : RE K H L' ρ σ :=
  ⟨lv, h.len, fun i x e => let ⟨o, e1, r⟩ := h.sl i x e; ⟨o, e1, r.lives s⟩⟩
end

/-! ### what is walked -/
structure ItB (K : PySem.W.Frag) (ds : List D) (J : It) (S : Hp → Ad → Prop) : Prop where
  go : ∀ i H L, S H L → i < ds.length → J.go i H
  stop : ∀ i H L, S H L → ds.length ≤ i → J.stop i H
  yld : ∀ i H L x H', S H L → J.yld i H x H' → Same H H' ∧ ∀ d, ds[i]? = some d → Rp K H' L d x
  keep : ∀ H L H' L', S H L → Same H H' → (∀ a, L' a → L a ∨ H a = none) → S H' L'
structure ItS (K : PySem.W.Frag) (ds : List D) (J : It) (S : Hp → Ad → Prop) : Prop extends ItB K ds J S where
  evo : ∀ H L H' L', S H L → (∀ d v, Rp K H L d v → Rp K H' L' d v) → S H' L'
def PostI (K : PySem.W.Frag) (W : WX) (L : Ad) (σ : St) (H : Hp) (r : RL) (R : It → Hp → Prop) : Prop := match r with
  | .ok ds => ∀ (J : It) (S : Hp → Ad → Prop) (H' : Hp), Same H H' → ItB K ds J S → S H' L → R J H'
  | .exc c fs => ∀ (H' : Hp) (x : Option Addr), Same H H' → XR K H' L fs x → W (.ref (He.ga K c)) x σ H'
  | .bad => False
def PostIS (K : PySem.W.Frag) (W : WX) (L : Ad) (σ : St) (H : Hp) (r : RL) (R : It → Hp → Prop) : Prop := match r with
  | .ok ds => ∀ (J : It) (S : Hp → Ad → Prop) (H' : Hp), Same H H' → ItS K ds J S → S H' L → R J H'
  | .exc c fs => ∀ (H' : Hp) (x : Option Addr), Same H H' → XR K H' L fs x → W (.ref (He.ga K c)) x σ H'
  | .bad => False
abbrev IF := En → RL
def tI (K : PySem.W.Frag) (W : WX) (f : IF) : TI := fun σ H R => ∃ L ρ, RE K H L ρ σ ∧ PostI K W L σ H (f ρ) R
def tIS (K : PySem.W.Frag) (W : WX) (f : IF) : TI := fun σ H R => ∃ L ρ, RE K H L ρ σ ∧ PostIS K W L σ H (f ρ) R
/-- what a comprehension walks; what a for walks -/
abbrev SI (X : Cx) (W : WX) (tg e : Expr) (f : IF) : Prop := PI X tg e (tI X.K W f)
abbrev SIS (X : Cx) (W : WX) (tg e : Expr) (f : IF) : Prop := PI X tg e (tIS X.K W f)
def Rs.items (r : Rs) (fn : D → Option (List D)) : RL := match r with
  | .ok d => (match fn d with
    | some ds => .ok ds
    | none => .bad)
  | .exc c fs => .exc c fs
  | .bad => .bad
def itF : D → Option (List D)
  | .list ds => some ds
  | .tuple ds => some ds
  | .str z => some (z.cps.toList.map fun c => .str ⟨#[c]⟩)
  | _ => none
def iSeq (f : EF) : IF := fun ρ => (f ρ).items itF
section
variable {X : Cx} {W : WX} {tg e a b c : Expr} {f g h : EF} {pos p : Pos}
theorem _root_.L2.PI.weak {t t' : TI} (h : PI X tg e t) (hw : ∀ σ H Q, t' σ H Q → t σ H Q) : PI X tg e t' := ⟨fun pn s σ H Q I q => h.run pn s σ H Q I (hw σ H Q q)⟩
theorem itb_list {K : PySem.W.Frag} {ds : List D} {a : Addr} : ItB K ds (Itl K a) (fun H L => ∃ vs, H a = some (.lst vs) ∧ RpL K H L ds vs) where
  go := fun i H L ⟨vs, ha, r⟩ hi => by
    rw [r.length] at hi
    exact ⟨vs, vs[i], SqL.of ha, by simp [hi]⟩
  stop := fun i H L ⟨vs, ha, r⟩ hi => ⟨vs, SqL.of ha, by rw [← r.length]; exact hi⟩
  yld := fun i H L x H' ⟨vs, ha, r⟩ ⟨e, y⟩ => by
    subst e
    refine ⟨Same.refl _, fun d hd => ?_⟩
    obtain ⟨v, e1, rv⟩ := r.get hd
    rw [y vs (SqL.of ha)] at e1
    cases e1
    exact rv
  keep := fun H L H' L' ⟨vs, ha, r⟩ s l => ⟨vs, s _ _ ha, (r.lives l).mono s⟩
theorem itb_tup {K : PySem.W.Frag} {ds : List D} {a : Addr} : ItB K ds (Itt K a) (fun H L => ∃ vs, H a = some (.tup vs) ∧ RpL K H L ds vs) where
  go := fun i H L ⟨vs, ha, r⟩ hi => by
    rw [r.length] at hi
    exact ⟨vs, vs[i], SqT.of ha, by simp [hi]⟩
  stop := fun i H L ⟨vs, ha, r⟩ hi => ⟨vs, SqT.of ha, by rw [← r.length]; exact hi⟩
  yld := fun i H L x H' ⟨vs, ha, r⟩ ⟨e, y⟩ => by
    subst e
    refine ⟨Same.refl _, fun d hd => ?_⟩
    obtain ⟨v, e1, rv⟩ := r.get hd
    rw [y vs (SqT.of ha)] at e1
    cases e1
    exact rv
  keep := fun H L H' L' ⟨vs, ha, r⟩ s l => ⟨vs, s _ _ ha, (r.lives l).mono s⟩
theorem itb_str {K : PySem.W.Frag} {z : Str} : ItB K (z.cps.toList.map fun c => PyData.str ⟨#[c]⟩) (Its z) (fun _ _ => True) where
  go := fun i H L _ hi => show i < z.cps.size by simpa using hi
  stop := fun i H L _ hi => show z.cps.size ≤ i by simpa using hi
  yld := fun i H L x H' _ ⟨e, c, e1, e2⟩ => by
    subst e
    refine ⟨Same.refl _, fun d hd => ?_⟩
    rw [List.getElem?_map, Array.getElem?_toList, e1] at hd
    cases hd
    subst e2
    exact .str _
  keep := fun H L H' L' _ s l => trivial
/-- what is walked is known by the slots before it is evaluated: each kind by its own rule of the library -/
theorem si_seq (ha : SB X W e f) : SI X W tg e (iSeq f) := ⟨fun pn s σ H R I ⟨L, ρ, re, p⟩ => by
  unfold iSeq Rs.items at p
  match hf : f ρ with
  | .bad => rw [hf] at p; exact p.elim
  | .exc c fs =>
    rw [hf] at p
    refine (pi_list ha).run pn s σ H R I ⟨L, ρ, re, ?_⟩
    rw [hf]
    exact p
  | .ok (.list ds) =>
    rw [hf] at p
    refine (pi_list ha).run pn s σ H R I ⟨L, ρ, re, ?_⟩
    rw [hf]
    intro H1 v s1 r
    obtain ⟨b, vs, ev, hb, rl⟩ := r.lstV
    exact ⟨b, ev, ⟨vs, SqL.of hb⟩, p _ _ H1 s1 itb_list ⟨vs, hb, rl⟩⟩
  | .ok (.tuple ds) =>
    rw [hf] at p
    refine (pi_tup ha).run pn s σ H R I ⟨L, ρ, re, ?_⟩
    rw [hf]
    intro H1 v s1 r
    obtain ⟨b, vs, ev, hb, rl⟩ := r.tupV
    exact ⟨b, ev, ⟨vs, SqT.of hb⟩, p _ _ H1 s1 itb_tup ⟨vs, hb, rl⟩⟩
  | .ok (.str z) =>
    rw [hf] at p
    refine (pi_str ha).run pn s σ H R I ⟨L, ρ, re, ?_⟩
    rw [hf]
    exact fun H1 v s1 r => ⟨z, r.strV, p _ _ H1 s1 itb_str trivial⟩
  | .ok .none => rw [hf] at p; exact p.elim
  | .ok (.bool _) => rw [hf] at p; exact p.elim
  | .ok (.int _) => rw [hf] at p; exact p.elim
  | .ok (.dict _) => rw [hf] at p; exact p.elim⟩
/-- a list that others may read: its items stay while the frame's own lists change -/
theorem its_lst {K : PySem.W.Frag} {ds : List D} {a : Addr} : ItS K ds (Itl K a) (fun H L => Rp K H L (.list ds) (.ref a)) := by
  have un : ∀ {H : Hp} {L : Ad}, Rp K H L (.list ds) (.ref a) → ∃ vs, H a = some (.lst vs) ∧ RpL K H L ds vs := fun r => by
    cases r with
    | lst h n rl => exact ⟨_, h, rl⟩
  exact ⟨⟨fun i H L q => itb_list.go i H L (un q), fun i H L q => itb_list.stop i H L (un q), fun i H L x H' q => itb_list.yld i H L x H' (un q), fun H L H' L' q sm l => (q.lives l).mono sm⟩, fun H L H' L' q ev => ev _ _ q⟩
theorem its_tup {K : PySem.W.Frag} {ds : List D} {a : Addr} : ItS K ds (Itt K a) (fun H L => Rp K H L (.tuple ds) (.ref a)) := by
  have un : ∀ {H : Hp} {L : Ad}, Rp K H L (.tuple ds) (.ref a) → ∃ vs, H a = some (.tup vs) ∧ RpL K H L ds vs := fun r => by
    cases r with
    | tup h rl => exact ⟨_, h, rl⟩
  exact ⟨⟨fun i H L q => itb_tup.go i H L (un q), fun i H L q => itb_tup.stop i H L (un q), fun i H L x H' q => itb_tup.yld i H L x H' (un q), fun H L H' L' q sm l => (q.lives l).mono sm⟩, fun H L H' L' q ev => ev _ _ q⟩
theorem sis_seq (ha : SE X W e f) : SIS X W tg e (iSeq f) := ⟨fun pn s σ H R I ⟨L, ρ, re, p⟩ => by
  unfold iSeq Rs.items at p
  match hf : f ρ with
  | .bad => rw [hf] at p; exact p.elim
  | .exc c fs =>
    rw [hf] at p
    refine (pi_list ha).run pn s σ H R I ⟨L, ρ, re, ?_⟩
    rw [hf]
    exact p
  | .ok (.list ds) =>
    rw [hf] at p
    refine (pi_list ha).run pn s σ H R I ⟨L, ρ, re, ?_⟩
    rw [hf]
    intro H1 v s1 r
    obtain ⟨b, vs, ev, hb, _⟩ := r.rb.lstV
    subst ev
    exact ⟨b, rfl, ⟨vs, SqL.of hb⟩, p _ _ H1 s1 its_lst r⟩
  | .ok (.tuple ds) =>
    rw [hf] at p
    refine (pi_tup ha).run pn s σ H R I ⟨L, ρ, re, ?_⟩
    rw [hf]
    intro H1 v s1 r
    obtain ⟨b, vs, ev, hb, _⟩ := r.tupV
    subst ev
    exact ⟨b, rfl, ⟨vs, SqT.of hb⟩, p _ _ H1 s1 its_tup r⟩
  | .ok (.str z) =>
    rw [hf] at p
    refine (pi_str ha).run pn s σ H R I ⟨L, ρ, re, ?_⟩
    rw [hf]
    exact fun H1 v s1 r => ⟨z, r.strV, p _ _ H1 s1 ⟨itb_str, fun _ _ _ _ _ _ => trivial⟩ trivial⟩
  | .ok .none => rw [hf] at p; exact p.elim
  | .ok (.bool _) => rw [hf] at p; exact p.elim
  | .ok (.int _) => rw [hf] at p; exact p.elim
  | .ok (.dict _) => rw [hf] at p; exact p.elim⟩
/-! range -/
def rangeD (lo : Int) (n : Nat) : List D := (List.range n).map fun (i : Nat) => PyData.int (lo + (i : Int))
def smallI (i : Int) : Bool := decide (-(2 ^ 62) ≤ i) && decide (i < 2 ^ 62)
def rng1 : List D → Option (List D)
  | [.int j] => if smallI j = true then some (rangeD 0 j.toNat) else none
  | _ => none
def rng2 : List D → Option (List D)
  | [.int i, .int j] => if (smallI i && smallI j) = true then some (rangeD i (j - i).toNat) else none
  | _ => none
def RL.items (r : RL) (fn : List D → Option (List D)) : RL := match r with
  | .ok d => (match fn d with
    | some ds => .ok ds
    | none => .bad)
  | .exc c fs => .exc c fs
  | .bad => .bad
def iRange1 (fs : List EF) : IF := fun ρ => (evA fs ρ).items rng1
def iRange2 (fs : List EF) : IF := fun ρ => (evA fs ρ).items rng2
theorem its_range {K : PySem.W.Frag} {lo : Int} {n : Nat} : ItS K (rangeD lo n) (Itr lo n) (fun _ _ => True) where
  go := fun i H L _ hi => show i < n by simpa [rangeD] using hi
  stop := fun i H L _ hi => show n ≤ i by simpa [rangeD] using hi
  yld := fun i H L x H' _ ⟨e, e2⟩ => by
    subst e e2
    refine ⟨Same.refl _, fun d hd => ?_⟩
    unfold rangeD at hd
    rw [List.getElem?_map] at hd
    by_cases hi : i < n
    · rw [List.getElem?_range hi] at hd
      cases hd
      exact .int _
    · rw [List.getElem?_eq_none (by simpa using hi)] at hd
      cases hd
  keep := fun H L H' L' _ s l => trivial
  evo := fun H L H' L' _ ev => trivial
theorem rng1_eq {ds es : List D} (h : rng1 ds = some es) : ∃ j : Int, ds = [.int j] ∧ -(2 ^ 62) ≤ j ∧ j < 2 ^ 62 ∧ es = rangeD 0 j.toNat := by
  unfold rng1 at h
  split at h
  · split at h
    · cases h
      rename_i hz
      simp only [smallI, Bool.and_eq_true, decide_eq_true_eq] at hz
      exact ⟨_, rfl, hz.1, hz.2, rfl⟩
    · cases h
  · cases h
theorem rng2_eq {ds es : List D} (h : rng2 ds = some es) : ∃ i j : Int, ds = [.int i, .int j] ∧ (-(2 ^ 62) ≤ i ∧ i < 2 ^ 62 ∧ -(2 ^ 62) ≤ j ∧ j < 2 ^ 62) ∧ es = rangeD i (j - i).toNat := by
  unfold rng2 at h
  split at h
  · split at h
    · cases h
      rename_i hz
      simp only [smallI, Bool.and_eq_true, decide_eq_true_eq] at hz
      exact ⟨_, _, rfl, ⟨hz.1.1, hz.1.2, hz.2.1, hz.2.2⟩, rfl⟩
    · cases h
  · cases h
theorem tI_range1 {K : PySem.W.Frag} {fs : List EF} : ∀ σ H R, tI K W (iRange1 fs) σ H R → iRng1 (tBA K W fs) σ H R := fun σ H R ⟨L, ρ, re, p⟩ => by
  refine ⟨L, ρ, re, ?_⟩
  unfold iRange1 RL.items at p
  cases hf : evA fs ρ with
  | bad => rw [hf] at p; exact p
  | exc c fs => rw [hf] at p; exact p
  | ok ds =>
    rw [hf] at p
    intro H1 vs s1 r
    cases hq : rng1 ds with
    | none => simp only [hq] at p; exact p.elim
    | some es =>
      simp only [hq] at p
      obtain ⟨j, rfl, h1, h2, rfl⟩ := rng1_eq hq
      obtain ⟨v, rfl, rv⟩ := r.one
      obtain rfl := rv.intV
      exact ⟨_, rfl, h1, h2, p _ _ H1 s1 its_range.toItB trivial⟩
theorem tI_range2 {K : PySem.W.Frag} {fs : List EF} : ∀ σ H R, tI K W (iRange2 fs) σ H R → iRng2 (tBA K W fs) σ H R := fun σ H R ⟨L, ρ, re, p⟩ => by
  refine ⟨L, ρ, re, ?_⟩
  unfold iRange2 RL.items at p
  cases hf : evA fs ρ with
  | bad => rw [hf] at p; exact p
  | exc c fs => rw [hf] at p; exact p
  | ok ds =>
    rw [hf] at p
    intro H1 vs s1 r
    cases hq : rng2 ds with
    | none => simp only [hq] at p; exact p.elim
    | some es =>
      simp only [hq] at p
      obtain ⟨i, j, rfl, h1, rfl⟩ := rng2_eq hq
      obtain ⟨v, w, rfl, rv, rw'⟩ := r.two
      obtain rfl := rv.intV
      obtain rfl := rw'.intV
      exact ⟨_, _, rfl, h1, p _ _ H1 s1 its_range.toItB trivial⟩
theorem tIS_range1 {K : PySem.W.Frag} {fs : List EF} : ∀ σ H R, tIS K W (iRange1 fs) σ H R → iRng1 (tBA K W fs) σ H R := fun σ H R ⟨L, ρ, re, p⟩ => by
  refine ⟨L, ρ, re, ?_⟩
  unfold iRange1 RL.items at p
  cases hf : evA fs ρ with
  | bad => rw [hf] at p; exact p
  | exc c fs => rw [hf] at p; exact p
  | ok ds =>
    rw [hf] at p
    intro H1 vs s1 r
    cases hq : rng1 ds with
    | none => simp only [hq] at p; exact p.elim
    | some es =>
      simp only [hq] at p
      obtain ⟨j, rfl, h1, h2, rfl⟩ := rng1_eq hq
      obtain ⟨v, rfl, rv⟩ := r.one
      obtain rfl := rv.intV
      exact ⟨_, rfl, h1, h2, p _ _ H1 s1 its_range trivial⟩
theorem tIS_range2 {K : PySem.W.Frag} {fs : List EF} : ∀ σ H R, tIS K W (iRange2 fs) σ H R → iRng2 (tBA K W fs) σ H R := fun σ H R ⟨L, ρ, re, p⟩ => by
  refine ⟨L, ρ, re, ?_⟩
  unfold iRange2 RL.items at p
  cases hf : evA fs ρ with
  | bad => rw [hf] at p; exact p
  | exc c fs => rw [hf] at p; exact p
  | ok ds =>
    rw [hf] at p
    intro H1 vs s1 r
    cases hq : rng2 ds with
    | none => simp only [hq] at p; exact p.elim
    | some es =>
      simp only [hq] at p
      obtain ⟨i, j, rfl, h1, rfl⟩ := rng2_eq hq
      obtain ⟨v, w, rfl, rv, rw'⟩ := r.two
      obtain rfl := rv.intV
      obtain rfl := rw'.intV
      exact ⟨_, _, rfl, h1, p _ _ H1 s1 its_range trivial⟩
theorem si_range1 {f : EF} (hm : X.mg "range" = none) (ha : SBA X W [a] [f]) (hg : Gl X "range" := by rfl) (hs : starEach [a] X.env = [(false, eval a X.env)] := by rfl) : SI X W tg (.Call (.Name "range" p) [a] [] pos) (iRange1 [f]) := (pi_range1 hg hm ha hs).weak tI_range1
theorem sis_range1 {f : EF} (hm : X.mg "range" = none) (ha : SBA X W [a] [f]) (hg : Gl X "range" := by rfl) (hs : starEach [a] X.env = [(false, eval a X.env)] := by rfl) : SIS X W tg (.Call (.Name "range" p) [a] [] pos) (iRange1 [f]) := (pi_range1 hg hm ha hs).weak tIS_range1
theorem si_range2 {fs : List EF} (hm : X.mg "range" = none) (ha : SBA X W [a, b] fs) (hg : Gl X "range" := by rfl) (hs : starEach [a, b] X.env = [(false, eval a X.env), (false, eval b X.env)] := by rfl) (hs2 : starEach [b] X.env = [(false, eval b X.env)] := by rfl) :
    SI X W tg (.Call (.Name "range" p) [a, b] [] pos) (iRange2 fs) := (pi_range2 hg hm ha hs hs2).weak tI_range2
theorem sis_range2 {fs : List EF} (hm : X.mg "range" = none) (ha : SBA X W [a, b] fs) (hg : Gl X "range" := by rfl) (hs : starEach [a, b] X.env = [(false, eval a X.env), (false, eval b X.env)] := by rfl) (hs2 : starEach [b] X.env = [(false, eval b X.env)] := by rfl) :
    SIS X W tg (.Call (.Name "range" p) [a, b] [] pos) (iRange2 fs) := (pi_range2 hg hm ha hs hs2).weak tIS_range2
end

/-! ### targets -/
inductive Tg where
  | nm (i : Nat)
  | tp (ts : List Tg)
mutual
def gT (K : PySem.W.Frag) : Tg → TG
  | .nm i => gName i
  | .tp ts => gTup K ts.length (gTs K ts)
def gTs (K : PySem.W.Frag) : List Tg → TGs
  | [] => gNil
  | t :: ts => gCons (gT K t) (gTs K ts)
end
mutual
def bindT : Tg → D → En → Option En
  | .nm i, d, ρ => some (ρ.set i (some (.val d)))
  | .tp ts, .tuple ds, ρ => bindTs ts ds ρ
  | .tp _, _, _ => none
def bindTs : List Tg → List D → En → Option En
  | [], [], ρ => some ρ
  | t :: ts, d :: ds, ρ => (bindT t d ρ).bind fun ρ => bindTs ts ds ρ
  | _, _, _ => none
end
mutual
def slotsT : Tg → List Nat
  | .nm i => [i]
  | .tp ts => slotsTs ts
def slotsTs : List Tg → List Nat
  | [] => []
  | t :: ts => slotsT t ++ slotsTs ts
end
theorem RE.set {K : PySem.W.Frag} {H : Hp} {L : Ad} {ρ : En} {σ : St} {i : Nat} {d : D} {v : V} (re : RE K H L ρ σ) (r : Rp K H L d v) : RE K H L (ρ.set i (some (.val d))) (σ.set i (some v)) := by
  have hl := re.len
  refine ⟨re.lv, by simp [hl], fun j x e => ?_⟩
  by_cases hj : i = j
  · subst hj
    by_cases hi : i < ρ.length
    · rw [List.getElem?_set_self hi] at e
      cases e
      exact ⟨_, List.getElem?_set_self (by rw [← hl]; exact hi), v, rfl, r⟩
    · rw [List.getElem?_eq_none (by simpa using hi)] at e
      cases e
  · rw [List.getElem?_set_ne hj] at e
    obtain ⟨o, e1, q⟩ := re.sl j x e
    exact ⟨o, by rw [List.getElem?_set_ne hj]; exact e1, q⟩
/-- the slots that change, and only they -/
structure Ch (is : List Nat) (ρ ρ1 : En) (σ σ1 : St) : Prop where
  lr : ρ1.length = ρ.length
  ls : σ1.length = σ.length
  r : ∀ j, j ∉ is → ρ1[j]? = ρ[j]?
  s : ∀ j, j ∉ is → σ1[j]? = σ[j]?
  v : ∀ j, j ∈ is → ∀ d, ρ1[j]? ≠ some (some (.own d))
  g : ∀ j, j ∈ is → ∀ rows, ρ1[j]? ≠ some (some (.grid rows))
mutual
theorem gT_of {K : PySem.W.Frag} {H : Hp} {L : Ad} : ∀ {t : Tg} {d : D} {v : V} {ρ ρ1 : En} {σ : St} {Q : St → Hp → Prop}, RE K H L ρ σ → Rp K H L d v → bindT t d ρ = some ρ1 →
    (∀ σ1, RE K H L ρ1 σ1 → Ch (slotsT t) ρ ρ1 σ σ1 → Q σ1 H) → gT K t v σ H Q
  | .nm i, d, v, ρ, ρ1, σ, Q, re, r, hb, k => by
    simp only [bindT, Option.some.injEq] at hb
    subst hb
    refine k _ (re.set r) ⟨by simp, by simp, fun j hj => ?_, fun j hj => ?_, fun j hj d' z => ?_, fun j hj d' z => ?_⟩
    · exact List.getElem?_set_ne (fun e => hj (by simp [slotsT, e]))
    · exact List.getElem?_set_ne (fun e => hj (by simp [slotsT, e]))
    all_goals
      have e : j = i := by simpa [slotsT] using hj
      subst e
      by_cases hi : j < ρ.length
      · rw [List.getElem?_set_self hi] at z
        cases z
      · rw [List.getElem?_eq_none (by simpa using hi)] at z
        cases z
  | .tp ts, .tuple ds, v, ρ, ρ1, σ, Q, re, r, hb, k => by
    obtain ⟨a, vs, rfl, ha, rl⟩ := r.tupV
    simp only [bindT] at hb
    obtain ⟨e1, q⟩ := gTs_of (Q := Q) re rl hb k
    exact ⟨a, vs, rfl, SqT.of ha, e1, q⟩
  | .tp ts, .none, v, ρ, ρ1, σ, Q, re, r, hb, k => by simp [bindT] at hb
  | .tp ts, .bool _, v, ρ, ρ1, σ, Q, re, r, hb, k => by simp [bindT] at hb
  | .tp ts, .int _, v, ρ, ρ1, σ, Q, re, r, hb, k => by simp [bindT] at hb
  | .tp ts, .str _, v, ρ, ρ1, σ, Q, re, r, hb, k => by simp [bindT] at hb
  | .tp ts, .list _, v, ρ, ρ1, σ, Q, re, r, hb, k => by simp [bindT] at hb
  | .tp ts, .dict _, v, ρ, ρ1, σ, Q, re, r, hb, k => by simp [bindT] at hb
theorem gTs_of {K : PySem.W.Frag} {H : Hp} {L : Ad} : ∀ {ts : List Tg} {ds : List D} {vs : List V} {ρ ρ1 : En} {σ : St} {Q : St → Hp → Prop}, RE K H L ρ σ → RpL K H L ds vs → bindTs ts ds ρ = some ρ1 →
    (∀ σ1, RE K H L ρ1 σ1 → Ch (slotsTs ts) ρ ρ1 σ σ1 → Q σ1 H) → vs.length = ts.length ∧ gTs K ts vs σ H Q
  | [], [], vs, ρ, ρ1, σ, Q, re, r, hb, k => by
    cases r
    simp only [bindTs, Option.some.injEq] at hb
    subst hb
    exact ⟨rfl, rfl, k σ re ⟨rfl, rfl, fun _ _ => rfl, fun _ _ => rfl, fun j hj => by simp [slotsTs] at hj, fun j hj => by simp [slotsTs] at hj⟩⟩
  | t :: ts, d :: ds, vs, ρ, ρ1, σ, Q, re, r, hb, k => by
    cases r with
    | cons r1 rl =>
      rename_i v vs
      simp only [bindTs] at hb
      obtain ⟨ρ2, e2, hb⟩ := Option.bind_eq_some_iff.mp hb
      have hlen : vs.length = ts.length := by
        have aux : ∀ (ts : List Tg) (ds : List D) (ρ ρ1 : En), bindTs ts ds ρ = some ρ1 → ds.length = ts.length := by
          intro ts
          induction ts with
          | nil => intro ds ρ ρ1 h; cases ds with
            | nil => rfl
            | cons _ _ => simp [bindTs] at h
          | cons t ts ih =>
            intro ds ρ ρ1 h
            cases ds with
            | nil => simp [bindTs] at h
            | cons d ds =>
              simp only [bindTs] at h
              obtain ⟨ρ2, _, h⟩ := Option.bind_eq_some_iff.mp h
              simp [ih ds ρ2 ρ1 h]
        rw [← rl.length]
        exact aux ts ds ρ2 ρ1 hb
      refine ⟨by simp [hlen], v, vs, rfl, gT_of re r1 e2 fun σ1 re1 c1 => ?_⟩
      refine (gTs_of re1 rl hb fun σ2 re2 c2 => k σ2 re2 ?_).2
      refine ⟨c2.lr.trans c1.lr, c2.ls.trans c1.ls, fun j hj => ?_, fun j hj => ?_, fun j hj d' => ?_, fun j hj d' => ?_⟩
      · rw [slotsTs, List.mem_append, not_or] at hj
        rw [c2.r j hj.2, c1.r j hj.1]
      · rw [slotsTs, List.mem_append, not_or] at hj
        rw [c2.s j hj.2, c1.s j hj.1]
      · by_cases h2 : j ∈ slotsTs ts
        · exact c2.v j h2 d'
        · rw [c2.r j h2]
          rw [slotsTs, List.mem_append] at hj
          exact c1.v j (hj.resolve_right h2) d'
      · by_cases h2 : j ∈ slotsTs ts
        · exact c2.g j h2 d'
        · rw [c2.r j h2]
          rw [slotsTs, List.mem_append] at hj
          exact c1.g j (hj.resolve_right h2) d'
  | [], d :: ds, vs, ρ, ρ1, σ, Q, re, r, hb, k => by simp [bindTs] at hb
  | t :: ts, [], vs, ρ, ρ1, σ, Q, re, r, hb, k => by simp [bindTs] at hb
end
end VV

set_option Elab.async false
set_option linter.all false
set_option maxRecDepth 100000
set_option maxHeartbeats 4000000
/-! VVh: comprehensions. -/
namespace VV
open PySem PySem.Spec L2
open PyProof.Rows hiding St

abbrev WF : WX := fun _ _ _ _ => False
def wipeE (ρ : En) : List Nat → En
  | [] => ρ
  | v :: vs => (wipeE ρ vs).set v none
theorem wipeE_length (ρ : En) : ∀ vs : List Nat, (wipeE ρ vs).length = ρ.length
  | [] => rfl
  | v :: vs => by unfold wipeE; rw [List.length_set, wipeE_length ρ vs]
theorem wipeE_get (ρ : En) (i : Nat) : ∀ vs : List Nat, i ∉ vs → (wipeE ρ vs)[i]? = ρ[i]?
  | [], _ => rfl
  | v :: vs, hn => by
    have hv : v ≠ i := fun z => hn (z ▸ List.mem_cons_self ..)
    show ((wipeE ρ vs).set v none)[i]? = _
    rw [List.getElem?_set_ne hv, wipeE_get ρ i vs fun z => hn (List.mem_cons_of_mem _ z)]
theorem wipeE_gone (ρ : En) (i : Nat) (x : Sl) : ∀ vs : List Nat, i ∈ vs → (wipeE ρ vs)[i]? ≠ some (some x)
  | v :: vs, hm, he => by
    have he' : ((wipeE ρ vs).set v none)[i]? = some (some x) := he
    rw [List.getElem?_set] at he'
    split at he'
    · split at he' <;> cases he'
    · rename_i hne
      exact wipeE_gone ρ i x vs ((List.mem_cons.mp hm).resolve_left fun z => hne z.symm) he'
theorem wipeE_some {ρ : En} {i : Nat} {x : Sl} {vs : List Nat} (he : (wipeE ρ vs)[i]? = some (some x)) : ρ[i]? = some (some x) ∧ i ∉ vs := by
  have hn : i ∉ vs := fun z => wipeE_gone ρ i x vs z he
  exact ⟨(wipeE_get ρ i vs hn) ▸ he, hn⟩
theorem wipe_at {σ : St} {i : Nat} : ∀ {vs : List Nat}, i ∉ vs → (wipe σ vs)[i]? = σ[i]?
  | [], _ => rfl
  | v :: vs, h => by
    simp only [List.mem_cons, not_or] at h
    unfold wipe
    rw [List.getElem?_set_ne (Ne.symm h.1)]
    exact wipe_at h.2
theorem wipe_in {σ : St} {i : Nat} (hi : i < σ.length) : ∀ {vs : List Nat}, i ∈ vs → (wipe σ vs)[i]? = some none
  | v :: vs, h => by
    unfold wipe
    by_cases e : v = i
    · subst e
      exact List.getElem?_set_self (by rw [wipe_length]; exact hi)
    · rw [List.getElem?_set_ne e]
      exact wipe_in hi ((List.mem_cons.mp h).resolve_left (Ne.symm e))
theorem wipe_eq {σ σ1 : St} {vs : List Nat} (hl : σ1.length = σ.length) (h : ∀ j, j ∉ vs → σ1[j]? = σ[j]?) : wipe σ1 vs = wipe σ vs := by
  apply List.ext_getElem?
  intro i
  by_cases hi : i ∈ vs
  · by_cases hlt : i < σ.length
    · rw [wipe_in hlt hi, wipe_in (by rw [hl]; exact hlt) hi]
    · rw [List.getElem?_eq_none (by rw [wipe_length]; omega), List.getElem?_eq_none (by rw [wipe_length]; omega)]
  · rw [wipe_at hi, wipe_at hi, h i hi]
theorem wipe_twice {σ : St} {vs : List Nat} : wipe (wipe σ vs) vs = wipe σ vs := wipe_eq (wipe_length _ _) fun j hj => wipe_at hj
theorem RE.wipe {K : PySem.W.Frag} {H : Hp} {L : Ad} {ρ : En} {σ : St} (vs : List Nat) (re : RE K H L ρ σ) : RE K H L (wipeE ρ vs) (L2.wipe σ vs) := by
  refine ⟨re.lv, by rw [wipeE_length, wipe_length]; exact re.len, fun i x e => ?_⟩
  obtain ⟨h1, h2⟩ := wipeE_some e
  obtain ⟨o, e1, r⟩ := re.sl i x h1
  exact ⟨o, by rw [wipe_at h2]; exact e1, r⟩
/-- one item -/
def lcOne (t : Tg) (c e : EF) (ρ : En) (d : D) (k : RL) : RL := match bindT t d ρ with
  | none => .bad
  | some ρ1 => match c ρ1 with
    | .ok (.bool true) => (match e ρ1 with
      | .ok y => RL.cons (.ok y) k
      | _ => .bad)
    | .ok (.bool false) => k
    | _ => .bad
def lcGo (t : Tg) (c e : EF) (ρ : En) : List D → RL
  | [] => .ok []
  | d :: ds => lcOne t c e ρ d (lcGo t c e ρ ds)
def eLc (vs : List Nat) (fi : IF) (t : Tg) (c e : EF) : EF := fun ρ => (fi ρ).bind fun ds => (lcGo t c e (wipeE ρ vs) ds).bind lstR
theorem lcOne_ok {t : Tg} {c e : EF} {ρ : En} {d : D} {k : RL} {rs : List D} (h : lcOne t c e ρ d k = .ok rs) :
    ∃ ρ1, bindT t d ρ = some ρ1 ∧ ((c ρ1 = .ok (.bool true) ∧ ∃ y r, e ρ1 = .ok y ∧ k = .ok r ∧ rs = y :: r) ∨ (c ρ1 = .ok (.bool false) ∧ k = .ok rs)) := by
  unfold lcOne at h
  cases hb : bindT t d ρ with
  | none => exact absurd h (by rw [hb]; simp)
  | some ρ1 =>
    rw [hb] at h
    refine ⟨ρ1, rfl, ?_⟩
    cases hc : c ρ1 with
    | bad => simp only [hc] at h; cases h
    | exc c fs => simp only [hc] at h; cases h
    | ok b =>
      simp only [hc] at h
      cases b with
      | bool b =>
        cases b with
        | true =>
          cases he : e ρ1 with
          | bad => simp only [he] at h; cases h
          | exc c fs => simp only [he] at h; cases h
          | ok y =>
            simp only [he] at h
            cases k with
            | bad => cases h
            | exc c fs => cases h
            | ok r => cases h; exact .inl ⟨rfl, y, r, rfl, rfl, rfl⟩
        | false => exact .inr ⟨rfl, h⟩
      | _ => cases h
abbrev STs (X : Cx) (ifs : List Expr) (c : EF) : Prop := PTs X ifs (tT X.K WF c)
section
variable {X : Cx} {W : WX}
theorem sts_nil : STs X [] (eC (.bool true)) := ⟨fun pins s σ H Q I ⟨L, ρ, re, p⟩ => pts_nil.run pins s σ H Q I (p H (Same.refl H))⟩
theorem sts_one {c : Expr} {f : EF} (h : ST X WF c f) : STs X [c] f := pts_one h
/-- the loop of a comprehension: from H1 on, D new -/
theorem lc_loop {K : PySem.W.Frag} {L : Ad} {σ : St} {ρ : En} {H1 : Hp} {J : It} {S : Hp → Ad → Prop} {ds rs : List VV.D} {t : Tg} {c e : EF} {vs : List Nat} {Q : VK} (re : RE K H1 L ρ σ) (it : ItB K ds J S) (hS : S H1 L)
    (hsl : ∀ i ∈ slotsT t, i ∈ vs) (hgo : lcGo t c e (wipeE ρ vs) ds = .ok rs) (hz : rs.length ≤ sizeLine) (hQ : ∀ D H, H1 D = none → Same H1 H → Ow K H (Lp L D) (.list rs) D → Q (.ref D) H) :
    tLc (fun _ _ R => R J H1) (gT K t) (tT K WF c) (tE K WF e) vs σ H1 Q := by
  intro D hD
  let L' : Ad := Lp L D
  have hL' : ∀ a, L' a → L a ∨ H1 a = none := fun a z => z.elim .inl fun q => by subst q; exact .inr hD
  have sD : ∀ {H : Hp} {o : HO}, Same H1 H → Same H1 (upd H D o) := fun {H o} s b u q => by
    rw [upd_ne (ne_of_none q hD)]
    exact s b u q
  -- what holds between two turns
  let Iv : Nat → Hp → Prop := fun i H => i ≤ ds.length ∧ Same H1 H ∧ ∃ (acc : List V) (racc rest : List VV.D), H D = some (.lst acc) ∧ RpL K H L' racc acc ∧ lcGo t c e (wipeE ρ vs) (ds.drop i) = .ok rest ∧ racc ++ rest = rs
  refine ⟨fun i m H => m = ds.length - i ∧ Iv i H, ⟨ds.length, by simp, Nat.zero_le _, sD (Same.refl H1), [], [], rs, upd_same, .nil, hgo, rfl⟩, ?_⟩
  rintro i m H ⟨rfl, hi, s1, acc, racc, rest, hacc, racc', hrest, htot⟩
  have hSn : S H L' := it.keep H1 L H L' hS s1 hL'
  have lv' : LvOk H L' := fun a z => z.elim (fun q => re.lv.mono s1 a q) fun q => by subst q; rw [hacc]; simp
  have reH : RE K H L' ρ σ := by
    have r0 : RE K H L ρ σ := re.mono s1
    refine ⟨lv', r0.len, fun j x q => ?_⟩
    obtain ⟨o, e1, r⟩ := re.sl j x q
    exact ⟨o, e1, (r.lives (L' := L') hL').mono s1⟩
  by_cases hlt : i < ds.length
  · refine .inr ⟨it.go i H L' hSn hlt, Iv (i + 1), fun H' p' => ⟨ds.length - (i + 1), by omega, rfl, p'⟩, fun x H' y => ?_⟩
    obtain ⟨s2, hx⟩ := it.yld i H L' x H' hSn y
    have hdrop : ds.drop i = ds[i] :: ds.drop (i + 1) := List.drop_eq_getElem_cons hlt
    have rx := hx ds[i] (by simp [hlt])
    rw [hdrop] at hrest
    obtain ⟨ρ1, hb, hcase⟩ := lcOne_ok hrest
    refine gT_of ((reH.mono s2).wipe vs) rx hb fun σ1 re1 ch => ?_
    refine ⟨?_, L', ρ1, re1, ?_⟩
    · rw [← wipe_twice (σ := σ)]
      exact wipe_eq ch.ls fun j hj => ch.s j fun q => hj (hsl j q)
    · rcases hcase with ⟨hc, y, r, he, hk, hr⟩ | ⟨hc, hk⟩
      · rw [hc]
        intro H3 s3
        rw [if_pos rfl]
        refine ⟨L', ρ1, re1.mono s3, ?_⟩
        rw [he]
        intro H4 v s4 rv
        have s24 : Same H H4 := s2.trans (s3.trans s4)
        have hD4 : H4 D = some (.lst acc) := s24 _ _ hacc
        have la : acc.length = racc.length := racc'.length.symm
        subst hr
        refine ⟨acc, hD4, ?_, hlt, sD (s1.trans s24), acc ++ [v], racc ++ [y], r, upd_same, ?_, hk, by rw [← htot]; simp⟩
        · rw [la]
          have := congrArg List.length htot
          simp only [List.length_append, List.length_cons] at this
          omega
        · exact RpL.upd hD4 trivial (.inr rfl) ((racc'.mono s24).append (.cons rv .nil))
      · rw [hc]
        intro H3 s3
        rw [if_neg (by decide)]
        have s23 : Same H H3 := s2.trans s3
        exact ⟨hlt, s1.trans s23, acc, racc, rest, s23 _ _ hacc, racc'.mono s23, hk, htot⟩
  · have e : i = ds.length := by omega
    subst e
    rw [List.drop_length] at hrest
    cases hrest
    rw [List.append_nil] at htot
    subst htot
    exact .inl ⟨it.stop _ H L' hSn (Nat.le_refl _), hQ D H hD s1 (.lst hacc racc')⟩
theorem tLc_of {K : PySem.W.Frag} {fi : IF} {t : Tg} {c e : EF} {vs : List Nat} (hsl : ∀ i ∈ slotsT t, i ∈ vs) : ∀ σ H Q, tN K W (eLc vs fi t c e) σ H Q → tLc (tI K W fi) (gT K t) (tT K WF c) (tE K WF e) vs σ H Q := fun σ H Q ⟨L, ρ, re, p⟩ => by
  refine ⟨L, ρ, re, ?_⟩
  unfold eLc at p
  cases hf : fi ρ with
  | bad => rw [hf] at p; exact p
  | exc c fs => rw [hf] at p; exact p
  | ok ds =>
    rw [hf] at p
    simp only [RL.bind_ok] at p
    cases hg : lcGo t c e (wipeE ρ vs) ds with
    | bad => rw [hg] at p; exact p.elim
    | exc c' fs =>
      have aux : ∀ ds : List D, ∀ c' fs, lcGo t c e (wipeE ρ vs) ds ≠ .exc c' fs := by
        intro ds
        induction ds with
        | nil => intro c' fs h; cases h
        | cons d ds ih =>
          intro c' fs h
          simp only [lcGo] at h
          unfold lcOne at h
          cases hb : bindT t d (wipeE ρ vs) with
          | none => exact absurd h (by rw [hb]; simp)
          | some ρ1 =>
            rw [hb] at h
            cases hc : c ρ1 with
            | bad => simp only [hc] at h; cases h
            | exc c fs => simp only [hc] at h; cases h
            | ok b =>
              simp only [hc] at h
              cases b with
              | bool b =>
                cases b with
                | true =>
                  cases he : e ρ1 with
                  | bad => simp only [he] at h; cases h
                  | exc c fs => simp only [he] at h; cases h
                  | ok y =>
                    simp only [he] at h
                    cases hk : lcGo t c e (wipeE ρ vs) ds with
                    | bad => rw [hk] at h; cases h
                    | exc c' fs' => exact ih _ _ hk
                    | ok r => rw [hk] at h; cases h
                | false => exact ih _ _ h
              | _ => cases h
      exact (aux _ _ _ hg).elim
    | ok rs =>
      rw [hg] at p
      simp only [RL.bind_ok] at p
      unfold lstR at p
      split at p
      · rename_i hz
        intro J S H1 s1 it hS
        exact lc_loop (re.mono s1) it hS hsl hg hz fun D H' hD s' ow => p H' D (s1.trans s') (s1.free hD) ow
      · exact p.elim
theorem sn_lc {elt tg iter : Expr} {ifs : List Expr} {scope : Scope} {own : List (Str × Nat)} {pos : Pos} {fi : IF} {t : Tg} {c e : EF} (hN : X.N.Nodup) (hi : SI X W tg iter fi) (ok : BlkOk X.N X.env.scope scope own)
    (hg : ∀ (s : Shared) (H : Hp) (C : Addr) (cl : List (Str × Addr)) (fp : List Addr), PG (X.blk s H scope (compEnvC scope cl C X.env) fp) tg (gT X.K t)) (ht : ∀ (s : Shared) (H : Hp) (C : Addr) (cl : List (Str × Addr)) (fp : List Addr), STs (X.blk s H scope (compEnvC scope cl C X.env) fp) ifs c)
    (he : ∀ (s : Shared) (H : Hp) (C : Addr) (cl : List (Str × Addr)) (fp : List Addr), SE (X.blk s H scope (compEnvC scope cl C X.env) fp) WF elt e) (hsl : ∀ i ∈ slotsT t, i ∈ own.map (·.2) := by decide) (hc : X.calm = true := by rfl) (hs : ∀ x, foldedSetIterable iter X.env x = pure x := by intro _; rfl) :
    SN X W (.ListComp elt [⟨tg, iter, ifs, 0⟩] scope pos) (eLc (own.map (·.2)) fi t c e) := (pe_lc hc hN hi ok hg ht he hs).weak (tLc_of hsl)
end
end VV

set_option Elab.async false
set_option linter.all false
set_option maxRecDepth 100000
set_option maxHeartbeats 4000000
/-! VVi: statements. -/
namespace VV
open PySem PySem.Spec L2
open PyProof.Rows hiding St

/-! ### the frame: its slots, the lists and dicts that it alone holds (α: slot to address); H0, Lo: the heap at the entry and what others hold -/
def Lv (Lo : Ad) (α : Nat → Option Addr) : Ad := fun a => Lo a ∨ ∃ i, α i = some a
/-- where α keeps the address of a row of the grid of a slot -/
def vix (i k : Nat) : Nat := (k + 1) * 1000 + i
theorem vix_inj {i i' k k' : Nat} (h : i < 1000) (h' : i' < 1000) (e : vix i k = vix i' k') : i = i' ∧ k = k' := by
  unfold vix at e
  omega
theorem vix_ge (i k : Nat) : 1000 ≤ vix i k := by
  unfold vix
  omega
structure RSt (K : PySem.W.Frag) (H0 : Hp) (Lo : Ad) (ρ : En) (α : Nat → Option Addr) (σ : St) (H : Hp) : Prop where
  re : RE K H (Lv Lo α) ρ σ
  same : Same H0 H
  lo : LvOk H0 Lo
  new : ∀ i a, α i = some a → H0 a = none
  inj : ∀ i j a, α i = some a → α j = some a → i = j
  own : ∀ i d, ρ[i]? = some (some (.own d)) → ∃ a, α i = some a ∧ σ[i]? = some (some (.ref a)) ∧ Ow K H (Lv Lo α) d a
  sm : ρ.length ≤ 1000
  grd : ∀ i rows, ρ[i]? = some (some (.grid rows)) → ∃ a bs, α i = some a ∧ σ[i]? = some (some (.ref a)) ∧ (∀ k b, bs[k]? = some b → α (vix i k) = some b) ∧ Og K H (Lv Lo α) rows a bs
def Evo (K : PySem.W.Frag) (Lo : Ad) (H : Hp) (α : Nat → Option Addr) (H' : Hp) (α' : Nat → Option Addr) : Prop := ∀ d v, Rp K H (Lv Lo α) d v → Rp K H' (Lv Lo α') d v
theorem Evo.refl {K : PySem.W.Frag} {Lo : Ad} {H : Hp} {α : Nat → Option Addr} : Evo K Lo H α H α := fun _ _ h => h
theorem Evo.trans {K : PySem.W.Frag} {Lo : Ad} {H H1 H2 : Hp} {α α1 α2 : Nat → Option Addr} (a : Evo K Lo H α H1 α1) (b : Evo K Lo H1 α1 H2 α2) : Evo K Lo H α H2 α2 := fun d v h => b d v (a d v h)
theorem Evo.of_same {K : PySem.W.Frag} {Lo : Ad} {H H' : Hp} {α : Nat → Option Addr} (s : Same H H') : Evo K Lo H α H' α := fun d v h => h.mono s
def rms (α : Nat → Option Addr) (is : List Nat) : Nat → Option Addr := fun j => if j ∈ is ∧ j < 1000 then none else α j
section
variable {K : PySem.W.Frag} {H0 H H' : Hp} {Lo : Ad} {ρ ρ1 : En} {α : Nat → Option Addr} {σ σ1 : St}
theorem rms_some {is : List Nat} {j : Nat} {a : Addr} (h : rms α is j = some a) : α j = some a ∧ ¬ (j ∈ is ∧ j < 1000) := by
  unfold rms at h
  split at h
  · cases h
  · exact ⟨h, by assumption⟩
theorem Lv_rms {is : List Nat} (a : Addr) (h : Lv Lo (rms α is) a) : Lv Lo α a := h.elim .inl fun ⟨i, e⟩ => .inr ⟨i, (rms_some e).1⟩
theorem RSt.mono (h : RSt K H0 Lo ρ α σ H) (s : Same H H') : RSt K H0 Lo ρ α σ H' :=
  ⟨h.re.mono s, h.same.trans s, h.lo, h.new, h.inj, fun i d e => let ⟨a, e1, e2, o⟩ := h.own i d e; ⟨a, e1, e2, o.mono s⟩, h.sm, fun i rows e => let ⟨a, bs, e1, e2, e3, o⟩ := h.grd i rows e; ⟨a, bs, e1, e2, e3, o.mono s⟩⟩
theorem rms_far {is : List Nat} {i k : Nat} : rms α is (vix i k) = α (vix i k) := by
  unfold rms
  rw [if_neg (fun z => absurd z.2 (Nat.not_lt.mpr (vix_ge i k)))]
theorem rms_off {is : List Nat} {i : Nat} (h : i ∉ is) : rms α is i = α i := by
  unfold rms
  rw [if_neg fun z => h z.1]
theorem Evo.rms (is : List Nat) : Evo K Lo H α H (rms α is) := fun d v h => h.lives fun a z => .inl (Lv_rms a z)
/-- slots take values -/
theorem RSt.ch {is : List Nat} (h : RSt K H0 Lo ρ α σ H) (re : RE K H (Lv Lo α) ρ1 σ1) (c : Ch is ρ ρ1 σ σ1) : RSt K H0 Lo ρ1 (VV.rms α is) σ1 H := by
  refine ⟨re.lives (fun a z => .inl (Lv_rms a z)) (fun a z => h.re.lv a (Lv_rms a z)), h.same, h.lo, fun i a e => h.new i a (rms_some e).1, fun i j a e1 e2 => h.inj i j a (rms_some e1).1 (rms_some e2).1, fun i d e => ?_, by rw [c.lr]; exact h.sm, fun i rows e => ?_⟩
  · by_cases hi : i ∈ is
    · exact (c.v i hi d e).elim
    · rw [c.r i hi] at e
      obtain ⟨a, e1, e2, o⟩ := h.own i d e
      exact ⟨a, (rms_off hi).trans e1, by rw [c.s i hi]; exact e2, o.lives fun a z => .inl (Lv_rms a z)⟩
  · by_cases hi : i ∈ is
    · exact (c.g i hi rows e).elim
    · rw [c.r i hi] at e
      obtain ⟨a, bs, e1, e2, e3, o⟩ := h.grd i rows e
      exact ⟨a, bs, (rms_off hi).trans e1, by rw [c.s i hi]; exact e2, fun k b q => rms_far.trans (e3 k b q), o.lives fun a z => .inl (Lv_rms a z)⟩
theorem RSt.set {i : Nat} {d : D} {v : V} (h : RSt K H0 Lo ρ α σ H) (r : Rp K H (Lv Lo α) d v) : RSt K H0 Lo (ρ.set i (some (.val d))) (VV.rms α [i]) (σ.set i (some v)) H := by
  refine h.ch (h.re.set r) ⟨by simp, by simp, fun j hj => ?_, fun j hj => ?_, fun j hj d' z => ?_, fun j hj d' z => ?_⟩
  · exact List.getElem?_set_ne (fun e => hj (by simp [e]))
  · exact List.getElem?_set_ne (fun e => hj (by simp [e]))
  all_goals
    have e : j = i := by simpa using hj
    subst e
    by_cases hi : j < ρ.length
    · rw [List.getElem?_set_self hi] at z
      cases z
    · rw [List.getElem?_eq_none (by simpa using hi)] at z
      cases z
/-- a slot takes a new list or dict -/
theorem RSt.setOwn {i : Nat} {d : D} {a : Addr} {H1 : Hp} (i1 : i < 1000) (h : RSt K H0 Lo ρ α σ H) (s : Same H H1) (n : H a = none) (o : Ow K H1 (Lp (Lv Lo α) a) d a) :
    RSt K H0 Lo (ρ.set i (some (.own d))) (fun j => if j = i then some a else α j) (σ.set i (some (.ref a))) H1 ∧ Evo K Lo H α H1 (fun j => if j = i then some a else α j) := by
  have na : ¬ Lv Lo α a := fun z => h.re.lv a z n
  have hL : ∀ z, Lv Lo (fun j => if j = i then some a else α j) z → Lp (Lv Lo α) a z := fun z q => by
    rcases q with q | ⟨j, q⟩
    · exact .inl (.inl q)
    · dsimp only at q
      split at q
      · cases q; exact .inr rfl
      · exact .inl (.inr ⟨j, q⟩)
  have hL2 : ∀ z, Lv Lo (fun j => if j = i then some a else α j) z → Lv Lo α z ∨ H z = none := fun z q => (hL z q).elim .inl fun e => by subst e; exact .inr n
  have ev : Evo K Lo H α H1 (fun j => if j = i then some a else α j) := fun d v r => (r.lives hL2).mono s
  have o' : Ow K H1 (Lv Lo (fun j => if j = i then some a else α j)) d a := o.lives fun z q => .inl (hL z q)
  have nn : H1 a ≠ none := by obtain ⟨ob, e, _⟩ := o.chg; rw [e]; simp
  refine ⟨⟨⟨fun z q => ?_, by simp [h.re.len], fun j x e => ?_⟩, h.same.trans s, h.lo, fun j z e => ?_, fun j l z e1 e2 => ?_, fun j d' e => ?_, by simpa using h.sm, fun j rows e => ?_⟩, ev⟩
  · rcases hL z q with q | e
    · exact h.re.lv.mono s z q
    · subst e; exact nn
  · by_cases hj : i = j
    · subst hj
      by_cases hi : i < ρ.length
      · rw [List.getElem?_set_self hi] at e
        cases e
        exact ⟨_, List.getElem?_set_self (by rw [← h.re.len]; exact hi), a, rfl, o'⟩
      · rw [List.getElem?_eq_none (by simpa using hi)] at e
        cases e
    · rw [List.getElem?_set_ne hj] at e
      obtain ⟨ob, e1, r⟩ := h.re.sl j x e
      exact ⟨ob, by rw [List.getElem?_set_ne hj]; exact e1, (r.lives hL2).mono s⟩
  · split at e
    · cases e; exact h.same.free n
    · exact h.new j z e
  · split at e1
    · cases e1
      split at e2
      · rename_i x y; rw [x, y]
      · exact (na (.inr ⟨l, e2⟩)).elim
    · split at e2
      · cases e2; exact (na (.inr ⟨j, e1⟩)).elim
      · exact h.inj j l z e1 e2
  · by_cases hj : i = j
    · subst hj
      by_cases hi : i < ρ.length
      · rw [List.getElem?_set_self hi] at e
        cases e
        exact ⟨a, by simp, List.getElem?_set_self (by rw [← h.re.len]; exact hi), o'⟩
      · rw [List.getElem?_eq_none (by simpa using hi)] at e
        cases e
    · rw [List.getElem?_set_ne hj] at e
      obtain ⟨b, e1, e2, ob⟩ := h.own j d' e
      refine ⟨b, ?_, by rw [List.getElem?_set_ne hj]; exact e2, (ob.lives hL2).mono s⟩
      rw [if_neg (Ne.symm hj)]
      exact e1
  · by_cases hj : i = j
    · subst hj
      by_cases hi : i < ρ.length
      · rw [List.getElem?_set_self hi] at e
        cases e
      · rw [List.getElem?_eq_none (by simpa using hi)] at e
        cases e
    · rw [List.getElem?_set_ne hj] at e
      obtain ⟨b, bs, e1, e2, e3, og⟩ := h.grd j rows e
      refine ⟨b, bs, ?_, by rw [List.getElem?_set_ne hj]; exact e2, fun k c q => ?_, (og.lives hL2).mono s⟩
      · rw [if_neg (Ne.symm hj)]
        exact e1
      · rw [if_neg (fun z => absurd (vix_ge j k) (by omega))]
        exact e3 k c q
/-- what a slot holds is changed -/
theorem RSt.write {i : Nat} {d d' : D} {a : Addr} {o' : HO} (h : RSt K H0 Lo ρ α σ H) (hi : ρ[i]? = some (some (.own d))) (ha : σ[i]? = some (some (.ref a))) (o : Ow K (upd H a o') (Lv Lo α) d' a) :
    RSt K H0 Lo (ρ.set i (some (.own d'))) α σ (upd H a o') ∧ Evo K Lo H α (upd H a o') α := by
  obtain ⟨b, e1, e2, ob⟩ := h.own i d hi
  have eb : b = a := by rw [ha] at e2; cases e2; rfl
  subst eb
  obtain ⟨oo, eo, ch⟩ := ob.chg
  have hL : Lv Lo α b := .inr ⟨i, e1⟩
  have hlt : i < ρ.length := by
    rcases Nat.lt_or_ge i ρ.length with q | q
    · exact q
    · rw [List.getElem?_eq_none q] at hi; cases hi
  have far : ∀ (j : Nat) {bs : List Addr}, (∀ k b', bs[k]? = some b' → α (vix j k) = some b') → ∀ b' ∈ bs, b' ≠ b := fun j bs hb b' m z => by
    subst z
    obtain ⟨k, hk⟩ := List.mem_iff_getElem?.mp m
    have q1 := h.inj _ _ _ e1 (hb k b' hk)
    have q2 := vix_ge j k
    have q3 := h.sm
    omega
  refine ⟨⟨⟨fun z q => ?_, by simp [h.re.len], fun j x e => ?_⟩, fun c u q => ?_, h.lo, h.new, h.inj, fun j d2 e => ?_, by simpa using h.sm, fun j rows e => ?_⟩, fun d v r => r.upd eo ch hL⟩
  · by_cases hz : z = b
    · subst hz; rw [upd_same]; simp
    · rw [upd_ne hz]; exact h.re.lv z q
  · by_cases hj : i = j
    · subst hj
      rw [List.getElem?_set_self hlt] at e
      cases e
      exact ⟨_, ha, b, rfl, o⟩
    · rw [List.getElem?_set_ne hj] at e
      obtain ⟨w, f1, r⟩ := h.re.sl j x e
      refine ⟨w, f1, ?_⟩
      cases x with
      | val d3 => obtain ⟨v, g1, g2⟩ := r; exact ⟨v, g1, g2.upd eo ch hL⟩
      | own d3 =>
        obtain ⟨c, g1, g2, g3⟩ := h.own j d3 e
        have nc : c ≠ b := fun z => by subst z; exact hj (h.inj i j c e1 g1)
        rw [f1] at g2
        cases g2
        exact ⟨c, rfl, g3.upd eo ch hL nc⟩
      | grid rows =>
        obtain ⟨c, bs, g1, g2, g3, g4⟩ := h.grd j rows e
        have nc : c ≠ b := fun z => by subst z; exact hj (h.inj i j c e1 g1)
        rw [f1] at g2
        cases g2
        exact ⟨c, bs, rfl, g4.upd eo ch hL nc (far j g3)⟩
  · have nb : c ≠ b := fun z => by subst z; rw [h.new i c e1] at q; cases q
    rw [upd_ne nb]
    exact h.same c u q
  · by_cases hj : i = j
    · subst hj
      rw [List.getElem?_set_self hlt] at e
      cases e
      exact ⟨b, e1, ha, o⟩
    · rw [List.getElem?_set_ne hj] at e
      obtain ⟨c, g1, g2, g3⟩ := h.own j d2 e
      have nc : c ≠ b := fun z => by subst z; exact hj (h.inj i j c e1 g1)
      exact ⟨c, g1, g2, g3.upd eo ch hL nc⟩
  · by_cases hj : i = j
    · subst hj
      rw [List.getElem?_set_self hlt] at e
      cases e
    · rw [List.getElem?_set_ne hj] at e
      obtain ⟨c, bs, g1, g2, g3, g4⟩ := h.grd j rows e
      have nc : c ≠ b := fun z => by subst z; exact hj (h.inj i j c e1 g1)
      exact ⟨c, bs, g1, g2, g3, g4.upd eo ch hL nc (far j g3)⟩
/-- a slot's list is a value from now on -/
theorem RSt.frz {i : Nat} {d : D} (h : RSt K H0 Lo ρ α σ H) (hi : ρ[i]? = some (some (.own d))) : RSt K H0 Lo (ρ.set i (some (.val d))) (VV.rms α [i]) σ H := by
  obtain ⟨a, e1, e2, ob⟩ := h.own i d hi
  have hlt : i < ρ.length := by
    rcases Nat.lt_or_ge i ρ.length with q | q
    · exact q
    · rw [List.getElem?_eq_none q] at hi; cases hi
  have hL : ∀ z, Lv Lo (VV.rms α [i]) z → Lv Lo α z ∨ H z = none := fun z q => .inl (Lv_rms z q)
  have na : ¬ Lv Lo (VV.rms α [i]) a := fun z => by
    rcases z with z | ⟨j, z⟩
    · exact h.lo a z (h.new i a e1)
    · obtain ⟨z1, z2⟩ := rms_some z
      have ej := h.inj i j a e1 z1
      have := h.sm
      exact z2 ⟨by simp [ej], by omega⟩
  refine ⟨⟨fun z q => h.re.lv z (Lv_rms z q), by simp [h.re.len], fun j x e => ?_⟩, h.same, h.lo, fun j z e => h.new j z (rms_some e).1, fun j l z f1 f2 => h.inj j l z (rms_some f1).1 (rms_some f2).1, fun j d2 e => ?_, by simpa using h.sm, fun j rows e => ?_⟩
  · by_cases hj : i = j
    · subst hj
      rw [List.getElem?_set_self hlt] at e
      cases e
      exact ⟨_, e2, _, rfl, (ob.lives hL).rp na⟩
    · rw [List.getElem?_set_ne hj] at e
      obtain ⟨w, f1, r⟩ := h.re.sl j x e
      exact ⟨w, f1, r.lives hL⟩
  · by_cases hj : i = j
    · subst hj
      rw [List.getElem?_set_self hlt] at e
      cases e
    · rw [List.getElem?_set_ne hj] at e
      obtain ⟨c, g1, g2, g3⟩ := h.own j d2 e
      exact ⟨c, (rms_off (by simp [Ne.symm hj])).trans g1, g2, g3.lives hL⟩
  · by_cases hj : i = j
    · subst hj
      rw [List.getElem?_set_self hlt] at e
      cases e
    · rw [List.getElem?_set_ne hj] at e
      obtain ⟨c, bs, g1, g2, g3, g4⟩ := h.grd j rows e
      exact ⟨c, bs, (rms_off (by simp [Ne.symm hj])).trans g1, g2, fun k b q => rms_far.trans (g3 k b q), g4.lives hL⟩
end
def PostS (K : PySem.W.Frag) (H0 : Hp) (Lo : Ad) (W : WX) (H : Hp) (α : Nat → Option Addr) (o : Out) (D : Ends) : Prop := match o with
  | .nx ρ' => ∀ α' σ' H', RSt K H0 Lo ρ' α' σ' H' → Evo K Lo H α H' α' → D.nx σ' H'
  | .rt d => ∀ H' v, Same H0 H' → Rp K H' Lo d v → D.rt v H'
  | .bk ρ' => ∀ α' σ' H', RSt K H0 Lo ρ' α' σ' H' → Evo K Lo H α H' α' → D.bk σ' H'
  | .ct ρ' => ∀ α' σ' H', RSt K H0 Lo ρ' α' σ' H' → Evo K Lo H α H' α' → D.ct σ' H'
  | .exc c fs ρ' => ∀ α' σ' H' x, RSt K H0 Lo ρ' α' σ' H' → Evo K Lo H α H' α' → XR K H' (Lv Lo α') fs x → W (.ref (He.ga K c)) x σ' H'
  | .bad => False
theorem PostS.evo {K : PySem.W.Frag} {H0 H H' : Hp} {Lo : Ad} {W : WX} {α α' : Nat → Option Addr} {o : Out} {D : Ends} (h : PostS K H0 Lo W H α o D) (e : Evo K Lo H α H' α') : PostS K H0 Lo W H' α' o D := by
  cases o with
  | nx ρ => exact fun a s H2 r e2 => h a s H2 r (e.trans e2)
  | rt d => exact h
  | bk ρ => exact fun a s H2 r e2 => h a s H2 r (e.trans e2)
  | ct ρ => exact fun a s H2 r e2 => h a s H2 r (e.trans e2)
  | exc c fs ρ => exact fun a s H2 x r e2 => h a s H2 x r (e.trans e2)
  | bad => exact h
def tS (K : PySem.W.Frag) (H0 : Hp) (Lo : Ad) (W : WX) (f : SF) : TS := fun D σ H => ∃ ρ α, RSt K H0 Lo ρ α σ H ∧ PostS K H0 Lo W H α (f ρ) D
abbrev SS (X : Cx) (W : WX) (st : Stmt) (f : SF) : Prop := ∀ (H0 : Hp) (Lo : Ad), PS X st (tS X.K H0 Lo W f)
abbrev SSs (X : Cx) (W : WX) (sts : List Stmt) (f : SF) : Prop := ∀ (H0 : Hp) (Lo : Ad), PSs X sts (tS X.K H0 Lo W f)
/-- an expression's result, then a statement's end -/
def Rs.out (r : Rs) (ρ : En) (k : D → Out) : Out := match r with
  | .ok d => k d
  | .exc c fs => .exc c fs ρ
  | .bad => .bad
@[simp] theorem Rs.out_ok (d : D) (ρ : En) (k : D → Out) : (Rs.ok d).out ρ k = k d := rfl
@[simp] theorem Rs.out_exc (c : Str) (fs : List (Str × D)) (ρ : En) (k : D → Out) : (Rs.exc c fs).out ρ k = .exc c fs ρ := rfl
@[simp] theorem Rs.out_bad (ρ : En) (k : D → Out) : Rs.bad.out ρ k = .bad := rfl
section
variable {K : PySem.W.Frag} {H0 H : Hp} {Lo : Ad} {W : WX} {ρ : En} {α : Nat → Option Addr} {σ : St} {r : Rs} {k : D → Out} {D : Ends} {R : VK}
theorem PostS.expr (rst : RSt K H0 Lo ρ α σ H) (h : PostS K H0 Lo W H α (r.out ρ k) D) (hk : ∀ d H1 v, Same H H1 → Rp K H1 (Lv Lo α) d v → RSt K H0 Lo ρ α σ H1 → PostS K H0 Lo W H1 α (k d) D → R v H1) : Post K W (Lv Lo α) σ H r R := by
  cases r with
  | ok d => exact fun H1 v s rv => hk d H1 v s rv (rst.mono s) (PostS.evo h (.of_same s))
  | exc c fs => exact fun H1 x s xr => h α σ H1 x (rst.mono s) (.of_same s) xr
  | bad => exact h
theorem PostS.exprB (rst : RSt K H0 Lo ρ α σ H) (h : PostS K H0 Lo W H α (r.out ρ k) D) (hk : ∀ d H1 v, Same H H1 → Rb K H1 (Lv Lo α) d v → RSt K H0 Lo ρ α σ H1 → PostS K H0 Lo W H1 α (k d) D → R v H1) : PostB K W (Lv Lo α) σ H r R := by
  cases r with
  | ok d => exact fun H1 v s rv => hk d H1 v s rv (rst.mono s) (PostS.evo h (.of_same s))
  | exc c fs => exact fun H1 x s xr => h α σ H1 x (rst.mono s) (.of_same s) xr
  | bad => exact h
theorem PostS.exprN (rst : RSt K H0 Lo ρ α σ H) (h : PostS K H0 Lo W H α (r.out ρ k) D) (hk : ∀ d H1 a, Same H H1 → H a = none → Ow K H1 (Lp (Lv Lo α) a) d a → PostS K H0 Lo W H α (k d) D → R (.ref a) H1) : PostN K W (Lv Lo α) σ H r R := by
  cases r with
  | ok d => exact fun H1 a s n o => hk d H1 a s n o h
  | exc c fs => exact fun H1 x s xr => h α σ H1 x (rst.mono s) (.of_same s) xr
  | bad => exact h
end
section
variable {X : Cx} {W : WX} {st : Stmt} {sts rest body : List Stmt} {f g : SF} {e a b c o : Expr} {ef eg : EF} {pos pos' : Pos} {i : Nat} {x : Str}
theorem _root_.L2.PS.weak {t t' : TS} (h : PS X st t) (hw : ∀ D σ H, t' D σ H → t D σ H) : PS X st t' := ⟨fun pn s σ H D I q => h.run pn s σ H D I (hw D σ H q)⟩
theorem _root_.L2.PSs.weak {t t' : TS} (h : PSs X sts t) (hw : ∀ D σ H, t' D σ H → t D σ H) : PSs X sts t' := ⟨fun pn s σ H D I q => h.run pn s σ H D I (hw D σ H q)⟩
def sNx : SF := fun ρ => .nx ρ
def sSeq (f g : SF) : SF := fun ρ => match f ρ with
  | .nx ρ' => g ρ'
  | o => o
theorem ss_nil : SSs X W [] sNx := fun H0 Lo => pss_nil.weak fun D σ H ⟨ρ, α, rst, p⟩ => p α σ H rst .refl
theorem ss_cons (h1 : SS X W st f) (h2 : SSs X W rest g) : SSs X W (st :: rest) (sSeq f g) := fun H0 Lo => (pss_cons (h1 H0 Lo) (h2 H0 Lo)).weak fun D σ H ⟨ρ, α, rst, p⟩ => by
  refine ⟨ρ, α, rst, ?_⟩
  unfold sSeq at p
  cases hf : f ρ with
  | nx ρ' => rw [hf] at p; exact fun α' σ' H' r ev => ⟨ρ', α', r, p.evo ev⟩
  | rt d => rw [hf] at p; exact p
  | bk ρ' => rw [hf] at p; exact p
  | ct ρ' => rw [hf] at p; exact p
  | exc c fs ρ' => rw [hf] at p; exact p
  | bad => rw [hf] at p; exact p
theorem ss_one (h1 : SS X W st f) : SSs X W [st] f := fun H0 Lo => pss_one (h1 H0 Lo)
def sFrz (i : Nat) (f : SF) : SF := fun ρ => match ρ[i]? with
  | some (some (.own d)) => f (ρ.set i (some (.val d)))
  | some (some (.val _)) => f ρ
  | _ => .bad
theorem ss_frz (i : Nat) (h : SSs X W sts f) : SSs X W sts (sFrz i f) := fun H0 Lo => (h H0 Lo).weak fun D σ H ⟨ρ, α, rst, p⟩ => by
  unfold sFrz at p
  cases hi : ρ[i]? with
  | none => simp only [hi] at p; exact p.elim
  | some q =>
    cases q with
    | none => simp only [hi] at p; exact p.elim
    | some q =>
      cases q with
      | own d => simp only [hi] at p; exact ⟨_, _, rst.frz hi, p.evo (Evo.rms [i])⟩
      | grid _ => simp only [hi] at p; exact p.elim
      | val d => simp only [hi] at p; exact ⟨_, _, rst, p⟩
theorem ss_pass : SS X W (.Pass pos) sNx := fun H0 Lo => ps_pass.weak fun D σ H ⟨ρ, α, rst, p⟩ => p α σ H rst .refl
def sBk : SF := fun ρ => .bk ρ
def sCt : SF := fun ρ => .ct ρ
theorem ss_break : SS X W (.Break pos) sBk := fun H0 Lo => ps_break.weak fun D σ H ⟨ρ, α, rst, p⟩ => p α σ H rst .refl
theorem ss_continue : SS X W (.Continue pos) sCt := fun H0 Lo => ps_continue.weak fun D σ H ⟨ρ, α, rst, p⟩ => p α σ H rst .refl
def sDrop (f : EF) : SF := fun ρ => (f ρ).out ρ fun _ => .nx ρ
theorem ss_drop (he : SE X W e ef) (hs : swapsWith e none pos.line X.env = pure false := by rfl) : SS X W (.Expr e pos) (sDrop ef) := fun H0 Lo => (ps_expr he hs).weak fun D σ H ⟨ρ, α, rst, p⟩ =>
  ⟨_, ρ, rst.re, p.expr rst fun d H1 v s r rst1 p1 => p1 α σ H1 rst1 .refl⟩
def sRet (f : EF) : SF := fun ρ => (f ρ).out ρ fun d => .rt d
theorem ss_ret (he : SE X W e ef) : SS X W (.Return (some e) pos) (sRet ef) := fun H0 Lo => (ps_ret he).weak fun D σ H ⟨ρ, α, rst, p⟩ =>
  ⟨_, ρ, rst.re, p.expr rst fun d H1 v s r rst1 p1 => p1 H1 v rst1.same (r.lives fun z q => .inl (.inl q))⟩
def sRetV (i : Nat) : SF := fun ρ => match ρ[i]? with
  | some (some (.own d)) => .rt d
  | some (some (.val d)) => .rt d
  | _ => .bad
theorem ss_retV (i : Nat) {x : Str} {p : Pos} (hN : X.N[i]? = some x := by rfl) (hv : Vis X.env.scope x := by first | exact Or.inl rfl | exact Or.inr (Or.inl rfl) | exact Or.inr (Or.inr rfl)) (hd : (x == ("__debug__" : Str)) = false := by decide)
    (hcd : (x == ("__classdict__" : Str)) = false := by decide) : SS X W (.Return (some (.Name x p)) pos) (sRetV i) := fun H0 Lo => (ps_ret (pe_var hN hv hd hcd)).weak fun D σ H ⟨ρ, α, rst, p⟩ => by
  unfold sRetV at p
  cases hi : ρ[i]? with
  | none => simp only [hi] at p; exact p.elim
  | some q =>
    cases q with
    | none => simp only [hi] at p; exact p.elim
    | some q =>
      cases q with
      | grid _ => simp only [hi] at p; exact p.elim
      | own d =>
        simp only [hi] at p
        obtain ⟨a, e1, e2, ob⟩ := rst.own i d hi
        exact ⟨.ref a, e2, p H _ rst.same ((ob.lives fun z q => .inl (.inl q)).rp fun z => rst.lo a z (rst.new i a e1))⟩
      | val d =>
        simp only [hi] at p
        obtain ⟨w, e1, v, e2, r⟩ := rst.re.sl i _ hi
        subst e2
        exact ⟨v, e1, p H _ rst.same (r.lives fun z q => .inl (.inl q))⟩
theorem ss_retN : SS X W (.Return none pos) (fun _ => .rt .none) := fun H0 Lo => ps_retN.weak fun D σ H ⟨ρ, α, rst, p⟩ => p H .non rst.same .non
def outIf (f g : Out) : D → Out
  | .bool true => f
  | .bool false => g
  | _ => .bad
def sIf (c : EF) (f g : SF) : SF := fun ρ => (c ρ).out ρ (outIf (f ρ) (g ρ))
theorem ss_if {sa sb : List Stmt} (hc : ST X W c ef) (ha : SSs X W sa f) (hb : SSs X W sb g) : SS X W (.If c sa sb pos) (sIf ef f g) := fun H0 Lo => (ps_if hc (ha H0 Lo) (hb H0 Lo)).weak fun D σ H ⟨ρ, α, rst, p⟩ => by
  refine ⟨_, ρ, rst.re, ?_⟩
  unfold sIf at p
  cases hr : ef ρ with
  | bad => rw [hr] at p; exact p
  | exc c fs => rw [hr] at p; exact fun H1 x s xr => p α σ H1 x (rst.mono s) (.of_same s) xr
  | ok d =>
    rw [hr] at p
    cases d with
    | bool k =>
      intro H1 s1
      have p1 := p.evo (.of_same s1)
      cases k with
      | true => rw [if_pos rfl]; exact ⟨ρ, α, rst.mono s1, p1⟩
      | false => rw [if_neg Bool.false_ne_true]; exact ⟨ρ, α, rst.mono s1, p1⟩
    | _ => exact p
/-! assignments -/
def outB (r : Option En) : Out := match r with
  | some ρ => .nx ρ
  | none => .bad
def sAsg (t : Tg) (f : EF) : SF := fun ρ => (f ρ).out ρ fun d => outB (bindT t d ρ)
theorem gT_st {K : PySem.W.Frag} {H0 H : Hp} {Lo : Ad} {t : Tg} {d : D} {v : V} {ρ : En} {α : Nat → Option Addr} {σ : St} {D : Ends} (rst : RSt K H0 Lo ρ α σ H) (r : Rp K H (Lv Lo α) d v) (p : PostS K H0 Lo W H α (outB (bindT t d ρ)) D) : gT K t v σ H D.nx := by
  unfold outB at p
  cases hb : bindT t d ρ with
  | none => rw [hb] at p; exact p.elim
  | some ρ1 => rw [hb] at p; exact gT_of rst.re r hb fun σ1 re1 ch => p _ σ1 H (rst.ch re1 ch) (Evo.rms _)
theorem ss_asg {tg : Expr} {t : Tg} (he : SE X W e ef) (hg : PG X tg (gT X.K t)) (hs : swapsWithSole [tg] e pos.line X.env = pure false := by rfl) (hw : swappedStores [tg] e X.env = pure none := by rfl)
    (h1 : (assignEach [tg] X.env).map (·.2) = [assign tg X.env] := by rfl) : SS X W (.Assign [tg] e pos) (sAsg t ef) := fun H0 Lo => (ps_asg he hg hs hw h1).weak fun D σ H ⟨ρ, α, rst, p⟩ =>
  ⟨_, ρ, rst.re, p.expr rst fun d H1 v s r rst1 p1 => gT_st rst1 r p1⟩
def sSet (i : Nat) (f : EF) : SF := fun ρ => (f ρ).out ρ fun d => .nx (ρ.set i (some (.val d)))
def sOwn (i : Nat) (f : EF) : SF := fun ρ => (f ρ).out ρ fun d => .nx (ρ.set i (some (.own d)))
theorem ss_set (hN : X.N.Nodup) (he : SE X W e ef) (hi : X.N[i]? = some x := by rfl) (hx : Loc X.env.scope x := by first | exact Or.inl rfl | exact Or.inr rfl) (hs : swapsWith e (some (.Name x pos')) pos.line X.env = pure false := by rfl) (hf : X.fn x = true ∨ X.env.scope.names.lookup x = some .local := by first | exact .inl rfl | exact .inr rfl) :
    SS X W (.Assign [.Name x pos'] e pos) (sSet i ef) := fun H0 Lo => (ps_set hN hi hx he hs hf).weak fun D σ H ⟨ρ, α, rst, p⟩ =>
  ⟨_, ρ, rst.re, p.expr rst fun d H1 v s r rst1 p1 => p1 _ _ H1 (rst1.set r) (Evo.rms _)⟩
theorem ss_own (hN : X.N.Nodup) (he : SN X W e ef) (hi : X.N[i]? = some x := by rfl) (hx : Loc X.env.scope x := by first | exact Or.inl rfl | exact Or.inr rfl) (hs : swapsWith e (some (.Name x pos')) pos.line X.env = pure false := by rfl) (hf : X.fn x = true ∨ X.env.scope.names.lookup x = some .local := by first | exact .inl rfl | exact .inr rfl) (i1 : i < 1000 := by decide) :
    SS X W (.Assign [.Name x pos'] e pos) (sOwn i ef) := fun H0 Lo => (ps_set hN hi hx he hs hf).weak fun D σ H ⟨ρ, α, rst, p⟩ =>
  ⟨_, ρ, rst.re, p.exprN rst fun d H1 a s n o p1 => let ⟨q1, q2⟩ := rst.setOwn i1 s n o; p1 _ _ H1 q1 q2⟩
/-- name = [..] on one line, the name a local: a value | a list that the frame holds -/
theorem ss_setLc {elt tg iter : Expr} {ifs : List Expr} {scope : Scope} {own : List (Str × Nat)} {py spos : Pos} {fi : IF} {t : Tg} {cf f : EF} (hN : X.N.Nodup) (hi : SI X W tg iter fi) (ok : BlkOk X.N X.env.scope scope own)
    (hg : ∀ (s : Shared) (H : Hp) (C : Addr) (cl : List (Str × Addr)) (fp : List Addr), PG (X.blk s H scope (compEnvC scope cl C X.env) fp) tg (gT X.K t)) (ht : ∀ (s : Shared) (H : Hp) (C : Addr) (cl : List (Str × Addr)) (fp : List Addr), STs (X.blk s H scope (compEnvC scope cl C X.env) fp) ifs cf)
    (he : ∀ (s : Shared) (H : Hp) (C : Addr) (cl : List (Str × Addr)) (fp : List Addr), SE (X.blk s H scope (compEnvC scope cl C X.env) fp) WF elt f) (hsw : swapsWith (.ListComp elt [⟨tg, iter, ifs, 0⟩] scope pos) (some (.Name x py)) spos.line X.env = pure true)
    (hsl : ∀ i ∈ slotsT t, i ∈ own.map (·.2) := by decide) (hy : X.N[i]? = some x := by rfl) (hyl : X.env.scope.names.lookup x = some .local := by rfl) (hc : X.calm = true := by rfl) (hs : ∀ x, foldedSetIterable iter X.env x = pure x := by intro _; rfl) :
    SS X W (.Assign [.Name x py] (.ListComp elt [⟨tg, iter, ifs, 0⟩] scope pos) spos) (sSet i (eLc (own.map (·.2)) fi t cf f)) := fun H0 Lo => (ps_setLc hc hN hy hyl hsw hi ok hg ht he hs).weak fun D σ H ⟨ρ, α, rst, p⟩ =>
  tLc_of hsl σ H _ ⟨_, ρ, rst.re, p.exprN rst fun d H1 a s n o p1 => (p1.evo (.of_same s)) _ _ H1 ((rst.mono s).set ((o.lives fun z q => .inl (.inl q)).rp fun z => rst.re.lv a z n)) (Evo.rms _)⟩
theorem ss_ownLc {elt tg iter : Expr} {ifs : List Expr} {scope : Scope} {own : List (Str × Nat)} {py spos : Pos} {fi : IF} {t : Tg} {cf f : EF} (hN : X.N.Nodup) (hi : SI X W tg iter fi) (ok : BlkOk X.N X.env.scope scope own)
    (hg : ∀ (s : Shared) (H : Hp) (C : Addr) (cl : List (Str × Addr)) (fp : List Addr), PG (X.blk s H scope (compEnvC scope cl C X.env) fp) tg (gT X.K t)) (ht : ∀ (s : Shared) (H : Hp) (C : Addr) (cl : List (Str × Addr)) (fp : List Addr), STs (X.blk s H scope (compEnvC scope cl C X.env) fp) ifs cf)
    (he : ∀ (s : Shared) (H : Hp) (C : Addr) (cl : List (Str × Addr)) (fp : List Addr), SE (X.blk s H scope (compEnvC scope cl C X.env) fp) WF elt f) (hsw : swapsWith (.ListComp elt [⟨tg, iter, ifs, 0⟩] scope pos) (some (.Name x py)) spos.line X.env = pure true)
    (hsl : ∀ i ∈ slotsT t, i ∈ own.map (·.2) := by decide) (hy : X.N[i]? = some x := by rfl) (hyl : X.env.scope.names.lookup x = some .local := by rfl) (hc : X.calm = true := by rfl) (hs : ∀ x, foldedSetIterable iter X.env x = pure x := by intro _; rfl) (i1 : i < 1000 := by decide) :
    SS X W (.Assign [.Name x py] (.ListComp elt [⟨tg, iter, ifs, 0⟩] scope pos) spos) (sOwn i (eLc (own.map (·.2)) fi t cf f)) := fun H0 Lo => (ps_setLc hc hN hy hyl hsw hi ok hg ht he hs).weak fun D σ H ⟨ρ, α, rst, p⟩ =>
  tLc_of hsl σ H _ ⟨_, ρ, rst.re, p.exprN rst fun d H1 a s n o p1 => let ⟨q1, q2⟩ := rst.setOwn i1 s n o; p1 _ _ H1 q1 q2⟩
end
end VV

set_option Elab.async false
set_option linter.all false
set_option maxRecDepth 100000
set_option maxHeartbeats 4000000
/-! VVj: lists changed, loops, raise, and a def's promise. -/
namespace VV
open PySem PySem.Spec L2
open PyProof.Rows hiding St

section
variable {X : Cx} {W : WX} {st : Stmt} {sts rest body : List Stmt} {f g : SF} {e a b c o : Expr} {ef eg : EF} {pos pos' : Pos} {i : Nat} {x : Str}
/-! ### lists that the frame holds -/
def ownL (ρ : En) (i : Nat) (k : List D → Out) : Out := match ρ[i]? with
  | some (some (.own (.list ds))) => k ds
  | _ => .bad
theorem PostS.ownL {K : PySem.W.Frag} {H0 H : Hp} {Lo : Ad} {ρ : En} {α : Nat → Option Addr} {σ : St} {k : List D → Out} {Dn : Ends} (rst : RSt K H0 Lo ρ α σ H) (p : PostS K H0 Lo W H α (VV.ownL ρ i k) Dn) :
    ∃ ds a vs, ρ[i]? = some (some (.own (.list ds))) ∧ σ[i]? = some (some (.ref a)) ∧ H a = some (.lst vs) ∧ RpL K H (Lv Lo α) ds vs ∧ PostS K H0 Lo W H α (k ds) Dn ∧ Lv Lo α a := by
  unfold VV.ownL at p
  cases hi : ρ[i]? with
  | none => simp only [hi] at p; exact p.elim
  | some q =>
    cases q with
    | none => simp only [hi] at p; exact p.elim
    | some q =>
      cases q with
      | val d => simp only [hi] at p; exact p.elim
      | grid _ => simp only [hi] at p; exact p.elim
      | own d =>
        cases d with
        | list ds =>
          simp only [hi] at p
          obtain ⟨a, e1, e2, ob⟩ := rst.own i _ hi
          cases ob with
          | lst h1 r => exact ⟨ds, a, _, rfl, e2, h1, r, p, .inr ⟨i, e1⟩⟩
        | _ => simp only [hi] at p; exact p.elim
def sApp (i : Nat) (f : EF) : SF := fun ρ => ownL ρ i fun ds => (f ρ).out ρ fun d => if ds.length < sizeLine then .nx (ρ.set i (some (.own (.list (ds ++ [d]))))) else .bad
theorem ss_app (i : Nat) {x : Str} {p apos cpos : Pos} (he : SE X W e ef) (hN : X.N[i]? = some x := by rfl) (hv : Vis X.env.scope x := by first | exact Or.inl rfl | exact Or.inr (Or.inl rfl) | exact Or.inr (Or.inr rfl)) (hd : (x == ("__debug__" : Str)) = false := by decide)
    (hcd : (x == ("__classdict__" : Str)) = false := by decide) (hbase : attributeBase (.Name x p) "append" X.env (eval (.Name x p) X.env) = eval (.Name x p) X.env := by rfl)
    (hfew : ((backTo cpos (starEach (e :: []) X.env)).all (fun x => !x.1) && (backToKw cpos (keywordEach [] X.env)).all (fun x => x.1.isSome) && decide ((e :: []).length + ([] : List Keyword).length + (if ([] : List Keyword).isEmpty then 0 else 1) < 30)) = true := by rfl)
    (hline : (apos.endLine == cpos.line) = true := by rfl) (hs : starEach (e :: []) X.env = (false, eval e X.env) :: starEach [] X.env := by rfl) (hplain : (backTo cpos (starEach [] X.env)).any (·.1) = false := by rfl) :
    SS X W (.Expr (.Call (.Attribute (.Name x p) "append" apos) [e] [] cpos) pos) (sApp i ef) := fun H0 Lo =>
  (ps_expr (pe_bm PySem.F.plainAttrs_list PySem.F.slot_list_append PySem.F.type_list_append mt_append (pe_var hN hv hd hcd) (pa_cons he pa_nil hs) hbase hfew hline hs hplain)).weak fun D σ H ⟨ρ, α, rst, p⟩ => by
  obtain ⟨ds, l, vs, h1, h2, h3, rl, p, hL⟩ := PostS.ownL rst p
  refine ⟨.ref l, h2, .inl ⟨rfl, vs, SqL.of h3⟩, _, ρ, rst.re, p.expr rst fun d H1 v s r rst1 p1 => ?_⟩
  split at p1
  · rename_i hz
    rw [rl.length] at hz
    refine ⟨l, vs, v, rfl, rfl, s _ _ h3, hz, ?_⟩
    have hl3 := s _ _ h3
    obtain ⟨q1, q2⟩ := rst1.write (d' := .list (ds ++ [d])) (o' := .lst (vs ++ [v])) h1 h2 (.lst upd_same (RpL.upd hl3 trivial hL ((rl.mono s).append (.cons r .nil))))
    exact p1 α σ _ q1 q2
  · exact p1.elim
def sExt (i : Nat) (f : EF) : SF := fun ρ => ownL ρ i fun ds => (f ρ).out ρ fun d => match d with
  | .list es => if ds.length + es.length ≤ sizeLine then .nx (ρ.set i (some (.own (.list (ds ++ es))))) else .bad
  | _ => .bad
theorem ss_ext (i : Nat) {x : Str} {p apos cpos : Pos} (he : SB X W e ef) (hN : X.N[i]? = some x := by rfl) (hv : Vis X.env.scope x := by first | exact Or.inl rfl | exact Or.inr (Or.inl rfl) | exact Or.inr (Or.inr rfl)) (hd : (x == ("__debug__" : Str)) = false := by decide)
    (hcd : (x == ("__classdict__" : Str)) = false := by decide) (hbase : attributeBase (.Name x p) "extend" X.env (eval (.Name x p) X.env) = eval (.Name x p) X.env := by rfl)
    (hfew : ((backTo cpos (starEach (e :: []) X.env)).all (fun x => !x.1) && (backToKw cpos (keywordEach [] X.env)).all (fun x => x.1.isSome) && decide ((e :: []).length + ([] : List Keyword).length + (if ([] : List Keyword).isEmpty then 0 else 1) < 30)) = true := by rfl)
    (hline : (apos.endLine == cpos.line) = true := by rfl) (hs : starEach (e :: []) X.env = (false, eval e X.env) :: starEach [] X.env := by rfl) (hplain : (backTo cpos (starEach [] X.env)).any (·.1) = false := by rfl) :
    SS X W (.Expr (.Call (.Attribute (.Name x p) "extend" apos) [e] [] cpos) pos) (sExt i ef) := fun H0 Lo =>
  (ps_expr (pe_bm PySem.F.plainAttrs_list PySem.F.slot_list_extend PySem.F.type_list_extend mt_extend (pe_var hN hv hd hcd) (pa_cons he pa_nil hs) hbase hfew hline hs hplain)).weak fun D σ H ⟨ρ, α, rst, p⟩ => by
  obtain ⟨ds, l, vs, h1, h2, h3, rl, p, hL⟩ := PostS.ownL rst p
  refine ⟨.ref l, h2, .inl ⟨rfl, vs, SqL.of h3⟩, _, ρ, rst.re, p.exprB rst fun d H1 v s r rst1 p1 => ?_⟩
  cases d with
  | list es =>
    simp only at p1
    split at p1
    · rename_i hz
      obtain ⟨b, us, rfl, hb, rb⟩ := r.lstV
      rw [rl.length, rb.length] at hz
      have hl3 := s _ _ h3
      refine ⟨l, b, vs, us, rfl, rfl, hl3, hb, hz, ?_⟩
      obtain ⟨q1, q2⟩ := rst1.write (d' := .list (ds ++ es)) (o' := .lst (vs ++ us)) h1 h2 (.lst upd_same (RpL.upd hl3 trivial hL ((rl.mono s).append rb)))
      exact p1 α σ _ q1 q2
    · exact p1.elim
  | _ => exact p1.elim
/-- x[k] = v -/
def sPutL (i : Nat) (fk fv : EF) : SF := fun ρ => (fv ρ).out ρ fun v => ownL ρ i fun ds => (fk ρ).out ρ fun k => match k with
  | .int j => (match ixN ds.length j with
    | some n => .nx (ρ.set i (some (.own (.list (ds.set n v)))))
    | none => .bad)
  | _ => .bad
theorem ss_putL (i : Nat) {x : Str} {p tp : Pos} (hk : SB X W a ef) (he : SE X W e eg) (hN : X.N[i]? = some x := by rfl) (hv : Vis X.env.scope x := by first | exact Or.inl rfl | exact Or.inr (Or.inl rfl) | exact Or.inr (Or.inr rfl)) (hd : (x == ("__debug__" : Str)) = false := by decide)
    (hcd : (x == ("__classdict__" : Str)) = false := by decide)
    (ha : ∀ v, assign (.Subscript (.Name x p) a tp) X.env v = (do
      let ov ← holding [v] (eval (.Name x p) X.env)
      let iv ← holding [v, ov] (eval a X.env)
      standAt tp; holding [v, ov, iv] (setItem ov iv v); release [v, ov, iv] []) := by intro _; rfl)
    (hs : swapsWithSole [.Subscript (.Name x p) a tp] e pos.line X.env = pure false := by rfl) (hw : swappedStores [.Subscript (.Name x p) a tp] e X.env = pure none := by rfl)
    (h1 : (assignEach [.Subscript (.Name x p) a tp] X.env).map (·.2) = [assign (.Subscript (.Name x p) a tp) X.env] := by rfl) :
    SS X W (.Assign [.Subscript (.Name x p) a tp] e pos) (sPutL i ef eg) := fun H0 Lo =>
  (ps_asg he (pg_sub (pe_var hN hv hd hcd) hk set_list ha) hs hw h1).weak fun D σ H ⟨ρ, α, rst, p⟩ => by
  refine ⟨_, ρ, rst.re, p.expr rst fun dv H1 v s r rst1 p1 => ?_⟩
  obtain ⟨ds, l, vs, q1, q2, q3, rl, p2, hL⟩ := PostS.ownL rst1 p1
  refine ⟨.ref l, q2, _, ρ, rst1.re, p2.exprB rst1 fun dk H2 k s2 rk rst2 p3 => ?_⟩
  cases dk with
  | int j =>
    simp only at p3
    cases hn : ixN ds.length j with
    | none => simp only [hn] at p3; exact p3.elim
    | some n =>
      simp only [hn] at p3
      obtain rfl := rk.intV
      have hl3 := s2 _ _ q3
      refine ⟨l, vs, j, n, rfl, rfl, hl3, by rw [← rl.length]; exact hn, ?_⟩
      obtain ⟨w1, w2⟩ := rst2.write (d' := .list (ds.set n dv)) (o' := .lst (vs.set n v)) q1 q2 (.lst upd_same (RpL.upd hl3 trivial hL (RpL.set (r.mono s2) n (rl.mono s2))))
      exact p3 α σ _ w1 w2
  | _ => exact p3.elim

/-! ### for, while -/
def forOne (t : Tg) (f : SF) (d : D) (ρ : En) (k : En → Out) : Out := match bindT t d ρ with
  | none => .bad
  | some ρ1 => match f ρ1 with
    | .nx ρ2 => k ρ2
    | .ct ρ2 => k ρ2
    | .bk ρ2 => .nx ρ2
    | .rt d => .rt d
    | .exc c fs ρ2 => .exc c fs ρ2
    | .bad => .bad
def forGo (t : Tg) (f : SF) : List D → En → Out
  | [], ρ => .nx ρ
  | d :: ds, ρ => forOne t f d ρ (forGo t f ds)
def RL.out (r : RL) (ρ : En) (k : List D → Out) : Out := match r with
  | .ok d => k d
  | .exc c fs => .exc c fs ρ
  | .bad => .bad
@[simp] theorem RL.out_ok (d : List D) (ρ : En) (k : List D → Out) : (RL.ok d).out ρ k = k d := rfl
@[simp] theorem RL.out_exc (c : Str) (fs : List (Str × D)) (ρ : En) (k : List D → Out) : (RL.exc c fs).out ρ k = .exc c fs ρ := rfl
@[simp] theorem RL.out_bad (ρ : En) (k : List D → Out) : RL.bad.out ρ k = .bad := rfl
def sFor (fi : IF) (t : Tg) (f : SF) : SF := fun ρ => (fi ρ).out ρ fun ds => forGo t f ds ρ
theorem ss_for {tg iter : Expr} {fi : IF} {t : Tg} (hp : PassesOwn (model X.prog X.w) X.A X.env X.xe) (hi : SIS X W tg iter fi) (hg : PG X tg (gT X.K t)) (hb : SSs X W body f) (hc : X.calm = true := by rfl) (hs : ∀ x, foldedSetIterable iter X.env x = pure x := by intro _; rfl) :
    SS X W (.For tg iter body [] pos) (sFor fi t f) := fun H0 Lo => (ps_for hp hc hi hg (hb H0 Lo) hs).weak fun D σ H ⟨ρ, α, rst, p⟩ => by
  refine ⟨_, ρ, rst.re, ?_⟩
  unfold sFor at p
  cases hf : fi ρ with
  | bad => rw [hf] at p; exact p
  | exc c fs => rw [hf] at p; exact fun H1 x s xr => p α σ H1 x (rst.mono s) (.of_same s) xr
  | ok ds =>
    rw [hf] at p
    simp only [RL.out_ok] at p
    intro J S H1 s1 it hS
    let Iv : Nat → St → Hp → Prop := fun i σ H => i ≤ ds.length ∧ ∃ ρ α, RSt X.K H0 Lo ρ α σ H ∧ S H (Lv Lo α) ∧ PostS X.K H0 Lo W H α (forGo t f (ds.drop i) ρ) D
    refine ⟨fun i m σ H => m = ds.length - i ∧ Iv i σ H, ⟨ds.length, by simp, Nat.zero_le _, ρ, α, rst.mono s1, hS, by rw [List.drop_zero]; exact p.evo (.of_same s1)⟩, ?_⟩
    rintro i m σ2 H2 ⟨rfl, hi, ρ2, α2, rst2, hS2, p2⟩
    by_cases hlt : i < ds.length
    · refine .inr ⟨it.go i H2 _ hS2 hlt, Iv (i + 1), fun σ' H' q => ⟨ds.length - (i + 1), by omega, rfl, q⟩, fun x H3 y => ?_⟩
      obtain ⟨s3, hx⟩ := it.yld i H2 _ x H3 hS2 y
      have rx := hx ds[i] (by simp [hlt])
      rw [List.drop_eq_getElem_cons hlt] at p2
      simp only [forGo] at p2
      unfold forOne at p2
      have rst3 := rst2.mono s3
      cases hbt : bindT t ds[i] ρ2 with
      | none => rw [hbt] at p2; exact p2.elim
      | some ρ3 =>
        rw [hbt] at p2
        simp only at p2
        refine gT_of rst3.re rx hbt fun σ3 re3 ch => ?_
        have rst4 := rst3.ch re3 ch
        have ev4 : Evo X.K Lo H2 α2 H3 (rms α2 (slotsT t)) := (Evo.of_same s3).trans (Evo.rms _)
        refine ⟨ρ3, _, rst4, ?_⟩
        have hS4 : S H3 (Lv Lo (rms α2 (slotsT t))) := it.evo _ _ _ _ hS2 ev4
        have p4 := p2.evo ev4
        cases hb3 : f ρ3 with
        | nx ρ5 => rw [hb3] at p4; exact fun α5 σ5 H5 r5 e5 => ⟨hlt, ρ5, α5, r5, it.evo _ _ _ _ hS4 e5, p4.evo e5⟩
        | ct ρ5 => rw [hb3] at p4; exact fun α5 σ5 H5 r5 e5 => ⟨hlt, ρ5, α5, r5, it.evo _ _ _ _ hS4 e5, p4.evo e5⟩
        | bk ρ5 => rw [hb3] at p4; exact p4
        | rt d => rw [hb3] at p4; exact p4
        | exc c fs ρ5 => rw [hb3] at p4; exact p4
        | bad => rw [hb3] at p4; exact p4
    · have e : i = ds.length := by omega
      subst e
      rw [List.drop_length] at p2
      exact .inl ⟨it.stop _ H2 _ hS2 (Nat.le_refl _), p2 α2 σ2 H2 rst2 .refl⟩
def whGo (c : EF) (f : SF) : Nat → En → Out
  | 0, _ => .bad
  | n + 1, ρ => (c ρ).out ρ fun b => match b with
    | .bool true => (match f ρ with
      | .nx ρ2 => whGo c f n ρ2
      | .ct ρ2 => whGo c f n ρ2
      | .bk ρ2 => .nx ρ2
      | .rt d => .rt d
      | .exc c fs ρ2 => .exc c fs ρ2
      | .bad => .bad)
    | .bool false => .nx ρ
    | _ => .bad
/-- a while of fewer than n turns -/
def sWh (n : Nat) (c : EF) (f : SF) : SF := whGo c f n
theorem ss_while (n : Nat) (hp : PassesOwn (model X.prog X.w) X.A X.env X.xe) (hc : ST X W c ef) (hb : SSs X W body f) : SS X W (.While c body [] pos) (sWh n ef f) := fun H0 Lo => (ps_while hp hc (hb H0 Lo)).weak fun D σ H ⟨ρ, α, rst, p⟩ => by
  refine ⟨fun m σ H => ∃ ρ α, RSt X.K H0 Lo ρ α σ H ∧ PostS X.K H0 Lo W H α (whGo ef f m ρ) D, ⟨n, ρ, α, rst, p⟩, ?_⟩
  rintro m σ1 H1 ⟨ρ1, α1, rst1, p1⟩
  cases m with
  | zero => exact p1.elim
  | succ m =>
    refine ⟨_, ρ1, rst1.re, ?_⟩
    simp only [whGo] at p1
    cases hr : ef ρ1 with
    | bad => rw [hr] at p1; exact p1
    | exc c fs => rw [hr] at p1; exact fun H2 x s xr => p1 α1 σ1 H2 x (rst1.mono s) (.of_same s) xr
    | ok d =>
      rw [hr] at p1
      simp only [Rs.out_ok] at p1
      cases d with
      | bool k =>
        intro H2 s2
        have p2 := p1.evo (.of_same s2)
        have rst2 := rst1.mono s2
        cases k with
        | true =>
          rw [if_pos rfl]
          refine ⟨fun σ H => ∃ ρ α, RSt X.K H0 Lo ρ α σ H ∧ PostS X.K H0 Lo W H α (whGo ef f m ρ) D, fun σ' H' q => ⟨m, Nat.lt_succ_self m, q⟩, ρ1, α1, rst2, ?_⟩
          simp only at p2
          cases hb3 : f ρ1 with
          | nx ρ5 => rw [hb3] at p2; exact fun α5 σ5 H5 r5 e5 => ⟨ρ5, α5, r5, p2.evo e5⟩
          | ct ρ5 => rw [hb3] at p2; exact fun α5 σ5 H5 r5 e5 => ⟨ρ5, α5, r5, p2.evo e5⟩
          | bk ρ5 => rw [hb3] at p2; exact p2
          | rt d => rw [hb3] at p2; exact p2
          | exc c fs ρ5 => rw [hb3] at p2; exact p2
          | bad => rw [hb3] at p2; exact p2
        | false => rw [if_neg Bool.false_ne_true]; exact p2 α1 σ1 H2 rst2 .refl
      | _ => exact p1

/-! ### raise, += -/
def sRaise (c : Str) : SF := fun ρ => .exc c [] ρ
/-- what the head tells of an error class without own __init__ -/
structure ExK (K : PySem.W.Frag) (mg : Str → Option Value) (x : Str) : Prop where
  g : mg x = some (.ref (He.ga K x))
  c : (He.Fa.exc x).ok K = true
theorem ss_raise {m : Str} {j : Nat} {p p2 q : Pos} (tk : Takes X W) (T : ExK X.K X.mg x) (hg : Gl X x := by rfl) (hdb : (x == ("__debug__" : Str)) = false := by decide) (hc : X.calm = true := by rfl) :
    SS X W (.Raise (some (.Call (.Name x p) [.Constant (.str m) j p2] [] q)) none pos) (sRaise x) := fun H0 Lo => by
  obtain ⟨k1, k2, k3, k4⟩ := He.exc_ok T.c
  exact (ps_raise hc tk (pmk_own PySem.F.excBase_ValueError k1 T.g k2 (raises_own k3 k4) hg hdb)).weak fun D σ H ⟨ρ, α, rst, p⟩ => p α σ H none rst .refl (.inl ⟨rfl, rfl⟩)
def augR (fn : Int → Int → Int) : D → D → Option D
  | .int i, .int j => some (.int (fn i j))
  | _, _ => none
def sAug (fn : Int → Int → Int) (i : Nat) (f : EF) : SF := fun ρ => (eV i ρ).out ρ fun x => (f ρ).out ρ fun y => match augR fn x y with
  | some d => .nx (ρ.set i (some (.val d)))
  | none => .bad
theorem ss_aug {op : Operator} {fn : Int → Int → Int} {p : Pos} (ho : PIp X op (ipI fn)) (hN : X.N.Nodup) (he : SB X W e ef) (hi : X.N[i]? = some x := by rfl) (hx : Loc X.env.scope x := by first | exact Or.inl rfl | exact Or.inr rfl) (hf : X.fn x = true ∨ X.env.scope.names.lookup x = some .local := by first | exact .inl rfl | exact .inr rfl) :
    SS X W (.AugAssign (.Name x p) op e pos) (sAug fn i ef) := fun H0 Lo => (ps_aug hN hi hx he ho hf).weak fun D σ H ⟨ρ, α, rst, p⟩ => by
  unfold sAug eV at p
  cases hq : ρ[i]? with
  | none => simp only [hq] at p; exact p.elim
  | some o =>
    cases o with
    | none => simp only [hq] at p; exact p.elim
    | some o =>
      cases o with
      | grid _ => simp only [hq] at p; exact p.elim
      | own d => simp only [hq] at p; exact p.elim
      | val dx =>
        simp only [hq, Rs.out_ok] at p
        obtain ⟨w, e1, v, e2, r⟩ := rst.re.sl i _ hq
        subst e2
        refine ⟨v, e1, _, ρ, rst.re, p.exprB rst fun dy H1 y s ry rst1 p1 => ?_⟩
        cases hd : augR fn dx dy with
        | none => simp only [hd] at p1; exact p1.elim
        | some d =>
          simp only [hd] at p1
          unfold augR at hd
          split at hd
          · obtain rfl := r.intV
            obtain rfl := ry.intV
            cases hd
            exact ⟨_, _, rfl, rfl, p1 _ _ H1 (rst1.set (.int _)) (Evo.rms _)⟩
          · cases hd
/-! a, b = x, y with plain local names -/
def sPar (i j : Nat) (fs : List EF) : SF := fun ρ => (evA fs ρ).out ρ fun ds => match ds with
  | [x, y] => .nx ((ρ.set i (some (.val x))).set j (some (.val y)))
  | _ => .bad
theorem PostS.args {K : PySem.W.Frag} {H0 H : Hp} {Lo : Ad} {ρ : En} {α : Nat → Option Addr} {σ : St} {r : RL} {k : List D → Out} {Dn : Ends} {R : List V → Hp → Prop} (rst : RSt K H0 Lo ρ α σ H) (h : PostS K H0 Lo W H α (r.out ρ k) Dn)
    (hk : ∀ d H1 v, Same H H1 → RpL K H1 (Lv Lo α) d v → RSt K H0 Lo ρ α σ H1 → PostS K H0 Lo W H1 α (k d) Dn → R v H1) : PostA K W (Lv Lo α) σ H r R := by
  cases r with
  | ok d => exact fun H1 v s rv => hk d H1 v s rv (rst.mono s) (PostS.evo h (.of_same s))
  | exc c fs => exact fun H1 x s xr => h α σ H1 x (rst.mono s) (.of_same s) xr
  | bad => exact h
theorem ss_par {i j : Nat} {x y : Str} {a b : Expr} {fs : List EF} {px py pt : Pos} {kt k2 pt2} (hN : X.N.Nodup) (hij : i ≠ j) (ha : SA X W [a, b] fs) (hw : swappedStores [.Tuple [.Name x px, .Name y py] kt pt] (.Tuple [a, b] k2 pt2) X.env = pure (some [x, y]))
    (hi : X.N[i]? = some x := by rfl) (hj : X.N[j]? = some y := by rfl) (hx : X.env.scope.names.lookup x = some .local := by rfl) (hy : X.env.scope.names.lookup y = some .local := by rfl)
    (hs : swapsWithSole [.Tuple [.Name x px, .Name y py] kt pt] (.Tuple [a, b] k2 pt2) pos.line X.env = pure false := by rfl) (hc : X.calm = true := by rfl) :
    SS X W (.Assign [.Tuple [.Name x px, .Name y py] kt pt] (.Tuple [a, b] k2 pt2) pos) (sPar i j fs) := fun H0 Lo => (ps_par hc hN hi hj hij hx hy ha hw hs).weak fun D σ H ⟨ρ, α, rst, p⟩ =>
  ⟨_, ρ, rst.re, p.args rst fun ds H1 vs s rl rst1 p1 => by
    cases rl with
    | nil => exact p1.elim
    | cons r1 rl =>
      cases rl with
      | nil => exact p1.elim
      | cons r2 rl =>
        cases rl with
        | nil =>
          refine ⟨_, _, rfl, ?_⟩
          have q1 := rst1.set (i := i) r1
          have q2 := q1.set (i := j) (r2.lives fun z q => .inl (Lv_rms z q))
          exact p1 _ _ H1 q2 ((Evo.rms _).trans (Evo.rms _))
        | cons _ _ => exact p1.elim⟩
def sPar3 (i j l : Nat) (fs : List EF) : SF := fun ρ => (evA fs ρ).out ρ fun ds => match ds with
  | [x, y, z] => .nx (((ρ.set i (some (.val x))).set j (some (.val y))).set l (some (.val z)))
  | _ => .bad
end

/-! ### a def -/
def runB (n N : Nat) (f : SF) : List D → Rs := fun ds => if ds.length = n then
  (match f (ds.map (fun d => some (.val d)) ++ List.replicate (N - n) none) with
    | .nx _ => .ok .none
    | .rt d => .ok d
    | .exc c fs _ => .exc c fs
    | .bk _ => .bad
    | .ct _ => .bad
    | .bad => .bad) else .bad
theorem re_start {K : PySem.W.Frag} {H : Hp} {L : Ad} {N : List Str} {ds : List D} {vs : List V} (lv : LvOk H L) (r : RpL K H L ds vs) : RE K H L (ds.map (fun d => some (Sl.val d)) ++ List.replicate (N.length - ds.length) none) (start N vs) := by
  refine ⟨lv, ?_, fun i x e => ?_⟩
  · unfold L2.start
    simp [r.length]
  · rcases Nat.lt_or_ge i ds.length with hi | hi
    · rw [List.getElem?_append_left (by simpa using hi), List.getElem?_map] at e
      cases hd : ds[i]? with
      | none => rw [hd] at e; cases e
      | some d =>
        rw [hd] at e
        cases e
        obtain ⟨v, e1, rv⟩ := r.get hd
        refine ⟨some v, ?_, v, rfl, rv⟩
        unfold L2.start
        rw [List.getElem?_append_left (by rw [List.length_map, ← r.length]; exact hi), List.getElem?_map, e1]
        rfl
    · rw [List.getElem?_append_right (by simpa using hi)] at e
      obtain ⟨_, e⟩ := List.getElem?_eq_some_iff.mp e
      rw [List.getElem_replicate] at e
      cases e
theorem fn_sem {P : Program} {w : World} {K : PySem.W.Frag} {mg : Str → Option Value} {base : Heap} {x qual : Str} {params : Arguments} {body : List Stmt} {scope : Scope} {dvs : List V} {kws : List (Str × V)} {fa : Addr} {fd : FuncData} {N ps : List Str} {k : Nat} {f : SF}
    (F : FunD K x qual params body scope dvs kws fa fd) (S : FnScope N ps scope)
    (hb : ∀ (cdv : Value) (A : Around) (outer : List Env) (s : Shared) (H : Hp) (E : XK), Room k (A.deeper (envOfC qual scope s.heap.objs.size fa cdv)) → Takes (cxOf (L2.CX P w) P w K mg base N qual scope fa cdv A outer s H E) (fun cls d _ H => E cls d H) →
      PassesOwn (model P w) (A.deeper (envOfC qual scope s.heap.objs.size fa cdv)) (envOfC qual scope s.heap.objs.size fa cdv) (cxOf (L2.CX P w) P w K mg base N qual scope fa cdv A outer s H E).xe →
      SSs (cxOf (L2.CX P w) P w K mg base N qual scope fa cdv A outer s H E) (fun cls d _ H => E cls d H) body f) (small : N.length ≤ 1000 := by decide) (less : ps.length ≤ N.length := by decide) :
    FnOk P w K mg base (L2.CX P w) (k + 1) fa fd ps (spP K ps.length (runB ps.length N.length f)) := by
  refine F.ok S (fun vs H Q E h => ?_) (fun cdv A outer s H vs Q E hr h => ?_)
  · obtain ⟨L, ds, lv, hl, r, _⟩ := h
    rw [← r.length]
    exact hl
  · obtain ⟨L, ds, lv, hl, r, h⟩ := h
    refine ⟨_, hb cdv A outer s H E hr (takes_of rfl rfl rfl rfl) (passes_of rfl) H L, ?_⟩
    have re := re_start (N := N) lv r
    have hLv : ∀ a, Lv L (fun _ => none) a → L a := fun a z => z.elim id fun ⟨i, e⟩ => by cases e
    have vals : ∀ (i : Nat) (x : Sl), (ds.map (fun d => some (Sl.val d)) ++ List.replicate (N.length - ds.length) none)[i]? = some (some x) → ∃ d, x = .val d := fun i x e => by
      rcases Nat.lt_or_ge i ds.length with hi | hi
      · rw [List.getElem?_append_left (by simpa using hi), List.getElem?_map] at e
        cases hd : ds[i]? with
        | none => rw [hd] at e; cases e
        | some d => rw [hd] at e; cases e; exact ⟨d, rfl⟩
      · rw [List.getElem?_append_right (by simpa using hi)] at e
        obtain ⟨_, e⟩ := List.getElem?_eq_some_iff.mp e
        rw [List.getElem_replicate] at e
        cases e
    refine ⟨_, fun _ => none, ⟨re.lives (fun a z => .inl (hLv a z)) (fun a z => lv a (hLv a z)), Same.refl H, lv, (fun i a e => by cases e), (fun i j a e => by cases e), fun i d e => ?_, ?_, fun i d e => ?_⟩, ?_⟩
    · obtain ⟨_, z⟩ := vals i _ e
      cases z
    · rw [List.length_append, List.length_map, List.length_replicate, hl]
      omega
    · obtain ⟨_, z⟩ := vals i _ e
      cases z
    · unfold runB at h
      rw [if_pos hl, ← hl] at h
      cases ho : f (ds.map (fun d => some (Sl.val d)) ++ List.replicate (N.length - ds.length) none) with
      | nx ρ => rw [ho] at h; exact fun α' σ' H' rst _ => h H' .non rst.same .non
      | rt d => rw [ho] at h; exact h
      | bk ρ => rw [ho] at h; exact h.elim
      | ct ρ => rw [ho] at h; exact h.elim
      | exc c fs ρ => rw [ho] at h; exact fun α' σ' H' x rst _ xr => h H' x rst.same (xr.imp id fun ⟨dd, gs, a1, a2, a3, a4, a5⟩ => ⟨dd, gs, a1, a2, a3, a4, a5.lives fun z q => .inl (.inl q)⟩)
      | bad => rw [ho] at h; exact h.elim
/-- another function in its place: where that one is no bad -/
theorem sp_imp {K : PySem.W.Frag} {n : Nat} {g h : List D → Rs} (e : ∀ ds, ds.length = n → h ds ≠ .bad → g ds = h ds) : ∀ vs H Q E, spP K n h vs H Q E → spP K n g vs H Q E := fun vs H Q E ⟨L, ds, lv, hl, r, q⟩ => by
  refine ⟨L, ds, lv, hl, r, ?_⟩
  have hb : h ds ≠ .bad := fun z => by rw [z] at q; exact q
  rw [e ds hl hb]
  exact q
end VV

set_option Elab.async false
set_option linter.all false
set_option maxRecDepth 100000
set_option maxHeartbeats 4000000
/-! VVk: targets by rule, [::-1], two fors in a comprehension, calls with keywords, a law's end. -/
namespace VV
open PySem PySem.Spec L2
open PyProof.Rows hiding St

section
variable {X : Cx} {pos : Pos}
theorem sg_nm {i : Nat} {x : Str} (hN : X.N.Nodup) (hi : X.N[i]? = some x := by rfl) (hx : Loc X.env.scope x := by first | exact Or.inl rfl | exact Or.inr rfl) (hf : X.fn x = true ∨ X.env.scope.names.lookup x = some .local := by first | exact .inl rfl | exact .inr rfl) :
    PG X (.Name x pos) (gT X.K (.nm i)) := by
  unfold gT
  exact pg_name hN hi hx hf
theorem sgs_nil : PGs X [] (gTs X.K []) := by
  unfold gTs
  exact pgs_nil
theorem sgs_cons {e : Expr} {es : List Expr} {t : Tg} {ts : List Tg} (h1 : PG X e (gT X.K t)) (h2 : PGs X es (gTs X.K ts))
    (hs : (assignEach (e :: es) X.env).map (·.2) = assign e X.env :: (assignEach es X.env).map (·.2) := by rfl) : PGs X (e :: es) (gTs X.K (t :: ts)) := by
  unfold gTs
  exact pgs_cons h1 h2 hs
theorem sg_tp {es : List Expr} {k : Nat} {ts : List Tg} (h : PGs X es (gTs X.K ts)) (hc : X.calm = true := by rfl)
    (hn : (assignEach es X.env).length = ts.length := by rfl) (hst : (assignEach es X.env).findIdx? (·.1) = none := by rfl) : PG X (.Tuple es k pos) (gT X.K (.tp ts)) := by
  unfold gT
  exact pg_tup hc h hn hst
end

/-! ### x[::-1] -/
/-- the last n places, backwards -/
theorem back_pick (vs : Array Value) (n : Nat) (hn : vs.size = n) : (List.range n).filterMap (fun (k : Nat) => vs[((n : Int) - 1 + (k : Int) * (-1)).toNat]?) = vs.toList.reverse := by
  have places : ∀ k : Nat, ((n : Int) - 1 + (k : Int) * (-1)).toNat = n - 1 - k := fun k => by omega
  simp only [places]
  have via : (fun k : Nat => vs[n - 1 - k]?) = (fun j : Nat => vs[j]?) ∘ fun k => n - 1 - k := rfl
  rw [via, ← List.filterMap_map, PySem.W.krv_range, List.filterMap_reverse, ← hn, PySem.W.krv_all]
section
variable {P : Program} {w : World} {A : Around} {E : Value → Shared → Prop} {s : Shared} {t sl : Addr} {u : Tok}
theorem back_applied {n : Nat} {Q : Int × Int × Nat → Shared → Prop} (hs : s.heap.IsSliceOf sl .none .none (.int (-1) u)) (hq : Q ((n : Int) - 1, -1, n) s) : wpAny (model P w) A (Builtin.Slice.sliceApplied (.ref sl) (pure (n : Int))) Q E s := by
  have count : Builtin.Slice.slicePlaces ((n : Int) - 1) (-1) (-1) = n := by
    show (if (-1 : Int) > 0 then _ else if (n : Int) - 1 > -1 then ((n : Int) - 1 - -1 - 1) / (- -1) + 1 else 0).toNat = n
    rw [if_neg (by decide), show (- -1 : Int) = 1 from rfl, Int.ediv_one]
    split <;> omega
  have fields : ∀ {R : Value × Value × Value → Shared → Prop}, R (.none, .none, .int (-1) u) s → wpAny (model P w) A (Builtin.Slice.sliceFields (.ref sl)) R E s := fun {R} r => by
    obtain ⟨ob, h1, _, h3⟩ := hs
    exact wpAny_bind (wpAny_field h1 h3 rfl (wpAny_bind (wpAny_field h1 h3 rfl (wpAny_bind (wpAny_field h1 h3 rfl (wpAny_pure r))))))
  unfold Builtin.Slice.sliceApplied
  refine wpAny_bind (fields (wpAny_bind (HT.slicePart_ (.int (-1) u) ?_)))
  refine wpAny_bind (HT.slicePart_ .none (wpAny_bind (HT.slicePart_ .none (wpAny_bind (wpAny_pure ?_)))))
  show wpAny _ A (pure ((n : Int) - 1, (-1 : Int), Builtin.Slice.slicePlaces ((n : Int) - 1) (-1) (-1))) Q E s
  rw [count]
  exact wpAny_pure hq
theorem back_tuple {vs : Array Value} {Q : Value → Shared → Prop} (ht : IsTup s.heap t vs) (hs : s.heap.IsSliceOf sl .none .none (.int (-1) u)) (hz : vs.size ≤ sizeLine)
    (hq : Q (.ref s.heap.objs.size) { s with heap := s.heap.push { cls := .type "tuple", data := .seq vs.toList.reverse.toArray } }) : wpAny (model P w) A (getItem (.ref t) (.ref sl)) Q E s := by
  have isSlice : s.TypeIs (.ref sl) "slice" := let ⟨ob, h1, h2, _⟩ := hs; ⟨ob, h1, h2⟩
  refine wpAny_getItem_slot ht.typeIs (by decide) PyProof.Rows.slot_tuple_getitem (wpAny_call_entry PyProof.Rows.slot_tuple_getitem ht.typeIs entry_tuple_getitem ?_ (args_tuple_getitem _ _))
  refine wpAny_bind (wpAny_pure (wpAny_bind (tupleItemsOf_ ht (wpAny_bind (wpAny_typeOf isSlice ?_)))))
  rw [if_pos (by decide)]
  refine wpAny_bind (back_applied hs ?_)
  have other : (((vs.size : Int) - 1 == 0 && (-1 : Int) == 1) && vs.size == vs.size) = false := by simp
  show wpAny _ _ (if (((vs.size : Int) - 1 == 0 && (-1 : Int) == 1) && vs.size == vs.size) = true then _ else _) _ _ s
  rw [other, if_neg Bool.false_ne_true, back_pick vs vs.size rfl]
  have fits : sizeOk (.seq vs.toList.reverse.toArray) := by
    show vs.toList.reverse.toArray.size ≤ sizeLine
    simpa using hz
  exact wpAny_bind (show wpAny _ _ (Builtin.Tuple.tupleExact vs.toList.reverse.toArray) _ _ s from wpAny_newObj_type (wpAny_pure ⟨_, rfl, hq⟩) fits)
end
section
variable {X : Cx} {W : WX} {e : Expr} {k : Nat} {p1 p2 p3 pos : Pos}
/-- the slice ::-1, evaluated: a new slice object, nothing else -/
theorem back_slice {pins : List (Addr × Obj)} {σ : St} {H : Hp} {s : Shared} {R : Value → Shared → Prop} (I : Inv X pins σ H s)
    (h : ∀ (s0 : Shared) (u : Tok), Inv X pins σ H s0 → R (.ref s0.heap.objs.size) { s0 with heap := s0.heap.push { cls := .type "slice", data := .fields #[.none, .none, .int (-1) u] } }) :
    wpAny (model X.prog X.w) X.A (eval (.Slice none none (some (.UnaryOp .USub (.Constant (.int 1) k p1) p2)) p3) X.env) R X.xe s := by
  have minus : PO X (some (.UnaryOp .USub (.Constant (.int 1) k p1) p2)) _ := po_some (pe_un un_neg pe_int)
  have gone : ∀ s, Inv X pins σ H s → wpAny (model X.prog X.w) X.A (evalPart none X.env) (fun v s' => v = .none ∧ Inv X pins σ H s') X.xe s := fun s J =>
    thn (po_none.run pins s σ H (fun o H' => o = none ∧ H' = H) J ⟨rfl, rfl⟩) fun v s' ⟨o, H', J', part, eo, eH⟩ => by
      subst eo eH
      cases part
      exact ⟨rfl, J'⟩
  refine wpAny_Slice (thn (gone s I) fun _ sa ⟨za, Ia⟩ => thn (gone sa Ia) fun _ sb ⟨zb, Ib⟩ => thn (minus.run pins sb σ H (fun o H' => o = some (-1) ∧ H' = H) Ib ⟨1, rfl, -1, rfl, rfl, rfl⟩) fun _ sc ⟨o, H', Ic, part, eo, eH⟩ => ?_)
  subst za zb eo eH
  cases part with
  | int _ u => exact h sc u Ic
theorem pe_backT {te : TE} (he : PE X e te) : PE X (.Subscript e (.Slice none none (some (.UnaryOp .USub (.Constant (.int 1) k p1) p2)) p3) pos)
    (fun σ H Q => te σ H fun x H1 => ∃ a xs, x = .ref a ∧ SqT X.K H1 a xs ∧ ∀ p, H1 p = none → Q (.ref p) (upd H1 p (.tup xs.reverse))) := ⟨fun pins s σ H Q I h => by
  refine Subscript_ (thn (he.run pins s σ H _ I h) fun v s1 ⟨x, H1, I1, rv, a, xs, ex, hx, q⟩ => back_slice I1 fun s0 u I0 => ?_)
  subst ex
  cases rv
  have I2 : Inv X pins σ H1 { s0 with heap := s0.heap.push { cls := .type "slice", data := .fields #[.none, .none, .int (-1) u] } } := I0.kept (t' := s0.toks) fun _ _ z => Heap.get?_push_of_some _ z
  obtain ⟨its, vals, ht, hz⟩ := I2.tuple hx
  have size : its.toArray.size ≤ sizeLine := by rw [List.size_toArray, ← vals.length]; exact hz
  exact tail_any (ops := [.ref a, .ref s0.heap.objs.size]) (show IsTup _ _ _ from ht).typeIs PyProof.Rows.slot_tuple_getitem.lookup
    (back_tuple ht (Heap.IsSliceOf.new _ .none .none (.int (-1) u)) size ⟨.ref _, _, I2.laid (o := .tup xs.reverse) (t' := s0.toks) (fun _ _ z => Heap.get?_push_of_some _ z) (Nat.le_refl _) ⟨by simpa using hz, _, vals.reverse, IsTup.new _ _⟩, rfl, q _ (I2.hok.fresh (Nat.le_refl _))⟩)
    (by with_unfolding_all rfl)⟩
end
def revF : D → Option D
  | .list ds => some (.list ds.reverse)
  | .tuple ds => some (.tuple ds.reverse)
  | _ => none
section
variable {X : Cx} {W : WX}
theorem se_rev {e : Expr} {f : EF} {k : Nat} {p1 p2 p3 pos : Pos} (he : SB X W e f) : SE X W (.Subscript e (.Slice none none (some (.UnaryOp .USub (.Constant (.int 1) k p1) p2)) p3) pos) (eUn revF f) := ⟨fun pins s σ H Q I ⟨L, ρ, re, p⟩ => by
  unfold eUn at p
  match hf : f ρ with
  | .bad => rw [hf] at p; exact p.elim
  | .exc c fs =>
    rw [hf] at p
    refine (pe_revL he).run pins s σ H Q I ⟨L, ρ, re, ?_⟩
    rw [hf]
    exact p
  | .ok (.list ds) =>
    rw [hf] at p
    refine (pe_revL he).run pins s σ H Q I ⟨L, ρ, re, ?_⟩
    rw [hf]
    intro H1 v s1 r
    obtain ⟨b, vs, ev, hb, rl⟩ := r.lstV
    exact ⟨b, vs, ev, SqL.of hb, fun q hq => p _ _ (s1.trans (same_upd hq)) (.lst upd_same (fun z => re.lv.mono s1 q z hq) (rl.reverse.mono (same_upd hq)))⟩
  | .ok (.tuple ds) =>
    rw [hf] at p
    refine (pe_backT he).run pins s σ H Q I ⟨L, ρ, re, ?_⟩
    rw [hf]
    intro H1 v s1 r
    obtain ⟨b, vs, ev, hb, rl⟩ := r.tupV
    exact ⟨b, vs, ev, SqT.of hb, fun q hq => p _ _ (s1.trans (same_upd hq)) (.tup upd_same (rl.reverse.mono (same_upd hq)))⟩
  | .ok .none => rw [hf] at p; exact p.elim
  | .ok (.bool _) => rw [hf] at p; exact p.elim
  | .ok (.int _) => rw [hf] at p; exact p.elim
  | .ok (.str _) => rw [hf] at p; exact p.elim
  | .ok (.dict _) => rw [hf] at p; exact p.elim⟩
end

/-! ### two fors -/
def lc2Go (vs1 : List Nat) (t : Tg) (c : EF) (fi1 : IF) (t1 : Tg) (c1 e : EF) (ρ : En) : List D → RL
  | [] => .ok []
  | d :: ds => match bindT t d ρ with
    | none => .bad
    | some ρ1 => match c ρ1 with
      | .ok (.bool true) => (match fi1 ρ1 with
        | .ok ds1 => (match lcGo t1 c1 e (wipeE ρ1 vs1) ds1 with
          | .ok rs => (match lc2Go vs1 t c fi1 t1 c1 e ρ ds with
            | .ok r => .ok (rs ++ r)
            | _ => .bad)
          | _ => .bad)
        | _ => .bad)
      | .ok (.bool false) => (match lc2Go vs1 t c fi1 t1 c1 e ρ ds with
        | .ok r => .ok r
        | _ => .bad)
      | _ => .bad
def lc2R : RL → Rs
  | .ok ds => lstR ds
  | _ => .bad
def eLc2 (vs vs1 : List Nat) (fi : IF) (t : Tg) (c : EF) (fi1 : IF) (t1 : Tg) (c1 e : EF) : EF := fun ρ => (fi ρ).bind fun ds => lc2R (lc2Go vs1 t c fi1 t1 c1 e (wipeE ρ vs) ds)
theorem lc2Go_ok {vs1 : List Nat} {t : Tg} {c : EF} {fi1 : IF} {t1 : Tg} {c1 e : EF} {ρ : En} {d : D} {ds rs : List D} (h : lc2Go vs1 t c fi1 t1 c1 e ρ (d :: ds) = .ok rs) :
    ∃ ρ1, bindT t d ρ = some ρ1 ∧ ((c ρ1 = .ok (.bool true) ∧ ∃ ds1 r0 r, fi1 ρ1 = .ok ds1 ∧ lcGo t1 c1 e (wipeE ρ1 vs1) ds1 = .ok r0 ∧ lc2Go vs1 t c fi1 t1 c1 e ρ ds = .ok r ∧ rs = r0 ++ r) ∨ (c ρ1 = .ok (.bool false) ∧ lc2Go vs1 t c fi1 t1 c1 e ρ ds = .ok rs)) := by
  unfold lc2Go at h
  cases hb : bindT t d ρ with
  | none => exact absurd h (by rw [hb]; simp)
  | some ρ1 =>
    rw [hb] at h
    refine ⟨ρ1, rfl, ?_⟩
    cases hc : c ρ1 with
    | bad => simp only [hc] at h; cases h
    | exc c fs => simp only [hc] at h; cases h
    | ok b =>
      simp only [hc] at h
      cases b with
      | bool b =>
        cases b with
        | true =>
          cases h1 : fi1 ρ1 with
          | bad => simp only [h1] at h; cases h
          | exc c fs => simp only [h1] at h; cases h
          | ok ds1 =>
            simp only [h1] at h
            cases h2 : lcGo t1 c1 e (wipeE ρ1 vs1) ds1 with
            | bad => simp only [h2] at h; cases h
            | exc c fs => simp only [h2] at h; cases h
            | ok r0 =>
              simp only [h2] at h
              cases h3 : lc2Go vs1 t c fi1 t1 c1 e ρ ds with
              | bad => simp only [h3] at h; cases h
              | exc c fs => simp only [h3] at h; cases h
              | ok r => simp only [h3] at h; cases h; exact .inl ⟨rfl, ds1, r0, r, rfl, h2, rfl, rfl⟩
        | false =>
          cases h3 : lc2Go vs1 t c fi1 t1 c1 e ρ ds with
          | bad => simp only [h3] at h; cases h
          | exc c fs => simp only [h3] at h; cases h
          | ok r => simp only [h3] at h; cases h; exact .inr ⟨rfl, rfl⟩
      | _ => cases h
/-- no slot's own list lies at D; G: a heap in which its grids lie -/
structure NoOwn (D : Addr) (G : Hp) (ρ : En) (σ : St) : Prop where
  own : ∀ (j : Nat) (d : VV.D) (a : Addr), ρ[j]? = some (some (.own d)) → σ[j]? = some (some (.ref a)) → a ≠ D
  grid : ∀ (j : Nat) (rows : List (List VV.D)) (a : Addr), ρ[j]? = some (some (.grid rows)) → σ[j]? = some (some (.ref a)) → a ≠ D ∧ ∃ bs : List Addr, G a = some (.lst (bs.map V.ref)) ∧ D ∉ bs
theorem refs_inj : ∀ {xs ys : List Addr}, xs.map V.ref = ys.map V.ref → xs = ys
  | [], [], _ => rfl
  | [], _ :: _, h => nomatch h
  | _ :: _, [], h => nomatch h
  | x :: xs, y :: ys, h => by
    have h1 : V.ref x = V.ref y ∧ xs.map V.ref = ys.map V.ref := by simpa using h
    rw [refs_inj h1.2]
    injection h1.1 with e
    rw [e]
theorem RE.upd {K : PySem.W.Frag} {G H : Hp} {L : Ad} {ρ : En} {σ : St} {D : Addr} {o o' : HO} (re : RE K H L ρ σ) (no : NoOwn D G ρ σ) (sm : Same G H) (hD : H D = some o) (c : Chg o) (hL : L D) : RE K (L2.upd H D o') L ρ σ := by
  refine ⟨fun a z => ?_, re.len, fun i x e => ?_⟩
  · by_cases h : a = D
    · subst h; rw [upd_same]; simp
    · rw [upd_ne h]; exact re.lv a z
  · obtain ⟨ob, e1, r⟩ := re.sl i x e
    refine ⟨ob, e1, ?_⟩
    cases x with
    | val d => obtain ⟨v, g1, g2⟩ := r; exact ⟨v, g1, g2.upd hD c hL⟩
    | own d =>
      obtain ⟨a, g1, g2⟩ := r
      subst g1
      exact ⟨a, rfl, g2.upd hD c hL (no.own i d a e e1)⟩
    | grid rows =>
      obtain ⟨a, bs, g1, g2⟩ := r
      subst g1
      obtain ⟨na, bs', q1, q2⟩ := no.grid i rows a e e1
      have eb : bs' = bs := refs_inj (by
        have := (sm _ _ q1).symm.trans g2.top
        injection (Option.some.inj this))
      subst eb
      exact ⟨a, bs', rfl, g2.upd hD c hL na fun b hb z => q2 (z ▸ hb)⟩
section
variable {X : Cx} {W : WX}
theorem lc2_loop {K : PySem.W.Frag} {L : Ad} {σ : St} {ρ : En} {H1 : Hp} {J : It} {S : Hp → Ad → Prop} {ds rs : List VV.D} {t t1 : Tg} {c c1 e : EF} {fi1 : IF} {vs vs1 : List Nat} {Q : VK} (re : RE K H1 L ρ σ) (it : ItB K ds J S) (hS : S H1 L)
    (hsl : ∀ i ∈ slotsT t, i ∈ vs) (hsl1 : ∀ i ∈ slotsT t1, i ∈ vs1) (hgo : lc2Go vs1 t c fi1 t1 c1 e (wipeE ρ vs) ds = .ok rs) (hz : rs.length ≤ sizeLine) (hQ : ∀ D H, H1 D = none → Same H1 H → Ow K H (Lp L D) (.list rs) D → Q (.ref D) H) :
    tLc2 (fun _ _ R => R J H1) (gT K t) (tT K WF c) (tIS K WF fi1) (gT K t1) (tT K WF c1) (tE K WF e) vs vs1 σ H1 Q := by
  intro D hD
  let L' : Ad := Lp L D
  have hL' : ∀ a, L' a → L a ∨ H1 a = none := fun a z => z.elim .inl fun q => by subst q; exact .inr hD
  have sD : ∀ {H : Hp} {o : HO}, Same H1 H → Same H1 (L2.upd H D o) := fun {H o} s b u q => by
    rw [upd_ne (ne_of_none q hD)]
    exact s b u q
  let Iv : Nat → Hp → Prop := fun i H => i ≤ ds.length ∧ Same H1 H ∧ ∃ (acc : List V) (racc rest : List VV.D), H D = some (.lst acc) ∧ RpL K H L' racc acc ∧ lc2Go vs1 t c fi1 t1 c1 e (wipeE ρ vs) (ds.drop i) = .ok rest ∧ racc ++ rest = rs
  refine ⟨fun i m H => m = ds.length - i ∧ Iv i H, ⟨ds.length, by simp, Nat.zero_le _, sD (Same.refl H1), [], [], rs, upd_same, .nil, hgo, rfl⟩, ?_⟩
  rintro i m H ⟨rfl, hi, s1, acc, racc, rest, hacc, racc', hrest, htot⟩
  have hSn : S H L' := it.keep H1 L H L' hS s1 hL'
  have lv' : LvOk H L' := fun a z => z.elim (fun q => re.lv.mono s1 a q) fun q => by subst q; rw [hacc]; simp
  have reH : RE K H L' ρ σ := by
    have r0 : RE K H L ρ σ := re.mono s1
    refine ⟨lv', r0.len, fun j x q => ?_⟩
    obtain ⟨o, e1, r⟩ := re.sl j x q
    exact ⟨o, e1, (r.lives (L' := L') hL').mono s1⟩
  by_cases hlt : i < ds.length
  · refine .inr ⟨it.go i H L' hSn hlt, Iv (i + 1), fun H' p' => ⟨ds.length - (i + 1), by omega, rfl, p'⟩, fun x H' y => ?_⟩
    obtain ⟨s2, hx⟩ := it.yld i H L' x H' hSn y
    have hdrop : ds.drop i = ds[i] :: ds.drop (i + 1) := List.drop_eq_getElem_cons hlt
    have rx := hx ds[i] (by simp [hlt])
    rw [hdrop] at hrest
    obtain ⟨ρ1, hb, hcase⟩ := lc2Go_ok hrest
    refine gT_of ((reH.mono s2).wipe vs) rx hb fun σ1 re1 ch => ?_
    have back : ∀ (j : Nat) (x : Sl) (v : V), ρ1[j]? = some (some x) → σ1[j]? = some (some v) → j ∉ slotsT t → ρ[j]? = some (some x) ∧ σ[j]? = some (some v) := fun j x v h1 h2 hj => by
      rw [ch.r j hj] at h1
      obtain ⟨h3, h4⟩ := wipeE_some h1
      rw [ch.s j hj, wipe_at h4] at h2
      exact ⟨h3, h2⟩
    have no : NoOwn D H1 ρ1 σ1 := by
      constructor
      · intro j d a h1 h2
        obtain ⟨h3, h4⟩ := back j _ _ h1 h2 fun z => ch.v j z d h1
        obtain ⟨o, e1, a', e2, ow⟩ := re.sl j _ h3
        rw [e1] at h4
        cases h4
        cases e2
        obtain ⟨ob, q, _⟩ := ow.chg
        exact ne_of_none q hD
      · intro j rows a h1 h2
        obtain ⟨h3, h4⟩ := back j _ _ h1 h2 fun z => ch.g j z rows h1
        obtain ⟨o, e1, a', bs, e2, og⟩ := re.sl j _ h3
        rw [e1] at h4
        cases h4
        cases e2
        exact ⟨ne_of_none og.top hD, bs, og.top, fun z => og.there.2 D z hD⟩
    refine ⟨?_, L', ρ1, re1, ?_⟩
    · rw [← wipe_twice (σ := σ)]
      exact wipe_eq ch.ls fun j hj => ch.s j fun q => hj (hsl j q)
    · rcases hcase with ⟨hc, ds1, r0, r, h1, h2, hk, hr⟩ | ⟨hc, hk⟩
      · rw [hc]
        intro H3 s3
        rw [if_pos rfl]
        refine ⟨L', ρ1, re1.mono s3, ?_⟩
        rw [h1]
        intro J1 S1 H4 s4 it1 hS1
        have s24 : Same H H4 := s2.trans (s3.trans s4)
        have re4 : RE K H4 L' ρ1 σ1 := re1.mono (s3.trans s4)
        let Iv1 : Nat → Hp → Prop := fun j Hn => j ≤ ds1.length ∧ Same H1 Hn ∧ S1 Hn L' ∧ RE K Hn L' ρ1 σ1 ∧ ∃ (a1 : List V) (ra1 rest1 : List VV.D), Hn D = some (.lst a1) ∧ RpL K Hn L' ra1 a1 ∧ lcGo t1 c1 e (wipeE ρ1 vs1) (ds1.drop j) = .ok rest1 ∧ ra1 ++ rest1 = racc ++ r0
        refine ⟨fun j k Hn => k = ds1.length - j ∧ Iv1 j Hn, ⟨ds1.length, by simp, Nat.zero_le _, s1.trans s24, hS1, re4, acc, racc, r0, s24 _ _ hacc, racc'.mono s24, h2, rfl⟩, ?_⟩
        rintro j k Hn ⟨rfl, hj, sn, hSn1, ren, a1, ra1, rest1, hDn, rla, hgo1, htot1⟩
        by_cases hjl : j < ds1.length
        · refine .inr ⟨it1.go j Hn L' hSn1 hjl, Iv1 (j + 1), fun H' p' => ⟨ds1.length - (j + 1), by omega, rfl, p'⟩, fun x1 H5 y1 => ?_⟩
          obtain ⟨s5, hx1⟩ := it1.yld j Hn L' x1 H5 hSn1 y1
          have hdrop1 : ds1.drop j = ds1[j] :: ds1.drop (j + 1) := List.drop_eq_getElem_cons hjl
          have rx1 := hx1 ds1[j] (by simp [hjl])
          rw [hdrop1] at hgo1
          obtain ⟨ρ2, hb2, hcase2⟩ := lcOne_ok hgo1
          refine gT_of ((ren.mono s5).wipe vs1) rx1 hb2 fun σ2 re2 ch2 => ?_
          refine ⟨?_, L', ρ2, re2, ?_⟩
          · rw [← wipe_twice (σ := σ1)]
            exact wipe_eq ch2.ls fun j hj => ch2.s j fun q => hj (hsl1 j q)
          · rcases hcase2 with ⟨hc2, y2, r2, he2, hk2, hr2⟩ | ⟨hc2, hk2⟩
            · rw [hc2]
              intro H6 s6
              rw [if_pos rfl]
              refine ⟨L', ρ2, re2.mono s6, ?_⟩
              rw [he2]
              intro H7 v s7 rv
              have s57 : Same Hn H7 := s5.trans (s6.trans s7)
              have hD7 : H7 D = some (.lst a1) := s57 _ _ hDn
              have hLD : L' D := .inr rfl
              refine ⟨a1, hD7, ?_, hjl, sD (sn.trans s57), ?_, ?_, a1 ++ [v], ra1 ++ [y2], r2, upd_same, ?_, hk2, by rw [← htot1, hr2]; simp⟩
              · have e1 : a1.length = ra1.length := rla.length.symm
                have e2 := congrArg List.length htot1
                have e3 := congrArg List.length htot
                rw [hr2] at e2
                rw [hr] at e3
                simp only [List.length_append, List.length_cons] at e2 e3
                omega
              · exact it1.evo H7 L' _ L' (it1.keep Hn L' H7 L' hSn1 s57 fun _ q => .inl q) fun d w r => r.upd hD7 trivial hLD
              · exact (ren.mono s57).upd no (sn.trans s57) hD7 trivial hLD
              · exact RpL.upd hD7 trivial hLD ((rla.mono s57).append (.cons rv .nil))
            · rw [hc2]
              intro H6 s6
              rw [if_neg (by decide)]
              have s56 : Same Hn H6 := s5.trans s6
              exact ⟨hjl, sn.trans s56, it1.keep Hn L' H6 L' hSn1 s56 fun _ q => .inl q, ren.mono s56, a1, ra1, rest1, s56 _ _ hDn, rla.mono s56, hk2, htot1⟩
        · have e : j = ds1.length := by omega
          subst e
          rw [List.drop_length] at hgo1
          cases hgo1
          rw [List.append_nil] at htot1
          refine .inl ⟨it1.stop _ Hn L' hSn1 (Nat.le_refl _), hlt, sn, a1, ra1, r, hDn, rla, hk, ?_⟩
          rw [htot1, ← htot, hr, List.append_assoc]
      · rw [hc]
        intro H3 s3
        rw [if_neg (by decide)]
        have s23 : Same H H3 := s2.trans s3
        exact ⟨hlt, s1.trans s23, acc, racc, rest, s23 _ _ hacc, racc'.mono s23, hk, htot⟩
  · have e : i = ds.length := by omega
    subst e
    rw [List.drop_length] at hrest
    cases hrest
    rw [List.append_nil] at htot
    subst htot
    exact .inl ⟨it.stop _ H L' hSn (Nat.le_refl _), hQ D H hD s1 (.lst hacc racc')⟩
theorem tLc2_of {K : PySem.W.Frag} {fi fi1 : IF} {t t1 : Tg} {c c1 e : EF} {vs vs1 : List Nat} (hsl : ∀ i ∈ slotsT t, i ∈ vs) (hsl1 : ∀ i ∈ slotsT t1, i ∈ vs1) : ∀ σ H Q, tN K W (eLc2 vs vs1 fi t c fi1 t1 c1 e) σ H Q → tLc2 (tI K W fi) (gT K t) (tT K WF c) (tIS K WF fi1) (gT K t1) (tT K WF c1) (tE K WF e) vs vs1 σ H Q := fun σ H Q ⟨L, ρ, re, p⟩ => by
  refine ⟨L, ρ, re, ?_⟩
  unfold eLc2 at p
  cases hf : fi ρ with
  | bad => rw [hf] at p; exact p
  | exc c fs => rw [hf] at p; exact p
  | ok ds =>
    rw [hf] at p
    simp only [RL.bind_ok] at p
    cases hg : lc2Go vs1 t c fi1 t1 c1 e (wipeE ρ vs) ds with
    | bad => rw [hg] at p; exact p.elim
    | exc c' fs => rw [hg] at p; exact p.elim
    | ok rs =>
      rw [hg] at p
      unfold lc2R lstR at p
      dsimp only at p
      split at p
      · rename_i hz
        intro J S H1 s1 it hS
        exact lc2_loop (re.mono s1) it hS hsl hsl1 hg hz fun D H' hD s' ow => p H' D (s1.trans s') (s1.free hD) ow
      · exact p.elim
variable {elt tg iter tg1 iter1 : Expr} {ifs ifs1 : List Expr} {scope : Scope} {own : List (Str × Nat)} {pos : Pos} {fi fi1 : IF} {t t1 : Tg} {c c1 e : EF} {i : Nat} {x : Str}
theorem sn_lc2 (vs1 : List Nat) (hN : X.N.Nodup) (hi : SI X W tg iter fi) (ok : BlkOk X.N X.env.scope scope own)
    (hg : ∀ (s : Shared) (H : Hp) (C : Addr) (cl : List (Str × Addr)) (fp : List Addr), PG (X.blk s H scope (compEnvC scope cl C X.env) fp) tg (gT X.K t)) (ht : ∀ (s : Shared) (H : Hp) (C : Addr) (cl : List (Str × Addr)) (fp : List Addr), STs (X.blk s H scope (compEnvC scope cl C X.env) fp) ifs c)
    (hi1 : ∀ (s : Shared) (H : Hp) (C : Addr) (cl : List (Str × Addr)) (fp : List Addr), SIS (X.blk s H scope (compEnvC scope cl C X.env) fp) WF tg1 iter1 fi1)
    (hg1 : ∀ (s : Shared) (H : Hp) (C : Addr) (cl : List (Str × Addr)) (fp : List Addr), PG (X.blk s H scope (compEnvC scope cl C X.env) fp) tg1 (gT X.K t1)) (ht1 : ∀ (s : Shared) (H : Hp) (C : Addr) (cl : List (Str × Addr)) (fp : List Addr), STs (X.blk s H scope (compEnvC scope cl C X.env) fp) ifs1 c1)
    (he : ∀ (s : Shared) (H : Hp) (C : Addr) (cl : List (Str × Addr)) (fp : List Addr), SE (X.blk s H scope (compEnvC scope cl C X.env) fp) WF elt e) (hv : ∀ i ∈ vs1, i ∈ own.map (·.2) := by decide) (hsl : ∀ i ∈ slotsT t, i ∈ own.map (·.2) := by decide) (hsl1 : ∀ i ∈ slotsT t1, i ∈ vs1 := by decide)
    (hc : X.calm = true := by rfl) (hs : ∀ x, foldedSetIterable iter X.env x = pure x := by intro _; rfl) (hs1 : ∀ env x, foldedSetIterable iter1 env x = pure x := by intro _ _; rfl) :
    SN X W (.ListComp elt [⟨tg, iter, ifs, 0⟩, ⟨tg1, iter1, ifs1, 0⟩] scope pos) (eLc2 (own.map (·.2)) vs1 fi t c fi1 t1 c1 e) := (pe_lc2 hc hN hi ok hv hg ht hi1 hg1 ht1 he hs hs1).weak (tLc2_of hsl hsl1)
theorem ss_setLc2 {py spos : Pos} (vs1 : List Nat) (hN : X.N.Nodup) (hi : SI X W tg iter fi) (ok : BlkOk X.N X.env.scope scope own)
    (hg : ∀ (s : Shared) (H : Hp) (C : Addr) (cl : List (Str × Addr)) (fp : List Addr), PG (X.blk s H scope (compEnvC scope cl C X.env) fp) tg (gT X.K t)) (ht : ∀ (s : Shared) (H : Hp) (C : Addr) (cl : List (Str × Addr)) (fp : List Addr), STs (X.blk s H scope (compEnvC scope cl C X.env) fp) ifs c)
    (hi1 : ∀ (s : Shared) (H : Hp) (C : Addr) (cl : List (Str × Addr)) (fp : List Addr), SIS (X.blk s H scope (compEnvC scope cl C X.env) fp) WF tg1 iter1 fi1)
    (hg1 : ∀ (s : Shared) (H : Hp) (C : Addr) (cl : List (Str × Addr)) (fp : List Addr), PG (X.blk s H scope (compEnvC scope cl C X.env) fp) tg1 (gT X.K t1)) (ht1 : ∀ (s : Shared) (H : Hp) (C : Addr) (cl : List (Str × Addr)) (fp : List Addr), STs (X.blk s H scope (compEnvC scope cl C X.env) fp) ifs1 c1)
    (he : ∀ (s : Shared) (H : Hp) (C : Addr) (cl : List (Str × Addr)) (fp : List Addr), SE (X.blk s H scope (compEnvC scope cl C X.env) fp) WF elt e) (hsw : swapsWith (.ListComp elt [⟨tg, iter, ifs, 0⟩, ⟨tg1, iter1, ifs1, 0⟩] scope pos) (some (.Name x py)) spos.line X.env = pure true) (hv : ∀ i ∈ vs1, i ∈ own.map (·.2) := by decide) (hsl : ∀ i ∈ slotsT t, i ∈ own.map (·.2) := by decide) (hsl1 : ∀ i ∈ slotsT t1, i ∈ vs1 := by decide)
    (hy : X.N[i]? = some x := by rfl) (hyl : X.env.scope.names.lookup x = some .local := by rfl) (hc : X.calm = true := by rfl) (hs : ∀ x, foldedSetIterable iter X.env x = pure x := by intro _; rfl) (hs1 : ∀ env x, foldedSetIterable iter1 env x = pure x := by intro _ _; rfl) :
    SS X W (.Assign [.Name x py] (.ListComp elt [⟨tg, iter, ifs, 0⟩, ⟨tg1, iter1, ifs1, 0⟩] scope pos) spos) (sSet i (eLc2 (own.map (·.2)) vs1 fi t c fi1 t1 c1 e)) := fun H0 Lo => (ps_setLc2 hc hN hy hyl hsw hi ok hv hg ht hi1 hg1 ht1 he hs hs1).weak fun D σ H ⟨ρ, α, rst, p⟩ =>
  tLc2_of hsl hsl1 σ H _ ⟨_, ρ, rst.re, p.exprN rst fun d H1 a s n o p1 => (p1.evo (.of_same s)) _ _ H1 ((rst.mono s).set ((o.lives fun z q => .inl (.inl q)).rp fun z => rst.re.lv a z n)) (Evo.rms _)⟩
end

/-! ### calls with keywords, all keyword-only parameters written -/
structure Dk (P : Program) (w : World) (K : PySem.W.Frag) (mg : Str → Option Value) (base : Heap) (x : Str) (k n : Nat) (ks : List Str) (f : List D → Rs) : Prop where
  ex : ∃ (fa : Addr) (fd : FuncData) (ps : List Str), mg x = some (.ref fa) ∧ FnOk P w K mg base (L2.CX P w) k fa fd ps (spP K (n + ks.length) f) ∧ PySem.W.keepIn K (.ref fa) = true ∧ KBn K fd ps n ks (fun us ws => us ++ ws) (fun vs zs => vs ++ zs)
theorem kbindsN {K : PySem.W.Frag} {x qual : Str} {params : Arguments} {body : List Stmt} {scope : Scope} {kws : List (Str × V)} {f : Addr} {fd : FuncData} {ps : List Str} (F : FunD K x qual params body scope [] kws f fd) (n : Nat) (ks : List Str)
    (h : ∀ (kV doc pm : Value) (an : Option Addr) (cdv ct : Value) (us ws : List Value), us.length = n → ws.length = ks.length → bindArgs (PySem.W.fnOf x qual params body scope .none kV doc pm an cdv ct) ⟨us, ks.zip ws⟩ = pure (ps.zip (us ++ ws)))
    (some_kw : kws ≠ [] := by simp) : KBn K fd ps n ks (fun us ws => us ++ ws) (fun vs zs => vs ++ zs) :=
  (F.kbinds0 n ks [] (fun us _ ws => us ++ ws) some_kw (by simp) (fun a _ b => a.append b) fun D doc pm an cdv ct us _ ws l _ l' => h (.ref D) doc pm an cdv ct us ws l l').elim fun _ z => z
abbrev SK (X : Cx) (W : WX) (kws : List Keyword) (fs : List EF) : Prop := PK X kws (tA X.K W fs)
section
variable {X : Cx} {W : WX} {e : Expr} {es : List Expr} {kws : List Keyword} {f : EF} {fs gs : List EF} {p pos kpos : Pos} {nm : Option Str} {x : Str} {ks : List Str}
theorem _root_.L2.PK.weak {t t' : TA} (h : PK X kws t) (hw : ∀ σ H Q, t' σ H Q → t σ H Q) : PK X kws t' := ⟨fun p pins s σ H Q I q => h.run p pins s σ H Q I (hw σ H Q q)⟩
theorem sk_nil : SK X W [] [] := pk_nil.weak fun σ H Q ⟨L, ρ, re, p⟩ => p H [] (Same.refl H) .nil
theorem sk_cons (ha : SE X W e f) (hr : SK X W kws fs) : SK X W (⟨nm, e, kpos⟩ :: kws) (f :: fs) := (pk_cons ha hr).weak fun σ H Q ⟨L, ρ, re, p⟩ => by
  refine ⟨L, ρ, re, ?_⟩
  simp only [evA_cons] at p
  cases hf : f ρ with
  | bad => rw [hf] at p; exact p
  | exc c fs => rw [hf] at p; exact p
  | ok d =>
    rw [hf] at p
    intro H1 v s1 r1
    refine ⟨L, ρ, re.mono s1, ?_⟩
    cases hg : evA fs ρ with
    | bad => rw [hg] at p; exact p
    | exc c fs => rw [hg] at p; exact fun H' x s' => p H' x (s1.trans s')
    | ok ds => rw [hg] at p; exact fun H' vs s' r' => p H' (v :: vs) (s1.trans s') (.cons (r1.mono s') r')
theorem evA_append (fs gs : List EF) (ρ : En) : evA (fs ++ gs) ρ = match evA fs ρ with
    | .ok ds => (match evA gs ρ with
      | .ok es => .ok (ds ++ es)
      | .exc c fs => .exc c fs
      | .bad => .bad)
    | .exc c fs => .exc c fs
    | .bad => .bad := by
  induction fs with
  | nil => simp only [List.nil_append, evA_nil]; cases evA gs ρ <;> rfl
  | cons f fs ih =>
    rw [List.cons_append, evA_cons, ih, evA_cons]
    cases f ρ with
    | bad => rfl
    | exc c fs => rfl
    | ok d =>
      cases evA fs ρ with
      | bad => rfl
      | exc c fs => rfl
      | ok ds => cases evA gs ρ <;> rfl
theorem evA_length : ∀ {gs : List EF} {ρ : En} {ds : List D}, evA gs ρ = .ok ds → ds.length = gs.length := by
  intro gs
  induction gs with
  | nil => intro ρ ds h; cases h; rfl
  | cons g gs ih =>
    intro ρ ds h
    rw [evA_cons] at h
    cases hg : g ρ with
    | bad => rw [hg] at h; cases h
    | exc c fs => rw [hg] at h; cases h
    | ok d =>
      rw [hg] at h
      cases hq : evA gs ρ with
      | bad => rw [hq] at h; cases h
      | exc c fs => rw [hq] at h; cases h
      | ok es => rw [hq] at h; cases h; simp [ih hq]
/-- the call itself: values and keywords' values at hand -/
theorem kw_here {k n : Nat} {fa : Addr} {fd : FuncData} {ps : List Str} {sp : Sp} {gN : List Value → List Value → List Value} {gV : List V → List V → List V} {σ : St} {pn : List (Addr × Obj)} {H : Hp} {s : Shared} {Q : VK} {us ws : List Value} {vs zs : List V}
    (ok : FnOk X.prog X.w X.K X.mg X.base (L2.CX X.prog X.w) k fa fd ps sp) (room : Room k X.A) (bd : KBn X.K fd ps n ks gN gV) (tk : Takes X W) (inv : Inv X pn σ H s) (ru : Vals vs us) (rw : Vals zs ws) (nu : vs.length = n) (nw : zs.length = ks.length)
    (go : sp (gV vs zs) H Q (WE W σ)) : wpAny (model X.prog X.w) X.A (call (.ref fa) us (ks.zip ws)) (EP X pn σ Q) X.xe s := by
  have lu : us.length = n := ru.length ▸ nu
  have lw : ws.length = ks.length := rw.length ▸ nw
  have ran := ok.run X.A X.stack s H ⟨us, ks.zip ws⟩ _ _ Q (WE W σ) room inv.env0 (bd.to s us ws inv.kIn lu lw) (bd.rel ru rw) go
  refine wpAny_call (codeAny_mono ran ?_)
  rintro (err | flow) s' out
  · exact passAt tk σ pn H s err s' inv out
  · match flow, out with
    | .ret _, out => exact inv.after out
/-- what its parts come to -/
theorem kw_post {K : PySem.W.Frag} {L : Ad} {ρ : En} {σ : St} {H : Hp} {n m : Nat} {g : List D → Rs} {Q : VK} (re : RE K H L ρ σ) (nf : fs.length = n) (ng : gs.length = m) (pp : Post K W L σ H (eCall g (fs ++ gs) ρ) Q) :
    PostA K W L σ H (evA fs ρ) fun vs H1 => tA K W gs σ H1 fun zs H2 => vs.length = n ∧ zs.length = m ∧ spP K (n + m) g (vs ++ zs) H2 Q (WE W σ) := by
  unfold eCall at pp
  rw [evA_append] at pp
  cases hA : evA fs ρ with
  | bad => rw [hA] at pp; exact pp
  | exc c fs => rw [hA] at pp; exact pp
  | ok ds =>
    rw [hA] at pp
    intro H1 vs s1 r1
    refine ⟨L, ρ, re.mono s1, ?_⟩
    cases hB : evA gs ρ with
    | bad => rw [hB] at pp; exact pp
    | exc c fs => rw [hB] at pp; exact fun H' x s' => pp H' x (s1.trans s')
    | ok es =>
      rw [hB] at pp
      simp only [RL.bind_ok] at pp
      intro H2 zs s2 r2
      have l1 := evA_length hA
      have l2 := evA_length hB
      refine ⟨by rw [← r1.length, l1, nf], by rw [← r2.length, l2, ng], L, ds ++ es, re.lv.mono (s1.trans s2), by rw [List.length_append, l1, l2, nf, ng], (r1.mono s2).append r2, ?_⟩
      have p1 := pp.mono (s1.trans s2)
      cases hg : g (ds ++ es) with
      | bad => rw [hg] at p1; exact p1.elim
      | exc c fs => rw [hg] at p1; exact p1
      | ok d => rw [hg] at p1; exact p1
/-- the plain arguments of a call with keywords, as the model hands them on -/
abbrev KwNamed (X : Cx) (pos : Pos) (kws : List Keyword) : Prop := (backToKw pos (keywordEach kws X.env)).all (·.1.isSome) = true
abbrev KwPlain (X : Cx) (pos : Pos) (e : Expr) (es : List Expr) (kws : List Keyword) : Prop := ((backTo pos (starEach (e :: es) X.env)).any (·.1) || (backToKw pos (keywordEach kws X.env)).any (·.1.isNone)) = false
abbrev FstPlain (X : Cx) (e : Expr) (es : List Expr) : Prop := starEach (e :: es) X.env = (false, eval e X.env) :: starEach es X.env
/-- f(e, .., k = v, ..) -/
theorem se_callK {k n : Nat} {g : List D → Rs} (F : Dk X.prog X.w X.K X.mg X.base x k n ks g) (hr : Room k X.A) (tk : Takes X W) (ha : SA X W (e :: es) fs) (hkw : SK X W kws gs) (hfl : fs.length = n := by rfl) (hgl : gs.length = ks.length := by rfl) (hg : Gl X x := by rfl)
    (named : KwNamed X pos kws := by rfl) (hks : (backToKw pos (keywordEach kws X.env)).filterMap (·.1) = ks := by rfl) (hdb : (x == ("__debug__" : Str)) = false := by decide) (fst : FstPlain X e es := by rfl) (plain : KwPlain X pos e es kws := by rfl) :
    SE X W (.Call (.Name x p) (e :: es) kws pos) (eCall g (fs ++ gs)) := by
  obtain ⟨fa, fd, ps, hm, ok, kp, bd⟩ := F.ex
  constructor
  rintro pn s σ H Q inv ⟨L, ρ, re, pp⟩
  have parts := ha.run pos pn s σ H _ inv ⟨L, ρ, re, kw_post re hfl hgl pp⟩
  have whole := PySem.W.callWith_KW (h₀ := X.base) (f := .ref fa) (first := []) (Q := EP X pn σ Q) inv.ok.mod.kin kp named (thn parts ?_) plain fst
  · exact wpAny_Call_Name_kw (ld_glob inv hg hm whole hdb)
  · rintro us s1 ⟨vs, H1, inv1, ru, more⟩
    refine thn (hkw.run pos pn s1 σ H1 _ inv1 more) ?_
    rintro ws s2 ⟨zs, H2, inv2, rw, nu, nw, go⟩
    rw [hks]
    exact ⟨inv2.kIn, kw_here ok hr bd tk inv2 ru rw nu nw go⟩
end
/-! the end of a law -/
/-- the law's def is a function f of its script; f says True of every script: the row holds -/
theorem law_end {l : PySem.W.OpenLaw} {k : Nat} {q : Program} {loose : List Str} {XP : (Str → Option Value) → Heap → Prop} {YP : World → Heap → Prop} {d : DefRec} {f : List D → Rs} (most : l.most = some 63) (nodef : d.params.defaults = []) (room : Room k callerA)
    (plain : ∀ ns : List Int, ns.length ≤ 63 → f [rdL ns] = .ok (.bool true))
    (found : ∀ (w : World) (mg : Str → Option Value) (fa : Addr) (h : Heap), YP w h → h.Ns mainGlobals mg → mg d.name = some (.ref fa) → ∃ (K : PySem.W.Frag) (fd : FuncData), K.In h ∧ (∀ (s : Shared) (u : Value), BindsTo s fd ⟨[u], []⟩ [("script", u)]) ∧
      ∀ base : Heap, K.In base → base.Ns mainGlobals mg → FnOk l.prog w K mg base (L2.CX l.prog w) k fa fd ["script"] (spP K 1 f)) :
    PySem.W.WalkO q loose XP YP l.row.toRowW d [] (fun g us => PySem.call g us) :=
  Att.attach_call most nodef fun w _ st mg mb fa _ _ _ _ a vs ns ground said _ _ _ named obj whole short bare => by
    obtain ⟨K, fd, inn, binds, ok⟩ := found w mg fa _ said ground.T.g named
    refine law_call inn ground.T.g ground.T.b ground.T.builtins ground.T.nolimit bare obj whole (Nat.le_trans short (by decide)) room ok binds (fun H only seq => ?_) fun H e s' c => ?_
    · have lies : SqF K H a (ns.map V.int) := by
        rcases seq with (z | z) | z
        · rcases only a with y | ⟨o, xs, y⟩ <;> rw [z] at y <;> cases y
        · exact .inl z
        · exact .inr (.inr z)
      refine ⟨fun _ => False, [rdL ns], fun _ z => z.elim, rfl, .cons (.rd lies) .nil, ?_⟩
      rw [plain ns short]
      exact fun H' v _ r => r.blV
    · exact let ⟨_, _, _, _, _, _, _, _, _, _, _, _, z⟩ := c; z.elim
end VV

set_option Elab.async false
set_option linter.all false
set_option maxRecDepth 100000
set_option maxHeartbeats 4000000
/-! VVl: min and max of a list or a tuple of ints. -/
namespace VV
open PySem PySem.Spec L2
open PyProof.Rows hiding St
theorem foldl_max (ns : List Int) : ∀ n : Int, ns.foldl max n ∈ n :: ns ∧ ∀ y ∈ n :: ns, y ≤ ns.foldl max n := by
  induction ns with
  | nil => intro n; simp
  | cons m ns ih =>
    intro n
    obtain ⟨h1, h2⟩ := ih (max n m)
    rw [List.foldl_cons]
    refine ⟨?_, fun y hy => ?_⟩
    · rcases List.mem_cons.mp h1 with h | h
      · rw [h]
        rcases Int.le_total n m with q | q
        · rw [Int.max_eq_right q]; simp
        · rw [Int.max_eq_left q]; simp
      · simp [h]
    · have h3 := h2 (max n m) (by simp)
      simp only [List.mem_cons] at hy
      rcases hy with rfl | rfl | hy
      · omega
      · omega
      · exact h2 y (by simp [hy])
theorem foldl_min (ns : List Int) : ∀ n : Int, ns.foldl min n ∈ n :: ns ∧ ∀ y ∈ n :: ns, ns.foldl min n ≤ y := by
  induction ns with
  | nil => intro n; simp
  | cons m ns ih =>
    intro n
    obtain ⟨h1, h2⟩ := ih (min n m)
    rw [List.foldl_cons]
    refine ⟨?_, fun y hy => ?_⟩
    · rcases List.mem_cons.mp h1 with h | h
      · rw [h]
        rcases Int.le_total n m with q | q
        · rw [Int.min_eq_left q]; simp
        · rw [Int.min_eq_right q]; simp
      · simp [h]
    · have h3 := h2 (min n m) (by simp)
      simp only [List.mem_cons] at hy
      rcases hy with rfl | rfl | hy
      · omega
      · omega
      · exact h2 y (by simp [hy])
def bestI (f : Int → Int → Int) : List Int → Option D
  | [] => none
  | n :: ns => some (.int (ns.foldl f n))
def best1F (f : Int → Int → Int) : List D → Option D
  | [.list ds] => (intsOf ds).bind (bestI f)
  | [.tuple ds] => (intsOf ds).bind (bestI f)
  | _ => none
theorem readsAll_ints {h : Heap} {us : List Value} {ns : List Int} (hi : IntsAre us ns) : ReadsAll h us (ns.map PyData.int) [] := by
  induction hi with
  | nil => exact .nil
  | cons n t _ ih => exact ReadsAll.cons (as := []) (bs := []) (.int n t) ih
theorem depthAll_ints (ns : List Int) : PyData.depthAll (ns.map PyData.int) = 0 := by
  induction ns with
  | nil => rfl
  | cons n ns ih => simp [PyData.depthAll, PyData.depth, ih]
section
variable {X : Cx}
theorem alike_ints (ns : List Int) : PySem.W.AlikeAll (ns.map PyData.int) := by
  refine ⟨fun x hx y hy => ?_, fun x hx => ?_⟩
  · obtain ⟨i, _, rfl⟩ := List.mem_map.mp hx
    obtain ⟨j, _, rfl⟩ := List.mem_map.mp hy
    rfl
  · obtain ⟨i, _, rfl⟩ := List.mem_map.mp hx
    intro z
    cases z
theorem cl_max1 {k : Nat} (hr : Room k X.A) (hc : X.calm = true) : ClD X (.builtin "max") (best1F max) := by
  intro pn s σ H xs us Q I rs h
  obtain ⟨L, ds, d, lv, rb, hf, k⟩ := h
  unfold best1F at hf
  split at hf
  · obtain ⟨v, rfl, r⟩ := rb.one
    obtain ⟨a, vs, rfl, ha, rl⟩ := r.lstV
    obtain ⟨ns, e, hf2⟩ := Option.bind_eq_some_iff.mp hf
    have ed := intsOf_eq e
    subst ed
    have ev := rl.ints
    subst ev
    cases ns with
    | nil => cases hf2
    | cons n ns =>
      cases hf2
      refine cr_max hc pn s σ H _ us Q I rs ⟨a, n :: ns, rfl, SqL.of ha, by simp, fun m hm hle => ?_⟩
      obtain ⟨h1, h2⟩ := foldl_max ns n
      have e : m = ns.foldl max n := by have := hle _ h1; have := h2 _ hm; omega
      subst e
      exact k H _ (Same.refl H) (.int _)
  · obtain ⟨v, rfl, r⟩ := rb.one
    obtain ⟨a, vs, rfl, ha, rl⟩ := r.tupV
    obtain ⟨ns, e, hf2⟩ := Option.bind_eq_some_iff.mp hf
    have ed := intsOf_eq e
    subst ed
    have ev := rl.ints
    subst ev
    cases ns with
    | nil => cases hf2
    | cons n ns =>
      cases hf2
      obtain ⟨its, rv, hl, _⟩ := I.tuple (SqT.of ha)
      rw [Vals.ref1 rs]
      have hu := hr.un
      refine PySem.W.max_tuple_data (x := .int n) (xs := ns.map PyData.int) (vs := its.toArray) (I.ok.hd hc) (show s.heap.IsTuple a its.toArray from hl) (readsAll_ints (ns := n :: ns) rv.ints) (alike_ints (n :: ns)) (by rw [show PyData.int n :: ns.map PyData.int = (n :: ns).map PyData.int from rfl, depthAll_ints]; omega) fun i v h' tk bs _ rd hk => ?_
      rw [PySem.W.maxD_ints] at rd
      cases rd
      exact ⟨.int _, H, I.kept hk, ⟨_, rfl⟩, k H _ (Same.refl H) (.int _)⟩
  · cases hf
theorem cl_min1 {k : Nat} (hr : Room k X.A) (hc : X.calm = true) : ClD X (.builtin "min") (best1F min) := by
  intro pn s σ H xs us Q I rs h
  obtain ⟨L, ds, d, lv, rb, hf, k⟩ := h
  unfold best1F at hf
  split at hf
  · obtain ⟨v, rfl, r⟩ := rb.one
    obtain ⟨a, vs, rfl, ha, rl⟩ := r.lstV
    obtain ⟨ns, e, hf2⟩ := Option.bind_eq_some_iff.mp hf
    have ed := intsOf_eq e
    subst ed
    have ev := rl.ints
    subst ev
    cases ns with
    | nil => cases hf2
    | cons n ns =>
      cases hf2
      refine cr_min hc pn s σ H _ us Q I rs ⟨a, n :: ns, rfl, SqL.of ha, by simp, fun m hm hle => ?_⟩
      obtain ⟨h1, h2⟩ := foldl_min ns n
      have e : m = ns.foldl min n := by have := hle _ h1; have := h2 _ hm; omega
      subst e
      exact k H _ (Same.refl H) (.int _)
  · obtain ⟨v, rfl, r⟩ := rb.one
    obtain ⟨a, vs, rfl, ha, rl⟩ := r.tupV
    obtain ⟨ns, e, hf2⟩ := Option.bind_eq_some_iff.mp hf
    have ed := intsOf_eq e
    subst ed
    have ev := rl.ints
    subst ev
    cases ns with
    | nil => cases hf2
    | cons n ns =>
      cases hf2
      obtain ⟨its, rv, hl, _⟩ := I.tuple (SqT.of ha)
      rw [Vals.ref1 rs]
      have hu := hr.un
      refine PySem.W.min_tuple_data (x := .int n) (xs := ns.map PyData.int) (vs := its.toArray) (I.ok.hd hc) (show s.heap.IsTuple a its.toArray from hl) (readsAll_ints (ns := n :: ns) rv.ints) (alike_ints (n :: ns)) (by rw [show PyData.int n :: ns.map PyData.int = (n :: ns).map PyData.int from rfl, depthAll_ints]; omega) fun i v h' tk bs _ rd hk => ?_
      rw [PySem.W.minD_ints] at rd
      cases rd
      exact ⟨.int _, H, I.kept hk, ⟨_, rfl⟩, k H _ (Same.refl H) (.int _)⟩
  · cases hf
end
end VV

set_option Elab.async false
set_option linter.all false
set_option maxRecDepth 100000
set_option maxHeartbeats 4000000
/-! PLa: how the functions of the layer are worked out, by rewriting. -/
namespace VV
open PySem PySem.Spec L2
open PyProof.Rows hiding St

def seqO : Out → SF → Out
  | .nx ρ, g => g ρ
  | o, _ => o
theorem ap_sSeq (f g : SF) (ρ : En) : sSeq f g ρ = seqO (f ρ) g := by unfold sSeq seqO; cases f ρ <;> rfl
theorem seqO_nx (ρ : En) (g : SF) : seqO (.nx ρ) g = g ρ := rfl
theorem seqO_rt (d : D) (g : SF) : seqO (.rt d) g = .rt d := rfl
theorem seqO_exc (c : Str) (fs : List (Str × D)) (ρ : En) (g : SF) : seqO (.exc c fs ρ) g = .exc c fs ρ := rfl
theorem seqO_bk (ρ : En) (g : SF) : seqO (.bk ρ) g = .bk ρ := rfl
theorem seqO_ct (ρ : En) (g : SF) : seqO (.ct ρ) g = .ct ρ := rfl
def ifO : Rs → SF → SF → SF
  | .ok (.bool true), f, _, ρ => f ρ
  | .ok (.bool false), _, g, ρ => g ρ
  | .exc c fs, _, _, ρ => .exc c fs ρ
  | _, _, _, _ => .bad
theorem ap_sIf (c : EF) (f g : SF) (ρ : En) : sIf c f g ρ = ifO (c ρ) f g ρ := by
  unfold sIf ifO
  cases c ρ with
  | ok d => cases d with
    | bool b => cases b <;> rfl
    | _ => rfl
  | exc _ _ => rfl
  | bad => rfl
theorem ifO_t (f g : SF) (ρ : En) : ifO (.ok (.bool true)) f g ρ = f ρ := rfl
theorem ifO_f (f g : SF) (ρ : En) : ifO (.ok (.bool false)) f g ρ = g ρ := rfl
theorem ifO_exc (c : Str) (fs : List (Str × D)) (f g : SF) (ρ : En) : ifO (.exc c fs) f g ρ = .exc c fs ρ := rfl
theorem ap_sNx (ρ : En) : sNx ρ = .nx ρ := rfl
theorem ap_sSet (i : Nat) (f : EF) (ρ : En) : sSet i f ρ = (f ρ).out ρ fun d => .nx (ρ.set i (some (.val d))) := rfl
theorem ap_sOwn (i : Nat) (f : EF) (ρ : En) : sOwn i f ρ = (f ρ).out ρ fun d => .nx (ρ.set i (some (.own d))) := rfl
theorem ap_sRet (f : EF) (ρ : En) : sRet f ρ = (f ρ).out ρ fun d => .rt d := rfl
theorem ap_sDrop (f : EF) (ρ : En) : sDrop f ρ = (f ρ).out ρ fun _ => .nx ρ := rfl
theorem ap_sAsg (t : Tg) (f : EF) (ρ : En) : sAsg t f ρ = (f ρ).out ρ fun d => outB (bindT t d ρ) := rfl
theorem outB_some (ρ : En) : outB (some ρ) = .nx ρ := rfl
theorem bT_nm (i : Nat) (d : D) (ρ : En) : bindT (.nm i) d ρ = some (ρ.set i (some (.val d))) := by simp [bindT]
theorem bT_tp (ts : List Tg) (ds : List D) (ρ : En) : bindT (.tp ts) (.tuple ds) ρ = bindTs ts ds ρ := by simp [bindT]
theorem bTs_nil (ρ : En) : bindTs [] [] ρ = some ρ := by simp [bindTs]
theorem bTs_cons (t : Tg) (ts : List Tg) (d : D) (ds : List D) (ρ : En) : bindTs (t :: ts) (d :: ds) ρ = (bindT t d ρ).bind fun ρ => bindTs ts ds ρ := by simp [bindTs]
theorem ap_sRaise (c : Str) (ρ : En) : sRaise c ρ = .exc c [] ρ := rfl
def parO (i j : Nat) (ρ : En) : RL → Out
  | .ok [x, y] => .nx ((ρ.set i (some (.val x))).set j (some (.val y)))
  | .exc c fs => .exc c fs ρ
  | _ => .bad
theorem ap_sPar (i j : Nat) (fs : List EF) (ρ : En) : sPar i j fs ρ = parO i j ρ (evA fs ρ) := by
  unfold sPar parO RL.out
  cases evA fs ρ with
  | ok ds =>
    match ds with
    | [] => rfl
    | [_] => rfl
    | [_, _] => rfl
    | _ :: _ :: _ :: _ => rfl
  | exc _ _ => rfl
  | bad => rfl
theorem parO_ok (i j : Nat) (ρ : En) (x y : D) : parO i j ρ (.ok [x, y]) = .nx ((ρ.set i (some (.val x))).set j (some (.val y))) := rfl
theorem ap_sFor (fi : IF) (t : Tg) (f : SF) (ρ : En) : sFor fi t f ρ = (fi ρ).out ρ fun ds => forGo t f ds ρ := rfl
def retO : Option (Option Sl) → Out
  | some (some (.own d)) => .rt d
  | some (some (.val d)) => .rt d
  | _ => .bad
theorem ap_sRetV (i : Nat) (ρ : En) : sRetV i ρ = retO ρ[i]? := rfl
theorem retO_own (d : D) : retO (some (some (.own d))) = .rt d := rfl
theorem retO_val (d : D) : retO (some (some (.val d))) = .rt d := rfl
def frzO (i : Nat) (f : SF) (ρ : En) : Option (Option Sl) → Out
  | some (some (.own d)) => f (ρ.set i (some (.val d)))
  | some (some (.val _)) => f ρ
  | _ => .bad
theorem ap_sFrz (i : Nat) (f : SF) (ρ : En) : sFrz i f ρ = frzO i f ρ ρ[i]? := rfl
theorem frzO_own (i : Nat) (f : SF) (ρ : En) (d : D) : frzO i f ρ (some (some (.own d))) = f (ρ.set i (some (.val d))) := rfl
theorem frzO_val (i : Nat) (f : SF) (ρ : En) (d : D) : frzO i f ρ (some (some (.val d))) = f ρ := rfl
def appO (i : Nat) (ρ : En) (o : Option (Option Sl)) (r : Rs) : Out := match o with
  | some (some (.own (.list ds))) => r.out ρ fun d => if ds.length < sizeLine then .nx (ρ.set i (some (.own (.list (ds ++ [d]))))) else .bad
  | _ => .bad
theorem ap_sApp (i : Nat) (f : EF) (ρ : En) : sApp i f ρ = appO i ρ ρ[i]? (f ρ) := rfl
theorem appO_ok (i : Nat) (ρ : En) (ds : List D) (d : D) (h : ds.length < 16777216) : appO i ρ (some (some (.own (.list ds)))) (.ok d) = .nx (ρ.set i (some (.own (.list (ds ++ [d]))))) := if_pos h
def extO (i : Nat) (ρ : En) (o : Option (Option Sl)) (r : Rs) : Out := match o with
  | some (some (.own (.list ds))) => r.out ρ fun d => match d with
    | .list es => if ds.length + es.length ≤ sizeLine then .nx (ρ.set i (some (.own (.list (ds ++ es))))) else .bad
    | _ => .bad
  | _ => .bad
theorem extO_ok (i : Nat) (ρ : En) (ds es : List D) (h : ds.length + es.length ≤ 16777216) : extO i ρ (some (some (.own (.list ds)))) (.ok (.list es)) = .nx (ρ.set i (some (.own (.list (ds ++ es))))) := if_pos h
theorem ap_sExt (i : Nat) (f : EF) (ρ : En) : sExt i f ρ = extO i ρ ρ[i]? (f ρ) := rfl
/-! expressions -/
def valO : Option (Option Sl) → Rs
  | some (some (.val d)) => .ok d
  | _ => .bad
theorem ap_eV (i : Nat) (ρ : En) : eV i ρ = valO ρ[i]? := rfl
theorem valO_val (d : D) : valO (some (some (.val d))) = .ok d := rfl
def borO : Option (Option Sl) → Rs
  | some (some (.val d)) => .ok d
  | some (some (.own d)) => .ok d
  | _ => .bad
theorem ap_eB (i : Nat) (ρ : En) : eB i ρ = borO ρ[i]? := rfl
theorem borO_val (d : D) : borO (some (some (.val d))) = .ok d := rfl
theorem borO_own (d : D) : borO (some (some (.own d))) = .ok d := rfl
theorem ap_eC (d : D) (ρ : En) : eC d ρ = .ok d := rfl
def opO (fn : D → D → Option D) (x y : Rs) : Rs := x.bind fun x => y.bind fun y => Rs.of (fn x y)
theorem ap_eOp (fn : D → D → Option D) (f g : EF) (ρ : En) : eOp fn f g ρ = opO fn (f ρ) (g ρ) := rfl
theorem opO_ok (fn : D → D → Option D) (x y : D) : opO fn (.ok x) (.ok y) = Rs.of (fn x y) := rfl
theorem ap_eUn (fn : D → Option D) (f : EF) (ρ : En) : eUn fn f ρ = (f ρ).bind fun x => Rs.of (fn x) := rfl
theorem ap_eTup (fs : List EF) (ρ : En) : eTup fs ρ = (evA fs ρ).bind tupR := rfl
theorem ap_eLst (fs : List EF) (ρ : En) : eLst fs ρ = (evA fs ρ).bind lstR := rfl
theorem tupR_ok (ds : List D) (h : ds.length ≤ 16777216) : tupR ds = .ok (.tuple ds) := if_pos h
theorem lstR_ok (ds : List D) (h : ds.length ≤ 16777216) : lstR ds = .ok (.list ds) := if_pos h
theorem ap_eCB (fn : List D → Option D) (fs : List EF) (ρ : En) : eCB fn fs ρ = (evA fs ρ).bind fun ds => Rs.of (fn ds) := rfl
def callO (f : List D → Rs) (r : RL) : Rs := r.bind f
theorem ap_eCall (f : List D → Rs) (fs : List EF) (ρ : En) : eCall f fs ρ = callO f (evA fs ρ) := rfl
theorem callO_ok (f : List D → Rs) (ds : List D) : callO f (.ok ds) = f ds := Eq.trans rfl rfl
theorem callO_exc (f : List D → Rs) (c : Str) (fs : List (Str × D)) : callO f (.exc c fs) = .exc c fs := Eq.trans rfl rfl
theorem ap_gNot (f : EF) (ρ : En) : gNot f ρ = (f ρ).bind notR := rfl
theorem notR_b (b : Bool) : notR (.bool b) = .ok (.bool (!b)) := rfl
theorem ap_gTru (f : EF) (ρ : En) : gTru f ρ = (f ρ).bind truR := rfl
theorem truR_b (b : Bool) : truR (.bool b) = .ok (.bool b) := rfl
theorem truR_list (ds : List D) : truR (.list ds) = .ok (.bool (!ds.isEmpty)) := rfl
def andO : Rs → EF → EF
  | .ok (.bool true), g, ρ => g ρ
  | .ok (.bool false), _, _ => .ok (.bool false)
  | .exc c fs, _, _ => .exc c fs
  | _, _, _ => .bad
def orO : Rs → EF → EF
  | .ok (.bool false), g, ρ => g ρ
  | .ok (.bool true), _, _ => .ok (.bool true)
  | .exc c fs, _, _ => .exc c fs
  | _, _, _ => .bad
theorem ap_gAnd (f g : EF) (ρ : En) : gAnd f g ρ = andO (f ρ) g ρ := by
  unfold gAnd andO Rs.bind andR
  cases f ρ with
  | ok d => cases d with
    | bool b => cases b <;> rfl
    | _ => rfl
  | exc _ _ => rfl
  | bad => rfl
theorem ap_gOr (f g : EF) (ρ : En) : gOr f g ρ = orO (f ρ) g ρ := by
  unfold gOr orO Rs.bind orR
  cases f ρ with
  | ok d => cases d with
    | bool b => cases b <;> rfl
    | _ => rfl
  | exc _ _ => rfl
  | bad => rfl
theorem andO_t (g : EF) (ρ : En) : andO (.ok (.bool true)) g ρ = g ρ := rfl
theorem andO_f (g : EF) (ρ : En) : andO (.ok (.bool false)) g ρ = .ok (.bool false) := rfl
theorem orO_t (g : EF) (ρ : En) : orO (.ok (.bool true)) g ρ = .ok (.bool true) := rfl
theorem orO_f (g : EF) (ρ : En) : orO (.ok (.bool false)) g ρ = g ρ := rfl
/-- values: and, or of tests that are bools -/
def eandO : Rs → EF → EF
  | .ok d, g, ρ => (match tru d with
    | some true => g ρ
    | some false => .ok d
    | none => .bad)
  | .exc c fs, _, _ => .exc c fs
  | .bad, _, _ => .bad
def eorO : Rs → EF → EF
  | .ok d, g, ρ => (match tru d with
    | some true => .ok d
    | some false => g ρ
    | none => .bad)
  | .exc c fs, _, _ => .exc c fs
  | .bad, _, _ => .bad
theorem ap_eAnd (f g : EF) (ρ : En) : eAnd f g ρ = eandO (f ρ) g ρ := by
  unfold eAnd eandO Rs.bind
  cases f ρ <;> rfl
theorem ap_eOr (f g : EF) (ρ : En) : eOr f g ρ = eorO (f ρ) g ρ := by
  unfold eOr eorO Rs.bind
  cases f ρ <;> rfl
theorem eandO_t (g : EF) (ρ : En) : eandO (.ok (.bool true)) g ρ = g ρ := rfl
theorem eandO_f (g : EF) (ρ : En) : eandO (.ok (.bool false)) g ρ = .ok (.bool false) := rfl
theorem eorO_t (g : EF) (ρ : En) : eorO (.ok (.bool true)) g ρ = .ok (.bool true) := rfl
theorem eorO_f (g : EF) (ρ : En) : eorO (.ok (.bool false)) g ρ = g ρ := rfl
def enotO : Rs → Rs
  | .ok d => (match tru d with
    | some b => .ok (.bool (!b))
    | none => .bad)
  | .exc c fs => .exc c fs
  | .bad => .bad
theorem ap_eNot (f : EF) (ρ : En) : eNot f ρ = enotO (f ρ) := by
  unfold eNot enotO Rs.bind
  cases f ρ <;> rfl
theorem enotO_b (b : Bool) : enotO (.ok (.bool b)) = .ok (.bool (!b)) := rfl
theorem enotO_list (ds : List D) : enotO (.ok (.list ds)) = .ok (.bool (! !ds.isEmpty)) := rfl
def eifO : Rs → EF → EF → EF
  | .ok (.bool true), f, _, ρ => f ρ
  | .ok (.bool false), _, g, ρ => g ρ
  | .exc c fs, _, _, _ => .exc c fs
  | _, _, _, _ => .bad
theorem ap_eIf (c f g : EF) (ρ : En) : eIf c f g ρ = eifO (c ρ) f g ρ := by
  unfold eIf eifO Rs.bind ifR
  cases c ρ with
  | ok d => cases d with
    | bool b => cases b <;> rfl
    | _ => rfl
  | exc _ _ => rfl
  | bad => rfl
theorem eifO_t (f g : EF) (ρ : En) : eifO (.ok (.bool true)) f g ρ = f ρ := rfl
theorem eifO_f (f g : EF) (ρ : En) : eifO (.ok (.bool false)) f g ρ = g ρ := rfl
def chO (fn fn' : D → D → Option D) (x y : Rs) (h : EF) (ρ : En) : Rs := x.bind fun x => y.bind fun y => andO (Rs.of (fn x y)) (fun ρ => opO fn' (.ok y) (h ρ)) ρ
theorem ap_eChain (fn fn' : D → D → Option D) (f g h : EF) (ρ : En) : eChain fn fn' f g h ρ = chO fn fn' (f ρ) (g ρ) h ρ := by
  unfold eChain chO
  cases f ρ with
  | ok x =>
    cases g ρ with
    | ok y =>
      simp only [Rs.bind_ok]
      cases fn x y with
      | none => rfl
      | some d => cases d with
        | bool b => cases b <;> rfl
        | _ => rfl
    | exc _ _ => rfl
    | bad => rfl
  | exc _ _ => rfl
  | bad => rfl
theorem chO_ok (fn fn' : D → D → Option D) (x y : D) (h : EF) (ρ : En) : chO fn fn' (.ok x) (.ok y) h ρ = andO (Rs.of (fn x y)) (fun ρ => opO fn' (.ok y) (h ρ)) ρ := rfl
def isiO (g : D → Bool) : Rs → Rs
  | .ok (.dict _) => .bad
  | .ok d => .ok (.bool (g d))
  | .exc c fs => .exc c fs
  | .bad => .bad
theorem ap_eIsi (g : D → Bool) (f : EF) (ρ : En) : eIsi g f ρ = isiO g (f ρ) := by
  unfold eIsi isiO Rs.bind
  cases f ρ with
  | ok d => cases d <;> rfl
  | exc _ _ => rfl
  | bad => rfl
theorem isiO_int (g : D → Bool) (i : Int) : isiO g (.ok (.int i)) = .ok (.bool (g (.int i))) := rfl
theorem isiO_tup (g : D → Bool) (i : List D) : isiO g (.ok (.tuple i)) = .ok (.bool (g (.tuple i))) := rfl
theorem isiO_lst (g : D → Bool) (i : List D) : isiO g (.ok (.list i)) = .ok (.bool (g (.list i))) := rfl
theorem isiO_bl (g : D → Bool) (i : Bool) : isiO g (.ok (.bool i)) = .ok (.bool (g (.bool i))) := rfl
theorem isiO_str (g : D → Bool) (i : Str) : isiO g (.ok (.str i)) = .ok (.bool (g (.str i))) := rfl
theorem isiO_non (g : D → Bool) : isiO g (.ok .none) = .ok (.bool (g .none)) := rfl
theorem isInt_int (i : Int) : isInt (.int i) = true := rfl
theorem isInt_bl (b : Bool) : isInt (.bool b) = true := rfl
theorem isInt_tup (b : List D) : isInt (.tuple b) = false := rfl
theorem isInt_lst (b : List D) : isInt (.list b) = false := rfl
theorem isInt_str (b : Str) : isInt (.str b) = false := rfl
theorem isInt_non : isInt .none = false := rfl
theorem isBool_int (i : Int) : isBool (.int i) = false := rfl
theorem isBool_bl (b : Bool) : isBool (.bool b) = true := rfl
theorem isTup_tup (b : List D) : isTup (.tuple b) = true := rfl
theorem isTup_lst (b : List D) : isTup (.list b) = false := rfl
theorem isTup_int (b : Int) : isTup (.int b) = false := rfl
theorem isTup_non : isTup .none = false := rfl
theorem isTup_str (b : Str) : isTup (.str b) = false := rfl
theorem isTup_bl (b : Bool) : isTup (.bool b) = false := rfl
theorem isLst_lst (b : List D) : isLst (.list b) = true := rfl
theorem isLst_tup (b : List D) : isLst (.tuple b) = false := rfl
/-! functions of data -/
theorem f_add (i j : Int) : addF (.int i) (.int j) = some (.int (i + j)) := rfl
theorem f_sub (i j : Int) : subF (.int i) (.int j) = some (.int (i - j)) := rfl
theorem f_neg (i : Int) : negF (.int i) = some (.int (-i)) := rfl
theorem f_mod (i j : Int) (h : j ≠ 0) : modF (.int i) (.int j) = some (.int (i.fmod j)) := if_neg h
/-- by a positive number -/
theorem f_modP (i j : Int) (h : 0 < j) : modF (.int i) (.int j) = some (.int (i % j)) := by
  rw [f_mod i j (by omega), Int.fmod_eq_emod_of_nonneg i (by omega)]
theorem divOk_of {j : Int} (h : 0 < j) (h2 : j < 2 ^ 64) : divOk j = true := by
  unfold divOk
  simp only [Bool.and_eq_true, decide_eq_true_eq]
  refine ⟨by omega, ?_⟩
  have : j.natAbs < 2 ^ 64 := by omega
  have := (Nat.log2_lt (n := j.natAbs) (k := 64) (by omega)).2 this
  omega
theorem f_divP (i j : Int) (h : 0 < j) (h2 : j < 18446744073709551616) : divF (.int i) (.int j) = some (.int (i / j)) := by
  show (if divOk j = true then some (PyData.int (i.fdiv j)) else none) = _
  rw [if_pos (divOk_of h h2), Int.fdiv_eq_ediv_of_nonneg i (by omega)]
theorem f_mul (i j : Int) (h : (-18446744073709551616 < i ∧ i < 18446744073709551616) ∨ (-18446744073709551616 < j ∧ j < 18446744073709551616)) : mulF (.int i) (.int j) = some (.int (i * j)) := by
  show (if mulOk i j = true then some (PyData.int (i * j)) else none) = _
  rw [if_pos]
  unfold mulOk
  rw [Bool.or_eq_true]
  exact .inl (decide_eq_true h)
theorem f_lt (i j : Int) : ltF (.int i) (.int j) = some (.bool (decide (i < j))) := rfl
theorem f_le (i j : Int) : leF (.int i) (.int j) = some (.bool (decide (i ≤ j))) := rfl
theorem f_gt (i j : Int) : gtF (.int i) (.int j) = some (.bool (decide (j < i))) := rfl
theorem f_ge (i j : Int) : geF (.int i) (.int j) = some (.bool (decide (j ≤ i))) := rfl
theorem f_is (x : D) : isF x .none = some (.bool (isNone x)) := rfl
theorem f_isNot (x : D) : isNotF x .none = some (.bool (!isNone x)) := rfl
theorem isNone_int (i : Int) : isNone (.int i) = false := rfl
theorem isNone_tup (i : List D) : isNone (.tuple i) = false := rfl
theorem isNone_lst (i : List D) : isNone (.list i) = false := rfl
theorem isNone_non : isNone .none = true := rfl
theorem f_len_l (ds : List D) : lenF [.list ds] = some (.int ds.length) := rfl
theorem f_len_t (ds : List D) : lenF [.tuple ds] = some (.int ds.length) := rfl
theorem f_len_rd (ns : List Int) : lenF [rdL ns] = some (.int ns.length) := by simp [lenF, rdL, asRd]
theorem f_tup_l (ds : List D) : tupF [.list ds] = some (.tuple ds) := rfl
theorem f_tup_t (ds : List D) : tupF [.tuple ds] = some (.tuple ds) := rfl
theorem f_max2 (i j : Int) : max2F [.int i, .int j] = some (.int (max i j)) := by
  simp only [max2F]
  congr 2
  split <;> omega
theorem f_min2 (i j : Int) : min2F [.int i, .int j] = some (.int (min i j)) := by
  simp only [min2F]
  congr 2
  split <;> omega
theorem f_abs (i : Int) : absF [.int i] = some (.int (if i < 0 then -i else i)) := rfl
theorem f_sum_l (ns : List Int) : sumF [.list (ns.map PyData.int)] = some (.int ns.sum) := by simp [sumF, intsOf_map]
theorem f_sum_t (ns : List Int) : sumF [.tuple (ns.map PyData.int)] = some (.int ns.sum) := by simp [sumF, intsOf_map]
theorem atI_nat {α : Type} (xs : List α) (n : Nat) (h : n < xs.length) : L2.atI xs (n : Int) = some xs[n] := by
  unfold L2.atI L2.ixN
  rw [if_pos (by omega)]; rw [if_pos (by omega)]
  simp [h]
theorem f_ix_t (ds : List D) (i : Int) (h0 : 0 ≤ i) (h : i.toNat < ds.length) : ixF (.tuple ds) (.int i) = some ds[i.toNat] := by
  have := atI_nat ds i.toNat h
  rw [Int.toNat_of_nonneg h0] at this
  exact this
theorem f_ix_l (ds : List D) (i : Int) (h0 : 0 ≤ i) (h : i.toNat < ds.length) : ixF (.list ds) (.int i) = some ds[i.toNat] := by
  have := atI_nat ds i.toNat h
  rw [Int.toNat_of_nonneg h0] at this
  exact this
theorem f_ix0 (a : D) (r : List D) : ixF (.tuple (a :: r)) (.int 0) = some a := f_ix_t (a :: r) 0 (by decide) (by simp)
theorem f_ix1 (a b : D) (r : List D) : ixF (.tuple (a :: b :: r)) (.int 1) = some b := f_ix_t (a :: b :: r) 1 (by decide) (by simp)
theorem f_ix2 (a b c : D) (r : List D) : ixF (.tuple (a :: b :: c :: r)) (.int 2) = some c := f_ix_t (a :: b :: c :: r) 2 (by decide) (by simp)
theorem f_ix3 (a b c e : D) (r : List D) : ixF (.tuple (a :: b :: c :: e :: r)) (.int 3) = some e := f_ix_t (a :: b :: c :: e :: r) 3 (by decide) (by simp)
/-- one of a list of ints -/
theorem f_ix_row (ns : List Int) (i : Int) (h0 : 0 ≤ i) (h : i < ns.length) : ixF (.list (ns.map PyData.int)) (.int i) = some (.int (ns.getD i.toNat 0)) := by
  have h' : i.toNat < ns.length := by omega
  rw [f_ix_l _ i h0 (by simpa using h')]
  simp [h']
theorem f_ix_rowT (ns : List Int) (i : Int) (h0 : 0 ≤ i) (h : i < ns.length) : ixF (.tuple (ns.map PyData.int)) (.int i) = some (.int (ns.getD i.toNat 0)) := by
  have h' : i.toNat < ns.length := by omega
  rw [f_ix_t _ i h0 (by simpa using h')]
  simp [h']
theorem f_ix_rd (ns : List Int) (i : Int) (h0 : 0 ≤ i) (h : i < ns.length) : ixF (rdL ns) (.int i) = some (.int (ns.getD i.toNat 0)) := f_ix_row ns i h0 h
theorem f_rev_t (ds : List D) : revF (.tuple ds) = some (.tuple ds.reverse) := rfl
/-! runs -/
def outR : Out → Rs
  | .nx _ => .ok .none
  | .rt d => .ok d
  | .exc c fs _ => .exc c fs
  | _ => .bad
theorem outR_nx (ρ : En) : outR (.nx ρ) = .ok .none := rfl
theorem outR_rt (d : D) : outR (.rt d) = .ok d := rfl
theorem outR_exc (c : Str) (fs : List (Str × D)) (ρ : En) : outR (.exc c fs ρ) = .exc c fs := rfl
def nones : Nat → En
  | 0 => []
  | n + 1 => none :: nones n
theorem nones_eq (n : Nat) : List.replicate n (none : Option Sl) = nones n := by
  induction n with
  | zero => rfl
  | succ n ih => rw [List.replicate_succ, ih]; rfl
theorem nones0 : nones 0 = [] := rfl
theorem nonesS (n : Nat) : nones (n + 1) = none :: nones n := rfl
theorem runB_eq (n N : Nat) (f : SF) (ds : List D) (h : ds.length = n) : runB n N f ds = outR (f (ds.map (fun d => some (.val d)) ++ nones (N - n))) := by
  unfold runB outR
  rw [if_pos h, nones_eq]
  cases f (List.map (fun d => some (Sl.val d)) ds ++ nones (N - n)) <;> rfl
/-! comprehensions -/
theorem lcGo_map {i : Nat} {c e : EF} {ρ : En} (g : D → D) : ∀ (ds : List D), (∀ d ∈ ds, c (ρ.set i (some (.val d))) = .ok (.bool true) ∧ e (ρ.set i (some (.val d))) = .ok (g d)) → lcGo (.nm i) c e ρ ds = .ok (ds.map g)
  | [], _ => rfl
  | d :: ds, h => by
    obtain ⟨h1, h2⟩ := h d (by simp)
    have ih := lcGo_map g ds fun d' hd => h d' (by simp [hd])
    simp only [lcGo, lcOne, bT_nm, h1, h2, ih, RL.cons_ok, List.map_cons]
/-- nothing passes the test -/
theorem lcGo_none {i : Nat} {c e : EF} {ρ : En} : ∀ (ds : List D), (∀ d ∈ ds, c (ρ.set i (some (.val d))) = .ok (.bool false)) → lcGo (.nm i) c e ρ ds = .ok []
  | [], _ => rfl
  | d :: ds, h => by
    have h1 := h d (by simp)
    have ih := lcGo_none (e := e) ds fun d' hd => h d' (by simp [hd])
    simp only [lcGo, lcOne, bT_nm, h1, ih]
theorem eLc_map {vs : List Nat} {fi : IF} {i : Nat} {c e : EF} {ρ : En} (ds : List D) (g : D → D) (hi : fi ρ = .ok ds) (hl : ds.length ≤ 16777216) (h : ∀ d ∈ ds, c ((wipeE ρ vs).set i (some (.val d))) = .ok (.bool true) ∧ e ((wipeE ρ vs).set i (some (.val d))) = .ok (g d)) :
    eLc vs fi (.nm i) c e ρ = .ok (.list (ds.map g)) := by
  unfold eLc
  rw [hi, RL.bind_ok, lcGo_map g ds h, RL.bind_ok]
  exact lstR_ok _ (by simpa using hl)
theorem eLc_none {vs : List Nat} {fi : IF} {i : Nat} {c e : EF} {ρ : En} (ds : List D) (hi : fi ρ = .ok ds) (h : ∀ d ∈ ds, c ((wipeE ρ vs).set i (some (.val d))) = .ok (.bool false)) :
    eLc vs fi (.nm i) c e ρ = .ok (.list []) := by
  unfold eLc
  rw [hi, RL.bind_ok, lcGo_none ds h, RL.bind_ok]
  exact lstR_ok _ (by decide)
theorem wipeE_nil (ρ : En) : wipeE ρ [] = ρ := rfl
theorem wipeE_cons (ρ : En) (v : Nat) (vs : List Nat) : wipeE ρ (v :: vs) = (wipeE ρ vs).set v none := rfl
theorem ap_iSeq (f : EF) (ρ : En) : iSeq f ρ = (f ρ).items itF := rfl
theorem items_l (ds : List D) : (Rs.ok (.list ds)).items itF = .ok ds := rfl
theorem items_t (ds : List D) : (Rs.ok (.tuple ds)).items itF = .ok ds := rfl
theorem ap_iRange1 (fs : List EF) (ρ : En) : iRange1 fs ρ = (evA fs ρ).items rng1 := rfl
theorem ap_iRange2 (fs : List EF) (ρ : En) : iRange2 fs ρ = (evA fs ρ).items rng2 := rfl
theorem rng1_ok (j : Int) (h : -4611686018427387904 ≤ j) (h2 : j < 4611686018427387904) : (RL.ok [.int j]).items rng1 = .ok (rangeD 0 j.toNat) := by
  have e : smallI j = true := by simp only [smallI, Bool.and_eq_true, decide_eq_true_eq]; omega
  simp only [RL.items, rng1, e, if_true]
theorem rng2_ok (i j : Int) (h : -4611686018427387904 ≤ i ∧ i < 4611686018427387904 ∧ -4611686018427387904 ≤ j ∧ j < 4611686018427387904) : (RL.ok [.int i, .int j]).items rng2 = .ok (rangeD i (j - i).toNat) := by
  have e : (smallI i && smallI j) = true := by simp only [smallI, Bool.and_eq_true, decide_eq_true_eq]; omega
  simp only [RL.items, rng2, e, if_true]
theorem forGo_nil (t : Tg) (f : SF) (ρ : En) : forGo t f [] ρ = .nx ρ := rfl
/-- a turn that goes on -/
theorem forGo_nx {i : Nat} {f : SF} {d : D} {ds : List D} {ρ ρ2 : En} (h : f (ρ.set i (some (.val d))) = .nx ρ2) : forGo (.nm i) f (d :: ds) ρ = forGo (.nm i) f ds ρ2 := by
  simp only [forGo, forOne, bT_nm, h]
/-- a for whose turns go on: E k is the slots before turn k -/
theorem forGo_inv {i : Nat} {f : SF} (P : Nat → En → Prop) : ∀ (ds : List D) (k : Nat) (ρ : En), P k ρ → (∀ j ρ, P (k + j) ρ → ∀ d, ds[j]? = some d → ∃ ρ2, f (ρ.set i (some (.val d))) = .nx ρ2 ∧ P (k + j + 1) ρ2) → ∃ ρ', forGo (.nm i) f ds ρ = .nx ρ' ∧ P (k + ds.length) ρ'
  | [], k, ρ, h, _ => ⟨ρ, rfl, h⟩
  | d :: ds, k, ρ, h, hs => by
    obtain ⟨ρ2, e, h2⟩ := hs 0 ρ h d rfl
    obtain ⟨ρ', e', h'⟩ := forGo_inv P ds (k + 1) ρ2 h2 fun j ρ hj d hd => by
      have := hs (j + 1) ρ (by rw [show k + (j + 1) = k + 1 + j by omega]; exact hj) d (by simpa using hd)
      rw [show k + (j + 1) + 1 = k + 1 + j + 1 by omega] at this
      exact this
    exact ⟨ρ', by rw [forGo_nx e]; exact e', by rw [List.length_cons, show k + (ds.length + 1) = k + 1 + ds.length by omega]; exact h'⟩
theorem rangeD_get {lo : Int} {n j : Nat} {d : D} (h : (rangeD lo n)[j]? = some d) : j < n ∧ d = .int (lo + j) := by
  unfold rangeD at h
  rw [List.getElem?_map] at h
  by_cases hi : j < n
  · rw [List.getElem?_range hi] at h
    cases h
    exact ⟨hi, rfl⟩
  · rw [List.getElem?_eq_none (by simpa using hi)] at h
    cases h
theorem rangeD_length (lo : Int) (n : Nat) : (rangeD lo n).length = n := by simp [rangeD]
/-! equality of data -/
/-- data that can be compared, at most k deep -/
def Ly (k : Nat) (d : D) : Prop := d.canLay0 = true ∧ d.depth ≤ k
theorem Ly.int (k : Nat) (i : Int) : Ly k (.int i) := ⟨rfl, by simp [PyData.depth]⟩
theorem Ly.bool (k : Nat) (b : Bool) : Ly k (.bool b) := ⟨rfl, by simp [PyData.depth]⟩
theorem Ly.none (k : Nat) : Ly k .none := ⟨rfl, by simp [PyData.depth]⟩
theorem Ly.all {k : Nat} : ∀ {ds : List D}, (∀ d ∈ ds, Ly k d) → PyData.canLayAll0 ds = true ∧ PyData.depthAll ds ≤ k
  | [], _ => ⟨rfl, by simp [PyData.depthAll]⟩
  | d :: ds, h => by
    obtain ⟨a, b⟩ := h d (by simp)
    obtain ⟨c, e⟩ := Ly.all (ds := ds) fun d' hd => h d' (by simp [hd])
    refine ⟨by simp [PyData.canLayAll0, a, c], ?_⟩
    simp only [PyData.depthAll]
    omega
theorem Ly.tuple {k : Nat} {ds : List D} (h : ∀ d ∈ ds, Ly k d) : Ly (k + 1) (.tuple ds) := by
  obtain ⟨a, b⟩ := Ly.all h
  exact ⟨by simp [PyData.canLay0, a], by simp only [PyData.depth]; omega⟩
theorem Ly.list {k : Nat} {ds : List D} (h : ∀ d ∈ ds, Ly k d) : Ly (k + 1) (.list ds) := by
  obtain ⟨a, b⟩ := Ly.all h
  exact ⟨by simp [PyData.canLay0, a], by simp only [PyData.depth]; omega⟩
theorem Ly.mono {k m : Nat} {d : D} (h : Ly k d) (hm : k ≤ m) : Ly m d := ⟨h.1, Nat.le_trans h.2 hm⟩
theorem Ly.shaped {k : Nat} {d : D} (h : Ly k d) (hk : k ≤ 64) : SeqAt.shaped d = true := by
  unfold SeqAt.shaped
  rw [Bool.and_eq_true]
  exact ⟨h.1, decide_eq_true (Nat.le_trans h.2 hk)⟩
theorem eq_refl_of {k : Nat} {d : D} (h : Ly k d) : PyData.eqv d d = true := by
  exact PySem.SeqAt.eqv_refl d h.1
theorem f_eq {k : Nat} {x y : D} (hx : Ly k x) (hy : Ly k y) (hk : k ≤ 64) : eqF x y = some (.bool (PyData.eqv x y)) := if_pos (by rw [hx.shaped hk, hy.shaped hk]; rfl)
theorem f_ne {k : Nat} {x y : D} (hx : Ly k x) (hy : Ly k y) (hk : k ≤ 64) : neF x y = some (.bool (!PyData.eqv x y)) := if_pos (by rw [hx.shaped hk, hy.shaped hk]; rfl)
theorem f_eq_self {k : Nat} {x : D} (hx : Ly k x) (hk : k ≤ 64) : eqF x x = some (.bool true) := by rw [f_eq hx hx hk, eq_refl_of hx]
theorem f_ne_self {k : Nat} {x : D} (hx : Ly k x) (hk : k ≤ 64) : neF x x = some (.bool false) := by rw [f_ne hx hx hk, eq_refl_of hx]; rfl
theorem f_eqI (i j : Int) : eqF (.int i) (.int j) = some (.bool (decide (i = j))) := by
  rw [f_eq (Ly.int 0 i) (Ly.int 0 j) (by decide)]
  simp only [PyData.eqv]
  exact congrArg (fun b => some (PyData.bool b)) (by by_cases h : i = j <;> simp [h])
theorem f_neI (i j : Int) : neF (.int i) (.int j) = some (.bool (!decide (i = j))) := by
  rw [f_ne (Ly.int 0 i) (Ly.int 0 j) (by decide)]
  simp only [PyData.eqv]
  exact congrArg (fun b => some (PyData.bool b)) (by by_cases h : i = j <;> simp [h])
theorem f_eqB (i j : Bool) : eqF (.bool i) (.bool j) = some (.bool (i == j)) := by
  rw [f_eq (Ly.bool 0 i) (Ly.bool 0 j) (by decide)]
  simp only [PyData.eqv]
theorem f_neB (i j : Bool) : neF (.bool i) (.bool j) = some (.bool (!(i == j))) := by
  rw [f_ne (Ly.bool 0 i) (Ly.bool 0 j) (by decide)]
  simp only [PyData.eqv]
/-! over lists of anything -/
theorem eLc_mapA {α : Type} {vs : List Nat} {fi : IF} {i : Nat} {c e : EF} {ρ : En} (xs : List α) (emb f : α → D) (hi : fi ρ = .ok (xs.map emb)) (hl : xs.length ≤ 16777216) (h : ∀ x ∈ xs, c ((wipeE ρ vs).set i (some (.val (emb x)))) = .ok (.bool true) ∧ e ((wipeE ρ vs).set i (some (.val (emb x)))) = .ok (f x)) :
    eLc vs fi (.nm i) c e ρ = .ok (.list (xs.map f)) := by
  have key : ∀ (xs : List α), (∀ x ∈ xs, c ((wipeE ρ vs).set i (some (.val (emb x)))) = .ok (.bool true) ∧ e ((wipeE ρ vs).set i (some (.val (emb x)))) = .ok (f x)) → lcGo (.nm i) c e (wipeE ρ vs) (xs.map emb) = .ok (xs.map f) := by
    intro xs
    induction xs with
    | nil => intro _; rfl
    | cons x xs ih =>
      intro h
      obtain ⟨h1, h2⟩ := h x (by simp)
      have := ih fun y hy => h y (by simp [hy])
      simp only [List.map_cons, lcGo, lcOne, bT_nm, h1, h2, this, RL.cons_ok]
  unfold eLc
  rw [hi, RL.bind_ok, key xs h, RL.bind_ok]
  exact lstR_ok _ (by simpa using hl)
theorem eLc_noneA {α : Type} {vs : List Nat} {fi : IF} {i : Nat} {c e : EF} {ρ : En} (xs : List α) (emb : α → D) (hi : fi ρ = .ok (xs.map emb)) (h : ∀ x ∈ xs, c ((wipeE ρ vs).set i (some (.val (emb x)))) = .ok (.bool false)) :
    eLc vs fi (.nm i) c e ρ = .ok (.list []) := eLc_none _ hi fun d hd => by
  obtain ⟨x, hx, rfl⟩ := List.mem_map.mp hd
  exact h x hx
def rangeI (lo : Int) (n : Nat) : List Int := (List.range n).map fun (i : Nat) => lo + (i : Int)
theorem rangeD_eq (lo : Int) (n : Nat) : rangeD lo n = (rangeI lo n).map PyData.int := by simp [rangeD, rangeI]
theorem rangeI_length (lo : Int) (n : Nat) : (rangeI lo n).length = n := by simp [rangeI]
theorem mem_rangeI {lo x : Int} {n : Nat} : x ∈ rangeI lo n ↔ lo ≤ x ∧ x < lo + n := by
  unfold rangeI
  rw [List.mem_map]
  constructor
  · rintro ⟨i, hi, rfl⟩
    have := List.mem_range.mp hi
    omega
  · rintro ⟨h1, h2⟩
    exact ⟨(x - lo).toNat, List.mem_range.mpr (by omega), by omega⟩
theorem rangeI_succ (lo : Int) (n : Nat) : rangeI lo (n + 1) = rangeI lo n ++ [lo + n] := by
  unfold rangeI
  rw [List.range_succ, List.map_append]
  rfl
theorem rangeI_zero (lo : Int) : rangeI lo 0 = [] := rfl
/-- a for over ints, turn by turn: the slots before turn k satisfy P k -/
theorem forGo_rng {i : Nat} {f : SF} {lo : Int} {n : Nat} (P : Nat → En → Prop) {ρ : En} (h0 : P 0 ρ) (hs : ∀ k ρ, k < n → P k ρ → ∃ ρ2, f (ρ.set i (some (.val (.int (lo + k))))) = .nx ρ2 ∧ P (k + 1) ρ2) : ∃ ρ', forGo (.nm i) f (rangeD lo n) ρ = .nx ρ' ∧ P n ρ' := by
  obtain ⟨ρ', e, h⟩ := forGo_inv (i := i) (f := f) P (rangeD lo n) 0 ρ h0 fun j ρ hj d hd => by
    obtain ⟨h1, rfl⟩ := rangeD_get hd
    rw [Nat.zero_add] at hj ⊢
    exact hs j ρ h1 hj
  rw [Nat.zero_add, rangeD_length] at h
  exact ⟨ρ', e, h⟩
/-! slices, while -/
def optO (r : Rs) (k : Option Int → Rs) : Rs := r.bind fun d => match d with
  | .int i => k (some i)
  | _ => .bad
theorem optI_none (ρ : En) (k : Option Int → Rs) : optI none ρ k = k none := rfl
theorem optI_some (g : EF) (ρ : En) (k : Option Int → Rs) : optI (some g) ρ k = optO (g ρ) k := rfl
theorem optO_int (i : Int) (k : Option Int → Rs) : optO (.ok (.int i)) k = k (some i) := rfl
theorem ap_eSl (f : EF) (lo hi : Option EF) (ρ : En) : eSl f lo hi ρ = (f ρ).bind fun x => optI lo ρ fun l => optI hi ρ fun h => Rs.of (slF x l h) := rfl
theorem cutL_eq {α : Type} (xs : List α) (a b : Int) (h0 : 0 ≤ a) (h1 : a ≤ b) (h2 : b ≤ xs.length) : cutL xs (some a) (some b) = (xs.drop a.toNat).take (b - a).toNat := by
  unfold cutL
  have e1 : HT.sIx xs.length 0 (some a) = a.toNat := by
    show (if a < 0 then (a + (xs.length : Int)).toNat else min a.toNat xs.length) = _
    rw [if_neg (by omega)]
    omega
  have e2 : HT.sIx xs.length xs.length (some b) = b.toNat := by
    show (if b < 0 then (b + (xs.length : Int)).toNat else min b.toNat xs.length) = _
    rw [if_neg (by omega)]
    omega
  rw [e1, e2]
  congr 1
  omega
theorem ap_sWh (n : Nat) (c : EF) (f : SF) (ρ : En) : sWh n c f ρ = whGo c f n ρ := rfl
theorem whGo_f {c : EF} {f : SF} {n : Nat} {ρ : En} (h : c ρ = .ok (.bool false)) : whGo c f (n + 1) ρ = .nx ρ := by
  simp only [whGo, h, Rs.out_ok]
theorem whGo_t {c : EF} {f : SF} {n : Nat} {ρ ρ2 : En} (h : c ρ = .ok (.bool true)) (h2 : f ρ = .nx ρ2) : whGo c f (n + 1) ρ = whGo c f n ρ2 := by
  simp only [whGo, h, Rs.out_ok, h2]
theorem sum_bd (c : Int) : ∀ L : List Int, (∀ x ∈ L, -c ≤ x ∧ x ≤ c) → -(c * L.length) ≤ L.sum ∧ L.sum ≤ c * L.length
  | [], _ => by simp
  | x :: L, h => by
    have h1 := h x (by simp)
    have h2 := sum_bd c L fun y hy => h y (by simp [hy])
    rw [List.length_cons, List.sum_cons]
    have e : c * ((L.length + 1 : Nat) : Int) = c * L.length + c := by grind
    rw [e]
    omega
theorem f_best_l (f : Int → Int → Int) (n : Int) (ns : List Int) : best1F f [.list ((n :: ns).map PyData.int)] = some (.int (ns.foldl f n)) := by
  show (intsOf _).bind (bestI f) = _
  rw [intsOf_map]
  rfl
theorem f_best_t (f : Int → Int → Int) (n : Int) (ns : List Int) : best1F f [.tuple ((n :: ns).map PyData.int)] = some (.int (ns.foldl f n)) := by
  show (intsOf _).bind (bestI f) = _
  rw [intsOf_map]
  rfl
/-- two fors over ints -/
theorem eLc2_map {vs vs1 : List Nat} {fi fi1 : IF} {i j : Nat} {c c1 e : EF} {ρ : En} (xs : List Int) (ys : Int → List Int) (f : Int → Int → D) (hi : fi ρ = .ok (xs.map PyData.int)) (hl : (xs.flatMap fun x => (ys x).map (f x)).length ≤ 16777216)
    (h : ∀ x ∈ xs, c ((wipeE ρ vs).set i (some (.val (.int x)))) = .ok (.bool true) ∧ fi1 ((wipeE ρ vs).set i (some (.val (.int x)))) = .ok ((ys x).map PyData.int) ∧ ∀ y ∈ ys x, c1 ((wipeE ((wipeE ρ vs).set i (some (.val (.int x)))) vs1).set j (some (.val (.int y)))) = .ok (.bool true) ∧
      e ((wipeE ((wipeE ρ vs).set i (some (.val (.int x)))) vs1).set j (some (.val (.int y)))) = .ok (f x y)) : eLc2 vs vs1 fi (.nm i) c fi1 (.nm j) c1 e ρ = .ok (.list (xs.flatMap fun x => (ys x).map (f x))) := by
  have inner : ∀ (ρ1 : En) (g : Int → D) (zs : List Int), (∀ y ∈ zs, c1 (ρ1.set j (some (.val (.int y)))) = .ok (.bool true) ∧ e (ρ1.set j (some (.val (.int y)))) = .ok (g y)) → lcGo (.nm j) c1 e ρ1 (zs.map PyData.int) = .ok (zs.map g) := by
    intro ρ1 g zs
    induction zs with
    | nil => intro _; rfl
    | cons z zs ih =>
      intro h
      obtain ⟨h1, h2⟩ := h z (by simp)
      have := ih fun y hy => h y (by simp [hy])
      simp only [List.map_cons, lcGo, lcOne, bT_nm, h1, h2, this, RL.cons_ok]
  have key : ∀ (xs : List Int), (∀ x ∈ xs, c ((wipeE ρ vs).set i (some (.val (.int x)))) = .ok (.bool true) ∧ fi1 ((wipeE ρ vs).set i (some (.val (.int x)))) = .ok ((ys x).map PyData.int) ∧ ∀ y ∈ ys x, c1 ((wipeE ((wipeE ρ vs).set i (some (.val (.int x)))) vs1).set j (some (.val (.int y)))) = .ok (.bool true) ∧
      e ((wipeE ((wipeE ρ vs).set i (some (.val (.int x)))) vs1).set j (some (.val (.int y)))) = .ok (f x y)) → lc2Go vs1 (.nm i) c fi1 (.nm j) c1 e (wipeE ρ vs) (xs.map PyData.int) = .ok (xs.flatMap fun x => (ys x).map (f x)) := by
    intro xs
    induction xs with
    | nil => intro _; rfl
    | cons x xs ih =>
      intro h
      obtain ⟨h1, h2, h3⟩ := h x (by simp)
      have := ih fun y hy => h y (by simp [hy])
      simp only [List.map_cons, lc2Go, bT_nm, h1, h2, inner _ (f x) _ h3, this, List.flatMap_cons]
  unfold eLc2
  rw [hi, RL.bind_ok, key xs h]
  exact lstR_ok _ hl
end VV

set_option Elab.async false
set_option linter.all false
set_option maxRecDepth 100000
set_option maxHeartbeats 4000000
namespace VVlaw
open PySem PySem.Spec L2 VV
open PyProof.Rows hiding St
def b_is_within : SF := (sRet (eAnd (eIsi isInt (eV 0)) (eAnd (eNot (eIsi isBool (eV 0))) (eChain leF leF (eV 1) (eV 0) (eV 2)))))
def sem_is_within : List D → Rs := runB 3 3 b_is_within
def lp_common_1 : SF := (sPar 0 1 [(eV 1), (eOp modF (eV 0) (eV 1))])
def b_common : SF := (sSeq (sWh 1000000 (eOp neF (eV 1) (eC (.int 0))) lp_common_1) (sRet (eCB absF [(eV 0)])))
def sem_common : List D → Rs := runB 2 2 b_common
def b_least : SF := (sSeq (sSet 2 (eCall sem_common [(eV 0), (eV 1)])) (sSeq (sIf (eOp ltF (eV 1) (eC (.int 0))) (sSet 2 (eUn negF (eV 2))) sNx) (sRet (eTup [(eOp divF (eV 0) (eV 2)), (eOp divF (eV 1) (eV 2))]))))
def sem_least : List D → Rs := runB 2 3 b_least
def b_is_less : SF := (sRet (eOp ltF (eOp mulF (eOp ixF (eV 0) (eC (.int 0))) (eOp ixF (eV 1) (eC (.int 1)))) (eOp mulF (eOp ixF (eV 1) (eC (.int 0))) (eOp ixF (eV 0) (eC (.int 1))))))
def sem_is_less : List D → Rs := runB 2 2 b_is_less
def b_is_row : SF := (sSeq (sIf (gOr (gNot (gTru (eIsi isTup (eV 0)))) (eOp neF (eCB lenF [(eV 0)]) (eV 1))) (sRet (eC (.bool false))) sNx) (sRet (eNot (eLc [2] (iSeq (eV 0)) (.nm 2) (gNot (gTru (eCall sem_is_within [(eV 2), (eC (.int 0)), (eC (.int 255))]))) (eV 2)))))
def sem_is_row : List D → Rs := runB 2 3 b_is_row
def b_is_shot : SF := (sSeq (sIf (gOr (gNot (gTru (eIsi isTup (eV 0)))) (gOr (gNot (eChain leF leF (eC (.int 1)) (eCB lenF [(eV 0)]) (eC (.int 12)))) (gNot (gTru (eIsi isTup (eOp ixF (eV 0) (eC (.int 0)))))))) (sRet (eC (.bool false))) sNx) (sSeq (sIf (gNot (eChain leF leF (eC (.int 1)) (eCB lenF [(eOp ixF (eV 0) (eC (.int 0)))]) (eC (.int 12)))) (sRet (eC (.bool false))) sNx) (sRet (eNot (eLc [1] (iSeq (eV 0)) (.nm 1) (gNot (gTru (eCall sem_is_row [(eV 1), (eCB lenF [(eOp ixF (eV 0) (eC (.int 0)))])]))) (eV 1))))))
def sem_is_shot : List D → Rs := runB 1 2 b_is_shot
def b_look : SF := (sIf (gNot (gTru (eCall sem_is_shot [(eV 0)]))) (sRaise "BadShot") sNx)
def sem_look : List D → Rs := runB 1 1 b_look
def b_size_of : SF := (sRet (eTup [(eCB lenF [(eOp ixF (eV 0) (eC (.int 0)))]), (eCB lenF [(eV 0)])]))
def sem_size_of : List D → Rs := runB 1 1 b_size_of
def b_mirrored : SF := (sSeq (sDrop (eCall sem_look [(eV 0)])) (sRet (eCB tupF [(eLc [1] (iSeq (eV 0)) (.nm 1) (eC (.bool true)) (eUn revF (eV 1)))])))
def sem_mirrored : List D → Rs := runB 1 2 b_mirrored
def b_lit : SF := (sSeq (sDrop (eCall sem_look [(eV 0)])) (sSeq (sIf (gNot (gTru (eCall sem_is_within [(eV 1), (eUn negF (eC (.int 255))), (eC (.int 255))]))) (sRaise "BadShot") sNx) (sRet (eCB tupF [(eLc [2] (iSeq (eV 0)) (.nm 2) (eC (.bool true)) (eCB tupF [(eLc [3] (iSeq (eV 2)) (.nm 3) (eC (.bool true)) (eCB min2F [(eCB max2F [(eOp addF (eV 3) (eV 1)), (eC (.int 0))]), (eC (.int 255))]))]))]))))
def sem_lit : List D → Rs := runB 2 4 b_lit
def b_cut_out : SF := (sSeq (sDrop (eCall sem_look [(eV 0)])) (sSeq (sAsg (.tp [(.nm 5), (.nm 6)]) (eCall sem_size_of [(eV 0)])) (sSeq (sIf (gOr (gNot (gTru (eCall sem_is_within [(eV 1), (eC (.int 0)), (eOp subF (eV 5) (eC (.int 1)))]))) (gNot (gTru (eCall sem_is_within [(eV 2), (eC (.int 0)), (eOp subF (eV 6) (eC (.int 1)))])))) (sRaise "BadWindow") sNx) (sSeq (sIf (gOr (gNot (gTru (eCall sem_is_within [(eV 3), (eC (.int 1)), (eOp subF (eV 5) (eV 1))]))) (gNot (gTru (eCall sem_is_within [(eV 4), (eC (.int 1)), (eOp subF (eV 6) (eV 2))])))) (sRaise "BadWindow") sNx) (sRet (eCB tupF [(eLc [7] (iSeq (eSl (eV 0) (some (eV 2)) (some (eOp addF (eV 2) (eV 4))))) (.nm 7) (eC (.bool true)) (eSl (eV 7) (some (eV 1)) (some (eOp addF (eV 1) (eV 3)))))]))))))
def sem_cut_out : List D → Rs := runB 5 8 b_cut_out
def b_is_way : SF := (sSeq (sIf (gOr (gNot (gTru (eIsi isTup (eV 0)))) (eOp neF (eCB lenF [(eV 0)]) (eC (.int 2)))) (sRet (eC (.bool false))) sNx) (sRet (eNot (eLc [1] (iSeq (eV 0)) (.nm 1) (gNot (gTru (eCall sem_is_within [(eV 1), (eUn negF (eC (.int 12))), (eC (.int 12))]))) (eV 1)))))
def sem_is_way : List D → Rs := runB 1 2 b_is_way
def b_shared_of : SF := (sSeq (sAsg (.tp [(.nm 3), (.nm 4)]) (eCall sem_size_of [(eV 0)])) (sSeq (sAsg (.tp [(.nm 5), (.nm 6)]) (eCall sem_size_of [(eV 1)])) (sSeq (sPar 7 8 [(eCB max2F [(eC (.int 0)), (eOp ixF (eV 2) (eC (.int 0)))]), (eCB max2F [(eC (.int 0)), (eOp ixF (eV 2) (eC (.int 1)))])]) (sSeq (sPar 9 10 [(eCB min2F [(eV 3), (eOp addF (eOp ixF (eV 2) (eC (.int 0))) (eV 5))]), (eCB min2F [(eV 4), (eOp addF (eOp ixF (eV 2) (eC (.int 1))) (eV 6))])]) (sRet (eIf (gAnd (eOp ltF (eV 7) (eV 9)) (eOp ltF (eV 8) (eV 10))) (eTup [(eV 7), (eV 8), (eOp subF (eV 9) (eV 7)), (eOp subF (eV 10) (eV 8))]) (eC .none)))))))
def sem_shared_of : List D → Rs := runB 3 11 b_shared_of
def lp_steps_of_1 : SF := (sExt 8 (eLc [10] (iRange2 [(eV 4), (eOp addF (eV 4) (eV 6))]) (.nm 10) (eC (.bool true)) (eOp subF (eOp ixF (eOp ixF (eV 0) (eV 9)) (eV 10)) (eOp ixF (eOp ixF (eV 1) (eOp subF (eV 9) (eOp ixF (eV 2) (eC (.int 1))))) (eOp subF (eV 10) (eOp ixF (eV 2) (eC (.int 0))))))))
def b_steps_of : SF := (sSeq (sSet 3 (eCall sem_shared_of [(eV 0), (eV 1), (eV 2)])) (sSeq (sIf (eOp isF (eV 3) (eC .none)) (sRet (eLst [])) sNx) (sSeq (sAsg (.tp [(.nm 4), (.nm 5), (.nm 6), (.nm 7)]) (eV 3)) (sSeq (sOwn 8 (eLst [])) (sSeq (sFor (iRange2 [(eV 5), (eOp addF (eV 5) (eV 7))]) (.nm 9) lp_steps_of_1) (sRetV 8))))))
def sem_steps_of : List D → Rs := runB 3 11 b_steps_of
def b_unlike_of : SF := (sSeq (sSet 3 (eCall sem_steps_of [(eV 0), (eV 1), (eV 2)])) (sSeq (sIf (gNot (gTru (eV 3))) (sRet (eC .none)) sNx) (sSeq (sSet 4 (eCB lenF [(eV 3)])) (sRet (eCall sem_least [(eOp subF (eOp mulF (eV 4) (eCB sumF [(eLc [5] (iSeq (eV 3)) (.nm 5) (eC (.bool true)) (eOp mulF (eV 5) (eV 5)))])) (eOp mulF (eCB sumF [(eV 3)]) (eCB sumF [(eV 3)]))), (eOp mulF (eV 4) (eV 4))])))))
def sem_unlike_of : List D → Rs := runB 3 6 b_unlike_of
def b_look_two : SF := (sSeq (sDrop (eCall sem_look [(eV 0)])) (sSeq (sDrop (eCall sem_look [(eV 1)])) (sIf (gNot (gTru (eCall sem_is_way [(eV 2)]))) (sRaise "BadWay") sNx)))
def sem_look_two : List D → Rs := runB 3 3 b_look_two
def b_shared : SF := (sSeq (sDrop (eCall sem_look_two [(eV 0), (eV 1), (eV 2)])) (sRet (eCall sem_shared_of [(eV 0), (eV 1), (eV 2)])))
def sem_shared : List D → Rs := runB 3 3 b_shared
def b_unlike : SF := (sSeq (sDrop (eCall sem_look_two [(eV 0), (eV 1), (eV 2)])) (sRet (eCall sem_unlike_of [(eV 0), (eV 1), (eV 2)])))
def sem_unlike : List D → Rs := runB 3 3 b_unlike
def b_all_ways : SF := (sSeq (sAsg (.tp [(.nm 2), (.nm 3)]) (eCall sem_size_of [(eV 0)])) (sSeq (sAsg (.tp [(.nm 4), (.nm 5)]) (eCall sem_size_of [(eV 1)])) (sRet (eLc2 [6, 7] [7] (iRange2 [(eOp subF (eC (.int 1)) (eV 4)), (eV 2)]) (.nm 6) (eC (.bool true)) (iRange2 [(eOp subF (eC (.int 1)) (eV 5)), (eV 3)]) (.nm 7) (eC (.bool true)) (eTup [(eV 6), (eV 7)])))))
def sem_all_ways : List D → Rs := runB 2 8 b_all_ways
def lp_best_of_1 : SF := (sSeq (sSet 5 (eCB lenF [(eCall sem_steps_of [(eV 0), (eV 1), (eV 4)])])) (sIf (eOp geF (eV 5) (eV 2)) (sSeq (sSet 6 (eCall sem_unlike_of [(eV 0), (eV 1), (eV 4)])) (sIf (gOr (eOp isF (eV 3) (eC .none)) (gOr (gTru (eCall sem_is_less [(eV 6), (eOp ixF (eV 3) (eC (.int 1)))])) (gAnd (eOp eqF (eV 6) (eOp ixF (eV 3) (eC (.int 1)))) (eOp gtF (eV 5) (eOp ixF (eV 3) (eC (.int 2))))))) (sSet 3 (eTup [(eV 4), (eV 6), (eV 5)])) sNx)) sNx))
def b_best_of : SF := (sSeq (sSet 3 (eC .none)) (sSeq (sFor (iSeq (eCall sem_all_ways [(eV 0), (eV 1)])) (.nm 4) lp_best_of_1) (sRet (eIf (eOp isF (eV 3) (eC .none)) (eC .none) (eSl (eV 3) none (some (eC (.int 2))))))))
def sem_best_of : List D → Rs := runB 3 7 b_best_of
def b_look_cells : SF := (sIf (gNot (gTru (eCall sem_is_within [(eV 0), (eC (.int 1)), (eC (.int 144))]))) (sRaise "BadCount") sNx)
def sem_look_cells : List D → Rs := runB 1 1 b_look_cells
def b_best_way : SF := (sSeq (sDrop (eCall sem_look [(eV 0)])) (sSeq (sDrop (eCall sem_look [(eV 1)])) (sSeq (sDrop (eCall sem_look_cells [(eV 2)])) (sRet (eCall sem_best_of [(eV 0), (eV 1), (eV 2)])))))
def sem_best_way : List D → Rs := runB 3 3 b_best_way
def b__law_cell : SF := (sSeq (sIf (eOp ltF (eV 1) (eCB lenF [(eV 0)])) (sRet (eOp ixF (eV 0) (eV 1))) sNx) (sRet (eC (.int 0))))
def sem__law_cell : List D → Rs := runB 2 2 b__law_cell
def lp__law_row_1 : SF := (sIf (eOp ltF (eCall sem__law_cell [(eV 0), (eV 1)]) (eOp powF (eC (.int 10)) (eC (.int 18)))) (sSeq (sSet 2 (eOp modF (eOp addF (eOp addF (eOp addF (eOp mulF (eV 2) (eC (.int 48271))) (eOp mulF (eC (.int 131)) (eV 4))) (eC (.int 7))) (eCall sem__law_cell [(eV 0), (eOp modF (eOp addF (eOp addF (eV 1) (eC (.int 1))) (eV 4)) (eC (.int 20)))])) (eC (.int 2147483647)))) (sApp 3 (eOp modF (eOp divF (eV 2) (eC (.int 11))) (eC (.int 1000))))) (sSeq (sApp 3 (eOp modF (eV 2) (eC (.int 1000)))) (sSet 2 (eOp divF (eV 2) (eC (.int 1000))))))
def b__law_row : SF := (sSeq (sSet 2 (eCall sem__law_cell [(eV 0), (eV 1)])) (sSeq (sOwn 3 (eLst [])) (sSeq (sFor (iRange1 [(eC (.int 60))]) (.nm 4) lp__law_row_1) (sRetV 3))))
def sem__law_row : List D → Rs := runB 2 5 b__law_row
def lp__law_shot_1 : SF := (sSeq (sSet 9 (eOp ixF (eV 0) (eOp modF (eOp addF (eOp addF (eOp addF (eV 1) (eC (.int 2))) (eOp mulF (eC (.int 5)) (eV 6))) (eV 8)) (eC (.int 60))))) (sApp 7 (eOp ixF (eLst [(eOp modF (eOp mulF (eV 9) (eC (.int 7))) (eC (.int 256))), (eOp mulF (eOp modF (eV 9) (eC (.int 3))) (eC (.int 60))), (eOp modF (eOp ixF (eV 0) (eOp modF (eV 1) (eC (.int 60)))) (eC (.int 256)))]) (eOp modF (eV 2) (eC (.int 3))))))
def lp__law_shot_2 : SF := (sSeq (sOwn 7 (eLst [])) (sSeq (sFor (iRange1 [(eV 4)]) (.nm 8) lp__law_shot_1) (sApp 5 (eCB tupF [(eB 7)]))))
def b__law_shot : SF := (sSeq (sPar 3 4 [(eOp addF (eC (.int 1)) (eOp modF (eOp ixF (eV 0) (eOp modF (eV 1) (eC (.int 60)))) (eC (.int 5)))), (eOp addF (eC (.int 1)) (eOp modF (eOp divF (eOp ixF (eV 0) (eOp modF (eOp addF (eV 1) (eC (.int 1))) (eC (.int 60)))) (eC (.int 5))) (eC (.int 5))))]) (sSeq (sOwn 5 (eLst [])) (sSeq (sFor (iRange1 [(eV 3)]) (.nm 6) lp__law_shot_2) (sRet (eCB tupF [(eB 5)])))))
def sem__law_shot : List D → Rs := runB 3 10 b__law_shot
end VVlaw

set_option Elab.async false
set_option linter.all false
set_option maxRecDepth 100000
set_option maxHeartbeats 4000000
/-! PLb: shots; what the small defs come to. -/
namespace VVlaw
open PySem PySem.Spec L2 VV
open PyProof.Rows hiding St
def rowD (r : List Int) : D := .tuple (r.map PyData.int)
def shD (s : List (List Int)) : D := .tuple (s.map rowD)
structure Sh (s : List (List Int)) (h w : Nat) : Prop where
  len : s.length = h
  h1 : 1 ≤ h
  h2 : h ≤ 12
  w1 : 1 ≤ w
  w2 : w ≤ 12
  row : ∀ r ∈ s, r.length = w
  lev : ∀ r ∈ s, ∀ v ∈ r, 0 ≤ v ∧ v ≤ 255
/-- the row y -/
def rw' (s : List (List Int)) (y : Int) : List Int := s.getD y.toNat []
def cell (s : List (List Int)) (y x : Int) : Int := (rw' s y).getD x.toNat 0
theorem Sh.mem {s : List (List Int)} {h w : Nat} (S : Sh s h w) {y : Int} (h0 : 0 ≤ y) (h1 : y < h) : rw' s y ∈ s := by
  unfold rw'
  have : y.toNat < s.length := by rw [S.len]; omega
  rw [List.getD_eq_getElem?_getD, List.getElem?_eq_getElem this]
  exact List.getElem_mem this
theorem Sh.rlen {s : List (List Int)} {h w : Nat} (S : Sh s h w) {y : Int} (h0 : 0 ≤ y) (h1 : y < h) : (rw' s y).length = w := S.row _ (S.mem h0 h1)
theorem isi_row (g : D → Bool) (r : List Int) : isiO g (.ok (rowD r)) = .ok (.bool (g (rowD r))) := rfl
theorem isi_sh (g : D → Bool) (r : List (List Int)) : isiO g (.ok (shD r)) = .ok (.bool (g (shD r))) := rfl
theorem isTup_row (r : List Int) : isTup (rowD r) = true := rfl
theorem isTup_sh (r : List (List Int)) : isTup (shD r) = true := rfl
theorem len_row (r : List Int) : lenF [rowD r] = some (.int r.length) := by simp [rowD, lenF]
theorem len_sh (r : List (List Int)) : lenF [shD r] = some (.int r.length) := by simp [shD, lenF]
theorem ix_row (r : List Int) (x : Int) (h0 : 0 ≤ x) (h : x < r.length) : ixF (rowD r) (.int x) = some (.int (r.getD x.toNat 0)) := f_ix_rowT r x h0 h
theorem ix_sh (s : List (List Int)) (y : Int) (h0 : 0 ≤ y) (h : y < s.length) : ixF (shD s) (.int y) = some (rowD (rw' s y)) := by
  have h' : y.toNat < s.length := by omega
  unfold shD
  rw [f_ix_t _ y h0 (by simpa using h')]
  simp [rw', h']
theorem items_row (r : List Int) : (Rs.ok (rowD r)).items itF = .ok (r.map PyData.int) := rfl
theorem items_sh (s : List (List Int)) : (Rs.ok (shD s)).items itF = .ok (s.map rowD) := rfl
theorem is_within_eq (v a b : Int) : sem_is_within [.int v, .int a, .int b] = .ok (.bool (decide (a ≤ v ∧ v ≤ b))) := by
  simp -implicitDefEqProofs only [sem_is_within, b_is_within, ap_sSeq, seqO_nx, seqO_rt, seqO_exc, ap_sIf, ifO_t, ifO_f, ifO_exc, ap_sNx, ap_sSet, ap_sOwn, ap_sRet, ap_sDrop, ap_sAsg, outB_some, bT_nm, bT_tp, bTs_nil, bTs_cons, ap_sRaise, ap_sPar, parO_ok, ap_sFor, ap_sRetV, retO_own, retO_val, ap_sFrz, frzO_own, frzO_val, ap_sApp, ap_sExt, ap_eV, valO_val, ap_eB, borO_val, borO_own, ap_eC, ap_eOp, opO_ok, ap_eUn, ap_eTup, ap_eLst, tupR_ok, lstR_ok, ap_eCB, ap_eCall, callO_ok, callO_exc, ap_gNot, notR_b, ap_gTru, truR_b, truR_list, ap_gAnd, ap_gOr, andO_t, andO_f, orO_t, orO_f, ap_eAnd, ap_eOr, eandO_t, eandO_f, eorO_t, eorO_f, ap_eNot, enotO_b, enotO_list, ap_eIf, eifO_t, eifO_f, ap_eChain, chO_ok, ap_eIsi, isiO_int, isiO_tup, isiO_lst, isiO_bl, isiO_str, isiO_non, isInt_int, isInt_bl, isInt_tup, isInt_lst, isInt_str, isInt_non, isBool_int, isBool_bl, isTup_tup, isTup_lst, isTup_int, isTup_non, isTup_str, isTup_bl, isLst_lst, isLst_tup, f_add, f_sub, f_neg, f_eqI, f_neI, f_eqB, f_neB, f_lt, f_le, f_gt, f_ge, f_is, f_isNot, isNone_int, isNone_tup, isNone_lst, isNone_non, f_len_l, f_len_t, f_len_rd, f_tup_l, f_tup_t, f_max2, f_min2, f_abs, f_sum_l, f_sum_t, f_ix0, f_ix1, f_ix2, f_ix3, f_rev_t, outR_nx, outR_rt, outR_exc, nones0, nonesS, runB_eq, ap_eSl, optI_none, optI_some, optO_int, ap_sWh, ap_iSeq, items_l, items_t, ap_iRange1, ap_iRange2, wipeE_nil, wipeE_cons, evA_nil, evA_cons, RL.cons_ok, RL.cons_exc, RL.bind_ok, RL.bind_exc, RL.out_ok, RL.out_exc, Rs.bind_ok, Rs.bind_exc, Rs.out_ok, Rs.out_exc, Rs.of_some, Option.bind_some, List.getElem?_cons_zero, List.getElem?_cons_succ, List.set_cons_zero, List.set_cons_succ, List.map_cons, List.map_nil, List.cons_append, List.nil_append, List.length_cons, List.length_nil, Nat.reduceAdd, Nat.reduceSub, Nat.reduceLeDiff, Nat.reduceLT, Bool.not_true, Bool.not_false, decide_true, decide_false]
  by_cases h : a ≤ v <;> simp -implicitDefEqProofs only [ap_sSeq, seqO_nx, seqO_rt, seqO_exc, ap_sIf, ifO_t, ifO_f, ifO_exc, ap_sNx, ap_sSet, ap_sOwn, ap_sRet, ap_sDrop, ap_sAsg, outB_some, bT_nm, bT_tp, bTs_nil, bTs_cons, ap_sRaise, ap_sPar, parO_ok, ap_sFor, ap_sRetV, retO_own, retO_val, ap_sFrz, frzO_own, frzO_val, ap_sApp, ap_sExt, ap_eV, valO_val, ap_eB, borO_val, borO_own, ap_eC, ap_eOp, opO_ok, ap_eUn, ap_eTup, ap_eLst, tupR_ok, lstR_ok, ap_eCB, ap_eCall, callO_ok, callO_exc, ap_gNot, notR_b, ap_gTru, truR_b, truR_list, ap_gAnd, ap_gOr, andO_t, andO_f, orO_t, orO_f, ap_eAnd, ap_eOr, eandO_t, eandO_f, eorO_t, eorO_f, ap_eNot, enotO_b, enotO_list, ap_eIf, eifO_t, eifO_f, ap_eChain, chO_ok, ap_eIsi, isiO_int, isiO_tup, isiO_lst, isiO_bl, isiO_str, isiO_non, isInt_int, isInt_bl, isInt_tup, isInt_lst, isInt_str, isInt_non, isBool_int, isBool_bl, isTup_tup, isTup_lst, isTup_int, isTup_non, isTup_str, isTup_bl, isLst_lst, isLst_tup, f_add, f_sub, f_neg, f_eqI, f_neI, f_eqB, f_neB, f_lt, f_le, f_gt, f_ge, f_is, f_isNot, isNone_int, isNone_tup, isNone_lst, isNone_non, f_len_l, f_len_t, f_len_rd, f_tup_l, f_tup_t, f_max2, f_min2, f_abs, f_sum_l, f_sum_t, f_ix0, f_ix1, f_ix2, f_ix3, f_rev_t, outR_nx, outR_rt, outR_exc, nones0, nonesS, runB_eq, ap_eSl, optI_none, optI_some, optO_int, ap_sWh, ap_iSeq, items_l, items_t, ap_iRange1, ap_iRange2, wipeE_nil, wipeE_cons, evA_nil, evA_cons, RL.cons_ok, RL.cons_exc, RL.bind_ok, RL.bind_exc, RL.out_ok, RL.out_exc, Rs.bind_ok, Rs.bind_exc, Rs.out_ok, Rs.out_exc, Rs.of_some, Option.bind_some, List.getElem?_cons_zero, List.getElem?_cons_succ, List.set_cons_zero, List.set_cons_succ, List.map_cons, List.map_nil, List.cons_append, List.nil_append, List.length_cons, List.length_nil, Nat.reduceAdd, Nat.reduceSub, Nat.reduceLeDiff, Nat.reduceLT, Bool.not_true, Bool.not_false, decide_true, decide_false, h, true_and, false_and]
theorem is_row_eq (r : List Int) (w : Nat) (hr : r.length = w) (hv : ∀ v ∈ r, 0 ≤ v ∧ v ≤ 255) : sem_is_row [rowD r, .int w] = .ok (.bool true) := by
  simp -implicitDefEqProofs only [sem_is_row, b_is_row, isi_row, isTup_row, len_row, hr, ap_sSeq, seqO_nx, seqO_rt, seqO_exc, ap_sIf, ifO_t, ifO_f, ifO_exc, ap_sNx, ap_sSet, ap_sOwn, ap_sRet, ap_sDrop, ap_sAsg, outB_some, bT_nm, bT_tp, bTs_nil, bTs_cons, ap_sRaise, ap_sPar, parO_ok, ap_sFor, ap_sRetV, retO_own, retO_val, ap_sFrz, frzO_own, frzO_val, ap_sApp, ap_sExt, ap_eV, valO_val, ap_eB, borO_val, borO_own, ap_eC, ap_eOp, opO_ok, ap_eUn, ap_eTup, ap_eLst, tupR_ok, lstR_ok, ap_eCB, ap_eCall, callO_ok, callO_exc, ap_gNot, notR_b, ap_gTru, truR_b, truR_list, ap_gAnd, ap_gOr, andO_t, andO_f, orO_t, orO_f, ap_eAnd, ap_eOr, eandO_t, eandO_f, eorO_t, eorO_f, ap_eNot, enotO_b, enotO_list, ap_eIf, eifO_t, eifO_f, ap_eChain, chO_ok, ap_eIsi, isiO_int, isiO_tup, isiO_lst, isiO_bl, isiO_str, isiO_non, isInt_int, isInt_bl, isInt_tup, isInt_lst, isInt_str, isInt_non, isBool_int, isBool_bl, isTup_tup, isTup_lst, isTup_int, isTup_non, isTup_str, isTup_bl, isLst_lst, isLst_tup, f_add, f_sub, f_neg, f_eqI, f_neI, f_eqB, f_neB, f_lt, f_le, f_gt, f_ge, f_is, f_isNot, isNone_int, isNone_tup, isNone_lst, isNone_non, f_len_l, f_len_t, f_len_rd, f_tup_l, f_tup_t, f_max2, f_min2, f_abs, f_sum_l, f_sum_t, f_ix0, f_ix1, f_ix2, f_ix3, f_rev_t, outR_nx, outR_rt, outR_exc, nones0, nonesS, runB_eq, ap_eSl, optI_none, optI_some, optO_int, ap_sWh, ap_iSeq, items_l, items_t, ap_iRange1, ap_iRange2, wipeE_nil, wipeE_cons, evA_nil, evA_cons, RL.cons_ok, RL.cons_exc, RL.bind_ok, RL.bind_exc, RL.out_ok, RL.out_exc, Rs.bind_ok, Rs.bind_exc, Rs.out_ok, Rs.out_exc, Rs.of_some, Option.bind_some, List.getElem?_cons_zero, List.getElem?_cons_succ, List.set_cons_zero, List.set_cons_succ, List.map_cons, List.map_nil, List.cons_append, List.nil_append, List.length_cons, List.length_nil, Nat.reduceAdd, Nat.reduceSub, Nat.reduceLeDiff, Nat.reduceLT, Bool.not_true, Bool.not_false, decide_true, decide_false]
  rw [eLc_noneA r PyData.int (by simp -implicitDefEqProofs only [items_row, ap_sSeq, seqO_nx, seqO_rt, seqO_exc, ap_sIf, ifO_t, ifO_f, ifO_exc, ap_sNx, ap_sSet, ap_sOwn, ap_sRet, ap_sDrop, ap_sAsg, outB_some, bT_nm, bT_tp, bTs_nil, bTs_cons, ap_sRaise, ap_sPar, parO_ok, ap_sFor, ap_sRetV, retO_own, retO_val, ap_sFrz, frzO_own, frzO_val, ap_sApp, ap_sExt, ap_eV, valO_val, ap_eB, borO_val, borO_own, ap_eC, ap_eOp, opO_ok, ap_eUn, ap_eTup, ap_eLst, tupR_ok, lstR_ok, ap_eCB, ap_eCall, callO_ok, callO_exc, ap_gNot, notR_b, ap_gTru, truR_b, truR_list, ap_gAnd, ap_gOr, andO_t, andO_f, orO_t, orO_f, ap_eAnd, ap_eOr, eandO_t, eandO_f, eorO_t, eorO_f, ap_eNot, enotO_b, enotO_list, ap_eIf, eifO_t, eifO_f, ap_eChain, chO_ok, ap_eIsi, isiO_int, isiO_tup, isiO_lst, isiO_bl, isiO_str, isiO_non, isInt_int, isInt_bl, isInt_tup, isInt_lst, isInt_str, isInt_non, isBool_int, isBool_bl, isTup_tup, isTup_lst, isTup_int, isTup_non, isTup_str, isTup_bl, isLst_lst, isLst_tup, f_add, f_sub, f_neg, f_eqI, f_neI, f_eqB, f_neB, f_lt, f_le, f_gt, f_ge, f_is, f_isNot, isNone_int, isNone_tup, isNone_lst, isNone_non, f_len_l, f_len_t, f_len_rd, f_tup_l, f_tup_t, f_max2, f_min2, f_abs, f_sum_l, f_sum_t, f_ix0, f_ix1, f_ix2, f_ix3, f_rev_t, outR_nx, outR_rt, outR_exc, nones0, nonesS, runB_eq, ap_eSl, optI_none, optI_some, optO_int, ap_sWh, ap_iSeq, items_l, items_t, ap_iRange1, ap_iRange2, wipeE_nil, wipeE_cons, evA_nil, evA_cons, RL.cons_ok, RL.cons_exc, RL.bind_ok, RL.bind_exc, RL.out_ok, RL.out_exc, Rs.bind_ok, Rs.bind_exc, Rs.out_ok, Rs.out_exc, Rs.of_some, Option.bind_some, List.getElem?_cons_zero, List.getElem?_cons_succ, List.set_cons_zero, List.set_cons_succ, List.map_cons, List.map_nil, List.cons_append, List.nil_append, List.length_cons, List.length_nil, Nat.reduceAdd, Nat.reduceSub, Nat.reduceLeDiff, Nat.reduceLT, Bool.not_true, Bool.not_false, decide_true, decide_false]) fun v hv' => ?_]
  · simp -implicitDefEqProofs only [ap_sSeq, seqO_nx, seqO_rt, seqO_exc, ap_sIf, ifO_t, ifO_f, ifO_exc, ap_sNx, ap_sSet, ap_sOwn, ap_sRet, ap_sDrop, ap_sAsg, outB_some, bT_nm, bT_tp, bTs_nil, bTs_cons, ap_sRaise, ap_sPar, parO_ok, ap_sFor, ap_sRetV, retO_own, retO_val, ap_sFrz, frzO_own, frzO_val, ap_sApp, ap_sExt, ap_eV, valO_val, ap_eB, borO_val, borO_own, ap_eC, ap_eOp, opO_ok, ap_eUn, ap_eTup, ap_eLst, tupR_ok, lstR_ok, ap_eCB, ap_eCall, callO_ok, callO_exc, ap_gNot, notR_b, ap_gTru, truR_b, truR_list, ap_gAnd, ap_gOr, andO_t, andO_f, orO_t, orO_f, ap_eAnd, ap_eOr, eandO_t, eandO_f, eorO_t, eorO_f, ap_eNot, enotO_b, enotO_list, ap_eIf, eifO_t, eifO_f, ap_eChain, chO_ok, ap_eIsi, isiO_int, isiO_tup, isiO_lst, isiO_bl, isiO_str, isiO_non, isInt_int, isInt_bl, isInt_tup, isInt_lst, isInt_str, isInt_non, isBool_int, isBool_bl, isTup_tup, isTup_lst, isTup_int, isTup_non, isTup_str, isTup_bl, isLst_lst, isLst_tup, f_add, f_sub, f_neg, f_eqI, f_neI, f_eqB, f_neB, f_lt, f_le, f_gt, f_ge, f_is, f_isNot, isNone_int, isNone_tup, isNone_lst, isNone_non, f_len_l, f_len_t, f_len_rd, f_tup_l, f_tup_t, f_max2, f_min2, f_abs, f_sum_l, f_sum_t, f_ix0, f_ix1, f_ix2, f_ix3, f_rev_t, outR_nx, outR_rt, outR_exc, nones0, nonesS, runB_eq, ap_eSl, optI_none, optI_some, optO_int, ap_sWh, ap_iSeq, items_l, items_t, ap_iRange1, ap_iRange2, wipeE_nil, wipeE_cons, evA_nil, evA_cons, RL.cons_ok, RL.cons_exc, RL.bind_ok, RL.bind_exc, RL.out_ok, RL.out_exc, Rs.bind_ok, Rs.bind_exc, Rs.out_ok, Rs.out_exc, Rs.of_some, Option.bind_some, List.getElem?_cons_zero, List.getElem?_cons_succ, List.set_cons_zero, List.set_cons_succ, List.map_cons, List.map_nil, List.cons_append, List.nil_append, List.length_cons, List.length_nil, Nat.reduceAdd, Nat.reduceSub, Nat.reduceLeDiff, Nat.reduceLT, Bool.not_true, Bool.not_false, decide_true, decide_false, List.isEmpty_nil]
  · have := hv v hv'
    simp -implicitDefEqProofs only [ap_sSeq, seqO_nx, seqO_rt, seqO_exc, ap_sIf, ifO_t, ifO_f, ifO_exc, ap_sNx, ap_sSet, ap_sOwn, ap_sRet, ap_sDrop, ap_sAsg, outB_some, bT_nm, bT_tp, bTs_nil, bTs_cons, ap_sRaise, ap_sPar, parO_ok, ap_sFor, ap_sRetV, retO_own, retO_val, ap_sFrz, frzO_own, frzO_val, ap_sApp, ap_sExt, ap_eV, valO_val, ap_eB, borO_val, borO_own, ap_eC, ap_eOp, opO_ok, ap_eUn, ap_eTup, ap_eLst, tupR_ok, lstR_ok, ap_eCB, ap_eCall, callO_ok, callO_exc, ap_gNot, notR_b, ap_gTru, truR_b, truR_list, ap_gAnd, ap_gOr, andO_t, andO_f, orO_t, orO_f, ap_eAnd, ap_eOr, eandO_t, eandO_f, eorO_t, eorO_f, ap_eNot, enotO_b, enotO_list, ap_eIf, eifO_t, eifO_f, ap_eChain, chO_ok, ap_eIsi, isiO_int, isiO_tup, isiO_lst, isiO_bl, isiO_str, isiO_non, isInt_int, isInt_bl, isInt_tup, isInt_lst, isInt_str, isInt_non, isBool_int, isBool_bl, isTup_tup, isTup_lst, isTup_int, isTup_non, isTup_str, isTup_bl, isLst_lst, isLst_tup, f_add, f_sub, f_neg, f_eqI, f_neI, f_eqB, f_neB, f_lt, f_le, f_gt, f_ge, f_is, f_isNot, isNone_int, isNone_tup, isNone_lst, isNone_non, f_len_l, f_len_t, f_len_rd, f_tup_l, f_tup_t, f_max2, f_min2, f_abs, f_sum_l, f_sum_t, f_ix0, f_ix1, f_ix2, f_ix3, f_rev_t, outR_nx, outR_rt, outR_exc, nones0, nonesS, runB_eq, ap_eSl, optI_none, optI_some, optO_int, ap_sWh, ap_iSeq, items_l, items_t, ap_iRange1, ap_iRange2, wipeE_nil, wipeE_cons, evA_nil, evA_cons, RL.cons_ok, RL.cons_exc, RL.bind_ok, RL.bind_exc, RL.out_ok, RL.out_exc, Rs.bind_ok, Rs.bind_exc, Rs.out_ok, Rs.out_exc, Rs.of_some, Option.bind_some, List.getElem?_cons_zero, List.getElem?_cons_succ, List.set_cons_zero, List.set_cons_succ, List.map_cons, List.map_nil, List.cons_append, List.nil_append, List.length_cons, List.length_nil, Nat.reduceAdd, Nat.reduceSub, Nat.reduceLeDiff, Nat.reduceLT, Bool.not_true, Bool.not_false, decide_true, decide_false, is_within_eq, this, and_self]
theorem is_shot_eq {s : List (List Int)} {h w : Nat} (S : Sh s h w) : sem_is_shot [shD s] = .ok (.bool true) := by
  have l := S.len
  have h1 := S.h1
  have h2 := S.h2
  have w1 := S.w1
  have w2 := S.w2
  have e0 : ixF (shD s) (.int 0) = some (rowD (rw' s 0)) := ix_sh s 0 (by decide) (by omega)
  have r0 : (rw' s 0).length = w := S.rlen (by decide) (by omega)
  have c1 : (1 : Int) ≤ (h : Int) := by omega
  have c2 : (h : Int) ≤ 12 := by omega
  have c3 : (1 : Int) ≤ (w : Int) := by omega
  have c4 : (w : Int) ≤ 12 := by omega
  simp -implicitDefEqProofs only [sem_is_shot, b_is_shot, isi_sh, isTup_sh, isi_row, isTup_row, len_sh, len_row, e0, r0, l, c1, c2, c3, c4, ap_sSeq, seqO_nx, seqO_rt, seqO_exc, ap_sIf, ifO_t, ifO_f, ifO_exc, ap_sNx, ap_sSet, ap_sOwn, ap_sRet, ap_sDrop, ap_sAsg, outB_some, bT_nm, bT_tp, bTs_nil, bTs_cons, ap_sRaise, ap_sPar, parO_ok, ap_sFor, ap_sRetV, retO_own, retO_val, ap_sFrz, frzO_own, frzO_val, ap_sApp, ap_sExt, ap_eV, valO_val, ap_eB, borO_val, borO_own, ap_eC, ap_eOp, opO_ok, ap_eUn, ap_eTup, ap_eLst, tupR_ok, lstR_ok, ap_eCB, ap_eCall, callO_ok, callO_exc, ap_gNot, notR_b, ap_gTru, truR_b, truR_list, ap_gAnd, ap_gOr, andO_t, andO_f, orO_t, orO_f, ap_eAnd, ap_eOr, eandO_t, eandO_f, eorO_t, eorO_f, ap_eNot, enotO_b, enotO_list, ap_eIf, eifO_t, eifO_f, ap_eChain, chO_ok, ap_eIsi, isiO_int, isiO_tup, isiO_lst, isiO_bl, isiO_str, isiO_non, isInt_int, isInt_bl, isInt_tup, isInt_lst, isInt_str, isInt_non, isBool_int, isBool_bl, isTup_tup, isTup_lst, isTup_int, isTup_non, isTup_str, isTup_bl, isLst_lst, isLst_tup, f_add, f_sub, f_neg, f_eqI, f_neI, f_eqB, f_neB, f_lt, f_le, f_gt, f_ge, f_is, f_isNot, isNone_int, isNone_tup, isNone_lst, isNone_non, f_len_l, f_len_t, f_len_rd, f_tup_l, f_tup_t, f_max2, f_min2, f_abs, f_sum_l, f_sum_t, f_ix0, f_ix1, f_ix2, f_ix3, f_rev_t, outR_nx, outR_rt, outR_exc, nones0, nonesS, runB_eq, ap_eSl, optI_none, optI_some, optO_int, ap_sWh, ap_iSeq, items_l, items_t, ap_iRange1, ap_iRange2, wipeE_nil, wipeE_cons, evA_nil, evA_cons, RL.cons_ok, RL.cons_exc, RL.bind_ok, RL.bind_exc, RL.out_ok, RL.out_exc, Rs.bind_ok, Rs.bind_exc, Rs.out_ok, Rs.out_exc, Rs.of_some, Option.bind_some, List.getElem?_cons_zero, List.getElem?_cons_succ, List.set_cons_zero, List.set_cons_succ, List.map_cons, List.map_nil, List.cons_append, List.nil_append, List.length_cons, List.length_nil, Nat.reduceAdd, Nat.reduceSub, Nat.reduceLeDiff, Nat.reduceLT, Bool.not_true, Bool.not_false, decide_true, decide_false]
  rw [eLc_noneA s rowD (by simp -implicitDefEqProofs only [items_sh, ap_sSeq, seqO_nx, seqO_rt, seqO_exc, ap_sIf, ifO_t, ifO_f, ifO_exc, ap_sNx, ap_sSet, ap_sOwn, ap_sRet, ap_sDrop, ap_sAsg, outB_some, bT_nm, bT_tp, bTs_nil, bTs_cons, ap_sRaise, ap_sPar, parO_ok, ap_sFor, ap_sRetV, retO_own, retO_val, ap_sFrz, frzO_own, frzO_val, ap_sApp, ap_sExt, ap_eV, valO_val, ap_eB, borO_val, borO_own, ap_eC, ap_eOp, opO_ok, ap_eUn, ap_eTup, ap_eLst, tupR_ok, lstR_ok, ap_eCB, ap_eCall, callO_ok, callO_exc, ap_gNot, notR_b, ap_gTru, truR_b, truR_list, ap_gAnd, ap_gOr, andO_t, andO_f, orO_t, orO_f, ap_eAnd, ap_eOr, eandO_t, eandO_f, eorO_t, eorO_f, ap_eNot, enotO_b, enotO_list, ap_eIf, eifO_t, eifO_f, ap_eChain, chO_ok, ap_eIsi, isiO_int, isiO_tup, isiO_lst, isiO_bl, isiO_str, isiO_non, isInt_int, isInt_bl, isInt_tup, isInt_lst, isInt_str, isInt_non, isBool_int, isBool_bl, isTup_tup, isTup_lst, isTup_int, isTup_non, isTup_str, isTup_bl, isLst_lst, isLst_tup, f_add, f_sub, f_neg, f_eqI, f_neI, f_eqB, f_neB, f_lt, f_le, f_gt, f_ge, f_is, f_isNot, isNone_int, isNone_tup, isNone_lst, isNone_non, f_len_l, f_len_t, f_len_rd, f_tup_l, f_tup_t, f_max2, f_min2, f_abs, f_sum_l, f_sum_t, f_ix0, f_ix1, f_ix2, f_ix3, f_rev_t, outR_nx, outR_rt, outR_exc, nones0, nonesS, runB_eq, ap_eSl, optI_none, optI_some, optO_int, ap_sWh, ap_iSeq, items_l, items_t, ap_iRange1, ap_iRange2, wipeE_nil, wipeE_cons, evA_nil, evA_cons, RL.cons_ok, RL.cons_exc, RL.bind_ok, RL.bind_exc, RL.out_ok, RL.out_exc, Rs.bind_ok, Rs.bind_exc, Rs.out_ok, Rs.out_exc, Rs.of_some, Option.bind_some, List.getElem?_cons_zero, List.getElem?_cons_succ, List.set_cons_zero, List.set_cons_succ, List.map_cons, List.map_nil, List.cons_append, List.nil_append, List.length_cons, List.length_nil, Nat.reduceAdd, Nat.reduceSub, Nat.reduceLeDiff, Nat.reduceLT, Bool.not_true, Bool.not_false, decide_true, decide_false]) fun r hr => ?_]
  · simp -implicitDefEqProofs only [ap_sSeq, seqO_nx, seqO_rt, seqO_exc, ap_sIf, ifO_t, ifO_f, ifO_exc, ap_sNx, ap_sSet, ap_sOwn, ap_sRet, ap_sDrop, ap_sAsg, outB_some, bT_nm, bT_tp, bTs_nil, bTs_cons, ap_sRaise, ap_sPar, parO_ok, ap_sFor, ap_sRetV, retO_own, retO_val, ap_sFrz, frzO_own, frzO_val, ap_sApp, ap_sExt, ap_eV, valO_val, ap_eB, borO_val, borO_own, ap_eC, ap_eOp, opO_ok, ap_eUn, ap_eTup, ap_eLst, tupR_ok, lstR_ok, ap_eCB, ap_eCall, callO_ok, callO_exc, ap_gNot, notR_b, ap_gTru, truR_b, truR_list, ap_gAnd, ap_gOr, andO_t, andO_f, orO_t, orO_f, ap_eAnd, ap_eOr, eandO_t, eandO_f, eorO_t, eorO_f, ap_eNot, enotO_b, enotO_list, ap_eIf, eifO_t, eifO_f, ap_eChain, chO_ok, ap_eIsi, isiO_int, isiO_tup, isiO_lst, isiO_bl, isiO_str, isiO_non, isInt_int, isInt_bl, isInt_tup, isInt_lst, isInt_str, isInt_non, isBool_int, isBool_bl, isTup_tup, isTup_lst, isTup_int, isTup_non, isTup_str, isTup_bl, isLst_lst, isLst_tup, f_add, f_sub, f_neg, f_eqI, f_neI, f_eqB, f_neB, f_lt, f_le, f_gt, f_ge, f_is, f_isNot, isNone_int, isNone_tup, isNone_lst, isNone_non, f_len_l, f_len_t, f_len_rd, f_tup_l, f_tup_t, f_max2, f_min2, f_abs, f_sum_l, f_sum_t, f_ix0, f_ix1, f_ix2, f_ix3, f_rev_t, outR_nx, outR_rt, outR_exc, nones0, nonesS, runB_eq, ap_eSl, optI_none, optI_some, optO_int, ap_sWh, ap_iSeq, items_l, items_t, ap_iRange1, ap_iRange2, wipeE_nil, wipeE_cons, evA_nil, evA_cons, RL.cons_ok, RL.cons_exc, RL.bind_ok, RL.bind_exc, RL.out_ok, RL.out_exc, Rs.bind_ok, Rs.bind_exc, Rs.out_ok, Rs.out_exc, Rs.of_some, Option.bind_some, List.getElem?_cons_zero, List.getElem?_cons_succ, List.set_cons_zero, List.set_cons_succ, List.map_cons, List.map_nil, List.cons_append, List.nil_append, List.length_cons, List.length_nil, Nat.reduceAdd, Nat.reduceSub, Nat.reduceLeDiff, Nat.reduceLT, Bool.not_true, Bool.not_false, decide_true, decide_false, List.isEmpty_nil]
  · simp -implicitDefEqProofs only [e0, len_row, r0, is_row_eq r w (S.row r hr) (S.lev r hr), ap_sSeq, seqO_nx, seqO_rt, seqO_exc, ap_sIf, ifO_t, ifO_f, ifO_exc, ap_sNx, ap_sSet, ap_sOwn, ap_sRet, ap_sDrop, ap_sAsg, outB_some, bT_nm, bT_tp, bTs_nil, bTs_cons, ap_sRaise, ap_sPar, parO_ok, ap_sFor, ap_sRetV, retO_own, retO_val, ap_sFrz, frzO_own, frzO_val, ap_sApp, ap_sExt, ap_eV, valO_val, ap_eB, borO_val, borO_own, ap_eC, ap_eOp, opO_ok, ap_eUn, ap_eTup, ap_eLst, tupR_ok, lstR_ok, ap_eCB, ap_eCall, callO_ok, callO_exc, ap_gNot, notR_b, ap_gTru, truR_b, truR_list, ap_gAnd, ap_gOr, andO_t, andO_f, orO_t, orO_f, ap_eAnd, ap_eOr, eandO_t, eandO_f, eorO_t, eorO_f, ap_eNot, enotO_b, enotO_list, ap_eIf, eifO_t, eifO_f, ap_eChain, chO_ok, ap_eIsi, isiO_int, isiO_tup, isiO_lst, isiO_bl, isiO_str, isiO_non, isInt_int, isInt_bl, isInt_tup, isInt_lst, isInt_str, isInt_non, isBool_int, isBool_bl, isTup_tup, isTup_lst, isTup_int, isTup_non, isTup_str, isTup_bl, isLst_lst, isLst_tup, f_add, f_sub, f_neg, f_eqI, f_neI, f_eqB, f_neB, f_lt, f_le, f_gt, f_ge, f_is, f_isNot, isNone_int, isNone_tup, isNone_lst, isNone_non, f_len_l, f_len_t, f_len_rd, f_tup_l, f_tup_t, f_max2, f_min2, f_abs, f_sum_l, f_sum_t, f_ix0, f_ix1, f_ix2, f_ix3, f_rev_t, outR_nx, outR_rt, outR_exc, nones0, nonesS, runB_eq, ap_eSl, optI_none, optI_some, optO_int, ap_sWh, ap_iSeq, items_l, items_t, ap_iRange1, ap_iRange2, wipeE_nil, wipeE_cons, evA_nil, evA_cons, RL.cons_ok, RL.cons_exc, RL.bind_ok, RL.bind_exc, RL.out_ok, RL.out_exc, Rs.bind_ok, Rs.bind_exc, Rs.out_ok, Rs.out_exc, Rs.of_some, Option.bind_some, List.getElem?_cons_zero, List.getElem?_cons_succ, List.set_cons_zero, List.set_cons_succ, List.map_cons, List.map_nil, List.cons_append, List.nil_append, List.length_cons, List.length_nil, Nat.reduceAdd, Nat.reduceSub, Nat.reduceLeDiff, Nat.reduceLT, Bool.not_true, Bool.not_false, decide_true, decide_false]
theorem look_eq {s : List (List Int)} {h w : Nat} (S : Sh s h w) : sem_look [shD s] = .ok .none := by
  simp -implicitDefEqProofs only [sem_look, b_look, is_shot_eq S, ap_sSeq, seqO_nx, seqO_rt, seqO_exc, ap_sIf, ifO_t, ifO_f, ifO_exc, ap_sNx, ap_sSet, ap_sOwn, ap_sRet, ap_sDrop, ap_sAsg, outB_some, bT_nm, bT_tp, bTs_nil, bTs_cons, ap_sRaise, ap_sPar, parO_ok, ap_sFor, ap_sRetV, retO_own, retO_val, ap_sFrz, frzO_own, frzO_val, ap_sApp, ap_sExt, ap_eV, valO_val, ap_eB, borO_val, borO_own, ap_eC, ap_eOp, opO_ok, ap_eUn, ap_eTup, ap_eLst, tupR_ok, lstR_ok, ap_eCB, ap_eCall, callO_ok, callO_exc, ap_gNot, notR_b, ap_gTru, truR_b, truR_list, ap_gAnd, ap_gOr, andO_t, andO_f, orO_t, orO_f, ap_eAnd, ap_eOr, eandO_t, eandO_f, eorO_t, eorO_f, ap_eNot, enotO_b, enotO_list, ap_eIf, eifO_t, eifO_f, ap_eChain, chO_ok, ap_eIsi, isiO_int, isiO_tup, isiO_lst, isiO_bl, isiO_str, isiO_non, isInt_int, isInt_bl, isInt_tup, isInt_lst, isInt_str, isInt_non, isBool_int, isBool_bl, isTup_tup, isTup_lst, isTup_int, isTup_non, isTup_str, isTup_bl, isLst_lst, isLst_tup, f_add, f_sub, f_neg, f_eqI, f_neI, f_eqB, f_neB, f_lt, f_le, f_gt, f_ge, f_is, f_isNot, isNone_int, isNone_tup, isNone_lst, isNone_non, f_len_l, f_len_t, f_len_rd, f_tup_l, f_tup_t, f_max2, f_min2, f_abs, f_sum_l, f_sum_t, f_ix0, f_ix1, f_ix2, f_ix3, f_rev_t, outR_nx, outR_rt, outR_exc, nones0, nonesS, runB_eq, ap_eSl, optI_none, optI_some, optO_int, ap_sWh, ap_iSeq, items_l, items_t, ap_iRange1, ap_iRange2, wipeE_nil, wipeE_cons, evA_nil, evA_cons, RL.cons_ok, RL.cons_exc, RL.bind_ok, RL.bind_exc, RL.out_ok, RL.out_exc, Rs.bind_ok, Rs.bind_exc, Rs.out_ok, Rs.out_exc, Rs.of_some, Option.bind_some, List.getElem?_cons_zero, List.getElem?_cons_succ, List.set_cons_zero, List.set_cons_succ, List.map_cons, List.map_nil, List.cons_append, List.nil_append, List.length_cons, List.length_nil, Nat.reduceAdd, Nat.reduceSub, Nat.reduceLeDiff, Nat.reduceLT, Bool.not_true, Bool.not_false, decide_true, decide_false]
theorem size_of_eq {s : List (List Int)} {h w : Nat} (S : Sh s h w) : sem_size_of [shD s] = .ok (.tuple [.int w, .int h]) := by
  have l := S.len
  have h1 := S.h1
  have e0 : ixF (shD s) (.int 0) = some (rowD (rw' s 0)) := ix_sh s 0 (by decide) (by omega)
  have r0 : (rw' s 0).length = w := S.rlen (by decide) (by omega)
  simp -implicitDefEqProofs only [sem_size_of, b_size_of, e0, r0, l, len_row, len_sh, ap_sSeq, seqO_nx, seqO_rt, seqO_exc, ap_sIf, ifO_t, ifO_f, ifO_exc, ap_sNx, ap_sSet, ap_sOwn, ap_sRet, ap_sDrop, ap_sAsg, outB_some, bT_nm, bT_tp, bTs_nil, bTs_cons, ap_sRaise, ap_sPar, parO_ok, ap_sFor, ap_sRetV, retO_own, retO_val, ap_sFrz, frzO_own, frzO_val, ap_sApp, ap_sExt, ap_eV, valO_val, ap_eB, borO_val, borO_own, ap_eC, ap_eOp, opO_ok, ap_eUn, ap_eTup, ap_eLst, tupR_ok, lstR_ok, ap_eCB, ap_eCall, callO_ok, callO_exc, ap_gNot, notR_b, ap_gTru, truR_b, truR_list, ap_gAnd, ap_gOr, andO_t, andO_f, orO_t, orO_f, ap_eAnd, ap_eOr, eandO_t, eandO_f, eorO_t, eorO_f, ap_eNot, enotO_b, enotO_list, ap_eIf, eifO_t, eifO_f, ap_eChain, chO_ok, ap_eIsi, isiO_int, isiO_tup, isiO_lst, isiO_bl, isiO_str, isiO_non, isInt_int, isInt_bl, isInt_tup, isInt_lst, isInt_str, isInt_non, isBool_int, isBool_bl, isTup_tup, isTup_lst, isTup_int, isTup_non, isTup_str, isTup_bl, isLst_lst, isLst_tup, f_add, f_sub, f_neg, f_eqI, f_neI, f_eqB, f_neB, f_lt, f_le, f_gt, f_ge, f_is, f_isNot, isNone_int, isNone_tup, isNone_lst, isNone_non, f_len_l, f_len_t, f_len_rd, f_tup_l, f_tup_t, f_max2, f_min2, f_abs, f_sum_l, f_sum_t, f_ix0, f_ix1, f_ix2, f_ix3, f_rev_t, outR_nx, outR_rt, outR_exc, nones0, nonesS, runB_eq, ap_eSl, optI_none, optI_some, optO_int, ap_sWh, ap_iSeq, items_l, items_t, ap_iRange1, ap_iRange2, wipeE_nil, wipeE_cons, evA_nil, evA_cons, RL.cons_ok, RL.cons_exc, RL.bind_ok, RL.bind_exc, RL.out_ok, RL.out_exc, Rs.bind_ok, Rs.bind_exc, Rs.out_ok, Rs.out_exc, Rs.of_some, Option.bind_some, List.getElem?_cons_zero, List.getElem?_cons_succ, List.set_cons_zero, List.set_cons_succ, List.map_cons, List.map_nil, List.cons_append, List.nil_append, List.length_cons, List.length_nil, Nat.reduceAdd, Nat.reduceSub, Nat.reduceLeDiff, Nat.reduceLT, Bool.not_true, Bool.not_false, decide_true, decide_false]
theorem is_way_eq (p q : Int) (hp : -12 ≤ p ∧ p ≤ 12) (hq : -12 ≤ q ∧ q ≤ 12) : sem_is_way [.tuple [.int p, .int q]] = .ok (.bool true) := by
  have e2 : ((0 + 1 + 1 : Nat) : Int) = 2 := rfl
  have e3 : ((2 : Nat) : Int) = 2 := rfl
  simp -implicitDefEqProofs only [sem_is_way, b_is_way, e2, e3, ap_sSeq, seqO_nx, seqO_rt, seqO_exc, ap_sIf, ifO_t, ifO_f, ifO_exc, ap_sNx, ap_sSet, ap_sOwn, ap_sRet, ap_sDrop, ap_sAsg, outB_some, bT_nm, bT_tp, bTs_nil, bTs_cons, ap_sRaise, ap_sPar, parO_ok, ap_sFor, ap_sRetV, retO_own, retO_val, ap_sFrz, frzO_own, frzO_val, ap_sApp, ap_sExt, ap_eV, valO_val, ap_eB, borO_val, borO_own, ap_eC, ap_eOp, opO_ok, ap_eUn, ap_eTup, ap_eLst, tupR_ok, lstR_ok, ap_eCB, ap_eCall, callO_ok, callO_exc, ap_gNot, notR_b, ap_gTru, truR_b, truR_list, ap_gAnd, ap_gOr, andO_t, andO_f, orO_t, orO_f, ap_eAnd, ap_eOr, eandO_t, eandO_f, eorO_t, eorO_f, ap_eNot, enotO_b, enotO_list, ap_eIf, eifO_t, eifO_f, ap_eChain, chO_ok, ap_eIsi, isiO_int, isiO_tup, isiO_lst, isiO_bl, isiO_str, isiO_non, isInt_int, isInt_bl, isInt_tup, isInt_lst, isInt_str, isInt_non, isBool_int, isBool_bl, isTup_tup, isTup_lst, isTup_int, isTup_non, isTup_str, isTup_bl, isLst_lst, isLst_tup, f_add, f_sub, f_neg, f_eqI, f_neI, f_eqB, f_neB, f_lt, f_le, f_gt, f_ge, f_is, f_isNot, isNone_int, isNone_tup, isNone_lst, isNone_non, f_len_l, f_len_t, f_len_rd, f_tup_l, f_tup_t, f_max2, f_min2, f_abs, f_sum_l, f_sum_t, f_ix0, f_ix1, f_ix2, f_ix3, f_rev_t, outR_nx, outR_rt, outR_exc, nones0, nonesS, runB_eq, ap_eSl, optI_none, optI_some, optO_int, ap_sWh, ap_iSeq, items_l, items_t, ap_iRange1, ap_iRange2, wipeE_nil, wipeE_cons, evA_nil, evA_cons, RL.cons_ok, RL.cons_exc, RL.bind_ok, RL.bind_exc, RL.out_ok, RL.out_exc, Rs.bind_ok, Rs.bind_exc, Rs.out_ok, Rs.out_exc, Rs.of_some, Option.bind_some, List.getElem?_cons_zero, List.getElem?_cons_succ, List.set_cons_zero, List.set_cons_succ, List.map_cons, List.map_nil, List.cons_append, List.nil_append, List.length_cons, List.length_nil, Nat.reduceAdd, Nat.reduceSub, Nat.reduceLeDiff, Nat.reduceLT, Bool.not_true, Bool.not_false, decide_true, decide_false]
  rw [eLc_noneA [p, q] PyData.int (by simp -implicitDefEqProofs only [ap_sSeq, seqO_nx, seqO_rt, seqO_exc, ap_sIf, ifO_t, ifO_f, ifO_exc, ap_sNx, ap_sSet, ap_sOwn, ap_sRet, ap_sDrop, ap_sAsg, outB_some, bT_nm, bT_tp, bTs_nil, bTs_cons, ap_sRaise, ap_sPar, parO_ok, ap_sFor, ap_sRetV, retO_own, retO_val, ap_sFrz, frzO_own, frzO_val, ap_sApp, ap_sExt, ap_eV, valO_val, ap_eB, borO_val, borO_own, ap_eC, ap_eOp, opO_ok, ap_eUn, ap_eTup, ap_eLst, tupR_ok, lstR_ok, ap_eCB, ap_eCall, callO_ok, callO_exc, ap_gNot, notR_b, ap_gTru, truR_b, truR_list, ap_gAnd, ap_gOr, andO_t, andO_f, orO_t, orO_f, ap_eAnd, ap_eOr, eandO_t, eandO_f, eorO_t, eorO_f, ap_eNot, enotO_b, enotO_list, ap_eIf, eifO_t, eifO_f, ap_eChain, chO_ok, ap_eIsi, isiO_int, isiO_tup, isiO_lst, isiO_bl, isiO_str, isiO_non, isInt_int, isInt_bl, isInt_tup, isInt_lst, isInt_str, isInt_non, isBool_int, isBool_bl, isTup_tup, isTup_lst, isTup_int, isTup_non, isTup_str, isTup_bl, isLst_lst, isLst_tup, f_add, f_sub, f_neg, f_eqI, f_neI, f_eqB, f_neB, f_lt, f_le, f_gt, f_ge, f_is, f_isNot, isNone_int, isNone_tup, isNone_lst, isNone_non, f_len_l, f_len_t, f_len_rd, f_tup_l, f_tup_t, f_max2, f_min2, f_abs, f_sum_l, f_sum_t, f_ix0, f_ix1, f_ix2, f_ix3, f_rev_t, outR_nx, outR_rt, outR_exc, nones0, nonesS, runB_eq, ap_eSl, optI_none, optI_some, optO_int, ap_sWh, ap_iSeq, items_l, items_t, ap_iRange1, ap_iRange2, wipeE_nil, wipeE_cons, evA_nil, evA_cons, RL.cons_ok, RL.cons_exc, RL.bind_ok, RL.bind_exc, RL.out_ok, RL.out_exc, Rs.bind_ok, Rs.bind_exc, Rs.out_ok, Rs.out_exc, Rs.of_some, Option.bind_some, List.getElem?_cons_zero, List.getElem?_cons_succ, List.set_cons_zero, List.set_cons_succ, List.map_cons, List.map_nil, List.cons_append, List.nil_append, List.length_cons, List.length_nil, Nat.reduceAdd, Nat.reduceSub, Nat.reduceLeDiff, Nat.reduceLT, Bool.not_true, Bool.not_false, decide_true, decide_false]) fun v hv' => ?_]
  · simp -implicitDefEqProofs only [ap_sSeq, seqO_nx, seqO_rt, seqO_exc, ap_sIf, ifO_t, ifO_f, ifO_exc, ap_sNx, ap_sSet, ap_sOwn, ap_sRet, ap_sDrop, ap_sAsg, outB_some, bT_nm, bT_tp, bTs_nil, bTs_cons, ap_sRaise, ap_sPar, parO_ok, ap_sFor, ap_sRetV, retO_own, retO_val, ap_sFrz, frzO_own, frzO_val, ap_sApp, ap_sExt, ap_eV, valO_val, ap_eB, borO_val, borO_own, ap_eC, ap_eOp, opO_ok, ap_eUn, ap_eTup, ap_eLst, tupR_ok, lstR_ok, ap_eCB, ap_eCall, callO_ok, callO_exc, ap_gNot, notR_b, ap_gTru, truR_b, truR_list, ap_gAnd, ap_gOr, andO_t, andO_f, orO_t, orO_f, ap_eAnd, ap_eOr, eandO_t, eandO_f, eorO_t, eorO_f, ap_eNot, enotO_b, enotO_list, ap_eIf, eifO_t, eifO_f, ap_eChain, chO_ok, ap_eIsi, isiO_int, isiO_tup, isiO_lst, isiO_bl, isiO_str, isiO_non, isInt_int, isInt_bl, isInt_tup, isInt_lst, isInt_str, isInt_non, isBool_int, isBool_bl, isTup_tup, isTup_lst, isTup_int, isTup_non, isTup_str, isTup_bl, isLst_lst, isLst_tup, f_add, f_sub, f_neg, f_eqI, f_neI, f_eqB, f_neB, f_lt, f_le, f_gt, f_ge, f_is, f_isNot, isNone_int, isNone_tup, isNone_lst, isNone_non, f_len_l, f_len_t, f_len_rd, f_tup_l, f_tup_t, f_max2, f_min2, f_abs, f_sum_l, f_sum_t, f_ix0, f_ix1, f_ix2, f_ix3, f_rev_t, outR_nx, outR_rt, outR_exc, nones0, nonesS, runB_eq, ap_eSl, optI_none, optI_some, optO_int, ap_sWh, ap_iSeq, items_l, items_t, ap_iRange1, ap_iRange2, wipeE_nil, wipeE_cons, evA_nil, evA_cons, RL.cons_ok, RL.cons_exc, RL.bind_ok, RL.bind_exc, RL.out_ok, RL.out_exc, Rs.bind_ok, Rs.bind_exc, Rs.out_ok, Rs.out_exc, Rs.of_some, Option.bind_some, List.getElem?_cons_zero, List.getElem?_cons_succ, List.set_cons_zero, List.set_cons_succ, List.map_cons, List.map_nil, List.cons_append, List.nil_append, List.length_cons, List.length_nil, Nat.reduceAdd, Nat.reduceSub, Nat.reduceLeDiff, Nat.reduceLT, Bool.not_true, Bool.not_false, decide_true, decide_false, List.isEmpty_nil]
  · have : -12 ≤ v ∧ v ≤ 12 := by
      simp -implicitDefEqProofs only [List.mem_cons, List.not_mem_nil, or_false] at hv'
      rcases hv' with rfl | rfl
      · exact hp
      · exact hq
    simp -implicitDefEqProofs only [ap_sSeq, seqO_nx, seqO_rt, seqO_exc, ap_sIf, ifO_t, ifO_f, ifO_exc, ap_sNx, ap_sSet, ap_sOwn, ap_sRet, ap_sDrop, ap_sAsg, outB_some, bT_nm, bT_tp, bTs_nil, bTs_cons, ap_sRaise, ap_sPar, parO_ok, ap_sFor, ap_sRetV, retO_own, retO_val, ap_sFrz, frzO_own, frzO_val, ap_sApp, ap_sExt, ap_eV, valO_val, ap_eB, borO_val, borO_own, ap_eC, ap_eOp, opO_ok, ap_eUn, ap_eTup, ap_eLst, tupR_ok, lstR_ok, ap_eCB, ap_eCall, callO_ok, callO_exc, ap_gNot, notR_b, ap_gTru, truR_b, truR_list, ap_gAnd, ap_gOr, andO_t, andO_f, orO_t, orO_f, ap_eAnd, ap_eOr, eandO_t, eandO_f, eorO_t, eorO_f, ap_eNot, enotO_b, enotO_list, ap_eIf, eifO_t, eifO_f, ap_eChain, chO_ok, ap_eIsi, isiO_int, isiO_tup, isiO_lst, isiO_bl, isiO_str, isiO_non, isInt_int, isInt_bl, isInt_tup, isInt_lst, isInt_str, isInt_non, isBool_int, isBool_bl, isTup_tup, isTup_lst, isTup_int, isTup_non, isTup_str, isTup_bl, isLst_lst, isLst_tup, f_add, f_sub, f_neg, f_eqI, f_neI, f_eqB, f_neB, f_lt, f_le, f_gt, f_ge, f_is, f_isNot, isNone_int, isNone_tup, isNone_lst, isNone_non, f_len_l, f_len_t, f_len_rd, f_tup_l, f_tup_t, f_max2, f_min2, f_abs, f_sum_l, f_sum_t, f_ix0, f_ix1, f_ix2, f_ix3, f_rev_t, outR_nx, outR_rt, outR_exc, nones0, nonesS, runB_eq, ap_eSl, optI_none, optI_some, optO_int, ap_sWh, ap_iSeq, items_l, items_t, ap_iRange1, ap_iRange2, wipeE_nil, wipeE_cons, evA_nil, evA_cons, RL.cons_ok, RL.cons_exc, RL.bind_ok, RL.bind_exc, RL.out_ok, RL.out_exc, Rs.bind_ok, Rs.bind_exc, Rs.out_ok, Rs.out_exc, Rs.of_some, Option.bind_some, List.getElem?_cons_zero, List.getElem?_cons_succ, List.set_cons_zero, List.set_cons_succ, List.map_cons, List.map_nil, List.cons_append, List.nil_append, List.length_cons, List.length_nil, Nat.reduceAdd, Nat.reduceSub, Nat.reduceLeDiff, Nat.reduceLT, Bool.not_true, Bool.not_false, decide_true, decide_false, is_within_eq, this, and_self]
theorem look_two_eq {a b : List (List Int)} {h w h' w' : Nat} (A : Sh a h w) (B : Sh b h' w') (p q : Int) (hp : -12 ≤ p ∧ p ≤ 12) (hq : -12 ≤ q ∧ q ≤ 12) : sem_look_two [shD a, shD b, .tuple [.int p, .int q]] = .ok .none := by
  simp -implicitDefEqProofs only [sem_look_two, b_look_two, look_eq A, look_eq B, is_way_eq p q hp hq, ap_sSeq, seqO_nx, seqO_rt, seqO_exc, ap_sIf, ifO_t, ifO_f, ifO_exc, ap_sNx, ap_sSet, ap_sOwn, ap_sRet, ap_sDrop, ap_sAsg, outB_some, bT_nm, bT_tp, bTs_nil, bTs_cons, ap_sRaise, ap_sPar, parO_ok, ap_sFor, ap_sRetV, retO_own, retO_val, ap_sFrz, frzO_own, frzO_val, ap_sApp, ap_sExt, ap_eV, valO_val, ap_eB, borO_val, borO_own, ap_eC, ap_eOp, opO_ok, ap_eUn, ap_eTup, ap_eLst, tupR_ok, lstR_ok, ap_eCB, ap_eCall, callO_ok, callO_exc, ap_gNot, notR_b, ap_gTru, truR_b, truR_list, ap_gAnd, ap_gOr, andO_t, andO_f, orO_t, orO_f, ap_eAnd, ap_eOr, eandO_t, eandO_f, eorO_t, eorO_f, ap_eNot, enotO_b, enotO_list, ap_eIf, eifO_t, eifO_f, ap_eChain, chO_ok, ap_eIsi, isiO_int, isiO_tup, isiO_lst, isiO_bl, isiO_str, isiO_non, isInt_int, isInt_bl, isInt_tup, isInt_lst, isInt_str, isInt_non, isBool_int, isBool_bl, isTup_tup, isTup_lst, isTup_int, isTup_non, isTup_str, isTup_bl, isLst_lst, isLst_tup, f_add, f_sub, f_neg, f_eqI, f_neI, f_eqB, f_neB, f_lt, f_le, f_gt, f_ge, f_is, f_isNot, isNone_int, isNone_tup, isNone_lst, isNone_non, f_len_l, f_len_t, f_len_rd, f_tup_l, f_tup_t, f_max2, f_min2, f_abs, f_sum_l, f_sum_t, f_ix0, f_ix1, f_ix2, f_ix3, f_rev_t, outR_nx, outR_rt, outR_exc, nones0, nonesS, runB_eq, ap_eSl, optI_none, optI_some, optO_int, ap_sWh, ap_iSeq, items_l, items_t, ap_iRange1, ap_iRange2, wipeE_nil, wipeE_cons, evA_nil, evA_cons, RL.cons_ok, RL.cons_exc, RL.bind_ok, RL.bind_exc, RL.out_ok, RL.out_exc, Rs.bind_ok, Rs.bind_exc, Rs.out_ok, Rs.out_exc, Rs.of_some, Option.bind_some, List.getElem?_cons_zero, List.getElem?_cons_succ, List.set_cons_zero, List.set_cons_succ, List.map_cons, List.map_nil, List.cons_append, List.nil_append, List.length_cons, List.length_nil, Nat.reduceAdd, Nat.reduceSub, Nat.reduceLeDiff, Nat.reduceLT, Bool.not_true, Bool.not_false, decide_true, decide_false]
def boxD (w h w' h' p q : Int) : D := if max 0 p < min w (p + w') ∧ max 0 q < min h (q + h') then .tuple [.int (max 0 p), .int (max 0 q), .int (min w (p + w') - max 0 p), .int (min h (q + h') - max 0 q)] else .none
theorem shared_of_eq {a b : List (List Int)} {h w h' w' : Nat} (A : Sh a h w) (B : Sh b h' w') (p q : Int) : sem_shared_of [shD a, shD b, .tuple [.int p, .int q]] = .ok (boxD w h w' h' p q) := by
  simp -implicitDefEqProofs only [sem_shared_of, b_shared_of, size_of_eq A, size_of_eq B, ap_sSeq, seqO_nx, seqO_rt, seqO_exc, ap_sIf, ifO_t, ifO_f, ifO_exc, ap_sNx, ap_sSet, ap_sOwn, ap_sRet, ap_sDrop, ap_sAsg, outB_some, bT_nm, bT_tp, bTs_nil, bTs_cons, ap_sRaise, ap_sPar, parO_ok, ap_sFor, ap_sRetV, retO_own, retO_val, ap_sFrz, frzO_own, frzO_val, ap_sApp, ap_sExt, ap_eV, valO_val, ap_eB, borO_val, borO_own, ap_eC, ap_eOp, opO_ok, ap_eUn, ap_eTup, ap_eLst, tupR_ok, lstR_ok, ap_eCB, ap_eCall, callO_ok, callO_exc, ap_gNot, notR_b, ap_gTru, truR_b, truR_list, ap_gAnd, ap_gOr, andO_t, andO_f, orO_t, orO_f, ap_eAnd, ap_eOr, eandO_t, eandO_f, eorO_t, eorO_f, ap_eNot, enotO_b, enotO_list, ap_eIf, eifO_t, eifO_f, ap_eChain, chO_ok, ap_eIsi, isiO_int, isiO_tup, isiO_lst, isiO_bl, isiO_str, isiO_non, isInt_int, isInt_bl, isInt_tup, isInt_lst, isInt_str, isInt_non, isBool_int, isBool_bl, isTup_tup, isTup_lst, isTup_int, isTup_non, isTup_str, isTup_bl, isLst_lst, isLst_tup, f_add, f_sub, f_neg, f_eqI, f_neI, f_eqB, f_neB, f_lt, f_le, f_gt, f_ge, f_is, f_isNot, isNone_int, isNone_tup, isNone_lst, isNone_non, f_len_l, f_len_t, f_len_rd, f_tup_l, f_tup_t, f_max2, f_min2, f_abs, f_sum_l, f_sum_t, f_ix0, f_ix1, f_ix2, f_ix3, f_rev_t, outR_nx, outR_rt, outR_exc, nones0, nonesS, runB_eq, ap_eSl, optI_none, optI_some, optO_int, ap_sWh, ap_iSeq, items_l, items_t, ap_iRange1, ap_iRange2, wipeE_nil, wipeE_cons, evA_nil, evA_cons, RL.cons_ok, RL.cons_exc, RL.bind_ok, RL.bind_exc, RL.out_ok, RL.out_exc, Rs.bind_ok, Rs.bind_exc, Rs.out_ok, Rs.out_exc, Rs.of_some, Option.bind_some, List.getElem?_cons_zero, List.getElem?_cons_succ, List.set_cons_zero, List.set_cons_succ, List.map_cons, List.map_nil, List.cons_append, List.nil_append, List.length_cons, List.length_nil, Nat.reduceAdd, Nat.reduceSub, Nat.reduceLeDiff, Nat.reduceLT, Bool.not_true, Bool.not_false, decide_true, decide_false]
  unfold boxD
  by_cases c1 : max 0 p < min (w : Int) (p + w')
  · by_cases c2 : max 0 q < min (h : Int) (q + h')
    · simp -implicitDefEqProofs only [c1, c2, and_self, if_true, ap_sSeq, seqO_nx, seqO_rt, seqO_exc, ap_sIf, ifO_t, ifO_f, ifO_exc, ap_sNx, ap_sSet, ap_sOwn, ap_sRet, ap_sDrop, ap_sAsg, outB_some, bT_nm, bT_tp, bTs_nil, bTs_cons, ap_sRaise, ap_sPar, parO_ok, ap_sFor, ap_sRetV, retO_own, retO_val, ap_sFrz, frzO_own, frzO_val, ap_sApp, ap_sExt, ap_eV, valO_val, ap_eB, borO_val, borO_own, ap_eC, ap_eOp, opO_ok, ap_eUn, ap_eTup, ap_eLst, tupR_ok, lstR_ok, ap_eCB, ap_eCall, callO_ok, callO_exc, ap_gNot, notR_b, ap_gTru, truR_b, truR_list, ap_gAnd, ap_gOr, andO_t, andO_f, orO_t, orO_f, ap_eAnd, ap_eOr, eandO_t, eandO_f, eorO_t, eorO_f, ap_eNot, enotO_b, enotO_list, ap_eIf, eifO_t, eifO_f, ap_eChain, chO_ok, ap_eIsi, isiO_int, isiO_tup, isiO_lst, isiO_bl, isiO_str, isiO_non, isInt_int, isInt_bl, isInt_tup, isInt_lst, isInt_str, isInt_non, isBool_int, isBool_bl, isTup_tup, isTup_lst, isTup_int, isTup_non, isTup_str, isTup_bl, isLst_lst, isLst_tup, f_add, f_sub, f_neg, f_eqI, f_neI, f_eqB, f_neB, f_lt, f_le, f_gt, f_ge, f_is, f_isNot, isNone_int, isNone_tup, isNone_lst, isNone_non, f_len_l, f_len_t, f_len_rd, f_tup_l, f_tup_t, f_max2, f_min2, f_abs, f_sum_l, f_sum_t, f_ix0, f_ix1, f_ix2, f_ix3, f_rev_t, outR_nx, outR_rt, outR_exc, nones0, nonesS, runB_eq, ap_eSl, optI_none, optI_some, optO_int, ap_sWh, ap_iSeq, items_l, items_t, ap_iRange1, ap_iRange2, wipeE_nil, wipeE_cons, evA_nil, evA_cons, RL.cons_ok, RL.cons_exc, RL.bind_ok, RL.bind_exc, RL.out_ok, RL.out_exc, Rs.bind_ok, Rs.bind_exc, Rs.out_ok, Rs.out_exc, Rs.of_some, Option.bind_some, List.getElem?_cons_zero, List.getElem?_cons_succ, List.set_cons_zero, List.set_cons_succ, List.map_cons, List.map_nil, List.cons_append, List.nil_append, List.length_cons, List.length_nil, Nat.reduceAdd, Nat.reduceSub, Nat.reduceLeDiff, Nat.reduceLT, Bool.not_true, Bool.not_false, decide_true, decide_false]
    · simp -implicitDefEqProofs only [c1, c2, and_false, if_false, ap_sSeq, seqO_nx, seqO_rt, seqO_exc, ap_sIf, ifO_t, ifO_f, ifO_exc, ap_sNx, ap_sSet, ap_sOwn, ap_sRet, ap_sDrop, ap_sAsg, outB_some, bT_nm, bT_tp, bTs_nil, bTs_cons, ap_sRaise, ap_sPar, parO_ok, ap_sFor, ap_sRetV, retO_own, retO_val, ap_sFrz, frzO_own, frzO_val, ap_sApp, ap_sExt, ap_eV, valO_val, ap_eB, borO_val, borO_own, ap_eC, ap_eOp, opO_ok, ap_eUn, ap_eTup, ap_eLst, tupR_ok, lstR_ok, ap_eCB, ap_eCall, callO_ok, callO_exc, ap_gNot, notR_b, ap_gTru, truR_b, truR_list, ap_gAnd, ap_gOr, andO_t, andO_f, orO_t, orO_f, ap_eAnd, ap_eOr, eandO_t, eandO_f, eorO_t, eorO_f, ap_eNot, enotO_b, enotO_list, ap_eIf, eifO_t, eifO_f, ap_eChain, chO_ok, ap_eIsi, isiO_int, isiO_tup, isiO_lst, isiO_bl, isiO_str, isiO_non, isInt_int, isInt_bl, isInt_tup, isInt_lst, isInt_str, isInt_non, isBool_int, isBool_bl, isTup_tup, isTup_lst, isTup_int, isTup_non, isTup_str, isTup_bl, isLst_lst, isLst_tup, f_add, f_sub, f_neg, f_eqI, f_neI, f_eqB, f_neB, f_lt, f_le, f_gt, f_ge, f_is, f_isNot, isNone_int, isNone_tup, isNone_lst, isNone_non, f_len_l, f_len_t, f_len_rd, f_tup_l, f_tup_t, f_max2, f_min2, f_abs, f_sum_l, f_sum_t, f_ix0, f_ix1, f_ix2, f_ix3, f_rev_t, outR_nx, outR_rt, outR_exc, nones0, nonesS, runB_eq, ap_eSl, optI_none, optI_some, optO_int, ap_sWh, ap_iSeq, items_l, items_t, ap_iRange1, ap_iRange2, wipeE_nil, wipeE_cons, evA_nil, evA_cons, RL.cons_ok, RL.cons_exc, RL.bind_ok, RL.bind_exc, RL.out_ok, RL.out_exc, Rs.bind_ok, Rs.bind_exc, Rs.out_ok, Rs.out_exc, Rs.of_some, Option.bind_some, List.getElem?_cons_zero, List.getElem?_cons_succ, List.set_cons_zero, List.set_cons_succ, List.map_cons, List.map_nil, List.cons_append, List.nil_append, List.length_cons, List.length_nil, Nat.reduceAdd, Nat.reduceSub, Nat.reduceLeDiff, Nat.reduceLT, Bool.not_true, Bool.not_false, decide_true, decide_false]
  · simp -implicitDefEqProofs only [c1, false_and, if_false, ap_sSeq, seqO_nx, seqO_rt, seqO_exc, ap_sIf, ifO_t, ifO_f, ifO_exc, ap_sNx, ap_sSet, ap_sOwn, ap_sRet, ap_sDrop, ap_sAsg, outB_some, bT_nm, bT_tp, bTs_nil, bTs_cons, ap_sRaise, ap_sPar, parO_ok, ap_sFor, ap_sRetV, retO_own, retO_val, ap_sFrz, frzO_own, frzO_val, ap_sApp, ap_sExt, ap_eV, valO_val, ap_eB, borO_val, borO_own, ap_eC, ap_eOp, opO_ok, ap_eUn, ap_eTup, ap_eLst, tupR_ok, lstR_ok, ap_eCB, ap_eCall, callO_ok, callO_exc, ap_gNot, notR_b, ap_gTru, truR_b, truR_list, ap_gAnd, ap_gOr, andO_t, andO_f, orO_t, orO_f, ap_eAnd, ap_eOr, eandO_t, eandO_f, eorO_t, eorO_f, ap_eNot, enotO_b, enotO_list, ap_eIf, eifO_t, eifO_f, ap_eChain, chO_ok, ap_eIsi, isiO_int, isiO_tup, isiO_lst, isiO_bl, isiO_str, isiO_non, isInt_int, isInt_bl, isInt_tup, isInt_lst, isInt_str, isInt_non, isBool_int, isBool_bl, isTup_tup, isTup_lst, isTup_int, isTup_non, isTup_str, isTup_bl, isLst_lst, isLst_tup, f_add, f_sub, f_neg, f_eqI, f_neI, f_eqB, f_neB, f_lt, f_le, f_gt, f_ge, f_is, f_isNot, isNone_int, isNone_tup, isNone_lst, isNone_non, f_len_l, f_len_t, f_len_rd, f_tup_l, f_tup_t, f_max2, f_min2, f_abs, f_sum_l, f_sum_t, f_ix0, f_ix1, f_ix2, f_ix3, f_rev_t, outR_nx, outR_rt, outR_exc, nones0, nonesS, runB_eq, ap_eSl, optI_none, optI_some, optO_int, ap_sWh, ap_iSeq, items_l, items_t, ap_iRange1, ap_iRange2, wipeE_nil, wipeE_cons, evA_nil, evA_cons, RL.cons_ok, RL.cons_exc, RL.bind_ok, RL.bind_exc, RL.out_ok, RL.out_exc, Rs.bind_ok, Rs.bind_exc, Rs.out_ok, Rs.out_exc, Rs.of_some, Option.bind_some, List.getElem?_cons_zero, List.getElem?_cons_succ, List.set_cons_zero, List.set_cons_succ, List.map_cons, List.map_nil, List.cons_append, List.nil_append, List.length_cons, List.length_nil, Nat.reduceAdd, Nat.reduceSub, Nat.reduceLeDiff, Nat.reduceLT, Bool.not_true, Bool.not_false, decide_true, decide_false]
theorem shared_eq {a b : List (List Int)} {h w h' w' : Nat} (A : Sh a h w) (B : Sh b h' w') (p q : Int) (hp : -12 ≤ p ∧ p ≤ 12) (hq : -12 ≤ q ∧ q ≤ 12) : sem_shared [shD a, shD b, .tuple [.int p, .int q]] = .ok (boxD w h w' h' p q) := by
  simp -implicitDefEqProofs only [sem_shared, b_shared, look_two_eq A B p q hp hq, shared_of_eq A B, ap_sSeq, seqO_nx, seqO_rt, seqO_exc, ap_sIf, ifO_t, ifO_f, ifO_exc, ap_sNx, ap_sSet, ap_sOwn, ap_sRet, ap_sDrop, ap_sAsg, outB_some, bT_nm, bT_tp, bTs_nil, bTs_cons, ap_sRaise, ap_sPar, parO_ok, ap_sFor, ap_sRetV, retO_own, retO_val, ap_sFrz, frzO_own, frzO_val, ap_sApp, ap_sExt, ap_eV, valO_val, ap_eB, borO_val, borO_own, ap_eC, ap_eOp, opO_ok, ap_eUn, ap_eTup, ap_eLst, tupR_ok, lstR_ok, ap_eCB, ap_eCall, callO_ok, callO_exc, ap_gNot, notR_b, ap_gTru, truR_b, truR_list, ap_gAnd, ap_gOr, andO_t, andO_f, orO_t, orO_f, ap_eAnd, ap_eOr, eandO_t, eandO_f, eorO_t, eorO_f, ap_eNot, enotO_b, enotO_list, ap_eIf, eifO_t, eifO_f, ap_eChain, chO_ok, ap_eIsi, isiO_int, isiO_tup, isiO_lst, isiO_bl, isiO_str, isiO_non, isInt_int, isInt_bl, isInt_tup, isInt_lst, isInt_str, isInt_non, isBool_int, isBool_bl, isTup_tup, isTup_lst, isTup_int, isTup_non, isTup_str, isTup_bl, isLst_lst, isLst_tup, f_add, f_sub, f_neg, f_eqI, f_neI, f_eqB, f_neB, f_lt, f_le, f_gt, f_ge, f_is, f_isNot, isNone_int, isNone_tup, isNone_lst, isNone_non, f_len_l, f_len_t, f_len_rd, f_tup_l, f_tup_t, f_max2, f_min2, f_abs, f_sum_l, f_sum_t, f_ix0, f_ix1, f_ix2, f_ix3, f_rev_t, outR_nx, outR_rt, outR_exc, nones0, nonesS, runB_eq, ap_eSl, optI_none, optI_some, optO_int, ap_sWh, ap_iSeq, items_l, items_t, ap_iRange1, ap_iRange2, wipeE_nil, wipeE_cons, evA_nil, evA_cons, RL.cons_ok, RL.cons_exc, RL.bind_ok, RL.bind_exc, RL.out_ok, RL.out_exc, Rs.bind_ok, Rs.bind_exc, Rs.out_ok, Rs.out_exc, Rs.of_some, Option.bind_some, List.getElem?_cons_zero, List.getElem?_cons_succ, List.set_cons_zero, List.set_cons_succ, List.map_cons, List.map_nil, List.cons_append, List.nil_append, List.length_cons, List.length_nil, Nat.reduceAdd, Nat.reduceSub, Nat.reduceLeDiff, Nat.reduceLT, Bool.not_true, Bool.not_false, decide_true, decide_false]
end VVlaw

set_option Elab.async false
set_option linter.all false
set_option maxRecDepth 100000
set_option maxHeartbeats 4000000
/-! PLc: steps, unlike, mirrored, lit, cut_out; the law's rows and shots. -/
namespace VVlaw
open PySem PySem.Spec L2 VV
open PyProof.Rows hiding St
def stepRow (a b : List (List Int)) (p q l : Int) (m : Nat) (y : Int) : List Int := (rangeI l m).map fun x => cell a y x - cell b (y - q) (x - p)
def stepsG (a b : List (List Int)) (p q l t : Int) (m n : Nat) : List Int := (rangeI t n).flatMap (stepRow a b p q l m)
def steps (a b : List (List Int)) (w h w' h' p q : Int) : List Int := stepsG a b p q (max 0 p) (max 0 q) (min w (p + w') - max 0 p).toNat (min h (q + h') - max 0 q).toNat
theorem stepRow_length (a b : List (List Int)) (p q l : Int) (m : Nat) (y : Int) : (stepRow a b p q l m y).length = m := by simp [stepRow, rangeI_length]
theorem stepsG_succ (a b : List (List Int)) (p q l t : Int) (m n : Nat) : stepsG a b p q l t m (n + 1) = stepsG a b p q l t m n ++ stepRow a b p q l m (t + n) := by
  unfold stepsG
  rw [rangeI_succ, List.flatMap_append]
  simp
theorem stepsG_length (a b : List (List Int)) (p q l t : Int) (m n : Nat) : (stepsG a b p q l t m n).length = n * m := by
  induction n with
  | zero => simp [stepsG, rangeI_zero]
  | succ n ih => rw [stepsG_succ, List.length_append, ih, stepRow_length, Nat.succ_mul]
theorem steps_of_eq {a b : List (List Int)} {h w h' w' : Nat} (A : Sh a h w) (B : Sh b h' w') (p q : Int) (hp : -12 ≤ p ∧ p ≤ 12) (hq : -12 ≤ q ∧ q ≤ 12) : sem_steps_of [shD a, shD b, .tuple [.int p, .int q]] = .ok (.list ((steps a b w h w' h' p q).map PyData.int)) := by
  have hw := A.w2
  have hh := A.h2
  simp -implicitDefEqProofs only [sem_steps_of, b_steps_of, shared_of_eq A B, ap_sSeq, seqO_nx, seqO_rt, seqO_exc, ap_sIf, ifO_t, ifO_f, ifO_exc, ap_sNx, ap_sSet, ap_sOwn, ap_sRet, ap_sDrop, ap_sAsg, outB_some, bT_nm, bT_tp, bTs_nil, bTs_cons, ap_sRaise, ap_sPar, parO_ok, ap_sFor, ap_sRetV, retO_own, retO_val, ap_sFrz, frzO_own, frzO_val, ap_sApp, ap_sExt, ap_eV, valO_val, ap_eB, borO_val, borO_own, ap_eC, ap_eOp, opO_ok, ap_eUn, ap_eTup, ap_eLst, tupR_ok, lstR_ok, ap_eCB, ap_eCall, callO_ok, callO_exc, ap_gNot, notR_b, ap_gTru, truR_b, truR_list, ap_gAnd, ap_gOr, andO_t, andO_f, orO_t, orO_f, ap_eAnd, ap_eOr, eandO_t, eandO_f, eorO_t, eorO_f, ap_eNot, enotO_b, enotO_list, ap_eIf, eifO_t, eifO_f, ap_eChain, chO_ok, ap_eIsi, isiO_int, isiO_tup, isiO_lst, isiO_bl, isiO_str, isiO_non, isInt_int, isInt_bl, isInt_tup, isInt_lst, isInt_str, isInt_non, isBool_int, isBool_bl, isTup_tup, isTup_lst, isTup_int, isTup_non, isTup_str, isTup_bl, isLst_lst, isLst_tup, f_add, f_sub, f_neg, f_eqI, f_neI, f_eqB, f_neB, f_lt, f_le, f_gt, f_ge, f_is, f_isNot, isNone_int, isNone_tup, isNone_lst, isNone_non, f_len_l, f_len_t, f_len_rd, f_tup_l, f_tup_t, f_max2, f_min2, f_abs, f_sum_l, f_sum_t, f_ix0, f_ix1, f_ix2, f_ix3, f_rev_t, outR_nx, outR_rt, outR_exc, nones0, nonesS, runB_eq, ap_eSl, optI_none, optI_some, optO_int, ap_sWh, ap_iSeq, items_l, items_t, ap_iRange1, ap_iRange2, wipeE_nil, wipeE_cons, evA_nil, evA_cons, RL.cons_ok, RL.cons_exc, RL.bind_ok, RL.bind_exc, RL.out_ok, RL.out_exc, Rs.bind_ok, Rs.bind_exc, Rs.out_ok, Rs.out_exc, Rs.of_some, Option.bind_some, List.getElem?_cons_zero, List.getElem?_cons_succ, List.set_cons_zero, List.set_cons_succ, List.map_cons, List.map_nil, List.cons_append, List.nil_append, List.length_cons, List.length_nil, Nat.reduceAdd, Nat.reduceSub, Nat.reduceLeDiff, Nat.reduceLT, Bool.not_true, Bool.not_false, decide_true, decide_false]
  by_cases c : max 0 p < min (w : Int) (p + w') ∧ max 0 q < min (h : Int) (q + h')
  · have ebox : boxD w h w' h' p q = .tuple [.int (max 0 p), .int (max 0 q), .int (min (w : Int) (p + w') - max 0 p), .int (min (h : Int) (q + h') - max 0 q)] := if_pos c
    rw [ebox]
    generalize hl : max 0 p = l at *
    generalize ht : max 0 q = t at *
    generalize hr : min (w : Int) (p + w') = r at *
    generalize hb : min (h : Int) (q + h') = bo at *
    have e2 : rng2 [.int t, .int (t + (bo - t))] = some (rangeD t (bo - t).toNat) := by
      have := rng2_ok t (t + (bo - t)) (by omega)
      have e : t + (bo - t) - t = bo - t := by omega
      rw [e] at this
      unfold RL.items at this
      dsimp only at this
      split at this
      · cases this; assumption
      · cases this
    have e3 : (RL.ok [.int t, .int (t + (bo - t))]).items rng2 = .ok (rangeD t (bo - t).toNat) := by
      have := rng2_ok t (t + (bo - t)) (by omega)
      have e : t + (bo - t) - t = bo - t := by omega
      rw [e] at this
      exact this
    have e4 : (RL.ok [.int l, .int (l + (r - l))]).items rng2 = .ok (rangeD l (r - l).toNat) := by
      have := rng2_ok l (l + (r - l)) (by omega)
      have e : l + (r - l) - l = r - l := by omega
      rw [e] at this
      exact this
    simp -implicitDefEqProofs only [e3, ap_sSeq, seqO_nx, seqO_rt, seqO_exc, ap_sIf, ifO_t, ifO_f, ifO_exc, ap_sNx, ap_sSet, ap_sOwn, ap_sRet, ap_sDrop, ap_sAsg, outB_some, bT_nm, bT_tp, bTs_nil, bTs_cons, ap_sRaise, ap_sPar, parO_ok, ap_sFor, ap_sRetV, retO_own, retO_val, ap_sFrz, frzO_own, frzO_val, ap_sApp, ap_sExt, ap_eV, valO_val, ap_eB, borO_val, borO_own, ap_eC, ap_eOp, opO_ok, ap_eUn, ap_eTup, ap_eLst, tupR_ok, lstR_ok, ap_eCB, ap_eCall, callO_ok, callO_exc, ap_gNot, notR_b, ap_gTru, truR_b, truR_list, ap_gAnd, ap_gOr, andO_t, andO_f, orO_t, orO_f, ap_eAnd, ap_eOr, eandO_t, eandO_f, eorO_t, eorO_f, ap_eNot, enotO_b, enotO_list, ap_eIf, eifO_t, eifO_f, ap_eChain, chO_ok, ap_eIsi, isiO_int, isiO_tup, isiO_lst, isiO_bl, isiO_str, isiO_non, isInt_int, isInt_bl, isInt_tup, isInt_lst, isInt_str, isInt_non, isBool_int, isBool_bl, isTup_tup, isTup_lst, isTup_int, isTup_non, isTup_str, isTup_bl, isLst_lst, isLst_tup, f_add, f_sub, f_neg, f_eqI, f_neI, f_eqB, f_neB, f_lt, f_le, f_gt, f_ge, f_is, f_isNot, isNone_int, isNone_tup, isNone_lst, isNone_non, f_len_l, f_len_t, f_len_rd, f_tup_l, f_tup_t, f_max2, f_min2, f_abs, f_sum_l, f_sum_t, f_ix0, f_ix1, f_ix2, f_ix3, f_rev_t, outR_nx, outR_rt, outR_exc, nones0, nonesS, runB_eq, ap_eSl, optI_none, optI_some, optO_int, ap_sWh, ap_iSeq, items_l, items_t, ap_iRange1, ap_iRange2, wipeE_nil, wipeE_cons, evA_nil, evA_cons, RL.cons_ok, RL.cons_exc, RL.bind_ok, RL.bind_exc, RL.out_ok, RL.out_exc, Rs.bind_ok, Rs.bind_exc, Rs.out_ok, Rs.out_exc, Rs.of_some, Option.bind_some, List.getElem?_cons_zero, List.getElem?_cons_succ, List.set_cons_zero, List.set_cons_succ, List.map_cons, List.map_nil, List.cons_append, List.nil_append, List.length_cons, List.length_nil, Nat.reduceAdd, Nat.reduceSub, Nat.reduceLeDiff, Nat.reduceLT, Bool.not_true, Bool.not_false, decide_true, decide_false]
    obtain ⟨ρ', e, P⟩ := forGo_rng (i := 9) (lo := t) (n := (bo - t).toNat) (f := lp_steps_of_1)
      (fun k ρ => ∃ o : Option Sl, ρ = [some (.val (shD a)), some (.val (shD b)), some (.val (.tuple [.int p, .int q])), some (.val (.tuple [.int l, .int t, .int (r - l), .int (bo - t)])), some (.val (.int l)), some (.val (.int t)), some (.val (.int (r - l))), some (.val (.int (bo - t))),
        some (.own (.list ((stepsG a b p q l t (r - l).toNat k).map PyData.int))), o, none])
      (ρ := [some (.val (shD a)), some (.val (shD b)), some (.val (.tuple [.int p, .int q])), some (.val (.tuple [.int l, .int t, .int (r - l), .int (bo - t)])), some (.val (.int l)), some (.val (.int t)), some (.val (.int (r - l))), some (.val (.int (bo - t))),
        some (.own (.list [])), none, none]) ⟨none, rfl⟩ (by
        rintro k ρ hk ⟨o, rfl⟩
        have hy0 : 0 ≤ t + k := by omega
        have hyh : t + k < h := by omega
        have hyq0 : 0 ≤ t + k - q := by omega
        have hyqh : t + k - q < h' := by omega
        have la : (rw' a (t + k)).length = w := A.rlen hy0 hyh
        have lb : (rw' b (t + k - q)).length = w' := B.rlen hyq0 hyqh
        have i1 : ixF (shD a) (.int (t + k)) = some (rowD (rw' a (t + k))) := ix_sh a _ hy0 (by rw [A.len]; exact hyh)
        have i2 : ixF (shD b) (.int (t + k - q)) = some (rowD (rw' b (t + k - q))) := ix_sh b _ hyq0 (by rw [B.len]; exact hyqh)
        simp -implicitDefEqProofs only [lp_steps_of_1, ap_sSeq, seqO_nx, seqO_rt, seqO_exc, ap_sIf, ifO_t, ifO_f, ifO_exc, ap_sNx, ap_sSet, ap_sOwn, ap_sRet, ap_sDrop, ap_sAsg, outB_some, bT_nm, bT_tp, bTs_nil, bTs_cons, ap_sRaise, ap_sPar, parO_ok, ap_sFor, ap_sRetV, retO_own, retO_val, ap_sFrz, frzO_own, frzO_val, ap_sApp, ap_sExt, ap_eV, valO_val, ap_eB, borO_val, borO_own, ap_eC, ap_eOp, opO_ok, ap_eUn, ap_eTup, ap_eLst, tupR_ok, lstR_ok, ap_eCB, ap_eCall, callO_ok, callO_exc, ap_gNot, notR_b, ap_gTru, truR_b, truR_list, ap_gAnd, ap_gOr, andO_t, andO_f, orO_t, orO_f, ap_eAnd, ap_eOr, eandO_t, eandO_f, eorO_t, eorO_f, ap_eNot, enotO_b, enotO_list, ap_eIf, eifO_t, eifO_f, ap_eChain, chO_ok, ap_eIsi, isiO_int, isiO_tup, isiO_lst, isiO_bl, isiO_str, isiO_non, isInt_int, isInt_bl, isInt_tup, isInt_lst, isInt_str, isInt_non, isBool_int, isBool_bl, isTup_tup, isTup_lst, isTup_int, isTup_non, isTup_str, isTup_bl, isLst_lst, isLst_tup, f_add, f_sub, f_neg, f_eqI, f_neI, f_eqB, f_neB, f_lt, f_le, f_gt, f_ge, f_is, f_isNot, isNone_int, isNone_tup, isNone_lst, isNone_non, f_len_l, f_len_t, f_len_rd, f_tup_l, f_tup_t, f_max2, f_min2, f_abs, f_sum_l, f_sum_t, f_ix0, f_ix1, f_ix2, f_ix3, f_rev_t, outR_nx, outR_rt, outR_exc, nones0, nonesS, runB_eq, ap_eSl, optI_none, optI_some, optO_int, ap_sWh, ap_iSeq, items_l, items_t, ap_iRange1, ap_iRange2, wipeE_nil, wipeE_cons, evA_nil, evA_cons, RL.cons_ok, RL.cons_exc, RL.bind_ok, RL.bind_exc, RL.out_ok, RL.out_exc, Rs.bind_ok, Rs.bind_exc, Rs.out_ok, Rs.out_exc, Rs.of_some, Option.bind_some, List.getElem?_cons_zero, List.getElem?_cons_succ, List.set_cons_zero, List.set_cons_succ, List.map_cons, List.map_nil, List.cons_append, List.nil_append, List.length_cons, List.length_nil, Nat.reduceAdd, Nat.reduceSub, Nat.reduceLeDiff, Nat.reduceLT, Bool.not_true, Bool.not_false, decide_true, decide_false]
        rw [eLc_mapA (rangeI l (r - l).toNat) PyData.int (fun x => PyData.int (cell a (t + k) x - cell b (t + k - q) (x - p))) (by simp -implicitDefEqProofs only [e4, rangeD_eq, ap_sSeq, seqO_nx, seqO_rt, seqO_exc, ap_sIf, ifO_t, ifO_f, ifO_exc, ap_sNx, ap_sSet, ap_sOwn, ap_sRet, ap_sDrop, ap_sAsg, outB_some, bT_nm, bT_tp, bTs_nil, bTs_cons, ap_sRaise, ap_sPar, parO_ok, ap_sFor, ap_sRetV, retO_own, retO_val, ap_sFrz, frzO_own, frzO_val, ap_sApp, ap_sExt, ap_eV, valO_val, ap_eB, borO_val, borO_own, ap_eC, ap_eOp, opO_ok, ap_eUn, ap_eTup, ap_eLst, tupR_ok, lstR_ok, ap_eCB, ap_eCall, callO_ok, callO_exc, ap_gNot, notR_b, ap_gTru, truR_b, truR_list, ap_gAnd, ap_gOr, andO_t, andO_f, orO_t, orO_f, ap_eAnd, ap_eOr, eandO_t, eandO_f, eorO_t, eorO_f, ap_eNot, enotO_b, enotO_list, ap_eIf, eifO_t, eifO_f, ap_eChain, chO_ok, ap_eIsi, isiO_int, isiO_tup, isiO_lst, isiO_bl, isiO_str, isiO_non, isInt_int, isInt_bl, isInt_tup, isInt_lst, isInt_str, isInt_non, isBool_int, isBool_bl, isTup_tup, isTup_lst, isTup_int, isTup_non, isTup_str, isTup_bl, isLst_lst, isLst_tup, f_add, f_sub, f_neg, f_eqI, f_neI, f_eqB, f_neB, f_lt, f_le, f_gt, f_ge, f_is, f_isNot, isNone_int, isNone_tup, isNone_lst, isNone_non, f_len_l, f_len_t, f_len_rd, f_tup_l, f_tup_t, f_max2, f_min2, f_abs, f_sum_l, f_sum_t, f_ix0, f_ix1, f_ix2, f_ix3, f_rev_t, outR_nx, outR_rt, outR_exc, nones0, nonesS, runB_eq, ap_eSl, optI_none, optI_some, optO_int, ap_sWh, ap_iSeq, items_l, items_t, ap_iRange1, ap_iRange2, wipeE_nil, wipeE_cons, evA_nil, evA_cons, RL.cons_ok, RL.cons_exc, RL.bind_ok, RL.bind_exc, RL.out_ok, RL.out_exc, Rs.bind_ok, Rs.bind_exc, Rs.out_ok, Rs.out_exc, Rs.of_some, Option.bind_some, List.getElem?_cons_zero, List.getElem?_cons_succ, List.set_cons_zero, List.set_cons_succ, List.map_cons, List.map_nil, List.cons_append, List.nil_append, List.length_cons, List.length_nil, Nat.reduceAdd, Nat.reduceSub, Nat.reduceLeDiff, Nat.reduceLT, Bool.not_true, Bool.not_false, decide_true, decide_false]) (by rw [rangeI_length]; omega) (by
          intro x hx
          have hx' := mem_rangeI.mp hx
          have j1 : ixF (rowD (rw' a (t + k))) (.int x) = some (.int (cell a (t + k) x)) := ix_row _ x (by omega) (by omega)
          have j2 : ixF (rowD (rw' b (t + k - q))) (.int (x - p)) = some (.int (cell b (t + k - q) (x - p))) := ix_row _ _ (by omega) (by omega)
          simp -implicitDefEqProofs only [i1, i2, j1, j2, ap_sSeq, seqO_nx, seqO_rt, seqO_exc, ap_sIf, ifO_t, ifO_f, ifO_exc, ap_sNx, ap_sSet, ap_sOwn, ap_sRet, ap_sDrop, ap_sAsg, outB_some, bT_nm, bT_tp, bTs_nil, bTs_cons, ap_sRaise, ap_sPar, parO_ok, ap_sFor, ap_sRetV, retO_own, retO_val, ap_sFrz, frzO_own, frzO_val, ap_sApp, ap_sExt, ap_eV, valO_val, ap_eB, borO_val, borO_own, ap_eC, ap_eOp, opO_ok, ap_eUn, ap_eTup, ap_eLst, tupR_ok, lstR_ok, ap_eCB, ap_eCall, callO_ok, callO_exc, ap_gNot, notR_b, ap_gTru, truR_b, truR_list, ap_gAnd, ap_gOr, andO_t, andO_f, orO_t, orO_f, ap_eAnd, ap_eOr, eandO_t, eandO_f, eorO_t, eorO_f, ap_eNot, enotO_b, enotO_list, ap_eIf, eifO_t, eifO_f, ap_eChain, chO_ok, ap_eIsi, isiO_int, isiO_tup, isiO_lst, isiO_bl, isiO_str, isiO_non, isInt_int, isInt_bl, isInt_tup, isInt_lst, isInt_str, isInt_non, isBool_int, isBool_bl, isTup_tup, isTup_lst, isTup_int, isTup_non, isTup_str, isTup_bl, isLst_lst, isLst_tup, f_add, f_sub, f_neg, f_eqI, f_neI, f_eqB, f_neB, f_lt, f_le, f_gt, f_ge, f_is, f_isNot, isNone_int, isNone_tup, isNone_lst, isNone_non, f_len_l, f_len_t, f_len_rd, f_tup_l, f_tup_t, f_max2, f_min2, f_abs, f_sum_l, f_sum_t, f_ix0, f_ix1, f_ix2, f_ix3, f_rev_t, outR_nx, outR_rt, outR_exc, nones0, nonesS, runB_eq, ap_eSl, optI_none, optI_some, optO_int, ap_sWh, ap_iSeq, items_l, items_t, ap_iRange1, ap_iRange2, wipeE_nil, wipeE_cons, evA_nil, evA_cons, RL.cons_ok, RL.cons_exc, RL.bind_ok, RL.bind_exc, RL.out_ok, RL.out_exc, Rs.bind_ok, Rs.bind_exc, Rs.out_ok, Rs.out_exc, Rs.of_some, Option.bind_some, List.getElem?_cons_zero, List.getElem?_cons_succ, List.set_cons_zero, List.set_cons_succ, List.map_cons, List.map_nil, List.cons_append, List.nil_append, List.length_cons, List.length_nil, Nat.reduceAdd, Nat.reduceSub, Nat.reduceLeDiff, Nat.reduceLT, Bool.not_true, Bool.not_false, decide_true, decide_false]
          exact ⟨trivial, trivial⟩)]
        have hlen : ((stepsG a b p q l t (r - l).toNat k).map PyData.int).length + ((rangeI l (r - l).toNat).map fun x => PyData.int (cell a (t + k) x - cell b (t + k - q) (x - p))).length ≤ 16777216 := by
          rw [List.length_map, List.length_map, stepsG_length, rangeI_length]
          have : k * (r - l).toNat ≤ 12 * 12 := Nat.mul_le_mul (by omega) (by omega)
          omega
        rw [extO_ok _ _ _ _ hlen]
        simp -implicitDefEqProofs only [ap_sSeq, seqO_nx, seqO_rt, seqO_exc, ap_sIf, ifO_t, ifO_f, ifO_exc, ap_sNx, ap_sSet, ap_sOwn, ap_sRet, ap_sDrop, ap_sAsg, outB_some, bT_nm, bT_tp, bTs_nil, bTs_cons, ap_sRaise, ap_sPar, parO_ok, ap_sFor, ap_sRetV, retO_own, retO_val, ap_sFrz, frzO_own, frzO_val, ap_sApp, ap_sExt, ap_eV, valO_val, ap_eB, borO_val, borO_own, ap_eC, ap_eOp, opO_ok, ap_eUn, ap_eTup, ap_eLst, tupR_ok, lstR_ok, ap_eCB, ap_eCall, callO_ok, callO_exc, ap_gNot, notR_b, ap_gTru, truR_b, truR_list, ap_gAnd, ap_gOr, andO_t, andO_f, orO_t, orO_f, ap_eAnd, ap_eOr, eandO_t, eandO_f, eorO_t, eorO_f, ap_eNot, enotO_b, enotO_list, ap_eIf, eifO_t, eifO_f, ap_eChain, chO_ok, ap_eIsi, isiO_int, isiO_tup, isiO_lst, isiO_bl, isiO_str, isiO_non, isInt_int, isInt_bl, isInt_tup, isInt_lst, isInt_str, isInt_non, isBool_int, isBool_bl, isTup_tup, isTup_lst, isTup_int, isTup_non, isTup_str, isTup_bl, isLst_lst, isLst_tup, f_add, f_sub, f_neg, f_eqI, f_neI, f_eqB, f_neB, f_lt, f_le, f_gt, f_ge, f_is, f_isNot, isNone_int, isNone_tup, isNone_lst, isNone_non, f_len_l, f_len_t, f_len_rd, f_tup_l, f_tup_t, f_max2, f_min2, f_abs, f_sum_l, f_sum_t, f_ix0, f_ix1, f_ix2, f_ix3, f_rev_t, outR_nx, outR_rt, outR_exc, nones0, nonesS, runB_eq, ap_eSl, optI_none, optI_some, optO_int, ap_sWh, ap_iSeq, items_l, items_t, ap_iRange1, ap_iRange2, wipeE_nil, wipeE_cons, evA_nil, evA_cons, RL.cons_ok, RL.cons_exc, RL.bind_ok, RL.bind_exc, RL.out_ok, RL.out_exc, Rs.bind_ok, Rs.bind_exc, Rs.out_ok, Rs.out_exc, Rs.of_some, Option.bind_some, List.getElem?_cons_zero, List.getElem?_cons_succ, List.set_cons_zero, List.set_cons_succ, List.map_cons, List.map_nil, List.cons_append, List.nil_append, List.length_cons, List.length_nil, Nat.reduceAdd, Nat.reduceSub, Nat.reduceLeDiff, Nat.reduceLT, Bool.not_true, Bool.not_false, decide_true, decide_false]
        refine ⟨_, rfl, some (.val (.int (t + k))), ?_⟩
        rw [stepsG_succ, List.map_append]
        simp -implicitDefEqProofs only [stepRow, List.map_map]
        rfl)
    obtain ⟨o, rfl⟩ := P
    rw [e]
    simp -implicitDefEqProofs only [ap_sSeq, seqO_nx, seqO_rt, seqO_exc, ap_sIf, ifO_t, ifO_f, ifO_exc, ap_sNx, ap_sSet, ap_sOwn, ap_sRet, ap_sDrop, ap_sAsg, outB_some, bT_nm, bT_tp, bTs_nil, bTs_cons, ap_sRaise, ap_sPar, parO_ok, ap_sFor, ap_sRetV, retO_own, retO_val, ap_sFrz, frzO_own, frzO_val, ap_sApp, ap_sExt, ap_eV, valO_val, ap_eB, borO_val, borO_own, ap_eC, ap_eOp, opO_ok, ap_eUn, ap_eTup, ap_eLst, tupR_ok, lstR_ok, ap_eCB, ap_eCall, callO_ok, callO_exc, ap_gNot, notR_b, ap_gTru, truR_b, truR_list, ap_gAnd, ap_gOr, andO_t, andO_f, orO_t, orO_f, ap_eAnd, ap_eOr, eandO_t, eandO_f, eorO_t, eorO_f, ap_eNot, enotO_b, enotO_list, ap_eIf, eifO_t, eifO_f, ap_eChain, chO_ok, ap_eIsi, isiO_int, isiO_tup, isiO_lst, isiO_bl, isiO_str, isiO_non, isInt_int, isInt_bl, isInt_tup, isInt_lst, isInt_str, isInt_non, isBool_int, isBool_bl, isTup_tup, isTup_lst, isTup_int, isTup_non, isTup_str, isTup_bl, isLst_lst, isLst_tup, f_add, f_sub, f_neg, f_eqI, f_neI, f_eqB, f_neB, f_lt, f_le, f_gt, f_ge, f_is, f_isNot, isNone_int, isNone_tup, isNone_lst, isNone_non, f_len_l, f_len_t, f_len_rd, f_tup_l, f_tup_t, f_max2, f_min2, f_abs, f_sum_l, f_sum_t, f_ix0, f_ix1, f_ix2, f_ix3, f_rev_t, outR_nx, outR_rt, outR_exc, nones0, nonesS, runB_eq, ap_eSl, optI_none, optI_some, optO_int, ap_sWh, ap_iSeq, items_l, items_t, ap_iRange1, ap_iRange2, wipeE_nil, wipeE_cons, evA_nil, evA_cons, RL.cons_ok, RL.cons_exc, RL.bind_ok, RL.bind_exc, RL.out_ok, RL.out_exc, Rs.bind_ok, Rs.bind_exc, Rs.out_ok, Rs.out_exc, Rs.of_some, Option.bind_some, List.getElem?_cons_zero, List.getElem?_cons_succ, List.set_cons_zero, List.set_cons_succ, List.map_cons, List.map_nil, List.cons_append, List.nil_append, List.length_cons, List.length_nil, Nat.reduceAdd, Nat.reduceSub, Nat.reduceLeDiff, Nat.reduceLT, Bool.not_true, Bool.not_false, decide_true, decide_false]
    unfold steps
    rw [hl, ht, hr, hb]
  · have ebox : boxD w h w' h' p q = .none := if_neg c
    have es : steps a b w h w' h' p q = [] := by
      have : (steps a b w h w' h' p q).length = 0 := by
        unfold steps
        rw [stepsG_length]
        rcases Classical.not_and_iff_not_or_not.mp c with c | c
        · have : (min (w : Int) (p + w') - max 0 p).toNat = 0 := by omega
          rw [this, Nat.mul_zero]
        · have : (min (h : Int) (q + h') - max 0 q).toNat = 0 := by omega
          rw [this, Nat.zero_mul]
      exact List.eq_nil_of_length_eq_zero this
    rw [ebox, es]
    simp -implicitDefEqProofs only [ap_sSeq, seqO_nx, seqO_rt, seqO_exc, ap_sIf, ifO_t, ifO_f, ifO_exc, ap_sNx, ap_sSet, ap_sOwn, ap_sRet, ap_sDrop, ap_sAsg, outB_some, bT_nm, bT_tp, bTs_nil, bTs_cons, ap_sRaise, ap_sPar, parO_ok, ap_sFor, ap_sRetV, retO_own, retO_val, ap_sFrz, frzO_own, frzO_val, ap_sApp, ap_sExt, ap_eV, valO_val, ap_eB, borO_val, borO_own, ap_eC, ap_eOp, opO_ok, ap_eUn, ap_eTup, ap_eLst, tupR_ok, lstR_ok, ap_eCB, ap_eCall, callO_ok, callO_exc, ap_gNot, notR_b, ap_gTru, truR_b, truR_list, ap_gAnd, ap_gOr, andO_t, andO_f, orO_t, orO_f, ap_eAnd, ap_eOr, eandO_t, eandO_f, eorO_t, eorO_f, ap_eNot, enotO_b, enotO_list, ap_eIf, eifO_t, eifO_f, ap_eChain, chO_ok, ap_eIsi, isiO_int, isiO_tup, isiO_lst, isiO_bl, isiO_str, isiO_non, isInt_int, isInt_bl, isInt_tup, isInt_lst, isInt_str, isInt_non, isBool_int, isBool_bl, isTup_tup, isTup_lst, isTup_int, isTup_non, isTup_str, isTup_bl, isLst_lst, isLst_tup, f_add, f_sub, f_neg, f_eqI, f_neI, f_eqB, f_neB, f_lt, f_le, f_gt, f_ge, f_is, f_isNot, isNone_int, isNone_tup, isNone_lst, isNone_non, f_len_l, f_len_t, f_len_rd, f_tup_l, f_tup_t, f_max2, f_min2, f_abs, f_sum_l, f_sum_t, f_ix0, f_ix1, f_ix2, f_ix3, f_rev_t, outR_nx, outR_rt, outR_exc, nones0, nonesS, runB_eq, ap_eSl, optI_none, optI_some, optO_int, ap_sWh, ap_iSeq, items_l, items_t, ap_iRange1, ap_iRange2, wipeE_nil, wipeE_cons, evA_nil, evA_cons, RL.cons_ok, RL.cons_exc, RL.bind_ok, RL.bind_exc, RL.out_ok, RL.out_exc, Rs.bind_ok, Rs.bind_exc, Rs.out_ok, Rs.out_exc, Rs.of_some, Option.bind_some, List.getElem?_cons_zero, List.getElem?_cons_succ, List.set_cons_zero, List.set_cons_succ, List.map_cons, List.map_nil, List.cons_append, List.nil_append, List.length_cons, List.length_nil, Nat.reduceAdd, Nat.reduceSub, Nat.reduceLeDiff, Nat.reduceLT, Bool.not_true, Bool.not_false, decide_true, decide_false]
end VVlaw

set_option Elab.async false
set_option linter.all false
set_option maxRecDepth 100000
set_option maxHeartbeats 4000000
/-! PLd: gcd, least, unlike; mirrored, lit, cut_out. -/
namespace VVlaw
open PySem PySem.Spec L2 VV
open PyProof.Rows hiding St
theorem gcd_step (a b : Int) : Int.gcd a b = Int.gcd b (a % b) := by
  have key : ∀ u v k : Int, ((Int.gcd u v : Nat) : Int) ∣ u - v * k := fun u v k => Int.dvd_sub (Int.gcd_dvd_left ..) (Int.dvd_trans (Int.gcd_dvd_right ..) (Int.dvd_mul_right ..))
  apply Nat.dvd_antisymm
  · refine Int.natCast_dvd_natCast.mp (Int.dvd_coe_gcd (Int.gcd_dvd_right ..) ?_)
    rw [Int.emod_def]
    exact key a b _
  · refine Int.natCast_dvd_natCast.mp (Int.dvd_coe_gcd ?_ (Int.gcd_dvd_left ..))
    have e : a = a % b + b * (a / b) := (Int.emod_add_mul_ediv a b).symm
    have h : ((Int.gcd b (a % b) : Nat) : Int) ∣ a % b + b * (a / b) := Int.dvd_add (Int.gcd_dvd_right ..) (Int.dvd_trans (Int.gcd_dvd_left ..) (Int.dvd_mul_right ..))
    rw [← e] at h
    exact h
theorem common_go : ∀ (n : Nat) (a b : Int), 0 ≤ b → b < n → ∃ g : Int, whGo (eOp neF (eV 1) (eC (.int 0))) lp_common_1 n [some (.val (.int a)), some (.val (.int b))] = .nx [some (.val (.int g)), some (.val (.int 0))] ∧ g.natAbs = Int.gcd a b
  | 0, a, b, h0, h => by omega
  | n + 1, a, b, h0, h => by
    by_cases hb : b = 0
    · subst hb
      refine ⟨a, whGo_f (by simp -implicitDefEqProofs only [ap_sSeq, seqO_nx, seqO_rt, seqO_exc, ap_sIf, ifO_t, ifO_f, ifO_exc, ap_sNx, ap_sSet, ap_sOwn, ap_sRet, ap_sDrop, ap_sAsg, outB_some, bT_nm, bT_tp, bTs_nil, bTs_cons, ap_sRaise, ap_sPar, parO_ok, ap_sFor, ap_sRetV, retO_own, retO_val, ap_sFrz, frzO_own, frzO_val, ap_sApp, ap_sExt, ap_eV, valO_val, ap_eB, borO_val, borO_own, ap_eC, ap_eOp, opO_ok, ap_eUn, ap_eTup, ap_eLst, tupR_ok, lstR_ok, ap_eCB, ap_eCall, callO_ok, callO_exc, ap_gNot, notR_b, ap_gTru, truR_b, truR_list, ap_gAnd, ap_gOr, andO_t, andO_f, orO_t, orO_f, ap_eAnd, ap_eOr, eandO_t, eandO_f, eorO_t, eorO_f, ap_eNot, enotO_b, enotO_list, ap_eIf, eifO_t, eifO_f, ap_eChain, chO_ok, ap_eIsi, isiO_int, isiO_tup, isiO_lst, isiO_bl, isiO_str, isiO_non, isInt_int, isInt_bl, isInt_tup, isInt_lst, isInt_str, isInt_non, isBool_int, isBool_bl, isTup_tup, isTup_lst, isTup_int, isTup_non, isTup_str, isTup_bl, isLst_lst, isLst_tup, f_add, f_sub, f_neg, f_eqI, f_neI, f_eqB, f_neB, f_lt, f_le, f_gt, f_ge, f_is, f_isNot, isNone_int, isNone_tup, isNone_lst, isNone_non, f_len_l, f_len_t, f_len_rd, f_tup_l, f_tup_t, f_max2, f_min2, f_abs, f_sum_l, f_sum_t, f_ix0, f_ix1, f_ix2, f_ix3, f_rev_t, outR_nx, outR_rt, outR_exc, nones0, nonesS, runB_eq, ap_eSl, optI_none, optI_some, optO_int, ap_sWh, ap_iSeq, items_l, items_t, ap_iRange1, ap_iRange2, wipeE_nil, wipeE_cons, evA_nil, evA_cons, RL.cons_ok, RL.cons_exc, RL.bind_ok, RL.bind_exc, RL.out_ok, RL.out_exc, Rs.bind_ok, Rs.bind_exc, Rs.out_ok, Rs.out_exc, Rs.of_some, Option.bind_some, List.getElem?_cons_zero, List.getElem?_cons_succ, List.set_cons_zero, List.set_cons_succ, List.map_cons, List.map_nil, List.cons_append, List.nil_append, List.length_cons, List.length_nil, Nat.reduceAdd, Nat.reduceSub, Nat.reduceLeDiff, Nat.reduceLT, Bool.not_true, Bool.not_false, decide_true, decide_false]), by simp⟩
    · obtain ⟨g, e, eg⟩ := common_go n b (a % b) (Int.emod_nonneg _ hb) (by have := Int.emod_lt_of_pos a (show 0 < b by omega); omega)
      refine ⟨g, ?_, ?_⟩
      · rw [whGo_t (ρ2 := [some (.val (.int b)), some (.val (.int (a % b)))]) (by simp -implicitDefEqProofs only [hb, ap_sSeq, seqO_nx, seqO_rt, seqO_exc, ap_sIf, ifO_t, ifO_f, ifO_exc, ap_sNx, ap_sSet, ap_sOwn, ap_sRet, ap_sDrop, ap_sAsg, outB_some, bT_nm, bT_tp, bTs_nil, bTs_cons, ap_sRaise, ap_sPar, parO_ok, ap_sFor, ap_sRetV, retO_own, retO_val, ap_sFrz, frzO_own, frzO_val, ap_sApp, ap_sExt, ap_eV, valO_val, ap_eB, borO_val, borO_own, ap_eC, ap_eOp, opO_ok, ap_eUn, ap_eTup, ap_eLst, tupR_ok, lstR_ok, ap_eCB, ap_eCall, callO_ok, callO_exc, ap_gNot, notR_b, ap_gTru, truR_b, truR_list, ap_gAnd, ap_gOr, andO_t, andO_f, orO_t, orO_f, ap_eAnd, ap_eOr, eandO_t, eandO_f, eorO_t, eorO_f, ap_eNot, enotO_b, enotO_list, ap_eIf, eifO_t, eifO_f, ap_eChain, chO_ok, ap_eIsi, isiO_int, isiO_tup, isiO_lst, isiO_bl, isiO_str, isiO_non, isInt_int, isInt_bl, isInt_tup, isInt_lst, isInt_str, isInt_non, isBool_int, isBool_bl, isTup_tup, isTup_lst, isTup_int, isTup_non, isTup_str, isTup_bl, isLst_lst, isLst_tup, f_add, f_sub, f_neg, f_eqI, f_neI, f_eqB, f_neB, f_lt, f_le, f_gt, f_ge, f_is, f_isNot, isNone_int, isNone_tup, isNone_lst, isNone_non, f_len_l, f_len_t, f_len_rd, f_tup_l, f_tup_t, f_max2, f_min2, f_abs, f_sum_l, f_sum_t, f_ix0, f_ix1, f_ix2, f_ix3, f_rev_t, outR_nx, outR_rt, outR_exc, nones0, nonesS, runB_eq, ap_eSl, optI_none, optI_some, optO_int, ap_sWh, ap_iSeq, items_l, items_t, ap_iRange1, ap_iRange2, wipeE_nil, wipeE_cons, evA_nil, evA_cons, RL.cons_ok, RL.cons_exc, RL.bind_ok, RL.bind_exc, RL.out_ok, RL.out_exc, Rs.bind_ok, Rs.bind_exc, Rs.out_ok, Rs.out_exc, Rs.of_some, Option.bind_some, List.getElem?_cons_zero, List.getElem?_cons_succ, List.set_cons_zero, List.set_cons_succ, List.map_cons, List.map_nil, List.cons_append, List.nil_append, List.length_cons, List.length_nil, Nat.reduceAdd, Nat.reduceSub, Nat.reduceLeDiff, Nat.reduceLT, Bool.not_true, Bool.not_false, decide_true, decide_false]) (by simp -implicitDefEqProofs only [lp_common_1, f_modP a b (by omega), ap_sSeq, seqO_nx, seqO_rt, seqO_exc, ap_sIf, ifO_t, ifO_f, ifO_exc, ap_sNx, ap_sSet, ap_sOwn, ap_sRet, ap_sDrop, ap_sAsg, outB_some, bT_nm, bT_tp, bTs_nil, bTs_cons, ap_sRaise, ap_sPar, parO_ok, ap_sFor, ap_sRetV, retO_own, retO_val, ap_sFrz, frzO_own, frzO_val, ap_sApp, ap_sExt, ap_eV, valO_val, ap_eB, borO_val, borO_own, ap_eC, ap_eOp, opO_ok, ap_eUn, ap_eTup, ap_eLst, tupR_ok, lstR_ok, ap_eCB, ap_eCall, callO_ok, callO_exc, ap_gNot, notR_b, ap_gTru, truR_b, truR_list, ap_gAnd, ap_gOr, andO_t, andO_f, orO_t, orO_f, ap_eAnd, ap_eOr, eandO_t, eandO_f, eorO_t, eorO_f, ap_eNot, enotO_b, enotO_list, ap_eIf, eifO_t, eifO_f, ap_eChain, chO_ok, ap_eIsi, isiO_int, isiO_tup, isiO_lst, isiO_bl, isiO_str, isiO_non, isInt_int, isInt_bl, isInt_tup, isInt_lst, isInt_str, isInt_non, isBool_int, isBool_bl, isTup_tup, isTup_lst, isTup_int, isTup_non, isTup_str, isTup_bl, isLst_lst, isLst_tup, f_add, f_sub, f_neg, f_eqI, f_neI, f_eqB, f_neB, f_lt, f_le, f_gt, f_ge, f_is, f_isNot, isNone_int, isNone_tup, isNone_lst, isNone_non, f_len_l, f_len_t, f_len_rd, f_tup_l, f_tup_t, f_max2, f_min2, f_abs, f_sum_l, f_sum_t, f_ix0, f_ix1, f_ix2, f_ix3, f_rev_t, outR_nx, outR_rt, outR_exc, nones0, nonesS, runB_eq, ap_eSl, optI_none, optI_some, optO_int, ap_sWh, ap_iSeq, items_l, items_t, ap_iRange1, ap_iRange2, wipeE_nil, wipeE_cons, evA_nil, evA_cons, RL.cons_ok, RL.cons_exc, RL.bind_ok, RL.bind_exc, RL.out_ok, RL.out_exc, Rs.bind_ok, Rs.bind_exc, Rs.out_ok, Rs.out_exc, Rs.of_some, Option.bind_some, List.getElem?_cons_zero, List.getElem?_cons_succ, List.set_cons_zero, List.set_cons_succ, List.map_cons, List.map_nil, List.cons_append, List.nil_append, List.length_cons, List.length_nil, Nat.reduceAdd, Nat.reduceSub, Nat.reduceLeDiff, Nat.reduceLT, Bool.not_true, Bool.not_false, decide_true, decide_false]), e]
      · rw [eg, ← gcd_step]
theorem common_eq (a b : Int) (h0 : 0 ≤ b) (h : b < 1000000) : sem_common [.int a, .int b] = .ok (.int (Int.gcd a b)) := by
  obtain ⟨g, e, eg⟩ := common_go 1000000 a b h0 h
  simp -implicitDefEqProofs only [sem_common, b_common, e, ap_sSeq, seqO_nx, seqO_rt, seqO_exc, ap_sIf, ifO_t, ifO_f, ifO_exc, ap_sNx, ap_sSet, ap_sOwn, ap_sRet, ap_sDrop, ap_sAsg, outB_some, bT_nm, bT_tp, bTs_nil, bTs_cons, ap_sRaise, ap_sPar, parO_ok, ap_sFor, ap_sRetV, retO_own, retO_val, ap_sFrz, frzO_own, frzO_val, ap_sApp, ap_sExt, ap_eV, valO_val, ap_eB, borO_val, borO_own, ap_eC, ap_eOp, opO_ok, ap_eUn, ap_eTup, ap_eLst, tupR_ok, lstR_ok, ap_eCB, ap_eCall, callO_ok, callO_exc, ap_gNot, notR_b, ap_gTru, truR_b, truR_list, ap_gAnd, ap_gOr, andO_t, andO_f, orO_t, orO_f, ap_eAnd, ap_eOr, eandO_t, eandO_f, eorO_t, eorO_f, ap_eNot, enotO_b, enotO_list, ap_eIf, eifO_t, eifO_f, ap_eChain, chO_ok, ap_eIsi, isiO_int, isiO_tup, isiO_lst, isiO_bl, isiO_str, isiO_non, isInt_int, isInt_bl, isInt_tup, isInt_lst, isInt_str, isInt_non, isBool_int, isBool_bl, isTup_tup, isTup_lst, isTup_int, isTup_non, isTup_str, isTup_bl, isLst_lst, isLst_tup, f_add, f_sub, f_neg, f_eqI, f_neI, f_eqB, f_neB, f_lt, f_le, f_gt, f_ge, f_is, f_isNot, isNone_int, isNone_tup, isNone_lst, isNone_non, f_len_l, f_len_t, f_len_rd, f_tup_l, f_tup_t, f_max2, f_min2, f_abs, f_sum_l, f_sum_t, f_ix0, f_ix1, f_ix2, f_ix3, f_rev_t, outR_nx, outR_rt, outR_exc, nones0, nonesS, runB_eq, ap_eSl, optI_none, optI_some, optO_int, ap_sWh, ap_iSeq, items_l, items_t, ap_iRange1, ap_iRange2, wipeE_nil, wipeE_cons, evA_nil, evA_cons, RL.cons_ok, RL.cons_exc, RL.bind_ok, RL.bind_exc, RL.out_ok, RL.out_exc, Rs.bind_ok, Rs.bind_exc, Rs.out_ok, Rs.out_exc, Rs.of_some, Option.bind_some, List.getElem?_cons_zero, List.getElem?_cons_succ, List.set_cons_zero, List.set_cons_succ, List.map_cons, List.map_nil, List.cons_append, List.nil_append, List.length_cons, List.length_nil, Nat.reduceAdd, Nat.reduceSub, Nat.reduceLeDiff, Nat.reduceLT, Bool.not_true, Bool.not_false, decide_true, decide_false]
  congr 2
  rw [← eg]
  split <;> omega
theorem least_eq (a b : Int) (h0 : 0 < b) (h : b < 1000000) : sem_least [.int a, .int b] = .ok (.tuple [.int (a / (Int.gcd a b : Int)), .int (b / (Int.gcd a b : Int))]) := by
  have hg : 0 < Int.gcd a b := Int.gcd_pos_of_ne_zero_right a (by omega)
  have hle : ((Int.gcd a b : Nat) : Int) ≤ b := Int.le_of_dvd h0 (Int.gcd_dvd_right ..)
  have hn : ¬ b < 0 := by omega
  simp -implicitDefEqProofs only [sem_least, b_least, common_eq a b (by omega) h, hn, ap_sSeq, seqO_nx, seqO_rt, seqO_exc, ap_sIf, ifO_t, ifO_f, ifO_exc, ap_sNx, ap_sSet, ap_sOwn, ap_sRet, ap_sDrop, ap_sAsg, outB_some, bT_nm, bT_tp, bTs_nil, bTs_cons, ap_sRaise, ap_sPar, parO_ok, ap_sFor, ap_sRetV, retO_own, retO_val, ap_sFrz, frzO_own, frzO_val, ap_sApp, ap_sExt, ap_eV, valO_val, ap_eB, borO_val, borO_own, ap_eC, ap_eOp, opO_ok, ap_eUn, ap_eTup, ap_eLst, tupR_ok, lstR_ok, ap_eCB, ap_eCall, callO_ok, callO_exc, ap_gNot, notR_b, ap_gTru, truR_b, truR_list, ap_gAnd, ap_gOr, andO_t, andO_f, orO_t, orO_f, ap_eAnd, ap_eOr, eandO_t, eandO_f, eorO_t, eorO_f, ap_eNot, enotO_b, enotO_list, ap_eIf, eifO_t, eifO_f, ap_eChain, chO_ok, ap_eIsi, isiO_int, isiO_tup, isiO_lst, isiO_bl, isiO_str, isiO_non, isInt_int, isInt_bl, isInt_tup, isInt_lst, isInt_str, isInt_non, isBool_int, isBool_bl, isTup_tup, isTup_lst, isTup_int, isTup_non, isTup_str, isTup_bl, isLst_lst, isLst_tup, f_add, f_sub, f_neg, f_eqI, f_neI, f_eqB, f_neB, f_lt, f_le, f_gt, f_ge, f_is, f_isNot, isNone_int, isNone_tup, isNone_lst, isNone_non, f_len_l, f_len_t, f_len_rd, f_tup_l, f_tup_t, f_max2, f_min2, f_abs, f_sum_l, f_sum_t, f_ix0, f_ix1, f_ix2, f_ix3, f_rev_t, outR_nx, outR_rt, outR_exc, nones0, nonesS, runB_eq, ap_eSl, optI_none, optI_some, optO_int, ap_sWh, ap_iSeq, items_l, items_t, ap_iRange1, ap_iRange2, wipeE_nil, wipeE_cons, evA_nil, evA_cons, RL.cons_ok, RL.cons_exc, RL.bind_ok, RL.bind_exc, RL.out_ok, RL.out_exc, Rs.bind_ok, Rs.bind_exc, Rs.out_ok, Rs.out_exc, Rs.of_some, Option.bind_some, List.getElem?_cons_zero, List.getElem?_cons_succ, List.set_cons_zero, List.set_cons_succ, List.map_cons, List.map_nil, List.cons_append, List.nil_append, List.length_cons, List.length_nil, Nat.reduceAdd, Nat.reduceSub, Nat.reduceLeDiff, Nat.reduceLT, Bool.not_true, Bool.not_false, decide_true, decide_false]
  rw [f_divP a _ (by omega) (by omega), f_divP b _ (by omega) (by omega)]
  simp -implicitDefEqProofs only [ap_sSeq, seqO_nx, seqO_rt, seqO_exc, ap_sIf, ifO_t, ifO_f, ifO_exc, ap_sNx, ap_sSet, ap_sOwn, ap_sRet, ap_sDrop, ap_sAsg, outB_some, bT_nm, bT_tp, bTs_nil, bTs_cons, ap_sRaise, ap_sPar, parO_ok, ap_sFor, ap_sRetV, retO_own, retO_val, ap_sFrz, frzO_own, frzO_val, ap_sApp, ap_sExt, ap_eV, valO_val, ap_eB, borO_val, borO_own, ap_eC, ap_eOp, opO_ok, ap_eUn, ap_eTup, ap_eLst, tupR_ok, lstR_ok, ap_eCB, ap_eCall, callO_ok, callO_exc, ap_gNot, notR_b, ap_gTru, truR_b, truR_list, ap_gAnd, ap_gOr, andO_t, andO_f, orO_t, orO_f, ap_eAnd, ap_eOr, eandO_t, eandO_f, eorO_t, eorO_f, ap_eNot, enotO_b, enotO_list, ap_eIf, eifO_t, eifO_f, ap_eChain, chO_ok, ap_eIsi, isiO_int, isiO_tup, isiO_lst, isiO_bl, isiO_str, isiO_non, isInt_int, isInt_bl, isInt_tup, isInt_lst, isInt_str, isInt_non, isBool_int, isBool_bl, isTup_tup, isTup_lst, isTup_int, isTup_non, isTup_str, isTup_bl, isLst_lst, isLst_tup, f_add, f_sub, f_neg, f_eqI, f_neI, f_eqB, f_neB, f_lt, f_le, f_gt, f_ge, f_is, f_isNot, isNone_int, isNone_tup, isNone_lst, isNone_non, f_len_l, f_len_t, f_len_rd, f_tup_l, f_tup_t, f_max2, f_min2, f_abs, f_sum_l, f_sum_t, f_ix0, f_ix1, f_ix2, f_ix3, f_rev_t, outR_nx, outR_rt, outR_exc, nones0, nonesS, runB_eq, ap_eSl, optI_none, optI_some, optO_int, ap_sWh, ap_iSeq, items_l, items_t, ap_iRange1, ap_iRange2, wipeE_nil, wipeE_cons, evA_nil, evA_cons, RL.cons_ok, RL.cons_exc, RL.bind_ok, RL.bind_exc, RL.out_ok, RL.out_exc, Rs.bind_ok, Rs.bind_exc, Rs.out_ok, Rs.out_exc, Rs.of_some, Option.bind_some, List.getElem?_cons_zero, List.getElem?_cons_succ, List.set_cons_zero, List.set_cons_succ, List.map_cons, List.map_nil, List.cons_append, List.nil_append, List.length_cons, List.length_nil, Nat.reduceAdd, Nat.reduceSub, Nat.reduceLeDiff, Nat.reduceLT, Bool.not_true, Bool.not_false, decide_true, decide_false]
theorem least_zero (b : Int) (h0 : 0 < b) (h : b < 1000000) : sem_least [.int 0, .int b] = .ok (.tuple [.int 0, .int 1]) := by
  rw [least_eq 0 b h0 h]
  have e : ((Int.gcd 0 b : Nat) : Int) = b := by rw [Int.gcd_zero_left]; omega
  rw [e, Int.zero_ediv, Int.ediv_self (by omega)]
/-- how unlike, of the steps -/
def unl (L : List Int) : D := if L = [] then .none else
  .tuple [.int (((L.length : Int) * (L.map fun x => x * x).sum - L.sum * L.sum) / (Int.gcd ((L.length : Int) * (L.map fun x => x * x).sum - L.sum * L.sum) ((L.length : Int) * L.length) : Int)),
    .int (((L.length : Int) * L.length) / (Int.gcd ((L.length : Int) * (L.map fun x => x * x).sum - L.sum * L.sum) ((L.length : Int) * L.length) : Int))]
theorem unl_ly (L : List Int) : Ly 1 (unl L) := by
  unfold unl
  split
  · exact Ly.none 1
  · exact Ly.tuple fun d hd => by
      simp -implicitDefEqProofs only [List.mem_cons, List.not_mem_nil, or_false] at hd
      rcases hd with rfl | rfl <;> exact Ly.int 0 _
theorem unl_of {L M : List Int} (h1 : L.length = M.length) (h2 : (L.length : Int) * (L.map fun x => x * x).sum - L.sum * L.sum = (M.length : Int) * (M.map fun x => x * x).sum - M.sum * M.sum) : unl L = unl M := by
  unfold unl
  by_cases c : L = []
  · have : M = [] := by
      subst c
      exact List.eq_nil_of_length_eq_zero h1.symm
    rw [if_pos c, if_pos this]
  · have : ¬ M = [] := fun z => c (by subst z; exact List.eq_nil_of_length_eq_zero h1)
    rw [if_neg c, if_neg this, h2, h1]
theorem cell_bd {s : List (List Int)} {h w : Nat} (S : Sh s h w) (y x : Int) : 0 ≤ cell s y x ∧ cell s y x ≤ 255 := by
  unfold cell rw'
  simp -implicitDefEqProofs only [List.getD_eq_getElem?_getD]
  by_cases hy : y.toNat < s.length
  · rw [List.getElem?_eq_getElem hy]
    simp -implicitDefEqProofs only [Option.getD_some]
    by_cases hx : x.toNat < s[y.toNat].length
    · rw [List.getElem?_eq_getElem hx]
      exact S.lev _ (List.getElem_mem hy) _ (List.getElem_mem hx)
    · rw [List.getElem?_eq_none (show s[y.toNat].length ≤ x.toNat by omega)]
      exact ⟨by decide, by decide⟩
  · rw [List.getElem?_eq_none (show s.length ≤ y.toNat by omega)]
    simp
theorem steps_bd {a b : List (List Int)} {h w h' w' : Nat} (A : Sh a h w) (B : Sh b h' w') (W H W' H' p q : Int) : ∀ x ∈ steps a b W H W' H' p q, -255 ≤ x ∧ x ≤ 255 := by
  intro x hx
  unfold steps stepsG at hx
  obtain ⟨y, _, hx⟩ := List.mem_flatMap.mp hx
  unfold stepRow at hx
  obtain ⟨z, _, rfl⟩ := List.mem_map.mp hx
  have := cell_bd A y z
  have := cell_bd B (y - q) (z - p)
  omega
theorem steps_len {a b : List (List Int)} {h w : Nat} (hw : w ≤ 12) (hh : h ≤ 12) (w' h' p q : Int) : (steps a b w h w' h' p q).length ≤ 144 := by
  unfold steps
  rw [stepsG_length]
  exact Nat.mul_le_mul (show _ ≤ 12 by omega) (show _ ≤ 12 by omega)
theorem unlike_of_eq {a b : List (List Int)} {h w h' w' : Nat} (A : Sh a h w) (B : Sh b h' w') (p q : Int) (hp : -12 ≤ p ∧ p ≤ 12) (hq : -12 ≤ q ∧ q ≤ 12) : sem_unlike_of [shD a, shD b, .tuple [.int p, .int q]] = .ok (unl (steps a b w h w' h' p q)) := by
  simp -implicitDefEqProofs only [sem_unlike_of, b_unlike_of, steps_of_eq A B p q hp hq, ap_sSeq, seqO_nx, seqO_rt, seqO_exc, ap_sIf, ifO_t, ifO_f, ifO_exc, ap_sNx, ap_sSet, ap_sOwn, ap_sRet, ap_sDrop, ap_sAsg, outB_some, bT_nm, bT_tp, bTs_nil, bTs_cons, ap_sRaise, ap_sPar, parO_ok, ap_sFor, ap_sRetV, retO_own, retO_val, ap_sFrz, frzO_own, frzO_val, ap_sApp, ap_sExt, ap_eV, valO_val, ap_eB, borO_val, borO_own, ap_eC, ap_eOp, opO_ok, ap_eUn, ap_eTup, ap_eLst, tupR_ok, lstR_ok, ap_eCB, ap_eCall, callO_ok, callO_exc, ap_gNot, notR_b, ap_gTru, truR_b, truR_list, ap_gAnd, ap_gOr, andO_t, andO_f, orO_t, orO_f, ap_eAnd, ap_eOr, eandO_t, eandO_f, eorO_t, eorO_f, ap_eNot, enotO_b, enotO_list, ap_eIf, eifO_t, eifO_f, ap_eChain, chO_ok, ap_eIsi, isiO_int, isiO_tup, isiO_lst, isiO_bl, isiO_str, isiO_non, isInt_int, isInt_bl, isInt_tup, isInt_lst, isInt_str, isInt_non, isBool_int, isBool_bl, isTup_tup, isTup_lst, isTup_int, isTup_non, isTup_str, isTup_bl, isLst_lst, isLst_tup, f_add, f_sub, f_neg, f_eqI, f_neI, f_eqB, f_neB, f_lt, f_le, f_gt, f_ge, f_is, f_isNot, isNone_int, isNone_tup, isNone_lst, isNone_non, f_len_l, f_len_t, f_len_rd, f_tup_l, f_tup_t, f_max2, f_min2, f_abs, f_sum_l, f_sum_t, f_ix0, f_ix1, f_ix2, f_ix3, f_rev_t, outR_nx, outR_rt, outR_exc, nones0, nonesS, runB_eq, ap_eSl, optI_none, optI_some, optO_int, ap_sWh, ap_iSeq, items_l, items_t, ap_iRange1, ap_iRange2, wipeE_nil, wipeE_cons, evA_nil, evA_cons, RL.cons_ok, RL.cons_exc, RL.bind_ok, RL.bind_exc, RL.out_ok, RL.out_exc, Rs.bind_ok, Rs.bind_exc, Rs.out_ok, Rs.out_exc, Rs.of_some, Option.bind_some, List.getElem?_cons_zero, List.getElem?_cons_succ, List.set_cons_zero, List.set_cons_succ, List.map_cons, List.map_nil, List.cons_append, List.nil_append, List.length_cons, List.length_nil, Nat.reduceAdd, Nat.reduceSub, Nat.reduceLeDiff, Nat.reduceLT, Bool.not_true, Bool.not_false, decide_true, decide_false]
  have hbd := steps_bd A B w h w' h' p q
  have hln := steps_len (a := a) (b := b) A.w2 A.h2 w' h' p q
  generalize steps a b w h w' h' p q = L at hbd hln
  have hsum := sum_bd 255 L hbd
  cases L with
  | nil =>
    have e0 : unl [] = .none := if_pos rfl
    simp -implicitDefEqProofs only [List.map_nil, List.isEmpty_nil, e0, ap_sSeq, seqO_nx, seqO_rt, seqO_exc, ap_sIf, ifO_t, ifO_f, ifO_exc, ap_sNx, ap_sSet, ap_sOwn, ap_sRet, ap_sDrop, ap_sAsg, outB_some, bT_nm, bT_tp, bTs_nil, bTs_cons, ap_sRaise, ap_sPar, parO_ok, ap_sFor, ap_sRetV, retO_own, retO_val, ap_sFrz, frzO_own, frzO_val, ap_sApp, ap_sExt, ap_eV, valO_val, ap_eB, borO_val, borO_own, ap_eC, ap_eOp, opO_ok, ap_eUn, ap_eTup, ap_eLst, tupR_ok, lstR_ok, ap_eCB, ap_eCall, callO_ok, callO_exc, ap_gNot, notR_b, ap_gTru, truR_b, truR_list, ap_gAnd, ap_gOr, andO_t, andO_f, orO_t, orO_f, ap_eAnd, ap_eOr, eandO_t, eandO_f, eorO_t, eorO_f, ap_eNot, enotO_b, enotO_list, ap_eIf, eifO_t, eifO_f, ap_eChain, chO_ok, ap_eIsi, isiO_int, isiO_tup, isiO_lst, isiO_bl, isiO_str, isiO_non, isInt_int, isInt_bl, isInt_tup, isInt_lst, isInt_str, isInt_non, isBool_int, isBool_bl, isTup_tup, isTup_lst, isTup_int, isTup_non, isTup_str, isTup_bl, isLst_lst, isLst_tup, f_add, f_sub, f_neg, f_eqI, f_neI, f_eqB, f_neB, f_lt, f_le, f_gt, f_ge, f_is, f_isNot, isNone_int, isNone_tup, isNone_lst, isNone_non, f_len_l, f_len_t, f_len_rd, f_tup_l, f_tup_t, f_max2, f_min2, f_abs, f_sum_l, f_sum_t, f_ix0, f_ix1, f_ix2, f_ix3, f_rev_t, outR_nx, outR_rt, outR_exc, nones0, nonesS, runB_eq, ap_eSl, optI_none, optI_some, optO_int, ap_sWh, ap_iSeq, items_l, items_t, ap_iRange1, ap_iRange2, wipeE_nil, wipeE_cons, evA_nil, evA_cons, RL.cons_ok, RL.cons_exc, RL.bind_ok, RL.bind_exc, RL.out_ok, RL.out_exc, Rs.bind_ok, Rs.bind_exc, Rs.out_ok, Rs.out_exc, Rs.of_some, Option.bind_some, List.getElem?_cons_zero, List.getElem?_cons_succ, List.set_cons_zero, List.set_cons_succ, List.map_cons, List.map_nil, List.cons_append, List.nil_append, List.length_cons, List.length_nil, Nat.reduceAdd, Nat.reduceSub, Nat.reduceLeDiff, Nat.reduceLT, Bool.not_true, Bool.not_false, decide_true, decide_false]
  | cons z L =>
    generalize hM : z :: L = M at *
    have hne : M ≠ [] := by rw [← hM]; simp
    clear hM
    have hpos : 0 < M.length := List.length_pos_iff.mpr hne
    have he : (M.map PyData.int).isEmpty = false := by cases M with | nil => exact absurd rfl hne | cons _ _ => rfl
    simp -implicitDefEqProofs only [he, List.length_map, ap_sSeq, seqO_nx, seqO_rt, seqO_exc, ap_sIf, ifO_t, ifO_f, ifO_exc, ap_sNx, ap_sSet, ap_sOwn, ap_sRet, ap_sDrop, ap_sAsg, outB_some, bT_nm, bT_tp, bTs_nil, bTs_cons, ap_sRaise, ap_sPar, parO_ok, ap_sFor, ap_sRetV, retO_own, retO_val, ap_sFrz, frzO_own, frzO_val, ap_sApp, ap_sExt, ap_eV, valO_val, ap_eB, borO_val, borO_own, ap_eC, ap_eOp, opO_ok, ap_eUn, ap_eTup, ap_eLst, tupR_ok, lstR_ok, ap_eCB, ap_eCall, callO_ok, callO_exc, ap_gNot, notR_b, ap_gTru, truR_b, truR_list, ap_gAnd, ap_gOr, andO_t, andO_f, orO_t, orO_f, ap_eAnd, ap_eOr, eandO_t, eandO_f, eorO_t, eorO_f, ap_eNot, enotO_b, enotO_list, ap_eIf, eifO_t, eifO_f, ap_eChain, chO_ok, ap_eIsi, isiO_int, isiO_tup, isiO_lst, isiO_bl, isiO_str, isiO_non, isInt_int, isInt_bl, isInt_tup, isInt_lst, isInt_str, isInt_non, isBool_int, isBool_bl, isTup_tup, isTup_lst, isTup_int, isTup_non, isTup_str, isTup_bl, isLst_lst, isLst_tup, f_add, f_sub, f_neg, f_eqI, f_neI, f_eqB, f_neB, f_lt, f_le, f_gt, f_ge, f_is, f_isNot, isNone_int, isNone_tup, isNone_lst, isNone_non, f_len_l, f_len_t, f_len_rd, f_tup_l, f_tup_t, f_max2, f_min2, f_abs, f_sum_l, f_sum_t, f_ix0, f_ix1, f_ix2, f_ix3, f_rev_t, outR_nx, outR_rt, outR_exc, nones0, nonesS, runB_eq, ap_eSl, optI_none, optI_some, optO_int, ap_sWh, ap_iSeq, items_l, items_t, ap_iRange1, ap_iRange2, wipeE_nil, wipeE_cons, evA_nil, evA_cons, RL.cons_ok, RL.cons_exc, RL.bind_ok, RL.bind_exc, RL.out_ok, RL.out_exc, Rs.bind_ok, Rs.bind_exc, Rs.out_ok, Rs.out_exc, Rs.of_some, Option.bind_some, List.getElem?_cons_zero, List.getElem?_cons_succ, List.set_cons_zero, List.set_cons_succ, List.map_cons, List.map_nil, List.cons_append, List.nil_append, List.length_cons, List.length_nil, Nat.reduceAdd, Nat.reduceSub, Nat.reduceLeDiff, Nat.reduceLT, Bool.not_true, Bool.not_false, decide_true, decide_false]
    rw [eLc_mapA M PyData.int (fun x => PyData.int (x * x)) (by simp -implicitDefEqProofs only [ap_sSeq, seqO_nx, seqO_rt, seqO_exc, ap_sIf, ifO_t, ifO_f, ifO_exc, ap_sNx, ap_sSet, ap_sOwn, ap_sRet, ap_sDrop, ap_sAsg, outB_some, bT_nm, bT_tp, bTs_nil, bTs_cons, ap_sRaise, ap_sPar, parO_ok, ap_sFor, ap_sRetV, retO_own, retO_val, ap_sFrz, frzO_own, frzO_val, ap_sApp, ap_sExt, ap_eV, valO_val, ap_eB, borO_val, borO_own, ap_eC, ap_eOp, opO_ok, ap_eUn, ap_eTup, ap_eLst, tupR_ok, lstR_ok, ap_eCB, ap_eCall, callO_ok, callO_exc, ap_gNot, notR_b, ap_gTru, truR_b, truR_list, ap_gAnd, ap_gOr, andO_t, andO_f, orO_t, orO_f, ap_eAnd, ap_eOr, eandO_t, eandO_f, eorO_t, eorO_f, ap_eNot, enotO_b, enotO_list, ap_eIf, eifO_t, eifO_f, ap_eChain, chO_ok, ap_eIsi, isiO_int, isiO_tup, isiO_lst, isiO_bl, isiO_str, isiO_non, isInt_int, isInt_bl, isInt_tup, isInt_lst, isInt_str, isInt_non, isBool_int, isBool_bl, isTup_tup, isTup_lst, isTup_int, isTup_non, isTup_str, isTup_bl, isLst_lst, isLst_tup, f_add, f_sub, f_neg, f_eqI, f_neI, f_eqB, f_neB, f_lt, f_le, f_gt, f_ge, f_is, f_isNot, isNone_int, isNone_tup, isNone_lst, isNone_non, f_len_l, f_len_t, f_len_rd, f_tup_l, f_tup_t, f_max2, f_min2, f_abs, f_sum_l, f_sum_t, f_ix0, f_ix1, f_ix2, f_ix3, f_rev_t, outR_nx, outR_rt, outR_exc, nones0, nonesS, runB_eq, ap_eSl, optI_none, optI_some, optO_int, ap_sWh, ap_iSeq, items_l, items_t, ap_iRange1, ap_iRange2, wipeE_nil, wipeE_cons, evA_nil, evA_cons, RL.cons_ok, RL.cons_exc, RL.bind_ok, RL.bind_exc, RL.out_ok, RL.out_exc, Rs.bind_ok, Rs.bind_exc, Rs.out_ok, Rs.out_exc, Rs.of_some, Option.bind_some, List.getElem?_cons_zero, List.getElem?_cons_succ, List.set_cons_zero, List.set_cons_succ, List.map_cons, List.map_nil, List.cons_append, List.nil_append, List.length_cons, List.length_nil, Nat.reduceAdd, Nat.reduceSub, Nat.reduceLeDiff, Nat.reduceLT, Bool.not_true, Bool.not_false, decide_true, decide_false]) (by omega) (by
      intro x hx
      have := hbd x hx
      have e : mulF (.int x) (.int x) = some (.int (x * x)) := f_mul x x (.inl (by omega))
      simp -implicitDefEqProofs only [e, ap_sSeq, seqO_nx, seqO_rt, seqO_exc, ap_sIf, ifO_t, ifO_f, ifO_exc, ap_sNx, ap_sSet, ap_sOwn, ap_sRet, ap_sDrop, ap_sAsg, outB_some, bT_nm, bT_tp, bTs_nil, bTs_cons, ap_sRaise, ap_sPar, parO_ok, ap_sFor, ap_sRetV, retO_own, retO_val, ap_sFrz, frzO_own, frzO_val, ap_sApp, ap_sExt, ap_eV, valO_val, ap_eB, borO_val, borO_own, ap_eC, ap_eOp, opO_ok, ap_eUn, ap_eTup, ap_eLst, tupR_ok, lstR_ok, ap_eCB, ap_eCall, callO_ok, callO_exc, ap_gNot, notR_b, ap_gTru, truR_b, truR_list, ap_gAnd, ap_gOr, andO_t, andO_f, orO_t, orO_f, ap_eAnd, ap_eOr, eandO_t, eandO_f, eorO_t, eorO_f, ap_eNot, enotO_b, enotO_list, ap_eIf, eifO_t, eifO_f, ap_eChain, chO_ok, ap_eIsi, isiO_int, isiO_tup, isiO_lst, isiO_bl, isiO_str, isiO_non, isInt_int, isInt_bl, isInt_tup, isInt_lst, isInt_str, isInt_non, isBool_int, isBool_bl, isTup_tup, isTup_lst, isTup_int, isTup_non, isTup_str, isTup_bl, isLst_lst, isLst_tup, f_add, f_sub, f_neg, f_eqI, f_neI, f_eqB, f_neB, f_lt, f_le, f_gt, f_ge, f_is, f_isNot, isNone_int, isNone_tup, isNone_lst, isNone_non, f_len_l, f_len_t, f_len_rd, f_tup_l, f_tup_t, f_max2, f_min2, f_abs, f_sum_l, f_sum_t, f_ix0, f_ix1, f_ix2, f_ix3, f_rev_t, outR_nx, outR_rt, outR_exc, nones0, nonesS, runB_eq, ap_eSl, optI_none, optI_some, optO_int, ap_sWh, ap_iSeq, items_l, items_t, ap_iRange1, ap_iRange2, wipeE_nil, wipeE_cons, evA_nil, evA_cons, RL.cons_ok, RL.cons_exc, RL.bind_ok, RL.bind_exc, RL.out_ok, RL.out_exc, Rs.bind_ok, Rs.bind_exc, Rs.out_ok, Rs.out_exc, Rs.of_some, Option.bind_some, List.getElem?_cons_zero, List.getElem?_cons_succ, List.set_cons_zero, List.set_cons_succ, List.map_cons, List.map_nil, List.cons_append, List.nil_append, List.length_cons, List.length_nil, Nat.reduceAdd, Nat.reduceSub, Nat.reduceLeDiff, Nat.reduceLT, Bool.not_true, Bool.not_false, decide_true, decide_false]
      exact ⟨trivial, trivial⟩)]
    have em : (M.map fun x => PyData.int (x * x)) = (M.map fun x => x * x).map PyData.int := by simp
    have e1 : mulF (.int (M.length : Int)) (.int (M.map fun x => x * x).sum) = some (.int ((M.length : Int) * (M.map fun x => x * x).sum)) := f_mul _ _ (.inl (by omega))
    have e2 : mulF (.int M.sum) (.int M.sum) = some (.int (M.sum * M.sum)) := f_mul _ _ (.inl (by omega))
    have e3 : mulF (.int (M.length : Int)) (.int (M.length : Int)) = some (.int ((M.length : Int) * M.length)) := f_mul _ _ (.inl (by omega))
    have hb1 : 0 < (M.length : Int) * M.length := Int.mul_pos (by omega) (by omega)
    have hb2 : (M.length : Int) * M.length < 1000000 := by
      have : M.length * M.length ≤ 144 * 144 := Nat.mul_le_mul hln hln
      have e : (M.length : Int) * M.length = ((M.length * M.length : Nat) : Int) := by simp
      rw [e]
      omega
    rw [em]
    simp -implicitDefEqProofs only [e1, e2, e3, least_eq _ _ hb1 hb2, ap_sSeq, seqO_nx, seqO_rt, seqO_exc, ap_sIf, ifO_t, ifO_f, ifO_exc, ap_sNx, ap_sSet, ap_sOwn, ap_sRet, ap_sDrop, ap_sAsg, outB_some, bT_nm, bT_tp, bTs_nil, bTs_cons, ap_sRaise, ap_sPar, parO_ok, ap_sFor, ap_sRetV, retO_own, retO_val, ap_sFrz, frzO_own, frzO_val, ap_sApp, ap_sExt, ap_eV, valO_val, ap_eB, borO_val, borO_own, ap_eC, ap_eOp, opO_ok, ap_eUn, ap_eTup, ap_eLst, tupR_ok, lstR_ok, ap_eCB, ap_eCall, callO_ok, callO_exc, ap_gNot, notR_b, ap_gTru, truR_b, truR_list, ap_gAnd, ap_gOr, andO_t, andO_f, orO_t, orO_f, ap_eAnd, ap_eOr, eandO_t, eandO_f, eorO_t, eorO_f, ap_eNot, enotO_b, enotO_list, ap_eIf, eifO_t, eifO_f, ap_eChain, chO_ok, ap_eIsi, isiO_int, isiO_tup, isiO_lst, isiO_bl, isiO_str, isiO_non, isInt_int, isInt_bl, isInt_tup, isInt_lst, isInt_str, isInt_non, isBool_int, isBool_bl, isTup_tup, isTup_lst, isTup_int, isTup_non, isTup_str, isTup_bl, isLst_lst, isLst_tup, f_add, f_sub, f_neg, f_eqI, f_neI, f_eqB, f_neB, f_lt, f_le, f_gt, f_ge, f_is, f_isNot, isNone_int, isNone_tup, isNone_lst, isNone_non, f_len_l, f_len_t, f_len_rd, f_tup_l, f_tup_t, f_max2, f_min2, f_abs, f_sum_l, f_sum_t, f_ix0, f_ix1, f_ix2, f_ix3, f_rev_t, outR_nx, outR_rt, outR_exc, nones0, nonesS, runB_eq, ap_eSl, optI_none, optI_some, optO_int, ap_sWh, ap_iSeq, items_l, items_t, ap_iRange1, ap_iRange2, wipeE_nil, wipeE_cons, evA_nil, evA_cons, RL.cons_ok, RL.cons_exc, RL.bind_ok, RL.bind_exc, RL.out_ok, RL.out_exc, Rs.bind_ok, Rs.bind_exc, Rs.out_ok, Rs.out_exc, Rs.of_some, Option.bind_some, List.getElem?_cons_zero, List.getElem?_cons_succ, List.set_cons_zero, List.set_cons_succ, List.map_cons, List.map_nil, List.cons_append, List.nil_append, List.length_cons, List.length_nil, Nat.reduceAdd, Nat.reduceSub, Nat.reduceLeDiff, Nat.reduceLT, Bool.not_true, Bool.not_false, decide_true, decide_false]
    unfold unl
    rw [if_neg hne]
theorem unlike_eq {a b : List (List Int)} {h w h' w' : Nat} (A : Sh a h w) (B : Sh b h' w') (p q : Int) (hp : -12 ≤ p ∧ p ≤ 12) (hq : -12 ≤ q ∧ q ≤ 12) : sem_unlike [shD a, shD b, .tuple [.int p, .int q]] = .ok (unl (steps a b w h w' h' p q)) := by
  simp -implicitDefEqProofs only [sem_unlike, b_unlike, look_two_eq A B p q hp hq, unlike_of_eq A B p q hp hq, ap_sSeq, seqO_nx, seqO_rt, seqO_exc, ap_sIf, ifO_t, ifO_f, ifO_exc, ap_sNx, ap_sSet, ap_sOwn, ap_sRet, ap_sDrop, ap_sAsg, outB_some, bT_nm, bT_tp, bTs_nil, bTs_cons, ap_sRaise, ap_sPar, parO_ok, ap_sFor, ap_sRetV, retO_own, retO_val, ap_sFrz, frzO_own, frzO_val, ap_sApp, ap_sExt, ap_eV, valO_val, ap_eB, borO_val, borO_own, ap_eC, ap_eOp, opO_ok, ap_eUn, ap_eTup, ap_eLst, tupR_ok, lstR_ok, ap_eCB, ap_eCall, callO_ok, callO_exc, ap_gNot, notR_b, ap_gTru, truR_b, truR_list, ap_gAnd, ap_gOr, andO_t, andO_f, orO_t, orO_f, ap_eAnd, ap_eOr, eandO_t, eandO_f, eorO_t, eorO_f, ap_eNot, enotO_b, enotO_list, ap_eIf, eifO_t, eifO_f, ap_eChain, chO_ok, ap_eIsi, isiO_int, isiO_tup, isiO_lst, isiO_bl, isiO_str, isiO_non, isInt_int, isInt_bl, isInt_tup, isInt_lst, isInt_str, isInt_non, isBool_int, isBool_bl, isTup_tup, isTup_lst, isTup_int, isTup_non, isTup_str, isTup_bl, isLst_lst, isLst_tup, f_add, f_sub, f_neg, f_eqI, f_neI, f_eqB, f_neB, f_lt, f_le, f_gt, f_ge, f_is, f_isNot, isNone_int, isNone_tup, isNone_lst, isNone_non, f_len_l, f_len_t, f_len_rd, f_tup_l, f_tup_t, f_max2, f_min2, f_abs, f_sum_l, f_sum_t, f_ix0, f_ix1, f_ix2, f_ix3, f_rev_t, outR_nx, outR_rt, outR_exc, nones0, nonesS, runB_eq, ap_eSl, optI_none, optI_some, optO_int, ap_sWh, ap_iSeq, items_l, items_t, ap_iRange1, ap_iRange2, wipeE_nil, wipeE_cons, evA_nil, evA_cons, RL.cons_ok, RL.cons_exc, RL.bind_ok, RL.bind_exc, RL.out_ok, RL.out_exc, Rs.bind_ok, Rs.bind_exc, Rs.out_ok, Rs.out_exc, Rs.of_some, Option.bind_some, List.getElem?_cons_zero, List.getElem?_cons_succ, List.set_cons_zero, List.set_cons_succ, List.map_cons, List.map_nil, List.cons_append, List.nil_append, List.length_cons, List.length_nil, Nat.reduceAdd, Nat.reduceSub, Nat.reduceLeDiff, Nat.reduceLT, Bool.not_true, Bool.not_false, decide_true, decide_false]
theorem mirrored_eq {s : List (List Int)} {h w : Nat} (S : Sh s h w) : sem_mirrored [shD s] = .ok (shD (s.map List.reverse)) := by
  have l := S.len
  have h2 := S.h2
  simp -implicitDefEqProofs only [sem_mirrored, b_mirrored, look_eq S, ap_sSeq, seqO_nx, seqO_rt, seqO_exc, ap_sIf, ifO_t, ifO_f, ifO_exc, ap_sNx, ap_sSet, ap_sOwn, ap_sRet, ap_sDrop, ap_sAsg, outB_some, bT_nm, bT_tp, bTs_nil, bTs_cons, ap_sRaise, ap_sPar, parO_ok, ap_sFor, ap_sRetV, retO_own, retO_val, ap_sFrz, frzO_own, frzO_val, ap_sApp, ap_sExt, ap_eV, valO_val, ap_eB, borO_val, borO_own, ap_eC, ap_eOp, opO_ok, ap_eUn, ap_eTup, ap_eLst, tupR_ok, lstR_ok, ap_eCB, ap_eCall, callO_ok, callO_exc, ap_gNot, notR_b, ap_gTru, truR_b, truR_list, ap_gAnd, ap_gOr, andO_t, andO_f, orO_t, orO_f, ap_eAnd, ap_eOr, eandO_t, eandO_f, eorO_t, eorO_f, ap_eNot, enotO_b, enotO_list, ap_eIf, eifO_t, eifO_f, ap_eChain, chO_ok, ap_eIsi, isiO_int, isiO_tup, isiO_lst, isiO_bl, isiO_str, isiO_non, isInt_int, isInt_bl, isInt_tup, isInt_lst, isInt_str, isInt_non, isBool_int, isBool_bl, isTup_tup, isTup_lst, isTup_int, isTup_non, isTup_str, isTup_bl, isLst_lst, isLst_tup, f_add, f_sub, f_neg, f_eqI, f_neI, f_eqB, f_neB, f_lt, f_le, f_gt, f_ge, f_is, f_isNot, isNone_int, isNone_tup, isNone_lst, isNone_non, f_len_l, f_len_t, f_len_rd, f_tup_l, f_tup_t, f_max2, f_min2, f_abs, f_sum_l, f_sum_t, f_ix0, f_ix1, f_ix2, f_ix3, f_rev_t, outR_nx, outR_rt, outR_exc, nones0, nonesS, runB_eq, ap_eSl, optI_none, optI_some, optO_int, ap_sWh, ap_iSeq, items_l, items_t, ap_iRange1, ap_iRange2, wipeE_nil, wipeE_cons, evA_nil, evA_cons, RL.cons_ok, RL.cons_exc, RL.bind_ok, RL.bind_exc, RL.out_ok, RL.out_exc, Rs.bind_ok, Rs.bind_exc, Rs.out_ok, Rs.out_exc, Rs.of_some, Option.bind_some, List.getElem?_cons_zero, List.getElem?_cons_succ, List.set_cons_zero, List.set_cons_succ, List.map_cons, List.map_nil, List.cons_append, List.nil_append, List.length_cons, List.length_nil, Nat.reduceAdd, Nat.reduceSub, Nat.reduceLeDiff, Nat.reduceLT, Bool.not_true, Bool.not_false, decide_true, decide_false]
  rw [eLc_mapA s rowD (fun r => rowD r.reverse) (by simp -implicitDefEqProofs only [items_sh, ap_sSeq, seqO_nx, seqO_rt, seqO_exc, ap_sIf, ifO_t, ifO_f, ifO_exc, ap_sNx, ap_sSet, ap_sOwn, ap_sRet, ap_sDrop, ap_sAsg, outB_some, bT_nm, bT_tp, bTs_nil, bTs_cons, ap_sRaise, ap_sPar, parO_ok, ap_sFor, ap_sRetV, retO_own, retO_val, ap_sFrz, frzO_own, frzO_val, ap_sApp, ap_sExt, ap_eV, valO_val, ap_eB, borO_val, borO_own, ap_eC, ap_eOp, opO_ok, ap_eUn, ap_eTup, ap_eLst, tupR_ok, lstR_ok, ap_eCB, ap_eCall, callO_ok, callO_exc, ap_gNot, notR_b, ap_gTru, truR_b, truR_list, ap_gAnd, ap_gOr, andO_t, andO_f, orO_t, orO_f, ap_eAnd, ap_eOr, eandO_t, eandO_f, eorO_t, eorO_f, ap_eNot, enotO_b, enotO_list, ap_eIf, eifO_t, eifO_f, ap_eChain, chO_ok, ap_eIsi, isiO_int, isiO_tup, isiO_lst, isiO_bl, isiO_str, isiO_non, isInt_int, isInt_bl, isInt_tup, isInt_lst, isInt_str, isInt_non, isBool_int, isBool_bl, isTup_tup, isTup_lst, isTup_int, isTup_non, isTup_str, isTup_bl, isLst_lst, isLst_tup, f_add, f_sub, f_neg, f_eqI, f_neI, f_eqB, f_neB, f_lt, f_le, f_gt, f_ge, f_is, f_isNot, isNone_int, isNone_tup, isNone_lst, isNone_non, f_len_l, f_len_t, f_len_rd, f_tup_l, f_tup_t, f_max2, f_min2, f_abs, f_sum_l, f_sum_t, f_ix0, f_ix1, f_ix2, f_ix3, f_rev_t, outR_nx, outR_rt, outR_exc, nones0, nonesS, runB_eq, ap_eSl, optI_none, optI_some, optO_int, ap_sWh, ap_iSeq, items_l, items_t, ap_iRange1, ap_iRange2, wipeE_nil, wipeE_cons, evA_nil, evA_cons, RL.cons_ok, RL.cons_exc, RL.bind_ok, RL.bind_exc, RL.out_ok, RL.out_exc, Rs.bind_ok, Rs.bind_exc, Rs.out_ok, Rs.out_exc, Rs.of_some, Option.bind_some, List.getElem?_cons_zero, List.getElem?_cons_succ, List.set_cons_zero, List.set_cons_succ, List.map_cons, List.map_nil, List.cons_append, List.nil_append, List.length_cons, List.length_nil, Nat.reduceAdd, Nat.reduceSub, Nat.reduceLeDiff, Nat.reduceLT, Bool.not_true, Bool.not_false, decide_true, decide_false]) (by omega) (by
    intro r hr
    have e : revF (rowD r) = some (rowD r.reverse) := by unfold rowD; rw [f_rev_t, List.map_reverse]
    simp -implicitDefEqProofs only [e, ap_sSeq, seqO_nx, seqO_rt, seqO_exc, ap_sIf, ifO_t, ifO_f, ifO_exc, ap_sNx, ap_sSet, ap_sOwn, ap_sRet, ap_sDrop, ap_sAsg, outB_some, bT_nm, bT_tp, bTs_nil, bTs_cons, ap_sRaise, ap_sPar, parO_ok, ap_sFor, ap_sRetV, retO_own, retO_val, ap_sFrz, frzO_own, frzO_val, ap_sApp, ap_sExt, ap_eV, valO_val, ap_eB, borO_val, borO_own, ap_eC, ap_eOp, opO_ok, ap_eUn, ap_eTup, ap_eLst, tupR_ok, lstR_ok, ap_eCB, ap_eCall, callO_ok, callO_exc, ap_gNot, notR_b, ap_gTru, truR_b, truR_list, ap_gAnd, ap_gOr, andO_t, andO_f, orO_t, orO_f, ap_eAnd, ap_eOr, eandO_t, eandO_f, eorO_t, eorO_f, ap_eNot, enotO_b, enotO_list, ap_eIf, eifO_t, eifO_f, ap_eChain, chO_ok, ap_eIsi, isiO_int, isiO_tup, isiO_lst, isiO_bl, isiO_str, isiO_non, isInt_int, isInt_bl, isInt_tup, isInt_lst, isInt_str, isInt_non, isBool_int, isBool_bl, isTup_tup, isTup_lst, isTup_int, isTup_non, isTup_str, isTup_bl, isLst_lst, isLst_tup, f_add, f_sub, f_neg, f_eqI, f_neI, f_eqB, f_neB, f_lt, f_le, f_gt, f_ge, f_is, f_isNot, isNone_int, isNone_tup, isNone_lst, isNone_non, f_len_l, f_len_t, f_len_rd, f_tup_l, f_tup_t, f_max2, f_min2, f_abs, f_sum_l, f_sum_t, f_ix0, f_ix1, f_ix2, f_ix3, f_rev_t, outR_nx, outR_rt, outR_exc, nones0, nonesS, runB_eq, ap_eSl, optI_none, optI_some, optO_int, ap_sWh, ap_iSeq, items_l, items_t, ap_iRange1, ap_iRange2, wipeE_nil, wipeE_cons, evA_nil, evA_cons, RL.cons_ok, RL.cons_exc, RL.bind_ok, RL.bind_exc, RL.out_ok, RL.out_exc, Rs.bind_ok, Rs.bind_exc, Rs.out_ok, Rs.out_exc, Rs.of_some, Option.bind_some, List.getElem?_cons_zero, List.getElem?_cons_succ, List.set_cons_zero, List.set_cons_succ, List.map_cons, List.map_nil, List.cons_append, List.nil_append, List.length_cons, List.length_nil, Nat.reduceAdd, Nat.reduceSub, Nat.reduceLeDiff, Nat.reduceLT, Bool.not_true, Bool.not_false, decide_true, decide_false]
    exact ⟨trivial, trivial⟩)]
  simp -implicitDefEqProofs only [ap_sSeq, seqO_nx, seqO_rt, seqO_exc, ap_sIf, ifO_t, ifO_f, ifO_exc, ap_sNx, ap_sSet, ap_sOwn, ap_sRet, ap_sDrop, ap_sAsg, outB_some, bT_nm, bT_tp, bTs_nil, bTs_cons, ap_sRaise, ap_sPar, parO_ok, ap_sFor, ap_sRetV, retO_own, retO_val, ap_sFrz, frzO_own, frzO_val, ap_sApp, ap_sExt, ap_eV, valO_val, ap_eB, borO_val, borO_own, ap_eC, ap_eOp, opO_ok, ap_eUn, ap_eTup, ap_eLst, tupR_ok, lstR_ok, ap_eCB, ap_eCall, callO_ok, callO_exc, ap_gNot, notR_b, ap_gTru, truR_b, truR_list, ap_gAnd, ap_gOr, andO_t, andO_f, orO_t, orO_f, ap_eAnd, ap_eOr, eandO_t, eandO_f, eorO_t, eorO_f, ap_eNot, enotO_b, enotO_list, ap_eIf, eifO_t, eifO_f, ap_eChain, chO_ok, ap_eIsi, isiO_int, isiO_tup, isiO_lst, isiO_bl, isiO_str, isiO_non, isInt_int, isInt_bl, isInt_tup, isInt_lst, isInt_str, isInt_non, isBool_int, isBool_bl, isTup_tup, isTup_lst, isTup_int, isTup_non, isTup_str, isTup_bl, isLst_lst, isLst_tup, f_add, f_sub, f_neg, f_eqI, f_neI, f_eqB, f_neB, f_lt, f_le, f_gt, f_ge, f_is, f_isNot, isNone_int, isNone_tup, isNone_lst, isNone_non, f_len_l, f_len_t, f_len_rd, f_tup_l, f_tup_t, f_max2, f_min2, f_abs, f_sum_l, f_sum_t, f_ix0, f_ix1, f_ix2, f_ix3, f_rev_t, outR_nx, outR_rt, outR_exc, nones0, nonesS, runB_eq, ap_eSl, optI_none, optI_some, optO_int, ap_sWh, ap_iSeq, items_l, items_t, ap_iRange1, ap_iRange2, wipeE_nil, wipeE_cons, evA_nil, evA_cons, RL.cons_ok, RL.cons_exc, RL.bind_ok, RL.bind_exc, RL.out_ok, RL.out_exc, Rs.bind_ok, Rs.bind_exc, Rs.out_ok, Rs.out_exc, Rs.of_some, Option.bind_some, List.getElem?_cons_zero, List.getElem?_cons_succ, List.set_cons_zero, List.set_cons_succ, List.map_cons, List.map_nil, List.cons_append, List.nil_append, List.length_cons, List.length_nil, Nat.reduceAdd, Nat.reduceSub, Nat.reduceLeDiff, Nat.reduceLT, Bool.not_true, Bool.not_false, decide_true, decide_false]
  unfold shD
  rw [List.map_map]
  rfl
theorem mirrored_sh {s : List (List Int)} {h w : Nat} (S : Sh s h w) : Sh (s.map List.reverse) h w where
  len := by rw [List.length_map]; exact S.len
  h1 := S.h1
  h2 := S.h2
  w1 := S.w1
  w2 := S.w2
  row := fun r hr => by
    obtain ⟨q, hq, rfl⟩ := List.mem_map.mp hr
    rw [List.length_reverse]
    exact S.row q hq
  lev := fun r hr v hv => by
    obtain ⟨q, hq, rfl⟩ := List.mem_map.mp hr
    exact S.lev q hq v (List.mem_reverse.mp hv)
def litL (c : Int) (s : List (List Int)) : List (List Int) := s.map fun r => r.map fun v => min (max (v + c) 0) 255
theorem lit_eq {s : List (List Int)} {h w : Nat} (S : Sh s h w) (c : Int) (hc : -255 ≤ c ∧ c ≤ 255) : sem_lit [shD s, .int c] = .ok (shD (litL c s)) := by
  have l := S.len
  have h2 := S.h2
  have w2 := S.w2
  simp -implicitDefEqProofs only [sem_lit, b_lit, look_eq S, is_within_eq, hc, and_self, ap_sSeq, seqO_nx, seqO_rt, seqO_exc, ap_sIf, ifO_t, ifO_f, ifO_exc, ap_sNx, ap_sSet, ap_sOwn, ap_sRet, ap_sDrop, ap_sAsg, outB_some, bT_nm, bT_tp, bTs_nil, bTs_cons, ap_sRaise, ap_sPar, parO_ok, ap_sFor, ap_sRetV, retO_own, retO_val, ap_sFrz, frzO_own, frzO_val, ap_sApp, ap_sExt, ap_eV, valO_val, ap_eB, borO_val, borO_own, ap_eC, ap_eOp, opO_ok, ap_eUn, ap_eTup, ap_eLst, tupR_ok, lstR_ok, ap_eCB, ap_eCall, callO_ok, callO_exc, ap_gNot, notR_b, ap_gTru, truR_b, truR_list, ap_gAnd, ap_gOr, andO_t, andO_f, orO_t, orO_f, ap_eAnd, ap_eOr, eandO_t, eandO_f, eorO_t, eorO_f, ap_eNot, enotO_b, enotO_list, ap_eIf, eifO_t, eifO_f, ap_eChain, chO_ok, ap_eIsi, isiO_int, isiO_tup, isiO_lst, isiO_bl, isiO_str, isiO_non, isInt_int, isInt_bl, isInt_tup, isInt_lst, isInt_str, isInt_non, isBool_int, isBool_bl, isTup_tup, isTup_lst, isTup_int, isTup_non, isTup_str, isTup_bl, isLst_lst, isLst_tup, f_add, f_sub, f_neg, f_eqI, f_neI, f_eqB, f_neB, f_lt, f_le, f_gt, f_ge, f_is, f_isNot, isNone_int, isNone_tup, isNone_lst, isNone_non, f_len_l, f_len_t, f_len_rd, f_tup_l, f_tup_t, f_max2, f_min2, f_abs, f_sum_l, f_sum_t, f_ix0, f_ix1, f_ix2, f_ix3, f_rev_t, outR_nx, outR_rt, outR_exc, nones0, nonesS, runB_eq, ap_eSl, optI_none, optI_some, optO_int, ap_sWh, ap_iSeq, items_l, items_t, ap_iRange1, ap_iRange2, wipeE_nil, wipeE_cons, evA_nil, evA_cons, RL.cons_ok, RL.cons_exc, RL.bind_ok, RL.bind_exc, RL.out_ok, RL.out_exc, Rs.bind_ok, Rs.bind_exc, Rs.out_ok, Rs.out_exc, Rs.of_some, Option.bind_some, List.getElem?_cons_zero, List.getElem?_cons_succ, List.set_cons_zero, List.set_cons_succ, List.map_cons, List.map_nil, List.cons_append, List.nil_append, List.length_cons, List.length_nil, Nat.reduceAdd, Nat.reduceSub, Nat.reduceLeDiff, Nat.reduceLT, Bool.not_true, Bool.not_false, decide_true, decide_false]
  rw [eLc_mapA s rowD (fun r => rowD (r.map fun v => min (max (v + c) 0) 255)) (by simp -implicitDefEqProofs only [items_sh, ap_sSeq, seqO_nx, seqO_rt, seqO_exc, ap_sIf, ifO_t, ifO_f, ifO_exc, ap_sNx, ap_sSet, ap_sOwn, ap_sRet, ap_sDrop, ap_sAsg, outB_some, bT_nm, bT_tp, bTs_nil, bTs_cons, ap_sRaise, ap_sPar, parO_ok, ap_sFor, ap_sRetV, retO_own, retO_val, ap_sFrz, frzO_own, frzO_val, ap_sApp, ap_sExt, ap_eV, valO_val, ap_eB, borO_val, borO_own, ap_eC, ap_eOp, opO_ok, ap_eUn, ap_eTup, ap_eLst, tupR_ok, lstR_ok, ap_eCB, ap_eCall, callO_ok, callO_exc, ap_gNot, notR_b, ap_gTru, truR_b, truR_list, ap_gAnd, ap_gOr, andO_t, andO_f, orO_t, orO_f, ap_eAnd, ap_eOr, eandO_t, eandO_f, eorO_t, eorO_f, ap_eNot, enotO_b, enotO_list, ap_eIf, eifO_t, eifO_f, ap_eChain, chO_ok, ap_eIsi, isiO_int, isiO_tup, isiO_lst, isiO_bl, isiO_str, isiO_non, isInt_int, isInt_bl, isInt_tup, isInt_lst, isInt_str, isInt_non, isBool_int, isBool_bl, isTup_tup, isTup_lst, isTup_int, isTup_non, isTup_str, isTup_bl, isLst_lst, isLst_tup, f_add, f_sub, f_neg, f_eqI, f_neI, f_eqB, f_neB, f_lt, f_le, f_gt, f_ge, f_is, f_isNot, isNone_int, isNone_tup, isNone_lst, isNone_non, f_len_l, f_len_t, f_len_rd, f_tup_l, f_tup_t, f_max2, f_min2, f_abs, f_sum_l, f_sum_t, f_ix0, f_ix1, f_ix2, f_ix3, f_rev_t, outR_nx, outR_rt, outR_exc, nones0, nonesS, runB_eq, ap_eSl, optI_none, optI_some, optO_int, ap_sWh, ap_iSeq, items_l, items_t, ap_iRange1, ap_iRange2, wipeE_nil, wipeE_cons, evA_nil, evA_cons, RL.cons_ok, RL.cons_exc, RL.bind_ok, RL.bind_exc, RL.out_ok, RL.out_exc, Rs.bind_ok, Rs.bind_exc, Rs.out_ok, Rs.out_exc, Rs.of_some, Option.bind_some, List.getElem?_cons_zero, List.getElem?_cons_succ, List.set_cons_zero, List.set_cons_succ, List.map_cons, List.map_nil, List.cons_append, List.nil_append, List.length_cons, List.length_nil, Nat.reduceAdd, Nat.reduceSub, Nat.reduceLeDiff, Nat.reduceLT, Bool.not_true, Bool.not_false, decide_true, decide_false]) (by omega) (by
    intro r hr
    have lr := S.row r hr
    refine ⟨by simp -implicitDefEqProofs only [ap_sSeq, seqO_nx, seqO_rt, seqO_exc, ap_sIf, ifO_t, ifO_f, ifO_exc, ap_sNx, ap_sSet, ap_sOwn, ap_sRet, ap_sDrop, ap_sAsg, outB_some, bT_nm, bT_tp, bTs_nil, bTs_cons, ap_sRaise, ap_sPar, parO_ok, ap_sFor, ap_sRetV, retO_own, retO_val, ap_sFrz, frzO_own, frzO_val, ap_sApp, ap_sExt, ap_eV, valO_val, ap_eB, borO_val, borO_own, ap_eC, ap_eOp, opO_ok, ap_eUn, ap_eTup, ap_eLst, tupR_ok, lstR_ok, ap_eCB, ap_eCall, callO_ok, callO_exc, ap_gNot, notR_b, ap_gTru, truR_b, truR_list, ap_gAnd, ap_gOr, andO_t, andO_f, orO_t, orO_f, ap_eAnd, ap_eOr, eandO_t, eandO_f, eorO_t, eorO_f, ap_eNot, enotO_b, enotO_list, ap_eIf, eifO_t, eifO_f, ap_eChain, chO_ok, ap_eIsi, isiO_int, isiO_tup, isiO_lst, isiO_bl, isiO_str, isiO_non, isInt_int, isInt_bl, isInt_tup, isInt_lst, isInt_str, isInt_non, isBool_int, isBool_bl, isTup_tup, isTup_lst, isTup_int, isTup_non, isTup_str, isTup_bl, isLst_lst, isLst_tup, f_add, f_sub, f_neg, f_eqI, f_neI, f_eqB, f_neB, f_lt, f_le, f_gt, f_ge, f_is, f_isNot, isNone_int, isNone_tup, isNone_lst, isNone_non, f_len_l, f_len_t, f_len_rd, f_tup_l, f_tup_t, f_max2, f_min2, f_abs, f_sum_l, f_sum_t, f_ix0, f_ix1, f_ix2, f_ix3, f_rev_t, outR_nx, outR_rt, outR_exc, nones0, nonesS, runB_eq, ap_eSl, optI_none, optI_some, optO_int, ap_sWh, ap_iSeq, items_l, items_t, ap_iRange1, ap_iRange2, wipeE_nil, wipeE_cons, evA_nil, evA_cons, RL.cons_ok, RL.cons_exc, RL.bind_ok, RL.bind_exc, RL.out_ok, RL.out_exc, Rs.bind_ok, Rs.bind_exc, Rs.out_ok, Rs.out_exc, Rs.of_some, Option.bind_some, List.getElem?_cons_zero, List.getElem?_cons_succ, List.set_cons_zero, List.set_cons_succ, List.map_cons, List.map_nil, List.cons_append, List.nil_append, List.length_cons, List.length_nil, Nat.reduceAdd, Nat.reduceSub, Nat.reduceLeDiff, Nat.reduceLT, Bool.not_true, Bool.not_false, decide_true, decide_false], ?_⟩
    simp -implicitDefEqProofs only [ap_sSeq, seqO_nx, seqO_rt, seqO_exc, ap_sIf, ifO_t, ifO_f, ifO_exc, ap_sNx, ap_sSet, ap_sOwn, ap_sRet, ap_sDrop, ap_sAsg, outB_some, bT_nm, bT_tp, bTs_nil, bTs_cons, ap_sRaise, ap_sPar, parO_ok, ap_sFor, ap_sRetV, retO_own, retO_val, ap_sFrz, frzO_own, frzO_val, ap_sApp, ap_sExt, ap_eV, valO_val, ap_eB, borO_val, borO_own, ap_eC, ap_eOp, opO_ok, ap_eUn, ap_eTup, ap_eLst, tupR_ok, lstR_ok, ap_eCB, ap_eCall, callO_ok, callO_exc, ap_gNot, notR_b, ap_gTru, truR_b, truR_list, ap_gAnd, ap_gOr, andO_t, andO_f, orO_t, orO_f, ap_eAnd, ap_eOr, eandO_t, eandO_f, eorO_t, eorO_f, ap_eNot, enotO_b, enotO_list, ap_eIf, eifO_t, eifO_f, ap_eChain, chO_ok, ap_eIsi, isiO_int, isiO_tup, isiO_lst, isiO_bl, isiO_str, isiO_non, isInt_int, isInt_bl, isInt_tup, isInt_lst, isInt_str, isInt_non, isBool_int, isBool_bl, isTup_tup, isTup_lst, isTup_int, isTup_non, isTup_str, isTup_bl, isLst_lst, isLst_tup, f_add, f_sub, f_neg, f_eqI, f_neI, f_eqB, f_neB, f_lt, f_le, f_gt, f_ge, f_is, f_isNot, isNone_int, isNone_tup, isNone_lst, isNone_non, f_len_l, f_len_t, f_len_rd, f_tup_l, f_tup_t, f_max2, f_min2, f_abs, f_sum_l, f_sum_t, f_ix0, f_ix1, f_ix2, f_ix3, f_rev_t, outR_nx, outR_rt, outR_exc, nones0, nonesS, runB_eq, ap_eSl, optI_none, optI_some, optO_int, ap_sWh, ap_iSeq, items_l, items_t, ap_iRange1, ap_iRange2, wipeE_nil, wipeE_cons, evA_nil, evA_cons, RL.cons_ok, RL.cons_exc, RL.bind_ok, RL.bind_exc, RL.out_ok, RL.out_exc, Rs.bind_ok, Rs.bind_exc, Rs.out_ok, Rs.out_exc, Rs.of_some, Option.bind_some, List.getElem?_cons_zero, List.getElem?_cons_succ, List.set_cons_zero, List.set_cons_succ, List.map_cons, List.map_nil, List.cons_append, List.nil_append, List.length_cons, List.length_nil, Nat.reduceAdd, Nat.reduceSub, Nat.reduceLeDiff, Nat.reduceLT, Bool.not_true, Bool.not_false, decide_true, decide_false]
    rw [eLc_mapA r PyData.int (fun v => PyData.int (min (max (v + c) 0) 255)) (by simp -implicitDefEqProofs only [items_row, ap_sSeq, seqO_nx, seqO_rt, seqO_exc, ap_sIf, ifO_t, ifO_f, ifO_exc, ap_sNx, ap_sSet, ap_sOwn, ap_sRet, ap_sDrop, ap_sAsg, outB_some, bT_nm, bT_tp, bTs_nil, bTs_cons, ap_sRaise, ap_sPar, parO_ok, ap_sFor, ap_sRetV, retO_own, retO_val, ap_sFrz, frzO_own, frzO_val, ap_sApp, ap_sExt, ap_eV, valO_val, ap_eB, borO_val, borO_own, ap_eC, ap_eOp, opO_ok, ap_eUn, ap_eTup, ap_eLst, tupR_ok, lstR_ok, ap_eCB, ap_eCall, callO_ok, callO_exc, ap_gNot, notR_b, ap_gTru, truR_b, truR_list, ap_gAnd, ap_gOr, andO_t, andO_f, orO_t, orO_f, ap_eAnd, ap_eOr, eandO_t, eandO_f, eorO_t, eorO_f, ap_eNot, enotO_b, enotO_list, ap_eIf, eifO_t, eifO_f, ap_eChain, chO_ok, ap_eIsi, isiO_int, isiO_tup, isiO_lst, isiO_bl, isiO_str, isiO_non, isInt_int, isInt_bl, isInt_tup, isInt_lst, isInt_str, isInt_non, isBool_int, isBool_bl, isTup_tup, isTup_lst, isTup_int, isTup_non, isTup_str, isTup_bl, isLst_lst, isLst_tup, f_add, f_sub, f_neg, f_eqI, f_neI, f_eqB, f_neB, f_lt, f_le, f_gt, f_ge, f_is, f_isNot, isNone_int, isNone_tup, isNone_lst, isNone_non, f_len_l, f_len_t, f_len_rd, f_tup_l, f_tup_t, f_max2, f_min2, f_abs, f_sum_l, f_sum_t, f_ix0, f_ix1, f_ix2, f_ix3, f_rev_t, outR_nx, outR_rt, outR_exc, nones0, nonesS, runB_eq, ap_eSl, optI_none, optI_some, optO_int, ap_sWh, ap_iSeq, items_l, items_t, ap_iRange1, ap_iRange2, wipeE_nil, wipeE_cons, evA_nil, evA_cons, RL.cons_ok, RL.cons_exc, RL.bind_ok, RL.bind_exc, RL.out_ok, RL.out_exc, Rs.bind_ok, Rs.bind_exc, Rs.out_ok, Rs.out_exc, Rs.of_some, Option.bind_some, List.getElem?_cons_zero, List.getElem?_cons_succ, List.set_cons_zero, List.set_cons_succ, List.map_cons, List.map_nil, List.cons_append, List.nil_append, List.length_cons, List.length_nil, Nat.reduceAdd, Nat.reduceSub, Nat.reduceLeDiff, Nat.reduceLT, Bool.not_true, Bool.not_false, decide_true, decide_false]) (by omega) (by
      intro v hv
      simp -implicitDefEqProofs only [ap_sSeq, seqO_nx, seqO_rt, seqO_exc, ap_sIf, ifO_t, ifO_f, ifO_exc, ap_sNx, ap_sSet, ap_sOwn, ap_sRet, ap_sDrop, ap_sAsg, outB_some, bT_nm, bT_tp, bTs_nil, bTs_cons, ap_sRaise, ap_sPar, parO_ok, ap_sFor, ap_sRetV, retO_own, retO_val, ap_sFrz, frzO_own, frzO_val, ap_sApp, ap_sExt, ap_eV, valO_val, ap_eB, borO_val, borO_own, ap_eC, ap_eOp, opO_ok, ap_eUn, ap_eTup, ap_eLst, tupR_ok, lstR_ok, ap_eCB, ap_eCall, callO_ok, callO_exc, ap_gNot, notR_b, ap_gTru, truR_b, truR_list, ap_gAnd, ap_gOr, andO_t, andO_f, orO_t, orO_f, ap_eAnd, ap_eOr, eandO_t, eandO_f, eorO_t, eorO_f, ap_eNot, enotO_b, enotO_list, ap_eIf, eifO_t, eifO_f, ap_eChain, chO_ok, ap_eIsi, isiO_int, isiO_tup, isiO_lst, isiO_bl, isiO_str, isiO_non, isInt_int, isInt_bl, isInt_tup, isInt_lst, isInt_str, isInt_non, isBool_int, isBool_bl, isTup_tup, isTup_lst, isTup_int, isTup_non, isTup_str, isTup_bl, isLst_lst, isLst_tup, f_add, f_sub, f_neg, f_eqI, f_neI, f_eqB, f_neB, f_lt, f_le, f_gt, f_ge, f_is, f_isNot, isNone_int, isNone_tup, isNone_lst, isNone_non, f_len_l, f_len_t, f_len_rd, f_tup_l, f_tup_t, f_max2, f_min2, f_abs, f_sum_l, f_sum_t, f_ix0, f_ix1, f_ix2, f_ix3, f_rev_t, outR_nx, outR_rt, outR_exc, nones0, nonesS, runB_eq, ap_eSl, optI_none, optI_some, optO_int, ap_sWh, ap_iSeq, items_l, items_t, ap_iRange1, ap_iRange2, wipeE_nil, wipeE_cons, evA_nil, evA_cons, RL.cons_ok, RL.cons_exc, RL.bind_ok, RL.bind_exc, RL.out_ok, RL.out_exc, Rs.bind_ok, Rs.bind_exc, Rs.out_ok, Rs.out_exc, Rs.of_some, Option.bind_some, List.getElem?_cons_zero, List.getElem?_cons_succ, List.set_cons_zero, List.set_cons_succ, List.map_cons, List.map_nil, List.cons_append, List.nil_append, List.length_cons, List.length_nil, Nat.reduceAdd, Nat.reduceSub, Nat.reduceLeDiff, Nat.reduceLT, Bool.not_true, Bool.not_false, decide_true, decide_false]
      exact ⟨trivial, trivial⟩)]
    simp -implicitDefEqProofs only [ap_sSeq, seqO_nx, seqO_rt, seqO_exc, ap_sIf, ifO_t, ifO_f, ifO_exc, ap_sNx, ap_sSet, ap_sOwn, ap_sRet, ap_sDrop, ap_sAsg, outB_some, bT_nm, bT_tp, bTs_nil, bTs_cons, ap_sRaise, ap_sPar, parO_ok, ap_sFor, ap_sRetV, retO_own, retO_val, ap_sFrz, frzO_own, frzO_val, ap_sApp, ap_sExt, ap_eV, valO_val, ap_eB, borO_val, borO_own, ap_eC, ap_eOp, opO_ok, ap_eUn, ap_eTup, ap_eLst, tupR_ok, lstR_ok, ap_eCB, ap_eCall, callO_ok, callO_exc, ap_gNot, notR_b, ap_gTru, truR_b, truR_list, ap_gAnd, ap_gOr, andO_t, andO_f, orO_t, orO_f, ap_eAnd, ap_eOr, eandO_t, eandO_f, eorO_t, eorO_f, ap_eNot, enotO_b, enotO_list, ap_eIf, eifO_t, eifO_f, ap_eChain, chO_ok, ap_eIsi, isiO_int, isiO_tup, isiO_lst, isiO_bl, isiO_str, isiO_non, isInt_int, isInt_bl, isInt_tup, isInt_lst, isInt_str, isInt_non, isBool_int, isBool_bl, isTup_tup, isTup_lst, isTup_int, isTup_non, isTup_str, isTup_bl, isLst_lst, isLst_tup, f_add, f_sub, f_neg, f_eqI, f_neI, f_eqB, f_neB, f_lt, f_le, f_gt, f_ge, f_is, f_isNot, isNone_int, isNone_tup, isNone_lst, isNone_non, f_len_l, f_len_t, f_len_rd, f_tup_l, f_tup_t, f_max2, f_min2, f_abs, f_sum_l, f_sum_t, f_ix0, f_ix1, f_ix2, f_ix3, f_rev_t, outR_nx, outR_rt, outR_exc, nones0, nonesS, runB_eq, ap_eSl, optI_none, optI_some, optO_int, ap_sWh, ap_iSeq, items_l, items_t, ap_iRange1, ap_iRange2, wipeE_nil, wipeE_cons, evA_nil, evA_cons, RL.cons_ok, RL.cons_exc, RL.bind_ok, RL.bind_exc, RL.out_ok, RL.out_exc, Rs.bind_ok, Rs.bind_exc, Rs.out_ok, Rs.out_exc, Rs.of_some, Option.bind_some, List.getElem?_cons_zero, List.getElem?_cons_succ, List.set_cons_zero, List.set_cons_succ, List.map_cons, List.map_nil, List.cons_append, List.nil_append, List.length_cons, List.length_nil, Nat.reduceAdd, Nat.reduceSub, Nat.reduceLeDiff, Nat.reduceLT, Bool.not_true, Bool.not_false, decide_true, decide_false]
    unfold rowD
    rw [List.map_map]
    rfl)]
  simp -implicitDefEqProofs only [ap_sSeq, seqO_nx, seqO_rt, seqO_exc, ap_sIf, ifO_t, ifO_f, ifO_exc, ap_sNx, ap_sSet, ap_sOwn, ap_sRet, ap_sDrop, ap_sAsg, outB_some, bT_nm, bT_tp, bTs_nil, bTs_cons, ap_sRaise, ap_sPar, parO_ok, ap_sFor, ap_sRetV, retO_own, retO_val, ap_sFrz, frzO_own, frzO_val, ap_sApp, ap_sExt, ap_eV, valO_val, ap_eB, borO_val, borO_own, ap_eC, ap_eOp, opO_ok, ap_eUn, ap_eTup, ap_eLst, tupR_ok, lstR_ok, ap_eCB, ap_eCall, callO_ok, callO_exc, ap_gNot, notR_b, ap_gTru, truR_b, truR_list, ap_gAnd, ap_gOr, andO_t, andO_f, orO_t, orO_f, ap_eAnd, ap_eOr, eandO_t, eandO_f, eorO_t, eorO_f, ap_eNot, enotO_b, enotO_list, ap_eIf, eifO_t, eifO_f, ap_eChain, chO_ok, ap_eIsi, isiO_int, isiO_tup, isiO_lst, isiO_bl, isiO_str, isiO_non, isInt_int, isInt_bl, isInt_tup, isInt_lst, isInt_str, isInt_non, isBool_int, isBool_bl, isTup_tup, isTup_lst, isTup_int, isTup_non, isTup_str, isTup_bl, isLst_lst, isLst_tup, f_add, f_sub, f_neg, f_eqI, f_neI, f_eqB, f_neB, f_lt, f_le, f_gt, f_ge, f_is, f_isNot, isNone_int, isNone_tup, isNone_lst, isNone_non, f_len_l, f_len_t, f_len_rd, f_tup_l, f_tup_t, f_max2, f_min2, f_abs, f_sum_l, f_sum_t, f_ix0, f_ix1, f_ix2, f_ix3, f_rev_t, outR_nx, outR_rt, outR_exc, nones0, nonesS, runB_eq, ap_eSl, optI_none, optI_some, optO_int, ap_sWh, ap_iSeq, items_l, items_t, ap_iRange1, ap_iRange2, wipeE_nil, wipeE_cons, evA_nil, evA_cons, RL.cons_ok, RL.cons_exc, RL.bind_ok, RL.bind_exc, RL.out_ok, RL.out_exc, Rs.bind_ok, Rs.bind_exc, Rs.out_ok, Rs.out_exc, Rs.of_some, Option.bind_some, List.getElem?_cons_zero, List.getElem?_cons_succ, List.set_cons_zero, List.set_cons_succ, List.map_cons, List.map_nil, List.cons_append, List.nil_append, List.length_cons, List.length_nil, Nat.reduceAdd, Nat.reduceSub, Nat.reduceLeDiff, Nat.reduceLT, Bool.not_true, Bool.not_false, decide_true, decide_false]
  unfold shD litL
  rw [List.map_map]
  rfl
theorem lit_sh {s : List (List Int)} {h w : Nat} (S : Sh s h w) (c : Int) : Sh (litL c s) h w where
  len := by unfold litL; rw [List.length_map]; exact S.len
  h1 := S.h1
  h2 := S.h2
  w1 := S.w1
  w2 := S.w2
  row := fun r hr => by
    obtain ⟨q, hq, rfl⟩ := List.mem_map.mp hr
    rw [List.length_map]
    exact S.row q hq
  lev := fun r hr v hv => by
    obtain ⟨q, hq, rfl⟩ := List.mem_map.mp hr
    obtain ⟨u, hu, rfl⟩ := List.mem_map.mp hv
    omega
def cutS' (s : List (List Int)) (x y wide high : Nat) : List (List Int) := ((s.drop y).take high).map fun r => (r.drop x).take wide
theorem cut_out_eq {s : List (List Int)} {h w : Nat} (S : Sh s h w) (x y wide high : Int) (hx : 0 ≤ x) (hy : 0 ≤ y) (hw : 1 ≤ wide) (hh : 1 ≤ high) (hxw : x + wide ≤ w) (hyh : y + high ≤ h) :
    sem_cut_out [shD s, .int x, .int y, .int wide, .int high] = .ok (shD (cutS' s x.toNat y.toNat wide.toNat high.toNat)) := by
  have l := S.len
  have h2 := S.h2
  have c1 : 0 ≤ x ∧ x ≤ (w : Int) - 1 := by omega
  have c2 : 0 ≤ y ∧ y ≤ (h : Int) - 1 := by omega
  have c3 : 1 ≤ wide ∧ wide ≤ (w : Int) - x := by omega
  have c4 : 1 ≤ high ∧ high ≤ (h : Int) - y := by omega
  have e1 : slF (shD s) (some y) (some (y + high)) = some (.tuple (((s.drop y.toNat).take high.toNat).map rowD)) := by
    show some (PyData.tuple (cutL (s.map rowD) (some y) (some (y + high)))) = _
    rw [cutL_eq _ _ _ hy (by omega) (by rw [List.length_map]; omega), List.map_take, List.map_drop]
    congr 4
    omega
  simp -implicitDefEqProofs only [sem_cut_out, b_cut_out, look_eq S, size_of_eq S, is_within_eq, c1, c2, c3, c4, and_self, ap_sSeq, seqO_nx, seqO_rt, seqO_exc, ap_sIf, ifO_t, ifO_f, ifO_exc, ap_sNx, ap_sSet, ap_sOwn, ap_sRet, ap_sDrop, ap_sAsg, outB_some, bT_nm, bT_tp, bTs_nil, bTs_cons, ap_sRaise, ap_sPar, parO_ok, ap_sFor, ap_sRetV, retO_own, retO_val, ap_sFrz, frzO_own, frzO_val, ap_sApp, ap_sExt, ap_eV, valO_val, ap_eB, borO_val, borO_own, ap_eC, ap_eOp, opO_ok, ap_eUn, ap_eTup, ap_eLst, tupR_ok, lstR_ok, ap_eCB, ap_eCall, callO_ok, callO_exc, ap_gNot, notR_b, ap_gTru, truR_b, truR_list, ap_gAnd, ap_gOr, andO_t, andO_f, orO_t, orO_f, ap_eAnd, ap_eOr, eandO_t, eandO_f, eorO_t, eorO_f, ap_eNot, enotO_b, enotO_list, ap_eIf, eifO_t, eifO_f, ap_eChain, chO_ok, ap_eIsi, isiO_int, isiO_tup, isiO_lst, isiO_bl, isiO_str, isiO_non, isInt_int, isInt_bl, isInt_tup, isInt_lst, isInt_str, isInt_non, isBool_int, isBool_bl, isTup_tup, isTup_lst, isTup_int, isTup_non, isTup_str, isTup_bl, isLst_lst, isLst_tup, f_add, f_sub, f_neg, f_eqI, f_neI, f_eqB, f_neB, f_lt, f_le, f_gt, f_ge, f_is, f_isNot, isNone_int, isNone_tup, isNone_lst, isNone_non, f_len_l, f_len_t, f_len_rd, f_tup_l, f_tup_t, f_max2, f_min2, f_abs, f_sum_l, f_sum_t, f_ix0, f_ix1, f_ix2, f_ix3, f_rev_t, outR_nx, outR_rt, outR_exc, nones0, nonesS, runB_eq, ap_eSl, optI_none, optI_some, optO_int, ap_sWh, ap_iSeq, items_l, items_t, ap_iRange1, ap_iRange2, wipeE_nil, wipeE_cons, evA_nil, evA_cons, RL.cons_ok, RL.cons_exc, RL.bind_ok, RL.bind_exc, RL.out_ok, RL.out_exc, Rs.bind_ok, Rs.bind_exc, Rs.out_ok, Rs.out_exc, Rs.of_some, Option.bind_some, List.getElem?_cons_zero, List.getElem?_cons_succ, List.set_cons_zero, List.set_cons_succ, List.map_cons, List.map_nil, List.cons_append, List.nil_append, List.length_cons, List.length_nil, Nat.reduceAdd, Nat.reduceSub, Nat.reduceLeDiff, Nat.reduceLT, Bool.not_true, Bool.not_false, decide_true, decide_false]
  rw [eLc_mapA ((s.drop y.toNat).take high.toNat) rowD (fun r => rowD ((r.drop x.toNat).take wide.toNat)) (by simp -implicitDefEqProofs only [e1, ap_sSeq, seqO_nx, seqO_rt, seqO_exc, ap_sIf, ifO_t, ifO_f, ifO_exc, ap_sNx, ap_sSet, ap_sOwn, ap_sRet, ap_sDrop, ap_sAsg, outB_some, bT_nm, bT_tp, bTs_nil, bTs_cons, ap_sRaise, ap_sPar, parO_ok, ap_sFor, ap_sRetV, retO_own, retO_val, ap_sFrz, frzO_own, frzO_val, ap_sApp, ap_sExt, ap_eV, valO_val, ap_eB, borO_val, borO_own, ap_eC, ap_eOp, opO_ok, ap_eUn, ap_eTup, ap_eLst, tupR_ok, lstR_ok, ap_eCB, ap_eCall, callO_ok, callO_exc, ap_gNot, notR_b, ap_gTru, truR_b, truR_list, ap_gAnd, ap_gOr, andO_t, andO_f, orO_t, orO_f, ap_eAnd, ap_eOr, eandO_t, eandO_f, eorO_t, eorO_f, ap_eNot, enotO_b, enotO_list, ap_eIf, eifO_t, eifO_f, ap_eChain, chO_ok, ap_eIsi, isiO_int, isiO_tup, isiO_lst, isiO_bl, isiO_str, isiO_non, isInt_int, isInt_bl, isInt_tup, isInt_lst, isInt_str, isInt_non, isBool_int, isBool_bl, isTup_tup, isTup_lst, isTup_int, isTup_non, isTup_str, isTup_bl, isLst_lst, isLst_tup, f_add, f_sub, f_neg, f_eqI, f_neI, f_eqB, f_neB, f_lt, f_le, f_gt, f_ge, f_is, f_isNot, isNone_int, isNone_tup, isNone_lst, isNone_non, f_len_l, f_len_t, f_len_rd, f_tup_l, f_tup_t, f_max2, f_min2, f_abs, f_sum_l, f_sum_t, f_ix0, f_ix1, f_ix2, f_ix3, f_rev_t, outR_nx, outR_rt, outR_exc, nones0, nonesS, runB_eq, ap_eSl, optI_none, optI_some, optO_int, ap_sWh, ap_iSeq, items_l, items_t, ap_iRange1, ap_iRange2, wipeE_nil, wipeE_cons, evA_nil, evA_cons, RL.cons_ok, RL.cons_exc, RL.bind_ok, RL.bind_exc, RL.out_ok, RL.out_exc, Rs.bind_ok, Rs.bind_exc, Rs.out_ok, Rs.out_exc, Rs.of_some, Option.bind_some, List.getElem?_cons_zero, List.getElem?_cons_succ, List.set_cons_zero, List.set_cons_succ, List.map_cons, List.map_nil, List.cons_append, List.nil_append, List.length_cons, List.length_nil, Nat.reduceAdd, Nat.reduceSub, Nat.reduceLeDiff, Nat.reduceLT, Bool.not_true, Bool.not_false, decide_true, decide_false]) (by rw [List.length_take, List.length_drop]; omega) (by
    intro r hr
    have hr' : r ∈ s := List.mem_of_mem_drop (List.mem_of_mem_take hr)
    have e2 : slF (rowD r) (some x) (some (x + wide)) = some (rowD ((r.drop x.toNat).take wide.toNat)) := by
      show some (PyData.tuple (cutL (r.map PyData.int) (some x) (some (x + wide)))) = some (PyData.tuple (((r.drop x.toNat).take wide.toNat).map PyData.int))
      rw [cutL_eq _ _ _ hx (by omega) (by rw [List.length_map, S.row r hr']; omega), List.map_take, List.map_drop]
      congr 4
      omega
    simp -implicitDefEqProofs only [e2, ap_sSeq, seqO_nx, seqO_rt, seqO_exc, ap_sIf, ifO_t, ifO_f, ifO_exc, ap_sNx, ap_sSet, ap_sOwn, ap_sRet, ap_sDrop, ap_sAsg, outB_some, bT_nm, bT_tp, bTs_nil, bTs_cons, ap_sRaise, ap_sPar, parO_ok, ap_sFor, ap_sRetV, retO_own, retO_val, ap_sFrz, frzO_own, frzO_val, ap_sApp, ap_sExt, ap_eV, valO_val, ap_eB, borO_val, borO_own, ap_eC, ap_eOp, opO_ok, ap_eUn, ap_eTup, ap_eLst, tupR_ok, lstR_ok, ap_eCB, ap_eCall, callO_ok, callO_exc, ap_gNot, notR_b, ap_gTru, truR_b, truR_list, ap_gAnd, ap_gOr, andO_t, andO_f, orO_t, orO_f, ap_eAnd, ap_eOr, eandO_t, eandO_f, eorO_t, eorO_f, ap_eNot, enotO_b, enotO_list, ap_eIf, eifO_t, eifO_f, ap_eChain, chO_ok, ap_eIsi, isiO_int, isiO_tup, isiO_lst, isiO_bl, isiO_str, isiO_non, isInt_int, isInt_bl, isInt_tup, isInt_lst, isInt_str, isInt_non, isBool_int, isBool_bl, isTup_tup, isTup_lst, isTup_int, isTup_non, isTup_str, isTup_bl, isLst_lst, isLst_tup, f_add, f_sub, f_neg, f_eqI, f_neI, f_eqB, f_neB, f_lt, f_le, f_gt, f_ge, f_is, f_isNot, isNone_int, isNone_tup, isNone_lst, isNone_non, f_len_l, f_len_t, f_len_rd, f_tup_l, f_tup_t, f_max2, f_min2, f_abs, f_sum_l, f_sum_t, f_ix0, f_ix1, f_ix2, f_ix3, f_rev_t, outR_nx, outR_rt, outR_exc, nones0, nonesS, runB_eq, ap_eSl, optI_none, optI_some, optO_int, ap_sWh, ap_iSeq, items_l, items_t, ap_iRange1, ap_iRange2, wipeE_nil, wipeE_cons, evA_nil, evA_cons, RL.cons_ok, RL.cons_exc, RL.bind_ok, RL.bind_exc, RL.out_ok, RL.out_exc, Rs.bind_ok, Rs.bind_exc, Rs.out_ok, Rs.out_exc, Rs.of_some, Option.bind_some, List.getElem?_cons_zero, List.getElem?_cons_succ, List.set_cons_zero, List.set_cons_succ, List.map_cons, List.map_nil, List.cons_append, List.nil_append, List.length_cons, List.length_nil, Nat.reduceAdd, Nat.reduceSub, Nat.reduceLeDiff, Nat.reduceLT, Bool.not_true, Bool.not_false, decide_true, decide_false]
    exact ⟨trivial, trivial⟩)]
  simp -implicitDefEqProofs only [ap_sSeq, seqO_nx, seqO_rt, seqO_exc, ap_sIf, ifO_t, ifO_f, ifO_exc, ap_sNx, ap_sSet, ap_sOwn, ap_sRet, ap_sDrop, ap_sAsg, outB_some, bT_nm, bT_tp, bTs_nil, bTs_cons, ap_sRaise, ap_sPar, parO_ok, ap_sFor, ap_sRetV, retO_own, retO_val, ap_sFrz, frzO_own, frzO_val, ap_sApp, ap_sExt, ap_eV, valO_val, ap_eB, borO_val, borO_own, ap_eC, ap_eOp, opO_ok, ap_eUn, ap_eTup, ap_eLst, tupR_ok, lstR_ok, ap_eCB, ap_eCall, callO_ok, callO_exc, ap_gNot, notR_b, ap_gTru, truR_b, truR_list, ap_gAnd, ap_gOr, andO_t, andO_f, orO_t, orO_f, ap_eAnd, ap_eOr, eandO_t, eandO_f, eorO_t, eorO_f, ap_eNot, enotO_b, enotO_list, ap_eIf, eifO_t, eifO_f, ap_eChain, chO_ok, ap_eIsi, isiO_int, isiO_tup, isiO_lst, isiO_bl, isiO_str, isiO_non, isInt_int, isInt_bl, isInt_tup, isInt_lst, isInt_str, isInt_non, isBool_int, isBool_bl, isTup_tup, isTup_lst, isTup_int, isTup_non, isTup_str, isTup_bl, isLst_lst, isLst_tup, f_add, f_sub, f_neg, f_eqI, f_neI, f_eqB, f_neB, f_lt, f_le, f_gt, f_ge, f_is, f_isNot, isNone_int, isNone_tup, isNone_lst, isNone_non, f_len_l, f_len_t, f_len_rd, f_tup_l, f_tup_t, f_max2, f_min2, f_abs, f_sum_l, f_sum_t, f_ix0, f_ix1, f_ix2, f_ix3, f_rev_t, outR_nx, outR_rt, outR_exc, nones0, nonesS, runB_eq, ap_eSl, optI_none, optI_some, optO_int, ap_sWh, ap_iSeq, items_l, items_t, ap_iRange1, ap_iRange2, wipeE_nil, wipeE_cons, evA_nil, evA_cons, RL.cons_ok, RL.cons_exc, RL.bind_ok, RL.bind_exc, RL.out_ok, RL.out_exc, Rs.bind_ok, Rs.bind_exc, Rs.out_ok, Rs.out_exc, Rs.of_some, Option.bind_some, List.getElem?_cons_zero, List.getElem?_cons_succ, List.set_cons_zero, List.set_cons_succ, List.map_cons, List.map_nil, List.cons_append, List.nil_append, List.length_cons, List.length_nil, Nat.reduceAdd, Nat.reduceSub, Nat.reduceLeDiff, Nat.reduceLT, Bool.not_true, Bool.not_false, decide_true, decide_false]
  unfold shD cutS'
  rw [List.map_map]
  rfl
theorem cut_sh {s : List (List Int)} {h w : Nat} (S : Sh s h w) (x y wide high : Nat) (hw : 1 ≤ wide) (hh : 1 ≤ high) (hxw : x + wide ≤ w) (hyh : y + high ≤ h) : Sh (cutS' s x y wide high) high wide where
  len := by
    unfold cutS'
    rw [List.length_map, List.length_take, List.length_drop, S.len]
    omega
  h1 := hh
  h2 := by have := S.h2; omega
  w1 := hw
  w2 := by have := S.w2; omega
  row := fun r hr => by
    obtain ⟨q, hq, rfl⟩ := List.mem_map.mp hr
    rw [List.length_take, List.length_drop, S.row q (List.mem_of_mem_drop (List.mem_of_mem_take hq))]
    omega
  lev := fun r hr v hv => by
    obtain ⟨q, hq, rfl⟩ := List.mem_map.mp hr
    exact S.lev q (List.mem_of_mem_drop (List.mem_of_mem_take hq)) v (List.mem_of_mem_drop (List.mem_of_mem_take hv))
end VVlaw

set_option Elab.async false
set_option linter.all false
set_option maxRecDepth 100000
set_option maxHeartbeats 4000000
/-! PLe: the law's rows and shots. -/
namespace VVlaw
open PySem PySem.Spec L2 VV
open PyProof.Rows hiding St
theorem law_cell_eq (ns : List Int) (k : Int) (h0 : 0 ≤ k) : sem__law_cell [rdL ns, .int k] = .ok (.int (ns.getD k.toNat 0)) := by
  by_cases h : k < (ns.length : Int)
  · simp -implicitDefEqProofs only [sem__law_cell, b__law_cell, h, f_ix_rd ns k h0 h, ap_sSeq, seqO_nx, seqO_rt, seqO_exc, ap_sIf, ifO_t, ifO_f, ifO_exc, ap_sNx, ap_sSet, ap_sOwn, ap_sRet, ap_sDrop, ap_sAsg, outB_some, bT_nm, bT_tp, bTs_nil, bTs_cons, ap_sRaise, ap_sPar, parO_ok, ap_sFor, ap_sRetV, retO_own, retO_val, ap_sFrz, frzO_own, frzO_val, ap_sApp, ap_sExt, ap_eV, valO_val, ap_eB, borO_val, borO_own, ap_eC, ap_eOp, opO_ok, ap_eUn, ap_eTup, ap_eLst, tupR_ok, lstR_ok, ap_eCB, ap_eCall, callO_ok, callO_exc, ap_gNot, notR_b, ap_gTru, truR_b, truR_list, ap_gAnd, ap_gOr, andO_t, andO_f, orO_t, orO_f, ap_eAnd, ap_eOr, eandO_t, eandO_f, eorO_t, eorO_f, ap_eNot, enotO_b, enotO_list, ap_eIf, eifO_t, eifO_f, ap_eChain, chO_ok, ap_eIsi, isiO_int, isiO_tup, isiO_lst, isiO_bl, isiO_str, isiO_non, isInt_int, isInt_bl, isInt_tup, isInt_lst, isInt_str, isInt_non, isBool_int, isBool_bl, isTup_tup, isTup_lst, isTup_int, isTup_non, isTup_str, isTup_bl, isLst_lst, isLst_tup, f_add, f_sub, f_neg, f_eqI, f_neI, f_eqB, f_neB, f_lt, f_le, f_gt, f_ge, f_is, f_isNot, isNone_int, isNone_tup, isNone_lst, isNone_non, f_len_l, f_len_t, f_len_rd, f_tup_l, f_tup_t, f_max2, f_min2, f_abs, f_sum_l, f_sum_t, f_ix0, f_ix1, f_ix2, f_ix3, f_rev_t, outR_nx, outR_rt, outR_exc, nones0, nonesS, runB_eq, ap_eSl, optI_none, optI_some, optO_int, ap_sWh, ap_iSeq, items_l, items_t, ap_iRange1, ap_iRange2, wipeE_nil, wipeE_cons, evA_nil, evA_cons, RL.cons_ok, RL.cons_exc, RL.bind_ok, RL.bind_exc, RL.out_ok, RL.out_exc, Rs.bind_ok, Rs.bind_exc, Rs.out_ok, Rs.out_exc, Rs.of_some, Option.bind_some, List.getElem?_cons_zero, List.getElem?_cons_succ, List.set_cons_zero, List.set_cons_succ, List.map_cons, List.map_nil, List.cons_append, List.nil_append, List.length_cons, List.length_nil, Nat.reduceAdd, Nat.reduceSub, Nat.reduceLeDiff, Nat.reduceLT, Bool.not_true, Bool.not_false, decide_true, decide_false]
  · have e : ns.getD k.toNat 0 = 0 := by
      rw [List.getD_eq_getElem?_getD, List.getElem?_eq_none (by omega)]
      rfl
    simp -implicitDefEqProofs only [sem__law_cell, b__law_cell, h, e, ap_sSeq, seqO_nx, seqO_rt, seqO_exc, ap_sIf, ifO_t, ifO_f, ifO_exc, ap_sNx, ap_sSet, ap_sOwn, ap_sRet, ap_sDrop, ap_sAsg, outB_some, bT_nm, bT_tp, bTs_nil, bTs_cons, ap_sRaise, ap_sPar, parO_ok, ap_sFor, ap_sRetV, retO_own, retO_val, ap_sFrz, frzO_own, frzO_val, ap_sApp, ap_sExt, ap_eV, valO_val, ap_eB, borO_val, borO_own, ap_eC, ap_eOp, opO_ok, ap_eUn, ap_eTup, ap_eLst, tupR_ok, lstR_ok, ap_eCB, ap_eCall, callO_ok, callO_exc, ap_gNot, notR_b, ap_gTru, truR_b, truR_list, ap_gAnd, ap_gOr, andO_t, andO_f, orO_t, orO_f, ap_eAnd, ap_eOr, eandO_t, eandO_f, eorO_t, eorO_f, ap_eNot, enotO_b, enotO_list, ap_eIf, eifO_t, eifO_f, ap_eChain, chO_ok, ap_eIsi, isiO_int, isiO_tup, isiO_lst, isiO_bl, isiO_str, isiO_non, isInt_int, isInt_bl, isInt_tup, isInt_lst, isInt_str, isInt_non, isBool_int, isBool_bl, isTup_tup, isTup_lst, isTup_int, isTup_non, isTup_str, isTup_bl, isLst_lst, isLst_tup, f_add, f_sub, f_neg, f_eqI, f_neI, f_eqB, f_neB, f_lt, f_le, f_gt, f_ge, f_is, f_isNot, isNone_int, isNone_tup, isNone_lst, isNone_non, f_len_l, f_len_t, f_len_rd, f_tup_l, f_tup_t, f_max2, f_min2, f_abs, f_sum_l, f_sum_t, f_ix0, f_ix1, f_ix2, f_ix3, f_rev_t, outR_nx, outR_rt, outR_exc, nones0, nonesS, runB_eq, ap_eSl, optI_none, optI_some, optO_int, ap_sWh, ap_iSeq, items_l, items_t, ap_iRange1, ap_iRange2, wipeE_nil, wipeE_cons, evA_nil, evA_cons, RL.cons_ok, RL.cons_exc, RL.bind_ok, RL.bind_exc, RL.out_ok, RL.out_exc, Rs.bind_ok, Rs.bind_exc, Rs.out_ok, Rs.out_exc, Rs.of_some, Option.bind_some, List.getElem?_cons_zero, List.getElem?_cons_succ, List.set_cons_zero, List.set_cons_succ, List.map_cons, List.map_nil, List.cons_append, List.nil_append, List.length_cons, List.length_nil, Nat.reduceAdd, Nat.reduceSub, Nat.reduceLeDiff, Nat.reduceLT, Bool.not_true, Bool.not_false, decide_true, decide_false]
theorem pow18 : powF (.int 10) (.int 18) = some (.int 1000000000000000000) := by
  simp [powF]
/-- sixty numbers below a thousand -/
structure Rw (r : List Int) : Prop where
  len : r.length = 60
  bd : ∀ v ∈ r, 0 ≤ v ∧ v < 1000
theorem law_row_eq (ns : List Int) (t : Int) (h0 : 0 ≤ t) : ∃ r, sem__law_row [rdL ns, .int t] = .ok (.list (r.map PyData.int)) ∧ Rw r := by
  simp -implicitDefEqProofs only [sem__law_row, b__law_row, law_cell_eq ns t h0, rng1_ok 60 (by decide) (by decide), ap_sSeq, seqO_nx, seqO_rt, seqO_exc, ap_sIf, ifO_t, ifO_f, ifO_exc, ap_sNx, ap_sSet, ap_sOwn, ap_sRet, ap_sDrop, ap_sAsg, outB_some, bT_nm, bT_tp, bTs_nil, bTs_cons, ap_sRaise, ap_sPar, parO_ok, ap_sFor, ap_sRetV, retO_own, retO_val, ap_sFrz, frzO_own, frzO_val, ap_sApp, ap_sExt, ap_eV, valO_val, ap_eB, borO_val, borO_own, ap_eC, ap_eOp, opO_ok, ap_eUn, ap_eTup, ap_eLst, tupR_ok, lstR_ok, ap_eCB, ap_eCall, callO_ok, callO_exc, ap_gNot, notR_b, ap_gTru, truR_b, truR_list, ap_gAnd, ap_gOr, andO_t, andO_f, orO_t, orO_f, ap_eAnd, ap_eOr, eandO_t, eandO_f, eorO_t, eorO_f, ap_eNot, enotO_b, enotO_list, ap_eIf, eifO_t, eifO_f, ap_eChain, chO_ok, ap_eIsi, isiO_int, isiO_tup, isiO_lst, isiO_bl, isiO_str, isiO_non, isInt_int, isInt_bl, isInt_tup, isInt_lst, isInt_str, isInt_non, isBool_int, isBool_bl, isTup_tup, isTup_lst, isTup_int, isTup_non, isTup_str, isTup_bl, isLst_lst, isLst_tup, f_add, f_sub, f_neg, f_eqI, f_neI, f_eqB, f_neB, f_lt, f_le, f_gt, f_ge, f_is, f_isNot, isNone_int, isNone_tup, isNone_lst, isNone_non, f_len_l, f_len_t, f_len_rd, f_tup_l, f_tup_t, f_max2, f_min2, f_abs, f_sum_l, f_sum_t, f_ix0, f_ix1, f_ix2, f_ix3, f_rev_t, outR_nx, outR_rt, outR_exc, nones0, nonesS, runB_eq, ap_eSl, optI_none, optI_some, optO_int, ap_sWh, ap_iSeq, items_l, items_t, ap_iRange1, ap_iRange2, wipeE_nil, wipeE_cons, evA_nil, evA_cons, RL.cons_ok, RL.cons_exc, RL.bind_ok, RL.bind_exc, RL.out_ok, RL.out_exc, Rs.bind_ok, Rs.bind_exc, Rs.out_ok, Rs.out_exc, Rs.of_some, Option.bind_some, List.getElem?_cons_zero, List.getElem?_cons_succ, List.set_cons_zero, List.set_cons_succ, List.map_cons, List.map_nil, List.cons_append, List.nil_append, List.length_cons, List.length_nil, Nat.reduceAdd, Nat.reduceSub, Nat.reduceLeDiff, Nat.reduceLT, Bool.not_true, Bool.not_false, decide_true, decide_false]
  obtain ⟨ρ', e, P⟩ := forGo_rng (i := 4) (lo := 0) (n := (60 : Int).toNat) (f := lp__law_row_1)
    (fun k ρ => ∃ (c : Int) (L : List Int) (o : Option Sl), ρ = [some (.val (rdL ns)), some (.val (.int t)), some (.val (.int c)), some (.own (.list (L.map PyData.int))), o] ∧ L.length = k ∧ ∀ v ∈ L, 0 ≤ v ∧ v < 1000)
    (ρ := [some (.val (rdL ns)), some (.val (.int t)), some (.val (.int (ns.getD t.toNat 0))), some (.own (.list [])), none]) ⟨_, [], none, rfl, rfl, by simp⟩ (by
      rintro k ρ hk ⟨c, L, o, rfl, hL, hv⟩
      have hk' : k < 60 := hk
      have hlen : (L.map PyData.int).length < 16777216 := by rw [List.length_map]; omega
      have m1 : mulF (.int c) (.int 48271) = some (.int (c * 48271)) := f_mul _ _ (.inr (by decide))
      have m2 : mulF (.int 131) (.int (0 + (k : Int))) = some (.int (131 * (0 + (k : Int)))) := f_mul _ _ (.inl (by decide))
      have hc : sem__law_cell [rdL ns, .int ((t + 1 + (0 + (k : Int))) % 20)] = .ok (.int (ns.getD ((t + 1 + (0 + (k : Int))) % 20).toNat 0)) := law_cell_eq ns _ (by omega)
      by_cases h : ns.getD t.toNat 0 < 1000000000000000000
      · simp -implicitDefEqProofs only [lp__law_row_1, law_cell_eq ns t h0, pow18, h, m1, m2, f_modP _ 20 (by decide), hc, f_modP _ 2147483647 (by decide), f_divP _ 11 (by decide) (by decide), f_modP _ 1000 (by decide), appO_ok _ _ _ _ hlen, ap_sSeq, seqO_nx, seqO_rt, seqO_exc, ap_sIf, ifO_t, ifO_f, ifO_exc, ap_sNx, ap_sSet, ap_sOwn, ap_sRet, ap_sDrop, ap_sAsg, outB_some, bT_nm, bT_tp, bTs_nil, bTs_cons, ap_sRaise, ap_sPar, parO_ok, ap_sFor, ap_sRetV, retO_own, retO_val, ap_sFrz, frzO_own, frzO_val, ap_sApp, ap_sExt, ap_eV, valO_val, ap_eB, borO_val, borO_own, ap_eC, ap_eOp, opO_ok, ap_eUn, ap_eTup, ap_eLst, tupR_ok, lstR_ok, ap_eCB, ap_eCall, callO_ok, callO_exc, ap_gNot, notR_b, ap_gTru, truR_b, truR_list, ap_gAnd, ap_gOr, andO_t, andO_f, orO_t, orO_f, ap_eAnd, ap_eOr, eandO_t, eandO_f, eorO_t, eorO_f, ap_eNot, enotO_b, enotO_list, ap_eIf, eifO_t, eifO_f, ap_eChain, chO_ok, ap_eIsi, isiO_int, isiO_tup, isiO_lst, isiO_bl, isiO_str, isiO_non, isInt_int, isInt_bl, isInt_tup, isInt_lst, isInt_str, isInt_non, isBool_int, isBool_bl, isTup_tup, isTup_lst, isTup_int, isTup_non, isTup_str, isTup_bl, isLst_lst, isLst_tup, f_add, f_sub, f_neg, f_eqI, f_neI, f_eqB, f_neB, f_lt, f_le, f_gt, f_ge, f_is, f_isNot, isNone_int, isNone_tup, isNone_lst, isNone_non, f_len_l, f_len_t, f_len_rd, f_tup_l, f_tup_t, f_max2, f_min2, f_abs, f_sum_l, f_sum_t, f_ix0, f_ix1, f_ix2, f_ix3, f_rev_t, outR_nx, outR_rt, outR_exc, nones0, nonesS, runB_eq, ap_eSl, optI_none, optI_some, optO_int, ap_sWh, ap_iSeq, items_l, items_t, ap_iRange1, ap_iRange2, wipeE_nil, wipeE_cons, evA_nil, evA_cons, RL.cons_ok, RL.cons_exc, RL.bind_ok, RL.bind_exc, RL.out_ok, RL.out_exc, Rs.bind_ok, Rs.bind_exc, Rs.out_ok, Rs.out_exc, Rs.of_some, Option.bind_some, List.getElem?_cons_zero, List.getElem?_cons_succ, List.set_cons_zero, List.set_cons_succ, List.map_cons, List.map_nil, List.cons_append, List.nil_append, List.length_cons, List.length_nil, Nat.reduceAdd, Nat.reduceSub, Nat.reduceLeDiff, Nat.reduceLT, Bool.not_true, Bool.not_false, decide_true, decide_false]
        refine ⟨_, rfl, (c * 48271 + 131 * (0 + (k : Int)) + 7 + ns.getD ((t + 1 + (0 + (k : Int))) % 20).toNat 0) % 2147483647, L ++ [(c * 48271 + 131 * (0 + (k : Int)) + 7 + ns.getD ((t + 1 + (0 + (k : Int))) % 20).toNat 0) % 2147483647 / 11 % 1000], some (.val (.int (0 + (k : Int)))), ?_, by simp [hL], ?_⟩
        · rw [List.map_append]; rfl
        · intro v hv'
          rw [List.mem_append] at hv'
          rcases hv' with hv' | hv'
          · exact hv v hv'
          · simp -implicitDefEqProofs only [List.mem_singleton] at hv'
            subst hv'
            omega
      · simp -implicitDefEqProofs only [lp__law_row_1, law_cell_eq ns t h0, pow18, h, f_divP _ 1000 (by decide) (by decide), f_modP _ 1000 (by decide), appO_ok _ _ _ _ hlen, ap_sSeq, seqO_nx, seqO_rt, seqO_exc, ap_sIf, ifO_t, ifO_f, ifO_exc, ap_sNx, ap_sSet, ap_sOwn, ap_sRet, ap_sDrop, ap_sAsg, outB_some, bT_nm, bT_tp, bTs_nil, bTs_cons, ap_sRaise, ap_sPar, parO_ok, ap_sFor, ap_sRetV, retO_own, retO_val, ap_sFrz, frzO_own, frzO_val, ap_sApp, ap_sExt, ap_eV, valO_val, ap_eB, borO_val, borO_own, ap_eC, ap_eOp, opO_ok, ap_eUn, ap_eTup, ap_eLst, tupR_ok, lstR_ok, ap_eCB, ap_eCall, callO_ok, callO_exc, ap_gNot, notR_b, ap_gTru, truR_b, truR_list, ap_gAnd, ap_gOr, andO_t, andO_f, orO_t, orO_f, ap_eAnd, ap_eOr, eandO_t, eandO_f, eorO_t, eorO_f, ap_eNot, enotO_b, enotO_list, ap_eIf, eifO_t, eifO_f, ap_eChain, chO_ok, ap_eIsi, isiO_int, isiO_tup, isiO_lst, isiO_bl, isiO_str, isiO_non, isInt_int, isInt_bl, isInt_tup, isInt_lst, isInt_str, isInt_non, isBool_int, isBool_bl, isTup_tup, isTup_lst, isTup_int, isTup_non, isTup_str, isTup_bl, isLst_lst, isLst_tup, f_add, f_sub, f_neg, f_eqI, f_neI, f_eqB, f_neB, f_lt, f_le, f_gt, f_ge, f_is, f_isNot, isNone_int, isNone_tup, isNone_lst, isNone_non, f_len_l, f_len_t, f_len_rd, f_tup_l, f_tup_t, f_max2, f_min2, f_abs, f_sum_l, f_sum_t, f_ix0, f_ix1, f_ix2, f_ix3, f_rev_t, outR_nx, outR_rt, outR_exc, nones0, nonesS, runB_eq, ap_eSl, optI_none, optI_some, optO_int, ap_sWh, ap_iSeq, items_l, items_t, ap_iRange1, ap_iRange2, wipeE_nil, wipeE_cons, evA_nil, evA_cons, RL.cons_ok, RL.cons_exc, RL.bind_ok, RL.bind_exc, RL.out_ok, RL.out_exc, Rs.bind_ok, Rs.bind_exc, Rs.out_ok, Rs.out_exc, Rs.of_some, Option.bind_some, List.getElem?_cons_zero, List.getElem?_cons_succ, List.set_cons_zero, List.set_cons_succ, List.map_cons, List.map_nil, List.cons_append, List.nil_append, List.length_cons, List.length_nil, Nat.reduceAdd, Nat.reduceSub, Nat.reduceLeDiff, Nat.reduceLT, Bool.not_true, Bool.not_false, decide_true, decide_false]
        refine ⟨_, rfl, c / 1000, L ++ [c % 1000], some (.val (.int (0 + (k : Int)))), ?_, by simp [hL], ?_⟩
        · rw [List.map_append]; rfl
        · intro v hv'
          rw [List.mem_append] at hv'
          rcases hv' with hv' | hv'
          · exact hv v hv'
          · simp -implicitDefEqProofs only [List.mem_singleton] at hv'
            subst hv'
            omega)
  obtain ⟨c, L, o, rfl, hL, hv⟩ := P
  rw [e]
  simp -implicitDefEqProofs only [ap_sSeq, seqO_nx, seqO_rt, seqO_exc, ap_sIf, ifO_t, ifO_f, ifO_exc, ap_sNx, ap_sSet, ap_sOwn, ap_sRet, ap_sDrop, ap_sAsg, outB_some, bT_nm, bT_tp, bTs_nil, bTs_cons, ap_sRaise, ap_sPar, parO_ok, ap_sFor, ap_sRetV, retO_own, retO_val, ap_sFrz, frzO_own, frzO_val, ap_sApp, ap_sExt, ap_eV, valO_val, ap_eB, borO_val, borO_own, ap_eC, ap_eOp, opO_ok, ap_eUn, ap_eTup, ap_eLst, tupR_ok, lstR_ok, ap_eCB, ap_eCall, callO_ok, callO_exc, ap_gNot, notR_b, ap_gTru, truR_b, truR_list, ap_gAnd, ap_gOr, andO_t, andO_f, orO_t, orO_f, ap_eAnd, ap_eOr, eandO_t, eandO_f, eorO_t, eorO_f, ap_eNot, enotO_b, enotO_list, ap_eIf, eifO_t, eifO_f, ap_eChain, chO_ok, ap_eIsi, isiO_int, isiO_tup, isiO_lst, isiO_bl, isiO_str, isiO_non, isInt_int, isInt_bl, isInt_tup, isInt_lst, isInt_str, isInt_non, isBool_int, isBool_bl, isTup_tup, isTup_lst, isTup_int, isTup_non, isTup_str, isTup_bl, isLst_lst, isLst_tup, f_add, f_sub, f_neg, f_eqI, f_neI, f_eqB, f_neB, f_lt, f_le, f_gt, f_ge, f_is, f_isNot, isNone_int, isNone_tup, isNone_lst, isNone_non, f_len_l, f_len_t, f_len_rd, f_tup_l, f_tup_t, f_max2, f_min2, f_abs, f_sum_l, f_sum_t, f_ix0, f_ix1, f_ix2, f_ix3, f_rev_t, outR_nx, outR_rt, outR_exc, nones0, nonesS, runB_eq, ap_eSl, optI_none, optI_some, optO_int, ap_sWh, ap_iSeq, items_l, items_t, ap_iRange1, ap_iRange2, wipeE_nil, wipeE_cons, evA_nil, evA_cons, RL.cons_ok, RL.cons_exc, RL.bind_ok, RL.bind_exc, RL.out_ok, RL.out_exc, Rs.bind_ok, Rs.bind_exc, Rs.out_ok, Rs.out_exc, Rs.of_some, Option.bind_some, List.getElem?_cons_zero, List.getElem?_cons_succ, List.set_cons_zero, List.set_cons_succ, List.map_cons, List.map_nil, List.cons_append, List.nil_append, List.length_cons, List.length_nil, Nat.reduceAdd, Nat.reduceSub, Nat.reduceLeDiff, Nat.reduceLT, Bool.not_true, Bool.not_false, decide_true, decide_false]
  exact ⟨L, rfl, hL, hv⟩
theorem Rw.at {r : List Int} (R : Rw r) (k : Int) (h0 : 0 ≤ k) (h : k < 60) : ixF (.list (r.map PyData.int)) (.int k) = some (.int (r.getD k.toNat 0)) := f_ix_row r k h0 (by rw [R.len]; exact h)
theorem Rw.bdAt {r : List Int} (R : Rw r) (k : Nat) : 0 ≤ r.getD k 0 ∧ r.getD k 0 < 1000 := by
  rw [List.getD_eq_getElem?_getD]
  by_cases h : k < r.length
  · rw [List.getElem?_eq_getElem h]
    exact R.bd _ (List.getElem_mem h)
  · rw [List.getElem?_eq_none (by omega)]
    exact ⟨by decide, by decide⟩
theorem pick3 (a b c : Int) (k : Int) : ∃ v, ixF (.list [.int a, .int b, .int c]) (.int (k % 3)) = some (.int v) ∧ (v = a ∨ v = b ∨ v = c) := by
  have h : k % 3 = 0 ∨ k % 3 = 1 ∨ k % 3 = 2 := by omega
  rcases h with h | h | h <;> rw [h]
  · exact ⟨a, f_ix_l [.int a, .int b, .int c] 0 (by decide) (by simp), .inl rfl⟩
  · exact ⟨b, f_ix_l [.int a, .int b, .int c] 1 (by decide) (by simp), .inr (.inl rfl)⟩
  · exact ⟨c, f_ix_l [.int a, .int b, .int c] 2 (by decide) (by simp), .inr (.inr rfl)⟩
theorem law_shot_eq {r : List Int} (R : Rw r) (t way : Int) (h0 : 0 ≤ t) : ∃ s h w, sem__law_shot [.list (r.map PyData.int), .int t, .int way] = .ok (shD s) ∧ Sh s h w ∧ h ≤ 5 ∧ w ≤ 5 := by
  have i1 : ixF (.list (r.map PyData.int)) (.int (t % 60)) = some (.int (r.getD (t % 60).toNat 0)) := R.at _ (by omega) (by omega)
  have i2 : ixF (.list (r.map PyData.int)) (.int ((t + 1) % 60)) = some (.int (r.getD ((t + 1) % 60).toNat 0)) := R.at _ (by omega) (by omega)
  have hb1 := R.bdAt (t % 60).toNat
  have hb2 := R.bdAt ((t + 1) % 60).toNat
  generalize hu : r.getD (t % 60).toNat 0 = u at *
  generalize hv : r.getD ((t + 1) % 60).toNat 0 = v at *
  simp -implicitDefEqProofs only [sem__law_shot, b__law_shot, f_modP _ 60 (by decide), i1, i2, f_modP _ 5 (by decide), f_divP _ 5 (by decide) (by decide), rng1_ok (1 + u % 5) (by omega) (by omega), ap_sSeq, seqO_nx, seqO_rt, seqO_exc, ap_sIf, ifO_t, ifO_f, ifO_exc, ap_sNx, ap_sSet, ap_sOwn, ap_sRet, ap_sDrop, ap_sAsg, outB_some, bT_nm, bT_tp, bTs_nil, bTs_cons, ap_sRaise, ap_sPar, parO_ok, ap_sFor, ap_sRetV, retO_own, retO_val, ap_sFrz, frzO_own, frzO_val, ap_sApp, ap_sExt, ap_eV, valO_val, ap_eB, borO_val, borO_own, ap_eC, ap_eOp, opO_ok, ap_eUn, ap_eTup, ap_eLst, tupR_ok, lstR_ok, ap_eCB, ap_eCall, callO_ok, callO_exc, ap_gNot, notR_b, ap_gTru, truR_b, truR_list, ap_gAnd, ap_gOr, andO_t, andO_f, orO_t, orO_f, ap_eAnd, ap_eOr, eandO_t, eandO_f, eorO_t, eorO_f, ap_eNot, enotO_b, enotO_list, ap_eIf, eifO_t, eifO_f, ap_eChain, chO_ok, ap_eIsi, isiO_int, isiO_tup, isiO_lst, isiO_bl, isiO_str, isiO_non, isInt_int, isInt_bl, isInt_tup, isInt_lst, isInt_str, isInt_non, isBool_int, isBool_bl, isTup_tup, isTup_lst, isTup_int, isTup_non, isTup_str, isTup_bl, isLst_lst, isLst_tup, f_add, f_sub, f_neg, f_eqI, f_neI, f_eqB, f_neB, f_lt, f_le, f_gt, f_ge, f_is, f_isNot, isNone_int, isNone_tup, isNone_lst, isNone_non, f_len_l, f_len_t, f_len_rd, f_tup_l, f_tup_t, f_max2, f_min2, f_abs, f_sum_l, f_sum_t, f_ix0, f_ix1, f_ix2, f_ix3, f_rev_t, outR_nx, outR_rt, outR_exc, nones0, nonesS, runB_eq, ap_eSl, optI_none, optI_some, optO_int, ap_sWh, ap_iSeq, items_l, items_t, ap_iRange1, ap_iRange2, wipeE_nil, wipeE_cons, evA_nil, evA_cons, RL.cons_ok, RL.cons_exc, RL.bind_ok, RL.bind_exc, RL.out_ok, RL.out_exc, Rs.bind_ok, Rs.bind_exc, Rs.out_ok, Rs.out_exc, Rs.of_some, Option.bind_some, List.getElem?_cons_zero, List.getElem?_cons_succ, List.set_cons_zero, List.set_cons_succ, List.map_cons, List.map_nil, List.cons_append, List.nil_append, List.length_cons, List.length_nil, Nat.reduceAdd, Nat.reduceSub, Nat.reduceLeDiff, Nat.reduceLT, Bool.not_true, Bool.not_false, decide_true, decide_false]
  obtain ⟨ρ', e, P⟩ := forGo_rng (i := 6) (lo := 0) (n := (1 + u % 5).toNat) (f := lp__law_shot_2)
    (fun k ρ => ∃ (S : List (List Int)) (o6 o7 o8 o9 : Option Sl), ρ = [some (.val (.list (r.map PyData.int))), some (.val (.int t)), some (.val (.int way)), some (.val (.int (1 + u % 5))), some (.val (.int (1 + v / 5 % 5))), some (.own (.list (S.map rowD))), o6, o7, o8, o9] ∧ S.length = k ∧ ∀ q ∈ S, (q.length : Int) = 1 + v / 5 % 5 ∧ ∀ z ∈ q, 0 ≤ z ∧ z ≤ 255)
    (ρ := [some (.val (.list (r.map PyData.int))), some (.val (.int t)), some (.val (.int way)), some (.val (.int (1 + u % 5))), some (.val (.int (1 + v / 5 % 5))), some (.own (.list [])), none, none, none, none]) ⟨[], none, none, none, none, rfl, rfl, by simp⟩ (by
      rintro k ρ hk ⟨S, o6, o7, o8, o9, rfl, hS, hq⟩
      simp -implicitDefEqProofs only [lp__law_shot_2, rng1_ok (1 + v / 5 % 5) (by omega) (by omega), ap_sSeq, seqO_nx, seqO_rt, seqO_exc, ap_sIf, ifO_t, ifO_f, ifO_exc, ap_sNx, ap_sSet, ap_sOwn, ap_sRet, ap_sDrop, ap_sAsg, outB_some, bT_nm, bT_tp, bTs_nil, bTs_cons, ap_sRaise, ap_sPar, parO_ok, ap_sFor, ap_sRetV, retO_own, retO_val, ap_sFrz, frzO_own, frzO_val, ap_sApp, ap_sExt, ap_eV, valO_val, ap_eB, borO_val, borO_own, ap_eC, ap_eOp, opO_ok, ap_eUn, ap_eTup, ap_eLst, tupR_ok, lstR_ok, ap_eCB, ap_eCall, callO_ok, callO_exc, ap_gNot, notR_b, ap_gTru, truR_b, truR_list, ap_gAnd, ap_gOr, andO_t, andO_f, orO_t, orO_f, ap_eAnd, ap_eOr, eandO_t, eandO_f, eorO_t, eorO_f, ap_eNot, enotO_b, enotO_list, ap_eIf, eifO_t, eifO_f, ap_eChain, chO_ok, ap_eIsi, isiO_int, isiO_tup, isiO_lst, isiO_bl, isiO_str, isiO_non, isInt_int, isInt_bl, isInt_tup, isInt_lst, isInt_str, isInt_non, isBool_int, isBool_bl, isTup_tup, isTup_lst, isTup_int, isTup_non, isTup_str, isTup_bl, isLst_lst, isLst_tup, f_add, f_sub, f_neg, f_eqI, f_neI, f_eqB, f_neB, f_lt, f_le, f_gt, f_ge, f_is, f_isNot, isNone_int, isNone_tup, isNone_lst, isNone_non, f_len_l, f_len_t, f_len_rd, f_tup_l, f_tup_t, f_max2, f_min2, f_abs, f_sum_l, f_sum_t, f_ix0, f_ix1, f_ix2, f_ix3, f_rev_t, outR_nx, outR_rt, outR_exc, nones0, nonesS, runB_eq, ap_eSl, optI_none, optI_some, optO_int, ap_sWh, ap_iSeq, items_l, items_t, ap_iRange1, ap_iRange2, wipeE_nil, wipeE_cons, evA_nil, evA_cons, RL.cons_ok, RL.cons_exc, RL.bind_ok, RL.bind_exc, RL.out_ok, RL.out_exc, Rs.bind_ok, Rs.bind_exc, Rs.out_ok, Rs.out_exc, Rs.of_some, Option.bind_some, List.getElem?_cons_zero, List.getElem?_cons_succ, List.set_cons_zero, List.set_cons_succ, List.map_cons, List.map_nil, List.cons_append, List.nil_append, List.length_cons, List.length_nil, Nat.reduceAdd, Nat.reduceSub, Nat.reduceLeDiff, Nat.reduceLT, Bool.not_true, Bool.not_false, decide_true, decide_false]
      obtain ⟨ρ2, e2, P2⟩ := forGo_rng (i := 8) (lo := 0) (n := (1 + v / 5 % 5).toNat) (f := lp__law_shot_1)
        (fun j ρ => ∃ (L : List Int) (o8 o9 : Option Sl), ρ = [some (.val (.list (r.map PyData.int))), some (.val (.int t)), some (.val (.int way)), some (.val (.int (1 + u % 5))), some (.val (.int (1 + v / 5 % 5))), some (.own (.list (S.map rowD))), some (.val (.int (0 + (k : Int)))), some (.own (.list (L.map PyData.int))), o8, o9] ∧ L.length = j ∧ ∀ z ∈ L, 0 ≤ z ∧ z ≤ 255)
        (ρ := [some (.val (.list (r.map PyData.int))), some (.val (.int t)), some (.val (.int way)), some (.val (.int (1 + u % 5))), some (.val (.int (1 + v / 5 % 5))), some (.own (.list (S.map rowD))), some (.val (.int (0 + (k : Int)))), some (.own (.list [])), o8, o9]) ⟨[], o8, o9, rfl, rfl, by simp⟩ (by
          rintro j ρ hj ⟨L, p8, p9, rfl, hL, hz⟩
          have hlen : (L.map PyData.int).length < 16777216 := by rw [List.length_map]; omega
          have m5 : mulF (.int 5) (.int (0 + (k : Int))) = some (.int (5 * (0 + (k : Int)))) := f_mul _ _ (.inl (by decide))
          have i3 : ixF (.list (r.map PyData.int)) (.int ((t + 2 + 5 * (0 + (k : Int)) + (0 + (j : Int))) % 60)) = some (.int (r.getD ((t + 2 + 5 * (0 + (k : Int)) + (0 + (j : Int))) % 60).toNat 0)) := R.at _ (by omega) (by omega)
          have hb3 := R.bdAt ((t + 2 + 5 * (0 + (k : Int)) + (0 + (j : Int))) % 60).toNat
          generalize r.getD ((t + 2 + 5 * (0 + (k : Int)) + (0 + (j : Int))) % 60).toNat 0 = one at i3 hb3
          have m7 : mulF (.int one) (.int 7) = some (.int (one * 7)) := f_mul _ _ (.inr (by decide))
          have m60 : mulF (.int (one % 3)) (.int 60) = some (.int (one % 3 * 60)) := f_mul _ _ (.inr (by decide))
          obtain ⟨val, ev, hval⟩ := pick3 (one * 7 % 256) (one % 3 * 60) (u % 256) way
          simp -implicitDefEqProofs only [lp__law_shot_1, m5, f_modP _ 60 (by decide), i3, m7, f_modP _ 256 (by decide), f_modP _ 3 (by decide), m60, i1, ev, appO_ok _ _ _ _ hlen, ap_sSeq, seqO_nx, seqO_rt, seqO_exc, ap_sIf, ifO_t, ifO_f, ifO_exc, ap_sNx, ap_sSet, ap_sOwn, ap_sRet, ap_sDrop, ap_sAsg, outB_some, bT_nm, bT_tp, bTs_nil, bTs_cons, ap_sRaise, ap_sPar, parO_ok, ap_sFor, ap_sRetV, retO_own, retO_val, ap_sFrz, frzO_own, frzO_val, ap_sApp, ap_sExt, ap_eV, valO_val, ap_eB, borO_val, borO_own, ap_eC, ap_eOp, opO_ok, ap_eUn, ap_eTup, ap_eLst, tupR_ok, lstR_ok, ap_eCB, ap_eCall, callO_ok, callO_exc, ap_gNot, notR_b, ap_gTru, truR_b, truR_list, ap_gAnd, ap_gOr, andO_t, andO_f, orO_t, orO_f, ap_eAnd, ap_eOr, eandO_t, eandO_f, eorO_t, eorO_f, ap_eNot, enotO_b, enotO_list, ap_eIf, eifO_t, eifO_f, ap_eChain, chO_ok, ap_eIsi, isiO_int, isiO_tup, isiO_lst, isiO_bl, isiO_str, isiO_non, isInt_int, isInt_bl, isInt_tup, isInt_lst, isInt_str, isInt_non, isBool_int, isBool_bl, isTup_tup, isTup_lst, isTup_int, isTup_non, isTup_str, isTup_bl, isLst_lst, isLst_tup, f_add, f_sub, f_neg, f_eqI, f_neI, f_eqB, f_neB, f_lt, f_le, f_gt, f_ge, f_is, f_isNot, isNone_int, isNone_tup, isNone_lst, isNone_non, f_len_l, f_len_t, f_len_rd, f_tup_l, f_tup_t, f_max2, f_min2, f_abs, f_sum_l, f_sum_t, f_ix0, f_ix1, f_ix2, f_ix3, f_rev_t, outR_nx, outR_rt, outR_exc, nones0, nonesS, runB_eq, ap_eSl, optI_none, optI_some, optO_int, ap_sWh, ap_iSeq, items_l, items_t, ap_iRange1, ap_iRange2, wipeE_nil, wipeE_cons, evA_nil, evA_cons, RL.cons_ok, RL.cons_exc, RL.bind_ok, RL.bind_exc, RL.out_ok, RL.out_exc, Rs.bind_ok, Rs.bind_exc, Rs.out_ok, Rs.out_exc, Rs.of_some, Option.bind_some, List.getElem?_cons_zero, List.getElem?_cons_succ, List.set_cons_zero, List.set_cons_succ, List.map_cons, List.map_nil, List.cons_append, List.nil_append, List.length_cons, List.length_nil, Nat.reduceAdd, Nat.reduceSub, Nat.reduceLeDiff, Nat.reduceLT, Bool.not_true, Bool.not_false, decide_true, decide_false]
          refine ⟨_, rfl, L ++ [val], some (.val (.int (0 + (j : Int)))), some (.val (.int one)), ?_, by simp [hL], ?_⟩
          · rw [List.map_append]; rfl
          · intro z hz'
            rw [List.mem_append] at hz'
            rcases hz' with hz' | hz'
            · exact hz z hz'
            · simp -implicitDefEqProofs only [List.mem_singleton] at hz'
              subst hz'
              rcases hval with rfl | rfl | rfl <;> omega)
      obtain ⟨L, p8, p9, rfl, hL, hz⟩ := P2
      have hlen : (S.map rowD).length < 16777216 := by rw [List.length_map]; omega
      rw [e2]
      simp -implicitDefEqProofs only [appO_ok _ _ _ _ hlen, ap_sSeq, seqO_nx, seqO_rt, seqO_exc, ap_sIf, ifO_t, ifO_f, ifO_exc, ap_sNx, ap_sSet, ap_sOwn, ap_sRet, ap_sDrop, ap_sAsg, outB_some, bT_nm, bT_tp, bTs_nil, bTs_cons, ap_sRaise, ap_sPar, parO_ok, ap_sFor, ap_sRetV, retO_own, retO_val, ap_sFrz, frzO_own, frzO_val, ap_sApp, ap_sExt, ap_eV, valO_val, ap_eB, borO_val, borO_own, ap_eC, ap_eOp, opO_ok, ap_eUn, ap_eTup, ap_eLst, tupR_ok, lstR_ok, ap_eCB, ap_eCall, callO_ok, callO_exc, ap_gNot, notR_b, ap_gTru, truR_b, truR_list, ap_gAnd, ap_gOr, andO_t, andO_f, orO_t, orO_f, ap_eAnd, ap_eOr, eandO_t, eandO_f, eorO_t, eorO_f, ap_eNot, enotO_b, enotO_list, ap_eIf, eifO_t, eifO_f, ap_eChain, chO_ok, ap_eIsi, isiO_int, isiO_tup, isiO_lst, isiO_bl, isiO_str, isiO_non, isInt_int, isInt_bl, isInt_tup, isInt_lst, isInt_str, isInt_non, isBool_int, isBool_bl, isTup_tup, isTup_lst, isTup_int, isTup_non, isTup_str, isTup_bl, isLst_lst, isLst_tup, f_add, f_sub, f_neg, f_eqI, f_neI, f_eqB, f_neB, f_lt, f_le, f_gt, f_ge, f_is, f_isNot, isNone_int, isNone_tup, isNone_lst, isNone_non, f_len_l, f_len_t, f_len_rd, f_tup_l, f_tup_t, f_max2, f_min2, f_abs, f_sum_l, f_sum_t, f_ix0, f_ix1, f_ix2, f_ix3, f_rev_t, outR_nx, outR_rt, outR_exc, nones0, nonesS, runB_eq, ap_eSl, optI_none, optI_some, optO_int, ap_sWh, ap_iSeq, items_l, items_t, ap_iRange1, ap_iRange2, wipeE_nil, wipeE_cons, evA_nil, evA_cons, RL.cons_ok, RL.cons_exc, RL.bind_ok, RL.bind_exc, RL.out_ok, RL.out_exc, Rs.bind_ok, Rs.bind_exc, Rs.out_ok, Rs.out_exc, Rs.of_some, Option.bind_some, List.getElem?_cons_zero, List.getElem?_cons_succ, List.set_cons_zero, List.set_cons_succ, List.map_cons, List.map_nil, List.cons_append, List.nil_append, List.length_cons, List.length_nil, Nat.reduceAdd, Nat.reduceSub, Nat.reduceLeDiff, Nat.reduceLT, Bool.not_true, Bool.not_false, decide_true, decide_false]
      refine ⟨_, rfl, S ++ [L], some (.val (.int (0 + (k : Int)))), some (.own (.list (L.map PyData.int))), p8, p9, ?_, by simp [hS], ?_⟩
      · rw [List.map_append]; rfl
      · intro q hq'
        rw [List.mem_append] at hq'
        rcases hq' with hq' | hq'
        · exact hq q hq'
        · simp -implicitDefEqProofs only [List.mem_singleton] at hq'
          subst hq'
          exact ⟨by omega, hz⟩)
  obtain ⟨S, o6, o7, o8, o9, rfl, hS, hq⟩ := P
  rw [e]
  simp -implicitDefEqProofs only [ap_sSeq, seqO_nx, seqO_rt, seqO_exc, ap_sIf, ifO_t, ifO_f, ifO_exc, ap_sNx, ap_sSet, ap_sOwn, ap_sRet, ap_sDrop, ap_sAsg, outB_some, bT_nm, bT_tp, bTs_nil, bTs_cons, ap_sRaise, ap_sPar, parO_ok, ap_sFor, ap_sRetV, retO_own, retO_val, ap_sFrz, frzO_own, frzO_val, ap_sApp, ap_sExt, ap_eV, valO_val, ap_eB, borO_val, borO_own, ap_eC, ap_eOp, opO_ok, ap_eUn, ap_eTup, ap_eLst, tupR_ok, lstR_ok, ap_eCB, ap_eCall, callO_ok, callO_exc, ap_gNot, notR_b, ap_gTru, truR_b, truR_list, ap_gAnd, ap_gOr, andO_t, andO_f, orO_t, orO_f, ap_eAnd, ap_eOr, eandO_t, eandO_f, eorO_t, eorO_f, ap_eNot, enotO_b, enotO_list, ap_eIf, eifO_t, eifO_f, ap_eChain, chO_ok, ap_eIsi, isiO_int, isiO_tup, isiO_lst, isiO_bl, isiO_str, isiO_non, isInt_int, isInt_bl, isInt_tup, isInt_lst, isInt_str, isInt_non, isBool_int, isBool_bl, isTup_tup, isTup_lst, isTup_int, isTup_non, isTup_str, isTup_bl, isLst_lst, isLst_tup, f_add, f_sub, f_neg, f_eqI, f_neI, f_eqB, f_neB, f_lt, f_le, f_gt, f_ge, f_is, f_isNot, isNone_int, isNone_tup, isNone_lst, isNone_non, f_len_l, f_len_t, f_len_rd, f_tup_l, f_tup_t, f_max2, f_min2, f_abs, f_sum_l, f_sum_t, f_ix0, f_ix1, f_ix2, f_ix3, f_rev_t, outR_nx, outR_rt, outR_exc, nones0, nonesS, runB_eq, ap_eSl, optI_none, optI_some, optO_int, ap_sWh, ap_iSeq, items_l, items_t, ap_iRange1, ap_iRange2, wipeE_nil, wipeE_cons, evA_nil, evA_cons, RL.cons_ok, RL.cons_exc, RL.bind_ok, RL.bind_exc, RL.out_ok, RL.out_exc, Rs.bind_ok, Rs.bind_exc, Rs.out_ok, Rs.out_exc, Rs.of_some, Option.bind_some, List.getElem?_cons_zero, List.getElem?_cons_succ, List.set_cons_zero, List.set_cons_succ, List.map_cons, List.map_nil, List.cons_append, List.nil_append, List.length_cons, List.length_nil, Nat.reduceAdd, Nat.reduceSub, Nat.reduceLeDiff, Nat.reduceLT, Bool.not_true, Bool.not_false, decide_true, decide_false]
  exact ⟨S, (1 + u % 5).toNat, (1 + v / 5 % 5).toNat, rfl, ⟨hS, by omega, by omega, by omega, by omega, fun q h => by have := (hq q h).1; omega, fun q h => (hq q h).2⟩, by omega, by omega⟩
end VVlaw

set_option Elab.async false
set_option linter.all false
set_option maxRecDepth 100000
set_option maxHeartbeats 4000000
/-! PLf: what ways back, light, mirrors and parts do to the steps. -/
namespace VVlaw
open PySem PySem.Spec L2 VV
open PyProof.Rows hiding St
theorem flatMap_congr' {α β : Type} {f g : α → List β} : ∀ {xs : List α}, (∀ x ∈ xs, f x = g x) → xs.flatMap f = xs.flatMap g
  | [], _ => rfl
  | x :: xs, h => by rw [List.flatMap_cons, List.flatMap_cons, h x (by simp), flatMap_congr' fun y hy => h y (by simp [hy])]
theorem flatMap_perm {α β : Type} {f g : α → List β} : ∀ {xs : List α}, (∀ x ∈ xs, (f x).Perm (g x)) → (xs.flatMap f).Perm (xs.flatMap g)
  | [], _ => List.Perm.refl _
  | x :: xs, h => by
    rw [List.flatMap_cons, List.flatMap_cons]
    exact (h x (by simp)).append (flatMap_perm fun y hy => h y (by simp [hy]))
theorem sum_perm {L M : List Int} (h : L.Perm M) : L.sum = M.sum := by
  induction h with
  | nil => rfl
  | cons x _ ih => rw [List.sum_cons, List.sum_cons, ih]
  | swap x y l => simp -implicitDefEqProofs only [List.sum_cons]; omega
  | trans _ _ a b => exact a.trans b
theorem unl_perm {L M : List Int} (h : L.Perm M) : unl L = unl M := unl_of h.length_eq (by rw [h.length_eq, sum_perm h, sum_perm (h.map _)])
theorem sum_neg (L : List Int) : (L.map fun x => -x).sum = -L.sum := by
  induction L with
  | nil => rfl
  | cons x L ih => rw [List.map_cons, List.sum_cons, List.sum_cons, ih]; omega
theorem unl_neg (L : List Int) : unl (L.map fun x => -x) = unl L := by
  refine unl_of (by simp) ?_
  rw [sum_neg, List.map_map, List.length_map]
  have : ((fun x : Int => x * x) ∘ fun x => -x) = fun x => x * x := by funext x; simp -implicitDefEqProofs only [Function.comp, Int.neg_mul_neg]
  rw [this]
  grind
theorem sum_add (k : Int) (L : List Int) : (L.map fun x => x + k).sum = L.sum + L.length * k := by
  induction L with
  | nil => simp
  | cons x L ih => rw [List.map_cons, List.sum_cons, List.sum_cons, ih, List.length_cons]; grind
theorem sum_addsq (k : Int) (L : List Int) : ((L.map fun x => x + k).map fun x => x * x).sum = (L.map fun x => x * x).sum + 2 * k * L.sum + L.length * k * k := by
  induction L with
  | nil => simp
  | cons x L ih => simp -implicitDefEqProofs only [List.map_cons, List.sum_cons, List.length_cons, ih]; grind
theorem unl_add (k : Int) (L : List Int) : unl (L.map fun x => x + k) = unl L := by
  refine unl_of (by simp) ?_
  rw [sum_add, sum_addsq, List.length_map]
  grind
theorem rangeI_shift (lo c : Int) (n : Nat) : rangeI (lo + c) n = (rangeI lo n).map fun x => x + c := by
  unfold rangeI
  rw [List.map_map]
  congr 1
  funext i
  simp -implicitDefEqProofs only [Function.comp]
  omega
theorem rangeI_rev (lo c : Int) (n : Nat) : (rangeI lo n).map (fun x => c - x) = (rangeI (c - lo - n + 1) n).reverse := by
  apply List.ext_getElem
  · simp [rangeI]
  · intro i h1 h2
    simp -implicitDefEqProofs only [rangeI, List.length_map, List.length_range] at h1
    simp -implicitDefEqProofs only [rangeI, List.getElem_map, List.getElem_reverse, List.getElem_range, List.length_map, List.length_range]
    omega
/-- the way back -/
theorem steps_back (a b : List (List Int)) (w h w' h' p q : Int) : steps b a w' h' w h (-p) (-q) = (steps a b w h w' h' p q).map fun x => -x := by
  unfold steps stepsG
  have e1 : max 0 (-q) = max 0 q + -q := by omega
  have e2 : min h' (-q + h) - max 0 (-q) = min h (q + h') - max 0 q := by omega
  have e3 : min w' (-p + w) - max 0 (-p) = min w (p + w') - max 0 p := by omega
  have e4 : max 0 (-p) = max 0 p + -p := by omega
  rw [e2, e3, e1, e4, rangeI_shift, List.flatMap_map, List.map_flatMap]
  refine flatMap_congr' fun y _ => ?_
  unfold stepRow
  rw [rangeI_shift, List.map_map, List.map_map]
  refine List.map_congr_left fun x _ => ?_
  simp -implicitDefEqProofs only [Function.comp]
  have f1 : y + -q = y - q := by omega
  have f2 : y - q - -q = y := by omega
  have f3 : x + -p = x - p := by omega
  have f4 : x - p - -p = x := by omega
  rw [f1, f2, f3, f4]
  omega
theorem box_back (w h w' h' p q : Int) : (boxD w h w' h' p q = .none ↔ boxD w' h' w h (-p) (-q) = .none) := by
  unfold boxD
  constructor
  · intro z
    split at z
    · cases z
    · rw [if_neg (by omega)]
  · intro z
    split at z
    · cases z
    · rw [if_neg (by omega)]
theorem getD_map {α β : Type} (f : α → β) (xs : List α) (k : Nat) (d : α) (e : β) (h : k < xs.length) : (xs.map f).getD k e = f (xs.getD k d) := by
  rw [List.getD_eq_getElem?_getD, List.getD_eq_getElem?_getD, List.getElem?_map, List.getElem?_eq_getElem h]
  rfl
theorem cell_lit {s : List (List Int)} {h w : Nat} (S : Sh s h w) (c y x : Int) (hy : 0 ≤ y) (hyh : y < h) (hx : 0 ≤ x) (hxw : x < w) : cell (litL c s) y x = min (max (cell s y x + c) 0) 255 := by
  unfold cell litL
  have e : rw' (s.map fun r => r.map fun v => min (max (v + c) 0) 255) y = (rw' s y).map fun v => min (max (v + c) 0) 255 := by
    unfold rw'
    exact getD_map _ s y.toNat [] [] (by rw [S.len]; omega)
  rw [e]
  exact getD_map (fun v => min (max (v + c) 0) 255) _ x.toNat 0 0 (by rw [S.rlen hy hyh]; omega)
theorem mem_cell {s : List (List Int)} {h w : Nat} (S : Sh s h w) (y x : Int) (hy : 0 ≤ y) (hyh : y < h) (hx : 0 ≤ x) (hxw : x < w) : cell s y x ∈ rw' s y := by
  have : x.toNat < (rw' s y).length := by rw [S.rlen hy hyh]; omega
  unfold cell
  rw [List.getD_eq_getElem?_getD, List.getElem?_eq_getElem this]
  exact List.getElem_mem this
theorem steps_lit {a b : List (List Int)} {h w h' w' : Nat} (A : Sh a h w) (B : Sh b h' w') (c d p q : Int) (hc : 0 ≤ c) (hd : 0 ≤ d) (ha : ∀ r ∈ a, ∀ v ∈ r, v + c ≤ 255) (hb : ∀ r ∈ b, ∀ v ∈ r, v + d ≤ 255) :
    steps (litL c a) (litL d b) w h w' h' p q = (steps a b w h w' h' p q).map fun x => x + (c - d) := by
  unfold steps stepsG
  rw [List.map_flatMap]
  refine flatMap_congr' fun y hy => ?_
  have hy' := mem_rangeI.mp hy
  unfold stepRow
  rw [List.map_map]
  refine List.map_congr_left fun x hx => ?_
  have hx' := mem_rangeI.mp hx
  simp -implicitDefEqProofs only [Function.comp]
  have y1 : 0 ≤ y := by omega
  have y2 : y < h := by omega
  have y3 : 0 ≤ y - q := by omega
  have y4 : y - q < h' := by omega
  have x1 : 0 ≤ x := by omega
  have x2 : x < w := by omega
  have x3 : 0 ≤ x - p := by omega
  have x4 : x - p < w' := by omega
  rw [cell_lit A c y x y1 y2 x1 x2, cell_lit B d _ _ y3 y4 x3 x4]
  have m1 := ha _ (A.mem y1 y2) _ (mem_cell A y x y1 y2 x1 x2)
  have m2 := hb _ (B.mem y3 y4) _ (mem_cell B _ _ y3 y4 x3 x4)
  have n1 := cell_bd A y x
  have n2 := cell_bd B (y - q) (x - p)
  omega
theorem cell_mir {s : List (List Int)} {h w : Nat} (S : Sh s h w) (y x : Int) (hy : 0 ≤ y) (hyh : y < h) (hx : 0 ≤ x) (hxw : x < w) : cell (s.map List.reverse) y x = cell s y (w - 1 - x) := by
  unfold cell
  have e : rw' (s.map List.reverse) y = (rw' s y).reverse := by
    unfold rw'
    exact getD_map _ s y.toNat [] [] (by rw [S.len]; omega)
  have l := S.rlen hy hyh
  rw [e, List.getD_eq_getElem?_getD, List.getD_eq_getElem?_getD, List.getElem?_reverse (by rw [l]; omega), l]
  congr 2
  omega
theorem steps_mir {a b : List (List Int)} {h w h' w' : Nat} (A : Sh a h w) (B : Sh b h' w') (p q : Int) : (steps (a.map List.reverse) (b.map List.reverse) w h w' h' (w - w' - p) q).Perm (steps a b w h w' h' p q) := by
  unfold steps stepsG
  refine flatMap_perm fun y hy => ?_
  have hy' := mem_rangeI.mp hy
  have e : stepRow (a.map List.reverse) (b.map List.reverse) (w - w' - p) q (max 0 (w - w' - p)) (min (w : Int) (w - w' - p + w') - max 0 (w - w' - p)).toNat y = (stepRow a b p q (max 0 p) (min (w : Int) (p + w') - max 0 p).toNat y).reverse := by
    unfold stepRow
    have em : (min (w : Int) (w - w' - p + w') - max 0 (w - w' - p)).toNat = (min (w : Int) (p + w') - max 0 p).toNat := by omega
    by_cases hz : (min (w : Int) (p + w') - max 0 p).toNat = 0
    · rw [em, hz]
      rfl
    · have er : rangeI (max 0 p) (min (w : Int) (p + w') - max 0 p).toNat = ((rangeI (max 0 (w - w' - p)) (min (w : Int) (p + w') - max 0 p).toNat).map fun x => (w - 1 : Int) - x).reverse := by
        rw [rangeI_rev, List.reverse_reverse]
        congr 1
        omega
      rw [em, er, ← List.map_reverse, List.reverse_reverse, List.map_map]
      refine List.map_congr_left fun x hx => ?_
      have hx' := mem_rangeI.mp hx
      simp -implicitDefEqProofs only [Function.comp]
      rw [cell_mir A y x (by omega) (by omega) (by omega) (by omega), cell_mir B (y - q) (x - (w - w' - p)) (by omega) (by omega) (by omega) (by omega)]
      congr 2
      omega
  rw [e]
  exact List.reverse_perm _
theorem cell_cut {s : List (List Int)} {h w : Nat} (S : Sh s h w) (x y wide high : Nat) (hxw : x + wide ≤ w) (hyh : y + high ≤ h) (v u : Int) (hv : (y : Int) ≤ v) (hv2 : v < y + high) (hu : (x : Int) ≤ u) (hu2 : u < x + wide) : cell (cutS' s x y wide high) (v - y) (u - x) = cell s v u := by
  unfold cell
  have e : rw' (cutS' s x y wide high) (v - y) = ((rw' s v).drop x).take wide := by
    unfold rw' cutS'
    rw [getD_map (fun r : List Int => (r.drop x).take wide) _ (v - y).toNat [] [] (by rw [List.length_take, List.length_drop, S.len]; omega)]
    congr 2
    rw [List.getD_eq_getElem?_getD, List.getD_eq_getElem?_getD, List.getElem?_take_of_lt (by omega), List.getElem?_drop]
    congr 2
    omega
  rw [e, List.getD_eq_getElem?_getD, List.getD_eq_getElem?_getD, List.getElem?_take_of_lt (by omega), List.getElem?_drop]
  congr 2
  omega
theorem steps_cut {s : List (List Int)} {h w : Nat} (S : Sh s h w) (x y wide high : Nat) (hxw : x + wide ≤ w) (hyh : y + high ≤ h) : ∀ z ∈ steps s (cutS' s x y wide high) w h wide high x y, z = 0 := by
  intro z hz
  unfold steps stepsG at hz
  obtain ⟨v, hv, hz⟩ := List.mem_flatMap.mp hz
  unfold stepRow at hz
  obtain ⟨u, hu, rfl⟩ := List.mem_map.mp hz
  have hv' := mem_rangeI.mp hv
  have hu' := mem_rangeI.mp hu
  rw [cell_cut S x y wide high hxw hyh v u (by omega) (by omega) (by omega) (by omega)]
  omega
theorem unl_zero {L : List Int} (h : ∀ z ∈ L, z = 0) (hn : L ≠ []) (hl : L.length ≤ 144) : unl L = .tuple [.int 0, .int 1] := by
  have e1 : L.sum = 0 := by
    have := sum_bd 0 L fun x hx => by rw [h x hx]; omega
    omega
  have e2 : (L.map fun x => x * x).sum = 0 := by
    have := sum_bd 0 (L.map fun x => x * x) fun x hx => by
      obtain ⟨y, hy, rfl⟩ := List.mem_map.mp hx
      rw [h y hy]
      decide
    omega
  have hp : 0 < L.length := List.length_pos_iff.mpr hn
  have hb1 : 0 < (L.length : Int) * L.length := Int.mul_pos (by omega) (by omega)
  unfold unl
  rw [if_neg hn, e1, e2]
  have e3 : (L.length : Int) * 0 - 0 * 0 = 0 := by omega
  rw [e3]
  have e : ((Int.gcd 0 ((L.length : Int) * L.length) : Nat) : Int) = (L.length : Int) * L.length := by rw [Int.gcd_zero_left]; omega
  rw [e, Int.zero_ediv, Int.ediv_self (by omega)]
theorem steps_length (a b : List (List Int)) (w h w' h' p q : Int) : (steps a b w h w' h' p q).length = (min h (q + h') - max 0 q).toNat * (min w (p + w') - max 0 p).toNat := stepsG_length ..
theorem steps_ne {a b : List (List Int)} {w h w' h' p q : Int} (h1 : max 0 p < min w (p + w')) (h2 : max 0 q < min h (q + h')) : steps a b w h w' h' p q ≠ [] := fun z => by
  have := steps_length a b w h w' h' p q
  rw [z, List.length_nil] at this
  rcases Nat.mul_eq_zero.mp this.symm with z | z <;> omega
end VVlaw

set_option Elab.async false
set_option linter.all false
set_option maxRecDepth 100000
set_option maxHeartbeats 4000000
/-! VVm: try, except; what an except clause's suite says of its exception. -/
namespace VV
open PySem PySem.Spec L2
open PyProof.Rows hiding St

/-! ### expressions of a suite whose exception lies in slot i, at a -/
def tU (K : PySem.W.Frag) (a : Addr) (i : Nat) (f : EF) : TE := fun σ H Q => σ[i]? = some (some (.ref a)) ∧ ∃ L ρ, RE K H L ρ σ ∧ Post K WF L σ H (f ρ) Q
def tUT (K : PySem.W.Frag) (a : Addr) (i : Nat) (f : EF) : TT := fun σ H Q => σ[i]? = some (some (.ref a)) ∧ ∃ L ρ, RE K H L ρ σ ∧ PostT K WF L σ H (f ρ) Q
abbrev SU (X : Cx) (a : Addr) (i : Nat) (e : Expr) (f : EF) : Prop := PE X e (tU X.K a i f)
abbrev SUT (X : Cx) (a : Addr) (i : Nat) (e : Expr) (f : EF) : Prop := PT X e (tUT X.K a i f)
abbrev SUW (X : Cx) (a : Addr) (i : Nat) (e : Expr) (f : EF) : Prop := PW X e (tUT X.K a i f)
section
variable {X : Cx} {a : Addr} {i : Nat} {e b c : Expr} {rest : List Expr} {f g h : EF} {pos : Pos}
theorem su_e (h : SE X WF e f) : SU X a i e f := L2.PE.weak h fun σ H Q ⟨_, z⟩ => z
theorem su_one {op} (h : SU X a i e f) : SU X a i (.BoolOp op [e] pos) f := pe_one h
theorem su_and (ha : SU X a i e f) (hb : SU X a i (.BoolOp .And (b :: rest) pos) g) : SU X a i (.BoolOp .And (e :: b :: rest) pos) (eAnd f g) := (pe_andT ha hb).weak fun σ H Q ⟨hσ, L, ρ, re, p⟩ =>
  ⟨hσ, L, ρ, re, p.stepE fun d H1 v s1 r p1 => by
    cases e : tru d with
    | none => simp only [e] at p1; exact p1.elim
    | some k =>
      simp only [e] at p1
      refine ⟨k, r.rb.tru e, ?_⟩
      cases k with
      | true => rw [if_pos rfl]; exact ⟨hσ, L, ρ, re.mono s1, p1⟩
      | false => rw [if_neg Bool.false_ne_true]; exact p1 H1 v (Same.refl H1) r⟩
theorem su_not (ha : SU X a i e f) : SU X a i (.UnaryOp .Not e pos) (eNot f) := (pe_notT ha).weak fun σ H Q ⟨hσ, L, ρ, re, p⟩ =>
  ⟨hσ, L, ρ, re, p.stepE fun d H1 v s1 r p1 => by
    cases e : tru d with
    | none => simp only [e] at p1; exact p1.elim
    | some k => simp only [e] at p1; exact ⟨k, r.rb.tru e, p1 H1 _ (Same.refl H1) (.bl _)⟩⟩
theorem sut_tru (ha : SU X a i e f) (he : ∀ whole, isTrue e X.env whole = (do let v ← whole; standAt e.pos; holding [v] (truthy v)) := by intro _; rfl) : SUT X a i e (gTru f) := (pt_truth ha he).weak fun σ H Q ⟨hσ, L, ρ, re, p⟩ => by
  refine ⟨hσ, L, ρ, re, ?_⟩
  unfold gTru at p
  cases hf : f ρ with
  | bad => rw [hf] at p; exact p
  | exc c fs => rw [hf] at p; exact p
  | ok d =>
    rw [hf] at p
    simp only [Rs.bind_ok] at p
    intro H1 v s1 r
    have p1 := p.mono s1
    unfold truR at p1
    cases e : tru d with
    | none => simp only [e] at p1; exact p1.elim
    | some k => simp only [e] at p1; exact ⟨k, r.rb.tru e, p1 H1 (Same.refl H1)⟩
theorem sut_not (ha : SUT X a i e f) : SUT X a i (.UnaryOp .Not e pos) (gNot f) := (pt_not ha).weak fun σ H Q ⟨hσ, L, ρ, re, p⟩ =>
  ⟨hσ, L, ρ, re, p.stepT notR_bad fun b H1 s1 p1 => p1 H1 (Same.refl H1)⟩
theorem suw_and1 (ha : SUT X a i e f) : SUW X a i (.BoolOp .And [e] pos) f := pw_and1 ha
theorem suw_and (ha : SUT X a i e f) (hb : SUW X a i (.BoolOp .And (b :: rest) pos) g) : SUW X a i (.BoolOp .And (e :: b :: rest) pos) (gAnd f g) := (pw_and ha hb).weak fun σ H Q ⟨hσ, L, ρ, re, p⟩ =>
  ⟨hσ, L, ρ, re, p.stepT andR_bad fun b H1 s1 p1 => by
    cases b with
    | true => rw [if_pos rfl]; exact ⟨hσ, L, ρ, re.mono s1, p1⟩
    | false => rw [if_neg Bool.false_ne_true]; exact p1 H1 (Same.refl H1)⟩
theorem sut_w (h : SUW X a i e f) : SUT X a i e f := PW.pt h
theorem su_if (hc : SUT X a i c h) (ha : SU X a i e f) (hb : SU X a i b g) : SU X a i (.IfExp c e b pos) (eIf h f g) := (pe_ifExp hc ha hb).weak fun σ H Q ⟨hσ, L, ρ, re, p⟩ => by
  refine ⟨hσ, L, ρ, re, ?_⟩
  unfold eIf at p
  cases hr : h ρ with
  | bad => rw [hr] at p; exact p
  | exc c fs => rw [hr] at p; exact p
  | ok d =>
    rw [hr] at p
    cases d with
    | bool k =>
      intro H1 s1
      have p1 := p.mono s1
      cases k with
      | true => rw [if_pos rfl]; exact ⟨hσ, L, ρ, re.mono s1, p1⟩
      | false => rw [if_neg Bool.false_ne_true]; exact ⟨hσ, L, ρ, re.mono s1, p1⟩
    | _ => exact p
end
/-- isinstance(e, T) -/
theorem su_isi {X : Cx} {a D : Addr} {i : Nat} {oe : Obj} {pn : List (Addr × Obj)} {x T : Str} {C : Addr} {b : Bool} {p p1 p2 pos : Pos} (c : ExcC X.K D) (hz : Zc (.ref D) none oe) (hf : ∃ vs, oe.data = .fields vs) (hm : X.mg "isinstance" = none) (hT : X.mg T = some (.ref C))
    (hk : PySem.W.kitOne X.K (.ref D) (.ref C) = some b) (hN : X.N[i]? = some x := by rfl) (hv : Vis X.env.scope x := by first | exact Or.inl rfl | exact Or.inr (Or.inl rfl) | exact Or.inr (Or.inr rfl)) (hd : (x == ("__debug__" : Str)) = false := by decide) (hcd : (x == ("__classdict__" : Str)) = false := by decide)
    (hg : Gl X "isinstance" := by rfl) (hgT : Gl X T := by rfl) (hdT : (T == ("__debug__" : Str)) = false := by decide)
    (he : starEach [.Name x p1, .Name T p2] X.env = (false, eval (.Name x p1) X.env) :: starEach [.Name T p2] X.env := by rfl) (he2 : starEach [.Name T p2] X.env = (false, eval (.Name T p2) X.env) :: starEach [] X.env := by rfl) (hpl : (backTo pos (starEach [.Name T p2] X.env)).any (·.1) = false := by rfl) :
    SU (X.suite a ((a, oe) :: pn)) a i (.Call (.Name "isinstance" p) [.Name x p1, .Name T p2] [] pos) (eC (.bool b)) := by
  have h1 : PE (X.suite a ((a, oe) :: pn)) (.Name x p1) _ := pe_var (X := X.suite a ((a, oe) :: pn)) hN hv hd hcd
  have h2 : PE (X.suite a ((a, oe) :: pn)) (.Name T p2) _ := pe_glob (X := X.suite a ((a, oe) :: pn)) (v := .ref C) hgT hT rfl hdT
  refine (pe_callB (X := X.suite a ((a, oe) :: pn)) (call_isE c hz hf) hg hm (by decide +kernel) (pa_cons h1 (pa_cons h2 pa_nil he2) he) (by decide) (by decide) he hpl).weak fun σ H Q ⟨hσ, L, ρ, re, q⟩ => ?_
  exact ⟨.ref a, hσ, .ref C, .ref C, b, rfl, fun u r => r, hk, q H _ (Same.refl H) (.bl b)⟩
/-! ### statements of a suite -/
def tSU (K : PySem.W.Frag) (H0 : Hp) (Lo : Ad) (a : Addr) (i : Nat) (f : SF) : TS := fun D σ H => σ[i]? = some (some (.ref a)) ∧ ∃ ρ α, RSt K H0 Lo ρ α σ H ∧ PostS K H0 Lo WF H α (f ρ) D
abbrev SUs (X : Cx) (a : Addr) (i : Nat) (sts : List Stmt) (f : SF) : Prop := ∀ (H0 : Hp) (Lo : Ad), PSs X sts (tSU X.K H0 Lo a i f)
section
variable {X : Cx} {a : Addr} {i j : Nat} {e : Expr} {f : SF} {ef : EF} {pos : Pos} {sts : List Stmt}
theorem us_s (h : SSs X WF sts f) : SUs X a i sts f := fun H0 Lo => (h H0 Lo).weak fun D σ H ⟨_, z⟩ => z
theorem us_ret (he : SU X a i e ef) : SUs X a i [.Return (some e) pos] (sRet ef) := fun H0 Lo => (pss_one (ps_ret he)).weak fun D σ H ⟨hσ, ρ, α, rst, p⟩ =>
  ⟨hσ, _, ρ, rst.re, p.expr rst fun d H1 v s r rst1 p1 => p1 H1 v rst1.same (r.lives fun z q => .inl (.inl q))⟩
theorem us_app (j : Nat) {x : Str} {p apos cpos : Pos} (he : SU X a i e ef) (hN : X.N[j]? = some x := by rfl) (hv : Vis X.env.scope x := by first | exact Or.inl rfl | exact Or.inr (Or.inl rfl) | exact Or.inr (Or.inr rfl)) (hd : (x == ("__debug__" : Str)) = false := by decide)
    (hcd : (x == ("__classdict__" : Str)) = false := by decide) (hbase : attributeBase (.Name x p) "append" X.env (eval (.Name x p) X.env) = eval (.Name x p) X.env := by rfl)
    (hfew : ((backTo cpos (starEach (e :: []) X.env)).all (fun x => !x.1) && (backToKw cpos (keywordEach [] X.env)).all (fun x => x.1.isSome) && decide ((e :: []).length + ([] : List Keyword).length + (if ([] : List Keyword).isEmpty then 0 else 1) < 30)) = true := by rfl)
    (hline : (apos.endLine == cpos.line) = true := by rfl) (hs : starEach (e :: []) X.env = (false, eval e X.env) :: starEach [] X.env := by rfl) (hplain : (backTo cpos (starEach [] X.env)).any (·.1) = false := by rfl) :
    SUs X a i [.Expr (.Call (.Attribute (.Name x p) "append" apos) [e] [] cpos) pos] (sApp j ef) := fun H0 Lo =>
  (pss_one (ps_expr (pe_bm PySem.F.plainAttrs_list PySem.F.slot_list_append PySem.F.type_list_append mt_append (pe_var hN hv hd hcd) (pa_cons he pa_nil hs) hbase hfew hline hs hplain))).weak fun D σ H ⟨hσ, ρ, α, rst, p⟩ => by
  obtain ⟨ds, l, vs, h1, h2, h3, rl, p, hL⟩ := PostS.ownL rst p
  refine ⟨.ref l, h2, .inl ⟨rfl, vs, SqL.of h3⟩, hσ, _, ρ, rst.re, p.expr rst fun d H1 v s r rst1 p1 => ?_⟩
  split at p1
  · rename_i hz
    rw [rl.length] at hz
    refine ⟨l, vs, v, rfl, rfl, s _ _ h3, hz, ?_⟩
    have ow : Ow X.K (L2.upd H1 l (.lst (vs ++ [v]))) (Lv Lo α) (.list (ds ++ [d])) l := .lst upd_same (RpL.upd (s _ _ h3) trivial hL ((rl.mono s).append (.cons r .nil)))
    obtain ⟨q1, q2⟩ := rst1.write h1 h2 ow
    exact p1 _ _ _ q1 q2
  · exact p1.elim
end
/-! ### try -/
def Out.clr (i : Nat) : Out → Out
  | .nx ρ => .nx (ρ.set i none)
  | .rt d => .rt d
  | .bk ρ => .bk (ρ.set i none)
  | .ct ρ => .ct (ρ.set i none)
  | _ => .bad
/-- try: fb; except C as (slot i): fh. sub: what the class of the exception says of C -/
def sTryAs (i : Nat) (sub : Str → Option Bool) (fb : SF) (fh : Str → SF) : SF := fun ρ => match fb ρ with
  | .exc c fs ρ' => (match sub c with
    | some true => (match fs with
      | [] => (match ρ'[i]? with
        | some _ => Out.clr i (fh c (ρ'.set i none))
        | none => .bad)
      | _ => .bad)
    | some false => .exc c fs ρ'
    | none => .bad)
  | o => o
theorem RE.clr {K : PySem.W.Frag} {H : Hp} {L : Ad} {ρ : En} {σ : St} (i : Nat) (o : Option V) (re : RE K H L ρ σ) : RE K H L (ρ.set i none) (σ.set i o) := by
  have hl := re.len
  refine ⟨re.lv, by simp [hl], fun j x e => ?_⟩
  by_cases hj : i = j
  · subst hj
    by_cases hi : i < ρ.length
    · rw [List.getElem?_set_self hi] at e; cases e
    · rw [List.getElem?_eq_none (by simpa using hi)] at e; cases e
  · rw [List.getElem?_set_ne hj] at e
    obtain ⟨w, e1, r⟩ := re.sl j x e
    exact ⟨w, by rw [List.getElem?_set_ne hj]; exact e1, r⟩
theorem RSt.clr {K : PySem.W.Frag} {H0 H : Hp} {Lo : Ad} {ρ : En} {α : Nat → Option Addr} {σ : St} (i : Nat) (o : Option V) (h : RSt K H0 Lo ρ α σ H) : RSt K H0 Lo (ρ.set i none) (VV.rms α [i]) (σ.set i o) H := by
  refine h.ch (h.re.clr i o) ⟨by simp, by simp, fun j hj => ?_, fun j hj => ?_, fun j hj d' z => ?_, fun j hj d' z => ?_⟩
  · exact List.getElem?_set_ne (fun e => hj (by simp [e]))
  · exact List.getElem?_set_ne (fun e => hj (by simp [e]))
  all_goals
    have e : j = i := by simpa using hj
    subst e
    by_cases hi : j < ρ.length
    · rw [List.getElem?_set_self hi] at z
      cases z
    · rw [List.getElem?_eq_none (by simpa using hi)] at z
      cases z
section
variable {X : Cx} {W : WX} {x n : Str} {i : Nat} {body suite : List Stmt} {b₀ : Stmt} {np pos pos' : Pos} {fb : SF} {fh : Str → SF} {sub : Str → Option Bool}
theorem ss_tryAs (hN : X.N.Nodup) (tk : Takes X W) (hc : X.mg x = some (.ref (He.ga X.K x))) (hsub : ∀ c b, sub c = some b → PySem.W.exmOne X.K (.ref (He.ga X.K c)) (.ref (He.ga X.K x)) = some b)
    (hb : ∀ (W : WX) (pn : List (Addr × Obj)) (xe : Value → Shared → Prop), Takes (X.tr pn xe) W → PassesOwn (model X.prog X.w) X.A X.env xe → SSs (X.tr pn xe) W body fb)
    (hsu : ∀ (c : Str) (a : Addr) (oe : Obj) (pn : List (Addr × Obj)), sub c = some true → Zc (.ref (He.ga X.K c)) none oe → (∃ vs, oe.data = .fields vs) → SUs (X.suite a ((a, oe) :: pn)) a i (b₀ :: suite) (fh c))
    (hi : X.N[i]? = some n := by rfl) (hln : X.env.kindOf n = some .local := by rfl) (hg : Gl X x := by rfl) (hdb : (x == ("__debug__" : Str)) = false := by decide) (hs : X.stack = X.env :: X.outer := by rfl) (hf : X.env.frame = some X.env.locals := by rfl) :
    SS X W (.Try body [.ExceptHandler (some (.Name x np)) (some n) (b₀ :: suite) pos'] [] [] pos) (sTryAs i sub fb fh) := fun H0 Lo => by
  refine (ps_try_as (tb := fun W => tS X.K H0 Lo W fb) (ts := fun a cls d D σ H => ∃ c, cls = .ref (He.ga X.K c) ∧ sub c = some true ∧ d = none ∧ tSU X.K H0 Lo a i (fh c) D σ H) hs hf hN hi hln ⟨hg, hdb, .inl hc⟩ tk (fun W pn xe tk' hp => hb W pn xe tk' hp H0 Lo) ?_).weak fun D σ H ⟨ρ, α, rst, p⟩ => ⟨ρ, α, rst, ?_⟩
  · intro a oe cls d pn hz hfs
    refine ⟨fun pins s σ H D I ⟨c, ec, hsc, ed, q⟩ => ?_⟩
    subst ec ed
    exact (hsu c a oe pn hsc hz hfs H0 Lo).run pins s σ H D I q
  · have hlen : σ.length = X.N.length ∨ True := .inr trivial
    unfold sTryAs at p
    cases hfb : fb ρ with
    | nx ρ' => rw [hfb] at p; exact p
    | rt d => rw [hfb] at p; exact p
    | bk ρ' => rw [hfb] at p; exact p
    | ct ρ' => rw [hfb] at p; exact p
    | bad => rw [hfb] at p; exact p
    | exc c fs ρ' =>
      rw [hfb] at p
      intro α' σ' H' xo rst' ev xr
      cases hsc : sub c with
      | none => simp only [hsc] at p; exact p.elim
      | some b =>
        simp only [hsc] at p
        refine ⟨b, hsub c b hsc, fun hbt a ha => ?_, fun hbf => ?_⟩
        · subst hbt
          cases fs with
          | cons q fs => exact p.elim
          | nil =>
            dsimp only at p
            cases hri : ρ'[i]? with
            | none => rw [hri] at p; exact p.elim
            | some zz =>
            rw [hri] at p
            dsimp only at p
            have hlt : i < σ'.length := by
              rw [← rst'.re.len]
              rcases Nat.lt_or_ge i ρ'.length with q | q
              · exact q
              · rw [List.getElem?_eq_none q] at hri; cases hri
            have ex : xo = none := by
              rcases xr with ⟨_, e⟩ | ⟨_, _, ne, _⟩
              · exact e
              · exact absurd rfl ne
            subst ex
            refine ⟨c, rfl, hsc, rfl, ?_, ρ'.set i none, _, rst'.clr i (some (.ref a)), ?_⟩
            · exact List.getElem?_set_self hlt
            · have ev' : Evo X.K Lo H α H' (VV.rms α' [i]) := ev.trans (Evo.rms [i])
              cases hfh : fh c (ρ'.set i none) with
              | nx ρ2 =>
                rw [hfh] at p
                intro α2 σ2 H2 r2 e2
                exact p _ _ _ (r2.clr i none) (ev'.trans (e2.trans (Evo.rms [i])))
              | rt d => rw [hfh] at p; exact p
              | bk ρ2 =>
                rw [hfh] at p
                intro α2 σ2 H2 r2 e2
                exact p _ _ _ (r2.clr i none) (ev'.trans (e2.trans (Evo.rms [i])))
              | ct ρ2 =>
                rw [hfh] at p
                intro α2 σ2 H2 r2 e2
                exact p _ _ _ (r2.clr i none) (ev'.trans (e2.trans (Evo.rms [i])))
              | exc c2 fs2 ρ2 => rw [hfh] at p; exact p.elim
              | bad => rw [hfh] at p; exact p.elim
        · subst hbf
          exact p α' σ' H' xo rst' ev xr
end
end VV

set_option Elab.async false
set_option linter.all false
set_option maxRecDepth 100000
set_option maxHeartbeats 4000000
/-! VVn: the head's facts with what isinstance asks of error classes; an except clause without a name. -/
namespace VV
open PySem PySem.Spec L2
open PyProof.Rows hiding St
def excB (K : PySem.W.Frag) (x : Str) : Bool :=
  He.eqO (PySem.W.findIn K (.ref (He.ga K x)) "__getattribute__") (some (some (.builtin "BaseException.__getattribute__"))) && (He.eqO (PySem.W.findIn K (.ref (He.ga K x)) "__getattr__") (some none) &&
    (decide (PySem.W.subIn K (.ref (He.ga K x)) (.type "BaseException") = some true) && (PySem.W.hasDictIn K (He.ga K x) && (He.eqO (PySem.W.findIn K (.ref (He.ga K x)) "__class__") (some (some (.builtin "object.__class__"))) &&
      (He.eqO (PySem.W.specialIn K (.builtin "object.__class__") "__get__") (some (some (.builtin "getset_descriptor.__get__"))) && (decide (PySem.W.takesIn K (.builtin "object.__class__") = some true) && decide (PySem.W.mroIn K (He.ga K x) (.type "object") = some true)))))))
theorem excB_ok {K : PySem.W.Frag} {x : Str} (h : excB K x = true) : ExcC K (He.ga K x) := by
  unfold excB at h
  obtain ⟨h1, h2, h3, h4, h5, h6, h7, h8⟩ := by simpa only [Bool.and_eq_true] using h
  exact ⟨He.eqO_ok h1, He.eqO_ok h2, of_decide_eq_true h3, h4, He.eqO_ok h5, He.eqO_ok h6, of_decide_eq_true h7, of_decide_eq_true h8⟩
theorem kit_of {K : PySem.W.Frag} {a b : Addr} {v : Bool} (h : PySem.W.exmOne K (.ref a) (.ref b) = some v) (h0 : PySem.W.exmOne K (.ref a) (.ref a) = some true) : PySem.W.kitOne K (.ref a) (.ref b) = some v := by
  unfold PySem.W.kitOne
  by_cases e : ((Value.ref a) == (Value.ref b)) = true
  · have e2 : a = b := Value.ref.inj (beq_iff_eq.mp e)
    subst e2
    rw [h0] at h
    rw [if_pos e, h]
  · rw [if_neg e]
    unfold PySem.W.exmOne at h
    split at h
    · exact h
    · cases h
abbrev AlV : Type := He.AlD × Bool
def obsVG (n : Nat) (fa : List He.Fa) (fn : List He.DefD) (xs : List Str) (g : Addr → Option Obj) : AlV := (He.obsD fa fn (He.frG g (He.asD g n)), xs.all (excB (He.frG g (He.asD g n))))
def hookV (n : Nat) (fa : List He.Fa) (fn : List He.DefD) (xs : List Str) : PySem.W.Hook where
  α := AlV
  obs := fun s => obsVG n fa fn xs s.heap.get?
  val := fun _ => (He.valD fn, true)
  says := fun _ h => ∃ K : PySem.W.Frag, K.In h ∧ (He.SaysD fa fn K ∧ ∀ x ∈ xs, ExcC K (He.ga K x))
  of := fun _ _ e => ⟨_, He.frG_in, congrArg (fun z : AlV => z.1) e, fun x hx => excB_ok (List.all_eq_true.mp (congrArg (fun z : AlV => z.2) e) x hx)⟩
  keeps := fun _ _ _ told kept => told.elim fun K h => ⟨K, PySem.W.Frag.In.keeps h.1 kept, h.2⟩
theorem obsVG_eq {n : Nat} {fa : List He.Fa} {fn : List He.DefD} {xs : List Str} {g : Addr → Option Obj} {s : Shared} (h : ∀ a, g a = s.heap.get? a) : obsVG n fa fn xs g = (hookV n fa fn xs).obs s := by
  obtain rfl : g = s.heap.get? := funext h
  rfl
/-! ### except C: suite -/
def Out.suf : Out → Out
  | .exc _ _ _ => .bad
  | o => o
def sTry1 (sub : Str → Option Bool) (fb fh : SF) : SF := fun ρ => match fb ρ with
  | .exc c fs ρ' => (match sub c with
    | some true => Out.suf (fh ρ')
    | some false => .exc c fs ρ'
    | none => .bad)
  | o => o
section
variable {X : Cx} {W : WX} {x : Str} {body suite : List Stmt} {b₀ : Stmt} {np pos pos' : Pos} {fb fh : SF} {sub : Str → Option Bool}
theorem ss_try1 (tk : Takes X W) (hc : X.mg x = some (.ref (He.ga X.K x))) (hsub : ∀ c b, sub c = some b → PySem.W.exmOne X.K (.ref (He.ga X.K c)) (.ref (He.ga X.K x)) = some b)
    (hb : ∀ (W : WX) (pn : List (Addr × Obj)) (xe : Value → Shared → Prop), Takes (X.tr pn xe) W → PassesOwn (model X.prog X.w) X.A X.env xe → SSs (X.tr pn xe) W body fb)
    (hsu : ∀ (a : Addr) (oe : Obj) (pn : List (Addr × Obj)), SSs (X.suite a ((a, oe) :: pn)) WF (b₀ :: suite) fh)
    (hg : Gl X x := by rfl) (hdb : (x == ("__debug__" : Str)) = false := by decide) (hs : X.stack = X.env :: X.outer := by rfl) (hf : X.env.frame = some X.env.locals := by rfl) :
    SS X W (.Try body [.ExceptHandler (some (.Name x np)) none (b₀ :: suite) pos'] [] [] pos) (sTry1 sub fb fh) := fun H0 Lo => by
  refine (ps_try_many (tb := fun W => tS X.K H0 Lo W fb) (l := [(.ref (He.ga X.K x), fun a cls d => tS X.K H0 Lo WF fh)]) hs hf tk (fun W pn xe tk' hp => hb W pn xe tk' hp H0 Lo)
    (HdsOk.cons ⟨hg, hdb, .inl hc⟩ (fun a oe cls d pn _ _ => hsu a oe pn H0 Lo) .nil)).weak fun D σ H ⟨ρ, α, rst, p⟩ => ⟨ρ, α, rst, ?_⟩
  unfold sTry1 at p
  cases hfb : fb ρ with
  | nx ρ' => rw [hfb] at p; exact p
  | rt d => rw [hfb] at p; exact p
  | bk ρ' => rw [hfb] at p; exact p
  | ct ρ' => rw [hfb] at p; exact p
  | bad => rw [hfb] at p; exact p
  | exc c fs ρ' =>
    rw [hfb] at p
    intro α' σ' H' xo rst' ev xr
    cases hsc : sub c with
    | none => simp only [hsc] at p; exact p.elim
    | some b =>
      simp only [hsc] at p
      refine ⟨b, hsub c b hsc, fun hbt a ha => ?_, fun hbf => ?_⟩
      · subst hbt
        refine ⟨ρ', α', rst', ?_⟩
        have p2 := PostS.evo p ev
        cases hfh : fh ρ' with
        | exc c2 fs2 ρ2 => rw [hfh] at p2; exact p2.elim
        | nx ρ2 => rw [hfh] at p2; exact p2
        | rt d => rw [hfh] at p2; exact p2
        | bk ρ2 => rw [hfh] at p2; exact p2
        | ct ρ2 => rw [hfh] at p2; exact p2
        | bad => rw [hfh] at p2; exact p2
      · subst hbf
        exact p α' σ' H' xo rst' ev xr
end
end VV

set_option Elab.async false
set_option linter.all false
set_option maxRecDepth 100000
set_option maxHeartbeats 4000000
/-! VVo: code that is never come to; len(set(xs)) of ints. -/
namespace VV
open PySem PySem.Spec L2
open PyProof.Rows hiding St
def sBad : SF := fun _ => .bad
def eBad : EF := fun _ => .bad
section
variable {X : Cx} {W : WX}
theorem ss_never {sts : List Stmt} : SSs X W sts sBad := fun H0 Lo => pss_never.weak fun D σ H ⟨ρ, α, rst, p⟩ => p
theorem se_never {e : Expr} : SE X W e eBad := ⟨fun pins s σ H Q I ⟨L, ρ, re, p⟩ => p.elim⟩
/-- how many different ones -/
def metI (ns : List Int) : List Int := PyProof.Rows.firstMet (fun i => ns.getD i 0) ns.length
def lenSetF : D → Option D
  | .list ds => (intsOf ds).bind fun ns => if ns.length ≤ 4000 then some (.int (metI ns).length) else none
  | _ => none
/-- set(xs) of a list of ints: a new set object -/
def rSetOf (K : PySem.W.Frag) : List V → Hp → VK → Prop := fun vs H Q => ∃ (l : Addr) (ns : List Int), vs = [.ref l] ∧ SqL K H l (ns.map V.int) ∧ ns.length ≤ 4000 ∧ ∀ p, H p = none → Q (.ref p) (upd H p (.set (fun k => (metI ns).any (· == k)) (metI ns).length))
theorem cr_setOf (hc : X.calm = true) : CallR X (.type "set") (rSetOf X.K) := by
  rintro pn s σ H _ _ Q inv vals ⟨l, ns, rfl, lies, short, go⟩
  obtain rfl := Vals.ref1 vals
  obtain ⟨its, rel, isl, _⟩ := inv.list lies
  have many : its.toArray.size = ns.length := (List.size_toArray ..).trans (rel.length.symm.trans (List.length_map ..))
  have few : its.toArray.size + 1 < scanBound := by
    rw [many]
    unfold scanBound
    omega
  apply call_set_list (inv.ok.hd hc) isl.isList (ns := ns) (by simpa using rel.ints) few
  intro h' tk made old
  rw [many] at made
  have keep : ∀ b u, s.heap.get? b = some u → h'.get? b = some u := fun b u e => old b u (Heap.lt_size e) e
  exact ⟨.ref _, _, inv.laid (o := .set _ _) keep (Nat.le_refl _) made, rfl, go _ (inv.hok.fresh (Nat.le_refl _))⟩
/-- len of such a set -/
def rLenOf : List V → Hp → VK → Prop := fun vs H Q => ∃ (p : Addr) (S : Int → Bool) (n : Nat), vs = [.ref p] ∧ H p = some (.set S n) ∧ Q (.int n) H
theorem cr_lenOf : CallR X (.builtin "len") rLenOf := by
  rintro pn s σ H _ _ Q inv vals ⟨p, S, n, rfl, lies, go⟩
  obtain rfl := Vals.ref1 vals
  obtain ⟨ob, es, ep, tb, got, exact_, data, _, _, small, fit, size⟩ := (inv.hok p _ lies : s.heap.SetOf (intKind X.prog X.w) p S n)
  have most : (es.size : Int) < 2 ^ 63 := by
    unfold scanBound at small
    omega
  subst size
  exact call_len_set got exact_ data fit most ⟨.int es.size, H, inv.tok _, ⟨_, rfl⟩, go⟩
theorem se_lenSet {a : Expr} {f : EF} {p p2 q pos : Pos} (hm : X.mg "len" = none) (hm2 : X.mg "set" = none) (ha : SB X W a f) (hg : Gl X "len" := by rfl) (hg2 : Gl X "set" := by rfl) (hc : X.calm = true := by rfl)
    (na : starEach [a] X.env = (false, eval a X.env) :: starEach [] X.env := by rfl) : SE X W (.Call (.Name "len" p) [.Call (.Name "set" p2) [a] [] q] [] pos) (eUn lenSetF f) := by
  have inner := pe_callTy (p := p2) (pos := q) (cr_setOf (X := X) hc) hg2 hm2 (by decide +kernel) (pa_cons ha pa_nil na) (he := na)
  have key := pe_callB (p := p) (pos := pos) (cr_lenOf (X := X)) hg hm (by decide +kernel) (pa_cons inner pa_nil rfl)
  refine key.weak fun σ H Q ⟨L, ρ, re, p⟩ => ⟨L, ρ, re, p.step fun dx H1 x s1 rx p1 => ?_⟩
  cases dx with
  | list ds =>
    obtain ⟨a, vs, rfl, ha, rl⟩ := rx.lstV
    unfold lenSetF at p1
    dsimp only at p1
    cases hi : intsOf ds with
    | none => rw [hi] at p1; exact p1.elim
    | some ns =>
      rw [hi] at p1
      simp only [Option.bind_some] at p1
      have ed := intsOf_eq hi
      subst ed
      have ev := rl.ints
      subst ev
      split at p1
      · rename_i hz
        exact ⟨a, ns, rfl, SqL.of ha, hz, fun q hq => ⟨q, _, _, rfl, upd_same, p1 _ _ (same_upd hq) (.int _)⟩⟩
      · exact p1.elim
  | _ => exact p1.elim
end
end VV

set_option Elab.async false
set_option linter.all false
set_option maxRecDepth 100000
set_option maxHeartbeats 4000000
/-! VVp: dicts: d[k], d.get(k, x), k in d, d[k] = v. -/
namespace VV
open PySem PySem.Spec L2
open PyProof.Rows hiding St

def dgetP (ps : List (D × D)) (k : D) : Option D := (ps.find? fun q => PyData.eqv q.1 k).map (·.2)
def dputP (ps : List (D × D)) (k v : D) : List (D × D) := if (ps.any fun q => PyData.eqv q.1 k) = true then ps.map (fun q => if PyData.eqv q.1 k = true then (q.1, v) else q) else ps ++ [(k, v)]
def isKeyD : D → Bool
  | .int _ => true
  | .str _ => true
  | _ => false
def isKeyT : D → Bool
  | .tuple ds => ds.all isKeyD
  | _ => false
theorem keyD_eqv (a b : Key) : PyData.eqv (keyD a) (keyD b) = decide (a = b) := by
  rcases a with i | x <;> rcases b with j | y
  · simp only [keyD, PyData.eqv]
    by_cases h : i = j <;> simp [h]
  · rfl
  · rfl
  · simp only [keyD, PyData.eqv]
    by_cases h : x = y
    · simp [h]
    · simp [h]
theorem keyT_eqv : ∀ (a b : List Key), PyData.eqvAll (a.map keyD) (b.map keyD) = decide (a = b)
  | [], [] => rfl
  | [], b :: bs => by simp [PyData.eqvAll]
  | a :: as, [] => by simp [PyData.eqvAll]
  | a :: as, b :: bs => by
    simp only [List.map_cons, PyData.eqvAll, keyD_eqv, keyT_eqv as bs]
    by_cases h : a = b <;> by_cases g : as = bs <;> simp [h, g]
section
variable {κ : Type} [DecidableEq κ] {emb : κ → D} {K : PySem.W.Frag} {H : Hp} {L : Ad}
theorem dget_rel (hemb : ∀ a b, PyData.eqv (emb a) (emb b) = decide (a = b)) (k : κ) : ∀ {kvs : List (κ × V)} {ps : List (D × D)}, ps.map (·.1) = kvs.map (fun q => emb q.1) → RpL K H L (ps.map (·.2)) (kvs.map (·.2)) →
    (∀ d, dgetP ps (emb k) = some d → ∃ v, valV kvs k = some v ∧ Rp K H L d v) ∧ (dgetP ps (emb k) = none → valV kvs k = none)
  | [], [], _, _ => ⟨fun d h => (by cases h), fun _ => rfl⟩
  | [], _ :: _, h, _ => nomatch h
  | _ :: _, [], h, _ => nomatch h
  | q :: kvs, p :: ps, h, r => by
    simp only [List.cons.injEq, List.map_cons] at h
    rw [List.map_cons, List.map_cons] at r
    cases r with
    | cons r rl =>
      have ih := dget_rel hemb k h.2 rl
      by_cases e : q.1 = k
      · have e1 : PyData.eqv p.1 (emb k) = true := by rw [h.1, hemb, e]; simp
        have e2 : dgetP (p :: ps) (emb k) = some p.2 := by simp [dgetP, List.find?_cons, e1]
        rw [e2]
        refine ⟨fun d hd => ?_, fun hn => by cases hn⟩
        cases hd
        exact ⟨q.2, valV_pos e, r⟩
      · have e1 : PyData.eqv p.1 (emb k) = false := by rw [h.1, hemb]; simp [e]
        have e2 : dgetP (p :: ps) (emb k) = dgetP ps (emb k) := by simp [dgetP, List.find?_cons, e1]
        rw [e2, valV_neg e]
        exact ih
theorem dany_rel (hemb : ∀ a b, PyData.eqv (emb a) (emb b) = decide (a = b)) (k : κ) : ∀ {kvs : List (κ × V)} {ps : List (D × D)}, ps.map (·.1) = kvs.map (fun q => emb q.1) → (ps.any fun q => PyData.eqv q.1 (emb k)) = kvs.any fun q => decide (q.1 = k)
  | [], [], _ => rfl
  | [], _ :: _, h => nomatch h
  | _ :: _, [], h => nomatch h
  | q :: kvs, p :: ps, h => by
    simp only [List.cons.injEq, List.map_cons] at h
    rw [List.any_cons, List.any_cons, h.1, hemb, dany_rel hemb k h.2]
theorem dput_rel (hemb : ∀ a b, PyData.eqv (emb a) (emb b) = decide (a = b)) (k : κ) {d : D} {v : V} (rv : Rp K H L d v) {kvs : List (κ × V)} {ps : List (D × D)} (h : ps.map (·.1) = kvs.map (fun q => emb q.1)) (r : RpL K H L (ps.map (·.2)) (kvs.map (·.2))) :
    (dputP ps (emb k) d).map (·.1) = (putK kvs k v).map (fun q => emb q.1) ∧ RpL K H L ((dputP ps (emb k) d).map (·.2)) ((putK kvs k v).map (·.2)) := by
  unfold dputP putK
  rw [dany_rel hemb k h]
  by_cases c : (kvs.any fun kv => decide (kv.1 = k)) = true
  · rw [if_pos c, if_pos c]
    clear c
    induction kvs generalizing ps with
    | nil =>
      cases ps with
      | nil => exact ⟨rfl, .nil⟩
      | cons p ps => simp at h
    | cons q kvs ih =>
      cases ps with
      | nil => simp at h
      | cons p ps =>
        simp only [List.cons.injEq, List.map_cons] at h
        rw [List.map_cons, List.map_cons] at r
        cases r with
        | cons r rl =>
          obtain ⟨i1, i2⟩ := ih h.2 rl
          simp only [List.map_cons]
          by_cases e : q.1 = k
          · have e1 : PyData.eqv p.1 (emb k) = true := by rw [h.1, hemb, e]; simp
            rw [if_pos e1, if_pos e]
            exact ⟨by rw [i1]; simp [h.1], .cons rv i2⟩
          · have e1 : ¬ PyData.eqv p.1 (emb k) = true := by rw [h.1, hemb]; simp [e]
            rw [if_neg e1, if_neg e]
            exact ⟨by rw [i1]; simp [h.1], .cons r i2⟩
  · rw [if_neg c, if_neg c]
    refine ⟨by simp [h], ?_⟩
    simp only [List.map_append, List.map_cons, List.map_nil]
    exact RpL.append r (.cons rv .nil)
end
section
variable {K : PySem.W.Frag} {H : Hp} {L : Ad}
theorem Rb.keyV {k : D} {v : V} (h : Rb K H L k v) (hk : isKeyD k = true) : ∃ key, k = keyD key ∧ v = kV key := by
  cases k with
  | int i => exact ⟨.inl i, rfl, h.intV⟩
  | str x => exact ⟨.inr x, rfl, h.strV⟩
  | _ => cases hk
theorem RpL.keysV : ∀ {ds : List D} {vs : List V}, RpL K H L ds vs → ds.all isKeyD = true → ∃ ks : List Key, ds = ks.map keyD ∧ vs = ks.map kV
  | [], _, .nil, _ => ⟨[], rfl, rfl⟩
  | d :: ds, v :: vs, .cons r rl, h => by
    simp only [List.all_cons, Bool.and_eq_true] at h
    obtain ⟨k, e1, e2⟩ := r.rb.keyV h.1
    obtain ⟨ks, e3, e4⟩ := rl.keysV h.2
    exact ⟨k :: ks, by rw [e1, e3]; rfl, by rw [e2, e4]; rfl⟩
theorem Rb.keyTV {k : D} {v : V} (h : Rb K H L k v) (hk : isKeyT k = true) : ∃ (ks : List Key) (b : Addr), k = .tuple (ks.map keyD) ∧ v = .ref b ∧ H b = some (.tup (ks.map kV)) := by
  cases k with
  | tuple ds =>
    obtain ⟨b, vs, rfl, hb, rl⟩ := h.tupV
    obtain ⟨ks, e1, e2⟩ := rl.keysV hk
    subst e1 e2
    exact ⟨ks, b, rfl, rfl, hb⟩
  | _ => cases hk
/-- a dict of tuples, a dict of ints and texts, by their data -/
def splitD : List (D × D) → Bool × List (D × D)
  | (.none, .none) :: ps => (true, ps)
  | ps => (false, ps)
theorem splitD_dk {ps : List (D × D)} {kvs : List (Key × V)} (z : ps.map (·.1) = kvs.map (fun q => keyD q.1)) : splitD ps = (false, ps) := by
  unfold splitD
  split
  · cases kvs with
    | nil => simp at z
    | cons q r =>
      simp only [List.map_cons, List.cons.injEq] at z
      obtain ⟨z, _⟩ := z
      obtain ⟨qk, qv⟩ := q
      cases qk <;> cases z
  · rfl
/-- what the dict says at a key: none if the key or the dict is not of the kind -/
def dAt : D → D → Option (Option D)
  | .dict ps, k => if (asRd (.dict ps)).isSome then none else
    match splitD ps with
    | (true, qs) => if isKeyT k = true then some (dgetP qs k) else none
    | (false, qs) => if isKeyD k = true then some (dgetP qs k) else none
  | _, _ => none
theorem dAt_ok {d k : D} {v y : V} {r : Option D} (hd : Rb K H L d v) (hk : Rb K H L k y) (h : dAt d k = some r) : ∃ a o, v = .ref a ∧ IsD H a ∧ DGet H a y o ∧ (∀ x, r = some x → ∃ u, o = some u ∧ Rp K H L x u) ∧ (r = none → o = none) := by
  cases d with
  | dict ps =>
    unfold dAt at h
    dsimp only at h
    cases hr : asRd (.dict ps) with
    | some z => rw [hr] at h; cases h
    | none =>
      rw [hr] at h
      obtain ⟨a, rfl, ow⟩ := hd.dictV hr
      simp only [Option.isSome_none] at h
      cases ow with
      | dk ha z rl =>
        rw [splitD_dk z] at h
        simp only [if_false, Bool.false_eq_true] at h
        split at h
        · rename_i hkk
          obtain ⟨key, rfl, rfl⟩ := hk.keyV hkk
          cases h
          obtain ⟨g1, g2⟩ := dget_rel keyD_eqv key z rl
          exact ⟨a, _, rfl, .inl ⟨_, .inl ha⟩, DGet.k ha, fun x hx => g1 x hx, fun hx => g2 hx⟩
        · cases h
      | dt ha z rl =>
        simp only [splitD, Bool.false_eq_true, if_false] at h
        split at h
        · rename_i hkk
          obtain ⟨ks, b, rfl, rfl, hb⟩ := hk.keyTV hkk
          cases h
          obtain ⟨g1, g2⟩ := dget_rel (emb := fun k : List Key => PyData.tuple (k.map keyD)) (fun a b => by simp only [PyData.eqv]; exact keyT_eqv a b) ks z rl
          exact ⟨a, _, rfl, .inr ⟨_, .inl ha⟩, DGet.t ha hb, fun x hx => g1 x hx, fun hx => g2 hx⟩
        · cases h
  | _ => cases h
end
def dixF : D → D → Option D := fun d k => (dAt d k).bind id
def dinF : D → D → Option D := fun k d => (dAt d k).map fun r => .bool r.isSome
def dninF : D → D → Option D := fun k d => (dAt d k).map fun r => .bool (!r.isSome)
theorem dinF_b {x y d : D} (h : dinF x y = some d) : ∃ b, d = .bool b := by
  unfold dinF at h
  obtain ⟨r, _, rfl⟩ := Option.map_eq_some_iff.mp h
  exact ⟨_, rfl⟩
theorem dninF_b {x y d : D} (h : dninF x y = some d) : ∃ b, d = .bool b := by
  unfold dninF at h
  obtain ⟨r, _, rfl⟩ := Option.map_eq_some_iff.mp h
  exact ⟨_, rfl⟩
def isDk : D → Bool
  | .dict ps => !(asRd (.dict ps)).isSome
  | _ => false
/-- d.get(k, x) -/
def eGet2 (f g h : EF) : EF := fun ρ => (f ρ).bind fun d => if isDk d = true then (g ρ).bind fun k => (h ρ).bind fun x => match dAt d k with
  | some r => .ok (r.getD x)
  | none => .bad
  else .bad
section
variable {X : Cx} {W : WX} {o i e f' : Expr} {f g h : EF} {pos apos cpos : Pos} {k : Nat}
theorem se_dix (hr : Room k X.A) (ho : SB X W o f) (hi : SB X W i g) (hs : NoSl i := by intro _ _; rfl) : SE X W (.Subscript o i pos) (eOp dixF f g) := (pe_dget (by have := hr.un; omega) ho hi hs).weak fun σ H Q ⟨L, ρ, re, p⟩ =>
  ⟨L, ρ, re, p.step fun dx H1 x s1 rx p1 => ⟨L, ρ, re.mono s1, p1.step fun dy H2 y s2 ry p2 => by
    unfold dixF at p2
    cases hd : dAt dx dy with
    | none => rw [hd] at p2; exact p2.elim
    | some r =>
      rw [hd] at p2
      obtain ⟨a, ov, rfl, _, g, q1, q2⟩ := dAt_ok (rx.mono s2) ry hd
      cases r with
      | none => exact p2.elim
      | some z =>
        obtain ⟨u, rfl, ru⟩ := q1 z rfl
        exact ⟨a, u, rfl, g, p2 H2 u (Same.refl H2) ru⟩⟩⟩
theorem se_din (hr : Room k X.A) (hi : SB X W i g) (ho : SB X W o f) (hm : behindInMarks .In o = false := by rfl) : SE X W (.Compare i [.In] [o] pos) (eOp dinF g f) := (pe_cmp (pc_din (by have := hr.un; omega) hi ho) hm).weak fun σ H Q ⟨L, ρ, re, p⟩ =>
  ⟨L, ρ, re, p.step fun dy H1 y s1 ry p1 => ⟨L, ρ, re.mono s1, p1.step fun dx H2 x s2 rx p2 => by
    unfold dinF at p2
    cases hd : dAt dx dy with
    | none => rw [hd] at p2; exact p2.elim
    | some r =>
      rw [hd] at p2
      obtain ⟨a, ov, rfl, _, g, q1, q2⟩ := dAt_ok rx (ry.mono s2) hd
      have e : ov.isSome = r.isSome := by
        cases r with
        | none => rw [q2 rfl]; rfl
        | some z => obtain ⟨u, rfl, _⟩ := q1 z rfl; rfl
      refine ⟨a, ov, rfl, g, p2 H2 _ (Same.refl H2) ?_⟩
      rw [e]
      exact .bl _⟩⟩
theorem se_dnin (hr : Room k X.A) (hi : SB X W i g) (ho : SB X W o f) (hm : behindInMarks .NotIn o = false := by rfl) : SE X W (.Compare i [.NotIn] [o] pos) (eOp dninF g f) := (pe_cmp (pc_dnotin (by have := hr.un; omega) hi ho) hm).weak fun σ H Q ⟨L, ρ, re, p⟩ =>
  ⟨L, ρ, re, p.step fun dy H1 y s1 ry p1 => ⟨L, ρ, re.mono s1, p1.step fun dx H2 x s2 rx p2 => by
    unfold dninF at p2
    cases hd : dAt dx dy with
    | none => rw [hd] at p2; exact p2.elim
    | some r =>
      rw [hd] at p2
      obtain ⟨a, ov, rfl, _, g, q1, q2⟩ := dAt_ok rx (ry.mono s2) hd
      have e : ov.isSome = r.isSome := by
        cases r with
        | none => rw [q2 rfl]; rfl
        | some z => obtain ⟨u, rfl, _⟩ := q1 z rfl; rfl
      refine ⟨a, ov, rfl, g, p2 H2 _ (Same.refl H2) ?_⟩
      rw [e]
      exact .bl _⟩⟩
theorem isDk_ok {K : PySem.W.Frag} {H : Hp} {L : Ad} {d : D} {v : V} (h : Rb K H L d v) (hk : isDk d = true) : ∃ a, v = .ref a ∧ IsD H a := by
  cases d with
  | dict ps =>
    unfold isDk at hk
    dsimp only at hk
    cases hr : asRd (.dict ps) with
    | some z => rw [hr] at hk; cases hk
    | none =>
      obtain ⟨a, rfl, ow⟩ := h.dictV hr
      cases ow with
      | dk ha z rl => exact ⟨a, rfl, .inl ⟨_, .inl ha⟩⟩
      | dt ha z rl => exact ⟨a, rfl, .inr ⟨_, .inl ha⟩⟩
  | _ => cases hk
theorem se_get2 (hr : Room k X.A) (ho : SB X W o f) (he : SB X W e g) (hf : SE X W f' h) (m : M2 X o "get" apos e f' cpos := by exact ⟨rfl, rfl, rfl, rfl⟩) : SE X W (.Call (.Attribute o "get" apos) [e, f'] [] cpos) (eGet2 f g h) :=
  (pe_dget2 (by have := hr.un; omega) ho he hf m).weak fun σ H Q ⟨L, ρ, re, p⟩ =>
  ⟨L, ρ, re, p.step fun dx H1 x s1 rx p1 => by
    split at p1
    · rename_i hdk
      obtain ⟨a, rfl, isd⟩ := isDk_ok rx hdk
      refine ⟨a, rfl, isd, L, ρ, re.mono s1, p1.step fun dy H2 y s2 ry p2 => ⟨L, ρ, re.mono (s1.trans s2), p2.stepE fun dz H3 z s3 rz p3 => ?_⟩⟩
      cases hd : dAt dx dy with
      | none => simp only [hd] at p3; exact p3.elim
      | some r =>
        simp only [hd] at p3
        obtain ⟨a', ov, ea, _, g, q1, q2⟩ := dAt_ok (rx.mono (s2.trans s3)) (ry.mono s3) hd
        cases ea
        refine ⟨ov, g, ?_⟩
        cases r with
        | none => rw [q2 rfl]; exact p3 H3 z (Same.refl H3) rz
        | some w => obtain ⟨u, rfl, ru⟩ := q1 w rfl; exact p3 H3 u (Same.refl H3) ru
    · exact p1.elim⟩
end
/-! ### d[k] = v -/
def dPut : D → D → D → Option D
  | .dict ps, k, v => if (asRd (.dict ps)).isSome then none else
    match splitD ps with
    | (true, qs) => if (isKeyT k && decide (qs.length < sizeLine)) = true then some (.dict ((.none, .none) :: dputP qs k v)) else none
    | (false, qs) => if (isKeyD k && decide (qs.length < sizeLine)) = true then some (.dict (dputP qs k v)) else none
  | _, _, _ => none
def ownD (ρ : En) (i : Nat) (k : D → Out) : Out := match ρ[i]? with
  | some (some (.own d)) => k d
  | _ => .bad
def sPutD (i : Nat) (fk fv : EF) : SF := fun ρ => (fv ρ).out ρ fun v => ownD ρ i fun d => (fk ρ).out ρ fun k => match dPut d k v with
  | some d' => .nx (ρ.set i (some (.own d')))
  | none => .bad
section
variable {X : Cx} {W : WX} {a e : Expr} {ef eg : EF} {pos : Pos} {k : Nat}
theorem ss_putD (i : Nat) {x : Str} {p tp : Pos} (hr : Room k X.A) (hk : SB X W a ef) (he : SE X W e eg) (hN : X.N[i]? = some x := by rfl) (hv : Vis X.env.scope x := by first | exact Or.inl rfl | exact Or.inr (Or.inl rfl) | exact Or.inr (Or.inr rfl)) (hd : (x == ("__debug__" : Str)) = false := by decide)
    (hcd : (x == ("__classdict__" : Str)) = false := by decide) (hs : swapsWith e (some (.Subscript (.Name x p) a tp)) pos.line X.env = pure false := by rfl) :
    SS X W (.Assign [.Subscript (.Name x p) a tp] e pos) (sPutD i ef eg) := fun H0 Lo => (ps_dput (by have := hr.un; omega) (pe_var hN hv hd hcd) hk he hs).weak fun D σ H ⟨ρ, α, rst, p⟩ => by
  refine ⟨_, ρ, rst.re, p.expr rst fun dv H1 v s r rst1 p1 => ?_⟩
  unfold ownD at p1
  cases hi : ρ[i]? with
  | none => simp only [hi] at p1; exact p1.elim
  | some q =>
    cases q with
    | none => simp only [hi] at p1; exact p1.elim
    | some q =>
      cases q with
      | val d => simp only [hi] at p1; exact p1.elim
      | grid _ => simp only [hi] at p1; exact p1.elim
      | own d =>
        simp only [hi] at p1
        obtain ⟨b, e1, e2, ob⟩ := rst1.own i d hi
        refine ⟨.ref b, e2, _, ρ, rst1.re, p1.exprB rst1 fun dk H2 y s2 rk rst2 p3 => ?_⟩
        have ob2 := ob.mono s2
        have hL : Lv Lo α b := .inr ⟨i, e1⟩
        have rv := r.mono s2
        cases hp : dPut d dk dv with
        | none => simp only [hp] at p3; exact p3.elim
        | some d' =>
          simp only [hp] at p3
          cases ob2 with
          | lst ha rl => cases hp
          | @dk _ kvs ps ha z rl =>
            unfold dPut at hp
            dsimp only at hp
            split at hp
            · cases hp
            · rw [splitD_dk z] at hp
              simp only at hp
              split at hp
              · rename_i hc
                simp only [Bool.and_eq_true, decide_eq_true_eq] at hc
                obtain ⟨key, rfl, rfl⟩ := rk.keyV hc.1
                cases hp
                have hl : kvs.length < sizeLine := by
                  have := congrArg List.length z
                  rw [List.length_map, List.length_map] at this
                  rw [← this]
                  exact hc.2
                refine ⟨b, _, rfl, DPut.k ha hl, ?_⟩
                obtain ⟨g1, g2⟩ := dput_rel keyD_eqv key (RpL.upd ha trivial hL (.cons rv .nil) |> fun q => match q with | .cons q _ => q) z (rl.upd ha trivial hL (o' := .dK (putK kvs key v)))
                obtain ⟨w1, w2⟩ := rst2.write (d' := .dict (dputP ps (keyD key) dv)) (o' := .dK (putK kvs key v)) hi e2 (.dk upd_same g1 g2)
                exact p3 α σ _ w1 w2
              · cases hp
          | @dt _ kvs ps ha z rl =>
            unfold dPut at hp
            dsimp only at hp
            split at hp
            · cases hp
            · simp only [splitD] at hp
              split at hp
              · rename_i hc
                simp only [Bool.and_eq_true, decide_eq_true_eq] at hc
                obtain ⟨ks, c, rfl, rfl, hcb⟩ := rk.keyTV hc.1
                cases hp
                have hl : kvs.length < sizeLine := by
                  have := congrArg List.length z
                  rw [List.length_map, List.length_map] at this
                  rw [← this]
                  exact hc.2
                refine ⟨b, _, rfl, DPut.t ha hcb hl, ?_⟩
                obtain ⟨g1, g2⟩ := dput_rel (emb := fun k : List Key => PyData.tuple (k.map keyD)) (fun a b => by simp only [PyData.eqv]; exact keyT_eqv a b) ks (RpL.upd ha trivial hL (.cons rv .nil) |> fun q => match q with | .cons q _ => q) z (rl.upd ha trivial hL (o' := .dT (putK kvs ks v)))
                obtain ⟨w1, w2⟩ := rst2.write (d' := .dict ((.none, .none) :: dputP ps (.tuple (ks.map keyD)) dv)) (o' := .dT (putK kvs ks v)) hi e2 (.dt upd_same g1 g2)
                exact p3 α σ _ w1 w2
              · cases hp
end
end VV

set_option Elab.async false
set_option linter.all false
set_option maxRecDepth 100000
set_option maxHeartbeats 4000000
/-! VVq: sorted(d.items()), ints to ints. -/
namespace VV
open PySem PySem.Spec L2
open PyProof.Rows hiding St
def encP (b : Int × Int) : D := .tuple [.int b.1, .int b.2]
def leP (p q : Int × Int) : Bool := decide (p.1 < q.1 ∨ (p.1 = q.1 ∧ p.2 ≤ q.2))
theorem leP_eq : PySem.W.dataLe false encP = leP := PySem.W.dataLe_ii (fun b : Int × Int => b.1) (fun b => b.2)
def entI (b : Int × Int) : Key × V := (Sum.inl b.1, V.int b.2)
/-- the tuple of two ints -/
def PairAt (h : Heap) (a : Addr) (b : Int × Int) : Prop := ∃ t u, h.get? a = some { cls := .type "tuple", data := .seq #[Value.int b.1 t, Value.int b.2 u] }
section
variable {X : Cx}
def rItemsK : V → List V → Hp → VK → Prop := fun x xs H Q => ∃ (a : Addr) (kvs : List (Key × V)), x = .ref a ∧ xs = [] ∧ H a = some (.dK kvs) ∧ ∀ p, H p = none → Q (.ref p) (upd H p (L2.DX.itemsO p a))
theorem mt_itemsK : MtR X "dict.items" rItemsK := by
  rintro pn s σ H _ _ _ _ Q inv rx rxs ⟨a, kvs, rfl, rfl, lies, go⟩
  cases rx
  cases rxs
  obtain ⟨_, plain, _, _, ob, es, ep, got, isd, dat, _⟩ := dk_of inv.hok lies
  apply DT.callItems plain ⟨ob, got, isd, dat⟩
  have new := inv.laid (t' := s.toks) (fun b u e => Heap.get?_push_of_some _ e) (Nat.le_refl _) (L2.DX.itemsO_ok (d := a) (Heap.get?_push_size _ rfl))
  exact ⟨.ref _, _, new, rfl, go _ (inv.hok.fresh (Nat.le_refl _))⟩
theorem pairs_at {P : Program} {w : World} : ∀ {es : List DictEntry} {vs : List (Key × Value)} {prs : List (Int × Int)}, Pairs (mixKind P w) es vs → KV (prs.map entI) vs → ∀ (j : Nat) (e : DictEntry), es[j]? = some e → ∃ b t u, prs[j]? = some b ∧ e.key = Value.int b.1 t ∧ e.val = Value.int b.2 u
  | [], _, _, _, _, j, e, h => by simp at h
  | e0 :: es, _, [], .cons _ _ _, r, j, e, h => by
    unfold KV at r
    rw [List.map_nil] at r
    cases r
  | e0 :: es, v0 :: vs, b :: prs, .cons h1 h2 hr, r, j, e, h => by
    unfold KV at r
    rw [List.map_cons] at r
    cases r with
    | cons r1 rr =>
      cases j with
      | zero =>
        have e1 : e0 = e := by simpa using h
        subst e1
        obtain ⟨k1, k2⟩ := r1
        have kk : v0.1 = Sum.inl b.1 := k1.symm
        rw [kk] at h1
        obtain ⟨u, hu⟩ := (show ∃ t, v0.2 = Value.int b.2 t from k2)
        rcases keyIs_shape (show keyIs (Sum.inl b.1) e0.key = true from h1) with ⟨i, t, ei, ek⟩ | ⟨x, t, ei, ek⟩
        · cases ei
          exact ⟨b, t, u, rfl, ek, h2.trans hu⟩
        · cases ei
      | succ j =>
        obtain ⟨b', t, u, q1, q2, q3⟩ := pairs_at hr rr j e (by simpa using h)
        exact ⟨b', t, u, by simpa using q1, q2, q3⟩
theorem each_of {h' : Heap} {as : List Addr} {prs : List (Int × Int)} (hl : as.length = prs.length) (hp : ∀ (j : Nat) (a : Addr), as[j]? = some a → ∃ b, prs[j]? = some b ∧ PairAt h' a b) : PySem.W.EachIs (fun v b => ∃ a, v = Value.ref a ∧ a ∈ as ∧ PairAt h' a b) (as.map Value.ref) prs := by
  have aux : ∀ (cs : List Addr) (qs : List (Int × Int)), cs.length = qs.length → (∀ c ∈ cs, c ∈ as) → (∀ (j : Nat) (a : Addr), cs[j]? = some a → ∃ b, qs[j]? = some b ∧ PairAt h' a b) → PySem.W.EachIs (fun v b => ∃ a, v = Value.ref a ∧ a ∈ as ∧ PairAt h' a b) (cs.map Value.ref) qs := by
    intro cs
    induction cs with
    | nil =>
      intro qs hl _ _
      cases qs with
      | nil => exact .nil
      | cons _ _ => simp at hl
    | cons c cs ih =>
      intro qs hl hm hp
      cases qs with
      | nil => simp at hl
      | cons q qs =>
        obtain ⟨b, e1, e2⟩ := hp 0 c rfl
        have eb : q = b := by simpa using e1
        subst eb
        exact .cons ⟨c, rfl, hm c (by simp), e2⟩ (ih qs (by simpa using hl) (fun x hx => hm x (by simp [hx])) fun j a hj => by
          obtain ⟨b, q1, q2⟩ := hp (j + 1) a (by simpa using hj)
          exact ⟨b, by simpa using q1, q2⟩)
  exact aux as prs hl (fun c hc => hc) hp
theorem each_zip {β : Type} {R : Value → β → Prop} {P : Addr → β → Prop} (hR : ∀ v b, R v b → ∃ a, v = Value.ref a ∧ P a b) : ∀ {out : List Value} {bs : List β}, PySem.W.EachIs R out bs → ∃ zs : List (Addr × β), out = zs.map (fun z => Value.ref z.1) ∧ zs.map (·.2) = bs ∧ ∀ z ∈ zs, P z.1 z.2
  | [], [], .nil => ⟨[], rfl, rfl, by simp⟩
  | v :: out, b :: bs, .cons r rr => by
    obtain ⟨a, e, p⟩ := hR v b r
    obtain ⟨zs, e1, e2, e3⟩ := each_zip hR rr
    refine ⟨(a, b) :: zs, by rw [e, e1]; rfl, by rw [← e2]; rfl, fun z mem => ?_⟩
    cases mem with
    | head => exact p
    | tail _ mem => exact e3 z mem
theorem vals_refs {β : Type} : ∀ zs : List (Addr × β), Vals (zs.map fun z => V.ref z.1) (zs.map fun z => Value.ref z.1)
  | [] => .nil
  | z :: zs => .cons rfl (vals_refs zs)
theorem depthP (b : Int × Int) : (encP b).depth = 1 := by simp [encP, PyData.depth, PyData.depthAll]
theorem alikeP {bs : List (Int × Int)} : PySem.W.AllAlike (bs.map encP) := by
  have pair : ∀ d ∈ bs.map encP, ∃ i j, d = .tuple [.int i, .int j] := fun d m => (List.mem_map.mp m).elim fun b h => ⟨b.1, b.2, h.2.symm⟩
  intro d m d' m'
  obtain ⟨i, j, rfl⟩ := pair d m
  obtain ⟨i', j', rfl⟩ := pair d' m'
  simp [PySem.W.alike, PySem.W.alikeAll]
theorem pair_inj {a b c d : Int} {t u t' u' : Tok} (h : some ({ cls := .type "tuple", data := .seq #[Value.int a t, Value.int b u] } : Obj) = some { cls := .type "tuple", data := .seq #[Value.int c t', Value.int d u'] }) : a = c ∧ b = d := by
  have h1 := Option.some.inj h
  have h2 : Data.seq #[Value.int a t, Value.int b u] = Data.seq #[Value.int c t', Value.int d u'] := congrArg Obj.data h1
  simp at h2
  exact ⟨h2.1.1, h2.2.1⟩
/-- a new list, not tracked yet, is sorted; then it may be tracked -/
theorem sort_new {β : Type} {enc : β → D} {R : Value → β → Prop} {us : List Value} {bs : List β} {pn : List (Addr × Obj)} {σ : St} {H : Hp} {s : Shared} {g : Heap} {tk : Nat} {l : Addr} {Q : Value → Shared → Prop} (inv : Inv X pn σ H s)
    (keep : ∀ b u, s.heap.get? b = some u → g.get? b = some u) (high : s.heap.objs.size ≤ l) (ob : g.get? l = some (seqObj "list" us.toArray 0)) (items : PySem.W.EachIs R us bs)
    (reads : PySem.W.EachIs (fun v b => ∃ as, Reads g v (enc b) as ∧ l ∉ as) us bs) (al : PySem.W.AllAlike (bs.map enc)) (so : PySem.W.Sortable (bs.map enc)) (len : bs.length ≤ sizeLine) (deep : ∀ b, b ∈ bs → X.A.in1.units + 1 + (enc b).depth < cLine)
    (go : ∀ (out : List Value) (g' : Heap), PySem.W.EachIs R out (bs.mergeSort (PySem.W.dataLe false enc)) → (∀ b u, b ≠ l → g.get? b = some u → g'.get? b = some u) →
      (∀ vs, Vals vs out → Inv X pn σ (upd H l (.lst vs)) { s with heap := g', toks := tk }) → Q .none { s with heap := g', toks := tk }) :
    wpAny (model X.prog X.w) X.A.in1 (call (.builtin "list.sort") [.ref l]) Q X.xe { s with heap := g, toks := tk } := by
  apply PySem.W.list_sort_data (s := { s with heap := g, toks := tk }) (R := R) (enc := enc) ob items reads al so len deep
  intro out many sorted
  have free : H l = none := inv.hok.fresh high
  have rest : ∀ b u, b ≠ l → g.get? b = some u → (sortedHeap g l us out.toArray).get? b = some u := fun b u ne e => (PyProof.Rows.sortedHeap_old ne (Heap.lt_size e)).trans e
  obtain ⟨n, at_⟩ := PyProof.Rows.sortedHeap_at (vs := us) (out := out.toArray) ob
  apply go out _ sorted rest
  intro vs rel
  generalize sortedHeap g l us out.toArray = g' at rest at_ ⊢
  have old : ∀ b u, s.heap.get? b = some u → g'.get? b = some u := fun b u e => rest b u (fun z => absurd (Heap.lt_size (z ▸ e)) (Nat.not_lt.mpr high)) (keep b u e)
  have fits : vs.length ≤ sizeLine := by rw [rel.length, many]; exact len
  exact (inv.kept (t' := tk) old).take (o := .lst vs) (fun _ _ _ e => e) (inv.fpOk high free) ⟨fits, out, n, rel, at_⟩
def rSortII : List V → Hp → VK → Prop := fun vs H Q => ∃ (p a : Addr) (prs : List (Int × Int)), vs = [.ref p] ∧ H p = some (L2.DX.itemsO p a) ∧ H a = some (.dK (prs.map entI)) ∧
  ∀ (H' : Hp) (l : Addr) (zs : List (Addr × (Int × Int))), Same H H' → H l = none → zs.map (·.2) = prs.mergeSort leP → H' l = some (.lst (zs.map fun z => V.ref z.1)) → (∀ z ∈ zs, H' z.1 = some (.tup [.int z.2.1, .int z.2.2])) → Q (.ref l) H'
theorem pairs_len {P : Program} {w : World} : ∀ {es : List DictEntry} {vs : List (Key × Value)}, Pairs (mixKind P w) es vs → es.length = vs.length
  | _, _, .nil => rfl
  | _, _, .cons _ _ r => congrArg (· + 1) (pairs_len r)
theorem cr_sortedII (hc : X.calm = true) (hu : X.A.units + 64 < cLine) : CallR X (.builtin "sorted") rSortII := by
  rintro pn s σ H _ _ Q inv vals ⟨p, a, prs, rfl, hp, ha, go⟩
  obtain rfl := Vals.ref1 vals
  have view : s.heap.IsItemsView p a := (show ObjOk X.prog X.w H s.heap p (L2.DX.itemsO p a) from inv.hok p _ hp).1
  obtain ⟨most, _, vs', rel, ob, es, ep, got, isd, dat, _, ents, _⟩ := dk_of inv.hok ha
  rw [List.length_map] at most
  have many : es.size = prs.length := by
    rw [← Array.length_toList, pairs_len ents, ← rel.length, List.length_map]
  refine DT.sortedI (es := es) (ep := ep) (inv.ok.hd hc) view ⟨ob, got, isd, dat⟩ (many ▸ most) ?_
  intro g tk as keep grown la made
  have each : ∀ (j : Nat) (b : Addr), as[j]? = some b → ∃ e, prs[j]? = some e ∧ PairAt g b e := fun j b hj => by
    obtain ⟨en, h1, h2⟩ := made.pairs j b hj
    obtain ⟨e, t, u, q1, q2, q3⟩ := pairs_at ents rel j en (Array.getElem?_toList ▸ h1)
    exact ⟨e, q1, t, u, q2 ▸ q3 ▸ h2⟩
  have items := each_of (la.trans many) each
  have lies : (g.push { cls := .type "list", data := .seq (as.map Value.ref).toArray }).get? g.objs.size = some (seqObj "list" (as.map Value.ref).toArray 0) := Heap.get?_push_size _ rfl
  have up : ∀ b u, g.get? b = some u → (g.push { cls := .type "list", data := .seq (as.map Value.ref).toArray }).get? b = some u := fun b u e => Heap.get?_push_of_some _ e
  generalize g.push { cls := .type "list", data := .seq (as.map Value.ref).toArray } = g2 at lies up ⊢
  have free : H g.objs.size = none := inv.hok.fresh (Nat.le_of_lt grown)
  refine sort_new (enc := encP) inv (fun b u e => up b u (keep b u e)) (Nat.le_of_lt grown) lies items (items.mono ?_) alikeP (PySem.W.Sortable.tuples fun b => ⟨_, _, rfl⟩) most ?_ ?_
  · rintro v b ⟨c, rfl, _, t, u, e⟩
    exact ⟨[], Reads.tuple (as := []) (up _ _ e) rfl rfl (ReadsAll.cons (as := []) (bs := []) (.int _ _) (ReadsAll.cons (as := []) (bs := []) (.int _ _) .nil)), by simp⟩
  · intro b _
    rw [depthP]
    show X.A.units + 1 + 1 + 1 < cLine
    omega
  intro out g' srt rest lay
  rw [leP_eq] at srt
  obtain ⟨zs, rfl, order, there⟩ := each_zip (P := fun c b => c ∈ as ∧ PairAt g c b) (fun _ _ z => z) srt
  have base := lay _ (vals_refs zs)
  have tup : ∀ c ∈ as, s.heap.objs.size ≤ c ∧ upd H g.objs.size (.lst (zs.map fun z => V.ref z.1)) c = none ∧ ∃ ws, (∃ e : Int × Int, ws = [.int e.1, .int e.2] ∧ PairAt g c e) ∧ ∀ H3, ObjOk X.prog X.w H3 g' c (.tup ws) := fun c mem => by
    obtain ⟨j, hj⟩ := List.mem_iff_getElem?.mp mem
    obtain ⟨e, _, t, u, at_⟩ := each j c hj
    have ne : c ≠ g.objs.size := Nat.ne_of_lt (Heap.lt_size at_)
    have high : s.heap.objs.size ≤ c := Nat.le_of_lt (made.above c mem)
    refine ⟨high, (upd_ne ne).trans (inv.hok.fresh high), [.int e.1, .int e.2], ⟨e, rfl, t, u, at_⟩, fun _ => ⟨by rw [sizeLine_eq]; simp, [Value.int e.1 t, Value.int e.2 u], .cons ⟨t, rfl⟩ (.cons ⟨u, rfl⟩ .nil), ?_⟩⟩
    exact ⟨_, rest c _ ne (up c _ at_), rfl, 0, rfl⟩
  obtain ⟨H2, inv2, grow, tups⟩ := L2.DX.takeT inv as _ base (made.rise.imp fun z => Nat.ne_of_lt z) tup
  refine ⟨.ref _, H2, inv2, rfl, go H2 _ zs (fun b o e => grow b o ((upd_ne (ne_of_none e free)).trans e)) free order (grow _ _ upd_same) ?_⟩
  intro z mem
  obtain ⟨m, t, u, at_⟩ := there z mem
  obtain ⟨_, ⟨e, rfl, t', u', at2⟩, hH⟩ := tups z.1 m
  have same := pair_inj (at_.symm.trans at2)
  rw [hH, same.1, same.2]
end
end VV

set_option Elab.async false
set_option linter.all false
set_option maxRecDepth 100000
set_option maxHeartbeats 4000000
/-! VVr: the expression sorted(d.items()). -/
namespace VV
open PySem PySem.Spec L2
open PyProof.Rows hiding St
def intPairs : List (D × D) → Option (List (Int × Int))
  | [] => some []
  | (.int k, .int v) :: r => (intPairs r).map fun q => (k, v) :: q
  | _ => none
theorem intPairs_eq : ∀ {ps : List (D × D)} {prs : List (Int × Int)}, intPairs ps = some prs → ps = prs.map fun b => (PyData.int b.1, PyData.int b.2)
  | [], prs, h => by cases h; rfl
  | p :: ps, prs, h => by
    unfold intPairs at h
    split at h
    · rename_i e
      cases e
    · rename_i e
      obtain ⟨q, hq, rfl⟩ := Option.map_eq_some_iff.mp h
      cases e
      rw [intPairs_eq hq]
      rfl
    · cases h
def sortItF : D → Option D
  | .dict ps => (intPairs ps).map fun prs => .list ((prs.mergeSort leP).map encP)
  | _ => none
section
variable {X : Cx} {W : WX} {o : Expr} {f : EF} {p apos cpos pos : Pos} {k : Nat}
theorem kvs_of {K : PySem.W.Frag} {H : Hp} {L : Ad} : ∀ {prs : List (Int × Int)} {kvs : List (Key × V)}, (prs.map fun b => (PyData.int b.1, PyData.int b.2)).map (·.1) = kvs.map (fun q => keyD q.1) → RpL K H L ((prs.map fun b => (PyData.int b.1, PyData.int b.2)).map (·.2)) (kvs.map (·.2)) → kvs = prs.map entI
  | [], [], _, _ => rfl
  | [], q :: r, h, _ => by simp at h
  | b :: prs, [], h, _ => by simp at h
  | b :: prs, q :: kvs, h, r => by
    simp only [List.cons.injEq, List.map_cons] at h
    rw [List.map_cons, List.map_cons] at r
    cases r with
    | cons r rl =>
      have e1 : q = entI b := by
        obtain ⟨qk, qv⟩ := q
        have e2 : qv = V.int b.2 := r.intV
        subst e2
        cases qk with
        | inl i => have : b.1 = i := by injection h.1; 
                   rw [← this]; rfl
        | inr x => cases h.1
      rw [e1, kvs_of h.2 rl]
      rfl
theorem sn_sortedItems (hr : Room k X.A) (hm : X.mg "sorted" = none) (ho : SB X W o f) (hg : Gl X "sorted" := by rfl) (hc : X.calm = true := by rfl) (hbase : attributeBase o "items" X.env (eval o X.env) = eval o X.env := by rfl) (hline : (apos.endLine == cpos.line) = true := by rfl)
    (he : starEach [.Call (.Attribute o "items" apos) [] [] cpos] X.env = (false, eval (.Call (.Attribute o "items" apos) [] [] cpos) X.env) :: starEach [] X.env := by rfl) (hpl : (backTo pos (starEach [] X.env)).any (·.1) = false := by rfl) :
    SN X W (.Call (.Name "sorted" p) [.Call (.Attribute o "items" apos) [] [] cpos] [] pos) (eUn sortItF f) := by
  have hu := hr.un
  have h1 := pe_bm0 (apos := apos) (cpos := cpos) PySem.F.plainAttrs_dict PySem.F.slot_dict_items PySem.F.type_dict_items (mt_itemsK (X := X)) ho hbase hline
  refine (pe_callB (cr_sortedII hc (by omega)) hg hm (by decide +kernel) (pa_cons h1 pa_nil he) (by decide) (by decide) he hpl).weak fun σ H Q ⟨L, ρ, re, p⟩ => ?_
  refine ⟨L, ρ, re, p.stepB fun dx H1 x s1 rx p1 => ?_⟩
  cases dx with
  | dict ps =>
    cases hi : intPairs ps with
    | none => unfold sortItF at p1; dsimp only at p1; rw [hi] at p1; exact p1.elim
    | some prs =>
      unfold sortItF at p1
      dsimp only at p1
      rw [hi] at p1
      simp only [Option.map_some, Rs.of_some] at p1
      have ep := intPairs_eq hi
      subst ep
      have hrd : asRd (.dict (prs.map fun b => (PyData.int b.1, PyData.int b.2))) = none := by
        cases prs with
        | nil => rfl
        | cons b r => rfl
      obtain ⟨a, rfl, ow⟩ := rx.dictV hrd
      generalize hz : (prs.map fun b => (PyData.int b.1, PyData.int b.2)) = zz at ow hi p1
      cases ow with
      | dt _ _ _ => cases prs with
        | nil => cases hz
        | cons b r => cases hz
      | dk ha z rl =>
        subst hz
        have ek := kvs_of z rl
        subst ek
        refine ⟨.inr (.inr (.inl ⟨rfl, .inl ⟨_, ha⟩⟩)), a, _, rfl, rfl, ha, fun q hq => ?_⟩
        have na : a ≠ q := fun e => by subst e; rw [ha] at hq; cases hq
        refine ⟨q, a, prs, rfl, upd_same, by rw [upd_ne na]; exact ha, fun H' l zs sm hl hzs hH hz => ?_⟩
        have lq : l ≠ q := fun e => by subst e; rw [upd_same] at hl; cases hl
        rw [upd_ne lq] at hl
        refine p1 H' l ((same_upd hq).trans sm) hl (.lst hH ?_)
        rw [← hzs]
        clear hzs hH
        induction zs with
        | nil => exact .nil
        | cons z zs ih =>
          exact .cons (.tup (hz z (by simp)) (.cons (.int _) (.cons (.int _) .nil))) (ih fun y hy => hz y (by simp [hy]))
  | _ => exact p1.elim
end
end VV

set_option Elab.async false
set_option linter.all false
set_option maxRecDepth 100000
set_option maxHeartbeats 4000000
/-! VVs: sorted of a list of data, of a dict's keys. -/
namespace VV
open PySem PySem.Spec L2
open PyProof.Rows hiding St
def isTupC : D → Bool
  | .tuple (_ :: _) => true
  | _ => false
def notNT : D → Bool
  | .none => false
  | .tuple _ => false
  | _ => true
/-- what list.sort can sort -/
def okSort (ds : List D) : Bool := ds.all (fun d => ds.all fun e => PySem.W.alike d e) && (ds.all isTupC || ds.all notNT) && ds.all (fun d => d.canLay0 && decide (d.depth ≤ 50))
def sortD (ds : List D) : List D := ds.mergeSort (PySem.W.dataLe false fun d : D => d)
structure OkSort (ds : List D) : Prop where
  al : PySem.W.AllAlike ds
  so : PySem.W.Sortable ds
  lay : ∀ d ∈ ds, d.canLay0 = true
  deep : ∀ d ∈ ds, d.depth ≤ 50
theorem okSort_ok {ds : List D} (h : okSort ds = true) : OkSort ds := by
  unfold okSort at h
  rw [Bool.and_eq_true, Bool.and_eq_true] at h
  obtain ⟨⟨h1, h2⟩, h3⟩ := h
  refine ⟨fun d m e m' => ?_, ?_, fun d m => ?_, fun d m => ?_⟩
  · exact List.all_eq_true.mp (List.all_eq_true.mp h1 d m) e m'
  · rcases Bool.or_eq_true _ _ |>.mp h2 with z | z
    · refine .inl fun d m => ?_
      have := List.all_eq_true.mp z d m
      unfold isTupC at this
      split at this
      · exact ⟨_, _, rfl⟩
      · cases this
    · refine .inr fun d m => ?_
      have := List.all_eq_true.mp z d m
      cases d <;> simp_all [notNT]
  · have := List.all_eq_true.mp h3 d m
    rw [Bool.and_eq_true] at this
    exact this.1
  · have := List.all_eq_true.mp h3 d m
    rw [Bool.and_eq_true] at this
    exact of_decide_eq_true this.2
section
variable {X : Cx} {K : PySem.W.Frag} {H : Hp} {L : Ad}
/-- a value with what it stands for -/
abbrev VD := V × D
def RVD (K : PySem.W.Frag) (H : Hp) (L : Ad) (u : Value) (b : VD) : Prop := RelV b.1 u ∧ Rp K H L b.2 b.1
theorem each_vd : ∀ {ds : List D} {vs : List V} {us : List Value}, RpL K H L ds vs → Vals vs us → PySem.W.EachIs (RVD K H L) us (vs.zip ds)
  | _, _, _, .nil, .nil => .nil
  | _, _, _, .cons r rl, .cons v vl => .cons ⟨v, r⟩ (each_vd rl vl)
theorem zip_snd : ∀ {ds : List D} {vs : List V}, RpL K H L ds vs → (vs.zip ds).map (·.2) = ds
  | _, _, .nil => rfl
  | _, _, .cons _ rl => by rw [List.zip_cons_cons, List.map_cons, zip_snd rl]
theorem each_back : ∀ {us : List Value} {bs : List VD}, PySem.W.EachIs (RVD K H L) us bs → Vals (bs.map (·.1)) us ∧ RpL K H L (bs.map (·.2)) (bs.map (·.1))
  | _, _, .nil => ⟨.nil, .nil⟩
  | _, _, .cons r rl => ⟨.cons r.1 (each_back rl).1, .cons r.2 (each_back rl).2⟩
theorem sort_snd (bs : List VD) : (bs.mergeSort (PySem.W.dataLe false (·.2))).map (·.2) = sortD (bs.map (·.2)) := List.map_mergeSort fun _ _ _ _ => rfl
theorem each_mem {β : Type} {R : Value → β → Prop} : ∀ {us : List Value} {bs : List β}, PySem.W.EachIs R us bs → PySem.W.EachIs (fun u b => R u b ∧ b ∈ bs) us bs
  | _, _, .nil => .nil
  | _, _, .cons r rl => .cons ⟨r, List.mem_cons_self⟩ ((each_mem rl).mono fun _ _ h => ⟨h.1, List.mem_cons_of_mem _ h.2⟩)
def sortLF : List D → Option D
  | [.list ds] => if okSort ds = true then some (.list (sortD ds)) else none
  | _ => none
theorem cl_sortedL {k : Nat} (hr : Room k X.A) (hc : X.calm = true) : ClN X (.builtin "sorted") sortLF := by
  rintro pn s σ H xs us Q inv vals ⟨L, ds, d, lv, rb, hf, go⟩
  unfold sortLF at hf
  split at hf
  case h_2 => cases hf
  rename_i es
  split at hf
  case isFalse => cases hf
  rename_i hok
  cases hf
  have O := okSort_ok hok
  obtain ⟨v, rfl, rv⟩ := rb.one
  obtain ⟨a, vs, rfl, ha, rl⟩ := rv.lstV
  obtain rfl := Vals.ref1 vals
  obtain ⟨its, rel, isl, most⟩ := inv.list (SqL.of ha)
  have each := each_vd rl rel
  have snd := zip_snd rl
  have many : (vs.zip es).length = es.length := by rw [← congrArg List.length snd, List.length_map]
  have un := hr.un
  refine PySem.W.sorted_data (R := RVD X.K H L) (enc := fun b : VD => b.2) isl.isList each ((each_mem each).mono ?_) (by rw [snd]; exact O.al) (by rw [snd]; exact O.so) (by rw [many, rl.length]; exact most) ?_ ?_
  · rintro u b ⟨⟨r1, r2⟩, m⟩
    exact Dp.reads inv b.2 b.1 u (r2.dp (O.lay _ (by rw [← snd]; exact List.mem_map_of_mem m))) r1
  · intro b m
    have := O.deep b.2 (by rw [← snd]; exact List.mem_map_of_mem m)
    omega
  intro out lout sorted
  obtain ⟨n, at_⟩ := sortedAll_at s.heap its out.toArray
  obtain ⟨v2, r2⟩ := each_back sorted
  have e2 := sort_snd (vs.zip es)
  rw [snd] at e2
  generalize hbs : (vs.zip es).mergeSort (PySem.W.dataLe false fun b : VD => b.2) = bs at v2 r2 e2 sorted
  rw [e2] at r2
  have keep : ∀ b u, s.heap.get? b = some u → (sortedAll s.heap its out.toArray).get? b = some u := fun _ _ => sortedAll_old
  generalize sortedAll s.heap its out.toArray = g at at_ keep
  have free : H (s.heap.objs.size + 1) = none := inv.hok.fresh (Nat.le_succ _)
  have fits : (bs.map (·.1)).length ≤ sizeLine := by rw [v2.length, lout, many, rl.length]; exact most
  refine ⟨.ref (s.heap.objs.size + 1), upd H (s.heap.objs.size + 1) (.lst (bs.map (·.1))), inv.laid (o := .lst (bs.map (·.1))) (t' := s.toks) keep (Nat.le_succ _) ⟨fits, out, n, v2, at_⟩, rfl, go _ _ (same_upd free) free (.lst upd_same ?_)⟩
  exact (r2.lives (Lp_new free)).mono (same_upd free)
mutual
theorem reads_lt {h : Heap} : ∀ {v : Value} {d : D} {as : List Addr}, Reads h v d as → ∀ x ∈ as, x < h.objs.size
  | _, _, _, .none, _, m => by cases m
  | _, _, _, .bool _, _, m => by cases m
  | _, _, _, .int _ _, _, m => by cases m
  | _, _, _, .str _ _, _, m => by cases m
  | _, _, _, .list e _ _ r, x, m => by
    cases m with
    | head => exact Heap.lt_size e
    | tail _ m => exact readsAll_lt r x m
  | _, _, _, .tuple _ _ _ r, x, m => readsAll_lt r x m
  | _, _, _, .dict e _ _ r q, x, m => by
    rcases List.mem_append.mp m with m | m
    · cases m with
      | head => exact Heap.lt_size e
      | tail _ m => exact readsAll_lt r x m
    · exact readsAll_lt q x m
theorem readsAll_lt {h : Heap} : ∀ {vs : List Value} {ds : List D} {as : List Addr}, ReadsAll h vs ds as → ∀ x ∈ as, x < h.objs.size
  | _, _, _, .nil, _, m => by cases m
  | _, _, _, .cons r q, x, m => by
    rcases List.mem_append.mp m with m | m
    · exact reads_lt r x m
    · exact readsAll_lt q x m
end
/-- the keys of a dict, in order, and what they stand for -/
theorem keys_each {es : Array DictEntry} {acc : Array Value} {n : Nat} (hn : es.size = n) (it : ItemsOf (fun i v => ∃ en : DictEntry, es[i]? = some en ∧ v = en.key) acc n) {bs : List VD} (len : bs.length = n) (key : ∀ (j : Nat) (en : DictEntry), es[j]? = some en → ∃ b, bs[j]? = some b ∧ RVD K H L en.key b) :
    PySem.W.EachIs (RVD K H L) acc.toList bs := by
  have aux : ∀ (us : List Value) (cs : List VD), us.length = cs.length → (∀ (j : Nat) (u : Value), us[j]? = some u → ∃ b, cs[j]? = some b ∧ RVD K H L u b) → PySem.W.EachIs (RVD K H L) us cs := by
    intro us
    induction us with
    | nil =>
      intro cs hl _
      cases cs with
      | nil => exact .nil
      | cons _ _ => cases hl
    | cons u us ih =>
      intro cs hl h
      cases cs with
      | nil => cases hl
      | cons c cs =>
        obtain ⟨b, e1, r⟩ := h 0 u rfl
        cases e1
        exact .cons r (ih cs (Nat.succ.inj hl) fun j u' hj => h (j + 1) u' hj)
  refine aux _ _ (by rw [Array.length_toList, it.1, len]) fun j u hj => ?_
  obtain ⟨en, h1, rfl⟩ := it.2 j u (by rw [← Array.getElem?_toList]; exact hj)
  exact key j en h1
/-- sorted(d): the dict's keys, collected and sorted -/
theorem sorted_dict {pn : List (Addr × Obj)} {σ : St} {H : Hp} {L : Ad} {s : Shared} {a : Addr} {ob : Obj} {es : Array DictEntry} {ep k : Nat} {bs : List VD} {Q : VK} (inv : Inv X pn σ H s) (hr : Room k X.A) (hc : X.calm = true) (lv : LvOk H L) (plain : (a == sysModules) = false) (got : s.heap.get? a = some ob) (isd : ob.ExactDict)
    (dat : ob.data = .dict es ep) (many : bs.length = es.size) (most : es.size ≤ sizeLine) (key : ∀ (j : Nat) (en : DictEntry), es[j]? = some en → ∃ b, bs[j]? = some b ∧ RVD X.K H L en.key b) (O : OkSort (bs.map (·.2)))
    (go : ∀ (H' : Hp) (l : Addr), Same H H' → H l = none → Ow X.K H' (Lp L l) (.list (sortD (bs.map (·.2)))) l → Q (.ref l) H') : wpAny (model X.prog X.w) X.A (call (.builtin "sorted") [.ref a]) (EP X pn σ Q) X.xe s := by
  apply Calls.call_function_entry PyProof.Rows.kind_sorted PyProof.Rows.plain_sorted PyProof.Rows.entry_sorted (PyProof.Rows.args_sorted1 _)
  unfold Builtin.«sorted»
  apply wpAny_bind (m := checkCount "sorted" 1 1 _)
  apply wpAny_pure
  refine wpAny_bind (PySem.W.kdu_collect (A := X.A.in1) (kdl_raw plain isd dat) (inv.ok.hd hc) got most ?_)
  intro g tk acc keep it
  have each := keys_each (K := X.K) (H := H) (L := L) rfl it many key
  have la : acc.toList.length = bs.length := by rw [Array.length_toList, it.1, many]
  refine wpAny_bind (wpAny_newList ?_ (by rw [la, many]; exact most))
  have lies : (g.push { cls := .type "list", data := .seq acc.toList.toArray }).get? g.objs.size = some (seqObj "list" acc.toList.toArray 0) := Heap.get?_push_size _ rfl
  have up : ∀ b u, g.get? b = some u → (g.push { cls := .type "list", data := .seq acc.toList.toArray }).get? b = some u := fun b u e => Heap.get?_push_of_some _ e
  have inv1 : Inv X pn σ H { s with heap := g, toks := tk } := inv.kept keep
  generalize g.push { cls := .type "list", data := .seq acc.toList.toArray } = g2 at lies up
  have free : H g.objs.size = none := inv1.hok.fresh (Nat.le_refl _)
  have un := hr.un
  refine wpAny_bind (wpAny_holding (sort_new (enc := fun b : VD => b.2) (Q := fun _ s' => _) inv1 up (Nat.le_refl _) lies each ((each_mem each).mono ?_) O.al O.so (by rw [many]; exact most) ?_ ?_))
  · rintro u b ⟨⟨r1, r2⟩, m⟩
    obtain ⟨as, rd⟩ := Dp.reads inv1 b.2 b.1 u (r2.dp (O.lay _ (List.mem_map_of_mem m))) r1
    exact ⟨as, PyProof.Rows.Reads.keeps up rd, fun z => absurd (reads_lt rd _ z) (Nat.lt_irrefl _)⟩
  · intro b m
    have := O.deep b.2 (List.mem_map_of_mem m)
    show X.A.units + 1 + 1 + b.2.depth < cLine
    omega
  intro out g' srt rest lay
  obtain ⟨v2, r2⟩ := each_back srt
  rw [sort_snd bs] at r2
  have inv2 := lay _ v2
  refine wpAny_pure ⟨.ref g.objs.size, rfl, .ref g.objs.size, _, inv2, rfl, go _ _ (same_upd free) free (.lst upd_same ?_)⟩
  exact (r2.lives (Lp_new free)).mono (same_upd free)
/-- the keys of a dict of the layer -/
def keysD : D → Option (List D)
  | .dict ps => if (asRd (.dict ps)).isSome then none else some ((splitD ps).2.map (·.1))
  | _ => none
def sortF : List D → Option D
  | [.list ds] => if okSort ds = true then some (.list (sortD ds)) else none
  | [d] => (keysD d).bind fun ks => if okSort ks = true then some (.list (sortD ks)) else none
  | _ => none
theorem kv_at : ∀ {kvs : List (Key × V)} {vs : List (Key × Value)}, KV kvs vs → ∀ (j : Nat) (k : Key) (u : Value), vs[j]? = some (k, u) → ∃ v, kvs[j]? = some (k, v) ∧ RelV v u
  | _, _, .nil, j, k, u, h => by simp at h
  | _, _, .cons r rr, 0, k, u, h => by
    have e := Option.some.inj h
    refine ⟨_, congrArg some (Prod.ext ?_ rfl), ?_⟩
    · rw [r.1, e]
    · have := r.2
      rw [e] at this
      exact this
  | _, _, .cons r rr, j + 1, k, u, h => kv_at rr j k u h
theorem entry_key {P : Program} {w : World} : ∀ {es : List DictEntry} {vs : List (Key × Value)}, Pairs (mixKind P w) es vs → ∀ (j : Nat) (en : DictEntry), es[j]? = some en → ∃ k u, vs[j]? = some (k, u) ∧ keyIs k en.key = true
  | _, _, .nil, j, en, h => by simp at h
  | _, _, .cons h1 h2 hr, 0, en, h => by
    cases h
    exact ⟨_, _, rfl, h1⟩
  | _, _, .cons _ _ hr, j + 1, en, h => entry_key hr j en h
theorem kt_at {H : Hp} : ∀ {kvs : List (List Key × V)} {xs : List (List Key × Addr × Value)}, KT H kvs xs → ∀ (j : Nat) (y : List Key × Addr × Value), xs[j]? = some y → ∃ v, kvs[j]? = some (y.1, v) ∧ H y.2.1 = some (.tup (y.1.map kV))
  | _, _, .nil, j, y, h => by simp at h
  | _, _, .cons r rr, 0, y, h => by
    have e := Option.some.inj h
    obtain ⟨r1, r2, _⟩ := r
    rw [e] at r1 r2
    refine ⟨_, congrArg some (Prod.ext r1 rfl), ?_⟩
    rw [← r1]
    exact r2
  | _, _, .cons r rr, j + 1, y, h => kt_at rr j y h
theorem keys_map {α : Type} {f : α → D} {kvs : List (α × V)} {ps : List (D × D)} (e : ps.map (·.1) = kvs.map fun q => f q.1) (g : α → V) : (kvs.map fun q => (g q.1, f q.1)).map (·.2) = ps.map (·.1) := by
  rw [e, List.map_map]
  rfl
theorem kV_rp (k : Key) : Rp K H L (keyD k) (kV k) := by
  cases k with
  | inl i => exact .int i
  | inr x => exact .str x
theorem kVs_rp : ∀ ks : List Key, RpL K H L (ks.map keyD) (ks.map kV)
  | [] => .nil
  | k :: ks => .cons (kV_rp k) (kVs_rp ks)
theorem kt_keys {H : Hp} : ∀ {kvs : List (List Key × V)} {xs : List (List Key × Addr × Value)}, KT H kvs xs → xs.map ((fun x : VD => x.2) ∘ fun q => (V.ref q.2.1, PyData.tuple (q.1.map keyD))) = kvs.map fun q => PyData.tuple (q.1.map keyD)
  | _, _, .nil => rfl
  | _, _, .cons r rr => by
    rw [List.map_cons, List.map_cons, kt_keys rr, r.1]
    rfl
theorem cl_sortedD {k : Nat} (hr : Room k X.A) (hc : X.calm = true) : ClN X (.builtin "sorted") (fun ds => match ds with
    | [d] => (keysD d).bind fun ks => if okSort ks = true then some (.list (sortD ks)) else none
    | _ => none) := by
  rintro pn s σ H xs us Q inv vals ⟨L, ds, d, lv, rb, hf, go⟩
  dsimp only at hf
  split at hf
  case h_2 => cases hf
  rename_i d'
  cases hk : keysD d' with
  | none => rw [hk] at hf; cases hf
  | some ks =>
    rw [hk, Option.bind_some] at hf
    split at hf
    case isFalse => cases hf
    rename_i hok
    cases hf
    have O := okSort_ok hok
    unfold keysD at hk
    split at hk
    case h_2 => cases hk
    rename_i ps
    split at hk
    case isTrue => cases hk
    rename_i nrd
    cases hk
    obtain ⟨v, rfl, rv⟩ := rb.one
    obtain ⟨a, rfl, ow⟩ := rv.dictV (by simpa using nrd)
    obtain rfl := Vals.ref1 vals
    generalize hdd : (PyData.dict ps) = dd at ow
    cases ow with
    | lst _ _ => cases hdd
    | @dk _ kvs ps' ha z rl =>
      cases hdd
      rw [splitD_dk z] at O go
      obtain ⟨most, plain, vs', rel, ob, es, ep, got, isd, dat, _, ents, _⟩ := dk_of inv.hok ha
      have l1 : es.size = vs'.length := by rw [← Array.length_toList, pairs_len ents]
      have l2 : kvs.length = vs'.length := Paired.length rel
      have ek : (kvs.map fun q => (kV q.1, keyD q.1)).map (·.2) = ps.map (·.1) := keys_map z kV
      refine sorted_dict inv hr hc lv plain got isd dat (bs := kvs.map fun q => (kV q.1, keyD q.1)) (by rw [List.length_map, l1, l2]) (by omega) (fun j en hj => ?_) (by rw [ek]; exact O) (by rw [ek]; exact go)
      obtain ⟨key, u, h1, h2⟩ := entry_key ents j en (by rw [Array.getElem?_toList]; exact hj)
      obtain ⟨v, h3, _⟩ := kv_at rel j key u h1
      exact ⟨_, by rw [List.getElem?_map, h3]; rfl, keyIs_rel h2, kV_rp key⟩
    | @dt _ kvs qs ha z rl =>
      cases hdd
      simp only [splitD] at O go
      obtain ⟨most, plain, xs, rel, ob, es, ep, got, isd, dat, ents, _, _⟩ := dt_rd inv.hok (.inl ha)
      have l1 : es.size = xs.length := size_of_entries ents
      have l2 : kvs.length = xs.length := Paired.length rel
      have ek : (xs.map fun q => (V.ref q.2.1, PyData.tuple (q.1.map keyD))).map (·.2) = qs.map (·.1) := by
        rw [z, List.map_map]
        exact kt_keys rel
      refine sorted_dict inv hr hc lv plain got isd dat (bs := xs.map fun q => (V.ref q.2.1, PyData.tuple (q.1.map keyD))) (by rw [List.length_map, l1]) (by omega) (fun j en hj => ?_) (by rw [ek]; exact O) (by rw [ek]; exact go)
      have q := entry_at ents j
      rw [hj] at q
      cases hx : xs[j]? with
      | none => rw [hx] at q; cases q
      | some y =>
        rw [hx] at q
        have e2 : en = entryOfKey (tupleKind (mixKind X.prog X.w)) y := Option.some.inj q
        obtain ⟨v, _, h3⟩ := kt_at rel j y hx
        refine ⟨_, by rw [List.getElem?_map, hx]; rfl, ?_, .tup h3 (kVs_rp _)⟩
        rw [e2]
        rfl
theorem cl_sorted {k : Nat} (hr : Room k X.A) (hc : X.calm = true) : ClN X (.builtin "sorted") sortF := by
  rintro pn s σ H xs us Q inv vals ⟨L, ds, d, lv, rb, hf, go⟩
  unfold sortF at hf
  split at hf
  · exact cl_sortedL hr hc pn s σ H xs us Q inv vals ⟨L, _, d, lv, rb, hf, go⟩
  · exact cl_sortedD hr hc pn s σ H xs us Q inv vals ⟨L, _, d, lv, rb, hf, go⟩
  · cases hf
end
end VV

set_option Elab.async false
set_option linter.all false
set_option maxRecDepth 100000
set_option maxHeartbeats 4000000
/-! VVt: d == {}, d != {}. -/
namespace VV
open PySem PySem.Spec L2
open PyProof.Rows hiding St
section
variable {prog : Program} {w : World} {A : Around} {E : Value → Shared → Prop} {s : Shared}
/-- a dict's object, its entries -/
structure DObj (h : Heap) (a : Addr) (n : Nat) : Prop where
  plain : (a == sysModules) = false
  ob : ∃ o es ep, h.get? a = some o ∧ o.ExactDict ∧ o.data = .dict es ep ∧ es.size = n
theorem DObj.typeIs {a : Addr} {n : Nat} (x : DObj s.heap a n) : s.TypeIs (.ref a) "dict" := let ⟨o, _, _, ho, hc, _⟩ := x.ob; ⟨o, ho, hc.1⟩
/-- two dicts of unlike size; or both empty -/
theorem same_sizes {nm : String} {a b : Addr} {n m : Nat} {Q : Bool → Shared → Prop} (da : DObj s.heap a n) (db : DObj s.heap b m) (un : n ≠ m) (go : Q false s) : wpAny (model prog w) A (Builtin.Dict.samePairs nm a b) Q E s := by
  obtain ⟨oa, es, ep, ga, _, ea, rfl⟩ := da.ob
  obtain ⟨ob, es', ep', gb, _, eb, rfl⟩ := db.ob
  unfold Builtin.Dict.samePairs Builtin.Dict.showsAll
  simp only [da.plain, db.plain, Bool.false_eq_true, if_false, pure_bind]
  refine wpAny_bind (wpAny_dictEntries ga ea (wpAny_bind (wpAny_dictEntries gb eb ?_)))
  have ne : (es.size != es'.size) = true := by simpa using un
  simp only [ne, if_true]
  exact wpAny_bind (wpAny_rule (wpAny_pure go))
theorem eq_sizes {a b : Addr} {n m : Nat} {Q : Value → Shared → Prop} (da : DObj s.heap a n) (db : DObj s.heap b m) (un : n ≠ m) (hu : A.units < cLine) (go : Q (.bool false) s) : wpAny (model prog w) A (compareOp .Eq (.ref a) (.ref b)) Q E s := by
  apply wpAny_richCompare_same_room (op := .Eq) da.typeIs db.typeIs PySem.F.slot_dict_eq _ hu
  apply wpAny_call_entry PySem.F.slot_dict_eq da.typeIs PySem.F.entry_dict_eq _ (PySem.F.args_dict_eq_2 _ _)
  change wpAny _ _ (Builtin.Dict.dictSlotArgs "__eq__" _ >>= _) _ _ s
  unfold Builtin.Dict.dictSlotArgs
  refine wpAny_bind (wpAny_bind (wpAny_notOrdered_dict da.typeIs (wpAny_pure ?_)))
  refine wpAny_bind (wpAny_isInstance (T := "dict") db.typeIs PySem.F.sub_dict_dict ?_)
  simp only [Bool.not_true, Bool.false_eq_true, if_false, pure_bind]
  refine wpAny_bind (wpAny_pure (wpAny_bind (wpAny_pure (wpAny_bind (same_sizes da db un ?_)))))
  exact wpAny_pure ⟨_, rfl, (fun z => nomatch z), go⟩
theorem ne_sizes {a b : Addr} {n m : Nat} {Q : Value → Shared → Prop} (da : DObj s.heap a n) (db : DObj s.heap b m) (un : n ≠ m) (hu : A.units < cLine) (go : Q (.bool true) s) : wpAny (model prog w) A (compareOp .NotEq (.ref a) (.ref b)) Q E s := by
  apply wpAny_richCompare_same_room (op := .NotEq) da.typeIs db.typeIs PySem.F.slot_dict_ne _ hu
  apply wpAny_call_entry PySem.F.slot_dict_ne da.typeIs PySem.F.entry_dict_ne _ (PySem.F.args_dict_ne_2 _ _)
  change wpAny _ _ (Builtin.Dict.dictSlotArgs "__ne__" _ >>= _) _ _ s
  unfold Builtin.Dict.dictSlotArgs
  refine wpAny_bind (wpAny_bind (wpAny_notOrdered_dict da.typeIs (wpAny_pure ?_)))
  refine wpAny_bind (wpAny_isInstance (T := "dict") db.typeIs PySem.F.sub_dict_dict ?_)
  simp only [Bool.not_true, Bool.false_eq_true, if_false, pure_bind]
  refine wpAny_bind (wpAny_pure (wpAny_bind (wpAny_pure (wpAny_bind (same_sizes da db un ?_)))))
  exact wpAny_pure ⟨_, rfl, (fun z => nomatch z), go⟩
end
/-- a dict, whether it is empty -/
def emptyD : D → Option Bool
  | .dict ps => if (asRd (.dict ps)).isSome then none else some (splitD ps).2.isEmpty
  | _ => none
section
variable {X : Cx} {W : WX} {o : Expr} {f : EF} {p pos : Pos} {k : Nat}
def eqEF (neg : Bool) : D → Option D := fun d => (emptyD d).map fun b => .bool (if neg then !b else b)
theorem eqEF_b {neg : Bool} {x d : D} (h : eqEF neg x = some d) : ∃ b, d = .bool b := by
  unfold eqEF at h
  obtain ⟨b, _, rfl⟩ := Option.map_eq_some_iff.mp h
  exact ⟨_, rfl⟩
theorem emptyD_ok {K : PySem.W.Frag} {H : Hp} {L : Ad} {d : D} {v : V} {b : Bool} (h : emptyD d = some b) (r : Rb K H L d v) : ∃ a, v = .ref a ∧ ((∃ kvs, H a = some (.dK kvs) ∧ b = kvs.isEmpty) ∨ ∃ kvs, H a = some (.dT kvs) ∧ b = kvs.isEmpty) := by
  unfold emptyD at h
  split at h
  case h_2 => cases h
  rename_i ps
  split at h
  case isTrue => cases h
  rename_i nrd
  cases h
  obtain ⟨a, rfl, ow⟩ := r.dictV (by simpa using nrd)
  refine ⟨a, rfl, ?_⟩
  generalize hdd : (PyData.dict ps) = dd at ow
  cases ow with
  | lst _ _ => cases hdd
  | dk ha z rl =>
    cases hdd
    refine .inl ⟨_, ha, ?_⟩
    rw [splitD_dk z]
    exact isEmpty_len (by have := congrArg List.length z; simpa using this)
  | dt ha z rl =>
    cases hdd
    refine .inr ⟨_, ha, ?_⟩
    simp only [splitD]
    exact isEmpty_len (by have := congrArg List.length z; simpa using this)
def rEmp (neg : Bool) : R2 := fun x y H Q => ∃ (a b : Addr) (e : Bool), x = .ref a ∧ y = .ref b ∧ ((∃ kvs, H a = some (.dK kvs) ∧ e = kvs.isEmpty) ∨ ∃ kvs, H a = some (.dT kvs) ∧ e = kvs.isEmpty) ∧ H b = some (.dK []) ∧ Q (.bl (if neg then !e else e)) H
theorem dobj_k {P : Program} {w : World} {H : Hp} {h : Heap} {a : Addr} {kvs : List (Key × V)} (ok : HOk P w H h) (e : H a = some (.dK kvs)) : DObj h a kvs.length := by
  obtain ⟨_, plain, vs, rel, ob, es, ep, got, isd, dat, _, ents, _⟩ := dk_of ok e
  exact ⟨plain, ob, es, ep, got, isd, dat, by rw [← Array.length_toList, pairs_len ents]; exact (Paired.length rel).symm⟩
theorem dobj_t {P : Program} {w : World} {H : Hp} {h : Heap} {a : Addr} {kvs : List (List Key × V)} (ok : HOk P w H h) (e : H a = some (.dT kvs)) : DObj h a kvs.length := by
  obtain ⟨_, plain, xs, rel, ob, es, ep, got, isd, dat, ents, _⟩ := dt_rd ok (.inl e)
  exact ⟨plain, ob, es, ep, got, isd, dat, by rw [size_of_entries ents]; exact (Paired.length rel).symm⟩
/-- the empty dict is of any kind -/
theorem dict0 {P : Program} {w : World} {h : Heap} {a : Addr} (x : DObj h a 0) : h.DictOf (mixKind P w) a [] := by
  obtain ⟨o, es, ep, got, isd, dat, sz⟩ := x.ob
  obtain rfl : es = #[] := Array.eq_empty_of_size_eq_zero sz
  exact ⟨o, #[], ep, got, isd, dat, fun e m => by simp at m, .nil, by simp⟩
theorem op_emp (hr : Room k X.A) : OpR X (compareOp .Eq) (rEmp false) := by
  rintro pn s σ H _ _ v u Q inv rx ry ⟨a, b, e, rfl, rfl, ha, hb, go⟩
  obtain rfl : v = Value.ref a := rx
  obtain rfl : u = Value.ref b := ry
  have db : DObj s.heap b 0 := dobj_k inv.hok hb
  have hu := hr.units0
  have key : ∀ n, DObj s.heap a n → e = decide (n = 0) → wpAny (model X.prog X.w) X.A (compareOp .Eq (.ref a) (.ref b)) (EP X pn σ Q) X.xe s := fun n da he => by
    by_cases h0 : n = 0
    · subst h0
      rw [decide_eq_true rfl] at he
      exact PySem.W.keq_eq (knd := mixKind X.prog X.w) (r := true) da.plain db.plain (dict0 da) (dict0 db) hu (fun _ => .nil) (fin_bl inv go (by simp [he]))
    · rw [decide_eq_false h0] at he
      exact eq_sizes da db h0 hu (fin_bl inv go (by simp [he]))
  rcases ha with ⟨kvs, ha, he⟩ | ⟨kvs, ha, he⟩
  · exact key _ (dobj_k inv.hok ha) (by rw [he]; cases kvs <;> simp)
  · exact key _ (dobj_t inv.hok ha) (by rw [he]; cases kvs <;> simp)
theorem op_nemp (hr : Room k X.A) : OpR X (compareOp .NotEq) (rEmp true) := by
  rintro pn s σ H _ _ v u Q inv rx ry ⟨a, b, e, rfl, rfl, ha, hb, go⟩
  obtain rfl : v = Value.ref a := rx
  obtain rfl : u = Value.ref b := ry
  have db : DObj s.heap b 0 := dobj_k inv.hok hb
  have hu := hr.units0
  have key : ∀ n, DObj s.heap a n → e = decide (n = 0) → wpAny (model X.prog X.w) X.A (compareOp .NotEq (.ref a) (.ref b)) (EP X pn σ Q) X.xe s := fun n da he => by
    by_cases h0 : n = 0
    · subst h0
      rw [decide_eq_true rfl] at he
      exact PySem.W.keq_ne (knd := mixKind X.prog X.w) (r := true) da.plain db.plain (dict0 da) (dict0 db) hu (fun _ => .nil) (fin_bl inv go (by simp [he]))
    · rw [decide_eq_false h0] at he
      exact ne_sizes da db h0 hu (fin_bl inv go (by simp [he]))
  rcases ha with ⟨kvs, ha, he⟩ | ⟨kvs, ha, he⟩
  · exact key _ (dobj_k inv.hok ha) (by rw [he]; cases kvs <;> simp)
  · exact key _ (dobj_t inv.hok ha) (by rw [he]; cases kvs <;> simp)
theorem tEmp_of {neg : Bool} {K : PySem.W.Frag} : ∀ σ H Q, tE K W (eUn (eqEF neg) f) σ H Q → tOp (rEmp neg) (tB K W f) tDNewK σ H Q := fun σ H Q ⟨L, ρ, re, p⟩ =>
  ⟨L, ρ, re, p.step fun dx H1 x s1 rx p1 => fun q hq => by
    cases hd : emptyD dx with
    | none => unfold eqEF at p1; rw [hd] at p1; exact p1.elim
    | some b =>
      unfold eqEF at p1
      rw [hd] at p1
      obtain ⟨a, rfl, h⟩ := emptyD_ok hd rx
      have up : ∀ {o : HO}, H1 a = some o → upd H1 q (.dK []) a = some o := fun e => (upd_ne (ne_of_none e hq)).trans e
      refine ⟨a, q, b, rfl, rfl, ?_, upd_same, p1 _ _ (same_upd hq) (.bl _)⟩
      rcases h with ⟨kvs, h1, h2⟩ | ⟨kvs, h1, h2⟩
      · exact .inl ⟨kvs, up h1, h2⟩
      · exact .inr ⟨kvs, up h1, h2⟩⟩
theorem se_emp (hr : Room k X.A) (ho : SB X W o f) : SE X W (.Compare o [.Eq] [.Dict [] [] p] pos) (eUn (eqEF false) f) := (pe_cmpR (op_emp hr) ho pe_dnewK rfl).weak tEmp_of
theorem se_nemp (hr : Room k X.A) (ho : SB X W o f) : SE X W (.Compare o [.NotEq] [.Dict [] [] p] pos) (eUn (eqEF true) f) := (pe_cmpR (op_nemp hr) ho pe_dnewK rfl).weak tEmp_of
theorem tEmpT_of {neg : Bool} {K : PySem.W.Frag} : ∀ σ H Q, tT K W (eUn (eqEF neg) f) σ H Q → tOp (rEmp neg) (tB K W f) tDNewK σ H fun v H' => ∃ b, v = .bl b ∧ Q b H' := fun σ H Q ⟨L, ρ, re, p⟩ =>
  tEmp_of (W := W) (f := f) σ H _ ⟨L, ρ, re, by
    cases hr : eUn (eqEF neg) f ρ with
    | bad => rw [hr] at p; exact p
    | exc c fs => rw [hr] at p; exact p
    | ok d =>
      rw [hr] at p
      cases d with
      | bool b => exact fun H' v s r => ⟨b, r.blV, p H' s⟩
      | _ => exact p.elim⟩
theorem st_emp (hr : Room k X.A) (ho : SB X W o f) : ST X W (.Compare o [.Eq] [.Dict [] [] p] pos) (eUn (eqEF false) f) := (pt_cmpR (op_emp hr) ho pe_dnewK rfl).weak tEmpT_of
theorem st_nemp (hr : Room k X.A) (ho : SB X W o f) : ST X W (.Compare o [.NotEq] [.Dict [] [] p] pos) (eUn (eqEF true) f) := (pt_cmpR (op_nemp hr) ho pe_dnewK rfl).weak tEmpT_of
end
end VV

set_option Elab.async false
set_option linter.all false
set_option maxRecDepth 100000
set_option maxHeartbeats 4000000
namespace VVlaw
open PySem PySem.Spec L2 VV
open PyProof.Rows hiding St
def lp__law_common_1 : SF := (sPar 0 1 [(eV 1), (eOp modF (eV 0) (eV 1))])
def b__law_common : SF := (sSeq (sWh 1000000 (eOp neF (eV 1) (eC (.int 0))) lp__law_common_1) (sRet (eCB absF [(eV 0)])))
def sem__law_common : List D → Rs := runB 2 2 b__law_common
def b__law_least : SF := (sSeq (sSet 2 (eCall sem__law_common [(eV 0), (eV 1)])) (sSeq (sSet 2 (eIf (eOp ltF (eV 1) (eC (.int 0))) (eUn negF (eV 2)) (eV 2))) (sRet (eTup [(eOp divF (eV 0) (eV 2)), (eOp divF (eV 1) (eV 2))]))))
def sem__law_least : List D → Rs := runB 2 3 b__law_least
def b__law_plus : SF := (sRet (eCall sem__law_least [(eOp addF (eOp mulF (eOp ixF (eV 0) (eC (.int 0))) (eOp ixF (eV 1) (eC (.int 1)))) (eOp mulF (eOp ixF (eV 1) (eC (.int 0))) (eOp ixF (eV 0) (eC (.int 1))))), (eOp mulF (eOp ixF (eV 0) (eC (.int 1))) (eOp ixF (eV 1) (eC (.int 1))))]))
def sem__law_plus : List D → Rs := runB 2 2 b__law_plus
def b__law_times : SF := (sRet (eCall sem__law_least [(eOp mulF (eOp ixF (eV 0) (eC (.int 0))) (eOp ixF (eV 1) (eC (.int 0)))), (eOp mulF (eOp ixF (eV 0) (eC (.int 1))) (eOp ixF (eV 1) (eC (.int 1))))]))
def sem__law_times : List D → Rs := runB 2 2 b__law_times
def lp__law_steps_1 : SF := (sSeq (sPar 6 7 [(eOp subF (eV 5) (eOp ixF (eV 2) (eC (.int 0)))), (eOp subF (eV 4) (eOp ixF (eV 2) (eC (.int 1))))]) (sIf (gAnd (eChain leF ltF (eC (.int 0)) (eV 7) (eCB lenF [(eV 1)])) (eChain leF ltF (eC (.int 0)) (eV 6) (eCB lenF [(eOp ixF (eV 1) (eC (.int 0)))]))) (sPutD 3 (eTup [(eV 5), (eV 4)]) (eOp subF (eOp ixF (eOp ixF (eV 0) (eV 4)) (eV 5)) (eOp ixF (eOp ixF (eV 1) (eV 7)) (eV 6)))) sNx))
def lp__law_steps_2 : SF := (sFor (iRange1 [(eCB lenF [(eOp ixF (eV 0) (eC (.int 0)))])]) (.nm 5) lp__law_steps_1)
def b__law_steps : SF := (sSeq (sOwn 3 (eC (.dict [(.none, .none)]))) (sSeq (sFor (iRange1 [(eCB lenF [(eV 0)])]) (.nm 4) lp__law_steps_2) (sRetV 3)))
def sem__law_steps : List D → Rs := runB 3 8 b__law_steps
def lp__law_unlike_1 : SF := (sSeq (sSet 5 (eCall sem__law_plus [(eTup [(eV 4), (eC (.int 1))]), (eTup [(eUn negF (eOp ixF (eV 2) (eC (.int 0)))), (eOp ixF (eV 2) (eC (.int 1)))])])) (sSet 3 (eCall sem__law_plus [(eV 3), (eCall sem__law_times [(eV 5), (eV 5)])])))
def b__law_unlike : SF := (sSeq (sSet 1 (eLc [6] (iSeq (eCB sortF [(eV 0)])) (.nm 6) (eC (.bool true)) (eOp dixF (eV 0) (eV 6)))) (sSeq (sIf (eOp eqF (eV 1) (eLst [])) (sRet (eC .none)) sNx) (sSeq (sSet 2 (eCall sem__law_least [(eCB sumF [(eV 1)]), (eCB lenF [(eV 1)])])) (sSeq (sSet 3 (eTup [(eC (.int 0)), (eC (.int 1))])) (sSeq (sFor (iSeq (eV 1)) (.nm 4) lp__law_unlike_1) (sRet (eCall sem__law_times [(eV 3), (eTup [(eC (.int 1)), (eCB lenF [(eV 1)])])])))))))
def sem__law_unlike : List D → Rs := runB 1 7 b__law_unlike
end VVlaw

set_option Elab.async false
set_option linter.all false
set_option maxRecDepth 100000
set_option maxHeartbeats 4000000
namespace VVlaw
open PySem PySem.Spec L2 VV
open PyProof.Rows hiding St
def b_turned : SF := (sSeq (sDrop (eCall sem_look [(eV 0)])) (sSeq (sAsg (.tp [(.nm 1), (.nm 2)]) (eCall sem_size_of [(eV 0)])) (sRet (eCB tupF [(eLc [3] (iRange1 [(eV 1)]) (.nm 3) (eC (.bool true)) (eCB tupF [(eLc [4] (iRange1 [(eV 2)]) (.nm 4) (eC (.bool true)) (eOp ixF (eOp ixF (eV 0) (eOp subF (eOp subF (eV 2) (eC (.int 1))) (eV 4))) (eV 3)))]))]))))
def sem_turned : List D → Rs := runB 1 5 b_turned
def b_mean : SF := (sSeq (sDrop (eCall sem_look [(eV 0)])) (sSeq (sAsg (.tp [(.nm 1), (.nm 2)]) (eCall sem_size_of [(eV 0)])) (sRet (eCall sem_least [(eCB sumF [(eLc [3] (iSeq (eV 0)) (.nm 3) (eC (.bool true)) (eCB sumF [(eV 3)]))]), (eOp mulF (eV 1) (eV 2))]))))
def sem_mean : List D → Rs := runB 1 4 b_mean
def lp_spread_1 : SF := (sPutD 1 (eV 3) (eOp addF (eGet2 (eB 1) (eV 3) (eC (.int 0))) (eC (.int 1))))
def lp_spread_2 : SF := (sFor (iSeq (eV 2)) (.nm 3) lp_spread_1)
def b_spread : SF := (sSeq (sDrop (eCall sem_look [(eV 0)])) (sSeq (sOwn 1 (eC (.dict []))) (sSeq (sFor (iSeq (eV 0)) (.nm 2) lp_spread_2) (sRet (eUn sortItF (eB 1))))))
def sem_spread : List D → Rs := runB 1 4 b_spread
end VVlaw

set_option Elab.async false
set_option linter.all false
set_option maxRecDepth 100000
set_option maxHeartbeats 8000000
/-! PLh: shots by their cells; turned; all levels of a shot in one list. -/
namespace VVlaw
open PySem PySem.Spec L2 VV
open PyProof.Rows hiding St
theorem Sh.ext {a b : List (List Int)} {h w : Nat} (A : Sh a h w) (B : Sh b h w) (e : ∀ y x : Int, 0 ≤ y → y < h → 0 ≤ x → x < w → cell a y x = cell b y x) : a = b := by
  apply List.ext_getElem
  · rw [A.len, B.len]
  · intro i h1 h2
    have hi : i < h := by rw [← A.len]; exact h1
    have la : a[i].length = w := A.row _ (List.getElem_mem h1)
    have lb : b[i].length = w := B.row _ (List.getElem_mem h2)
    apply List.ext_getElem
    · rw [la, lb]
    · intro j g1 g2
      have hj : j < w := by rw [← la]; exact g1
      have := e i j (by omega) (by omega) (by omega) (by omega)
      unfold cell rw' at this
      simp -implicitDefEqProofs only [Int.toNat_natCast, List.getD_eq_getElem?_getD] at this
      rw [List.getElem?_eq_getElem h1, List.getElem?_eq_getElem h2] at this
      simp -implicitDefEqProofs only [Option.getD_some] at this
      rw [List.getElem?_eq_getElem g1, List.getElem?_eq_getElem g2] at this
      exact this
/-- a shot by its cells -/
def mk (h w : Nat) (f : Int → Int → Int) : List (List Int) := (rangeI 0 h).map fun y => (rangeI 0 w).map fun x => f y x
theorem rangeI_getD (n k : Nat) (h : k < n) : (rangeI 0 n)[k]? = some (k : Int) := by
  unfold rangeI
  rw [List.getElem?_map, List.getElem?_range h]
  simp
theorem cell_mk (h w : Nat) (f : Int → Int → Int) (y x : Int) (hy : 0 ≤ y) (hyh : y < h) (hx : 0 ≤ x) (hxw : x < w) : cell (mk h w f) y x = f y x := by
  unfold cell rw' mk
  have e1 : y.toNat < h := by omega
  have e2 : x.toNat < w := by omega
  rw [List.getD_eq_getElem?_getD, List.getD_eq_getElem?_getD, List.getElem?_map, rangeI_getD h _ e1]
  simp -implicitDefEqProofs only [Option.map_some, Option.getD_some]
  rw [List.getElem?_map, rangeI_getD w _ e2]
  simp -implicitDefEqProofs only [Option.map_some, Option.getD_some]
  rw [Int.toNat_of_nonneg hy, Int.toNat_of_nonneg hx]
theorem mk_sh {h w : Nat} {f : Int → Int → Int} (h1 : 1 ≤ h) (h2 : h ≤ 12) (w1 : 1 ≤ w) (w2 : w ≤ 12) (hf : ∀ y x, 0 ≤ f y x ∧ f y x ≤ 255) : Sh (mk h w f) h w where
  len := by simp [mk, rangeI_length]
  h1 := h1
  h2 := h2
  w1 := w1
  w2 := w2
  row := fun r hr => by
    obtain ⟨y, _, rfl⟩ := List.mem_map.mp hr
    simp [rangeI_length]
  lev := fun r hr v hv => by
    obtain ⟨y, _, rfl⟩ := List.mem_map.mp hr
    obtain ⟨x, _, rfl⟩ := List.mem_map.mp hv
    exact hf y x
theorem mk_eq {s : List (List Int)} {h w : Nat} (S : Sh s h w) : s = mk h w (cell s) := Sh.ext S (mk_sh S.h1 S.h2 S.w1 S.w2 (cell_bd S)) fun y x h1 h2 h3 h4 => (cell_mk h w (cell s) y x h1 h2 h3 h4).symm
def turnL (s : List (List Int)) (h w : Nat) : List (List Int) := mk w h fun c a => cell s (h - 1 - a) c
theorem turn_sh {s : List (List Int)} {h w : Nat} (S : Sh s h w) : Sh (turnL s h w) w h := mk_sh S.w1 S.w2 S.h1 S.h2 fun y x => cell_bd S _ _
theorem cell_turn (s : List (List Int)) (h w : Nat) (y x : Int) (hy : 0 ≤ y) (hyh : y < w) (hx : 0 ≤ x) (hxw : x < h) : cell (turnL s h w) y x = cell s (h - 1 - x) y := cell_mk w h _ y x hy hyh hx hxw
theorem turned_eq {s : List (List Int)} {h w : Nat} (S : Sh s h w) : sem_turned [shD s] = .ok (shD (turnL s h w)) := by
  have h1 := S.h1; have h2 := S.h2; have w1 := S.w1; have w2 := S.w2
  have r1 : (RL.ok [.int (w : Int)]).items rng1 = .ok ((rangeI 0 w).map PyData.int) := by
    rw [rng1_ok _ (by omega) (by omega), rangeD_eq, Int.toNat_natCast]
  have r2 : (RL.ok [.int (h : Int)]).items rng1 = .ok ((rangeI 0 h).map PyData.int) := by
    rw [rng1_ok _ (by omega) (by omega), rangeD_eq, Int.toNat_natCast]
  simp -implicitDefEqProofs only [sem_turned, b_turned, look_eq S, size_of_eq S, ap_sSeq, seqO_nx, seqO_rt, seqO_exc, ap_sIf, ifO_t, ifO_f, ifO_exc, ap_sNx, ap_sSet, ap_sOwn, ap_sRet, ap_sDrop, ap_sAsg, outB_some, bT_nm, bT_tp, bTs_nil, bTs_cons, ap_sRaise, ap_sPar, parO_ok, ap_sFor, ap_sRetV, retO_own, retO_val, ap_sFrz, frzO_own, frzO_val, ap_sApp, ap_sExt, ap_eV, valO_val, ap_eB, borO_val, borO_own, ap_eC, ap_eOp, opO_ok, ap_eUn, ap_eTup, ap_eLst, tupR_ok, lstR_ok, ap_eCB, ap_eCall, callO_ok, callO_exc, ap_gNot, notR_b, ap_gTru, truR_b, truR_list, ap_gAnd, ap_gOr, andO_t, andO_f, orO_t, orO_f, ap_eAnd, ap_eOr, eandO_t, eandO_f, eorO_t, eorO_f, ap_eNot, enotO_b, enotO_list, ap_eIf, eifO_t, eifO_f, ap_eChain, chO_ok, ap_eIsi, isiO_int, isiO_tup, isiO_lst, isiO_bl, isiO_str, isiO_non, isInt_int, isInt_bl, isInt_tup, isInt_lst, isInt_str, isInt_non, isBool_int, isBool_bl, isTup_tup, isTup_lst, isTup_int, isTup_non, isTup_str, isTup_bl, isLst_lst, isLst_tup, f_add, f_sub, f_neg, f_eqI, f_neI, f_eqB, f_neB, f_lt, f_le, f_gt, f_ge, f_is, f_isNot, isNone_int, isNone_tup, isNone_lst, isNone_non, f_len_l, f_len_t, f_len_rd, f_tup_l, f_tup_t, f_max2, f_min2, f_abs, f_sum_l, f_sum_t, f_ix0, f_ix1, f_ix2, f_ix3, f_rev_t, outR_nx, outR_rt, outR_exc, nones0, nonesS, runB_eq, ap_eSl, optI_none, optI_some, optO_int, ap_sWh, ap_iSeq, items_l, items_t, ap_iRange1, ap_iRange2, wipeE_nil, wipeE_cons, evA_nil, evA_cons, RL.cons_ok, RL.cons_exc, RL.bind_ok, RL.bind_exc, RL.out_ok, RL.out_exc, Rs.bind_ok, Rs.bind_exc, Rs.out_ok, Rs.out_exc, Rs.of_some, Option.bind_some, List.getElem?_cons_zero, List.getElem?_cons_succ, List.set_cons_zero, List.set_cons_succ, List.map_cons, List.map_nil, List.cons_append, List.nil_append, List.length_cons, List.length_nil, Nat.reduceAdd, Nat.reduceSub, Nat.reduceLeDiff, Nat.reduceLT, Bool.not_true, Bool.not_false, decide_true, decide_false]
  rw [eLc_mapA (rangeI 0 w) PyData.int (fun c => rowD ((rangeI 0 h).map fun a => cell s (h - 1 - a) c)) (by simp -implicitDefEqProofs only [r1, ap_sSeq, seqO_nx, seqO_rt, seqO_exc, ap_sIf, ifO_t, ifO_f, ifO_exc, ap_sNx, ap_sSet, ap_sOwn, ap_sRet, ap_sDrop, ap_sAsg, outB_some, bT_nm, bT_tp, bTs_nil, bTs_cons, ap_sRaise, ap_sPar, parO_ok, ap_sFor, ap_sRetV, retO_own, retO_val, ap_sFrz, frzO_own, frzO_val, ap_sApp, ap_sExt, ap_eV, valO_val, ap_eB, borO_val, borO_own, ap_eC, ap_eOp, opO_ok, ap_eUn, ap_eTup, ap_eLst, tupR_ok, lstR_ok, ap_eCB, ap_eCall, callO_ok, callO_exc, ap_gNot, notR_b, ap_gTru, truR_b, truR_list, ap_gAnd, ap_gOr, andO_t, andO_f, orO_t, orO_f, ap_eAnd, ap_eOr, eandO_t, eandO_f, eorO_t, eorO_f, ap_eNot, enotO_b, enotO_list, ap_eIf, eifO_t, eifO_f, ap_eChain, chO_ok, ap_eIsi, isiO_int, isiO_tup, isiO_lst, isiO_bl, isiO_str, isiO_non, isInt_int, isInt_bl, isInt_tup, isInt_lst, isInt_str, isInt_non, isBool_int, isBool_bl, isTup_tup, isTup_lst, isTup_int, isTup_non, isTup_str, isTup_bl, isLst_lst, isLst_tup, f_add, f_sub, f_neg, f_eqI, f_neI, f_eqB, f_neB, f_lt, f_le, f_gt, f_ge, f_is, f_isNot, isNone_int, isNone_tup, isNone_lst, isNone_non, f_len_l, f_len_t, f_len_rd, f_tup_l, f_tup_t, f_max2, f_min2, f_abs, f_sum_l, f_sum_t, f_ix0, f_ix1, f_ix2, f_ix3, f_rev_t, outR_nx, outR_rt, outR_exc, nones0, nonesS, runB_eq, ap_eSl, optI_none, optI_some, optO_int, ap_sWh, ap_iSeq, items_l, items_t, ap_iRange1, ap_iRange2, wipeE_nil, wipeE_cons, evA_nil, evA_cons, RL.cons_ok, RL.cons_exc, RL.bind_ok, RL.bind_exc, RL.out_ok, RL.out_exc, Rs.bind_ok, Rs.bind_exc, Rs.out_ok, Rs.out_exc, Rs.of_some, Option.bind_some, List.getElem?_cons_zero, List.getElem?_cons_succ, List.set_cons_zero, List.set_cons_succ, List.map_cons, List.map_nil, List.cons_append, List.nil_append, List.length_cons, List.length_nil, Nat.reduceAdd, Nat.reduceSub, Nat.reduceLeDiff, Nat.reduceLT, Bool.not_true, Bool.not_false, decide_true, decide_false]) (by rw [rangeI_length]; omega) (by
    intro c hc
    have hc' := mem_rangeI.mp hc
    refine ⟨by simp -implicitDefEqProofs only [ap_sSeq, seqO_nx, seqO_rt, seqO_exc, ap_sIf, ifO_t, ifO_f, ifO_exc, ap_sNx, ap_sSet, ap_sOwn, ap_sRet, ap_sDrop, ap_sAsg, outB_some, bT_nm, bT_tp, bTs_nil, bTs_cons, ap_sRaise, ap_sPar, parO_ok, ap_sFor, ap_sRetV, retO_own, retO_val, ap_sFrz, frzO_own, frzO_val, ap_sApp, ap_sExt, ap_eV, valO_val, ap_eB, borO_val, borO_own, ap_eC, ap_eOp, opO_ok, ap_eUn, ap_eTup, ap_eLst, tupR_ok, lstR_ok, ap_eCB, ap_eCall, callO_ok, callO_exc, ap_gNot, notR_b, ap_gTru, truR_b, truR_list, ap_gAnd, ap_gOr, andO_t, andO_f, orO_t, orO_f, ap_eAnd, ap_eOr, eandO_t, eandO_f, eorO_t, eorO_f, ap_eNot, enotO_b, enotO_list, ap_eIf, eifO_t, eifO_f, ap_eChain, chO_ok, ap_eIsi, isiO_int, isiO_tup, isiO_lst, isiO_bl, isiO_str, isiO_non, isInt_int, isInt_bl, isInt_tup, isInt_lst, isInt_str, isInt_non, isBool_int, isBool_bl, isTup_tup, isTup_lst, isTup_int, isTup_non, isTup_str, isTup_bl, isLst_lst, isLst_tup, f_add, f_sub, f_neg, f_eqI, f_neI, f_eqB, f_neB, f_lt, f_le, f_gt, f_ge, f_is, f_isNot, isNone_int, isNone_tup, isNone_lst, isNone_non, f_len_l, f_len_t, f_len_rd, f_tup_l, f_tup_t, f_max2, f_min2, f_abs, f_sum_l, f_sum_t, f_ix0, f_ix1, f_ix2, f_ix3, f_rev_t, outR_nx, outR_rt, outR_exc, nones0, nonesS, runB_eq, ap_eSl, optI_none, optI_some, optO_int, ap_sWh, ap_iSeq, items_l, items_t, ap_iRange1, ap_iRange2, wipeE_nil, wipeE_cons, evA_nil, evA_cons, RL.cons_ok, RL.cons_exc, RL.bind_ok, RL.bind_exc, RL.out_ok, RL.out_exc, Rs.bind_ok, Rs.bind_exc, Rs.out_ok, Rs.out_exc, Rs.of_some, Option.bind_some, List.getElem?_cons_zero, List.getElem?_cons_succ, List.set_cons_zero, List.set_cons_succ, List.map_cons, List.map_nil, List.cons_append, List.nil_append, List.length_cons, List.length_nil, Nat.reduceAdd, Nat.reduceSub, Nat.reduceLeDiff, Nat.reduceLT, Bool.not_true, Bool.not_false, decide_true, decide_false], ?_⟩
    simp -implicitDefEqProofs only [ap_sSeq, seqO_nx, seqO_rt, seqO_exc, ap_sIf, ifO_t, ifO_f, ifO_exc, ap_sNx, ap_sSet, ap_sOwn, ap_sRet, ap_sDrop, ap_sAsg, outB_some, bT_nm, bT_tp, bTs_nil, bTs_cons, ap_sRaise, ap_sPar, parO_ok, ap_sFor, ap_sRetV, retO_own, retO_val, ap_sFrz, frzO_own, frzO_val, ap_sApp, ap_sExt, ap_eV, valO_val, ap_eB, borO_val, borO_own, ap_eC, ap_eOp, opO_ok, ap_eUn, ap_eTup, ap_eLst, tupR_ok, lstR_ok, ap_eCB, ap_eCall, callO_ok, callO_exc, ap_gNot, notR_b, ap_gTru, truR_b, truR_list, ap_gAnd, ap_gOr, andO_t, andO_f, orO_t, orO_f, ap_eAnd, ap_eOr, eandO_t, eandO_f, eorO_t, eorO_f, ap_eNot, enotO_b, enotO_list, ap_eIf, eifO_t, eifO_f, ap_eChain, chO_ok, ap_eIsi, isiO_int, isiO_tup, isiO_lst, isiO_bl, isiO_str, isiO_non, isInt_int, isInt_bl, isInt_tup, isInt_lst, isInt_str, isInt_non, isBool_int, isBool_bl, isTup_tup, isTup_lst, isTup_int, isTup_non, isTup_str, isTup_bl, isLst_lst, isLst_tup, f_add, f_sub, f_neg, f_eqI, f_neI, f_eqB, f_neB, f_lt, f_le, f_gt, f_ge, f_is, f_isNot, isNone_int, isNone_tup, isNone_lst, isNone_non, f_len_l, f_len_t, f_len_rd, f_tup_l, f_tup_t, f_max2, f_min2, f_abs, f_sum_l, f_sum_t, f_ix0, f_ix1, f_ix2, f_ix3, f_rev_t, outR_nx, outR_rt, outR_exc, nones0, nonesS, runB_eq, ap_eSl, optI_none, optI_some, optO_int, ap_sWh, ap_iSeq, items_l, items_t, ap_iRange1, ap_iRange2, wipeE_nil, wipeE_cons, evA_nil, evA_cons, RL.cons_ok, RL.cons_exc, RL.bind_ok, RL.bind_exc, RL.out_ok, RL.out_exc, Rs.bind_ok, Rs.bind_exc, Rs.out_ok, Rs.out_exc, Rs.of_some, Option.bind_some, List.getElem?_cons_zero, List.getElem?_cons_succ, List.set_cons_zero, List.set_cons_succ, List.map_cons, List.map_nil, List.cons_append, List.nil_append, List.length_cons, List.length_nil, Nat.reduceAdd, Nat.reduceSub, Nat.reduceLeDiff, Nat.reduceLT, Bool.not_true, Bool.not_false, decide_true, decide_false]
    rw [eLc_mapA (rangeI 0 h) PyData.int (fun a => PyData.int (cell s (h - 1 - a) c)) (by simp -implicitDefEqProofs only [r2, ap_sSeq, seqO_nx, seqO_rt, seqO_exc, ap_sIf, ifO_t, ifO_f, ifO_exc, ap_sNx, ap_sSet, ap_sOwn, ap_sRet, ap_sDrop, ap_sAsg, outB_some, bT_nm, bT_tp, bTs_nil, bTs_cons, ap_sRaise, ap_sPar, parO_ok, ap_sFor, ap_sRetV, retO_own, retO_val, ap_sFrz, frzO_own, frzO_val, ap_sApp, ap_sExt, ap_eV, valO_val, ap_eB, borO_val, borO_own, ap_eC, ap_eOp, opO_ok, ap_eUn, ap_eTup, ap_eLst, tupR_ok, lstR_ok, ap_eCB, ap_eCall, callO_ok, callO_exc, ap_gNot, notR_b, ap_gTru, truR_b, truR_list, ap_gAnd, ap_gOr, andO_t, andO_f, orO_t, orO_f, ap_eAnd, ap_eOr, eandO_t, eandO_f, eorO_t, eorO_f, ap_eNot, enotO_b, enotO_list, ap_eIf, eifO_t, eifO_f, ap_eChain, chO_ok, ap_eIsi, isiO_int, isiO_tup, isiO_lst, isiO_bl, isiO_str, isiO_non, isInt_int, isInt_bl, isInt_tup, isInt_lst, isInt_str, isInt_non, isBool_int, isBool_bl, isTup_tup, isTup_lst, isTup_int, isTup_non, isTup_str, isTup_bl, isLst_lst, isLst_tup, f_add, f_sub, f_neg, f_eqI, f_neI, f_eqB, f_neB, f_lt, f_le, f_gt, f_ge, f_is, f_isNot, isNone_int, isNone_tup, isNone_lst, isNone_non, f_len_l, f_len_t, f_len_rd, f_tup_l, f_tup_t, f_max2, f_min2, f_abs, f_sum_l, f_sum_t, f_ix0, f_ix1, f_ix2, f_ix3, f_rev_t, outR_nx, outR_rt, outR_exc, nones0, nonesS, runB_eq, ap_eSl, optI_none, optI_some, optO_int, ap_sWh, ap_iSeq, items_l, items_t, ap_iRange1, ap_iRange2, wipeE_nil, wipeE_cons, evA_nil, evA_cons, RL.cons_ok, RL.cons_exc, RL.bind_ok, RL.bind_exc, RL.out_ok, RL.out_exc, Rs.bind_ok, Rs.bind_exc, Rs.out_ok, Rs.out_exc, Rs.of_some, Option.bind_some, List.getElem?_cons_zero, List.getElem?_cons_succ, List.set_cons_zero, List.set_cons_succ, List.map_cons, List.map_nil, List.cons_append, List.nil_append, List.length_cons, List.length_nil, Nat.reduceAdd, Nat.reduceSub, Nat.reduceLeDiff, Nat.reduceLT, Bool.not_true, Bool.not_false, decide_true, decide_false]) (by rw [rangeI_length]; omega) (by
      intro a ha
      have ha' := mem_rangeI.mp ha
      have i1 : ixF (shD s) (.int ((h : Int) - 1 - a)) = some (rowD (rw' s ((h : Int) - 1 - a))) := ix_sh s _ (by omega) (by rw [S.len]; omega)
      have lr := S.rlen (y := (h : Int) - 1 - a) (by omega) (by omega)
      have i2 : ixF (rowD (rw' s ((h : Int) - 1 - a))) (.int c) = some (.int (cell s ((h : Int) - 1 - a) c)) := ix_row _ c (by omega) (by omega)
      simp -implicitDefEqProofs only [i1, i2, ap_sSeq, seqO_nx, seqO_rt, seqO_exc, ap_sIf, ifO_t, ifO_f, ifO_exc, ap_sNx, ap_sSet, ap_sOwn, ap_sRet, ap_sDrop, ap_sAsg, outB_some, bT_nm, bT_tp, bTs_nil, bTs_cons, ap_sRaise, ap_sPar, parO_ok, ap_sFor, ap_sRetV, retO_own, retO_val, ap_sFrz, frzO_own, frzO_val, ap_sApp, ap_sExt, ap_eV, valO_val, ap_eB, borO_val, borO_own, ap_eC, ap_eOp, opO_ok, ap_eUn, ap_eTup, ap_eLst, tupR_ok, lstR_ok, ap_eCB, ap_eCall, callO_ok, callO_exc, ap_gNot, notR_b, ap_gTru, truR_b, truR_list, ap_gAnd, ap_gOr, andO_t, andO_f, orO_t, orO_f, ap_eAnd, ap_eOr, eandO_t, eandO_f, eorO_t, eorO_f, ap_eNot, enotO_b, enotO_list, ap_eIf, eifO_t, eifO_f, ap_eChain, chO_ok, ap_eIsi, isiO_int, isiO_tup, isiO_lst, isiO_bl, isiO_str, isiO_non, isInt_int, isInt_bl, isInt_tup, isInt_lst, isInt_str, isInt_non, isBool_int, isBool_bl, isTup_tup, isTup_lst, isTup_int, isTup_non, isTup_str, isTup_bl, isLst_lst, isLst_tup, f_add, f_sub, f_neg, f_eqI, f_neI, f_eqB, f_neB, f_lt, f_le, f_gt, f_ge, f_is, f_isNot, isNone_int, isNone_tup, isNone_lst, isNone_non, f_len_l, f_len_t, f_len_rd, f_tup_l, f_tup_t, f_max2, f_min2, f_abs, f_sum_l, f_sum_t, f_ix0, f_ix1, f_ix2, f_ix3, f_rev_t, outR_nx, outR_rt, outR_exc, nones0, nonesS, runB_eq, ap_eSl, optI_none, optI_some, optO_int, ap_sWh, ap_iSeq, items_l, items_t, ap_iRange1, ap_iRange2, wipeE_nil, wipeE_cons, evA_nil, evA_cons, RL.cons_ok, RL.cons_exc, RL.bind_ok, RL.bind_exc, RL.out_ok, RL.out_exc, Rs.bind_ok, Rs.bind_exc, Rs.out_ok, Rs.out_exc, Rs.of_some, Option.bind_some, List.getElem?_cons_zero, List.getElem?_cons_succ, List.set_cons_zero, List.set_cons_succ, List.map_cons, List.map_nil, List.cons_append, List.nil_append, List.length_cons, List.length_nil, Nat.reduceAdd, Nat.reduceSub, Nat.reduceLeDiff, Nat.reduceLT, Bool.not_true, Bool.not_false, decide_true, decide_false]
      exact ⟨trivial, trivial⟩)]
    simp -implicitDefEqProofs only [ap_sSeq, seqO_nx, seqO_rt, seqO_exc, ap_sIf, ifO_t, ifO_f, ifO_exc, ap_sNx, ap_sSet, ap_sOwn, ap_sRet, ap_sDrop, ap_sAsg, outB_some, bT_nm, bT_tp, bTs_nil, bTs_cons, ap_sRaise, ap_sPar, parO_ok, ap_sFor, ap_sRetV, retO_own, retO_val, ap_sFrz, frzO_own, frzO_val, ap_sApp, ap_sExt, ap_eV, valO_val, ap_eB, borO_val, borO_own, ap_eC, ap_eOp, opO_ok, ap_eUn, ap_eTup, ap_eLst, tupR_ok, lstR_ok, ap_eCB, ap_eCall, callO_ok, callO_exc, ap_gNot, notR_b, ap_gTru, truR_b, truR_list, ap_gAnd, ap_gOr, andO_t, andO_f, orO_t, orO_f, ap_eAnd, ap_eOr, eandO_t, eandO_f, eorO_t, eorO_f, ap_eNot, enotO_b, enotO_list, ap_eIf, eifO_t, eifO_f, ap_eChain, chO_ok, ap_eIsi, isiO_int, isiO_tup, isiO_lst, isiO_bl, isiO_str, isiO_non, isInt_int, isInt_bl, isInt_tup, isInt_lst, isInt_str, isInt_non, isBool_int, isBool_bl, isTup_tup, isTup_lst, isTup_int, isTup_non, isTup_str, isTup_bl, isLst_lst, isLst_tup, f_add, f_sub, f_neg, f_eqI, f_neI, f_eqB, f_neB, f_lt, f_le, f_gt, f_ge, f_is, f_isNot, isNone_int, isNone_tup, isNone_lst, isNone_non, f_len_l, f_len_t, f_len_rd, f_tup_l, f_tup_t, f_max2, f_min2, f_abs, f_sum_l, f_sum_t, f_ix0, f_ix1, f_ix2, f_ix3, f_rev_t, outR_nx, outR_rt, outR_exc, nones0, nonesS, runB_eq, ap_eSl, optI_none, optI_some, optO_int, ap_sWh, ap_iSeq, items_l, items_t, ap_iRange1, ap_iRange2, wipeE_nil, wipeE_cons, evA_nil, evA_cons, RL.cons_ok, RL.cons_exc, RL.bind_ok, RL.bind_exc, RL.out_ok, RL.out_exc, Rs.bind_ok, Rs.bind_exc, Rs.out_ok, Rs.out_exc, Rs.of_some, Option.bind_some, List.getElem?_cons_zero, List.getElem?_cons_succ, List.set_cons_zero, List.set_cons_succ, List.map_cons, List.map_nil, List.cons_append, List.nil_append, List.length_cons, List.length_nil, Nat.reduceAdd, Nat.reduceSub, Nat.reduceLeDiff, Nat.reduceLT, Bool.not_true, Bool.not_false, decide_true, decide_false]
    unfold rowD
    rw [List.map_map]
    rfl)]
  simp -implicitDefEqProofs only [ap_sSeq, seqO_nx, seqO_rt, seqO_exc, ap_sIf, ifO_t, ifO_f, ifO_exc, ap_sNx, ap_sSet, ap_sOwn, ap_sRet, ap_sDrop, ap_sAsg, outB_some, bT_nm, bT_tp, bTs_nil, bTs_cons, ap_sRaise, ap_sPar, parO_ok, ap_sFor, ap_sRetV, retO_own, retO_val, ap_sFrz, frzO_own, frzO_val, ap_sApp, ap_sExt, ap_eV, valO_val, ap_eB, borO_val, borO_own, ap_eC, ap_eOp, opO_ok, ap_eUn, ap_eTup, ap_eLst, tupR_ok, lstR_ok, ap_eCB, ap_eCall, callO_ok, callO_exc, ap_gNot, notR_b, ap_gTru, truR_b, truR_list, ap_gAnd, ap_gOr, andO_t, andO_f, orO_t, orO_f, ap_eAnd, ap_eOr, eandO_t, eandO_f, eorO_t, eorO_f, ap_eNot, enotO_b, enotO_list, ap_eIf, eifO_t, eifO_f, ap_eChain, chO_ok, ap_eIsi, isiO_int, isiO_tup, isiO_lst, isiO_bl, isiO_str, isiO_non, isInt_int, isInt_bl, isInt_tup, isInt_lst, isInt_str, isInt_non, isBool_int, isBool_bl, isTup_tup, isTup_lst, isTup_int, isTup_non, isTup_str, isTup_bl, isLst_lst, isLst_tup, f_add, f_sub, f_neg, f_eqI, f_neI, f_eqB, f_neB, f_lt, f_le, f_gt, f_ge, f_is, f_isNot, isNone_int, isNone_tup, isNone_lst, isNone_non, f_len_l, f_len_t, f_len_rd, f_tup_l, f_tup_t, f_max2, f_min2, f_abs, f_sum_l, f_sum_t, f_ix0, f_ix1, f_ix2, f_ix3, f_rev_t, outR_nx, outR_rt, outR_exc, nones0, nonesS, runB_eq, ap_eSl, optI_none, optI_some, optO_int, ap_sWh, ap_iSeq, items_l, items_t, ap_iRange1, ap_iRange2, wipeE_nil, wipeE_cons, evA_nil, evA_cons, RL.cons_ok, RL.cons_exc, RL.bind_ok, RL.bind_exc, RL.out_ok, RL.out_exc, Rs.bind_ok, Rs.bind_exc, Rs.out_ok, Rs.out_exc, Rs.of_some, Option.bind_some, List.getElem?_cons_zero, List.getElem?_cons_succ, List.set_cons_zero, List.set_cons_succ, List.map_cons, List.map_nil, List.cons_append, List.nil_append, List.length_cons, List.length_nil, Nat.reduceAdd, Nat.reduceSub, Nat.reduceLeDiff, Nat.reduceLT, Bool.not_true, Bool.not_false, decide_true, decide_false]
  unfold shD turnL mk
  rw [List.map_map]
  rfl
theorem turn4 {s : List (List Int)} {h w : Nat} (S : Sh s h w) : turnL (turnL (turnL (turnL s h w) w h) h w) w h = s := by
  refine Sh.ext (turn_sh (turn_sh (turn_sh (turn_sh S)))) S fun y x h1 h2 h3 h4 => ?_
  rw [cell_turn _ _ _ _ _ (by omega) (by omega) (by omega) (by omega), cell_turn _ _ _ _ _ (by omega) (by omega) (by omega) (by omega), cell_turn _ _ _ _ _ (by omega) (by omega) (by omega) (by omega), cell_turn _ _ _ _ _ (by omega) (by omega) (by omega) (by omega)]
  congr 1 <;> omega
theorem mir_mir (s : List (List Int)) : (s.map List.reverse).map List.reverse = s := by
  rw [List.map_map]
  conv => rhs; rw [← List.map_id s]
  refine List.map_congr_left fun r _ => ?_
  simp
theorem mir_turn {s : List (List Int)} {h w : Nat} (S : Sh s h w) : (turnL s h w).map List.reverse = turnL (turnL (turnL (s.map List.reverse) h w) w h) h w := by
  refine Sh.ext (mirrored_sh (turn_sh S)) (turn_sh (turn_sh (turn_sh (mirrored_sh S)))) fun y x h1 h2 h3 h4 => ?_
  rw [cell_mir (turn_sh S) y x h1 h2 h3 h4, cell_turn _ _ _ _ _ (by omega) (by omega) (by omega) (by omega), cell_turn _ _ _ _ _ (by omega) (by omega) (by omega) (by omega), cell_turn _ _ _ _ _ (by omega) (by omega) (by omega) (by omega), cell_turn _ _ _ _ _ (by omega) (by omega) (by omega) (by omega), cell_mir S _ _ (by omega) (by omega) (by omega) (by omega)]
  congr 1 <;> omega
theorem cut_cut {s : List (List Int)} {h w : Nat} (S : Sh s h w) (x y wd ht l t : Nat) (h1 : x + wd ≤ w) (h2 : y + ht ≤ h) (h3 : l < wd) (h4 : t < ht) : cutS' (cutS' s x y wd ht) l t (wd - l) (ht - t) = cutS' s (x + l) (y + t) (wd - l) (ht - t) := by
  have C1 := cut_sh S x y wd ht (by omega) (by omega) h1 h2
  have C2 := cut_sh C1 l t (wd - l) (ht - t) (by omega) (by omega) (by omega) (by omega)
  have C3 := cut_sh S (x + l) (y + t) (wd - l) (ht - t) (by omega) (by omega) (by omega) (by omega)
  refine Sh.ext C2 C3 fun v u g1 g2 g3 g4 => ?_
  have e1 := cell_cut C1 l t (wd - l) (ht - t) (by omega) (by omega) (v + t) (u + l) (by omega) (by omega) (by omega) (by omega)
  have e2 := cell_cut S x y wd ht h1 h2 (v + t + y) (u + l + x) (by omega) (by omega) (by omega) (by omega)
  have e3 := cell_cut S (x + l) (y + t) (wd - l) (ht - t) (by omega) (by omega) (v + t + y) (u + l + x) (by omega) (by omega) (by omega) (by omega)
  have a1 : v + (t : Int) - t = v := by omega
  have a2 : u + (l : Int) - l = u := by omega
  have a3 : v + (t : Int) + y - y = v + t := by omega
  have a4 : u + (l : Int) + x - x = u + l := by omega
  have a5 : v + (t : Int) + y - ((y + t : Nat) : Int) = v := by omega
  have a6 : u + (l : Int) + x - ((x + l : Nat) : Int) = u := by omega
  rw [a1, a2] at e1
  rw [a3, a4] at e2
  rw [a5, a6] at e3
  rw [e1, e2, e3]
theorem turn_cut {s : List (List Int)} {h w : Nat} (S : Sh s h w) (x y wd ht : Nat) (h1 : x + wd ≤ w) (h2 : y + ht ≤ h) (h3 : 1 ≤ wd) (h4 : 1 ≤ ht) : turnL (cutS' s x y wd ht) ht wd = cutS' (turnL s h w) (h - y - ht) x ht wd := by
  have C1 := cut_sh S x y wd ht h3 h4 h1 h2
  have C2 := cut_sh (turn_sh S) (h - y - ht) x ht wd h4 h3 (by omega) h1
  refine Sh.ext (turn_sh C1) C2 fun v u g1 g2 g3 g4 => ?_
  rw [cell_turn _ _ _ _ _ g1 g2 g3 g4]
  have e1 := cell_cut S x y wd ht h1 h2 ((ht : Int) - 1 - u + y) (v + x) (by omega) (by omega) (by omega) (by omega)
  have e2 := cell_cut (turn_sh S) (h - y - ht) x ht wd (by omega) h1 (v + x) (u + (h - y - ht : Nat)) (by omega) (by omega) (by omega) (by omega)
  have a1 : (ht : Int) - 1 - u + y - y = ht - 1 - u := by omega
  have a2 : v + (x : Int) - x = v := by omega
  have a3 : u + ((h - y - ht : Nat) : Int) - ((h - y - ht : Nat) : Int) = u := by omega
  rw [a1, a2] at e1
  rw [a2, a3] at e2
  rw [e1, e2, cell_turn _ _ _ _ _ (by omega) (by omega) (by omega) (by omega)]
  congr 1
  omega
theorem lit_lit {s : List (List Int)} {h w : Nat} (S : Sh s h w) (c : Int) (hc : 0 ≤ c) (ha : ∀ r ∈ s, ∀ v ∈ r, v + c ≤ 255) : litL (-c) (litL c s) = s := by
  unfold litL
  rw [List.map_map]
  conv => rhs; rw [← List.map_id s]
  refine List.map_congr_left fun r hr => ?_
  simp -implicitDefEqProofs only [Function.comp, List.map_map, id]
  conv => rhs; rw [← List.map_id r]
  refine List.map_congr_left fun v hv => ?_
  have := ha r hr v hv
  have := S.lev r hr v hv
  simp -implicitDefEqProofs only [Function.comp, id]
  omega
/-! all levels -/
theorem flat_mk (h w : Nat) (f : Int → Int → Int) : (mk h w f).flatten = (rangeI 0 h).flatMap fun y => (rangeI 0 w).map fun x => f y x := by
  unfold mk
  rw [List.flatMap_def]
theorem flatMap_cons_perm {α β : Type} (g : α → β) (k : α → List β) : ∀ ys : List α, (ys.flatMap fun y => g y :: k y).Perm (ys.map g ++ ys.flatMap k)
  | [] => List.Perm.refl _
  | y :: ys => by
    rw [List.flatMap_cons, List.flatMap_cons, List.map_cons, List.cons_append, List.cons_append]
    refine List.Perm.cons _ ?_
    have ih := flatMap_cons_perm g k ys
    refine (List.Perm.append_left (k y) ih).trans ?_
    rw [← List.append_assoc, ← List.append_assoc]
    exact List.Perm.append_right _ List.perm_append_comm
theorem swap_perm {α β γ : Type} (f : α → β → γ) (ys : List β) : ∀ xs : List α, (xs.flatMap fun x => ys.map fun y => f x y).Perm (ys.flatMap fun y => xs.map fun x => f x y)
  | [] => by simp
  | x :: xs => by
    rw [List.flatMap_cons]
    have e : (ys.flatMap fun y => (x :: xs).map fun x => f x y) = ys.flatMap fun y => f x y :: (xs.map fun x => f x y) := rfl
    rw [e]
    exact (List.Perm.append_left _ (swap_perm f ys xs)).trans (flatMap_cons_perm (f x) (fun y => xs.map fun x => f x y) ys).symm
/-- turned and mirrored: the levels, in another order -/
theorem flat_transp {s : List (List Int)} {h w : Nat} (S : Sh s h w) : ((turnL s h w).map List.reverse).flatten.Perm s.flatten := by
  have e : (turnL s h w).map List.reverse = mk w h fun y x => cell s x y := by
    refine Sh.ext (mirrored_sh (turn_sh S)) (mk_sh S.w1 S.w2 S.h1 S.h2 fun y x => cell_bd S x y) fun y x h1 h2 h3 h4 => ?_
    rw [cell_mir (turn_sh S) y x h1 h2 h3 h4, cell_turn _ _ _ _ _ (by omega) (by omega) (by omega) (by omega), cell_mk _ _ _ _ _ h1 h2 h3 h4]
    congr 1
    omega
  rw [e]
  conv => rhs; rw [mk_eq S]
  rw [flat_mk, flat_mk]
  exact swap_perm (fun y x => cell s x y) (rangeI 0 h) (rangeI 0 w)
theorem flat_mir (s : List (List Int)) : (s.map List.reverse).flatten.Perm s.flatten := by
  induction s with
  | nil => exact List.Perm.refl _
  | cons r s ih =>
    rw [List.map_cons, List.flatten_cons, List.flatten_cons]
    exact (List.reverse_perm r).append ih
theorem sum_rows (s : List (List Int)) : (s.map List.sum).sum = s.flatten.sum := by
  induction s with
  | nil => rfl
  | cons r s ih => rw [List.map_cons, List.sum_cons, List.flatten_cons, List.sum_append, ih]
theorem flat_len {s : List (List Int)} {w : Nat} (h : ∀ r ∈ s, r.length = w) : s.flatten.length = s.length * w := by
  induction s with
  | nil => simp
  | cons r s ih => rw [List.flatten_cons, List.length_append, h r (by simp), ih fun q hq => h q (by simp [hq]), List.length_cons, Nat.succ_mul, Nat.add_comm]
theorem mean_eq {s : List (List Int)} {h w : Nat} (S : Sh s h w) : sem_mean [shD s] = .ok (.tuple [.int (s.flatten.sum / (Int.gcd s.flatten.sum ((w : Int) * h) : Int)), .int ((w : Int) * h / (Int.gcd s.flatten.sum ((w : Int) * h) : Int))]) := by
  have l := S.len; have h1 := S.h1; have h2 := S.h2; have w1 := S.w1; have w2 := S.w2
  have hp : 0 < (w : Int) * h := Int.mul_pos (by omega) (by omega)
  have hq : (w : Int) * h < 1000000 := by
    have : w * h ≤ 12 * 12 := Nat.mul_le_mul w2 h2
    have e : (w : Int) * h = ((w * h : Nat) : Int) := by simp
    rw [e]
    omega
  have m : mulF (.int (w : Int)) (.int (h : Int)) = some (.int ((w : Int) * h)) := f_mul _ _ (.inl (by omega))
  simp -implicitDefEqProofs only [sem_mean, b_mean, look_eq S, size_of_eq S, ap_sSeq, seqO_nx, seqO_rt, seqO_exc, ap_sIf, ifO_t, ifO_f, ifO_exc, ap_sNx, ap_sSet, ap_sOwn, ap_sRet, ap_sDrop, ap_sAsg, outB_some, bT_nm, bT_tp, bTs_nil, bTs_cons, ap_sRaise, ap_sPar, parO_ok, ap_sFor, ap_sRetV, retO_own, retO_val, ap_sFrz, frzO_own, frzO_val, ap_sApp, ap_sExt, ap_eV, valO_val, ap_eB, borO_val, borO_own, ap_eC, ap_eOp, opO_ok, ap_eUn, ap_eTup, ap_eLst, tupR_ok, lstR_ok, ap_eCB, ap_eCall, callO_ok, callO_exc, ap_gNot, notR_b, ap_gTru, truR_b, truR_list, ap_gAnd, ap_gOr, andO_t, andO_f, orO_t, orO_f, ap_eAnd, ap_eOr, eandO_t, eandO_f, eorO_t, eorO_f, ap_eNot, enotO_b, enotO_list, ap_eIf, eifO_t, eifO_f, ap_eChain, chO_ok, ap_eIsi, isiO_int, isiO_tup, isiO_lst, isiO_bl, isiO_str, isiO_non, isInt_int, isInt_bl, isInt_tup, isInt_lst, isInt_str, isInt_non, isBool_int, isBool_bl, isTup_tup, isTup_lst, isTup_int, isTup_non, isTup_str, isTup_bl, isLst_lst, isLst_tup, f_add, f_sub, f_neg, f_eqI, f_neI, f_eqB, f_neB, f_lt, f_le, f_gt, f_ge, f_is, f_isNot, isNone_int, isNone_tup, isNone_lst, isNone_non, f_len_l, f_len_t, f_len_rd, f_tup_l, f_tup_t, f_max2, f_min2, f_abs, f_sum_l, f_sum_t, f_ix0, f_ix1, f_ix2, f_ix3, f_rev_t, outR_nx, outR_rt, outR_exc, nones0, nonesS, runB_eq, ap_eSl, optI_none, optI_some, optO_int, ap_sWh, ap_iSeq, items_l, items_t, ap_iRange1, ap_iRange2, wipeE_nil, wipeE_cons, evA_nil, evA_cons, RL.cons_ok, RL.cons_exc, RL.bind_ok, RL.bind_exc, RL.out_ok, RL.out_exc, Rs.bind_ok, Rs.bind_exc, Rs.out_ok, Rs.out_exc, Rs.of_some, Option.bind_some, List.getElem?_cons_zero, List.getElem?_cons_succ, List.set_cons_zero, List.set_cons_succ, List.map_cons, List.map_nil, List.cons_append, List.nil_append, List.length_cons, List.length_nil, Nat.reduceAdd, Nat.reduceSub, Nat.reduceLeDiff, Nat.reduceLT, Bool.not_true, Bool.not_false, decide_true, decide_false]
  rw [eLc_mapA s rowD (fun r => PyData.int r.sum) (by simp -implicitDefEqProofs only [items_sh, ap_sSeq, seqO_nx, seqO_rt, seqO_exc, ap_sIf, ifO_t, ifO_f, ifO_exc, ap_sNx, ap_sSet, ap_sOwn, ap_sRet, ap_sDrop, ap_sAsg, outB_some, bT_nm, bT_tp, bTs_nil, bTs_cons, ap_sRaise, ap_sPar, parO_ok, ap_sFor, ap_sRetV, retO_own, retO_val, ap_sFrz, frzO_own, frzO_val, ap_sApp, ap_sExt, ap_eV, valO_val, ap_eB, borO_val, borO_own, ap_eC, ap_eOp, opO_ok, ap_eUn, ap_eTup, ap_eLst, tupR_ok, lstR_ok, ap_eCB, ap_eCall, callO_ok, callO_exc, ap_gNot, notR_b, ap_gTru, truR_b, truR_list, ap_gAnd, ap_gOr, andO_t, andO_f, orO_t, orO_f, ap_eAnd, ap_eOr, eandO_t, eandO_f, eorO_t, eorO_f, ap_eNot, enotO_b, enotO_list, ap_eIf, eifO_t, eifO_f, ap_eChain, chO_ok, ap_eIsi, isiO_int, isiO_tup, isiO_lst, isiO_bl, isiO_str, isiO_non, isInt_int, isInt_bl, isInt_tup, isInt_lst, isInt_str, isInt_non, isBool_int, isBool_bl, isTup_tup, isTup_lst, isTup_int, isTup_non, isTup_str, isTup_bl, isLst_lst, isLst_tup, f_add, f_sub, f_neg, f_eqI, f_neI, f_eqB, f_neB, f_lt, f_le, f_gt, f_ge, f_is, f_isNot, isNone_int, isNone_tup, isNone_lst, isNone_non, f_len_l, f_len_t, f_len_rd, f_tup_l, f_tup_t, f_max2, f_min2, f_abs, f_sum_l, f_sum_t, f_ix0, f_ix1, f_ix2, f_ix3, f_rev_t, outR_nx, outR_rt, outR_exc, nones0, nonesS, runB_eq, ap_eSl, optI_none, optI_some, optO_int, ap_sWh, ap_iSeq, items_l, items_t, ap_iRange1, ap_iRange2, wipeE_nil, wipeE_cons, evA_nil, evA_cons, RL.cons_ok, RL.cons_exc, RL.bind_ok, RL.bind_exc, RL.out_ok, RL.out_exc, Rs.bind_ok, Rs.bind_exc, Rs.out_ok, Rs.out_exc, Rs.of_some, Option.bind_some, List.getElem?_cons_zero, List.getElem?_cons_succ, List.set_cons_zero, List.set_cons_succ, List.map_cons, List.map_nil, List.cons_append, List.nil_append, List.length_cons, List.length_nil, Nat.reduceAdd, Nat.reduceSub, Nat.reduceLeDiff, Nat.reduceLT, Bool.not_true, Bool.not_false, decide_true, decide_false]) (by omega) (by
    intro r hr
    have e : sumF [rowD r] = some (.int r.sum) := f_sum_t r
    simp -implicitDefEqProofs only [e, ap_sSeq, seqO_nx, seqO_rt, seqO_exc, ap_sIf, ifO_t, ifO_f, ifO_exc, ap_sNx, ap_sSet, ap_sOwn, ap_sRet, ap_sDrop, ap_sAsg, outB_some, bT_nm, bT_tp, bTs_nil, bTs_cons, ap_sRaise, ap_sPar, parO_ok, ap_sFor, ap_sRetV, retO_own, retO_val, ap_sFrz, frzO_own, frzO_val, ap_sApp, ap_sExt, ap_eV, valO_val, ap_eB, borO_val, borO_own, ap_eC, ap_eOp, opO_ok, ap_eUn, ap_eTup, ap_eLst, tupR_ok, lstR_ok, ap_eCB, ap_eCall, callO_ok, callO_exc, ap_gNot, notR_b, ap_gTru, truR_b, truR_list, ap_gAnd, ap_gOr, andO_t, andO_f, orO_t, orO_f, ap_eAnd, ap_eOr, eandO_t, eandO_f, eorO_t, eorO_f, ap_eNot, enotO_b, enotO_list, ap_eIf, eifO_t, eifO_f, ap_eChain, chO_ok, ap_eIsi, isiO_int, isiO_tup, isiO_lst, isiO_bl, isiO_str, isiO_non, isInt_int, isInt_bl, isInt_tup, isInt_lst, isInt_str, isInt_non, isBool_int, isBool_bl, isTup_tup, isTup_lst, isTup_int, isTup_non, isTup_str, isTup_bl, isLst_lst, isLst_tup, f_add, f_sub, f_neg, f_eqI, f_neI, f_eqB, f_neB, f_lt, f_le, f_gt, f_ge, f_is, f_isNot, isNone_int, isNone_tup, isNone_lst, isNone_non, f_len_l, f_len_t, f_len_rd, f_tup_l, f_tup_t, f_max2, f_min2, f_abs, f_sum_l, f_sum_t, f_ix0, f_ix1, f_ix2, f_ix3, f_rev_t, outR_nx, outR_rt, outR_exc, nones0, nonesS, runB_eq, ap_eSl, optI_none, optI_some, optO_int, ap_sWh, ap_iSeq, items_l, items_t, ap_iRange1, ap_iRange2, wipeE_nil, wipeE_cons, evA_nil, evA_cons, RL.cons_ok, RL.cons_exc, RL.bind_ok, RL.bind_exc, RL.out_ok, RL.out_exc, Rs.bind_ok, Rs.bind_exc, Rs.out_ok, Rs.out_exc, Rs.of_some, Option.bind_some, List.getElem?_cons_zero, List.getElem?_cons_succ, List.set_cons_zero, List.set_cons_succ, List.map_cons, List.map_nil, List.cons_append, List.nil_append, List.length_cons, List.length_nil, Nat.reduceAdd, Nat.reduceSub, Nat.reduceLeDiff, Nat.reduceLT, Bool.not_true, Bool.not_false, decide_true, decide_false]
    exact ⟨trivial, trivial⟩)]
  have em : (s.map fun r => PyData.int r.sum) = (s.map List.sum).map PyData.int := by simp
  rw [em]
  simp -implicitDefEqProofs only [m, sum_rows, least_eq _ _ hp hq, ap_sSeq, seqO_nx, seqO_rt, seqO_exc, ap_sIf, ifO_t, ifO_f, ifO_exc, ap_sNx, ap_sSet, ap_sOwn, ap_sRet, ap_sDrop, ap_sAsg, outB_some, bT_nm, bT_tp, bTs_nil, bTs_cons, ap_sRaise, ap_sPar, parO_ok, ap_sFor, ap_sRetV, retO_own, retO_val, ap_sFrz, frzO_own, frzO_val, ap_sApp, ap_sExt, ap_eV, valO_val, ap_eB, borO_val, borO_own, ap_eC, ap_eOp, opO_ok, ap_eUn, ap_eTup, ap_eLst, tupR_ok, lstR_ok, ap_eCB, ap_eCall, callO_ok, callO_exc, ap_gNot, notR_b, ap_gTru, truR_b, truR_list, ap_gAnd, ap_gOr, andO_t, andO_f, orO_t, orO_f, ap_eAnd, ap_eOr, eandO_t, eandO_f, eorO_t, eorO_f, ap_eNot, enotO_b, enotO_list, ap_eIf, eifO_t, eifO_f, ap_eChain, chO_ok, ap_eIsi, isiO_int, isiO_tup, isiO_lst, isiO_bl, isiO_str, isiO_non, isInt_int, isInt_bl, isInt_tup, isInt_lst, isInt_str, isInt_non, isBool_int, isBool_bl, isTup_tup, isTup_lst, isTup_int, isTup_non, isTup_str, isTup_bl, isLst_lst, isLst_tup, f_add, f_sub, f_neg, f_eqI, f_neI, f_eqB, f_neB, f_lt, f_le, f_gt, f_ge, f_is, f_isNot, isNone_int, isNone_tup, isNone_lst, isNone_non, f_len_l, f_len_t, f_len_rd, f_tup_l, f_tup_t, f_max2, f_min2, f_abs, f_sum_l, f_sum_t, f_ix0, f_ix1, f_ix2, f_ix3, f_rev_t, outR_nx, outR_rt, outR_exc, nones0, nonesS, runB_eq, ap_eSl, optI_none, optI_some, optO_int, ap_sWh, ap_iSeq, items_l, items_t, ap_iRange1, ap_iRange2, wipeE_nil, wipeE_cons, evA_nil, evA_cons, RL.cons_ok, RL.cons_exc, RL.bind_ok, RL.bind_exc, RL.out_ok, RL.out_exc, Rs.bind_ok, Rs.bind_exc, Rs.out_ok, Rs.out_exc, Rs.of_some, Option.bind_some, List.getElem?_cons_zero, List.getElem?_cons_succ, List.set_cons_zero, List.set_cons_succ, List.map_cons, List.map_nil, List.cons_append, List.nil_append, List.length_cons, List.length_nil, Nat.reduceAdd, Nat.reduceSub, Nat.reduceLeDiff, Nat.reduceLT, Bool.not_true, Bool.not_false, decide_true, decide_false]
end VVlaw

set_option Elab.async false
set_option linter.all false
set_option maxRecDepth 100000
set_option maxHeartbeats 8000000
/-! PLi: the spread of a shot. -/
namespace VVlaw
open PySem PySem.Spec L2 VV
open PyProof.Rows hiding St
def getI (ps : List (Int × Int)) (v : Int) : Option Int := (ps.find? fun q => q.1 == v).map (·.2)
def putI (ps : List (Int × Int)) (v c : Int) : List (Int × Int) := if (ps.any fun q => q.1 == v) = true then ps.map (fun q => if (q.1 == v) = true then (q.1, c) else q) else ps ++ [(v, c)]
def bump (ps : List (Int × Int)) (v : Int) : List (Int × Int) := putI ps v ((getI ps v).getD 0 + 1)
def pd (b : Int × Int) : D × D := (.int b.1, .int b.2)
theorem eqv_int (a b : Int) : PyData.eqv (.int a) (.int b) = (a == b) := by simp -implicitDefEqProofs only [PyData.eqv]
theorem dgetP_pd (ps : List (Int × Int)) (v : Int) : dgetP (ps.map pd) (.int v) = (getI ps v).map PyData.int := by
  unfold dgetP getI
  rw [List.find?_map, Option.map_map, Option.map_map]
  have e : ((fun q : D × D => PyData.eqv q.1 (.int v)) ∘ pd) = fun q => q.1 == v := by funext q; exact eqv_int q.1 v
  rw [e]
  rfl
theorem dputP_pd (ps : List (Int × Int)) (v c : Int) : dputP (ps.map pd) (.int v) (.int c) = (putI ps v c).map pd := by
  unfold dputP putI
  rw [List.any_map]
  have e : ((fun q : D × D => PyData.eqv q.1 (.int v)) ∘ pd) = fun q => q.1 == v := by funext q; exact eqv_int q.1 v
  rw [e]
  by_cases h : (ps.any fun q => q.1 == v) = true
  · rw [if_pos h, if_pos h, List.map_map, List.map_map]
    refine List.map_congr_left fun q _ => ?_
    simp -implicitDefEqProofs only [Function.comp]
    have e2 : PyData.eqv (pd q).1 (.int v) = (q.1 == v) := eqv_int q.1 v
    rw [e2]
    by_cases g : (q.1 == v) = true
    · rw [if_pos g, if_pos g]; rfl
    · rw [if_neg g, if_neg g]
  · rw [if_neg h, if_neg h, List.map_append]
    rfl
theorem asRd_pd (ps : List (Int × Int)) : asRd (.dict (ps.map pd)) = none := by
  cases ps with
  | nil => rfl
  | cons b r => rfl
theorem splitD_pd (ps : List (Int × Int)) : splitD (ps.map pd) = (false, ps.map pd) := by
  cases ps with
  | nil => rfl
  | cons b r => rfl
theorem isDk_pd (ps : List (Int × Int)) : isDk (.dict (ps.map pd)) = true := by
  show (!(asRd (.dict (ps.map pd))).isSome) = true
  rw [asRd_pd]
  rfl
theorem dAt_pd (ps : List (Int × Int)) (v : Int) : dAt (.dict (ps.map pd)) (.int v) = some ((getI ps v).map PyData.int) := by
  show (if (asRd (.dict (ps.map pd))).isSome then none else match splitD (ps.map pd) with
    | (true, qs) => if isKeyT (.int v) = true then some (dgetP qs (.int v)) else none
    | (false, qs) => if isKeyD (.int v) = true then some (dgetP qs (.int v)) else none) = _
  rw [asRd_pd, splitD_pd, ← dgetP_pd]
  rfl
theorem dPut_pd (ps : List (Int × Int)) (v c : Int) (h : ps.length < 16777216) : dPut (.dict (ps.map pd)) (.int v) (.int c) = some (.dict ((putI ps v c).map pd)) := by
  show (if (asRd (.dict (ps.map pd))).isSome then none else match splitD (ps.map pd) with
    | (true, qs) => if (isKeyT (.int v) && decide (qs.length < sizeLine)) = true then some (PyData.dict ((.none, .none) :: dputP qs (.int v) (.int c))) else none
    | (false, qs) => if (isKeyD (.int v) && decide (qs.length < sizeLine)) = true then some (PyData.dict (dputP qs (.int v) (.int c))) else none) = _
  rw [asRd_pd, splitD_pd, ← dputP_pd]
  have e : (isKeyD (.int v) && decide ((ps.map pd).length < sizeLine)) = true := by
    rw [List.length_map]
    exact decide_eq_true (show ps.length < 16777216 from h)
  simp -implicitDefEqProofs only [Option.isSome_none, Bool.false_eq_true, if_false, e, if_true]
theorem getI_put (v c u : Int) : ∀ ps : List (Int × Int), getI (putI ps v c) u = if u = v then some c else getI ps u := by
  intro ps
  unfold putI
  by_cases h : (ps.any fun q => q.1 == v) = true
  · rw [if_pos h]
    induction ps with
    | nil => simp at h
    | cons q ps ih =>
      unfold getI at ih ⊢
      rw [List.map_cons, List.find?_cons, List.find?_cons]
      by_cases e : q.1 = v
      · have e1 : (q.1 == v) = true := by simp [e]
        rw [if_pos e1]
        by_cases eu : u = v
        · subst eu
          simp [e1]
        · have e2 : (q.1 == u) = false := by simp -implicitDefEqProofs only [beq_eq_false_iff_ne]; intro z; exact eu (z.symm.trans e)
          simp -implicitDefEqProofs only [e2]
          by_cases h2 : (ps.any fun q => q.1 == v) = true
          · have := ih h2
            rw [if_neg eu] at this ⊢
            exact this
          · rw [if_neg eu]
            have hm : (ps.map fun q => if (q.1 == v) = true then (q.1, c) else q) = ps := by
              conv => rhs; rw [← List.map_id ps]
              refine List.map_congr_left fun z hz => ?_
              have : ¬ (z.1 == v) = true := fun q => h2 (List.any_eq_true.mpr ⟨z, hz, q⟩)
              rw [if_neg this]
              rfl
            rw [hm]
      · have e1 : ¬ (q.1 == v) = true := by simp [e]
        rw [if_neg e1]
        have h2 : (ps.any fun q => q.1 == v) = true := by
          rw [List.any_cons] at h
          simpa [e] using h
        have := ih h2
        by_cases eq : (q.1 == u) = true
        · have : ¬ u = v := fun z => e1 (by rw [← z]; exact eq)
          simp -implicitDefEqProofs only [eq, if_neg this]
        · simp -implicitDefEqProofs only [eq]
          exact this
  · rw [if_neg h]
    unfold getI
    rw [List.find?_append]
    by_cases eu : u = v
    · subst eu
      have : (ps.find? fun q => q.1 == u) = none := by
        rw [List.find?_eq_none]
        intro z hz q
        exact h (List.any_eq_true.mpr ⟨z, hz, q⟩)
      rw [this]
      simp
    · rw [if_neg eu]
      have e : ([(v, c)].find? fun q => q.1 == u) = none := by
        rw [List.find?_eq_none]
        intro z hz
        simp -implicitDefEqProofs only [List.mem_singleton] at hz
        subst hz
        simp -implicitDefEqProofs only [beq_iff_eq]
        exact fun q => eu q.symm
      rw [e]
      simp
theorem keys_put (v c : Int) (ps : List (Int × Int)) (hn : (ps.map (·.1)).Nodup) : ((putI ps v c).map (·.1)).Nodup := by
  unfold putI
  by_cases h : (ps.any fun q => q.1 == v) = true
  · rw [if_pos h, List.map_map]
    have e : ((fun q : Int × Int => q.1) ∘ fun q => if (q.1 == v) = true then (q.1, c) else q) = fun q => q.1 := by
      funext q
      simp -implicitDefEqProofs only [Function.comp]
      split <;> rfl
    rw [e]
    exact hn
  · rw [if_neg h, List.map_append, List.nodup_append]
    refine ⟨hn, by simp, fun a ha b hb => ?_⟩
    simp -implicitDefEqProofs only [List.map_cons, List.map_nil, List.mem_singleton] at hb
    subst hb
    intro e
    subst e
    obtain ⟨q, hq, e2⟩ := List.mem_map.mp ha
    exact h (List.any_eq_true.mpr ⟨q, hq, by simp [e2]⟩)
theorem mem_getI {ps : List (Int × Int)} (hn : (ps.map (·.1)).Nodup) (b : Int × Int) : b ∈ ps ↔ getI ps b.1 = some b.2 := by
  unfold getI
  constructor
  · intro hb
    induction ps with
    | nil => simp at hb
    | cons q ps ih =>
      rw [List.map_cons, List.nodup_cons] at hn
      rw [List.find?_cons]
      rcases List.mem_cons.mp hb with rfl | hb
      · simp
      · have : ¬ q.1 = b.1 := fun e => hn.1 (by rw [e]; exact List.mem_map.mpr ⟨b, hb, rfl⟩)
        have e1 : (q.1 == b.1) = false := by simp [this]
        simp -implicitDefEqProofs only [e1]
        exact ih hn.2 hb
  · intro h
    obtain ⟨q, hq, e⟩ := Option.map_eq_some_iff.mp h
    have m := List.mem_of_find?_eq_some hq
    have e2 := List.find?_some hq
    simp -implicitDefEqProofs only [beq_iff_eq] at e2
    have : q = b := Prod.ext e2 e
    rw [← this]
    exact m
/-- what the counting holds behind the levels L -/
structure Cnt (L : List Int) (ps : List (Int × Int)) : Prop where
  nd : (ps.map (·.1)).Nodup
  at_ : ∀ v, getI ps v = if v ∈ L then some ((L.count v : Nat) : Int) else none
  len : ps.length ≤ L.length
theorem Cnt.nil : Cnt [] [] := ⟨by simp, fun v => by simp [getI], by simp⟩
theorem len_put (v c : Int) (ps : List (Int × Int)) : (putI ps v c).length ≤ ps.length + 1 := by
  unfold putI
  split
  · rw [List.length_map]; omega
  · rw [List.length_append]; simp
theorem Cnt.step {L : List Int} {ps : List (Int × Int)} (C : Cnt L ps) (v : Int) : Cnt (L ++ [v]) (bump ps v) := by
  refine ⟨keys_put v _ ps C.nd, fun u => ?_, ?_⟩
  · unfold bump
    rw [getI_put]
    by_cases e : u = v
    · subst e
      rw [if_pos rfl, if_pos (by simp), C.at_, List.count_append]
      by_cases m : u ∈ L
      · rw [if_pos m]
        simp
      · rw [if_neg m, List.count_eq_zero_of_not_mem m]
        simp
    · rw [if_neg e, C.at_]
      have : u ∈ L ++ [v] ↔ u ∈ L := by simp [e]
      have hc : (L ++ [v]).count u = L.count u := by
        rw [List.count_append, List.count_eq_zero_of_not_mem (a := u) (l := [v]) (by simp [e])]
        rfl
      simp -implicitDefEqProofs only [this, hc]
  · have := len_put v ((getI ps v).getD 0 + 1) ps
    have := C.len
    unfold bump
    rw [List.length_append]
    simp
    omega
theorem leP_iff (a b : Int × Int) : leP a b = true ↔ (a.1 < b.1 ∨ (a.1 = b.1 ∧ a.2 ≤ b.2)) := by unfold leP; exact decide_eq_true_iff
theorem nd_keys {ps : List (Int × Int)} (h : (ps.map (·.1)).Nodup) : ps.Nodup := by
  unfold List.Nodup at h ⊢
  rw [List.pairwise_map] at h
  exact h.imp fun q e => q (by rw [e])
theorem Cnt.sorted_eq {L M : List Int} {ps qs : List (Int × Int)} (C : Cnt L ps) (E : Cnt M qs) (h : L.Perm M) : ps.mergeSort leP = qs.mergeSort leP := by
  have nd1 : ps.Nodup := nd_keys C.nd
  have nd2 : qs.Nodup := nd_keys E.nd
  have pm : ps.Perm qs := (List.perm_ext_iff_of_nodup nd1 nd2).mpr fun b => by
    rw [mem_getI C.nd, mem_getI E.nd, C.at_, E.at_]
    have e1 : b.1 ∈ L ↔ b.1 ∈ M := h.mem_iff
    have e2 : L.count b.1 = M.count b.1 := h.count_eq b.1
    simp -implicitDefEqProofs only [e1, e2]
  have tr : ∀ a b c : Int × Int, leP a b = true → leP b c = true → leP a c = true := fun a b c h1 h2 => by
    rw [leP_iff] at *
    omega
  have to : ∀ a b : Int × Int, (leP a b || leP b a) = true := fun a b => by
    rw [Bool.or_eq_true, leP_iff, leP_iff]
    omega
  refine List.Perm.eq_of_pairwise (le := fun a b => leP a b = true) (fun a b _ _ h1 h2 => ?_) (List.pairwise_mergeSort tr to ps) (List.pairwise_mergeSort tr to qs) (((List.mergeSort_perm ps leP).trans pm).trans (List.mergeSort_perm qs leP).symm)
  rw [leP_iff] at h1 h2
  exact Prod.ext (by omega) (by omega)
/-! the def -/
theorem one_go (x y : D) (ps : List (Int × Int)) (v : Int) (h : ps.length < 16777216) : lp_spread_1 [some (.val x), some (.own (.dict (ps.map pd))), some (.val y), some (.val (.int v))] = .nx [some (.val x), some (.own (.dict ((bump ps v).map pd))), some (.val y), some (.val (.int v))] := by
  have e : eGet2 (eB 1) (eV 3) (eC (.int 0)) [some (.val x), some (.own (.dict (ps.map pd))), some (.val y), some (.val (.int v))] = .ok (.int ((getI ps v).getD 0)) := by
    show (borO (some (some (.own (.dict (ps.map pd)))))).bind (fun d => if isDk d = true then (Rs.ok (PyData.int v)).bind fun k => (Rs.ok (PyData.int 0)).bind fun z => match dAt d k with
      | some r => Rs.ok (r.getD z)
      | none => .bad else .bad) = _
    rw [borO_own, Rs.bind_ok, if_pos (isDk_pd ps), Rs.bind_ok, Rs.bind_ok, dAt_pd]
    cases getI ps v <;> rfl
  have e2 : eOp addF (eGet2 (eB 1) (eV 3) (eC (.int 0))) (eC (.int 1)) [some (.val x), some (.own (.dict (ps.map pd))), some (.val y), some (.val (.int v))] = .ok (.int ((getI ps v).getD 0 + 1)) := by
    rw [ap_eOp, e]
    rfl
  unfold lp_spread_1 sPutD
  rw [e2, Rs.out_ok]
  show ownD _ 1 _ = _
  unfold ownD
  show (Rs.ok (PyData.int v)).out _ (fun k => match dPut (.dict (ps.map pd)) k (.int ((getI ps v).getD 0 + 1)) with
    | some d' => Out.nx _
    | none => .bad) = _
  rw [Rs.out_ok, dPut_pd ps v _ h]
  rfl
theorem row_go (x y : D) : ∀ (r L : List Int) (ps : List (Int × Int)) (o : Option Sl), Cnt L ps → L.length + r.length < 16777216 → ∃ qs o', forGo (.nm 3) lp_spread_1 (r.map PyData.int) [some (.val x), some (.own (.dict (ps.map pd))), some (.val y), o] = .nx [some (.val x), some (.own (.dict (qs.map pd))), some (.val y), o'] ∧ Cnt (L ++ r) qs
  | [], L, ps, o, C, _ => ⟨ps, o, rfl, by rw [List.append_nil]; exact C⟩
  | v :: r, L, ps, o, C, h => by
    rw [List.length_cons] at h
    have e : lp_spread_1 ([some (.val x), some (.own (.dict (ps.map pd))), some (.val y), o].set 3 (some (.val (.int v)))) = _ := one_go x y ps v (by have := C.len; omega)
    rw [List.map_cons, forGo_nx e]
    obtain ⟨qs, o', e2, C2⟩ := row_go x y r (L ++ [v]) (bump ps v) (some (.val (.int v))) (C.step v) (by rw [List.length_append]; simp; omega)
    exact ⟨qs, o', e2, by rw [List.append_assoc] at C2; exact C2⟩
theorem rows_go (x : D) : ∀ (s : List (List Int)) (L : List Int) (ps : List (Int × Int)) (o2 o3 : Option Sl), Cnt L ps → L.length + s.flatten.length < 16777216 → ∃ qs o2' o3', forGo (.nm 2) lp_spread_2 (s.map rowD) [some (.val x), some (.own (.dict (ps.map pd))), o2, o3] = .nx [some (.val x), some (.own (.dict (qs.map pd))), o2', o3'] ∧ Cnt (L ++ s.flatten) qs
  | [], L, ps, o2, o3, C, _ => ⟨ps, o2, o3, rfl, by simpa using C⟩
  | r :: s, L, ps, o2, o3, C, h => by
    rw [List.flatten_cons, List.length_append] at h
    obtain ⟨qs, o', e, C1⟩ := row_go x (rowD r) r L ps o3 C (by omega)
    have e' : lp_spread_2 ([some (.val x), some (.own (.dict (ps.map pd))), o2, o3].set 2 (some (.val (rowD r)))) = .nx [some (.val x), some (.own (.dict (qs.map pd))), some (.val (rowD r)), o'] := by
      simp -implicitDefEqProofs only [lp_spread_2, items_row, ap_sSeq, seqO_nx, seqO_rt, seqO_exc, ap_sIf, ifO_t, ifO_f, ifO_exc, ap_sNx, ap_sSet, ap_sOwn, ap_sRet, ap_sDrop, ap_sAsg, outB_some, bT_nm, bT_tp, bTs_nil, bTs_cons, ap_sRaise, ap_sPar, parO_ok, ap_sFor, ap_sRetV, retO_own, retO_val, ap_sFrz, frzO_own, frzO_val, ap_sApp, ap_sExt, ap_eV, valO_val, ap_eB, borO_val, borO_own, ap_eC, ap_eOp, opO_ok, ap_eUn, ap_eTup, ap_eLst, tupR_ok, lstR_ok, ap_eCB, ap_eCall, callO_ok, callO_exc, ap_gNot, notR_b, ap_gTru, truR_b, truR_list, ap_gAnd, ap_gOr, andO_t, andO_f, orO_t, orO_f, ap_eAnd, ap_eOr, eandO_t, eandO_f, eorO_t, eorO_f, ap_eNot, enotO_b, enotO_list, ap_eIf, eifO_t, eifO_f, ap_eChain, chO_ok, ap_eIsi, isiO_int, isiO_tup, isiO_lst, isiO_bl, isiO_str, isiO_non, isInt_int, isInt_bl, isInt_tup, isInt_lst, isInt_str, isInt_non, isBool_int, isBool_bl, isTup_tup, isTup_lst, isTup_int, isTup_non, isTup_str, isTup_bl, isLst_lst, isLst_tup, f_add, f_sub, f_neg, f_eqI, f_neI, f_eqB, f_neB, f_lt, f_le, f_gt, f_ge, f_is, f_isNot, isNone_int, isNone_tup, isNone_lst, isNone_non, f_len_l, f_len_t, f_len_rd, f_tup_l, f_tup_t, f_max2, f_min2, f_abs, f_sum_l, f_sum_t, f_ix0, f_ix1, f_ix2, f_ix3, f_rev_t, outR_nx, outR_rt, outR_exc, nones0, nonesS, runB_eq, ap_eSl, optI_none, optI_some, optO_int, ap_sWh, ap_iSeq, items_l, items_t, ap_iRange1, ap_iRange2, wipeE_nil, wipeE_cons, evA_nil, evA_cons, RL.cons_ok, RL.cons_exc, RL.bind_ok, RL.bind_exc, RL.out_ok, RL.out_exc, Rs.bind_ok, Rs.bind_exc, Rs.out_ok, Rs.out_exc, Rs.of_some, Option.bind_some, List.getElem?_cons_zero, List.getElem?_cons_succ, List.set_cons_zero, List.set_cons_succ, List.map_cons, List.map_nil, List.cons_append, List.nil_append, List.length_cons, List.length_nil, Nat.reduceAdd, Nat.reduceSub, Nat.reduceLeDiff, Nat.reduceLT, Bool.not_true, Bool.not_false, decide_true, decide_false]
      exact e
    rw [List.map_cons, forGo_nx e']
    obtain ⟨rs, p2, p3, e2, C2⟩ := rows_go x s (L ++ r) qs _ o' C1 (by rw [List.length_append]; omega)
    exact ⟨rs, p2, p3, e2, by rw [List.flatten_cons, ← List.append_assoc]; exact C2⟩
theorem intPairs_pd : ∀ ps : List (Int × Int), intPairs (ps.map pd) = some ps
  | [] => rfl
  | b :: ps => by
    show (intPairs (ps.map pd)).map _ = _
    rw [intPairs_pd ps]
    rfl
theorem spread_eq {s : List (List Int)} {h w : Nat} (S : Sh s h w) : ∃ ps, sem_spread [shD s] = .ok (.list ((ps.mergeSort leP).map encP)) ∧ Cnt s.flatten ps := by
  have l := S.len; have h2 := S.h2; have w2 := S.w2
  have fl := flat_len S.row
  have hb : s.length * w ≤ 12 * 12 := Nat.mul_le_mul (by omega) w2
  obtain ⟨qs, o2, o3, e, C⟩ := rows_go (shD s) s [] [] none none Cnt.nil (by rw [List.length_nil, fl]; omega)
  rw [List.nil_append] at C
  have so : sortItF (.dict (qs.map pd)) = some (.list ((qs.mergeSort leP).map encP)) := by
    show (intPairs (qs.map pd)).map _ = _
    rw [intPairs_pd]
    rfl
  rw [List.map_nil] at e
  refine ⟨qs, ?_, C⟩
  simp -implicitDefEqProofs only [sem_spread, b_spread, look_eq S, items_sh, e, so, ap_sSeq, seqO_nx, seqO_rt, seqO_exc, ap_sIf, ifO_t, ifO_f, ifO_exc, ap_sNx, ap_sSet, ap_sOwn, ap_sRet, ap_sDrop, ap_sAsg, outB_some, bT_nm, bT_tp, bTs_nil, bTs_cons, ap_sRaise, ap_sPar, parO_ok, ap_sFor, ap_sRetV, retO_own, retO_val, ap_sFrz, frzO_own, frzO_val, ap_sApp, ap_sExt, ap_eV, valO_val, ap_eB, borO_val, borO_own, ap_eC, ap_eOp, opO_ok, ap_eUn, ap_eTup, ap_eLst, tupR_ok, lstR_ok, ap_eCB, ap_eCall, callO_ok, callO_exc, ap_gNot, notR_b, ap_gTru, truR_b, truR_list, ap_gAnd, ap_gOr, andO_t, andO_f, orO_t, orO_f, ap_eAnd, ap_eOr, eandO_t, eandO_f, eorO_t, eorO_f, ap_eNot, enotO_b, enotO_list, ap_eIf, eifO_t, eifO_f, ap_eChain, chO_ok, ap_eIsi, isiO_int, isiO_tup, isiO_lst, isiO_bl, isiO_str, isiO_non, isInt_int, isInt_bl, isInt_tup, isInt_lst, isInt_str, isInt_non, isBool_int, isBool_bl, isTup_tup, isTup_lst, isTup_int, isTup_non, isTup_str, isTup_bl, isLst_lst, isLst_tup, f_add, f_sub, f_neg, f_eqI, f_neI, f_eqB, f_neB, f_lt, f_le, f_gt, f_ge, f_is, f_isNot, isNone_int, isNone_tup, isNone_lst, isNone_non, f_len_l, f_len_t, f_len_rd, f_tup_l, f_tup_t, f_max2, f_min2, f_abs, f_sum_l, f_sum_t, f_ix0, f_ix1, f_ix2, f_ix3, f_rev_t, outR_nx, outR_rt, outR_exc, nones0, nonesS, runB_eq, ap_eSl, optI_none, optI_some, optO_int, ap_sWh, ap_iSeq, items_l, items_t, ap_iRange1, ap_iRange2, wipeE_nil, wipeE_cons, evA_nil, evA_cons, RL.cons_ok, RL.cons_exc, RL.bind_ok, RL.bind_exc, RL.out_ok, RL.out_exc, Rs.bind_ok, Rs.bind_exc, Rs.out_ok, Rs.out_exc, Rs.of_some, Option.bind_some, List.getElem?_cons_zero, List.getElem?_cons_succ, List.set_cons_zero, List.set_cons_succ, List.map_cons, List.map_nil, List.cons_append, List.nil_append, List.length_cons, List.length_nil, Nat.reduceAdd, Nat.reduceSub, Nat.reduceLeDiff, Nat.reduceLT, Bool.not_true, Bool.not_false, decide_true, decide_false]
end VVlaw

set_option Elab.async false
set_option linter.all false
set_option maxRecDepth 100000
set_option maxHeartbeats 4000000
/-! PLj: fractions in least terms, of any size. -/
namespace VVlaw
open PySem PySem.Spec L2 VV
open PyProof.Rows hiding St
/-- below 2 ^ k, either way -/
def Bd (k : Nat) (i : Int) : Prop := i.natAbs < 2 ^ k
theorem Bd.mono {k l : Nat} {i : Int} (h : Bd k i) (hl : k ≤ l) : Bd l i := Nat.lt_of_lt_of_le h (Nat.pow_le_pow_right (by decide) hl)
theorem Bd.mul {k l : Nat} {i j : Int} (h : Bd k i) (g : Bd l j) : Bd (k + l) (i * j) := by
  unfold Bd at *
  rw [Int.natAbs_mul, Nat.pow_add]
  exact Nat.mul_lt_mul'' h g
theorem Bd.add {k : Nat} {i j : Int} (h : Bd k i) (g : Bd k j) : Bd (k + 1) (i + j) := by
  unfold Bd at *
  have := Int.natAbs_add_le i j
  rw [Nat.pow_succ]
  omega
theorem Bd.neg {k : Nat} {i : Int} (h : Bd k i) : Bd k (-i) := by
  unfold Bd at *
  rw [Int.natAbs_neg]
  exact h
theorem Bd.sub {k : Nat} {i j : Int} (h : Bd k i) (g : Bd k j) : Bd (k + 1) (i - j) := by
  rw [Int.sub_eq_add_neg]
  exact h.add g.neg
theorem Bd.dvd {k : Nat} {i j : Int} (h : Bd k i) (hd : j ∣ i) : Bd k (i / j) := by
  unfold Bd at *
  obtain ⟨c, rfl⟩ := hd
  by_cases hj : j = 0
  · subst hj
    simp
    exact Nat.two_pow_pos k
  · rw [Int.mul_ediv_cancel_left _ hj]
    rw [Int.natAbs_mul] at h
    have : 1 ≤ j.natAbs := by omega
    exact Nat.lt_of_le_of_lt (Nat.le_mul_of_pos_left _ this) h
theorem Bd.of {k : Nat} {i : Int} (a b : Int) (h : a ≤ i ∧ i ≤ b) (ha : a.natAbs < 2 ^ k) (hb : b.natAbs < 2 ^ k) : Bd k i := by
  unfold Bd
  omega
theorem Bd.log {k : Nat} {i : Int} (h : Bd k i) (hk : 0 < k) : i.natAbs.log2 < k := by
  by_cases h0 : i.natAbs = 0
  · rw [h0]
    simpa using hk
  · exact (Nat.log2_lt h0).2 h
theorem f_mulB {k l : Nat} (i j : Int) (h : Bd k i) (g : Bd l j) (hk : 0 < k) (hl : 0 < l) (hs : k + l ≤ 1000000) : mulF (.int i) (.int j) = some (.int (i * j)) := by
  have h1 := h.log hk
  have h2 := g.log hl
  have e : mulOk i j = true := by
    unfold mulOk
    simp -implicitDefEqProofs only [Bool.or_eq_true, decide_eq_true_eq]
    exact .inr (by omega)
  show (if mulOk i j = true then _ else _) = _
  rw [if_pos e]
theorem f_divB {k : Nat} (i j : Int) (h0 : 0 < j) (h : Bd k j) (hk : 0 < k) (hk2 : k ≤ 9000) : divF (.int i) (.int j) = some (.int (i / j)) := by
  have h1 := h.log hk
  have e : divOk j = true := by
    unfold divOk
    simp -implicitDefEqProofs only [Bool.and_eq_true, decide_eq_true_eq]
    exact ⟨by omega, by omega⟩
  show (if divOk j = true then _ else _) = _
  rw [if_pos e, Int.fdiv_eq_ediv_of_nonneg _ (by omega)]
/-! the greatest that divides both -/
def gC : EF := eOp neF (eV 1) (eC (.int 0))
def gB : SF := sPar 0 1 [eV 1, eOp modF (eV 0) (eV 1)]
theorem gcd_stop (n : Nat) (a : Int) : whGo gC gB (n + 1) [some (.val (.int a)), some (.val (.int 0))] = .nx [some (.val (.int a)), some (.val (.int 0))] := whGo_f (by simp -implicitDefEqProofs only [gC, ap_sSeq, seqO_nx, seqO_rt, seqO_exc, ap_sIf, ifO_t, ifO_f, ifO_exc, ap_sNx, ap_sSet, ap_sOwn, ap_sRet, ap_sDrop, ap_sAsg, outB_some, bT_nm, bT_tp, bTs_nil, bTs_cons, ap_sRaise, ap_sPar, parO_ok, ap_sFor, ap_sRetV, retO_own, retO_val, ap_sFrz, frzO_own, frzO_val, ap_sApp, ap_sExt, ap_eV, valO_val, ap_eB, borO_val, borO_own, ap_eC, ap_eOp, opO_ok, ap_eUn, ap_eTup, ap_eLst, tupR_ok, lstR_ok, ap_eCB, ap_eCall, callO_ok, callO_exc, ap_gNot, notR_b, ap_gTru, truR_b, truR_list, ap_gAnd, ap_gOr, andO_t, andO_f, orO_t, orO_f, ap_eAnd, ap_eOr, eandO_t, eandO_f, eorO_t, eorO_f, ap_eNot, enotO_b, enotO_list, ap_eIf, eifO_t, eifO_f, ap_eChain, chO_ok, ap_eIsi, isiO_int, isiO_tup, isiO_lst, isiO_bl, isiO_str, isiO_non, isInt_int, isInt_bl, isInt_tup, isInt_lst, isInt_str, isInt_non, isBool_int, isBool_bl, isTup_tup, isTup_lst, isTup_int, isTup_non, isTup_str, isTup_bl, isLst_lst, isLst_tup, f_add, f_sub, f_neg, f_eqI, f_neI, f_eqB, f_neB, f_lt, f_le, f_gt, f_ge, f_is, f_isNot, isNone_int, isNone_tup, isNone_lst, isNone_non, f_len_l, f_len_t, f_len_rd, f_tup_l, f_tup_t, f_max2, f_min2, f_abs, f_sum_l, f_sum_t, f_ix0, f_ix1, f_ix2, f_ix3, f_rev_t, outR_nx, outR_rt, outR_exc, nones0, nonesS, runB_eq, ap_eSl, optI_none, optI_some, optO_int, ap_sWh, ap_iSeq, items_l, items_t, ap_iRange1, ap_iRange2, wipeE_nil, wipeE_cons, evA_nil, evA_cons, RL.cons_ok, RL.cons_exc, RL.bind_ok, RL.bind_exc, RL.out_ok, RL.out_exc, Rs.bind_ok, Rs.bind_exc, Rs.out_ok, Rs.out_exc, Rs.of_some, Option.bind_some, List.getElem?_cons_zero, List.getElem?_cons_succ, List.set_cons_zero, List.set_cons_succ, List.map_cons, List.map_nil, List.cons_append, List.nil_append, List.length_cons, List.length_nil, Nat.reduceAdd, Nat.reduceSub, Nat.reduceLeDiff, Nat.reduceLT, Bool.not_true, Bool.not_false, decide_true, decide_false])
theorem gcd_one (n : Nat) (a b : Int) (hb : 0 < b) : whGo gC gB (n + 1) [some (.val (.int a)), some (.val (.int b))] = whGo gC gB n [some (.val (.int b)), some (.val (.int (a % b)))] := by
  have ne : b ≠ 0 := by omega
  exact whGo_t (by simp -implicitDefEqProofs only [gC, ne, ap_sSeq, seqO_nx, seqO_rt, seqO_exc, ap_sIf, ifO_t, ifO_f, ifO_exc, ap_sNx, ap_sSet, ap_sOwn, ap_sRet, ap_sDrop, ap_sAsg, outB_some, bT_nm, bT_tp, bTs_nil, bTs_cons, ap_sRaise, ap_sPar, parO_ok, ap_sFor, ap_sRetV, retO_own, retO_val, ap_sFrz, frzO_own, frzO_val, ap_sApp, ap_sExt, ap_eV, valO_val, ap_eB, borO_val, borO_own, ap_eC, ap_eOp, opO_ok, ap_eUn, ap_eTup, ap_eLst, tupR_ok, lstR_ok, ap_eCB, ap_eCall, callO_ok, callO_exc, ap_gNot, notR_b, ap_gTru, truR_b, truR_list, ap_gAnd, ap_gOr, andO_t, andO_f, orO_t, orO_f, ap_eAnd, ap_eOr, eandO_t, eandO_f, eorO_t, eorO_f, ap_eNot, enotO_b, enotO_list, ap_eIf, eifO_t, eifO_f, ap_eChain, chO_ok, ap_eIsi, isiO_int, isiO_tup, isiO_lst, isiO_bl, isiO_str, isiO_non, isInt_int, isInt_bl, isInt_tup, isInt_lst, isInt_str, isInt_non, isBool_int, isBool_bl, isTup_tup, isTup_lst, isTup_int, isTup_non, isTup_str, isTup_bl, isLst_lst, isLst_tup, f_add, f_sub, f_neg, f_eqI, f_neI, f_eqB, f_neB, f_lt, f_le, f_gt, f_ge, f_is, f_isNot, isNone_int, isNone_tup, isNone_lst, isNone_non, f_len_l, f_len_t, f_len_rd, f_tup_l, f_tup_t, f_max2, f_min2, f_abs, f_sum_l, f_sum_t, f_ix0, f_ix1, f_ix2, f_ix3, f_rev_t, outR_nx, outR_rt, outR_exc, nones0, nonesS, runB_eq, ap_eSl, optI_none, optI_some, optO_int, ap_sWh, ap_iSeq, items_l, items_t, ap_iRange1, ap_iRange2, wipeE_nil, wipeE_cons, evA_nil, evA_cons, RL.cons_ok, RL.cons_exc, RL.bind_ok, RL.bind_exc, RL.out_ok, RL.out_exc, Rs.bind_ok, Rs.bind_exc, Rs.out_ok, Rs.out_exc, Rs.of_some, Option.bind_some, List.getElem?_cons_zero, List.getElem?_cons_succ, List.set_cons_zero, List.set_cons_succ, List.map_cons, List.map_nil, List.cons_append, List.nil_append, List.length_cons, List.length_nil, Nat.reduceAdd, Nat.reduceSub, Nat.reduceLeDiff, Nat.reduceLT, Bool.not_true, Bool.not_false, decide_true, decide_false]) (by simp -implicitDefEqProofs only [gB, f_modP a b hb, ap_sSeq, seqO_nx, seqO_rt, seqO_exc, ap_sIf, ifO_t, ifO_f, ifO_exc, ap_sNx, ap_sSet, ap_sOwn, ap_sRet, ap_sDrop, ap_sAsg, outB_some, bT_nm, bT_tp, bTs_nil, bTs_cons, ap_sRaise, ap_sPar, parO_ok, ap_sFor, ap_sRetV, retO_own, retO_val, ap_sFrz, frzO_own, frzO_val, ap_sApp, ap_sExt, ap_eV, valO_val, ap_eB, borO_val, borO_own, ap_eC, ap_eOp, opO_ok, ap_eUn, ap_eTup, ap_eLst, tupR_ok, lstR_ok, ap_eCB, ap_eCall, callO_ok, callO_exc, ap_gNot, notR_b, ap_gTru, truR_b, truR_list, ap_gAnd, ap_gOr, andO_t, andO_f, orO_t, orO_f, ap_eAnd, ap_eOr, eandO_t, eandO_f, eorO_t, eorO_f, ap_eNot, enotO_b, enotO_list, ap_eIf, eifO_t, eifO_f, ap_eChain, chO_ok, ap_eIsi, isiO_int, isiO_tup, isiO_lst, isiO_bl, isiO_str, isiO_non, isInt_int, isInt_bl, isInt_tup, isInt_lst, isInt_str, isInt_non, isBool_int, isBool_bl, isTup_tup, isTup_lst, isTup_int, isTup_non, isTup_str, isTup_bl, isLst_lst, isLst_tup, f_add, f_sub, f_neg, f_eqI, f_neI, f_eqB, f_neB, f_lt, f_le, f_gt, f_ge, f_is, f_isNot, isNone_int, isNone_tup, isNone_lst, isNone_non, f_len_l, f_len_t, f_len_rd, f_tup_l, f_tup_t, f_max2, f_min2, f_abs, f_sum_l, f_sum_t, f_ix0, f_ix1, f_ix2, f_ix3, f_rev_t, outR_nx, outR_rt, outR_exc, nones0, nonesS, runB_eq, ap_eSl, optI_none, optI_some, optO_int, ap_sWh, ap_iSeq, items_l, items_t, ap_iRange1, ap_iRange2, wipeE_nil, wipeE_cons, evA_nil, evA_cons, RL.cons_ok, RL.cons_exc, RL.bind_ok, RL.bind_exc, RL.out_ok, RL.out_exc, Rs.bind_ok, Rs.bind_exc, Rs.out_ok, Rs.out_exc, Rs.of_some, Option.bind_some, List.getElem?_cons_zero, List.getElem?_cons_succ, List.set_cons_zero, List.set_cons_succ, List.map_cons, List.map_nil, List.cons_append, List.nil_append, List.length_cons, List.length_nil, Nat.reduceAdd, Nat.reduceSub, Nat.reduceLeDiff, Nat.reduceLT, Bool.not_true, Bool.not_false, decide_true, decide_false])
theorem gcd_step' (a b : Int) : Int.gcd a b = Int.gcd b (a % b) := by
  have key : ∀ u v k : Int, ((Int.gcd u v : Nat) : Int) ∣ u - v * k := fun u v k => Int.dvd_sub (Int.gcd_dvd_left ..) (Int.dvd_trans (Int.gcd_dvd_right ..) (Int.dvd_mul_right ..))
  apply Nat.dvd_antisymm
  · refine Int.natCast_dvd_natCast.mp (Int.dvd_coe_gcd (Int.gcd_dvd_right ..) ?_)
    rw [Int.emod_def]
    exact key a b _
  · refine Int.natCast_dvd_natCast.mp (Int.dvd_coe_gcd ?_ (Int.gcd_dvd_left ..))
    have e : a = a % b + b * (a / b) := (Int.emod_add_mul_ediv a b).symm
    have h : ((Int.gcd b (a % b) : Nat) : Int) ∣ a % b + b * (a / b) := Int.dvd_add (Int.gcd_dvd_right ..) (Int.dvd_trans (Int.gcd_dvd_left ..) (Int.dvd_mul_right ..))
    rw [← e] at h
    exact h
theorem gcd_go : ∀ (k : Nat) (a b : Int), 0 ≤ b → b < 2 ^ k → ∀ m : Nat, ∃ g : Int, whGo gC gB (2 * k + 1 + m) [some (.val (.int a)), some (.val (.int b))] = .nx [some (.val (.int g)), some (.val (.int 0))] ∧ g.natAbs = Int.gcd a b
  | 0, a, b, h0, h, m => by
    obtain rfl : b = 0 := by omega
    refine ⟨a, ?_, by simp⟩
    rw [show 2 * 0 + 1 + m = m + 1 by omega]
    exact gcd_stop m a
  | k + 1, a, b, h0, h, m => by
    by_cases hb : b = 0
    · subst hb
      exact ⟨a, by rw [show 2 * (k + 1) + 1 + m = (2 * k + 2 + m) + 1 by omega]; exact gcd_stop _ a, by simp⟩
    · have r0 := Int.emod_nonneg a hb
      have r1 := Int.emod_lt_of_pos a (show 0 < b by omega)
      rw [show 2 * (k + 1) + 1 + m = ((2 * k + 1 + m) + 1) + 1 by omega, gcd_one _ a b (by omega), gcd_step' a b]
      generalize a % b = r at r0 r1
      by_cases hr : r = 0
      · subst hr
        exact ⟨b, gcd_stop _ b, by simp⟩
      · rw [gcd_one _ b r (by omega), gcd_step' b r]
        have q0 := Int.emod_nonneg b hr
        have q1 := Int.emod_lt_of_pos b (show 0 < r by omega)
        have q2 : b % r ≤ b - r := by
          have d1 : 1 ≤ b / r := Int.le_ediv_of_mul_le (by omega) (by omega)
          have d2 := Int.mul_le_mul_of_nonneg_left d1 (show 0 ≤ r by omega)
          have d3 := Int.emod_add_mul_ediv b r
          omega
        have h2 : (2 : Int) ^ (k + 1) = 2 ^ k * 2 := Int.pow_succ ..
        exact gcd_go k r (b % r) q0 (by omega) m
/-- the fraction a over b in least terms -/
def frD (a b : Int) : D := .tuple [.int (a / (Int.gcd a b : Int)), .int (b / (Int.gcd a b : Int))]
theorem gcd_pos {a b : Int} (h : 0 < b) : 0 < (Int.gcd a b : Int) := by
  have := Int.gcd_pos_of_ne_zero_right a (show b ≠ 0 by omega)
  omega
theorem fr_mul {a b : Int} : (a / (Int.gcd a b : Int)) * (Int.gcd a b : Int) = a ∧ (b / (Int.gcd a b : Int)) * (Int.gcd a b : Int) = b :=
  ⟨Int.ediv_mul_cancel (Int.gcd_dvd_left ..), Int.ediv_mul_cancel (Int.gcd_dvd_right ..)⟩
theorem fr_pos {a b : Int} (h : 0 < b) : 0 < b / (Int.gcd a b : Int) := by
  have g := gcd_pos (a := a) h
  have e := (fr_mul (a := a) (b := b)).2
  by_cases z : 0 < b / (Int.gcd a b : Int)
  · exact z
  · replace z : b / (Int.gcd a b : Int) ≤ 0 := by omega
    have := Int.mul_le_mul_of_nonneg_right z (Int.le_of_lt g)
    omega
theorem fr_one {a b : Int} (h : 0 < b) : Int.gcd (a / (Int.gcd a b : Int)) (b / (Int.gcd a b : Int)) = 1 := Int.gcd_ediv_gcd_ediv_gcd (Int.gcd_pos_of_ne_zero_right a (by omega))
theorem dvd_of_one {k m n : Int} (h : Int.gcd k m = 1) (hd : k ∣ m * n) : k ∣ n := by
  have h1 : k.natAbs ∣ m.natAbs * n.natAbs := by
    rw [← Int.natAbs_mul]
    exact Int.natAbs_dvd_natAbs.mpr hd
  exact Int.natAbs_dvd_natAbs.mp (Nat.Coprime.dvd_of_dvd_mul_left h h1)
/-- least terms are one -/
theorem coprime_uniq {a b c d : Int} (hb : 0 < b) (hd : 0 < d) (h1 : Int.gcd a b = 1) (h2 : Int.gcd c d = 1) (e : a * d = c * b) : a = c ∧ b = d := by
  have b1 : b ∣ d := by
    have : b ∣ a * d := ⟨c, by rw [e, Int.mul_comm]⟩
    exact dvd_of_one (by rw [Int.gcd_comm]; exact h1) this
  have b2 : d ∣ b := by
    have : d ∣ c * b := ⟨a, by rw [← e, Int.mul_comm]⟩
    exact dvd_of_one (by rw [Int.gcd_comm]; exact h2) this
  have ebd : b = d := Int.dvd_antisymm (by omega) (by omega) b1 b2
  subst ebd
  exact ⟨Int.eq_of_mul_eq_mul_right (by omega) e, rfl⟩
theorem fr_eq {a b c d : Int} (hb : 0 < b) (hd : 0 < d) (e : a * d = c * b) : a / (Int.gcd a b : Int) = c / (Int.gcd c d : Int) ∧ b / (Int.gcd a b : Int) = d / (Int.gcd c d : Int) := by
  refine coprime_uniq (fr_pos hb) (fr_pos hd) (fr_one hb) (fr_one hd) ?_
  obtain ⟨e1, e2⟩ := fr_mul (a := a) (b := b)
  obtain ⟨e3, e4⟩ := fr_mul (a := c) (b := d)
  have g1 := gcd_pos (a := a) hb
  have g2 := gcd_pos (a := c) hd
  generalize a / (Int.gcd a b : Int) = n at *
  generalize b / (Int.gcd a b : Int) = m at *
  generalize c / (Int.gcd c d : Int) = n' at *
  generalize d / (Int.gcd c d : Int) = m' at *
  generalize (Int.gcd a b : Int) = g at *
  generalize (Int.gcd c d : Int) = g' at *
  subst e1 e2 e3 e4
  have : (n * m') * (g * g') = (n' * m) * (g * g') := by grind
  exact Int.eq_of_mul_eq_mul_right (by have := Int.mul_pos g1 g2; omega) this
theorem frD_eq {a b c d : Int} (hb : 0 < b) (hd : 0 < d) (e : a * d = c * b) : frD a b = frD c d := by
  obtain ⟨h1, h2⟩ := fr_eq hb hd e
  unfold frD
  rw [h1, h2]
theorem frD_inj {a b c d : Int} (hb : 0 < b) (hd : 0 < d) (e : frD a b = frD c d) : a * d = c * b := by
  unfold frD at e
  simp -implicitDefEqProofs only [PyData.tuple.injEq, List.cons.injEq, PyData.int.injEq, and_true] at e
  obtain ⟨h1, h2⟩ := e
  obtain ⟨e1, e2⟩ := fr_mul (a := a) (b := b)
  obtain ⟨e3, e4⟩ := fr_mul (a := c) (b := d)
  rw [h1] at e1
  rw [h2] at e2
  generalize c / (Int.gcd c d : Int) = n' at *
  generalize d / (Int.gcd c d : Int) = m' at *
  generalize (Int.gcd a b : Int) = g at *
  generalize (Int.gcd c d : Int) = g' at *
  subst e1 e2 e3 e4
  grind
theorem frD_one (a : Int) : frD a 1 = .tuple [.int a, .int 1] := by
  unfold frD
  rw [Int.gcd_one_right]
  simp
theorem frD_neg {a b : Int} : frD (-a) b = .tuple [.int (-(a / (Int.gcd a b : Int))), .int (b / (Int.gcd a b : Int))] := by
  unfold frD
  rw [Int.neg_gcd, Int.neg_ediv_of_dvd (Int.gcd_dvd_left ..)]
theorem frD_ly (a b : Int) : Ly 1 (frD a b) := Ly.tuple fun d hd => by
  simp -implicitDefEqProofs only [List.mem_cons, List.not_mem_nil, or_false] at hd
  rcases hd with rfl | rfl <;> exact Ly.int 0 _
end VVlaw

set_option Elab.async false
set_option linter.all false
set_option maxRecDepth 100000
set_option maxHeartbeats 4000000
/-! PLk: the laws' own fractions, steps, unlikeness. -/
namespace VVlaw
open PySem PySem.Spec L2 VV
open PyProof.Rows hiding St
theorem gcd_go_big (a b : Int) (h0 : 0 ≤ b) (hb : Bd 8000 b) : ∃ g : Int, whGo gC gB 1000000 [some (.val (.int a)), some (.val (.int b))] = .nx [some (.val (.int g)), some (.val (.int 0))] ∧ g.natAbs = Int.gcd a b := by
  have h : b < 2 ^ 8000 := by
    unfold Bd at hb
    have e : ((2 ^ 8000 : Nat) : Int) = 2 ^ 8000 := by
      rw [Int.natCast_pow]
      rfl
    have e2 : b = (b.natAbs : Int) := by omega
    rw [e2, ← e]
    exact Int.ofNat_lt.mpr hb
  obtain ⟨g, e, eg⟩ := gcd_go 8000 a b h0 h 983999
  exact ⟨g, e, eg⟩
theorem lcommon_big (a b : Int) (h0 : 0 ≤ b) (hb : Bd 8000 b) : sem__law_common [.int a, .int b] = .ok (.int (Int.gcd a b)) := by
  obtain ⟨g, e, eg⟩ := gcd_go_big a b h0 hb
  have e' : whGo (eOp neF (eV 1) (eC (.int 0))) lp__law_common_1 1000000 [some (.val (.int a)), some (.val (.int b))] = .nx [some (.val (.int g)), some (.val (.int 0))] := e
  simp -implicitDefEqProofs only [sem__law_common, b__law_common, e', ap_sSeq, seqO_nx, seqO_rt, seqO_exc, ap_sIf, ifO_t, ifO_f, ifO_exc, ap_sNx, ap_sSet, ap_sOwn, ap_sRet, ap_sDrop, ap_sAsg, outB_some, bT_nm, bT_tp, bTs_nil, bTs_cons, ap_sRaise, ap_sPar, parO_ok, ap_sFor, ap_sRetV, retO_own, retO_val, ap_sFrz, frzO_own, frzO_val, ap_sApp, ap_sExt, ap_eV, valO_val, ap_eB, borO_val, borO_own, ap_eC, ap_eOp, opO_ok, ap_eUn, ap_eTup, ap_eLst, tupR_ok, lstR_ok, ap_eCB, ap_eCall, callO_ok, callO_exc, ap_gNot, notR_b, ap_gTru, truR_b, truR_list, ap_gAnd, ap_gOr, andO_t, andO_f, orO_t, orO_f, ap_eAnd, ap_eOr, eandO_t, eandO_f, eorO_t, eorO_f, ap_eNot, enotO_b, enotO_list, ap_eIf, eifO_t, eifO_f, ap_eChain, chO_ok, ap_eIsi, isiO_int, isiO_tup, isiO_lst, isiO_bl, isiO_str, isiO_non, isInt_int, isInt_bl, isInt_tup, isInt_lst, isInt_str, isInt_non, isBool_int, isBool_bl, isTup_tup, isTup_lst, isTup_int, isTup_non, isTup_str, isTup_bl, isLst_lst, isLst_tup, f_add, f_sub, f_neg, f_eqI, f_neI, f_eqB, f_neB, f_lt, f_le, f_gt, f_ge, f_is, f_isNot, isNone_int, isNone_tup, isNone_lst, isNone_non, f_len_l, f_len_t, f_len_rd, f_tup_l, f_tup_t, f_max2, f_min2, f_abs, f_sum_l, f_sum_t, f_ix0, f_ix1, f_ix2, f_ix3, f_rev_t, outR_nx, outR_rt, outR_exc, nones0, nonesS, runB_eq, ap_eSl, optI_none, optI_some, optO_int, ap_sWh, ap_iSeq, items_l, items_t, ap_iRange1, ap_iRange2, wipeE_nil, wipeE_cons, evA_nil, evA_cons, RL.cons_ok, RL.cons_exc, RL.bind_ok, RL.bind_exc, RL.out_ok, RL.out_exc, Rs.bind_ok, Rs.bind_exc, Rs.out_ok, Rs.out_exc, Rs.of_some, Option.bind_some, List.getElem?_cons_zero, List.getElem?_cons_succ, List.set_cons_zero, List.set_cons_succ, List.map_cons, List.map_nil, List.cons_append, List.nil_append, List.length_cons, List.length_nil, Nat.reduceAdd, Nat.reduceSub, Nat.reduceLeDiff, Nat.reduceLT, Bool.not_true, Bool.not_false, decide_true, decide_false]
  congr 2
  rw [← eg]
  split <;> omega
theorem Bd.gcd {k : Nat} {a b : Int} (h0 : 0 < b) (hb : Bd k b) : Bd k (Int.gcd a b : Int) := by
  unfold Bd at *
  have := Int.le_of_dvd h0 (Int.gcd_dvd_right (a := a) (b := b))
  omega
theorem lleast_big (a b : Int) (h0 : 0 < b) (hb : Bd 8000 b) : sem__law_least [.int a, .int b] = .ok (frD a b) := by
  have hn : ¬ b < 0 := by omega
  have g0 := gcd_pos (a := a) h0
  have gb := Bd.gcd (a := a) h0 hb
  simp -implicitDefEqProofs only [sem__law_least, b__law_least, lcommon_big a b (by omega) hb, hn, ap_sSeq, seqO_nx, seqO_rt, seqO_exc, ap_sIf, ifO_t, ifO_f, ifO_exc, ap_sNx, ap_sSet, ap_sOwn, ap_sRet, ap_sDrop, ap_sAsg, outB_some, bT_nm, bT_tp, bTs_nil, bTs_cons, ap_sRaise, ap_sPar, parO_ok, ap_sFor, ap_sRetV, retO_own, retO_val, ap_sFrz, frzO_own, frzO_val, ap_sApp, ap_sExt, ap_eV, valO_val, ap_eB, borO_val, borO_own, ap_eC, ap_eOp, opO_ok, ap_eUn, ap_eTup, ap_eLst, tupR_ok, lstR_ok, ap_eCB, ap_eCall, callO_ok, callO_exc, ap_gNot, notR_b, ap_gTru, truR_b, truR_list, ap_gAnd, ap_gOr, andO_t, andO_f, orO_t, orO_f, ap_eAnd, ap_eOr, eandO_t, eandO_f, eorO_t, eorO_f, ap_eNot, enotO_b, enotO_list, ap_eIf, eifO_t, eifO_f, ap_eChain, chO_ok, ap_eIsi, isiO_int, isiO_tup, isiO_lst, isiO_bl, isiO_str, isiO_non, isInt_int, isInt_bl, isInt_tup, isInt_lst, isInt_str, isInt_non, isBool_int, isBool_bl, isTup_tup, isTup_lst, isTup_int, isTup_non, isTup_str, isTup_bl, isLst_lst, isLst_tup, f_add, f_sub, f_neg, f_eqI, f_neI, f_eqB, f_neB, f_lt, f_le, f_gt, f_ge, f_is, f_isNot, isNone_int, isNone_tup, isNone_lst, isNone_non, f_len_l, f_len_t, f_len_rd, f_tup_l, f_tup_t, f_max2, f_min2, f_abs, f_sum_l, f_sum_t, f_ix0, f_ix1, f_ix2, f_ix3, f_rev_t, outR_nx, outR_rt, outR_exc, nones0, nonesS, runB_eq, ap_eSl, optI_none, optI_some, optO_int, ap_sWh, ap_iSeq, items_l, items_t, ap_iRange1, ap_iRange2, wipeE_nil, wipeE_cons, evA_nil, evA_cons, RL.cons_ok, RL.cons_exc, RL.bind_ok, RL.bind_exc, RL.out_ok, RL.out_exc, Rs.bind_ok, Rs.bind_exc, Rs.out_ok, Rs.out_exc, Rs.of_some, Option.bind_some, List.getElem?_cons_zero, List.getElem?_cons_succ, List.set_cons_zero, List.set_cons_succ, List.map_cons, List.map_nil, List.cons_append, List.nil_append, List.length_cons, List.length_nil, Nat.reduceAdd, Nat.reduceSub, Nat.reduceLeDiff, Nat.reduceLT, Bool.not_true, Bool.not_false, decide_true, decide_false]
  rw [f_divB a _ g0 gb (by decide) (by decide), f_divB b _ g0 gb (by decide) (by decide)]
  simp -implicitDefEqProofs only [ap_sSeq, seqO_nx, seqO_rt, seqO_exc, ap_sIf, ifO_t, ifO_f, ifO_exc, ap_sNx, ap_sSet, ap_sOwn, ap_sRet, ap_sDrop, ap_sAsg, outB_some, bT_nm, bT_tp, bTs_nil, bTs_cons, ap_sRaise, ap_sPar, parO_ok, ap_sFor, ap_sRetV, retO_own, retO_val, ap_sFrz, frzO_own, frzO_val, ap_sApp, ap_sExt, ap_eV, valO_val, ap_eB, borO_val, borO_own, ap_eC, ap_eOp, opO_ok, ap_eUn, ap_eTup, ap_eLst, tupR_ok, lstR_ok, ap_eCB, ap_eCall, callO_ok, callO_exc, ap_gNot, notR_b, ap_gTru, truR_b, truR_list, ap_gAnd, ap_gOr, andO_t, andO_f, orO_t, orO_f, ap_eAnd, ap_eOr, eandO_t, eandO_f, eorO_t, eorO_f, ap_eNot, enotO_b, enotO_list, ap_eIf, eifO_t, eifO_f, ap_eChain, chO_ok, ap_eIsi, isiO_int, isiO_tup, isiO_lst, isiO_bl, isiO_str, isiO_non, isInt_int, isInt_bl, isInt_tup, isInt_lst, isInt_str, isInt_non, isBool_int, isBool_bl, isTup_tup, isTup_lst, isTup_int, isTup_non, isTup_str, isTup_bl, isLst_lst, isLst_tup, f_add, f_sub, f_neg, f_eqI, f_neI, f_eqB, f_neB, f_lt, f_le, f_gt, f_ge, f_is, f_isNot, isNone_int, isNone_tup, isNone_lst, isNone_non, f_len_l, f_len_t, f_len_rd, f_tup_l, f_tup_t, f_max2, f_min2, f_abs, f_sum_l, f_sum_t, f_ix0, f_ix1, f_ix2, f_ix3, f_rev_t, outR_nx, outR_rt, outR_exc, nones0, nonesS, runB_eq, ap_eSl, optI_none, optI_some, optO_int, ap_sWh, ap_iSeq, items_l, items_t, ap_iRange1, ap_iRange2, wipeE_nil, wipeE_cons, evA_nil, evA_cons, RL.cons_ok, RL.cons_exc, RL.bind_ok, RL.bind_exc, RL.out_ok, RL.out_exc, Rs.bind_ok, Rs.bind_exc, Rs.out_ok, Rs.out_exc, Rs.of_some, Option.bind_some, List.getElem?_cons_zero, List.getElem?_cons_succ, List.set_cons_zero, List.set_cons_succ, List.map_cons, List.map_nil, List.cons_append, List.nil_append, List.length_cons, List.length_nil, Nat.reduceAdd, Nat.reduceSub, Nat.reduceLeDiff, Nat.reduceLT, Bool.not_true, Bool.not_false, decide_true, decide_false]
  rfl
/-- a fraction's parts are no greater -/
theorem Bd.fr {k : Nat} {a b : Int} (ha : Bd k a) (hb : Bd k b) : Bd k (a / (Int.gcd a b : Int)) ∧ Bd k (b / (Int.gcd a b : Int)) := ⟨ha.dvd (Int.gcd_dvd_left ..), hb.dvd (Int.gcd_dvd_right ..)⟩
theorem lplus_raw (n m n' m' : Int) (h0 : 0 < m) (h0' : 0 < m') (h1 : Bd 1000 n) (h2 : Bd 1000 m) (h3 : Bd 1000 n') (h4 : Bd 1000 m') :
    sem__law_plus [.tuple [.int n, .int m], .tuple [.int n', .int m']] = .ok (frD (n * m' + n' * m) (m * m')) := by
  have e1 := f_mulB n m' h1 h4 (by decide) (by decide) (by decide)
  have e2 := f_mulB n' m h3 h2 (by decide) (by decide) (by decide)
  have e3 := f_mulB m m' h2 h4 (by decide) (by decide) (by decide)
  simp -implicitDefEqProofs only [sem__law_plus, b__law_plus, e1, e2, e3, lleast_big _ _ (Int.mul_pos h0 h0') ((h2.mul h4).mono (by decide)), ap_sSeq, seqO_nx, seqO_rt, seqO_exc, ap_sIf, ifO_t, ifO_f, ifO_exc, ap_sNx, ap_sSet, ap_sOwn, ap_sRet, ap_sDrop, ap_sAsg, outB_some, bT_nm, bT_tp, bTs_nil, bTs_cons, ap_sRaise, ap_sPar, parO_ok, ap_sFor, ap_sRetV, retO_own, retO_val, ap_sFrz, frzO_own, frzO_val, ap_sApp, ap_sExt, ap_eV, valO_val, ap_eB, borO_val, borO_own, ap_eC, ap_eOp, opO_ok, ap_eUn, ap_eTup, ap_eLst, tupR_ok, lstR_ok, ap_eCB, ap_eCall, callO_ok, callO_exc, ap_gNot, notR_b, ap_gTru, truR_b, truR_list, ap_gAnd, ap_gOr, andO_t, andO_f, orO_t, orO_f, ap_eAnd, ap_eOr, eandO_t, eandO_f, eorO_t, eorO_f, ap_eNot, enotO_b, enotO_list, ap_eIf, eifO_t, eifO_f, ap_eChain, chO_ok, ap_eIsi, isiO_int, isiO_tup, isiO_lst, isiO_bl, isiO_str, isiO_non, isInt_int, isInt_bl, isInt_tup, isInt_lst, isInt_str, isInt_non, isBool_int, isBool_bl, isTup_tup, isTup_lst, isTup_int, isTup_non, isTup_str, isTup_bl, isLst_lst, isLst_tup, f_add, f_sub, f_neg, f_eqI, f_neI, f_eqB, f_neB, f_lt, f_le, f_gt, f_ge, f_is, f_isNot, isNone_int, isNone_tup, isNone_lst, isNone_non, f_len_l, f_len_t, f_len_rd, f_tup_l, f_tup_t, f_max2, f_min2, f_abs, f_sum_l, f_sum_t, f_ix0, f_ix1, f_ix2, f_ix3, f_rev_t, outR_nx, outR_rt, outR_exc, nones0, nonesS, runB_eq, ap_eSl, optI_none, optI_some, optO_int, ap_sWh, ap_iSeq, items_l, items_t, ap_iRange1, ap_iRange2, wipeE_nil, wipeE_cons, evA_nil, evA_cons, RL.cons_ok, RL.cons_exc, RL.bind_ok, RL.bind_exc, RL.out_ok, RL.out_exc, Rs.bind_ok, Rs.bind_exc, Rs.out_ok, Rs.out_exc, Rs.of_some, Option.bind_some, List.getElem?_cons_zero, List.getElem?_cons_succ, List.set_cons_zero, List.set_cons_succ, List.map_cons, List.map_nil, List.cons_append, List.nil_append, List.length_cons, List.length_nil, Nat.reduceAdd, Nat.reduceSub, Nat.reduceLeDiff, Nat.reduceLT, Bool.not_true, Bool.not_false, decide_true, decide_false]
theorem lplus_eq (a b c d : Int) (h0 : 0 < b) (h0' : 0 < d) (h1 : Bd 1000 a) (h2 : Bd 1000 b) (h3 : Bd 1000 c) (h4 : Bd 1000 d) : sem__law_plus [frD a b, frD c d] = .ok (frD (a * d + c * b) (b * d)) := by
  obtain ⟨b1, b2⟩ := Bd.fr h1 h2
  obtain ⟨b3, b4⟩ := Bd.fr h3 h4
  have e := lplus_raw _ _ _ _ (fr_pos (a := a) h0) (fr_pos (a := c) h0') b1 b2 b3 b4
  refine e.trans (congrArg Rs.ok (frD_eq (Int.mul_pos (fr_pos h0) (fr_pos h0')) (Int.mul_pos h0 h0') ?_))
  obtain ⟨e1, e2⟩ := fr_mul (a := a) (b := b)
  obtain ⟨e3, e4⟩ := fr_mul (a := c) (b := d)
  generalize a / (Int.gcd a b : Int) = n at *
  generalize b / (Int.gcd a b : Int) = m at *
  generalize c / (Int.gcd c d : Int) = n' at *
  generalize d / (Int.gcd c d : Int) = m' at *
  generalize (Int.gcd a b : Int) = g at *
  generalize (Int.gcd c d : Int) = g' at *
  subst e1 e2 e3 e4
  grind
theorem ltimes_raw (n m n' m' : Int) (h0 : 0 < m) (h0' : 0 < m') (h1 : Bd 1000 n) (h2 : Bd 1000 m) (h3 : Bd 1000 n') (h4 : Bd 1000 m') :
    sem__law_times [.tuple [.int n, .int m], .tuple [.int n', .int m']] = .ok (frD (n * n') (m * m')) := by
  have e1 := f_mulB n n' h1 h3 (by decide) (by decide) (by decide)
  have e3 := f_mulB m m' h2 h4 (by decide) (by decide) (by decide)
  simp -implicitDefEqProofs only [sem__law_times, b__law_times, e1, e3, lleast_big _ _ (Int.mul_pos h0 h0') ((h2.mul h4).mono (by decide)), ap_sSeq, seqO_nx, seqO_rt, seqO_exc, ap_sIf, ifO_t, ifO_f, ifO_exc, ap_sNx, ap_sSet, ap_sOwn, ap_sRet, ap_sDrop, ap_sAsg, outB_some, bT_nm, bT_tp, bTs_nil, bTs_cons, ap_sRaise, ap_sPar, parO_ok, ap_sFor, ap_sRetV, retO_own, retO_val, ap_sFrz, frzO_own, frzO_val, ap_sApp, ap_sExt, ap_eV, valO_val, ap_eB, borO_val, borO_own, ap_eC, ap_eOp, opO_ok, ap_eUn, ap_eTup, ap_eLst, tupR_ok, lstR_ok, ap_eCB, ap_eCall, callO_ok, callO_exc, ap_gNot, notR_b, ap_gTru, truR_b, truR_list, ap_gAnd, ap_gOr, andO_t, andO_f, orO_t, orO_f, ap_eAnd, ap_eOr, eandO_t, eandO_f, eorO_t, eorO_f, ap_eNot, enotO_b, enotO_list, ap_eIf, eifO_t, eifO_f, ap_eChain, chO_ok, ap_eIsi, isiO_int, isiO_tup, isiO_lst, isiO_bl, isiO_str, isiO_non, isInt_int, isInt_bl, isInt_tup, isInt_lst, isInt_str, isInt_non, isBool_int, isBool_bl, isTup_tup, isTup_lst, isTup_int, isTup_non, isTup_str, isTup_bl, isLst_lst, isLst_tup, f_add, f_sub, f_neg, f_eqI, f_neI, f_eqB, f_neB, f_lt, f_le, f_gt, f_ge, f_is, f_isNot, isNone_int, isNone_tup, isNone_lst, isNone_non, f_len_l, f_len_t, f_len_rd, f_tup_l, f_tup_t, f_max2, f_min2, f_abs, f_sum_l, f_sum_t, f_ix0, f_ix1, f_ix2, f_ix3, f_rev_t, outR_nx, outR_rt, outR_exc, nones0, nonesS, runB_eq, ap_eSl, optI_none, optI_some, optO_int, ap_sWh, ap_iSeq, items_l, items_t, ap_iRange1, ap_iRange2, wipeE_nil, wipeE_cons, evA_nil, evA_cons, RL.cons_ok, RL.cons_exc, RL.bind_ok, RL.bind_exc, RL.out_ok, RL.out_exc, Rs.bind_ok, Rs.bind_exc, Rs.out_ok, Rs.out_exc, Rs.of_some, Option.bind_some, List.getElem?_cons_zero, List.getElem?_cons_succ, List.set_cons_zero, List.set_cons_succ, List.map_cons, List.map_nil, List.cons_append, List.nil_append, List.length_cons, List.length_nil, Nat.reduceAdd, Nat.reduceSub, Nat.reduceLeDiff, Nat.reduceLT, Bool.not_true, Bool.not_false, decide_true, decide_false]
theorem ltimes_eq (a b c d : Int) (h0 : 0 < b) (h0' : 0 < d) (h1 : Bd 1000 a) (h2 : Bd 1000 b) (h3 : Bd 1000 c) (h4 : Bd 1000 d) : sem__law_times [frD a b, frD c d] = .ok (frD (a * c) (b * d)) := by
  obtain ⟨b1, b2⟩ := Bd.fr h1 h2
  obtain ⟨b3, b4⟩ := Bd.fr h3 h4
  have e := ltimes_raw _ _ _ _ (fr_pos (a := a) h0) (fr_pos (a := c) h0') b1 b2 b3 b4
  refine e.trans (congrArg Rs.ok (frD_eq (Int.mul_pos (fr_pos h0) (fr_pos h0')) (Int.mul_pos h0 h0') ?_))
  obtain ⟨e1, e2⟩ := fr_mul (a := a) (b := b)
  obtain ⟨e3, e4⟩ := fr_mul (a := c) (b := d)
  generalize a / (Int.gcd a b : Int) = n at *
  generalize b / (Int.gcd a b : Int) = m at *
  generalize c / (Int.gcd c d : Int) = n' at *
  generalize d / (Int.gcd c d : Int) = m' at *
  generalize (Int.gcd a b : Int) = g at *
  generalize (Int.gcd c d : Int) = g' at *
  subst e1 e2 e3 e4
  grind
/-! how unlike -/
theorem unl_fr {L : List Int} (h : L ≠ []) : unl L = frD ((L.length : Int) * (L.map fun x => x * x).sum - L.sum * L.sum) ((L.length : Int) * L.length) := by
  unfold unl
  rw [if_neg h]
  rfl
def devs (n S : Int) (xs : List Int) : Int := (xs.map fun x => (n * x - S) * (n * x - S)).sum
theorem devs_nonneg (n S : Int) : ∀ xs : List Int, 0 ≤ devs n S xs
  | [] => by simp [devs]
  | x :: xs => by
    have := devs_nonneg n S xs
    unfold devs at *
    rw [List.map_cons, List.sum_cons]
    have h : 0 ≤ (n * x - S) * (n * x - S) := by
      rcases Int.le_total 0 (n * x - S) with z | z
      · exact Int.mul_nonneg z z
      · have := Int.mul_nonneg (Int.neg_nonneg_of_nonpos z) (Int.neg_nonneg_of_nonpos z)
        rw [Int.neg_mul_neg] at this
        exact this
    omega
theorem devs_sum (n S : Int) (xs : List Int) : devs n S xs = n * n * (xs.map fun x => x * x).sum - 2 * n * S * xs.sum + xs.length * (S * S) := by
  induction xs with
  | nil => simp [devs]
  | cons x xs ih =>
    unfold devs at *
    simp -implicitDefEqProofs only [List.map_cons, List.sum_cons, List.length_cons]
    rw [ih]
    grind
theorem sq_le {x c : Int} (h : -c ≤ x ∧ x ≤ c) : x * x ≤ c * c := by
  rcases Int.le_total 0 x with z | z
  · exact Int.mul_le_mul h.2 h.2 z (by omega)
  · have := Int.mul_le_mul (show -x ≤ c by omega) (show -x ≤ c by omega) (by omega) (by omega)
    rw [Int.neg_mul_neg] at this
    exact this
theorem unlike_go {n S : Int} (hn : 0 < n) (hn2 : n ≤ 1000) (hS : -1000000 ≤ S ∧ S ≤ 1000000) (z0 z1 z6 : Option Sl) : ∀ (xs : List Int) (T : Int) (o4 o5 : Option Sl), (∀ x ∈ xs, -1000 ≤ x ∧ x ≤ 1000) → 0 ≤ T → T + devs n S xs ≤ 2 ^ 200 →
    ∃ o4' o5', forGo (.nm 4) lp__law_unlike_1 (xs.map PyData.int) [z0, z1, some (.val (frD S n)), some (.val (frD T (n * n))), o4, o5, z6] = .nx [z0, z1, some (.val (frD S n)), some (.val (frD (T + devs n S xs) (n * n))), o4', o5', z6]
  | [], T, o4, o5, _, _, _ => ⟨o4, o5, by simp [devs, forGo_nil]⟩
  | x :: xs, T, o4, o5, hx, h0, hb => by
    have x1 := hx x (by simp)
    have hd := devs_nonneg n S xs
    have ed : devs n S (x :: xs) = (n * x - S) * (n * x - S) + devs n S xs := by simp [devs]
    have q0 := devs_nonneg n S [x]
    have q1 : devs n S [x] = (n * x - S) * (n * x - S) := by simp [devs]
    rw [q1] at q0
    have np : 0 < n * n := Int.mul_pos hn hn
    have bn : Bd 20 n := Bd.of 0 1000 (by omega) (by decide) (by decide)
    have bS : Bd 20 S := by unfold Bd; have : (2:Nat)^20 = 1048576 := by decide
                            omega
    have bx : Bd 20 x := Bd.of (-1000) 1000 x1 (by decide) (by decide)
    have bd : Bd 41 (x * n + -S * 1) := ((bx.mul bn).add ((bS.neg.mul (Bd.of 0 1 (i := 1) (by decide) (by decide) (by decide) : Bd 20 1)))).mono (by decide)
    have e1 : x * n + -S * 1 = n * x - S := by grind
    have m1 : sem__law_plus [.tuple [.int x, .int 1], .tuple [.int (-(S / (Int.gcd S n : Int))), .int (n / (Int.gcd S n : Int))]] = .ok (frD (n * x - S) n) := by
      have := lplus_eq x 1 (-S) n (by decide) hn (bx.mono (by decide)) (Bd.of 0 1 (by decide) (by decide) (by decide)) (bS.neg.mono (by decide)) (bn.mono (by decide))
      rw [frD_one, frD_neg, e1, Int.one_mul] at this
      exact this
    rw [e1] at bd
    have m2 : sem__law_times [frD (n * x - S) n, frD (n * x - S) n] = .ok (frD ((n * x - S) * (n * x - S)) (n * n)) := ltimes_eq _ _ _ _ hn hn (bd.mono (by decide)) (bn.mono (by decide)) (bd.mono (by decide)) (bn.mono (by decide))
    have bT : Bd 201 T := by
      unfold Bd
      have h2 : (2 : Int) ^ 200 = ((2 ^ 200 : Nat) : Int) := by rw [Int.natCast_pow]; rfl
      have h3 : (2 : Nat) ^ 201 = 2 ^ 200 * 2 := Nat.pow_succ ..
      rw [ed] at hb
      rw [h2] at hb
      generalize (2 : Nat) ^ 200 = z at *
      omega
    have m3 : sem__law_plus [frD T (n * n), frD ((n * x - S) * (n * x - S)) (n * n)] = .ok (frD (T + (n * x - S) * (n * x - S)) (n * n)) := by
      rw [lplus_eq _ _ _ _ np np (bT.mono (by decide)) ((bn.mul bn).mono (by decide)) ((bd.mul bd).mono (by decide)) ((bn.mul bn).mono (by decide))]
      exact congrArg Rs.ok (frD_eq (Int.mul_pos np np) np (by grind))
    obtain ⟨o4', o5', ih⟩ := unlike_go hn hn2 hS z0 z1 z6 xs (T + (n * x - S) * (n * x - S)) (some (.val (.int x))) (some (.val (frD (n * x - S) n))) (fun y hy => hx y (by simp [hy])) (by omega) (by rw [ed] at hb; omega)
    refine ⟨o4', o5', ?_⟩
    rw [List.map_cons, forGo_nx (ρ2 := [z0, z1, some (.val (frD S n)), some (.val (frD (T + (n * x - S) * (n * x - S)) (n * n))), some (.val (.int x)), some (.val (frD (n * x - S) n)), z6]), ih, ed]
    · rw [Int.add_assoc]
    · have i0 : ixF (frD S n) (.int 0) = some (.int (S / (Int.gcd S n : Int))) := f_ix0 _ _
      have i1 : ixF (frD S n) (.int 1) = some (.int (n / (Int.gcd S n : Int))) := f_ix1 _ _ _
      simp -implicitDefEqProofs only [lp__law_unlike_1, i0, i1, m1, m2, m3, ap_sSeq, seqO_nx, seqO_rt, seqO_exc, ap_sIf, ifO_t, ifO_f, ifO_exc, ap_sNx, ap_sSet, ap_sOwn, ap_sRet, ap_sDrop, ap_sAsg, outB_some, bT_nm, bT_tp, bTs_nil, bTs_cons, ap_sRaise, ap_sPar, parO_ok, ap_sFor, ap_sRetV, retO_own, retO_val, ap_sFrz, frzO_own, frzO_val, ap_sApp, ap_sExt, ap_eV, valO_val, ap_eB, borO_val, borO_own, ap_eC, ap_eOp, opO_ok, ap_eUn, ap_eTup, ap_eLst, tupR_ok, lstR_ok, ap_eCB, ap_eCall, callO_ok, callO_exc, ap_gNot, notR_b, ap_gTru, truR_b, truR_list, ap_gAnd, ap_gOr, andO_t, andO_f, orO_t, orO_f, ap_eAnd, ap_eOr, eandO_t, eandO_f, eorO_t, eorO_f, ap_eNot, enotO_b, enotO_list, ap_eIf, eifO_t, eifO_f, ap_eChain, chO_ok, ap_eIsi, isiO_int, isiO_tup, isiO_lst, isiO_bl, isiO_str, isiO_non, isInt_int, isInt_bl, isInt_tup, isInt_lst, isInt_str, isInt_non, isBool_int, isBool_bl, isTup_tup, isTup_lst, isTup_int, isTup_non, isTup_str, isTup_bl, isLst_lst, isLst_tup, f_add, f_sub, f_neg, f_eqI, f_neI, f_eqB, f_neB, f_lt, f_le, f_gt, f_ge, f_is, f_isNot, isNone_int, isNone_tup, isNone_lst, isNone_non, f_len_l, f_len_t, f_len_rd, f_tup_l, f_tup_t, f_max2, f_min2, f_abs, f_sum_l, f_sum_t, f_ix0, f_ix1, f_ix2, f_ix3, f_rev_t, outR_nx, outR_rt, outR_exc, nones0, nonesS, runB_eq, ap_eSl, optI_none, optI_some, optO_int, ap_sWh, ap_iSeq, items_l, items_t, ap_iRange1, ap_iRange2, wipeE_nil, wipeE_cons, evA_nil, evA_cons, RL.cons_ok, RL.cons_exc, RL.bind_ok, RL.bind_exc, RL.out_ok, RL.out_exc, Rs.bind_ok, Rs.bind_exc, Rs.out_ok, Rs.out_exc, Rs.of_some, Option.bind_some, List.getElem?_cons_zero, List.getElem?_cons_succ, List.set_cons_zero, List.set_cons_succ, List.map_cons, List.map_nil, List.cons_append, List.nil_append, List.length_cons, List.length_nil, Nat.reduceAdd, Nat.reduceSub, Nat.reduceLeDiff, Nat.reduceLT, Bool.not_true, Bool.not_false, decide_true, decide_false]
/-! the steps, by their places -/
abbrev Ent := (Int × Int) × Int
def keyT (k : Int × Int) : D := .tuple [.int k.1, .int k.2]
def entD (e : Ent) : D × D := (keyT e.1, .int e.2)
def dicT (E : List Ent) : D := .dict ((.none, .none) :: E.map entD)
theorem keyT_eqv' (a b : Int × Int) : PyData.eqv (keyT a) (keyT b) = decide (a = b) := by
  obtain ⟨a1, a2⟩ := a
  obtain ⟨b1, b2⟩ := b
  simp -implicitDefEqProofs only [keyT, PyData.eqv, PyData.eqvAll, Prod.mk.injEq]
  by_cases h : a1 = b1 <;> by_cases g : a2 = b2 <;> simp [h, g]
theorem asRd_dicT (E : List Ent) : asRd (dicT E) = none := by
  cases E with
  | nil => rfl
  | cons e E => rfl
theorem dPut_new (E : List Ent) (k : Int × Int) (v : Int) (h : ∀ e ∈ E, e.1 ≠ k) (hl : E.length < 16777216) : dPut (dicT E) (keyT k) (.int v) = some (dicT (E ++ [(k, v)])) := by
  have hn : ((E.map entD).any fun q => PyData.eqv q.1 (keyT k)) = false := by
    rw [List.any_eq_false]
    intro q hq
    obtain ⟨e, he, rfl⟩ := List.mem_map.mp hq
    show ¬ PyData.eqv (keyT e.1) (keyT k) = true
    rw [keyT_eqv']
    simpa using h e he
  have hz : (E.map entD).length < sizeLine := by rw [List.length_map, sizeLine_eq]; exact hl
  have e : dPut (dicT E) (keyT k) (.int v) = if (isKeyT (keyT k) && decide ((E.map entD).length < sizeLine)) = true then some (.dict ((.none, .none) :: dputP (E.map entD) (keyT k) (.int v))) else none := by cases E <;> rfl
  rw [e, if_pos (by rw [decide_eq_true hz]; rfl)]
  unfold dputP dicT
  rw [hn, if_neg (by decide), List.map_append]
  rfl
/-- a cell that both have, with its step -/
def both (a b : List (List Int)) (w' h' p q : Int) (y x : Int) : List Ent := if (0 ≤ y - q ∧ y - q < h') ∧ 0 ≤ x - p ∧ x - p < w' then [((x, y), cell a y x - cell b (y - q) (x - p))] else []
def bothRow (a b : List (List Int)) (w' h' p q : Int) (y : Int) (k : Nat) : List Ent := (rangeI 0 k).flatMap (both a b w' h' p q y)
def bothAll (a b : List (List Int)) (w' h' p q : Int) (w k : Nat) : List Ent := (rangeI 0 k).flatMap fun y => bothRow a b w' h' p q y w
theorem both_mem {a b : List (List Int)} {w' h' p q y x : Int} {e : Ent} (h : e ∈ both a b w' h' p q y x) : e.1 = (x, y) := by
  unfold both at h
  split at h
  · simp -implicitDefEqProofs only [List.mem_singleton] at h
    rw [h]
  · cases h
theorem bothRow_mem {a b : List (List Int)} {w' h' p q y : Int} {k : Nat} {e : Ent} (h : e ∈ bothRow a b w' h' p q y k) : e.1.2 = y ∧ 0 ≤ e.1.1 ∧ e.1.1 < k := by
  unfold bothRow at h
  obtain ⟨x, hx, h⟩ := List.mem_flatMap.mp h
  have := both_mem h
  rw [mem_rangeI] at hx
  rw [this]
  refine ⟨rfl, ?_, ?_⟩
  · show 0 ≤ x
    omega
  · show x < k
    omega
theorem bothAll_mem {a b : List (List Int)} {w' h' p q : Int} {w k : Nat} {e : Ent} (h : e ∈ bothAll a b w' h' p q w k) : 0 ≤ e.1.2 ∧ e.1.2 < k := by
  unfold bothAll at h
  obtain ⟨y, hy, h⟩ := List.mem_flatMap.mp h
  have := bothRow_mem h
  rw [mem_rangeI] at hy
  omega
theorem both_len (a b : List (List Int)) (w' h' p q y x : Int) : (both a b w' h' p q y x).length ≤ 1 := by
  unfold both
  split <;> simp
theorem flat_le {α β : Type} (f : α → List β) (c : Nat) : ∀ xs : List α, (∀ x ∈ xs, (f x).length ≤ c) → (xs.flatMap f).length ≤ xs.length * c
  | [], _ => by simp
  | x :: xs, h => by
    have h1 := h x (by simp)
    have h2 := flat_le f c xs fun y hy => h y (by simp [hy])
    rw [List.flatMap_cons, List.length_append, List.length_cons, Nat.succ_mul]
    omega
theorem bothRow_len (a b : List (List Int)) (w' h' p q y : Int) (k : Nat) : (bothRow a b w' h' p q y k).length ≤ k := by
  have := flat_le (both a b w' h' p q y) 1 (rangeI 0 k) fun x _ => both_len ..
  rw [rangeI_length] at this
  unfold bothRow
  omega
theorem bothAll_len (a b : List (List Int)) (w' h' p q : Int) (w k : Nat) : (bothAll a b w' h' p q w k).length ≤ k * w := by
  have := flat_le (fun y => bothRow a b w' h' p q y w) w (rangeI 0 k) fun y _ => bothRow_len ..
  rw [rangeI_length] at this
  exact this
theorem lsteps_eq {a b : List (List Int)} {h w h' w' : Nat} (A : Sh a h w) (B : Sh b h' w') (p q : Int) : sem__law_steps [shD a, shD b, .tuple [.int p, .int q]] = .ok (dicT (bothAll a b w' h' p q w h)) := by
  have la := A.len
  have lb := B.len
  have h1 := A.h1
  have h2 := A.h2
  have w2 := A.w2
  have b1 := B.h1
  have ea : ixF (shD a) (.int 0) = some (rowD (rw' a 0)) := ix_sh a 0 (by decide) (by omega)
  have ra : (rw' a 0).length = w := A.rlen (by decide) (by omega)
  have eb : ixF (shD b) (.int 0) = some (rowD (rw' b 0)) := ix_sh b 0 (by decide) (by omega)
  have rb : (rw' b 0).length = w' := B.rlen (by decide) (by omega)
  have outer := forGo_rng (i := 4) (f := lp__law_steps_2) (lo := 0) (n := h) (ρ := [some (.val (shD a)), some (.val (shD b)), some (.val (.tuple [.int p, .int q])), some (.own (dicT [])), none, none, none, none])
    (fun k ρ => ∃ o4 o5 o6 o7, ρ = [some (.val (shD a)), some (.val (shD b)), some (.val (.tuple [.int p, .int q])), some (.own (dicT (bothAll a b w' h' p q w k))), o4, o5, o6, o7]) ⟨none, none, none, none, rfl⟩ ?_
  · obtain ⟨ρ2, e, o4, o5, o6, o7, e2⟩ := outer
    have er : (RL.ok [.int (h : Int)]).items rng1 = .ok (rangeD 0 h) := by
      have := rng1_ok (h : Int) (by omega) (by omega)
      simpa using this
    have ed : (PyData.dict [(PyData.none, PyData.none)]) = dicT [] := rfl
    simp -implicitDefEqProofs only [sem__law_steps, b__law_steps, len_sh, la, er, ed, e, e2, ap_sSeq, seqO_nx, seqO_rt, seqO_exc, ap_sIf, ifO_t, ifO_f, ifO_exc, ap_sNx, ap_sSet, ap_sOwn, ap_sRet, ap_sDrop, ap_sAsg, outB_some, bT_nm, bT_tp, bTs_nil, bTs_cons, ap_sRaise, ap_sPar, parO_ok, ap_sFor, ap_sRetV, retO_own, retO_val, ap_sFrz, frzO_own, frzO_val, ap_sApp, ap_sExt, ap_eV, valO_val, ap_eB, borO_val, borO_own, ap_eC, ap_eOp, opO_ok, ap_eUn, ap_eTup, ap_eLst, tupR_ok, lstR_ok, ap_eCB, ap_eCall, callO_ok, callO_exc, ap_gNot, notR_b, ap_gTru, truR_b, truR_list, ap_gAnd, ap_gOr, andO_t, andO_f, orO_t, orO_f, ap_eAnd, ap_eOr, eandO_t, eandO_f, eorO_t, eorO_f, ap_eNot, enotO_b, enotO_list, ap_eIf, eifO_t, eifO_f, ap_eChain, chO_ok, ap_eIsi, isiO_int, isiO_tup, isiO_lst, isiO_bl, isiO_str, isiO_non, isInt_int, isInt_bl, isInt_tup, isInt_lst, isInt_str, isInt_non, isBool_int, isBool_bl, isTup_tup, isTup_lst, isTup_int, isTup_non, isTup_str, isTup_bl, isLst_lst, isLst_tup, f_add, f_sub, f_neg, f_eqI, f_neI, f_eqB, f_neB, f_lt, f_le, f_gt, f_ge, f_is, f_isNot, isNone_int, isNone_tup, isNone_lst, isNone_non, f_len_l, f_len_t, f_len_rd, f_tup_l, f_tup_t, f_max2, f_min2, f_abs, f_sum_l, f_sum_t, f_ix0, f_ix1, f_ix2, f_ix3, f_rev_t, outR_nx, outR_rt, outR_exc, nones0, nonesS, runB_eq, ap_eSl, optI_none, optI_some, optO_int, ap_sWh, ap_iSeq, items_l, items_t, ap_iRange1, ap_iRange2, wipeE_nil, wipeE_cons, evA_nil, evA_cons, RL.cons_ok, RL.cons_exc, RL.bind_ok, RL.bind_exc, RL.out_ok, RL.out_exc, Rs.bind_ok, Rs.bind_exc, Rs.out_ok, Rs.out_exc, Rs.of_some, Option.bind_some, List.getElem?_cons_zero, List.getElem?_cons_succ, List.set_cons_zero, List.set_cons_succ, List.map_cons, List.map_nil, List.cons_append, List.nil_append, List.length_cons, List.length_nil, Nat.reduceAdd, Nat.reduceSub, Nat.reduceLeDiff, Nat.reduceLT, Bool.not_true, Bool.not_false, decide_true, decide_false]
  · rintro k ρ hk ⟨o4, o5, o6, o7, rfl⟩
    have inner := forGo_rng (i := 5) (f := lp__law_steps_1) (lo := 0) (n := w) (ρ := [some (.val (shD a)), some (.val (shD b)), some (.val (.tuple [.int p, .int q])), some (.own (dicT (bothAll a b w' h' p q w k))), some (.val (.int (0 + k))), o5, o6, o7])
      (fun j ρ => ∃ o5 o6 o7, ρ = [some (.val (shD a)), some (.val (shD b)), some (.val (.tuple [.int p, .int q])), some (.own (dicT (bothAll a b w' h' p q w k ++ bothRow a b w' h' p q k j))), some (.val (.int (0 + k))), o5, o6, o7]) ⟨o5, o6, o7, by simp [bothRow, rangeI_zero]⟩ ?_
    · obtain ⟨ρ2, e, p5, p6, p7, e2⟩ := inner
      have er : (RL.ok [.int (w : Int)]).items rng1 = .ok (rangeD 0 w) := by
        have := rng1_ok (w : Int) (by omega) (by omega)
        simpa using this
      refine ⟨_, by simp -implicitDefEqProofs only [lp__law_steps_2, ea, len_row, ra, er, e, e2, ap_sSeq, seqO_nx, seqO_rt, seqO_exc, ap_sIf, ifO_t, ifO_f, ifO_exc, ap_sNx, ap_sSet, ap_sOwn, ap_sRet, ap_sDrop, ap_sAsg, outB_some, bT_nm, bT_tp, bTs_nil, bTs_cons, ap_sRaise, ap_sPar, parO_ok, ap_sFor, ap_sRetV, retO_own, retO_val, ap_sFrz, frzO_own, frzO_val, ap_sApp, ap_sExt, ap_eV, valO_val, ap_eB, borO_val, borO_own, ap_eC, ap_eOp, opO_ok, ap_eUn, ap_eTup, ap_eLst, tupR_ok, lstR_ok, ap_eCB, ap_eCall, callO_ok, callO_exc, ap_gNot, notR_b, ap_gTru, truR_b, truR_list, ap_gAnd, ap_gOr, andO_t, andO_f, orO_t, orO_f, ap_eAnd, ap_eOr, eandO_t, eandO_f, eorO_t, eorO_f, ap_eNot, enotO_b, enotO_list, ap_eIf, eifO_t, eifO_f, ap_eChain, chO_ok, ap_eIsi, isiO_int, isiO_tup, isiO_lst, isiO_bl, isiO_str, isiO_non, isInt_int, isInt_bl, isInt_tup, isInt_lst, isInt_str, isInt_non, isBool_int, isBool_bl, isTup_tup, isTup_lst, isTup_int, isTup_non, isTup_str, isTup_bl, isLst_lst, isLst_tup, f_add, f_sub, f_neg, f_eqI, f_neI, f_eqB, f_neB, f_lt, f_le, f_gt, f_ge, f_is, f_isNot, isNone_int, isNone_tup, isNone_lst, isNone_non, f_len_l, f_len_t, f_len_rd, f_tup_l, f_tup_t, f_max2, f_min2, f_abs, f_sum_l, f_sum_t, f_ix0, f_ix1, f_ix2, f_ix3, f_rev_t, outR_nx, outR_rt, outR_exc, nones0, nonesS, runB_eq, ap_eSl, optI_none, optI_some, optO_int, ap_sWh, ap_iSeq, items_l, items_t, ap_iRange1, ap_iRange2, wipeE_nil, wipeE_cons, evA_nil, evA_cons, RL.cons_ok, RL.cons_exc, RL.bind_ok, RL.bind_exc, RL.out_ok, RL.out_exc, Rs.bind_ok, Rs.bind_exc, Rs.out_ok, Rs.out_exc, Rs.of_some, Option.bind_some, List.getElem?_cons_zero, List.getElem?_cons_succ, List.set_cons_zero, List.set_cons_succ, List.map_cons, List.map_nil, List.cons_append, List.nil_append, List.length_cons, List.length_nil, Nat.reduceAdd, Nat.reduceSub, Nat.reduceLeDiff, Nat.reduceLT, Bool.not_true, Bool.not_false, decide_true, decide_false]; rfl, some (.val (.int (0 + k))), p5, p6, p7, ?_⟩
      have : bothAll a b w' h' p q w (k + 1) = bothAll a b w' h' p q w k ++ bothRow a b w' h' p q k w := by
        unfold bothAll
        rw [rangeI_succ, List.flatMap_append]
        simp
      rw [this]
    · rintro j ρ hj ⟨o5, o6, o7, rfl⟩
      have es : bothRow a b w' h' p q k (j + 1) = bothRow a b w' h' p q k j ++ both a b w' h' p q k j := by
        unfold bothRow
        rw [rangeI_succ, List.flatMap_append]
        simp
      have z0 : (0 : Int) + (k : Nat) = (k : Int) := by omega
      have z1 : (0 : Int) + (j : Nat) = (j : Int) := by omega
      by_cases c1 : (0 : Int) ≤ (k : Int) - q
      · by_cases c2 : (k : Int) - q < h'
        · by_cases c3 : (0 : Int) ≤ (j : Int) - p
          · by_cases c4 : (j : Int) - p < w'
            · have ek : both a b w' h' p q k j = [(((j : Int), (k : Int)), cell a k j - cell b (k - q) (j - p))] := by
                unfold both
                rw [if_pos ⟨⟨c1, c2⟩, c3, c4⟩]
              have i1 : ixF (shD a) (.int k) = some (rowD (rw' a k)) := ix_sh a k (by omega) (by omega)
              have i2 : ixF (rowD (rw' a k)) (.int j) = some (.int (cell a k j)) := ix_row _ _ (by omega) (by rw [A.rlen (by omega) (by omega)]; omega)
              have i3 : ixF (shD b) (.int (k - q)) = some (rowD (rw' b (k - q))) := ix_sh b _ c1 (by omega)
              have i4 : ixF (rowD (rw' b (k - q))) (.int (j - p)) = some (.int (cell b (k - q) (j - p))) := ix_row _ _ c3 (by rw [B.rlen c1 (by omega)]; omega)
              have put := dPut_new (bothAll a b w' h' p q w k ++ bothRow a b w' h' p q k j) ((j : Int), (k : Int)) (cell a k j - cell b (k - q) (j - p)) (fun e he => by
                rcases List.mem_append.mp he with he | he
                · have := bothAll_mem he
                  intro z
                  rw [z] at this
                  simp -implicitDefEqProofs only at this
                  omega
                · have := bothRow_mem he
                  intro z
                  rw [z] at this
                  simp -implicitDefEqProofs only at this
                  omega) (by
                have l1 := bothAll_len a b w' h' p q w k
                have l2 := bothRow_len a b w' h' p q k j
                have l3 : k * w ≤ 12 * 12 := Nat.mul_le_mul (by omega) (by omega)
                rw [List.length_append]
                omega)
              have ekey : (PyData.tuple [.int (j : Int), .int (k : Int)]) = keyT ((j : Int), (k : Int)) := rfl
              refine ⟨_, by simp -implicitDefEqProofs only [lp__law_steps_1, sPutD, ownD, z0, z1, len_sh, lb, c1, c2, c3, c4, eb, len_row, rb, i1, i2, i3, i4, ekey, put, ap_sSeq, seqO_nx, seqO_rt, seqO_exc, ap_sIf, ifO_t, ifO_f, ifO_exc, ap_sNx, ap_sSet, ap_sOwn, ap_sRet, ap_sDrop, ap_sAsg, outB_some, bT_nm, bT_tp, bTs_nil, bTs_cons, ap_sRaise, ap_sPar, parO_ok, ap_sFor, ap_sRetV, retO_own, retO_val, ap_sFrz, frzO_own, frzO_val, ap_sApp, ap_sExt, ap_eV, valO_val, ap_eB, borO_val, borO_own, ap_eC, ap_eOp, opO_ok, ap_eUn, ap_eTup, ap_eLst, tupR_ok, lstR_ok, ap_eCB, ap_eCall, callO_ok, callO_exc, ap_gNot, notR_b, ap_gTru, truR_b, truR_list, ap_gAnd, ap_gOr, andO_t, andO_f, orO_t, orO_f, ap_eAnd, ap_eOr, eandO_t, eandO_f, eorO_t, eorO_f, ap_eNot, enotO_b, enotO_list, ap_eIf, eifO_t, eifO_f, ap_eChain, chO_ok, ap_eIsi, isiO_int, isiO_tup, isiO_lst, isiO_bl, isiO_str, isiO_non, isInt_int, isInt_bl, isInt_tup, isInt_lst, isInt_str, isInt_non, isBool_int, isBool_bl, isTup_tup, isTup_lst, isTup_int, isTup_non, isTup_str, isTup_bl, isLst_lst, isLst_tup, f_add, f_sub, f_neg, f_eqI, f_neI, f_eqB, f_neB, f_lt, f_le, f_gt, f_ge, f_is, f_isNot, isNone_int, isNone_tup, isNone_lst, isNone_non, f_len_l, f_len_t, f_len_rd, f_tup_l, f_tup_t, f_max2, f_min2, f_abs, f_sum_l, f_sum_t, f_ix0, f_ix1, f_ix2, f_ix3, f_rev_t, outR_nx, outR_rt, outR_exc, nones0, nonesS, runB_eq, ap_eSl, optI_none, optI_some, optO_int, ap_sWh, ap_iSeq, items_l, items_t, ap_iRange1, ap_iRange2, wipeE_nil, wipeE_cons, evA_nil, evA_cons, RL.cons_ok, RL.cons_exc, RL.bind_ok, RL.bind_exc, RL.out_ok, RL.out_exc, Rs.bind_ok, Rs.bind_exc, Rs.out_ok, Rs.out_exc, Rs.of_some, Option.bind_some, List.getElem?_cons_zero, List.getElem?_cons_succ, List.set_cons_zero, List.set_cons_succ, List.map_cons, List.map_nil, List.cons_append, List.nil_append, List.length_cons, List.length_nil, Nat.reduceAdd, Nat.reduceSub, Nat.reduceLeDiff, Nat.reduceLT, Bool.not_true, Bool.not_false, decide_true, decide_false]; rfl, some (.val (.int j)), some (.val (.int (j - p))), some (.val (.int (k - q))), ?_⟩
              rw [es, ek, ← List.append_assoc, z0]
            · have ek : both a b w' h' p q k j = [] := if_neg (by omega)
              refine ⟨_, by simp -implicitDefEqProofs only [lp__law_steps_1, z0, z1, len_sh, lb, c1, c2, c3, c4, eb, len_row, rb, ap_sSeq, seqO_nx, seqO_rt, seqO_exc, ap_sIf, ifO_t, ifO_f, ifO_exc, ap_sNx, ap_sSet, ap_sOwn, ap_sRet, ap_sDrop, ap_sAsg, outB_some, bT_nm, bT_tp, bTs_nil, bTs_cons, ap_sRaise, ap_sPar, parO_ok, ap_sFor, ap_sRetV, retO_own, retO_val, ap_sFrz, frzO_own, frzO_val, ap_sApp, ap_sExt, ap_eV, valO_val, ap_eB, borO_val, borO_own, ap_eC, ap_eOp, opO_ok, ap_eUn, ap_eTup, ap_eLst, tupR_ok, lstR_ok, ap_eCB, ap_eCall, callO_ok, callO_exc, ap_gNot, notR_b, ap_gTru, truR_b, truR_list, ap_gAnd, ap_gOr, andO_t, andO_f, orO_t, orO_f, ap_eAnd, ap_eOr, eandO_t, eandO_f, eorO_t, eorO_f, ap_eNot, enotO_b, enotO_list, ap_eIf, eifO_t, eifO_f, ap_eChain, chO_ok, ap_eIsi, isiO_int, isiO_tup, isiO_lst, isiO_bl, isiO_str, isiO_non, isInt_int, isInt_bl, isInt_tup, isInt_lst, isInt_str, isInt_non, isBool_int, isBool_bl, isTup_tup, isTup_lst, isTup_int, isTup_non, isTup_str, isTup_bl, isLst_lst, isLst_tup, f_add, f_sub, f_neg, f_eqI, f_neI, f_eqB, f_neB, f_lt, f_le, f_gt, f_ge, f_is, f_isNot, isNone_int, isNone_tup, isNone_lst, isNone_non, f_len_l, f_len_t, f_len_rd, f_tup_l, f_tup_t, f_max2, f_min2, f_abs, f_sum_l, f_sum_t, f_ix0, f_ix1, f_ix2, f_ix3, f_rev_t, outR_nx, outR_rt, outR_exc, nones0, nonesS, runB_eq, ap_eSl, optI_none, optI_some, optO_int, ap_sWh, ap_iSeq, items_l, items_t, ap_iRange1, ap_iRange2, wipeE_nil, wipeE_cons, evA_nil, evA_cons, RL.cons_ok, RL.cons_exc, RL.bind_ok, RL.bind_exc, RL.out_ok, RL.out_exc, Rs.bind_ok, Rs.bind_exc, Rs.out_ok, Rs.out_exc, Rs.of_some, Option.bind_some, List.getElem?_cons_zero, List.getElem?_cons_succ, List.set_cons_zero, List.set_cons_succ, List.map_cons, List.map_nil, List.cons_append, List.nil_append, List.length_cons, List.length_nil, Nat.reduceAdd, Nat.reduceSub, Nat.reduceLeDiff, Nat.reduceLT, Bool.not_true, Bool.not_false, decide_true, decide_false]; rfl, some (.val (.int j)), some (.val (.int (j - p))), some (.val (.int (k - q))), ?_⟩
              rw [es, ek, List.append_nil, z0]
          · have ek : both a b w' h' p q k j = [] := if_neg (by omega)
            refine ⟨_, by simp -implicitDefEqProofs only [lp__law_steps_1, z0, z1, len_sh, lb, c1, c2, c3, eb, len_row, rb, ap_sSeq, seqO_nx, seqO_rt, seqO_exc, ap_sIf, ifO_t, ifO_f, ifO_exc, ap_sNx, ap_sSet, ap_sOwn, ap_sRet, ap_sDrop, ap_sAsg, outB_some, bT_nm, bT_tp, bTs_nil, bTs_cons, ap_sRaise, ap_sPar, parO_ok, ap_sFor, ap_sRetV, retO_own, retO_val, ap_sFrz, frzO_own, frzO_val, ap_sApp, ap_sExt, ap_eV, valO_val, ap_eB, borO_val, borO_own, ap_eC, ap_eOp, opO_ok, ap_eUn, ap_eTup, ap_eLst, tupR_ok, lstR_ok, ap_eCB, ap_eCall, callO_ok, callO_exc, ap_gNot, notR_b, ap_gTru, truR_b, truR_list, ap_gAnd, ap_gOr, andO_t, andO_f, orO_t, orO_f, ap_eAnd, ap_eOr, eandO_t, eandO_f, eorO_t, eorO_f, ap_eNot, enotO_b, enotO_list, ap_eIf, eifO_t, eifO_f, ap_eChain, chO_ok, ap_eIsi, isiO_int, isiO_tup, isiO_lst, isiO_bl, isiO_str, isiO_non, isInt_int, isInt_bl, isInt_tup, isInt_lst, isInt_str, isInt_non, isBool_int, isBool_bl, isTup_tup, isTup_lst, isTup_int, isTup_non, isTup_str, isTup_bl, isLst_lst, isLst_tup, f_add, f_sub, f_neg, f_eqI, f_neI, f_eqB, f_neB, f_lt, f_le, f_gt, f_ge, f_is, f_isNot, isNone_int, isNone_tup, isNone_lst, isNone_non, f_len_l, f_len_t, f_len_rd, f_tup_l, f_tup_t, f_max2, f_min2, f_abs, f_sum_l, f_sum_t, f_ix0, f_ix1, f_ix2, f_ix3, f_rev_t, outR_nx, outR_rt, outR_exc, nones0, nonesS, runB_eq, ap_eSl, optI_none, optI_some, optO_int, ap_sWh, ap_iSeq, items_l, items_t, ap_iRange1, ap_iRange2, wipeE_nil, wipeE_cons, evA_nil, evA_cons, RL.cons_ok, RL.cons_exc, RL.bind_ok, RL.bind_exc, RL.out_ok, RL.out_exc, Rs.bind_ok, Rs.bind_exc, Rs.out_ok, Rs.out_exc, Rs.of_some, Option.bind_some, List.getElem?_cons_zero, List.getElem?_cons_succ, List.set_cons_zero, List.set_cons_succ, List.map_cons, List.map_nil, List.cons_append, List.nil_append, List.length_cons, List.length_nil, Nat.reduceAdd, Nat.reduceSub, Nat.reduceLeDiff, Nat.reduceLT, Bool.not_true, Bool.not_false, decide_true, decide_false]; rfl, some (.val (.int j)), some (.val (.int (j - p))), some (.val (.int (k - q))), ?_⟩
            rw [es, ek, List.append_nil, z0]
        · have ek : both a b w' h' p q k j = [] := if_neg (by omega)
          refine ⟨_, by simp -implicitDefEqProofs only [lp__law_steps_1, z0, z1, len_sh, lb, c1, c2, eb, len_row, rb, ap_sSeq, seqO_nx, seqO_rt, seqO_exc, ap_sIf, ifO_t, ifO_f, ifO_exc, ap_sNx, ap_sSet, ap_sOwn, ap_sRet, ap_sDrop, ap_sAsg, outB_some, bT_nm, bT_tp, bTs_nil, bTs_cons, ap_sRaise, ap_sPar, parO_ok, ap_sFor, ap_sRetV, retO_own, retO_val, ap_sFrz, frzO_own, frzO_val, ap_sApp, ap_sExt, ap_eV, valO_val, ap_eB, borO_val, borO_own, ap_eC, ap_eOp, opO_ok, ap_eUn, ap_eTup, ap_eLst, tupR_ok, lstR_ok, ap_eCB, ap_eCall, callO_ok, callO_exc, ap_gNot, notR_b, ap_gTru, truR_b, truR_list, ap_gAnd, ap_gOr, andO_t, andO_f, orO_t, orO_f, ap_eAnd, ap_eOr, eandO_t, eandO_f, eorO_t, eorO_f, ap_eNot, enotO_b, enotO_list, ap_eIf, eifO_t, eifO_f, ap_eChain, chO_ok, ap_eIsi, isiO_int, isiO_tup, isiO_lst, isiO_bl, isiO_str, isiO_non, isInt_int, isInt_bl, isInt_tup, isInt_lst, isInt_str, isInt_non, isBool_int, isBool_bl, isTup_tup, isTup_lst, isTup_int, isTup_non, isTup_str, isTup_bl, isLst_lst, isLst_tup, f_add, f_sub, f_neg, f_eqI, f_neI, f_eqB, f_neB, f_lt, f_le, f_gt, f_ge, f_is, f_isNot, isNone_int, isNone_tup, isNone_lst, isNone_non, f_len_l, f_len_t, f_len_rd, f_tup_l, f_tup_t, f_max2, f_min2, f_abs, f_sum_l, f_sum_t, f_ix0, f_ix1, f_ix2, f_ix3, f_rev_t, outR_nx, outR_rt, outR_exc, nones0, nonesS, runB_eq, ap_eSl, optI_none, optI_some, optO_int, ap_sWh, ap_iSeq, items_l, items_t, ap_iRange1, ap_iRange2, wipeE_nil, wipeE_cons, evA_nil, evA_cons, RL.cons_ok, RL.cons_exc, RL.bind_ok, RL.bind_exc, RL.out_ok, RL.out_exc, Rs.bind_ok, Rs.bind_exc, Rs.out_ok, Rs.out_exc, Rs.of_some, Option.bind_some, List.getElem?_cons_zero, List.getElem?_cons_succ, List.set_cons_zero, List.set_cons_succ, List.map_cons, List.map_nil, List.cons_append, List.nil_append, List.length_cons, List.length_nil, Nat.reduceAdd, Nat.reduceSub, Nat.reduceLeDiff, Nat.reduceLT, Bool.not_true, Bool.not_false, decide_true, decide_false]; rfl, some (.val (.int j)), some (.val (.int (j - p))), some (.val (.int (k - q))), ?_⟩
          rw [es, ek, List.append_nil, z0]
      · have ek : both a b w' h' p q k j = [] := if_neg (by omega)
        refine ⟨_, by simp -implicitDefEqProofs only [lp__law_steps_1, z0, z1, len_sh, lb, c1, eb, len_row, rb, ap_sSeq, seqO_nx, seqO_rt, seqO_exc, ap_sIf, ifO_t, ifO_f, ifO_exc, ap_sNx, ap_sSet, ap_sOwn, ap_sRet, ap_sDrop, ap_sAsg, outB_some, bT_nm, bT_tp, bTs_nil, bTs_cons, ap_sRaise, ap_sPar, parO_ok, ap_sFor, ap_sRetV, retO_own, retO_val, ap_sFrz, frzO_own, frzO_val, ap_sApp, ap_sExt, ap_eV, valO_val, ap_eB, borO_val, borO_own, ap_eC, ap_eOp, opO_ok, ap_eUn, ap_eTup, ap_eLst, tupR_ok, lstR_ok, ap_eCB, ap_eCall, callO_ok, callO_exc, ap_gNot, notR_b, ap_gTru, truR_b, truR_list, ap_gAnd, ap_gOr, andO_t, andO_f, orO_t, orO_f, ap_eAnd, ap_eOr, eandO_t, eandO_f, eorO_t, eorO_f, ap_eNot, enotO_b, enotO_list, ap_eIf, eifO_t, eifO_f, ap_eChain, chO_ok, ap_eIsi, isiO_int, isiO_tup, isiO_lst, isiO_bl, isiO_str, isiO_non, isInt_int, isInt_bl, isInt_tup, isInt_lst, isInt_str, isInt_non, isBool_int, isBool_bl, isTup_tup, isTup_lst, isTup_int, isTup_non, isTup_str, isTup_bl, isLst_lst, isLst_tup, f_add, f_sub, f_neg, f_eqI, f_neI, f_eqB, f_neB, f_lt, f_le, f_gt, f_ge, f_is, f_isNot, isNone_int, isNone_tup, isNone_lst, isNone_non, f_len_l, f_len_t, f_len_rd, f_tup_l, f_tup_t, f_max2, f_min2, f_abs, f_sum_l, f_sum_t, f_ix0, f_ix1, f_ix2, f_ix3, f_rev_t, outR_nx, outR_rt, outR_exc, nones0, nonesS, runB_eq, ap_eSl, optI_none, optI_some, optO_int, ap_sWh, ap_iSeq, items_l, items_t, ap_iRange1, ap_iRange2, wipeE_nil, wipeE_cons, evA_nil, evA_cons, RL.cons_ok, RL.cons_exc, RL.bind_ok, RL.bind_exc, RL.out_ok, RL.out_exc, Rs.bind_ok, Rs.bind_exc, Rs.out_ok, Rs.out_exc, Rs.of_some, Option.bind_some, List.getElem?_cons_zero, List.getElem?_cons_succ, List.set_cons_zero, List.set_cons_succ, List.map_cons, List.map_nil, List.cons_append, List.nil_append, List.length_cons, List.length_nil, Nat.reduceAdd, Nat.reduceSub, Nat.reduceLeDiff, Nat.reduceLT, Bool.not_true, Bool.not_false, decide_true, decide_false]; rfl, some (.val (.int j)), some (.val (.int (j - p))), some (.val (.int (k - q))), ?_⟩
        rw [es, ek, List.append_nil, z0]
theorem rangeI_split (lo : Int) (m n : Nat) : rangeI lo (m + n) = rangeI lo m ++ rangeI (lo + m) n := by
  induction n with
  | zero => simp [rangeI_zero]
  | succ n ih =>
    rw [← Nat.add_assoc, rangeI_succ, ih, rangeI_succ, List.append_assoc]
    congr 3
    omega
theorem flat_nil {β : Type} (f : Int → List β) : ∀ xs : List Int, (∀ x ∈ xs, f x = []) → xs.flatMap f = []
  | [], _ => rfl
  | x :: xs, h => by rw [List.flatMap_cons, h x (by simp), flat_nil f xs fun y hy => h y (by simp [hy])]; rfl
theorem flat_sub {β : Type} (f : Int → List β) (w : Nat) (l r : Int) (h0 : 0 ≤ l) (hr : r ≤ w) (hf : ∀ x : Int, 0 ≤ x → x < w → ¬ (l ≤ x ∧ x < r) → f x = []) : (rangeI 0 w).flatMap f = (rangeI l (r - l).toNat).flatMap f := by
  by_cases c : l < r
  · have e : w = (l.toNat + (r - l).toNat) + (w - r).toNat := by omega
    conv => lhs; rw [e]
    rw [rangeI_split, rangeI_split, List.flatMap_append, List.flatMap_append, flat_nil f (rangeI 0 l.toNat), flat_nil f (rangeI _ (w - r).toNat)]
    · rw [List.nil_append, List.append_nil]
      congr 2
      omega
    · intro x hx
      rw [mem_rangeI] at hx
      exact hf x (by omega) (by omega) (by omega)
    · intro x hx
      rw [mem_rangeI] at hx
      exact hf x (by omega) (by omega) (by omega)
  · rw [show (r - l).toNat = 0 by omega, rangeI_zero, flat_nil f]
    · rfl
    · intro x hx
      rw [mem_rangeI] at hx
      exact hf x (by omega) (by omega) (by omega)
/-- the cells that both have, as a box -/
def boxE (a b : List (List Int)) (w h w' h' p q : Int) : List Ent := (rangeI (max 0 q) (min h (q + h') - max 0 q).toNat).flatMap fun y => (rangeI (max 0 p) (min w (p + w') - max 0 p).toNat).map fun x => ((x, y), cell a y x - cell b (y - q) (x - p))
theorem both_box (a b : List (List Int)) (h w h' w' : Nat) (p q : Int) : bothAll a b w' h' p q w h = boxE a b w h w' h' p q := by
  unfold bothAll boxE
  rw [flat_sub _ h (max 0 q) (min (h : Int) (q + h')) (by omega) (by omega)]
  · refine flatMap_congr' fun y hy => ?_
    rw [mem_rangeI] at hy
    unfold bothRow
    rw [flat_sub _ w (max 0 p) (min (w : Int) (p + w')) (by omega) (by omega)]
    · rw [List.map_eq_flatMap]
      refine flatMap_congr' fun x hx => ?_
      rw [mem_rangeI] at hx
      unfold both
      rw [if_pos (by omega)]
    · intro x h1 h2 h3
      exact if_neg (by omega)
  · intro y h1 h2 h3
    refine flat_nil _ _ fun x hx => ?_
    exact if_neg (by omega)
theorem box_vals (a b : List (List Int)) (w h w' h' p q : Int) : (boxE a b w h w' h' p q).map (·.2) = steps a b w h w' h' p q := by
  unfold boxE steps stepsG
  rw [List.map_flatMap]
  refine flatMap_congr' fun y _ => ?_
  rw [List.map_map]
  rfl
theorem box_keys (a b : List (List Int)) (w h w' h' p q : Int) : (boxE a b w h w' h' p q).map (·.1) = (rangeI (max 0 q) (min h (q + h') - max 0 q).toNat).flatMap fun y => (rangeI (max 0 p) (min w (p + w') - max 0 p).toNat).map fun x => (x, y) := by
  unfold boxE
  rw [List.map_flatMap]
  refine flatMap_congr' fun y _ => ?_
  rw [List.map_map]
  rfl
theorem rangeI_nodup (lo : Int) (n : Nat) : (rangeI lo n).Nodup := by
  induction n with
  | zero => simp [rangeI_zero]
  | succ n ih =>
    rw [rangeI_succ, List.nodup_append]
    refine ⟨ih, by simp, ?_⟩
    intro x hx y hy
    rw [mem_rangeI] at hx
    simp -implicitDefEqProofs only [List.mem_singleton] at hy
    omega
theorem grid_nodup (xs : List Int) (hx : xs.Nodup) : ∀ ys : List Int, ys.Nodup → (ys.flatMap fun y => xs.map fun x => (x, y)).Nodup
  | [], _ => by simp
  | y :: ys, h => by
    rw [List.nodup_cons] at h
    rw [List.flatMap_cons, List.nodup_append]
    refine ⟨?_, grid_nodup xs hx ys h.2, ?_⟩
    · exact List.pairwise_map.mpr (hx.imp fun ne e => ne (congrArg Prod.fst e))
    · intro u hu v hv e
      subst e
      obtain ⟨x, _, rfl⟩ := List.mem_map.mp hu
      obtain ⟨y', hy', hm⟩ := List.mem_flatMap.mp hv
      obtain ⟨x', _, e2⟩ := List.mem_map.mp hm
      have : y' = y := congrArg Prod.snd e2
      exact h.1 (this ▸ hy')
theorem box_nodup (a b : List (List Int)) (w h w' h' p q : Int) : ((boxE a b w h w' h' p q).map (·.1)).Nodup := by
  rw [box_keys]
  exact grid_nodup _ (rangeI_nodup ..) _ (rangeI_nodup ..)
/-! sorted, looked up -/
def leT (a b : Int × Int) : Bool := PySem.W.dataLe false (fun d : D => d) (keyT a) (keyT b)
theorem sortD_keys (K : List (Int × Int)) : sortD (K.map keyT) = (K.mergeSort leT).map keyT := by
  unfold sortD
  exact (List.map_mergeSort (f := keyT) (r := leT) fun _ _ _ _ => rfl).symm
theorem okSort_keys (K : List (Int × Int)) : okSort (K.map keyT) = true := by
  unfold okSort
  simp -implicitDefEqProofs only [Bool.and_eq_true, List.all_eq_true, Bool.or_eq_true]
  refine ⟨⟨fun d hd e he => ?_, .inl fun d hd => ?_⟩, fun d hd => ?_⟩
  · obtain ⟨k, _, rfl⟩ := List.mem_map.mp hd
    obtain ⟨l, _, rfl⟩ := List.mem_map.mp he
    simp [keyT, PySem.W.alike, PySem.W.alikeAll]
  · obtain ⟨k, _, rfl⟩ := List.mem_map.mp hd
    rfl
  · obtain ⟨k, _, rfl⟩ := List.mem_map.mp hd
    simp [keyT, PyData.canLay0, PyData.canLayAll0, PyData.depth, PyData.depthAll]
theorem sort_dicT (E : List Ent) : sortF [dicT E] = some (.list (((E.map (·.1)).mergeSort leT).map keyT)) := by
  have e : keysD (dicT E) = some ((E.map (·.1)).map keyT) := by
    have : keysD (dicT E) = some ((E.map entD).map (·.1)) := by cases E <;> rfl
    rw [this, List.map_map, List.map_map]
    rfl
  have u : sortF [dicT E] = (keysD (dicT E)).bind fun ks => if okSort ks = true then some (.list (sortD ks)) else none := rfl
  rw [u, e, Option.bind_some, if_pos (okSort_keys _), sortD_keys]
def valT (E : List Ent) (k : Int × Int) : Int := ((E.find? fun e => decide (e.1 = k)).map (·.2)).getD 0
theorem dget_T (E : List Ent) (k : Int × Int) : dgetP (E.map entD) (keyT k) = (E.find? fun e => decide (e.1 = k)).map fun e => PyData.int e.2 := by
  unfold dgetP
  rw [List.find?_map, Option.map_map]
  have : ((fun q : D × D => PyData.eqv q.1 (keyT k)) ∘ entD) = fun e : Ent => decide (e.1 = k) := by
    funext e
    exact keyT_eqv' e.1 k
  rw [this]
  rfl
theorem dix_T (E : List Ent) (k : Int × Int) (h : k ∈ E.map (·.1)) : dixF (dicT E) (keyT k) = some (.int (valT E k)) := by
  have e : dAt (dicT E) (keyT k) = some (dgetP (E.map entD) (keyT k)) := by cases E <;> rfl
  unfold dixF
  rw [e, dget_T]
  obtain ⟨x, hx, rfl⟩ := List.mem_map.mp h
  unfold valT
  cases hf : E.find? fun e => decide (e.1 = x.1) with
  | none =>
    have := List.find?_eq_none.mp hf x hx
    simp at this
  | some y => rfl
theorem valT_self : ∀ (E : List Ent), (E.map (·.1)).Nodup → (E.map (·.1)).map (valT E) = E.map (·.2)
  | [], _ => rfl
  | e :: E, h => by
    rw [List.map_cons, List.nodup_cons] at h
    have ih := valT_self E h.2
    rw [List.map_cons, List.map_cons, List.map_cons]
    have e1 : valT (e :: E) e.1 = e.2 := by simp [valT]
    rw [e1, ← ih]
    congr 1
    refine List.map_congr_left fun k hk => ?_
    have ne : e.1 ≠ k := fun z => h.1 (z ▸ hk)
    unfold valT
    rw [List.find?_cons_of_neg (by simpa using ne)]
theorem eq_nilF (L : List Int) : eqF (.list (L.map PyData.int)) (.list []) = some (.bool L.isEmpty) := by
  have l1 : Ly 1 (.list (L.map PyData.int)) := Ly.list fun d hd => by
    obtain ⟨x, _, rfl⟩ := List.mem_map.mp hd
    exact Ly.int 0 x
  rw [f_eq l1 (Ly.list (k := 0) (ds := []) (by simp)) (by decide)]
  cases L <;> simp [PyData.eqv, PyData.eqvAll]
theorem lunlike_eq (E : List Ent) (hn : (E.map (·.1)).Nodup) (hl : E.length ≤ 144) (hv : ∀ x ∈ E.map (·.2), -255 ≤ x ∧ x ≤ 255) : sem__law_unlike [dicT E] = .ok (unl (E.map (·.2))) := by
  generalize hK : (E.map (·.1)).mergeSort leT = K
  have pK : K.Perm (E.map (·.1)) := hK ▸ List.mergeSort_perm ..
  have pL : (K.map (valT E)).Perm (E.map (·.2)) := by
    have := pK.map (valT E)
    rw [valT_self E hn] at this
    exact this
  rw [← unl_perm pL]
  have lL : (K.map (valT E)).length ≤ 144 := by rw [pL.length_eq, List.length_map]; exact hl
  have bL : ∀ x ∈ K.map (valT E), -255 ≤ x ∧ x ≤ 255 := fun x hx => hv x (pL.mem_iff.mp hx)
  have so := sort_dicT E
  rw [hK] at so
  have comp : ∀ ρ : En, ρ = [some (.val (dicT E)), none, none, none, none, none, none] → eLc [6] (iSeq (eCB sortF [eV 0])) (.nm 6) (eC (.bool true)) (eOp dixF (eV 0) (eV 6)) ρ = .ok (.list ((K.map (valT E)).map PyData.int)) := by
    rintro ρ rfl
    rw [eLc_mapA K keyT (fun k => PyData.int (valT E k)) (by simp -implicitDefEqProofs only [so, ap_sSeq, seqO_nx, seqO_rt, seqO_exc, ap_sIf, ifO_t, ifO_f, ifO_exc, ap_sNx, ap_sSet, ap_sOwn, ap_sRet, ap_sDrop, ap_sAsg, outB_some, bT_nm, bT_tp, bTs_nil, bTs_cons, ap_sRaise, ap_sPar, parO_ok, ap_sFor, ap_sRetV, retO_own, retO_val, ap_sFrz, frzO_own, frzO_val, ap_sApp, ap_sExt, ap_eV, valO_val, ap_eB, borO_val, borO_own, ap_eC, ap_eOp, opO_ok, ap_eUn, ap_eTup, ap_eLst, tupR_ok, lstR_ok, ap_eCB, ap_eCall, callO_ok, callO_exc, ap_gNot, notR_b, ap_gTru, truR_b, truR_list, ap_gAnd, ap_gOr, andO_t, andO_f, orO_t, orO_f, ap_eAnd, ap_eOr, eandO_t, eandO_f, eorO_t, eorO_f, ap_eNot, enotO_b, enotO_list, ap_eIf, eifO_t, eifO_f, ap_eChain, chO_ok, ap_eIsi, isiO_int, isiO_tup, isiO_lst, isiO_bl, isiO_str, isiO_non, isInt_int, isInt_bl, isInt_tup, isInt_lst, isInt_str, isInt_non, isBool_int, isBool_bl, isTup_tup, isTup_lst, isTup_int, isTup_non, isTup_str, isTup_bl, isLst_lst, isLst_tup, f_add, f_sub, f_neg, f_eqI, f_neI, f_eqB, f_neB, f_lt, f_le, f_gt, f_ge, f_is, f_isNot, isNone_int, isNone_tup, isNone_lst, isNone_non, f_len_l, f_len_t, f_len_rd, f_tup_l, f_tup_t, f_max2, f_min2, f_abs, f_sum_l, f_sum_t, f_ix0, f_ix1, f_ix2, f_ix3, f_rev_t, outR_nx, outR_rt, outR_exc, nones0, nonesS, runB_eq, ap_eSl, optI_none, optI_some, optO_int, ap_sWh, ap_iSeq, items_l, items_t, ap_iRange1, ap_iRange2, wipeE_nil, wipeE_cons, evA_nil, evA_cons, RL.cons_ok, RL.cons_exc, RL.bind_ok, RL.bind_exc, RL.out_ok, RL.out_exc, Rs.bind_ok, Rs.bind_exc, Rs.out_ok, Rs.out_exc, Rs.of_some, Option.bind_some, List.getElem?_cons_zero, List.getElem?_cons_succ, List.set_cons_zero, List.set_cons_succ, List.map_cons, List.map_nil, List.cons_append, List.nil_append, List.length_cons, List.length_nil, Nat.reduceAdd, Nat.reduceSub, Nat.reduceLeDiff, Nat.reduceLT, Bool.not_true, Bool.not_false, decide_true, decide_false]) (by rw [List.length_map] at lL; omega) (by
      intro k hk
      simp -implicitDefEqProofs only [dix_T E k (pK.mem_iff.mp hk), ap_sSeq, seqO_nx, seqO_rt, seqO_exc, ap_sIf, ifO_t, ifO_f, ifO_exc, ap_sNx, ap_sSet, ap_sOwn, ap_sRet, ap_sDrop, ap_sAsg, outB_some, bT_nm, bT_tp, bTs_nil, bTs_cons, ap_sRaise, ap_sPar, parO_ok, ap_sFor, ap_sRetV, retO_own, retO_val, ap_sFrz, frzO_own, frzO_val, ap_sApp, ap_sExt, ap_eV, valO_val, ap_eB, borO_val, borO_own, ap_eC, ap_eOp, opO_ok, ap_eUn, ap_eTup, ap_eLst, tupR_ok, lstR_ok, ap_eCB, ap_eCall, callO_ok, callO_exc, ap_gNot, notR_b, ap_gTru, truR_b, truR_list, ap_gAnd, ap_gOr, andO_t, andO_f, orO_t, orO_f, ap_eAnd, ap_eOr, eandO_t, eandO_f, eorO_t, eorO_f, ap_eNot, enotO_b, enotO_list, ap_eIf, eifO_t, eifO_f, ap_eChain, chO_ok, ap_eIsi, isiO_int, isiO_tup, isiO_lst, isiO_bl, isiO_str, isiO_non, isInt_int, isInt_bl, isInt_tup, isInt_lst, isInt_str, isInt_non, isBool_int, isBool_bl, isTup_tup, isTup_lst, isTup_int, isTup_non, isTup_str, isTup_bl, isLst_lst, isLst_tup, f_add, f_sub, f_neg, f_eqI, f_neI, f_eqB, f_neB, f_lt, f_le, f_gt, f_ge, f_is, f_isNot, isNone_int, isNone_tup, isNone_lst, isNone_non, f_len_l, f_len_t, f_len_rd, f_tup_l, f_tup_t, f_max2, f_min2, f_abs, f_sum_l, f_sum_t, f_ix0, f_ix1, f_ix2, f_ix3, f_rev_t, outR_nx, outR_rt, outR_exc, nones0, nonesS, runB_eq, ap_eSl, optI_none, optI_some, optO_int, ap_sWh, ap_iSeq, items_l, items_t, ap_iRange1, ap_iRange2, wipeE_nil, wipeE_cons, evA_nil, evA_cons, RL.cons_ok, RL.cons_exc, RL.bind_ok, RL.bind_exc, RL.out_ok, RL.out_exc, Rs.bind_ok, Rs.bind_exc, Rs.out_ok, Rs.out_exc, Rs.of_some, Option.bind_some, List.getElem?_cons_zero, List.getElem?_cons_succ, List.set_cons_zero, List.set_cons_succ, List.map_cons, List.map_nil, List.cons_append, List.nil_append, List.length_cons, List.length_nil, Nat.reduceAdd, Nat.reduceSub, Nat.reduceLeDiff, Nat.reduceLT, Bool.not_true, Bool.not_false, decide_true, decide_false]
      exact ⟨trivial, trivial⟩), List.map_map]
    rfl
  generalize K.map (valT E) = L at *
  simp -implicitDefEqProofs only [sem__law_unlike, b__law_unlike, comp _ rfl, eq_nilF, ap_sSeq, seqO_nx, seqO_rt, seqO_exc, ap_sIf, ifO_t, ifO_f, ifO_exc, ap_sNx, ap_sSet, ap_sOwn, ap_sRet, ap_sDrop, ap_sAsg, outB_some, bT_nm, bT_tp, bTs_nil, bTs_cons, ap_sRaise, ap_sPar, parO_ok, ap_sFor, ap_sRetV, retO_own, retO_val, ap_sFrz, frzO_own, frzO_val, ap_sApp, ap_sExt, ap_eV, valO_val, ap_eB, borO_val, borO_own, ap_eC, ap_eOp, opO_ok, ap_eUn, ap_eTup, ap_eLst, tupR_ok, lstR_ok, ap_eCB, ap_eCall, callO_ok, callO_exc, ap_gNot, notR_b, ap_gTru, truR_b, truR_list, ap_gAnd, ap_gOr, andO_t, andO_f, orO_t, orO_f, ap_eAnd, ap_eOr, eandO_t, eandO_f, eorO_t, eorO_f, ap_eNot, enotO_b, enotO_list, ap_eIf, eifO_t, eifO_f, ap_eChain, chO_ok, ap_eIsi, isiO_int, isiO_tup, isiO_lst, isiO_bl, isiO_str, isiO_non, isInt_int, isInt_bl, isInt_tup, isInt_lst, isInt_str, isInt_non, isBool_int, isBool_bl, isTup_tup, isTup_lst, isTup_int, isTup_non, isTup_str, isTup_bl, isLst_lst, isLst_tup, f_add, f_sub, f_neg, f_eqI, f_neI, f_eqB, f_neB, f_lt, f_le, f_gt, f_ge, f_is, f_isNot, isNone_int, isNone_tup, isNone_lst, isNone_non, f_len_l, f_len_t, f_len_rd, f_tup_l, f_tup_t, f_max2, f_min2, f_abs, f_sum_l, f_sum_t, f_ix0, f_ix1, f_ix2, f_ix3, f_rev_t, outR_nx, outR_rt, outR_exc, nones0, nonesS, runB_eq, ap_eSl, optI_none, optI_some, optO_int, ap_sWh, ap_iSeq, items_l, items_t, ap_iRange1, ap_iRange2, wipeE_nil, wipeE_cons, evA_nil, evA_cons, RL.cons_ok, RL.cons_exc, RL.bind_ok, RL.bind_exc, RL.out_ok, RL.out_exc, Rs.bind_ok, Rs.bind_exc, Rs.out_ok, Rs.out_exc, Rs.of_some, Option.bind_some, List.getElem?_cons_zero, List.getElem?_cons_succ, List.set_cons_zero, List.set_cons_succ, List.map_cons, List.map_nil, List.cons_append, List.nil_append, List.length_cons, List.length_nil, Nat.reduceAdd, Nat.reduceSub, Nat.reduceLeDiff, Nat.reduceLT, Bool.not_true, Bool.not_false, decide_true, decide_false]
  cases L with
  | nil => simp [unl, ap_sSeq, seqO_nx, seqO_rt, seqO_exc, ap_sIf, ifO_t, ifO_f, ifO_exc, ap_sNx, ap_sSet, ap_sOwn, ap_sRet, ap_sDrop, ap_sAsg, outB_some, bT_nm, bT_tp, bTs_nil, bTs_cons, ap_sRaise, ap_sPar, parO_ok, ap_sFor, ap_sRetV, retO_own, retO_val, ap_sFrz, frzO_own, frzO_val, ap_sApp, ap_sExt, ap_eV, valO_val, ap_eB, borO_val, borO_own, ap_eC, ap_eOp, opO_ok, ap_eUn, ap_eTup, ap_eLst, tupR_ok, lstR_ok, ap_eCB, ap_eCall, callO_ok, callO_exc, ap_gNot, notR_b, ap_gTru, truR_b, truR_list, ap_gAnd, ap_gOr, andO_t, andO_f, orO_t, orO_f, ap_eAnd, ap_eOr, eandO_t, eandO_f, eorO_t, eorO_f, ap_eNot, enotO_b, enotO_list, ap_eIf, eifO_t, eifO_f, ap_eChain, chO_ok, ap_eIsi, isiO_int, isiO_tup, isiO_lst, isiO_bl, isiO_str, isiO_non, isInt_int, isInt_bl, isInt_tup, isInt_lst, isInt_str, isInt_non, isBool_int, isBool_bl, isTup_tup, isTup_lst, isTup_int, isTup_non, isTup_str, isTup_bl, isLst_lst, isLst_tup, f_add, f_sub, f_neg, f_eqI, f_neI, f_eqB, f_neB, f_lt, f_le, f_gt, f_ge, f_is, f_isNot, isNone_int, isNone_tup, isNone_lst, isNone_non, f_len_l, f_len_t, f_len_rd, f_tup_l, f_tup_t, f_max2, f_min2, f_abs, f_sum_l, f_sum_t, f_ix0, f_ix1, f_ix2, f_ix3, f_rev_t, outR_nx, outR_rt, outR_exc, nones0, nonesS, runB_eq, ap_eSl, optI_none, optI_some, optO_int, ap_sWh, ap_iSeq, items_l, items_t, ap_iRange1, ap_iRange2, wipeE_nil, wipeE_cons, evA_nil, evA_cons, RL.cons_ok, RL.cons_exc, RL.bind_ok, RL.bind_exc, RL.out_ok, RL.out_exc, Rs.bind_ok, Rs.bind_exc, Rs.out_ok, Rs.out_exc, Rs.of_some, Option.bind_some, List.getElem?_cons_zero, List.getElem?_cons_succ, List.set_cons_zero, List.set_cons_succ, List.map_cons, List.map_nil, List.cons_append, List.nil_append, List.length_cons, List.length_nil, Nat.reduceAdd, Nat.reduceSub, Nat.reduceLeDiff, Nat.reduceLT, Bool.not_true, Bool.not_false, decide_true, decide_false]
  | cons x L =>
    have hne : x :: L ≠ [] := by simp
    rw [unl_fr hne]
    generalize hM : x :: L = M at *
    have hE : M.isEmpty = false := by rw [← hM]; rfl
    have n0 : 0 < (M.length : Int) := by rw [← hM, List.length_cons]; omega
    have sb := sum_bd 255 M bL
    have bn : Bd 20 (M.length : Int) := Bd.of 0 144 (by omega) (by decide) (by decide)
    have q1 := lleast_big M.sum (M.length : Int) n0 (bn.mono (by decide))
    have dv : devs (M.length : Int) M.sum M = (M.length : Int) * ((M.length : Int) * (M.map fun x => x * x).sum - M.sum * M.sum) := by
      rw [devs_sum]
      grind
    have sq : (M.map fun x => x * x).sum ≤ 65025 * M.length := by
      have := (sum_bd 65025 (M.map fun x => x * x) fun y hy => by
        obtain ⟨z, hz, rfl⟩ := List.mem_map.mp hy
        have h1 := sq_le (bL z hz)
        have h2 : 0 ≤ z * z := by
          rcases Int.le_total 0 z with q | q
          · exact Int.mul_nonneg q q
          · have := Int.mul_nonneg (Int.neg_nonneg_of_nonpos q) (Int.neg_nonneg_of_nonpos q)
            rw [Int.neg_mul_neg] at this
            exact this
        omega).2
      rw [List.length_map] at this
      exact this
    have q0 := devs_nonneg (M.length : Int) M.sum M
    have big : devs (M.length : Int) M.sum M ≤ 200000000000 := by
      rw [dv]
      have s0 : 0 ≤ M.sum * M.sum := by
        rcases Int.le_total 0 M.sum with q | q
        · exact Int.mul_nonneg q q
        · have := Int.mul_nonneg (Int.neg_nonneg_of_nonpos q) (Int.neg_nonneg_of_nonpos q)
          rw [Int.neg_mul_neg] at this
          exact this
      have m1 : (M.length : Int) * (M.map fun x => x * x).sum ≤ 144 * (65025 * 144) := by
        refine Int.le_trans (Int.mul_le_mul_of_nonneg_left sq (by omega)) ?_
        exact Int.mul_le_mul (by omega) (by omega) (by omega) (by omega)
      have m2 : (M.length : Int) * ((M.length : Int) * (M.map fun x => x * x).sum - M.sum * M.sum) ≤ (M.length : Int) * (144 * (65025 * 144)) := Int.mul_le_mul_of_nonneg_left (by omega) (by omega)
      omega
    have big2 : (200000000000 : Int) ≤ 2 ^ 200 := by decide
    obtain ⟨o4, o5, go⟩ := unlike_go n0 (by omega) (S := M.sum) (by omega) (some (.val (dicT E))) (some (.val (.list (M.map PyData.int)))) none M 0 none none (fun y hy => by have := bL y hy; omega) (by omega) (by omega)
    have f0 : frD 0 ((M.length : Int) * M.length) = .tuple [.int 0, .int 1] := by
      rw [← frD_one]
      exact frD_eq (Int.mul_pos n0 n0) (by decide) (by omega)
    rw [f0, Int.zero_add] at go
    have fin : sem__law_times [frD (devs (M.length : Int) M.sum M) ((M.length : Int) * M.length), .tuple [.int 1, .int (M.length : Int)]] = .ok (frD ((M.length : Int) * (M.map fun x => x * x).sum - M.sum * M.sum) ((M.length : Int) * M.length)) := by
      have e1 : (PyData.tuple [.int 1, .int (M.length : Int)]) = frD 1 (M.length : Int) := by
        unfold frD
        rw [Int.gcd_comm, Int.gcd_one_right]
        simp
      rw [e1, ltimes_eq _ _ _ _ (Int.mul_pos n0 n0) n0 ((Bd.of 0 200000000000 ⟨q0, big⟩ (by decide) (by decide) : Bd 40 _).mono (by decide)) ((bn.mul bn).mono (by decide)) (Bd.of 0 1 (by decide) (by decide) (by decide)) (bn.mono (by decide))]
      refine congrArg Rs.ok (frD_eq (Int.mul_pos (Int.mul_pos n0 n0) n0) (Int.mul_pos n0 n0) ?_)
      rw [dv]
      grind
    simp -implicitDefEqProofs only [hE, f_sum_l, List.length_map, q1, go, fin, ap_sSeq, seqO_nx, seqO_rt, seqO_exc, ap_sIf, ifO_t, ifO_f, ifO_exc, ap_sNx, ap_sSet, ap_sOwn, ap_sRet, ap_sDrop, ap_sAsg, outB_some, bT_nm, bT_tp, bTs_nil, bTs_cons, ap_sRaise, ap_sPar, parO_ok, ap_sFor, ap_sRetV, retO_own, retO_val, ap_sFrz, frzO_own, frzO_val, ap_sApp, ap_sExt, ap_eV, valO_val, ap_eB, borO_val, borO_own, ap_eC, ap_eOp, opO_ok, ap_eUn, ap_eTup, ap_eLst, tupR_ok, lstR_ok, ap_eCB, ap_eCall, callO_ok, callO_exc, ap_gNot, notR_b, ap_gTru, truR_b, truR_list, ap_gAnd, ap_gOr, andO_t, andO_f, orO_t, orO_f, ap_eAnd, ap_eOr, eandO_t, eandO_f, eorO_t, eorO_f, ap_eNot, enotO_b, enotO_list, ap_eIf, eifO_t, eifO_f, ap_eChain, chO_ok, ap_eIsi, isiO_int, isiO_tup, isiO_lst, isiO_bl, isiO_str, isiO_non, isInt_int, isInt_bl, isInt_tup, isInt_lst, isInt_str, isInt_non, isBool_int, isBool_bl, isTup_tup, isTup_lst, isTup_int, isTup_non, isTup_str, isTup_bl, isLst_lst, isLst_tup, f_add, f_sub, f_neg, f_eqI, f_neI, f_eqB, f_neB, f_lt, f_le, f_gt, f_ge, f_is, f_isNot, isNone_int, isNone_tup, isNone_lst, isNone_non, f_len_l, f_len_t, f_len_rd, f_tup_l, f_tup_t, f_max2, f_min2, f_abs, f_sum_l, f_sum_t, f_ix0, f_ix1, f_ix2, f_ix3, f_rev_t, outR_nx, outR_rt, outR_exc, nones0, nonesS, runB_eq, ap_eSl, optI_none, optI_some, optO_int, ap_sWh, ap_iSeq, items_l, items_t, ap_iRange1, ap_iRange2, wipeE_nil, wipeE_cons, evA_nil, evA_cons, RL.cons_ok, RL.cons_exc, RL.bind_ok, RL.bind_exc, RL.out_ok, RL.out_exc, Rs.bind_ok, Rs.bind_exc, Rs.out_ok, Rs.out_exc, Rs.of_some, Option.bind_some, List.getElem?_cons_zero, List.getElem?_cons_succ, List.set_cons_zero, List.set_cons_succ, List.map_cons, List.map_nil, List.cons_append, List.nil_append, List.length_cons, List.length_nil, Nat.reduceAdd, Nat.reduceSub, Nat.reduceLeDiff, Nat.reduceLT, Bool.not_true, Bool.not_false, decide_true, decide_false]
end VVlaw

set_option Elab.async false
set_option linter.all false
set_option maxRecDepth 100000
set_option maxHeartbeats 4000000
/-! PLt: try and except, by need; least and greatest of a list. -/
namespace VVlaw
open PySem PySem.Spec L2 VV
open PyProof.Rows hiding St
def tryO (i : Nat) (sub : Str → Option Bool) (fh : Str → SF) : Out → Out
  | .exc c fs ρ' => (match sub c with
    | some true => (match fs with
      | [] => (match ρ'[i]? with
        | some _ => Out.clr i (fh c (ρ'.set i none))
        | none => .bad)
      | _ => .bad)
    | some false => .exc c fs ρ'
    | none => .bad)
  | o => o
theorem ap_sTryAs (i : Nat) (sub : Str → Option Bool) (fb : SF) (fh : Str → SF) (ρ : En) : sTryAs i sub fb fh ρ = tryO i sub fh (fb ρ) := by
  unfold sTryAs tryO
  cases fb ρ <;> rfl
theorem tryO_hit (i : Nat) (sub : Str → Option Bool) (fh : Str → SF) (c : Str) (ρ : En) (o : Option Sl) (h : sub c = some true) (h2 : ρ[i]? = some o) : tryO i sub fh (.exc c [] ρ) = Out.clr i (fh c (ρ.set i none)) := by
  simp -implicitDefEqProofs only [tryO, h, h2]
theorem tryO_rt (i : Nat) (sub : Str → Option Bool) (fh : Str → SF) (d : D) : tryO i sub fh (.rt d) = .rt d := rfl
theorem tryO_nx (i : Nat) (sub : Str → Option Bool) (fh : Str → SF) (ρ : En) : tryO i sub fh (.nx ρ) = .nx ρ := rfl
theorem clr_rt (i : Nat) (d : D) : Out.clr i (.rt d) = .rt d := rfl
theorem clr_nx (i : Nat) (ρ : En) : Out.clr i (.nx ρ) = .nx (ρ.set i none) := rfl
/-- the same by need -/
def hitO (i : Nat) (fh : Str → SF) (c : Str) (ρ : En) : Option Bool → Option (Option Sl) → Out
  | some true, some _ => Out.clr i (fh c (ρ.set i none))
  | some true, none => .bad
  | some false, _ => .exc c [] ρ
  | none, _ => .bad
theorem tryO_exc (i : Nat) (sub : Str → Option Bool) (fh : Str → SF) (c : Str) (ρ : En) : tryO i sub fh (.exc c [] ρ) = hitO i fh c ρ (sub c) ρ[i]? := by
  simp -implicitDefEqProofs only [tryO, hitO]
  rcases sub c with _ | _ | _ <;> rcases ρ[i]? with _ | _ <;> rfl
theorem hitO_t (i : Nat) (fh : Str → SF) (c : Str) (ρ : En) (o : Option Sl) : hitO i fh c ρ (some true) (some o) = Out.clr i (fh c (ρ.set i none)) := rfl
theorem hitO_f (i : Nat) (fh : Str → SF) (c : Str) (ρ : En) (o : Option (Option Sl)) : hitO i fh c ρ (some false) o = .exc c [] ρ := rfl
def try1O (sub : Str → Option Bool) (fh : SF) : Out → Out
  | .exc c fs ρ' => (match sub c with
    | some true => Out.suf (fh ρ')
    | some false => .exc c fs ρ'
    | none => .bad)
  | o => o
theorem ap_sTry1 (sub : Str → Option Bool) (fb fh : SF) (ρ : En) : sTry1 sub fb fh ρ = try1O sub fh (fb ρ) := by
  unfold sTry1 try1O
  cases fb ρ <;> rfl
theorem try1O_hit (sub : Str → Option Bool) (fh : SF) (c : Str) (fs : List (Str × D)) (ρ : En) (h : sub c = some true) : try1O sub fh (.exc c fs ρ) = Out.suf (fh ρ) := by
  simp -implicitDefEqProofs only [try1O, h]
def hit1O (fh : SF) (c : Str) (fs : List (Str × D)) (ρ : En) : Option Bool → Out
  | some true => Out.suf (fh ρ)
  | some false => .exc c fs ρ
  | none => .bad
theorem try1O_exc (sub : Str → Option Bool) (fh : SF) (c : Str) (fs : List (Str × D)) (ρ : En) : try1O sub fh (.exc c fs ρ) = hit1O fh c fs ρ (sub c) := by
  simp -implicitDefEqProofs only [try1O, hit1O]
theorem hit1O_t (fh : SF) (c : Str) (fs : List (Str × D)) (ρ : En) : hit1O fh c fs ρ (some true) = Out.suf (fh ρ) := rfl
theorem hit1O_f (fh : SF) (c : Str) (fs : List (Str × D)) (ρ : En) : hit1O fh c fs ρ (some false) = .exc c fs ρ := rfl
theorem try1O_rt (sub : Str → Option Bool) (fh : SF) (d : D) : try1O sub fh (.rt d) = .rt d := rfl
theorem try1O_nx (sub : Str → Option Bool) (fh : SF) (ρ : En) : try1O sub fh (.nx ρ) = .nx ρ := rfl
theorem suf_rt (d : D) : Out.suf (.rt d) = .rt d := rfl
theorem suf_nx (ρ : En) : Out.suf (.nx ρ) = .nx ρ := rfl
/-- the least of a list -/
theorem min_of {L : List Int} {m : Int} (hm : m ∈ L) (hl : ∀ y ∈ L, m ≤ y) : best1F min [.list (L.map PyData.int)] = some (.int m) := by
  cases L with
  | nil => cases hm
  | cons x L =>
    rw [f_best_l]
    obtain ⟨h1, h2⟩ := foldl_min L x
    have := hl _ h1
    have := h2 _ hm
    congr 2
    omega
theorem max_of {L : List Int} {m : Int} (hm : m ∈ L) (hl : ∀ y ∈ L, y ≤ m) : best1F max [.list (L.map PyData.int)] = some (.int m) := by
  cases L with
  | nil => cases hm
  | cons x L =>
    rw [f_best_l]
    obtain ⟨h1, h2⟩ := foldl_max L x
    have := hl _ h1
    have := h2 _ hm
    congr 2
    omega
end VVlaw

set_option Elab.async false
set_option linter.all false
set_option maxRecDepth 100000
set_option maxHeartbeats 4000000
/-! VVu: zip of two lists or two tuples, enumerate of a list or a tuple. -/
namespace VV
open PySem PySem.Spec L2
open PyProof.Rows hiding St
def pairD (p : D × D) : D := .tuple [p.1, p.2]
def zipD (xs ys : List D) : List D := (xs.zip ys).map pairD
def zip2F : List D → Option (List D)
  | [.list xs, .list ys] => some (zipD xs ys)
  | [.tuple xs, .tuple ys] => some (zipD xs ys)
  | _ => none
def iZip (fs : List EF) : IF := fun ρ => (evA fs ρ).items zip2F
theorem zipD_length (xs ys : List D) : (zipD xs ys).length = min xs.length ys.length := by simp [zipD]
theorem zipD_get {xs ys : List D} {i : Nat} {d : D} (h : (zipD xs ys)[i]? = some d) : ∃ x y, xs[i]? = some x ∧ ys[i]? = some y ∧ d = .tuple [x, y] := by
  unfold zipD at h
  rw [List.getElem?_map] at h
  obtain ⟨p, hp, rfl⟩ := Option.map_eq_some_iff.mp h
  obtain ⟨h1, h2⟩ := List.getElem?_zip_eq_some.mp hp
  exact ⟨_, _, h1, h2, rfl⟩
section
variable {K : PySem.W.Frag}
/-- two lists that are walked at once; what their objects are, is asked at each turn -/
theorem itb_zipL {xs ys : List D} {a b : Addr} {S1 S2 : Hp → Ad → Prop} (h1 : ItB K xs (Itl K a) S1) (h2 : ItB K ys (Itl K b) S2) (g1 : ∀ H L, S1 H L → ∃ vs, H a = some (.lst vs) ∧ RpL K H L xs vs) (g2 : ∀ H L, S2 H L → ∃ vs, H b = some (.lst vs) ∧ RpL K H L ys vs) :
    ItB K (zipD xs ys) (Itz K a b) (fun H L => S1 H L ∧ S2 H L) where
  go := fun i H L ⟨s1, s2⟩ hi => by
    rw [zipD_length] at hi
    obtain ⟨vs, ha, ra⟩ := g1 H L s1
    obtain ⟨us, hb, rb⟩ := g2 H L s2
    have l1 := ra.length
    have l2 := rb.length
    exact ⟨vs, us, vs[i]'(by omega), us[i]'(by omega), SqL.of ha, SqL.of hb, by simp, by simp⟩
  stop := fun i H L ⟨s1, s2⟩ hi => by
    rw [zipD_length] at hi
    obtain ⟨vs, ha, ra⟩ := g1 H L s1
    obtain ⟨us, hb, rb⟩ := g2 H L s2
    have l1 := ra.length
    have l2 := rb.length
    exact ⟨vs, us, SqL.of ha, SqL.of hb, by omega⟩
  yld := fun i H L x H' ⟨s1, s2⟩ ⟨T, u, v, ex, hT, eH, hu, hv⟩ => by
    subst ex eH
    refine ⟨same_upd hT, fun d hd => ?_⟩
    obtain ⟨e1, e2, q1, q2, rfl⟩ := zipD_get hd
    obtain ⟨vs, ha, ra⟩ := g1 H L s1
    obtain ⟨us, hb, rb⟩ := g2 H L s2
    obtain ⟨w1, z1, r1⟩ := ra.get q1
    obtain ⟨w2, z2, r2⟩ := rb.get q2
    rw [hu vs (SqL.of ha)] at z1
    rw [hv us (SqL.of hb)] at z2
    cases z1
    cases z2
    exact .tup upd_same (.cons (r1.mono (same_upd hT)) (.cons (r2.mono (same_upd hT)) .nil))
  keep := fun H L H' L' ⟨s1, s2⟩ s l => ⟨h1.keep H L H' L' s1 s l, h2.keep H L H' L' s2 s l⟩
theorem itb_zipT {xs ys : List D} {a b : Addr} {S1 S2 : Hp → Ad → Prop} (h1 : ItB K xs (Itt K a) S1) (h2 : ItB K ys (Itt K b) S2) (g1 : ∀ H L, S1 H L → ∃ vs, H a = some (.tup vs) ∧ RpL K H L xs vs) (g2 : ∀ H L, S2 H L → ∃ vs, H b = some (.tup vs) ∧ RpL K H L ys vs) :
    ItB K (zipD xs ys) (RZ.ItzT K a b) (fun H L => S1 H L ∧ S2 H L) where
  go := fun i H L ⟨s1, s2⟩ hi => by
    rw [zipD_length] at hi
    obtain ⟨vs, ha, ra⟩ := g1 H L s1
    obtain ⟨us, hb, rb⟩ := g2 H L s2
    have l1 := ra.length
    have l2 := rb.length
    exact ⟨vs, us, vs[i]'(by omega), us[i]'(by omega), SqT.of ha, SqT.of hb, by simp, by simp⟩
  stop := fun i H L ⟨s1, s2⟩ hi => by
    rw [zipD_length] at hi
    obtain ⟨vs, ha, ra⟩ := g1 H L s1
    obtain ⟨us, hb, rb⟩ := g2 H L s2
    have l1 := ra.length
    have l2 := rb.length
    exact ⟨vs, us, SqT.of ha, SqT.of hb, by omega⟩
  yld := fun i H L x H' ⟨s1, s2⟩ ⟨T, u, v, ex, hT, eH, hu, hv⟩ => by
    subst ex eH
    refine ⟨same_upd hT, fun d hd => ?_⟩
    obtain ⟨e1, e2, q1, q2, rfl⟩ := zipD_get hd
    obtain ⟨vs, ha, ra⟩ := g1 H L s1
    obtain ⟨us, hb, rb⟩ := g2 H L s2
    obtain ⟨w1, z1, r1⟩ := ra.get q1
    obtain ⟨w2, z2, r2⟩ := rb.get q2
    rw [hu vs (SqT.of ha)] at z1
    rw [hv us (SqT.of hb)] at z2
    cases z1
    cases z2
    exact .tup upd_same (.cons (r1.mono (same_upd hT)) (.cons (r2.mono (same_upd hT)) .nil))
  keep := fun H L H' L' ⟨s1, s2⟩ s l => ⟨h1.keep H L H' L' s1 s l, h2.keep H L H' L' s2 s l⟩
theorem rp_lst {ds : List D} {a : Addr} (H : Hp) (L : Ad) (r : Rp K H L (.list ds) (.ref a)) : ∃ vs, H a = some (.lst vs) ∧ RpL K H L ds vs := by
  cases r with
  | lst h n rl => exact ⟨_, h, rl⟩
theorem rp_tup {ds : List D} {a : Addr} (H : Hp) (L : Ad) (r : Rp K H L (.tuple ds) (.ref a)) : ∃ vs, H a = some (.tup vs) ∧ RpL K H L ds vs := by
  cases r with
  | tup h rl => exact ⟨_, h, rl⟩
end
section
variable {X : Cx} {W : WX} {a b : Expr} {fs : List EF} {p pos tpos : Pos} {elts : List Expr} {kk : Nat}
theorem si_zip (hm : X.mg "zip" = none) (ha : SBA X W [a, b] fs) (hg : Gl X "zip" := by rfl) (hs : starEach [a, b] X.env = (false, eval a X.env) :: starEach [b] X.env := by rfl) (hpl : (backTo pos (starEach [b] X.env)).any (·.1) = false := by rfl) :
    SI X W (.Tuple elts kk tpos) (.Call (.Name "zip" p) [a, b] [] pos) (iZip fs) := (RZ.pi_zipA hg hm ha hs hpl).weak fun σ H R ⟨L, ρ, re, q⟩ => by
  refine ⟨L, ρ, re, ?_⟩
  unfold iZip RL.items at q
  cases hf : evA fs ρ with
  | bad => rw [hf] at q; exact q.elim
  | exc c gs => rw [hf] at q; exact q
  | ok ds =>
    rw [hf] at q
    dsimp only at q
    intro H1 vs s1 r
    unfold zip2F at q
    split at q
    · rename_i out hz
      split at hz
      · cases hz
        obtain ⟨v, w, rfl, rv, rw⟩ := r.two
        obtain ⟨a1, us1, rfl, h1, r1⟩ := rv.lstV
        obtain ⟨a2, us2, rfl, h2, r2⟩ := rw.lstV
        exact ⟨a1, a2, us1, us2, rfl, .inl ⟨SqL.of h1, SqL.of h2, q _ _ H1 s1 (itb_zipL itb_list itb_list (fun _ _ z => z) fun _ _ z => z) ⟨⟨us1, h1, r1⟩, us2, h2, r2⟩⟩⟩
      · cases hz
        obtain ⟨v, w, rfl, rv, rw⟩ := r.two
        obtain ⟨a1, us1, rfl, h1, r1⟩ := rv.tupV
        obtain ⟨a2, us2, rfl, h2, r2⟩ := rw.tupV
        exact ⟨a1, a2, us1, us2, rfl, .inr ⟨SqT.of h1, SqT.of h2, q _ _ H1 s1 (itb_zipT itb_tup itb_tup (fun _ _ z => z) fun _ _ z => z) ⟨⟨us1, h1, r1⟩, us2, h2, r2⟩⟩⟩
      · cases hz
    · exact q.elim
theorem RpL.two {K : PySem.W.Frag} {H : Hp} {L : Ad} {d e : D} {vs : List V} (h : RpL K H L [d, e] vs) : ∃ v w, vs = [v, w] ∧ Rp K H L d v ∧ Rp K H L e w := by
  cases h with
  | cons r t =>
    cases t with
    | cons r' t' =>
      cases t'
      exact ⟨_, _, rfl, r, r'⟩
theorem sis_zip (hm : X.mg "zip" = none) (ha : SA X W [a, b] fs) (hg : Gl X "zip" := by rfl) (hs : starEach [a, b] X.env = (false, eval a X.env) :: starEach [b] X.env := by rfl) (hpl : (backTo pos (starEach [b] X.env)).any (·.1) = false := by rfl) :
    SIS X W (.Tuple elts kk tpos) (.Call (.Name "zip" p) [a, b] [] pos) (iZip fs) := (RZ.pi_zipA hg hm ha hs hpl).weak fun σ H R ⟨L, ρ, re, q⟩ => by
  refine ⟨L, ρ, re, ?_⟩
  unfold iZip RL.items at q
  cases hf : evA fs ρ with
  | bad => rw [hf] at q; exact q.elim
  | exc c gs => rw [hf] at q; exact q
  | ok ds =>
    rw [hf] at q
    dsimp only at q
    intro H1 vs s1 r
    unfold zip2F at q
    split at q
    · rename_i out hz
      split at hz
      · cases hz
        obtain ⟨v, w, rfl, rv, rw⟩ := r.two
        obtain ⟨a1, us1, rfl, h1, r1⟩ := rv.rb.lstV
        obtain ⟨a2, us2, rfl, h2, r2⟩ := rw.rb.lstV
        exact ⟨a1, a2, us1, us2, rfl, .inl ⟨SqL.of h1, SqL.of h2, q _ _ H1 s1 ⟨itb_zipL its_lst.toItB its_lst.toItB rp_lst rp_lst, fun H L H' L' z ev => ⟨ev _ _ z.1, ev _ _ z.2⟩⟩ ⟨rv, rw⟩⟩⟩
      · cases hz
        obtain ⟨v, w, rfl, rv, rw⟩ := r.two
        obtain ⟨a1, us1, rfl, h1, r1⟩ := rv.tupV
        obtain ⟨a2, us2, rfl, h2, r2⟩ := rw.tupV
        exact ⟨a1, a2, us1, us2, rfl, .inr ⟨SqT.of h1, SqT.of h2, q _ _ H1 s1 ⟨itb_zipT its_tup.toItB its_tup.toItB rp_tup rp_tup, fun H L H' L' z ev => ⟨ev _ _ z.1, ev _ _ z.2⟩⟩ ⟨rv, rw⟩⟩⟩
      · cases hz
    · exact q.elim
end
end VV

set_option Elab.async false
set_option linter.all false
set_option maxRecDepth 100000
set_option maxHeartbeats 4000000
/-! VVv: enumerate of a list or a tuple. -/
namespace VV
open PySem PySem.Spec L2
open PyProof.Rows hiding St
/-! ### enumerate(v) begins -/
set_option maxHeartbeats 1000000 in
theorem enum_meets {v : Value} {o : Obj} {Φ : Heap → Prop} (B : Begins v o Φ) : Meets (Builtin.«enumerate.__new__» ⟨[.type "enumerate", v], []⟩) (fun _ R s => Φ s.heap ∧
    R (.ok (.ret (.ref (s.heap.push o).objs.size))) { s with heap := (s.heap.push o).push { cls := .type "enumerate", data := .fields #[.none, .bool false, .ref s.heap.objs.size, rawInt 0, .none, .none] } }) := by
  refine .of_wp fun prog w A R s h => ?_
  obtain ⟨hp, g, d, tk, os⟩ := s
  obtain ⟨ok, go⟩ := h
  have hsub := sub_enumerate
  have begins : ∀ {A' : Around} {E : Value → Shared → Prop} {Q : Value → Shared → Prop}, Q (.ref hp.objs.size) ⟨hp.push o, g, d, tk, os⟩ → wpAny (model prog w) A' (pyIter v) Q E ⟨hp, g, d, tk, os⟩ := fun q => B.iter prog w _ _ ⟨hp, g, d, tk, os⟩ _ ok q
  wp_walk using begins
  apply wpAny_stack_any
  intro st
  apply wpAny_pure
  split
  · rename_i c _ _ _ _ _
    cases (c == Value.type "enumerate") <;> (wp_walk using begins; exact ⟨_, rfl, go⟩)
  · wp_walk using begins; exact ⟨_, rfl, go⟩
section
variable {prog : Program} {w : World} {A : Around} {E : Value → Shared → Prop} {s : Shared}
theorem enum_call {v : Value} {o : Obj} {Φ : Heap → Prop} {Q : Value → Shared → Prop} (B : Begins v o Φ) (ok : Φ s.heap)
    (go : ∀ g : Heap, IsEnum g (s.heap.objs.size + 1) s.heap.objs.size 0 .none → g.get? s.heap.objs.size = some o → (∀ b u, s.heap.get? b = some u → g.get? b = some u) → Q (.ref (s.heap.objs.size + 1)) { s with heap := g }) :
    wpAny (model prog w) A (call (.type "enumerate") [v]) Q E s := by
  have size : (s.heap.push o).objs.size = s.heap.objs.size + 1 := Heap.size_push ..
  have inner : (s.heap.push o).get? s.heap.objs.size = some o := Heap.get?_push_size _ B.free
  apply callType_new F.called_enumerate (by decide) (F.typeCall_enumerate_1 _) (F.newCall_enumerate_1 _) (fun obj => F.args_object_init_2 obj _) F.entry_enumerate_new (enum_meets B)
  refine ⟨ok, ?_⟩
  have made : IsEnum ((s.heap.push o).push { cls := .type "enumerate", data := .fields #[.none, .bool false, .ref s.heap.objs.size, rawInt 0, .none, .none] }) (s.heap.objs.size + 1) s.heap.objs.size 0 .none := by
    rw [← size]
    exact Heap.get?_push_size _ rfl
  show _ ∧ _
  rw [size]
  exact ⟨⟨_, made, rfl⟩, go _ made (Heap.get?_push_of_some _ inner) fun b u e => Heap.get?_push_of_some _ (Heap.get?_push_of_some _ e)⟩
end
/-! ### its turns over a tuple -/
def ItE (K : PySem.W.Frag) (a : Addr) : It where
  go := fun i H => ∃ (xs : List V) (x : V), SqT K H a xs ∧ xs[i]? = some x
  yld := fun i H v H' => ∃ T x, v = .ref T ∧ H T = none ∧ H' = upd H T (.tup [.int (i : Nat), x]) ∧ ∀ xs, SqT K H a xs → xs[i]? = some x
  stop := fun i H => ∃ xs : List V, SqT K H a xs ∧ xs.length ≤ i
theorem turn_enumT {P : Program} {w : World} {K : PySem.W.Frag} {elts : List Expr} {kk : Nat} {tpos : Pos} (a e it : Addr) : Turn P w K (.Tuple elts kk tpos) (ItE K a) [e, it] e (fun i h => (∃ old, IsEnum h e it ((i : Nat) : Int) old) ∧ h.IsTupleIter it a i ∧ e ≠ it ∧ a ≠ it ∧ a ≠ e) where
  mem := List.mem_cons_self
  obj := by
    rintro i h ⟨⟨old, en⟩, ⟨o, ho, _, hd⟩, _⟩ b hb
    simp only [List.mem_cons, List.not_mem_nil, or_false] at hb
    rcases hb with rfl | rfl
    · exact ⟨_, en, nofun⟩
    · exact ⟨o, ho, fun v z => nomatch hd.symm.trans z⟩
  keep := by
    rintro i h h' ⟨⟨old, en⟩, ti, ne⟩ k
    exact ⟨⟨old, k e (by simp) _ en⟩, ti.at fun o q => k it (by simp) o q, ne⟩
  item := by
    rintro X rfl rfl rfl calm i pn s σ H E inv fp ⟨⟨old, en⟩, ti, ne1, ne2, ne3⟩ ⟨xs, x, sq, at_⟩
    obtain ⟨its, rel, tup, _⟩ := inv.tuple sq
    have le : e < s.heap.objs.size := Heap.lt_size en
    have li : it < s.heap.objs.size := by obtain ⟨_, q, _⟩ := ti; exact Heap.lt_size q
    have many := rel.length
    have here : i < xs.length := (List.getElem?_eq_some_iff.mp at_).1
    have D := Draws.tuple (prog := X.prog) (w := X.w) (A := X.A.in1) (inv.ok.hd calm) it a ne2 its.toArray
    refine wpAny_pyNext_enum_itemD D en ⟨ti, tup⟩ (by rw [List.size_toArray]; omega) ne1 (by simp only [List.mem_cons, List.not_mem_nil, or_false]; exact fun z => z.elim ne1 fun z => ne3 z.symm) ?_
    intro u g tk hu out st' tupl _ keep
    refine ⟨_, rfl, wpAny_letOwnedTupleGo_enum (s := { s with heap := g, toks := tk + 1 }) out ?_⟩
    intro g' en' same
    obtain ⟨v, hv, rv⟩ : ∃ v, its[i]? = some v ∧ RelV x v := rel.get at_
    have eu : v = u := by
      have h1 : its.toArray[i]? = some v := by simpa using hv
      exact Option.some.inj (h1.symm.trans hu)
    subst eu
    have lies : g'.get? s.heap.objs.size = some { cls := .type "tuple", data := .seq #[.int i tk, v] } := (same.2 _ (Nat.ne_of_gt le)).trans tupl
    have new : ObjOk X.prog X.w (upd H s.heap.objs.size (.tup [.int (i : Nat), x])) g' s.heap.objs.size (.tup [.int (i : Nat), x]) :=
      ⟨by rw [sizeLine_eq]; simp, [.int i tk, v], .cons ⟨_, rfl⟩ (.cons rv .nil), ⟨_, lies, rfl, _, rfl⟩⟩
    have old' : ∀ b o, b ∉ [e, it] → s.heap.get? b = some o → g'.get? b = some o := fun b o nb q => by
      simp only [List.mem_cons, List.not_mem_nil, or_false, not_or] at nb
      exact (same.2 b nb.1).trans (keep b o nb.1 nb.2 q)
    have inv1 := inv.turnedNew (t' := tk + 1) (ch := [e, it]) old' fp (Nat.le_refl _) new
    refine ⟨.ref s.heap.objs.size, _, inv1, rfl, ⟨_, x, rfl, inv.hok.fresh (Nat.le_refl _), rfl, fun ys hy => by rw [inv.tuple_inj hy sq]; exact at_⟩, ⟨⟨v, ?_⟩, st'.1.at fun o q => (same.2 it (Ne.symm ne1)).trans q, ne1, ne2, ne3⟩, ?_⟩
    · rw [show ((i + 1 : Nat) : Int) = (i : Int) + 1 by omega]
      exact en'
    · intro b hb
      have lb : b < s.heap.objs.size := by
        simp only [List.mem_cons, List.not_mem_nil, or_false] at hb
        rcases hb with rfl | rfl
        · exact le
        · exact li
      exact (upd_ne (Nat.ne_of_lt lb)).trans (fp b hb).1
  done := by
    rintro X rfl rfl rfl calm i pn s σ H E inv fp ⟨⟨old, en⟩, ti, ne1, ne2, ne3⟩ ⟨xs, sq, past⟩
    obtain ⟨its, rel, tup, _⟩ := inv.tuple sq
    obtain ⟨f0, f1, _, f3, f4, f5⟩ := fp it (by simp)
    have many := rel.length
    have D : Draws X.prog X.w X.A.in1 it [it, a] i (fun _ _ => True) (fun j h => j = i ∧ h.IsTupleIter it a i ∧ h.IsTuple a its.toArray) := by
      refine ⟨fun j h st => ?_, fun j h h' st k => ⟨st.1, st.2.1.at fun o q => k it (by simp) o q, st.2.2.at fun o q => k a (by simp) o q⟩, fun j s' Q E' lt st _ => absurd st.1 (Nat.ne_of_lt lt), fun s' Q E' st hE => ?_⟩
      · obtain ⟨o, ho, _⟩ := st.2.1
        exact ⟨o, ho⟩
      · exact wpAny_nextOf_tuple_end (inv.ok.hd calm) st.2.1 st.2.2 (by rw [Array.getElem?_eq_none_iff, List.size_toArray]; omega) hE
    exact wpAny_pyNext_enum_endD D en ⟨rfl, ti, tup⟩ fun g ext => ⟨rfl, inv.turned (t' := s.toks) (fun b o nb q => ext b o nb q) f0 f1 f3 f4 f5⟩
  self := by
    rintro A i s Q E ⟨⟨_, en⟩, _⟩ h
    exact wpAny_pyIter_enum en h
def iEnT (K : PySem.W.Frag) (ta : TA) : TI := fun σ H R => ta σ H fun vs H1 => ∃ a xs, vs = [.ref a] ∧ SqT K H1 a xs ∧ R (ItE K a) H1
theorem pi_enT {X : Cx} {e : Expr} {ta : TA} {p pos tpos : Pos} {elts : List Expr} {kk : Nat} (hg : Gl X "enumerate") (hm : X.mg "enumerate" = none) (ha : PA X [e] ta) (fst : starEach [e] X.env = [(false, eval e X.env)]) : PI X (.Tuple elts kk tpos) (.Call (.Name "enumerate" p) [e] [] pos) (iEnT X.K ta) := by
  constructor
  intro pn s σ H R inv h
  refine Call_ (ld_blt inv hg hm boot_enumerate (PyProof.Rows.callWith_type1 (thn (ha.run pos pn s σ H _ inv h) ?_) fst rfl))
  rintro us s1 ⟨_, H1, inv1, vals, a, xs, rfl, sq, go⟩
  obtain rfl := Vals.ref1 vals
  obtain ⟨its, rel, tup, _⟩ := inv1.tuple sq
  have la : a < s1.heap.objs.size := tup.lt
  apply enum_call (begins_tuple a its.toArray) tup
  intro g en ti keep
  have inv2 := inv1.kept (t' := s1.toks) keep
  refine wpAny_pyIter_enum en ⟨s1.heap.objs.size + 1, [s1.heap.objs.size + 1, s1.heap.objs.size], _, _, H1, rfl, inv2, turn_enumT a _ _, ⟨⟨.none, en⟩, ⟨_, ti, rfl, rfl⟩, Nat.succ_ne_self _, Nat.ne_of_lt la, Nat.ne_of_lt (Nat.lt_succ_of_lt la)⟩, fun b hb => ?_, go⟩
  have high : s1.heap.objs.size ≤ b := by
    simp only [List.mem_cons, List.not_mem_nil, or_false] at hb
    rcases hb with rfl | rfl
    · exact Nat.le_succ _
    · exact Nat.le_refl _
  exact inv1.fpOk high (inv1.hok.fresh high)
/-! ### in the layer -/
def enumD : Nat → List D → List D
  | _, [] => []
  | i, d :: ds => .tuple [.int (i : Nat), d] :: enumD (i + 1) ds
def enumF : List D → Option (List D)
  | [.list ds] => some (enumD 0 ds)
  | [.tuple ds] => some (enumD 0 ds)
  | _ => none
def iEnum' (fs : List EF) : IF := fun ρ => (evA fs ρ).items enumF
theorem enumD_length : ∀ (i : Nat) (ds : List D), (enumD i ds).length = ds.length
  | _, [] => rfl
  | i, _ :: ds => congrArg (· + 1) (enumD_length (i + 1) ds)
theorem enumD_get : ∀ (i : Nat) (ds : List D) (j : Nat) (d : D), (enumD i ds)[j]? = some d → ∃ x, ds[j]? = some x ∧ d = .tuple [.int ((i + j : Nat) : Int), x]
  | i, [], j, d, h => by simp [enumD] at h
  | i, x :: ds, 0, d, h => ⟨x, rfl, by simpa [enumD] using h.symm⟩
  | i, x :: ds, j + 1, d, h => by
    obtain ⟨y, h1, h2⟩ := enumD_get (i + 1) ds j d (by simpa [enumD] using h)
    exact ⟨y, by simpa using h1, by rw [h2, show i + 1 + j = i + (j + 1) by omega]⟩
section
variable {K : PySem.W.Frag}
theorem itb_enL {xs : List D} {a : Addr} {S : Hp → Ad → Prop} (h : ItB K xs (Itl K a) S) (g : ∀ H L, S H L → ∃ vs, H a = some (.lst vs) ∧ RpL K H L xs vs) : ItB K (enumD 0 xs) (Ite K a) S where
  go := fun i H L st hi => by
    rw [enumD_length] at hi
    obtain ⟨vs, ha, ra⟩ := g H L st
    have l1 := ra.length
    exact ⟨vs, vs[i]'(by omega), SqL.of ha, by simp⟩
  stop := fun i H L st hi => by
    rw [enumD_length] at hi
    obtain ⟨vs, ha, ra⟩ := g H L st
    exact ⟨vs, SqL.of ha, by rw [← ra.length]; exact hi⟩
  yld := fun i H L x H' st ⟨T, u, ex, hT, eH, hu⟩ => by
    subst ex eH
    refine ⟨same_upd hT, fun d hd => ?_⟩
    obtain ⟨y, q1, rfl⟩ := enumD_get 0 xs i d hd
    obtain ⟨vs, ha, ra⟩ := g H L st
    obtain ⟨w1, z1, r1⟩ := ra.get q1
    rw [hu vs (SqL.of ha)] at z1
    cases z1
    rw [Nat.zero_add]
    exact .tup upd_same (.cons (.int _) (.cons (r1.mono (same_upd hT)) .nil))
  keep := h.keep
theorem itb_enT {xs : List D} {a : Addr} {S : Hp → Ad → Prop} (h : ItB K xs (Itt K a) S) (g : ∀ H L, S H L → ∃ vs, H a = some (.tup vs) ∧ RpL K H L xs vs) : ItB K (enumD 0 xs) (ItE K a) S where
  go := fun i H L st hi => by
    rw [enumD_length] at hi
    obtain ⟨vs, ha, ra⟩ := g H L st
    have l1 := ra.length
    exact ⟨vs, vs[i]'(by omega), SqT.of ha, by simp⟩
  stop := fun i H L st hi => by
    rw [enumD_length] at hi
    obtain ⟨vs, ha, ra⟩ := g H L st
    exact ⟨vs, SqT.of ha, by rw [← ra.length]; exact hi⟩
  yld := fun i H L x H' st ⟨T, u, ex, hT, eH, hu⟩ => by
    subst ex eH
    refine ⟨same_upd hT, fun d hd => ?_⟩
    obtain ⟨y, q1, rfl⟩ := enumD_get 0 xs i d hd
    obtain ⟨vs, ha, ra⟩ := g H L st
    obtain ⟨w1, z1, r1⟩ := ra.get q1
    rw [hu vs (SqT.of ha)] at z1
    cases z1
    rw [Nat.zero_add]
    exact .tup upd_same (.cons (.int _) (.cons (r1.mono (same_upd hT)) .nil))
  keep := h.keep
end
section
variable {X : Cx} {W : WX} {a : Expr} {fs : List EF} {p pos tpos : Pos} {elts : List Expr} {kk : Nat}
theorem RpL.one {K : PySem.W.Frag} {H : Hp} {L : Ad} {d : D} {vs : List V} (h : RpL K H L [d] vs) : ∃ v, vs = [v] ∧ Rp K H L d v := by
  cases h with
  | cons r t =>
    cases t
    exact ⟨_, rfl, r⟩
theorem sis_enum (hm : X.mg "enumerate" = none) (ha : SA X W [a] fs) (hg : Gl X "enumerate" := by rfl) (fst : starEach [a] X.env = [(false, eval a X.env)] := by rfl) : SIS X W (.Tuple elts kk tpos) (.Call (.Name "enumerate" p) [a] [] pos) (iEnum' fs) := ⟨fun pn s σ H R inv ⟨L, ρ, re, q⟩ => by
  unfold iEnum' RL.items at q
  cases hf : evA fs ρ with
  | bad => rw [hf] at q; exact q.elim
  | exc c gs =>
    rw [hf] at q
    refine (pi_enum hg hm ha fst).run pn s σ H R inv ⟨L, ρ, re, ?_⟩
    rw [hf]
    exact q
  | ok ds =>
    rw [hf] at q
    dsimp only at q
    unfold enumF at q
    split at q
    · rename_i out hz
      split at hz
      · cases hz
        refine (pi_enum hg hm ha fst).run pn s σ H R inv ⟨L, ρ, re, ?_⟩
        rw [hf]
        intro H1 vs s1 r
        obtain ⟨v, rfl, rv⟩ := r.one
        obtain ⟨a1, us1, rfl, h1, r1⟩ := rv.rb.lstV
        exact ⟨a1, us1, rfl, SqL.of h1, q _ _ H1 s1 ⟨itb_enL its_lst.toItB rp_lst, fun H L H' L' z ev => ev _ _ z⟩ rv⟩
      · cases hz
        refine (pi_enT hg hm ha fst).run pn s σ H R inv ⟨L, ρ, re, ?_⟩
        rw [hf]
        intro H1 vs s1 r
        obtain ⟨v, rfl, rv⟩ := r.one
        obtain ⟨a1, us1, rfl, h1, r1⟩ := rv.tupV
        exact ⟨a1, us1, rfl, SqT.of h1, q _ _ H1 s1 ⟨itb_enT its_tup.toItB rp_tup, fun H L H' L' z ev => ev _ _ z⟩ rv⟩
      · cases hz
    · exact q.elim⟩
theorem si_enum (hm : X.mg "enumerate" = none) (ha : SBA X W [a] fs) (hg : Gl X "enumerate" := by rfl) (fst : starEach [a] X.env = [(false, eval a X.env)] := by rfl) : SI X W (.Tuple elts kk tpos) (.Call (.Name "enumerate" p) [a] [] pos) (iEnum' fs) := ⟨fun pn s σ H R inv ⟨L, ρ, re, q⟩ => by
  unfold iEnum' RL.items at q
  cases hf : evA fs ρ with
  | bad => rw [hf] at q; exact q.elim
  | exc c gs =>
    rw [hf] at q
    refine (pi_enum hg hm ha fst).run pn s σ H R inv ⟨L, ρ, re, ?_⟩
    rw [hf]
    exact q
  | ok ds =>
    rw [hf] at q
    dsimp only at q
    unfold enumF at q
    split at q
    · rename_i out hz
      split at hz
      · cases hz
        refine (pi_enum hg hm ha fst).run pn s σ H R inv ⟨L, ρ, re, ?_⟩
        rw [hf]
        intro H1 vs s1 r
        obtain ⟨v, rfl, rv⟩ := r.one
        obtain ⟨a1, us1, rfl, h1, r1⟩ := rv.lstV
        exact ⟨a1, us1, rfl, SqL.of h1, q _ _ H1 s1 (itb_enL itb_list fun _ _ z => z) ⟨us1, h1, r1⟩⟩
      · cases hz
        refine (pi_enT hg hm ha fst).run pn s σ H R inv ⟨L, ρ, re, ?_⟩
        rw [hf]
        intro H1 vs s1 r
        obtain ⟨v, rfl, rv⟩ := r.one
        obtain ⟨a1, us1, rfl, h1, r1⟩ := rv.tupV
        exact ⟨a1, us1, rfl, SqT.of h1, q _ _ H1 s1 (itb_enT itb_tup fun _ _ z => z) ⟨us1, h1, r1⟩⟩
      · cases hz
    · exact q.elim⟩
end
end VV

set_option Elab.async false
set_option linter.all false
set_option maxRecDepth 100000
set_option maxHeartbeats 4000000
/-! PLm: loops and comprehensions over typed lists, any target. -/
namespace VVlaw
open PySem PySem.Spec L2 VV
open PyProof.Rows hiding St
/-! comprehensions -/
theorem lcGo_filtT {α : Type} {t : Tg} {c e : EF} {ρ : En} (emb f : α → D) (p : α → Bool) : ∀ (xs : List α), (∀ x ∈ xs, ∃ ρ1, bindT t (emb x) ρ = some ρ1 ∧ c ρ1 = .ok (.bool (p x)) ∧ (p x = true → e ρ1 = .ok (f x))) → lcGo t c e ρ (xs.map emb) = .ok ((xs.filter p).map f)
  | [], _ => rfl
  | x :: xs, h => by
    obtain ⟨ρ1, h1, h2, h3⟩ := h x (by simp)
    have ih := lcGo_filtT (t := t) (c := c) (e := e) emb f p xs fun y hy => h y (by simp [hy])
    cases hp : p x with
    | true =>
      rw [hp] at h2
      simp -implicitDefEqProofs only [List.map_cons, lcGo, lcOne, h1, h2, h3 hp, ih, RL.cons_ok, List.filter_cons, hp, if_true]
    | false =>
      rw [hp] at h2
      simp -implicitDefEqProofs only [List.map_cons, lcGo, lcOne, h1, h2, ih, List.filter_cons, hp]
      rfl
theorem eLc_filtT {α : Type} {vs : List Nat} {fi : IF} {t : Tg} {c e : EF} {ρ : En} (xs : List α) (emb f : α → D) (p : α → Bool) (hi : fi ρ = .ok (xs.map emb)) (hl : xs.length ≤ 16777216) (h : ∀ x ∈ xs, ∃ ρ1, bindT t (emb x) (wipeE ρ vs) = some ρ1 ∧ c ρ1 = .ok (.bool (p x)) ∧ (p x = true → e ρ1 = .ok (f x))) :
    eLc vs fi t c e ρ = .ok (.list ((xs.filter p).map f)) := by
  unfold eLc
  rw [hi, RL.bind_ok, lcGo_filtT emb f p xs h, RL.bind_ok]
  exact lstR_ok _ (by rw [List.length_map]; exact Nat.le_trans (List.length_filter_le _ _) hl)
theorem eLc_mapT {α : Type} {vs : List Nat} {fi : IF} {t : Tg} {c e : EF} {ρ : En} (xs : List α) (emb f : α → D) (hi : fi ρ = .ok (xs.map emb)) (hl : xs.length ≤ 16777216) (h : ∀ x ∈ xs, ∃ ρ1, bindT t (emb x) (wipeE ρ vs) = some ρ1 ∧ c ρ1 = .ok (.bool true) ∧ e ρ1 = .ok (f x)) :
    eLc vs fi t c e ρ = .ok (.list (xs.map f)) := by
  rw [eLc_filtT xs emb f (fun _ => true) hi hl fun x hx => by
    obtain ⟨ρ1, h1, h2, h3⟩ := h x hx
    exact ⟨ρ1, h1, h2, fun _ => h3⟩]
  rw [List.filter_eq_self.mpr fun _ _ => rfl]
/-! for -/
theorem forGo_nxT {t : Tg} {f : SF} {d : D} {ds : List D} {ρ ρ1 ρ2 : En} (hb : bindT t d ρ = some ρ1) (h : f ρ1 = .nx ρ2) : forGo t f (d :: ds) ρ = forGo t f ds ρ2 := by
  simp -implicitDefEqProofs only [forGo, forOne, hb, h]
theorem forGo_rtT {t : Tg} {f : SF} {d e : D} {ds : List D} {ρ ρ1 : En} (hb : bindT t d ρ = some ρ1) (h : f ρ1 = .rt e) : forGo t f (d :: ds) ρ = .rt e := by
  simp -implicitDefEqProofs only [forGo, forOne, hb, h]
/-- a loop as a fold over its typed state -/
theorem forGo_fold {α S : Type} {t : Tg} {f : SF} (emb : α → D) (enc : S → En) (step : S → α → S) (I : S → List α → Prop) (hs : ∀ s x r, I s (x :: r) → ∃ ρ1, bindT t (emb x) (enc s) = some ρ1 ∧ f ρ1 = .nx (enc (step s x)) ∧ I (step s x) r) :
    ∀ (xs : List α) (s : S), I s xs → forGo t f (xs.map emb) (enc s) = .nx (enc (xs.foldl step s)) ∧ I (xs.foldl step s) []
  | [], s, h => ⟨rfl, h⟩
  | x :: xs, s, h => by
    obtain ⟨ρ1, h1, h2, h3⟩ := hs s x xs h
    rw [List.map_cons, forGo_nxT h1 h2]
    exact forGo_fold emb enc step I hs xs (step s x) h3
/-- with a return -/
def runL {α S : Type} (step : S → α → S ⊕ D) : S → List α → S ⊕ D
  | s, [] => .inl s
  | s, x :: xs => match step s x with
    | .inl s' => runL step s' xs
    | .inr d => .inr d
theorem forGo_foldR {α S : Type} {t : Tg} {f : SF} (emb : α → D) (enc : S → En) (step : S → α → S ⊕ D) (I : S → List α → Prop)
    (hs : ∀ s x r, I s (x :: r) → ∃ ρ1, bindT t (emb x) (enc s) = some ρ1 ∧ match step s x with
      | .inl s' => f ρ1 = .nx (enc s') ∧ I s' r
      | .inr d => f ρ1 = .rt d) :
    ∀ (xs : List α) (s : S), I s xs → match runL step s xs with
      | .inl s' => forGo t f (xs.map emb) (enc s) = .nx (enc s') ∧ I s' []
      | .inr d => forGo t f (xs.map emb) (enc s) = .rt d
  | [], s, h => ⟨rfl, h⟩
  | x :: xs, s, h => by
    obtain ⟨ρ1, h1, h2⟩ := hs s x xs h
    unfold runL
    cases hst : step s x with
    | inl s' =>
      rw [hst] at h2
      dsimp only at h2 ⊢
      rw [List.map_cons, forGo_nxT h1 h2.1]
      exact forGo_foldR emb enc step I hs xs s' h2.2
    | inr d =>
      rw [hst] at h2
      dsimp only at h2 ⊢
      rw [List.map_cons, forGo_rtT h1 h2]
theorem ap_iZip (fs : List EF) (ρ : En) : iZip fs ρ = (evA fs ρ).items zip2F := rfl
theorem ap_iEnum (fs : List EF) (ρ : En) : iEnum' fs ρ = (evA fs ρ).items enumF := rfl
theorem items_zipL (xs ys : List D) : (RL.ok [.list xs, .list ys]).items zip2F = .ok (zipD xs ys) := rfl
theorem items_zipT (xs ys : List D) : (RL.ok [.tuple xs, .tuple ys]).items zip2F = .ok (zipD xs ys) := rfl
theorem items_enL (xs : List D) : (RL.ok [.list xs]).items enumF = .ok (enumD 0 xs) := rfl
theorem items_enT (xs : List D) : (RL.ok [.tuple xs]).items enumF = .ok (enumD 0 xs) := rfl
theorem zipD_map {α : Type} (f g : α → D) (xs : List α) : zipD (xs.map f) (xs.map g) = xs.map fun x => .tuple [f x, g x] := by
  unfold zipD
  induction xs with
  | nil => rfl
  | cons x xs ih => simpa [VV.pairD] using ih
theorem zipD_maps {α β : Type} (f : α → D) (g : β → D) : ∀ (xs : List α) (ys : List β), zipD (xs.map f) (ys.map g) = (xs.zip ys).map fun p => .tuple [f p.1, g p.2]
  | [], ys => by simp [zipD]
  | x :: xs, [] => by simp [zipD]
  | x :: xs, y :: ys => by
    have ih := zipD_maps f g xs ys
    unfold zipD at *
    simpa [VV.pairD] using ih
theorem enumD_map {α : Type} (f : α → D) : ∀ (xs : List α) (i : Nat), enumD i (xs.map f) = (xs.zipIdx i).map fun p => .tuple [.int (p.2 : Nat), f p.1]
  | [], _ => rfl
  | x :: xs, i => by
    rw [List.map_cons, enumD, List.zipIdx_cons, List.map_cons, enumD_map f xs (i + 1)]
/-! slices -/
theorem sl_t {α : Type} (f : α → D) (xs : List α) (a b : Int) (h0 : 0 ≤ a) (h1 : a ≤ b) (h2 : b ≤ xs.length) : slF (.tuple (xs.map f)) (some a) (some b) = some (.tuple (((xs.drop a.toNat).take (b - a).toNat).map f)) := by
  show some (PyData.tuple (cutL (xs.map f) (some a) (some b))) = _
  rw [cutL_eq _ _ _ h0 h1 (by rw [List.length_map]; omega), List.map_take, List.map_drop]
theorem sl_l {α : Type} (f : α → D) (xs : List α) (a b : Int) (h0 : 0 ≤ a) (h1 : a ≤ b) (h2 : b ≤ xs.length) : slF (.list (xs.map f)) (some a) (some b) = some (.list (((xs.drop a.toNat).take (b - a).toNat).map f)) := by
  show some (PyData.list (cutL (xs.map f) (some a) (some b))) = _
  rw [cutL_eq _ _ _ h0 h1 (by rw [List.length_map]; omega), List.map_take, List.map_drop]
theorem ix_map_l {α : Type} (f : α → D) (xs : List α) (i : Int) (h0 : 0 ≤ i) (h : i.toNat < xs.length) : ixF (.list (xs.map f)) (.int i) = some (f xs[i.toNat]) := by
  rw [f_ix_l _ i h0 (by simpa using h)]
  simp
theorem ix_map_t {α : Type} (f : α → D) (xs : List α) (i : Int) (h0 : 0 ≤ i) (h : i.toNat < xs.length) : ixF (.tuple (xs.map f)) (.int i) = some (f xs[i.toNat]) := by
  rw [f_ix_t _ i h0 (by simpa using h)]
  simp
end VVlaw

set_option Elab.async false
set_option linter.all false
set_option maxRecDepth 100000
set_option maxHeartbeats 4000000
/-! VVw: grids: a list of lists that the frame alone holds; made by a comprehension, read by len, written cell by cell, then a value. -/
namespace VV
open PySem PySem.Spec L2
open PyProof.Rows hiding St
section
variable {K : PySem.W.Frag} {H0 H : Hp} {Lo : Ad} {ρ : En} {α : Nat → Option Addr} {σ : St}
theorem slot_lt {i : Nat} {x : Sl} (h : RSt K H0 Lo ρ α σ H) (e : ρ[i]? = some (some x)) : i < ρ.length ∧ i < 1000 := by
  have := h.sm
  have := (List.getElem?_eq_some_iff.mp e).1
  omega
/-- a row of a grid is changed -/
theorem RSt.writeG {i n : Nat} {rows : List (List D)} {a b : Addr} {bs : List Addr} {r' : List D} {us us' : List V} (h : RSt K H0 Lo ρ α σ H) (hi : ρ[i]? = some (some (.grid rows))) (e1 : α i = some a) (e2 : σ[i]? = some (some (.ref a)))
    (e3 : ∀ k b, bs[k]? = some b → α (vix i k) = some b) (og : Og K H (Lv Lo α) rows a bs) (hb : bs[n]? = some b) (hus : H b = some (.lst us)) (rl : RpL K H (Lv Lo α) r' us') :
    RSt K H0 Lo (ρ.set i (some (.grid (rows.set n r')))) α σ (upd H b (.lst us')) ∧ Evo K Lo H α (upd H b (.lst us')) α := by
  have hL : Lv Lo α b := .inr ⟨_, e3 n b hb⟩
  obtain ⟨hlt, h1000⟩ := slot_lt h hi
  have far : ∀ {j : Nat} {x : Sl} {c : Addr}, ρ[j]? = some (some x) → α j = some c → c ≠ b := fun {j x c} ej ec z => by
    subst z
    have q := h.inj _ _ _ ec (e3 n c hb)
    have := (slot_lt h ej).2
    have := vix_ge i n
    omega
  have farG : ∀ {j : Nat} {x : Sl} {cs : List Addr}, ρ[j]? = some (some x) → (∀ k c, cs[k]? = some c → α (vix j k) = some c) → ∀ k c, cs[k]? = some c → ¬ (j = i ∧ k = n) → c ≠ b := fun {j x cs} ej ec k c hk hne z => by
    subst z
    have q := vix_inj (slot_lt h ej).2 h1000 (h.inj _ _ _ (ec k c hk) (e3 n c hb))
    exact hne q
  have new : Og K (upd H b (.lst us')) (Lv Lo α) (rows.set n r') a bs := by
    refine ⟨(upd_ne (far hi e1)).trans og.top, by rw [List.length_set]; exact og.len, fun k r c hr hc => ?_⟩
    by_cases hk : k = n
    · subst hk
      have ec : c = b := Option.some.inj (hc.symm.trans hb)
      subst ec
      have lt : k < rows.length := by rw [og.len]; exact (List.getElem?_eq_some_iff.mp hc).1
      rw [List.getElem?_set_self lt] at hr
      cases hr
      exact ⟨us', upd_same, RpL.upd hus trivial hL rl⟩
    · rw [List.getElem?_set_ne (Ne.symm hk)] at hr
      obtain ⟨ws, q1, q2⟩ := og.row k r c hr hc
      exact ⟨ws, (upd_ne (farG hi e3 k c hc fun z => hk z.2)).trans q1, q2.upd hus trivial hL⟩
  refine ⟨⟨⟨fun z q => ?_, by simp [h.re.len], fun j x e => ?_⟩, fun c u q => ?_, h.lo, h.new, h.inj, fun j d e => ?_, by simpa using h.sm, fun j rs e => ?_⟩, fun d v r => r.upd hus trivial hL⟩
  · by_cases hz : z = b
    · subst hz; rw [upd_same]; simp
    · rw [upd_ne hz]; exact h.re.lv z q
  · by_cases hj : i = j
    · subst hj
      rw [List.getElem?_set_self hlt] at e
      cases e
      exact ⟨_, e2, a, bs, rfl, new⟩
    · rw [List.getElem?_set_ne hj] at e
      obtain ⟨w, f1, r⟩ := h.re.sl j x e
      refine ⟨w, f1, ?_⟩
      cases x with
      | val d => obtain ⟨v, g1, g2⟩ := r; exact ⟨v, g1, g2.upd hus trivial hL⟩
      | own d =>
        obtain ⟨c, g1, g2, g3⟩ := h.own j d e
        rw [f1] at g2
        cases g2
        exact ⟨c, rfl, g3.upd hus trivial hL (far e g1)⟩
      | grid rs =>
        obtain ⟨c, cs, g1, g2, g3, g4⟩ := h.grd j rs e
        rw [f1] at g2
        cases g2
        refine ⟨c, cs, rfl, g4.upd hus trivial hL (far e g1) fun z hz => ?_⟩
        obtain ⟨k, hk⟩ := List.mem_iff_getElem?.mp hz
        exact farG e g3 k z hk fun q => hj q.1.symm
  · have nb : c ≠ b := fun z => by subst z; rw [h.new _ c (e3 n c hb)] at q; cases q
    rw [upd_ne nb]
    exact h.same c u q
  · by_cases hj : i = j
    · subst hj
      rw [List.getElem?_set_self hlt] at e
      cases e
    · rw [List.getElem?_set_ne hj] at e
      obtain ⟨c, g1, g2, g3⟩ := h.own j d e
      exact ⟨c, g1, g2, g3.upd hus trivial hL (far e g1)⟩
  · by_cases hj : i = j
    · subst hj
      rw [List.getElem?_set_self hlt] at e
      cases e
      exact ⟨a, bs, e1, e2, e3, new⟩
    · rw [List.getElem?_set_ne hj] at e
      obtain ⟨c, cs, g1, g2, g3, g4⟩ := h.grd j rs e
      refine ⟨c, cs, g1, g2, g3, g4.upd hus trivial hL (far e g1) fun z hz => ?_⟩
      obtain ⟨k, hk⟩ := List.mem_iff_getElem?.mp hz
      exact farG e g3 k z hk fun q => hj q.1.symm
/-- α without a slot's grid -/
def offG (α : Nat → Option Addr) (i : Nat) : Nat → Option Addr := fun j => if j = i ∨ (1000 ≤ j ∧ j % 1000 = i) then none else α j
theorem offG_some {i j : Nat} {a : Addr} (h : offG α i j = some a) : α j = some a ∧ ¬ (j = i ∨ (1000 ≤ j ∧ j % 1000 = i)) := by
  unfold offG at h
  split at h
  · cases h
  · exact ⟨h, by assumption⟩
theorem vix_mod {i k : Nat} (h : i < 1000) : vix i k % 1000 = i := by
  unfold vix
  omega
theorem vix_div {i k : Nat} (h : i < 1000) : vix i k / 1000 - 1 = k := by
  unfold vix
  omega
def rowsD (rows : List (List D)) : D := .list (rows.map PyData.list)
theorem rows_rp {L : Ad} {a : Addr} {bs : List Addr} {rows : List (List D)} (og : Og K H L rows a bs) (na : ¬ L a) (nb : ∀ b ∈ bs, ¬ L b) : Rp K H L (rowsD rows) (.ref a) := by
  refine .lst og.top na ?_
  have aux : ∀ (rs : List (List D)) (cs : List Addr), rs.length = cs.length → (∀ (k : Nat) (r : List D) (c : Addr), rs[k]? = some r → cs[k]? = some c → ¬ L c ∧ ∃ us, H c = some (.lst us) ∧ RpL K H L r us) → RpL K H L (rs.map PyData.list) (cs.map V.ref) := by
    intro rs
    induction rs with
    | nil =>
      intro cs hl _
      cases cs with
      | nil => exact .nil
      | cons _ _ => cases hl
    | cons r rs ih =>
      intro cs hl h
      cases cs with
      | nil => cases hl
      | cons c cs =>
        obtain ⟨nc, us, q1, q2⟩ := h 0 r c rfl rfl
        exact .cons (.lst q1 nc q2) (ih cs (Nat.succ.inj hl) fun k r' c' h1 h2 => h (k + 1) r' c' h1 h2)
  exact aux rows bs og.len fun k r c h1 h2 => ⟨nb c (List.mem_of_getElem? h2), og.row k r c h1 h2⟩
/-- a grid is a value from now on -/
theorem RSt.frzG {i : Nat} {rows : List (List D)} (h : RSt K H0 Lo ρ α σ H) (hi : ρ[i]? = some (some (.grid rows))) : RSt K H0 Lo (ρ.set i (some (.val (rowsD rows)))) (offG α i) σ H ∧ Evo K Lo H α H (offG α i) := by
  obtain ⟨a, bs, e1, e2, e3, og⟩ := h.grd i rows hi
  obtain ⟨hlt, h1000⟩ := slot_lt h hi
  have less : ∀ z, Lv Lo (offG α i) z → Lv Lo α z := fun z q => q.elim .inl fun ⟨j, e⟩ => .inr ⟨j, (offG_some e).1⟩
  have hL : ∀ z, Lv Lo (offG α i) z → Lv Lo α z ∨ H z = none := fun z q => .inl (less z q)
  have na : ¬ Lv Lo (offG α i) a := fun z => by
    rcases z with z | ⟨j, z⟩
    · exact h.lo a z (h.new i a e1)
    · obtain ⟨z1, z2⟩ := offG_some z
      exact z2 (.inl (h.inj j i a z1 e1))
  have nb : ∀ b ∈ bs, ¬ Lv Lo (offG α i) b := fun b hb z => by
    obtain ⟨k, hk⟩ := List.mem_iff_getElem?.mp hb
    rcases z with z | ⟨j, z⟩
    · exact h.lo b z (h.new _ b (e3 k b hk))
    · obtain ⟨z1, z2⟩ := offG_some z
      have ej := h.inj j _ b z1 (e3 k b hk)
      exact z2 (.inr ⟨by rw [ej]; exact vix_ge i k, by rw [ej]; exact vix_mod h1000⟩)
  have stay : ∀ {j : Nat} {x : Sl}, ρ[j]? = some (some x) → i ≠ j → offG α i j = α j := fun {j x} ej hj => by
    have := (slot_lt h ej).2
    unfold offG
    rw [if_neg (by omega)]
  have stayG : ∀ {j k : Nat} {x : Sl}, ρ[j]? = some (some x) → i ≠ j → offG α i (vix j k) = α (vix j k) := fun {j k x} ej hj => by
    have q := (slot_lt h ej).2
    have q2 := vix_ge j k
    have q3 := vix_mod (k := k) q
    unfold offG
    rw [if_neg (by omega)]
  refine ⟨⟨⟨fun z q => h.re.lv z (less z q), by simp [h.re.len], fun j x e => ?_⟩, h.same, h.lo, fun j z e => h.new j z (offG_some e).1, fun j l z f1 f2 => h.inj j l z (offG_some f1).1 (offG_some f2).1, fun j d e => ?_, by simpa using h.sm, fun j rs e => ?_⟩, fun d v r => r.lives hL⟩
  · by_cases hj : i = j
    · subst hj
      rw [List.getElem?_set_self hlt] at e
      cases e
      exact ⟨_, e2, _, rfl, rows_rp (og.lives hL) na nb⟩
    · rw [List.getElem?_set_ne hj] at e
      obtain ⟨w, f1, r⟩ := h.re.sl j x e
      exact ⟨w, f1, r.lives hL⟩
  · by_cases hj : i = j
    · subst hj
      rw [List.getElem?_set_self hlt] at e
      cases e
    · rw [List.getElem?_set_ne hj] at e
      obtain ⟨c, g1, g2, g3⟩ := h.own j d e
      exact ⟨c, (stay e hj).trans g1, g2, g3.lives hL⟩
  · by_cases hj : i = j
    · subst hj
      rw [List.getElem?_set_self hlt] at e
      cases e
    · rw [List.getElem?_set_ne hj] at e
      obtain ⟨c, cs, g1, g2, g3, g4⟩ := h.grd j rs e
      exact ⟨c, cs, (stay e hj).trans g1, g2, fun k b q => (stayG e hj).trans (g3 k b q), g4.lives hL⟩
/-- α with a grid in a slot -/
def onG (α : Nat → Option Addr) (i : Nat) (a : Addr) (bs : List Addr) : Nat → Option Addr := fun j => if j = i then some a else if 1000 ≤ j ∧ j % 1000 = i then bs[j / 1000 - 1]? else α j
/-- L and some more -/
def Lps (L : Ad) (xs : List Addr) : Ad := fun z => L z ∨ z ∈ xs
theorem onG_some {i j : Nat} {a z : Addr} {bs : List Addr} (h : onG α i a bs j = some z) : (j = i ∧ z = a) ∨ (1000 ≤ j ∧ j % 1000 = i ∧ bs[j / 1000 - 1]? = some z) ∨ α j = some z := by
  unfold onG at h
  split at h
  · cases h; exact .inl ⟨by assumption, rfl⟩
  · split at h
    · rename_i q
      exact .inr (.inl ⟨q.1, q.2, h⟩)
    · exact .inr (.inr h)
/-- a slot takes a new grid -/
theorem RSt.setGrid {i : Nat} {rows : List (List D)} {a : Addr} {bs : List Addr} {H1 : Hp} (i1 : i < 1000) (h : RSt K H0 Lo ρ α σ H) (s : Same H H1) (nd : (a :: bs).Nodup) (n : ∀ z ∈ a :: bs, H z = none) (og : Og K H1 (Lps (Lv Lo α) (a :: bs)) rows a bs) :
    RSt K H0 Lo (ρ.set i (some (.grid rows))) (onG α i a bs) (σ.set i (some (.ref a))) H1 ∧ Evo K Lo H α H1 (onG α i a bs) := by
  have out : ∀ z ∈ a :: bs, ¬ Lv Lo α z := fun z m q => h.re.lv z q (n z m)
  have hL : ∀ z, Lv Lo (onG α i a bs) z → Lps (Lv Lo α) (a :: bs) z := fun z q => by
    rcases q with q | ⟨j, q⟩
    · exact .inl (.inl q)
    · rcases onG_some q with ⟨_, rfl⟩ | ⟨_, _, q⟩ | q
      · exact .inr List.mem_cons_self
      · exact .inr (List.mem_cons_of_mem _ (List.mem_of_getElem? q))
      · exact .inl (.inr ⟨j, q⟩)
  have hL2 : ∀ z, Lv Lo (onG α i a bs) z → Lv Lo α z ∨ H z = none := fun z q => (hL z q).elim .inl fun e => .inr (n z e)
  have og' : Og K H1 (Lv Lo (onG α i a bs)) rows a bs := og.lives fun z q => .inl (hL z q)
  have at_ : onG α i a bs i = some a := by unfold onG; rw [if_pos rfl]
  have atv : ∀ k b, bs[k]? = some b → onG α i a bs (vix i k) = some b := fun k b q => by
    unfold onG
    rw [if_neg (by have := vix_ge i k; omega), if_pos ⟨vix_ge i k, vix_mod i1⟩, vix_div i1]
    exact q
  have stay : ∀ {j : Nat} {x : Sl}, ρ[j]? = some (some x) → i ≠ j → onG α i a bs j = α j := fun {j x} ej hj => by
    have := (slot_lt h ej).2
    unfold onG
    rw [if_neg (Ne.symm hj), if_neg (by omega)]
  have stayG : ∀ {j k : Nat} {x : Sl}, ρ[j]? = some (some x) → i ≠ j → onG α i a bs (vix j k) = α (vix j k) := fun {j k x} ej hj => by
    have q := (slot_lt h ej).2
    have q2 := vix_ge j k
    have q3 := vix_mod (k := k) q
    unfold onG
    rw [if_neg (by omega), if_neg (by omega)]
  have slot : ∀ {j : Nat} {x : Sl}, (ρ.set i (some (.grid rows)))[j]? = some (some x) → (i = j ∧ x = .grid rows ∧ i < ρ.length) ∨ (i ≠ j ∧ ρ[j]? = some (some x)) := fun {j x} e => by
    by_cases hj : i = j
    · subst hj
      by_cases hi : i < ρ.length
      · rw [List.getElem?_set_self hi] at e
        cases e
        exact .inl ⟨rfl, rfl, hi⟩
      · rw [List.getElem?_eq_none (by simpa using hi)] at e
        cases e
    · rw [List.getElem?_set_ne hj] at e
      exact .inr ⟨hj, e⟩
  refine ⟨⟨⟨fun z q => ?_, by simp [h.re.len], fun j x e => ?_⟩, h.same.trans s, h.lo, fun j z e => ?_, fun j l z f1 f2 => ?_, fun j d e => ?_, by simpa using h.sm, fun j rs e => ?_⟩, fun d v r => (r.lives hL2).mono s⟩
  · rcases hL z q with q | q
    · exact h.re.lv.mono s z q
    · rcases List.mem_cons.mp q with rfl | q
      · exact og.there.1
      · exact og.there.2 z q
  · rcases slot e with ⟨rfl, rfl, hi⟩ | ⟨hj, e⟩
    · exact ⟨_, List.getElem?_set_self (by rw [← h.re.len]; exact hi), a, bs, rfl, og'⟩
    · obtain ⟨w, f1, r⟩ := h.re.sl j x e
      exact ⟨w, by rw [List.getElem?_set_ne hj]; exact f1, (r.lives hL2).mono s⟩
  · rcases onG_some e with ⟨_, rfl⟩ | ⟨_, _, q⟩ | q
    · exact h.same.free (n z List.mem_cons_self)
    · exact h.same.free (n z (List.mem_cons_of_mem _ (List.mem_of_getElem? q)))
    · exact h.new j z q
  · rw [List.nodup_cons] at nd
    rcases onG_some f1 with ⟨e1, e2⟩ | ⟨a1, a2, a3⟩ | a1 <;> rcases onG_some f2 with ⟨e3, e4⟩ | ⟨b1, b2, b3⟩ | b1
    · omega
    · exact absurd (e2 ▸ List.mem_of_getElem? b3) nd.1
    · exact (out z (by rw [e2]; exact List.mem_cons_self) (.inr ⟨l, b1⟩)).elim
    · exact absurd (e4 ▸ List.mem_of_getElem? a3) nd.1
    · have q := (List.getElem?_inj (List.getElem?_eq_some_iff.mp a3).1 nd.2).mp (a3.trans b3.symm)
      omega
    · exact (out z (List.mem_cons_of_mem _ (List.mem_of_getElem? a3)) (.inr ⟨l, b1⟩)).elim
    · exact (out z (by rw [e4]; exact List.mem_cons_self) (.inr ⟨j, a1⟩)).elim
    · exact (out z (List.mem_cons_of_mem _ (List.mem_of_getElem? b3)) (.inr ⟨j, a1⟩)).elim
    · exact h.inj j l z a1 b1
  · rcases slot e with ⟨_, z, _⟩ | ⟨hj, e⟩
    · cases z
    · obtain ⟨c, g1, g2, g3⟩ := h.own j d e
      exact ⟨c, (stay e hj).trans g1, by rw [List.getElem?_set_ne hj]; exact g2, (g3.lives hL2).mono s⟩
  · rcases slot e with ⟨rfl, z, hi⟩ | ⟨hj, e⟩
    · cases z
      exact ⟨a, bs, at_, List.getElem?_set_self (by rw [← h.re.len]; exact hi), atv, og'⟩
    · obtain ⟨c, cs, g1, g2, g3, g4⟩ := h.grd j rs e
      exact ⟨c, cs, (stay e hj).trans g1, by rw [List.getElem?_set_ne hj]; exact g2, fun k b q => (stayG e hj).trans (g3 k b q), (g4.lives hL2).mono s⟩
end
end VV

set_option Elab.async false
set_option linter.all false
set_option maxRecDepth 100000
set_option maxHeartbeats 4000000
/-! VVx: statements over grids. -/
namespace VV
open PySem PySem.Spec L2
open PyProof.Rows hiding St
/-- the rows of a list of lists -/
def asRows : List D → Option (List (List D))
  | [] => some []
  | .list r :: ds => (asRows ds).map fun q => r :: q
  | _ => none
theorem asRows_eq : ∀ {ds : List D} {rows : List (List D)}, asRows ds = some rows → ds = rows.map PyData.list
  | [], rows, h => by cases h; rfl
  | d :: ds, rows, h => by
    unfold asRows at h
    split at h
    · rename_i e; cases e
    · rename_i e
      obtain ⟨q, hq, rfl⟩ := Option.map_eq_some_iff.mp h
      cases e
      rw [asRows_eq hq]
      rfl
    · cases h
/-! ### [a] * n as a new list -/
def repF : D → D → Option D
  | .list xs, .int k => if (decide (-(2 ^ 63) ≤ k) && decide (k < 2 ^ 63) && decide (xs.length * k.toNat ≤ sizeLine)) = true then some (.list (List.replicate k.toNat xs).flatten) else none
  | _, _ => none
def rDN2 (K : PySem.W.Frag) (fn : D → D → Option D) : R2 := fun x y H Q => ∃ L dx dy d, LvOk H L ∧ Rb K H L dx x ∧ Rb K H L dy y ∧ fn dx dy = some d ∧ ∀ H' a, Same H H' → H a = none → Ow K H' (Lp L a) d a → Q (.ref a) H'
section
variable {X : Cx} {W : WX} {a b : Expr} {f g : EF} {pos : Pos}
theorem op_repN : OpR X (binaryOp .Mult) (rDN2 X.K repF) := by
  rintro pn s σ H x y v u Q I rx ry ⟨L, dx, dy, d, lv, bx, by', hf, k⟩
  unfold repF at hf
  split at hf
  · obtain ⟨p, vs, rfl, hp, rl⟩ := bx.lstV
    obtain rfl := by'.intV
    split at hf
    · cases hf
      rename_i hz
      simp only [Bool.and_eq_true, decide_eq_true_eq] at hz
      obtain ⟨⟨h1, h2⟩, h3⟩ := hz
      rw [rl.length] at h3
      exact op_rep pn s σ H _ _ v u Q I rx ry ⟨p, _, vs, rfl, rfl, hp, h1, h2, h3, fun q hq => k _ _ (same_upd hq) hq (.lst upd_same (((rl.rep _).lives (Lp_new hq)).mono (same_upd hq)))⟩
    · cases hf
  · cases hf
theorem sn_rep (ha : SB X W a f) (hb : SB X W b g) : SN X W (.BinOp a .Mult b pos) (eOp repF f g) := (pe_op op_repN ha hb).weak fun σ H Q ⟨L, ρ, re, p⟩ =>
  ⟨L, ρ, re, p.stepB fun dx H1 x s1 rx p1 => ⟨L, ρ, re.mono s1, p1.stepB fun dy H2 y s2 ry p2 => by
    cases hd : repF dx dy with
    | none => rw [hd] at p2; exact p2.elim
    | some d => rw [hd] at p2; exact ⟨L, dx, dy, d, re.lv.mono (s1.trans s2), rx.mono s2, ry, hd, p2⟩⟩⟩
end
/-! ### name = [new list for ..] -/
section
variable {X : Cx} {W : WX}
theorem lc_loopG {K : PySem.W.Frag} {L : Ad} {σ : St} {ρ : En} {H1 : Hp} {J : It} {S : Hp → Ad → Prop} {ds : List VV.D} {rows : List (List VV.D)} {t : Tg} {c e : EF} {vs : List Nat} {Q : VK} (re : RE K H1 L ρ σ) (it : ItB K ds J S) (hS : S H1 L)
    (hsl : ∀ i ∈ slotsT t, i ∈ vs) (hgo : lcGo t c e (wipeE ρ vs) ds = .ok (rows.map PyData.list)) (hz : rows.length ≤ sizeLine)
    (hQ : ∀ D bs H, (D :: bs).Nodup → (∀ z ∈ D :: bs, H1 z = none) → Same H1 H → Og K H (Lps L (D :: bs)) rows D bs → Q (.ref D) H) :
    tLc (fun _ _ R => R J H1) (gT K t) (tT K WF c) (tN K WF e) vs σ H1 Q := by
  intro D hD
  have sD : ∀ {H : Hp} {o : HO}, Same H1 H → Same H1 (upd H D o) := fun {H o} s b u q => by
    rw [upd_ne (ne_of_none q hD)]
    exact s b u q
  let Iv : Nat → Hp → Prop := fun i H => i ≤ ds.length ∧ Same H1 H ∧ ∃ (bs : List Addr) (got : List (List VV.D)) (rest : List VV.D), (D :: bs).Nodup ∧ (∀ z ∈ bs, H1 z = none) ∧ Og K H (Lps L (D :: bs)) got D bs ∧ lcGo t c e (wipeE ρ vs) (ds.drop i) = .ok rest ∧ got.map PyData.list ++ rest = rows.map PyData.list
  have og0 : Og K (upd H1 D (.lst [])) (Lps L [D]) [] D [] := ⟨upd_same, rfl, fun k r b h => by simp at h⟩
  refine ⟨fun i m H => m = ds.length - i ∧ Iv i H, ⟨ds.length, by simp, Nat.zero_le _, sD (Same.refl H1), [], [], _, by simp, by simp, og0, hgo, rfl⟩, ?_⟩
  rintro i m H ⟨rfl, hi, s1, bs, got, rest, nd, fresh, og, hrest, htot⟩
  have allnew : ∀ z ∈ D :: bs, H1 z = none := fun z hz => by
    cases hz with
    | head => exact hD
    | tail _ hz => exact fresh z hz
  have hL' : ∀ z, Lps L (D :: bs) z → L z ∨ H1 z = none := fun z q => q.elim .inl fun q => .inr (allnew z q)
  have hSn : S H (Lps L (D :: bs)) := it.keep H1 L H _ hS s1 hL'
  have lv' : LvOk H (Lps L (D :: bs)) := fun z q => q.elim (fun q => re.lv.mono s1 z q) fun q => by
    cases q with
    | head => exact og.there.1
    | tail _ q => exact og.there.2 z q
  have reH : RE K H (Lps L (D :: bs)) ρ σ := ⟨lv', re.len, fun j x q => by
    obtain ⟨o, e1, r⟩ := re.sl j x q
    exact ⟨o, e1, (r.lives hL').mono s1⟩⟩
  by_cases hlt : i < ds.length
  · refine .inr ⟨it.go i H _ hSn hlt, Iv (i + 1), fun H' p' => ⟨ds.length - (i + 1), by omega, rfl, p'⟩, fun x H' y => ?_⟩
    obtain ⟨s2, hx⟩ := it.yld i H _ x H' hSn y
    have hdrop : ds.drop i = ds[i] :: ds.drop (i + 1) := List.drop_eq_getElem_cons hlt
    have rx := hx ds[i] (by simp [hlt])
    rw [hdrop] at hrest
    obtain ⟨ρ1, hb, hcase⟩ := lcOne_ok hrest
    refine gT_of ((reH.mono s2).wipe vs) rx hb fun σ1 re1 ch => ?_
    refine ⟨?_, _, ρ1, re1, ?_⟩
    · rw [← wipe_twice (σ := σ)]
      exact wipe_eq ch.ls fun j hj => ch.s j fun q => hj (hsl j q)
    · rcases hcase with ⟨hc, y, r, he, hk, hr⟩ | ⟨hc, hk⟩
      · rw [hc]
        intro H3 s3
        rw [if_pos rfl]
        refine ⟨_, ρ1, re1.mono s3, ?_⟩
        rw [he]
        intro H4 b s4 hb3 ow
        subst hr
        -- the element is a list
        have hy : ∃ row, y = .list row := by
          have e1 : (got.map PyData.list ++ y :: r)[got.length]? = some y := by
            rw [List.getElem?_append_right (by simp)]
            simp
          rw [htot, List.getElem?_map] at e1
          obtain ⟨row, _, e2⟩ := Option.map_eq_some_iff.mp e1
          exact ⟨row, e2.symm⟩
        obtain ⟨row, rfl⟩ := hy
        have s24 : Same H H4 := s2.trans (s3.trans s4)
        have hbH : H b = none := (s2.trans s3).free hb3
        have hb1 : H1 b = none := s1.free hbH
        have og4 := og.mono s24
        have nD : b ≠ D := fun z => og.there.1 (z ▸ hbH)
        have nb : b ∉ bs := fun z => og.there.2 b z hbH
        cases ow with
        | lst hus rl =>
          rename_i us
          have hD4 : H4 D = some (.lst (bs.map V.ref)) := og4.top
          have e5 : ∀ z, Lps L (D :: (bs ++ [b])) z → Lp (Lps L (D :: bs)) b z := fun z q => by
            rcases q with q | q
            · exact .inl (.inl q)
            · rcases List.mem_cons.mp q with rfl | q
              · exact .inl (.inr List.mem_cons_self)
              · rcases List.mem_append.mp q with q | q
                · exact .inl (.inr (List.mem_cons_of_mem _ q))
                · exact .inr (by simpa using q)
          have e6 : ∀ z, Lps L (D :: (bs ++ [b])) z → Lps L (D :: bs) z ∨ H4 z = none ∨ z = b := fun z q => (e5 z q).elim .inl fun q => .inr (.inr q)
          have hL5 : Lps L (D :: (bs ++ [b])) D := .inr List.mem_cons_self
          have og5 : Og K H (Lps L (D :: (bs ++ [b]))) got D bs := og.lives fun z q => (e5 z q).imp id fun q => by rw [q]; exact hbH
          have og6 := og5.mono s24
          have lb : bs.length = got.length := og.len.symm
          refine ⟨bs.map V.ref, hD4, ?_, hlt, sD (s1.trans s24), bs ++ [b], got ++ [row], r, ?_, ?_, ?_, hk, by rw [← htot]; simp⟩
          · have := congrArg List.length htot
            simp only [List.length_append, List.length_map, List.length_cons] at this
            rw [List.length_map]
            omega
          · rw [List.nodup_cons] at nd ⊢
            refine ⟨fun z => ?_, List.nodup_append.mpr ⟨nd.2, by simp, fun u hu v hv z => ?_⟩⟩
            · rcases List.mem_append.mp z with z | z
              · exact nd.1 z
              · exact nD (List.mem_singleton.mp z).symm
            · simp only [List.mem_singleton] at hv
              exact nb (by rw [← hv, ← z]; exact hu)
          · intro z hz'
            rcases List.mem_append.mp hz' with hz' | hz'
            · exact fresh z hz'
            · simp only [List.mem_singleton] at hz'
              rw [hz']
              exact hb1
          · refine ⟨by rw [upd_same, List.map_append]; rfl, by simp [lb], fun k q w hq hw => ?_⟩
            by_cases hkl : k < bs.length
            · rw [List.getElem?_append_left hkl] at hw
              rw [List.getElem?_append_left (by omega)] at hq
              obtain ⟨ws, z1, z2⟩ := og6.row k q w hq hw
              have nw : w ≠ D := fun z => by
                rw [List.nodup_cons] at nd
                exact nd.1 (z ▸ List.mem_of_getElem? hw)
              exact ⟨ws, (upd_ne nw).trans z1, z2.upd hD4 trivial hL5⟩
            · rw [List.getElem?_append_right (by omega)] at hw hq
              have k0 : k - bs.length = 0 := by
                have := (List.getElem?_eq_some_iff.mp hw).1
                simp at this
                omega
              rw [← lb, k0] at hq
              rw [k0] at hw
              cases hw
              cases hq
              exact ⟨us, (upd_ne nD).trans hus, (rl.lives fun z q => .inl (e5 z q)).upd hD4 trivial hL5⟩
      · rw [hc]
        intro H3 s3
        rw [if_neg (by decide)]
        have s23 : Same H H3 := s2.trans s3
        exact ⟨hlt, s1.trans s23, bs, got, rest, nd, fresh, og.mono s23, hk, htot⟩
  · have e : i = ds.length := by omega
    subst e
    rw [List.drop_length] at hrest
    cases hrest
    rw [List.append_nil] at htot
    have eg : got = rows := by
      have inj : ∀ (xs ys : List (List VV.D)), xs.map PyData.list = ys.map PyData.list → xs = ys := by
        intro xs
        induction xs with
        | nil => intro ys h; cases ys with
          | nil => rfl
          | cons _ _ => cases h
        | cons x xs ih => intro ys h; cases ys with
          | nil => cases h
          | cons y ys =>
            have q : PyData.list x = PyData.list y ∧ xs.map PyData.list = ys.map PyData.list := by simpa using h
            rw [ih ys q.2]
            injection q.1 with q1
            rw [q1]
      exact inj _ _ htot
    subst eg
    exact .inl ⟨it.stop _ H _ hSn (Nat.le_refl _), hQ D bs H nd allnew s1 og⟩
def sGrid (i : Nat) (f : EF) : SF := fun ρ => (f ρ).out ρ fun d => match d with
  | .list ds => (match asRows ds with
    | some rows => .nx (ρ.set i (some (.grid rows)))
    | none => .bad)
  | _ => .bad
theorem lcGo_exc {t : Tg} {c e : EF} {ρ : En} : ∀ (ds : List VV.D) (cl : Str) (fs : List (Str × VV.D)), lcGo t c e ρ ds ≠ .exc cl fs
  | [], cl, fs, h => by cases h
  | d :: ds, cl, fs, h => by
    simp only [lcGo] at h
    unfold lcOne at h
    split at h
    · cases h
    · split at h
      · split at h
        · rename_i k _
          cases hk : lcGo t c e ρ ds with
          | bad => rw [hk] at h; cases h
          | exc c' fs' => exact lcGo_exc ds c' fs' hk
          | ok r => rw [hk] at h; cases h
        · cases h
      · exact lcGo_exc ds cl fs h
      · cases h
theorem ss_gridLc {i : Nat} {x : Str} {pos : Pos} {elt tg iter : Expr} {ifs : List Expr} {scope : Scope} {own : List (Str × Nat)} {py spos : Pos} {fi : IF} {t : Tg} {cf f : EF} (hN : X.N.Nodup) (hi : SI X W tg iter fi) (ok : BlkOk X.N X.env.scope scope own)
    (hg : ∀ (s : Shared) (H : Hp) (C : Addr) (cl : List (Str × Addr)) (fp : List Addr), PG (X.blk s H scope (compEnvC scope cl C X.env) fp) tg (gT X.K t)) (ht : ∀ (s : Shared) (H : Hp) (C : Addr) (cl : List (Str × Addr)) (fp : List Addr), STs (X.blk s H scope (compEnvC scope cl C X.env) fp) ifs cf)
    (he : ∀ (s : Shared) (H : Hp) (C : Addr) (cl : List (Str × Addr)) (fp : List Addr), SN (X.blk s H scope (compEnvC scope cl C X.env) fp) WF elt f) (hsw : swapsWith (.ListComp elt [⟨tg, iter, ifs, 0⟩] scope pos) (some (.Name x py)) spos.line X.env = pure true)
    (hsl : ∀ i ∈ slotsT t, i ∈ own.map (·.2) := by decide) (hy : X.N[i]? = some x := by rfl) (hyl : X.env.scope.names.lookup x = some .local := by rfl) (hc : X.calm = true := by rfl) (hs : ∀ x, foldedSetIterable iter X.env x = pure x := by intro _; rfl) (i1 : i < 1000 := by decide) :
    SS X W (.Assign [.Name x py] (.ListComp elt [⟨tg, iter, ifs, 0⟩] scope pos) spos) (sGrid i (eLc (own.map (·.2)) fi t cf f)) := fun H0 Lo => (ps_setLc (tt := tT X.K WF cf) (te := tN X.K WF f) hc hN hy hyl hsw hi ok hg ht he hs).weak fun D σ H ⟨ρ, α, rst, p⟩ => by
  refine ⟨_, ρ, rst.re, ?_⟩
  unfold sGrid eLc at p
  cases hf : fi ρ with
  | bad => rw [hf] at p; exact p
  | exc c fs => rw [hf] at p; exact fun H' x s' xr => p α σ H' x (rst.mono s') (.of_same s') xr
  | ok ds =>
    rw [hf] at p
    simp only [RL.bind_ok] at p
    cases hg : lcGo t cf f (wipeE ρ (own.map (·.2))) ds with
    | bad => rw [hg] at p; exact p.elim
    | exc c fs => exact (lcGo_exc ds c fs hg).elim
    | ok rs =>
      rw [hg] at p
      simp only [RL.bind_ok] at p
      unfold lstR at p
      split at p
      · rename_i hz
        simp only [Rs.out] at p
        cases ha : asRows rs with
        | none => simp only [ha] at p; exact p.elim
        | some rows =>
          simp only [ha] at p
          have er := asRows_eq ha
          subst er
          rw [List.length_map] at hz
          intro J S H1 s1 it hS
          refine lc_loopG (Q := fun x H => gName i x σ H D.nx) (rst.re.mono s1) it hS hsl hg hz fun A bs H2 nd fresh s2 og => ?_
          obtain ⟨q1, q2⟩ := rst.setGrid i1 (s1.trans s2) nd (fun z m => s1.free (fresh z m)) og
          exact p _ _ H2 q1 q2
      · exact p.elim
end
end VV

set_option Elab.async false
set_option linter.all false
set_option maxRecDepth 100000
set_option maxHeartbeats 4000000
/-! VVy: a grid frozen, measured, written. -/
namespace VV
open PySem PySem.Spec L2
open PyProof.Rows hiding St
def sFrzG (i : Nat) (f : SF) : SF := fun ρ => match ρ[i]? with
  | some (some (.grid rows)) => f (ρ.set i (some (.val (rowsD rows))))
  | some (some (.val _)) => f ρ
  | _ => .bad
def gridR (ρ : En) (i : Nat) (k : List (List D) → Rs) : Rs := match ρ[i]? with
  | some (some (.grid rows)) => k rows
  | _ => .bad
def eGlen (i : Nat) : EF := fun ρ => gridR ρ i fun rows => .ok (.int rows.length)
def eGlenIx (i : Nat) (g : EF) : EF := fun ρ => gridR ρ i fun rows => (g ρ).bind fun k => match k with
  | .int j => (match ixN rows.length j with
    | some n => .ok (.int (rows.getD n []).length)
    | none => .bad)
  | _ => .bad
def gridO (ρ : En) (i : Nat) (k : List (List D) → Out) : Out := match ρ[i]? with
  | some (some (.grid rows)) => k rows
  | _ => .bad
/-- the number of the row that an index means -/
def rowO (rows : List (List D)) (k : Nat → Out) : D → Out
  | .int j => (match ixN rows.length j with
    | some n => k n
    | none => .bad)
  | _ => .bad
def putG (ρ : En) (i : Nat) (rows : List (List D)) (v : D) (n : Nat) : D → Out
  | .int l => (match ixN (rows.getD n []).length l with
    | some m => .nx (ρ.set i (some (.grid (rows.set n ((rows.getD n []).set m v)))))
    | none => .bad)
  | _ => .bad
def sPutG (i : Nat) (f g e : EF) : SF := fun ρ => (e ρ).out ρ fun v => gridO ρ i fun rows => (f ρ).out ρ (rowO rows fun n => (g ρ).out ρ (putG ρ i rows v n))
section
variable {X : Cx} {W : WX} {sts : List Stmt} {f g ef : EF} {sf : SF} {a b e : Expr} {x : Str} {p px pos tp q : Pos}
theorem ss_frzG (i : Nat) (h : SSs X W sts sf) : SSs X W sts (sFrzG i sf) := fun H0 Lo => (h H0 Lo).weak fun D σ H ⟨ρ, α, rst, p⟩ => by
  unfold sFrzG at p
  cases hi : ρ[i]? with
  | none => simp only [hi] at p; exact p.elim
  | some z =>
    cases z with
    | none => simp only [hi] at p; exact p.elim
    | some z =>
      cases z with
      | own d => simp only [hi] at p; exact p.elim
      | grid rows =>
        simp only [hi] at p
        obtain ⟨q1, q2⟩ := rst.frzG hi
        exact ⟨_, _, q1, p.evo q2⟩
      | val d => simp only [hi] at p; exact ⟨_, _, rst, p⟩
theorem gridR_ok {K : PySem.W.Frag} {L : Ad} {H : Hp} {σ : St} {ρ : En} {i : Nat} {k : List (List D) → Rs} {Q : VK} (re : RE K H L ρ σ) (h : Post K W L σ H (gridR ρ i k) Q) : ∃ rows a bs, ρ[i]? = some (some (.grid rows)) ∧ σ[i]? = some (some (.ref a)) ∧ Og K H L rows a bs ∧ Post K W L σ H (k rows) Q := by
  unfold gridR at h
  cases hi : ρ[i]? with
  | none => simp only [hi] at h; exact h.elim
  | some z =>
    cases z with
    | none => simp only [hi] at h; exact h.elim
    | some z =>
      cases z with
      | own d => simp only [hi] at h; exact h.elim
      | val d => simp only [hi] at h; exact h.elim
      | grid rows =>
        simp only [hi] at h
        obtain ⟨o, e1, a, bs, e2, og⟩ := re.sl i _ hi
        subst e2
        exact ⟨rows, a, bs, rfl, e1, og, h⟩
theorem se_glen (i : Nat) (hm : X.mg "len" = none) (hg : Gl X "len" := by rfl) (hN : X.N[i]? = some x := by rfl) (hv : Vis X.env.scope x := by first | exact Or.inl rfl | exact Or.inr (Or.inl rfl) | exact Or.inr (Or.inr rfl)) (hd : (x == ("__debug__" : Str)) = false := by decide)
    (hcd : (x == ("__classdict__" : Str)) = false := by decide) : SE X W (.Call (.Name "len" p) [.Name x px] [] pos) (eGlen i) := (pe_callB call_len hg hm (by decide +kernel) (pa_cons (pe_var hN hv hd hcd) pa_nil)).weak fun σ H Q ⟨L, ρ, re, h⟩ => by
  obtain ⟨rows, a, bs, _, e1, og, h⟩ := gridR_ok re h
  refine ⟨.ref a, e1, .ref a, bs.length, rfl, .inl ⟨_, SqL.of og.top, by rw [List.length_map]⟩, h H _ (Same.refl H) ?_⟩
  rw [og.len]
  exact .int _
theorem row_at {K : PySem.W.Frag} {L : Ad} {H : Hp} {rows : List (List D)} {a : Addr} {bs : List Addr} {j : Int} {n : Nat} (og : Og K H L rows a bs) (hn : ixN rows.length j = some n) : ∃ c us, bs[n]? = some c ∧ L2.atI (bs.map V.ref) j = some (.ref c) ∧ H c = some (.lst us) ∧ RpL K H L (rows.getD n []) us ∧ rows[n]? = some (rows.getD n []) := by
  have lt : n < rows.length := by
    unfold ixN at hn
    split at hn
    · split at hn
      · cases hn; omega
      · cases hn
    · split at hn
      · cases hn; omega
      · cases hn
  have lt2 : n < bs.length := by rw [← og.len]; exact lt
  have er : rows[n]? = some (rows.getD n []) := by
    rw [List.getD_eq_getElem?_getD, List.getElem?_eq_getElem lt]
    rfl
  obtain ⟨us, q1, q2⟩ := og.row n _ _ er (List.getElem?_eq_getElem lt2)
  refine ⟨bs[n], us, List.getElem?_eq_getElem lt2, ?_, q1, q2, er⟩
  unfold L2.atI
  rw [List.length_map, ← og.len, hn]
  simp [lt2]
theorem se_glenIx (i : Nat) (hm : X.mg "len" = none) (hb : SB X W b g) (hg : Gl X "len" := by rfl) (hN : X.N[i]? = some x := by rfl) (hv : Vis X.env.scope x := by first | exact Or.inl rfl | exact Or.inr (Or.inl rfl) | exact Or.inr (Or.inr rfl)) (hd : (x == ("__debug__" : Str)) = false := by decide)
    (hcd : (x == ("__classdict__" : Str)) = false := by decide) (hs : PlainIx b := by exact fun _ _ => rfl) : SE X W (.Call (.Name "len" p) [.Subscript (.Name x px) b q] [] pos) (eGlenIx i g) := (pe_callB call_len hg hm (by decide +kernel) (pa_cons (pe_ix ix_list (pe_var hN hv hd hcd) hb hs) pa_nil)).weak fun σ H Q ⟨L, ρ, re, h⟩ => by
  obtain ⟨rows, a, bs, _, e1, og, h⟩ := gridR_ok re h
  refine ⟨.ref a, e1, L, ρ, re, h.step fun dk H1 v s1 rv p1 => ?_⟩
  cases dk with
  | int j =>
    simp only at p1
    cases hn : ixN rows.length j with
    | none => simp only [hn] at p1; exact p1.elim
    | some n =>
      simp only [hn] at p1
      obtain rfl := rv.intV
      obtain ⟨c, us, q1, q2, q3, q4, _⟩ := row_at (og.mono s1) hn
      refine ⟨a, _, j, .ref c, rfl, rfl, SqL.of (og.mono s1).top, q2, .ref c, us.length, rfl, .inl ⟨us, SqL.of q3, rfl⟩, p1 H1 _ (Same.refl H1) ?_⟩
      rw [q4.length]
      exact .int _
  | _ => exact p1.elim
theorem ss_putG (i : Nat) (hf : SB X W a f) (hg : SB X W b g) (he : SE X W e ef) (hN : X.N[i]? = some x := by rfl) (hv : Vis X.env.scope x := by first | exact Or.inl rfl | exact Or.inr (Or.inl rfl) | exact Or.inr (Or.inr rfl)) (hd : (x == ("__debug__" : Str)) = false := by decide)
    (hcd : (x == ("__classdict__" : Str)) = false := by decide) (hx : PlainIx a := by exact fun _ _ => rfl)
    (ha : ∀ v, assign (.Subscript (.Subscript (.Name x p) a q) b tp) X.env v = (do
      let ov ← holding [v] (eval (.Subscript (.Name x p) a q) X.env)
      let iv ← holding [v, ov] (eval b X.env)
      standAt tp; holding [v, ov, iv] (setItem ov iv v); release [v, ov, iv] []) := by intro _; rfl)
    (hs : swapsWithSole [.Subscript (.Subscript (.Name x p) a q) b tp] e pos.line X.env = pure false := by rfl) (hw : swappedStores [.Subscript (.Subscript (.Name x p) a q) b tp] e X.env = pure none := by rfl)
    (h1 : (assignEach [.Subscript (.Subscript (.Name x p) a q) b tp] X.env).map (·.2) = [assign (.Subscript (.Subscript (.Name x p) a q) b tp) X.env] := by rfl) :
    SS X W (.Assign [.Subscript (.Subscript (.Name x p) a q) b tp] e pos) (sPutG i f g ef) := fun H0 Lo =>
  (ps_asg he (pg_sub (pe_ix ix_list (pe_var hN hv hd hcd) hf hx) hg set_list ha) hs hw h1).weak fun D σ H ⟨ρ, α, rst, p⟩ => by
  refine ⟨_, ρ, rst.re, p.expr rst fun dv H1 v s r rst1 p1 => ?_⟩
  unfold gridO at p1
  cases hi : ρ[i]? with
  | none => simp only [hi] at p1; exact p1.elim
  | some z =>
    cases z with
    | none => simp only [hi] at p1; exact p1.elim
    | some z =>
      cases z with
      | own d => simp only [hi] at p1; exact p1.elim
      | val d => simp only [hi] at p1; exact p1.elim
      | grid rows =>
        simp only [hi] at p1
        obtain ⟨c0, bs, e1, e2, e3, og⟩ := rst1.grd i rows hi
        refine ⟨.ref c0, e2, _, ρ, rst1.re, p1.exprB rst1 fun dj H2 j s2 rj rst2 p2 => ?_⟩
        have og2 := og.mono s2
        unfold rowO at p2
        cases dj with
        | int j' =>
          obtain rfl := rj.intV
          simp only at p2
          cases hn : ixN rows.length j' with
          | none => simp only [hn] at p2; exact p2.elim
          | some n =>
            simp only [hn] at p2
            obtain ⟨c, us, q1, q2, q3, q4, q5⟩ := row_at og2 hn
            refine ⟨c0, _, j', .ref c, rfl, rfl, SqL.of og2.top, q2, _, ρ, rst2.re, p2.exprB rst2 fun dl H3 l s3 rl rst3 p3 => ?_⟩
            unfold putG at p3
            cases dl with
            | int l' =>
              obtain rfl := rl.intV
              simp only at p3
              cases hm : ixN (rows.getD n []).length l' with
              | none => simp only [hm] at p3; exact p3.elim
              | some m =>
                simp only [hm] at p3
                have q33 := s3 _ _ q3
                refine ⟨c, us, l', m, rfl, rfl, q33, by rw [← q4.length]; exact hm, ?_⟩
                obtain ⟨w1, w2⟩ := rst3.writeG (r' := (rows.getD n []).set m dv) (us' := us.set m v) hi e1 e2 e3 (og2.mono s3) q1 q33 (RpL.set ((r.mono s2).mono s3) m (q4.mono s3))
                exact p3 α σ _ w1 w2
            | _ => exact p3.elim
        | _ => exact p2.elim
end
end VV

set_option Elab.async false
set_option linter.all false
set_option maxRecDepth 100000
set_option maxHeartbeats 4000000
/-! VVz: range with a step; in, not in. -/
namespace VV
open PySem PySem.Spec L2
open PyProof.Rows hiding St
/-! ### range(a, b, c) -/
def stepD (lo c : Int) (n : Nat) : List D := (List.range n).map fun (i : Nat) => PyData.int (lo + (i : Int) * c)
def rng3 : List D → Option (List D)
  | [.int i, .int j, .int c] => if (decide (c ≠ 0) && decide (c.natAbs < 1073741824) && Builtin.Range.small i j c && decide (0 ≤ Builtin.Range.rangeSize i j c)) = true then some (stepD i c (Builtin.Range.rangeSize i j c).toNat) else none
  | _ => none
def iRange3 (fs : List EF) : IF := fun ρ => (evA fs ρ).items rng3
theorem stepD_length (lo c : Int) (n : Nat) : (stepD lo c n).length = n := by simp [stepD]
theorem itb_step {K : PySem.W.Frag} {lo c : Int} {n : Nat} : ItS K (stepD lo c n) (Itc lo c n) (fun _ _ => True) where
  go := fun i H L _ hi => by rw [stepD_length] at hi; exact hi
  stop := fun i H L _ hi => by rw [stepD_length] at hi; exact hi
  yld := fun i H L x H' _ ⟨e, ex⟩ => by
    subst e ex
    refine ⟨Same.refl _, fun d hd => ?_⟩
    unfold stepD at hd
    rw [List.getElem?_map] at hd
    obtain ⟨k, hk, rfl⟩ := Option.map_eq_some_iff.mp hd
    have ek : k = i := by
      have := List.getElem?_eq_some_iff.mp hk
      obtain ⟨h1, h2⟩ := this
      simpa using h2.symm
    subst ek
    exact .int _
  keep := fun H L H' L' _ s l => trivial
  evo := fun H L H' L' _ _ => trivial
section
variable {X : Cx} {W : WX} {a b c tg : Expr} {fs : List EF} {p pos : Pos}
theorem rng3_ok {K : PySem.W.Frag} {H : Hp} {L : Ad} {ds es : List D} {vs : List V} (h : rng3 ds = some es) (r : RbL K H L ds vs) : ∃ (i j c : Int) (n : Nat), vs = [.int i, .int j, .int c] ∧ RgC i j c n ∧ es = stepD i c n := by
  unfold rng3 at h
  split at h
  · split at h
    · rename_i i j c hz
      cases h
      simp only [Bool.and_eq_true, decide_eq_true_eq] at hz
      obtain ⟨⟨⟨h1, h2⟩, h3⟩, h4⟩ := hz
      cases r with
      | cons r1 r2 =>
        cases r2 with
        | cons r2 r3 =>
          cases r3 with
          | cons r3 r4 =>
            cases r4
            refine ⟨i, j, c, _, by rw [r1.intV, r2.intV, r3.intV], ⟨h1, h2, h3, ?_⟩, rfl⟩
            omega
    · cases h
  · cases h
theorem si_range3 (hm : X.mg "range" = none) (ha : SBA X W [a, b, c] fs) (hg : Gl X "range" := by rfl) (hs : starEach [a, b, c] X.env = (false, eval a X.env) :: starEach [b, c] X.env := by rfl) (hpl : (backTo pos (starEach [b, c] X.env)).any (·.1) = false := by rfl) :
    SI X W tg (.Call (.Name "range" p) [a, b, c] [] pos) (iRange3 fs) := (pi_range3 hg hm ha hs hpl).weak fun σ H R ⟨L, ρ, re, q⟩ => by
  refine ⟨L, ρ, re, ?_⟩
  unfold iRange3 RL.items at q
  cases hf : evA fs ρ with
  | bad => rw [hf] at q; exact q.elim
  | exc c gs => rw [hf] at q; exact q
  | ok ds =>
    rw [hf] at q
    dsimp only at q
    intro H1 vs s1 r
    cases hz : rng3 ds with
    | none => simp only [hz] at q; exact q.elim
    | some es =>
      simp only [hz] at q
      obtain ⟨i, j, k, n, rfl, rg, rfl⟩ := rng3_ok hz r
      exact ⟨i, j, k, n, rfl, rg, q _ _ H1 s1 itb_step.toItB trivial⟩
theorem sis_range3 (hm : X.mg "range" = none) (ha : SBA X W [a, b, c] fs) (hg : Gl X "range" := by rfl) (hs : starEach [a, b, c] X.env = (false, eval a X.env) :: starEach [b, c] X.env := by rfl) (hpl : (backTo pos (starEach [b, c] X.env)).any (·.1) = false := by rfl) :
    SIS X W tg (.Call (.Name "range" p) [a, b, c] [] pos) (iRange3 fs) := (pi_range3 hg hm ha hs hpl).weak fun σ H R ⟨L, ρ, re, q⟩ => by
  refine ⟨L, ρ, re, ?_⟩
  unfold iRange3 RL.items at q
  cases hf : evA fs ρ with
  | bad => rw [hf] at q; exact q.elim
  | exc c gs => rw [hf] at q; exact q
  | ok ds =>
    rw [hf] at q
    dsimp only at q
    intro H1 vs s1 r
    cases hz : rng3 ds with
    | none => simp only [hz] at q; exact q.elim
    | some es =>
      simp only [hz] at q
      obtain ⟨i, j, k, n, rfl, rg, rfl⟩ := rng3_ok hz r
      exact ⟨i, j, k, n, rfl, rg, q _ _ H1 s1 itb_step trivial⟩
end
/-! ### in, not in -/
def flatD : D → Bool
  | .none => true
  | .bool _ => true
  | .int _ => true
  | .str _ => true
  | _ => false
/-- the sign of a text of one -/
def signOf (w : Str) : Option Nat := match w.cps.toList with
  | [c] => some c
  | _ => none
theorem signOf_ok {w : Str} {c : Nat} (h : signOf w = some c) : w = ⟨#[c]⟩ := by
  obtain ⟨cps⟩ := w
  unfold signOf at h
  split at h
  · rename_i e
    cases h
    have : cps = #[c] := by
      have := congrArg List.toArray e
      simpa using this
    rw [this]
  · cases h
/-- membership of a list, of a tuple of flat things, of a text (one sign) -/
def memF : D → D → Option Bool
  | x, .list ds => if (SeqAt.shaped x && SeqAt.shaped (.list ds)) = true then some (ds.any fun z => PyData.eqv z x) else none
  | x, .tuple ds => if (flatD x && ds.all flatD) = true then some (ds.any fun z => PyData.eqv z x) else none
  | .str w, .str z => (signOf w).map fun c => decide (c ∈ z.cps.toList)
  | _, _ => none
def inF : D → D → Option D := fun x y => (memF x y).map PyData.bool
def ninF : D → D → Option D := fun x y => (memF x y).map fun b => .bool (!b)
theorem inF_b {x y d : D} (h : inF x y = some d) : ∃ b, d = .bool b := by
  unfold inF at h
  obtain ⟨b, _, rfl⟩ := Option.map_eq_some_iff.mp h
  exact ⟨b, rfl⟩
theorem ninF_b {x y d : D} (h : ninF x y = some d) : ∃ b, d = .bool b := by
  unfold ninF at h
  obtain ⟨b, _, rfl⟩ := Option.map_eq_some_iff.mp h
  exact ⟨_, rfl⟩
theorem flat_ok {K : PySem.W.Frag} {H : Hp} {L : Ad} {d : D} {v : V} (r : Rb K H L d v) (h : flatD d = true) : flatV v = true := by
  cases d with
  | none => rw [r.nonV]; rfl
  | bool b => rw [r.blV]; rfl
  | int i => rw [r.intV]; rfl
  | str x => rw [r.strV]; rfl
  | _ => cases h
theorem eqV_ok {K : PySem.W.Frag} {H : Hp} {L : Ad} {d e : D} {v w : V} (r : Rb K H L d v) (q : Rb K H L e w) (h : flatD d = true) (g : flatD e = true) : eqV v w = PyData.eqv d e := by
  cases d with
  | none =>
    rw [r.nonV]
    cases e with
    | none => rw [q.nonV]; rfl
    | bool b => rw [q.blV]; rfl
    | int i => rw [q.intV]; rfl
    | str x => rw [q.strV]; rfl
    | _ => cases g
  | bool c =>
    rw [r.blV]
    cases e with
    | none => rw [q.nonV]; rfl
    | bool b => rw [q.blV]; simp [eqV, PyData.eqv]
    | int i => rw [q.intV]; simp [eqV, PyData.eqv]
    | str x => rw [q.strV]; rfl
    | _ => cases g
  | int c =>
    rw [r.intV]
    cases e with
    | none => rw [q.nonV]; rfl
    | bool b => rw [q.blV]; simp [eqV, PyData.eqv]
    | int i => rw [q.intV]; simp [eqV, PyData.eqv]
    | str x => rw [q.strV]; rfl
    | _ => cases g
  | str c =>
    rw [r.strV]
    cases e with
    | none => rw [q.nonV]; rfl
    | bool b => rw [q.blV]; rfl
    | int i => rw [q.intV]; rfl
    | str x => rw [q.strV]; simp [eqV, PyData.eqv]
    | _ => cases g
  | _ => cases h
theorem inV_ok {K : PySem.W.Frag} {H : Hp} {L : Ad} {x : D} {v : V} (rx : Rb K H L x v) (hx : flatD x = true) : ∀ {ds : List D} {vs : List V}, RpL K H L ds vs → ds.all flatD = true → inV v vs = (ds.any fun z => PyData.eqv z x) ∧ vs.all flatV = true
  | _, _, .nil, _ => ⟨rfl, rfl⟩
  | d :: ds, w :: vs, .cons r rl, h => by
    have h2 : flatD d = true ∧ ds.all flatD = true := by simpa using h
    obtain ⟨i1, i2⟩ := inV_ok rx hx rl h2.2
    have e := eqV_ok r.rb rx h2.1 hx
    constructor
    · unfold inV at i1 ⊢
      rw [List.any_cons, List.any_cons, e, i1]
    · rw [List.all_cons, flat_ok r.rb h2.1, i2]
      rfl
section
variable {X : Cx} {k : Nat}
theorem op_inX (hr : Room k X.A) : CmD X .In inF := by
  rintro pn s σ H x y v u Q I rx ry ⟨L, dx, dy, d, lv, bx, by', hf, go⟩
  unfold inF at hf
  obtain ⟨b, hb, rfl⟩ := Option.map_eq_some_iff.mp hf
  have un := hr.un
  unfold memF at hb
  split at hb
  · split at hb
    · rename_i hz
      cases hb
      rw [Bool.and_eq_true] at hz
      exact op_inD (by omega) pn s σ H _ _ v u Q I rx ry ⟨dx, _, bx.dp (SeqAt.canLay_of_shaped hz.1), by'.dp (SeqAt.canLay_of_shaped hz.2), hz.1, hz.2, go H _ (Same.refl H) (.bl _)⟩
    · cases hb
  · split at hb
    · rename_i hz
      cases hb
      rw [Bool.and_eq_true] at hz
      obtain ⟨p, vs, rfl, hp, rl⟩ := by'.tupV
      obtain ⟨e1, e2⟩ := inV_ok bx hz.1 rl hz.2
      refine op_in_seq pn s σ H _ _ v u Q I rx ry ⟨p, vs, rfl, .inr (SqT.of hp), flat_ok bx hz.1, e2, go H _ (Same.refl H) ?_⟩
      rw [if_neg (by decide), e1]
      exact .bl _
    · cases hb
  · obtain ⟨c, hc, rfl⟩ := Option.map_eq_some_iff.mp hb
    obtain rfl := signOf_ok hc
    obtain rfl := bx.strV
    obtain rfl := by'.strV
    exact op_in_sign pn s σ H _ _ v u Q I rx ry ⟨_, _, rfl, rfl, go H _ (Same.refl H) (.bl _)⟩
  · cases hb
theorem op_ninX (hr : Room k X.A) : CmD X .NotIn ninF := by
  rintro pn s σ H x y v u Q I rx ry ⟨L, dx, dy, d, lv, bx, by', hf, go⟩
  unfold ninF at hf
  obtain ⟨b, hb, rfl⟩ := Option.map_eq_some_iff.mp hf
  have un := hr.un
  unfold memF at hb
  split at hb
  · split at hb
    · rename_i hz
      cases hb
      rw [Bool.and_eq_true] at hz
      exact op_notInD (by omega) pn s σ H _ _ v u Q I rx ry ⟨dx, _, bx.dp (SeqAt.canLay_of_shaped hz.1), by'.dp (SeqAt.canLay_of_shaped hz.2), hz.1, hz.2, go H _ (Same.refl H) (.bl _)⟩
    · cases hb
  · split at hb
    · rename_i hz
      cases hb
      rw [Bool.and_eq_true] at hz
      obtain ⟨p, vs, rfl, hp, rl⟩ := by'.tupV
      obtain ⟨e1, e2⟩ := inV_ok bx hz.1 rl hz.2
      refine op_notIn_seq pn s σ H _ _ v u Q I rx ry ⟨p, vs, rfl, .inr (SqT.of hp), flat_ok bx hz.1, e2, go H _ (Same.refl H) ?_⟩
      rw [if_pos rfl, e1]
      exact .bl _
    · cases hb
  · obtain ⟨c, hc, rfl⟩ := Option.map_eq_some_iff.mp hb
    obtain rfl := signOf_ok hc
    obtain rfl := bx.strV
    obtain rfl := by'.strV
    exact op_notIn_sign pn s σ H _ _ v u Q I rx ry ⟨_, _, rfl, rfl, go H _ (Same.refl H) (.bl _)⟩
  · cases hb
end
end VV

set_option Elab.async false
set_option linter.all false
set_option maxRecDepth 100000
set_option maxHeartbeats 4000000
/-! VWa: the head's facts with any checks; x in a module's tuple. -/
namespace VV
open PySem PySem.Spec L2
open PyProof.Rows hiding St
abbrev Chk := PySem.W.Frag → Bool
def obsC (n : Nat) (fa : List He.Fa) (fn : List He.DefD) (cs : List Chk) (g : Addr → Option Obj) : AlV := (He.obsD fa fn (He.frG g (He.asD g n)), cs.all fun c => c (He.frG g (He.asD g n)))
def hookC (n : Nat) (fa : List He.Fa) (fn : List He.DefD) (cs : List Chk) : PySem.W.Hook where
  α := AlV
  obs := fun s => obsC n fa fn cs s.heap.get?
  val := fun _ => (He.valD fn, true)
  says := fun _ h => ∃ K : PySem.W.Frag, K.In h ∧ (He.SaysD fa fn K ∧ ∀ c ∈ cs, c K = true)
  of := fun _ _ e => ⟨_, He.frG_in, congrArg (fun z : AlV => z.1) e, fun c hc => List.all_eq_true.mp (congrArg (fun z : AlV => z.2) e) c hc⟩
  keeps := fun _ _ _ told kept => told.elim fun K h => ⟨K, PySem.W.Frag.In.keeps h.1 kept, h.2⟩
theorem obsC_eq {n : Nat} {fa : List He.Fa} {fn : List He.DefD} {cs : List Chk} {g : Addr → Option Obj} {s : Shared} (h : ∀ a, g a = s.heap.get? a) : obsC n fa fn cs g = (hookC n fa fn cs).obs s := by
  obtain rfl : g = s.heap.get? := funext h
  rfl
theorem chk_at {K : PySem.W.Frag} {cs : List Chk} (h : ∀ c ∈ cs, c K = true) (i : Nat) {c : Chk} (e : cs[i]? = some c) : c K = true := h c (List.mem_of_getElem? e)
/-! ### a module's tuple of flat things -/
def dvD : D → He.Dv
  | .bool b => .bl b
  | .int i => .int i
  | .str x => .str x
  | _ => .non
structure TupC (K : PySem.W.Frag) (mg : Str → Option Value) (x : Str) (ds : List D) : Prop where
  glo : mg x = some (.ref (He.ga K x))
  flat : ds.all flatD = true
  lies : ∀ H : Hp, ∃ vs, SqT K H (He.ga K x) vs ∧ ∀ L : Ad, RpL K H L ds vs
theorem dv_rp {K : PySem.W.Frag} {H : Hp} {L : Ad} : ∀ {ds : List D}, ds.all flatD = true → RpL K H L ds ((ds.map dvD).map (He.Dv.v K))
  | [], _ => .nil
  | d :: ds, h => by
    have h2 : flatD d = true ∧ ds.all flatD = true := by simpa using h
    refine .cons ?_ (dv_rp h2.2)
    cases d with
    | none => exact .non
    | bool b => exact .bl b
    | int i => exact .int i
    | str x => exact .str x
    | _ => exact absurd h2.1 (by simp [flatD])
theorem tupC_of {K : PySem.W.Frag} {mg : Str → Option Value} {x : Str} {ds : List D} (g : mg x = some (.ref (He.ga K x))) (f : ds.all flatD = true) (h : He.tupB K x (ds.map dvD) = true) : TupC K mg x ds := ⟨g, f, fun H => ⟨_, He.tupB_ok h H, fun L => dv_rp f⟩⟩
def inCF (neg : Bool) (ds : List D) : D → Option D := fun x => if flatD x = true then some (.bool (if neg then !(ds.any fun z => PyData.eqv z x) else ds.any fun z => PyData.eqv z x)) else none
section
variable {X : Cx} {W : WX} {a : Expr} {f : EF} {x : Str} {p pos : Pos} {ds : List D}
theorem tInC_of {neg : Bool} (T : TupC X.K X.mg x ds) : ∀ σ H Q, tE X.K W (eUn (inCF neg ds) f) σ H Q → tOp (rIn X.K neg) (tB X.K W f) (tC (.ref (He.ga X.K x))) σ H Q := fun σ H Q ⟨L, ρ, re, q⟩ =>
  ⟨L, ρ, re, q.step fun dx H1 v s1 rx p1 => by
    unfold inCF at p1
    split at p1
    · rename_i hz
      obtain ⟨vs, sq, rl⟩ := T.lies H1
      obtain ⟨e1, e2⟩ := inV_ok rx hz (rl L) T.flat
      refine ⟨_, vs, rfl, .inr sq, flat_ok rx hz, e2, ?_⟩
      rw [e1]
      exact p1 H1 _ (Same.refl H1) (.bl _)
    · exact p1.elim⟩
theorem tInCT_of {neg : Bool} (T : TupC X.K X.mg x ds) : ∀ σ H Q, tT X.K W (eUn (inCF neg ds) f) σ H Q → tOp (rIn X.K neg) (tB X.K W f) (tC (.ref (He.ga X.K x))) σ H fun v H' => ∃ b, v = .bl b ∧ Q b H' := fun σ H Q ⟨L, ρ, re, p⟩ =>
  tInC_of (W := W) T σ H _ ⟨L, ρ, re, by
    cases hr : eUn (inCF neg ds) f ρ with
    | bad => rw [hr] at p; exact p
    | exc c fs => rw [hr] at p; exact p
    | ok d =>
      rw [hr] at p
      cases d with
      | bool b => exact fun H' v s r => ⟨b, r.blV, p H' s⟩
      | _ => exact p.elim⟩
theorem se_inC (T : TupC X.K X.mg x ds) (ha : SB X W a f) (hg : Gl X x := by rfl) (hd : (x == ("__debug__" : Str)) = false := by decide) (hm : behindInMarks .In (.Name x p) = false := by rfl) : SE X W (.Compare a [.In] [.Name x p] pos) (eUn (inCF false ds) f) := (pe_cmpR op_in_seq ha (pe_glob (v := .ref (He.ga X.K x)) hg T.glo rfl hd) hm).weak (tInC_of T)
theorem se_inCn (T : TupC X.K X.mg x ds) (ha : SB X W a f) (hg : Gl X x := by rfl) (hd : (x == ("__debug__" : Str)) = false := by decide) (hm : behindInMarks .NotIn (.Name x p) = false := by rfl) : SE X W (.Compare a [.NotIn] [.Name x p] pos) (eUn (inCF true ds) f) := (pe_cmpR op_notIn_seq ha (pe_glob (v := .ref (He.ga X.K x)) hg T.glo rfl hd) hm).weak (tInC_of T)
theorem st_inC (T : TupC X.K X.mg x ds) (ha : SB X W a f) (hg : Gl X x := by rfl) (hd : (x == ("__debug__" : Str)) = false := by decide) (hm : behindInMarks .In (.Name x p) = false := by rfl) : ST X W (.Compare a [.In] [.Name x p] pos) (eUn (inCF false ds) f) := (pt_cmpR op_in_seq ha (pe_glob (v := .ref (He.ga X.K x)) hg T.glo rfl hd) hm).weak (tInCT_of T)
theorem st_inCn (T : TupC X.K X.mg x ds) (ha : SB X W a f) (hg : Gl X x := by rfl) (hd : (x == ("__debug__" : Str)) = false := by decide) (hm : behindInMarks .NotIn (.Name x p) = false := by rfl) : ST X W (.Compare a [.NotIn] [.Name x p] pos) (eUn (inCF true ds) f) := (pt_cmpR op_notIn_seq ha (pe_glob (v := .ref (He.ga X.K x)) hg T.glo rfl hd) hm).weak (tInCT_of T)
end
end VV

set_option Elab.async false
set_option linter.all false
set_option maxRecDepth 100000
set_option maxHeartbeats 4000000
/-! VWb: sorted(set(xs)) of a list of ints; xs.count(k). -/
namespace VV
open PySem PySem.Spec L2
open PyProof.Rows hiding St
section
variable {P : Program} {w : World} {A : Around} {E : Value → Shared → Prop}
abbrev emptyS (w : World) : Obj := { cls := .type "set", dict := none, data := .set #[] 0 (.fresh 0 0 (!w.params.followText "set-order")) }

/-- a call of a type, by what its __new__ and its __init__ do -/
theorem typeOpen {T newId initId : String} {args : List Value} {s : Shared} {Q mk : Value → Shared → Prop} (ft : TypeCalled T newId initId) (fit : checkTypeCall T ⟨args, []⟩ = pure ())
    (born : codeAny (model P w) A.in1 (.call (.builtin newId) ⟨.type T :: args, []⟩) (wants mk E) s) (typed : ∀ v t, mk v t → t.TypeIs v T)
    (begun : ∀ v t, mk v t → codeAny (model P w) A.in1 (.call (.builtin initId) ⟨v :: args, []⟩) (wants (fun r t2 => r = .none ∧ Q v t2) E) t) :
    wpAny (model P w) A (call (.type T) args) Q E s := by
  obtain ⟨notT, can, ⟨c, tl, line⟩, maker, _, sub, ini⟩ := ft
  apply wpAny_call
  apply codeAny_of_tree
  change wpAny _ _ (callAny (.type T) _) _ _ _
  refine wpAny_pure ⟨by exact Code.quiet_builtin _ (by decide +kernel), ?_⟩
  apply codeAny_builtin F.entry_type_call
  rw [Around.under_plain (weight_type_call_type T args []) (units_type_call_type T args [])]
  repeat any_goals first | assumption | wp_step
  apply codeAny_mono born
  intro res t got
  rcases res with _ | fl
  · exact got
  cases fl
  case ret v =>
    have isT := typed v t got
    have next := begun v t got
    obtain ⟨look, bnd, _, plain⟩ := ini
    have bnd := bnd v
    repeat any_goals first | assumption | wp_step
    apply codeAny_mono next
    intro res2 t2 got2
    rcases res2 with _ | fl2
    · exact got2
    cases fl2
    case ret u =>
      obtain ⟨rfl, fin⟩ := got2
      repeat any_goals first | assumption | wp_step
    all_goals exact got2.elim
  all_goals exact got.elim
theorem far {a n m : Nat} (h : a < n) (e : m = n + 1) : a ≠ m := by omega
theorem off2 {a n m l : Nat} (e : m = n + 1) (ne : a ≠ l) (h : a ≤ n) : a ∉ [m, l] := by
  intro bad
  rcases List.mem_cons.mp bad with z | z
  · omega
  · exact ne (List.mem_singleton.mp z)
theorem offS {a n m : Nat} (e : m = n + 1) (h : a < n) : a ∉ [n, m] := by
  intro bad
  rcases List.mem_cons.mp bad with z | z
  · omega
  · have := List.mem_singleton.mp z
    omega
/-- a list's ints put into a new set that can be walked -/
theorem setMade {s : Shared} {l : Addr} {xs : List Value} {ns : List Int} {Q : Value → Shared → Prop} (calm : A.handled = none) (isl : s.heap.IsList l xs.toArray) (whole : IntsAre xs ns) (short : ns.length + 1 < scanBound)
    (go : ∀ h' tk c, SetR w h' s.heap.objs.size (fun j => decide (j ∈ ns)) c → c ≤ ns.length → (∀ b u, s.heap.get? b = some u → h'.get? b = some u) → Q (.ref s.heap.objs.size) { s with heap := h', toks := tk }) :
    wpAny (model P w) A (call (.type "set") [.ref l]) Q E s := by
  have many : xs.toArray.size = ns.length := (List.size_toArray ..).trans whole.length
  apply typeOpen F.called_set (F.typeCall_set_1 _) (code_set_led1 (.ref l) (Q₁ := fun v t => v = .ref s.heap.objs.size ∧ t = { s with heap := s.heap.push (emptyS w) }) ⟨rfl, rfl⟩)
  · rintro _ _ ⟨rfl, rfl⟩
    exact ⟨_, Heap.get?_push_size _ rfl, rfl⟩
  rintro _ _ ⟨rfl, rfl⟩
  have mine : (s.heap.push (emptyS w)).get? s.heap.objs.size = some (emptyS w) := Heap.get?_push_size _ rfl
  obtain ⟨⟨_, od, _, os⟩, at_, rfl, m, rfl⟩ := isl
  have low : l < s.heap.objs.size := Heap.lt_size at_
  have still : (s.heap.push (emptyS w)).IsList l xs.toArray := ⟨_, Heap.get?_push_of_some _ at_, rfl, m, rfl⟩
  have seen := Heap.get?_push_of_some (emptyS w) at_
  have notS := F.sub_list_set
  have notF := F.sub_list_frozenset
  have notD : (Value.type "list" == Value.type "dict") = false := by decide
  apply codeAny_call_builtin F.called_set.init.plain F.entry_set_init
  have isT : Shared.TypeIs { s with heap := s.heap.push (emptyS w) } (.ref s.heap.objs.size) "set" := ⟨_, mine, rfl⟩
  refine check_set_init_1 isT ?_
  unfold Builtin.«set.__init__» noKeywords Builtin.Frozenset.updateFrom
  generalize same : pyIter = walkOf
  wp_walk
  cases same
  apply wpAny_pyIter_list still
  apply wpAny_bind
  apply wpAny_runValue
  have size1 : (s.heap.push (emptyS w)).objs.size = s.heap.objs.size + 1 := Heap.size_push ..
  have quiet : A.in1.in1.in1.handled = none := by simp [calm]
  have apart : l ≠ (s.heap.push (emptyS w)).objs.size := far low size1
  refine set_update_ints (Walks.list quiet _ l apart xs.toArray).toS s.heap.objs.size ?_ ns many short ?_ xs.toArray.size 0 _ rfl (Nat.zero_le _) ⟨⟨_, Heap.get?_push_size _ rfl, rfl, rfl⟩, still.push _⟩ ⟨0, Nat.le_refl 0, setR_new_at (Heap.get?_push_of_some _ mine)⟩ ?_
  · exact off2 size1 (Nat.ne_of_gt low) (Nat.le_refl _)
  · intro i v hv
    have hv' : xs[i]? = some v := by simpa using hv
    obtain ⟨t, rfl⟩ := whole.int_at i v hv'
    have lt : i < ns.length := by
      rw [← whole.length]
      exact (List.getElem?_eq_some_iff.mp hv').1
    exact ⟨_, t, by simp [List.getD, lt], rfl⟩
  · rintro ⟨h', g', d', tk', os'⟩ c moved few made
    obtain ⟨keep, rfl, rfl, rfl, _⟩ := moved
    refine wpAny_pure (wpAny_pure ⟨rfl, go h' tk' c made (many ▸ few) fun b u e => ?_⟩)
    have lb := Heap.lt_size e
    apply keep b u
    · exact offS size1 lb
    · exact Heap.get?_push_of_some _ (Heap.get?_push_of_some _ e)
end
/-! ### rising lists -/
def insI (k : Int) : List Int → List Int
  | [] => [k]
  | x :: xs => if k < x then k :: x :: xs else if k = x then x :: xs else x :: insI k xs
def upI (ns : List Int) : List Int := ns.foldr insI []
theorem mem_insI {k j : Int} : ∀ {xs : List Int}, j ∈ insI k xs ↔ j = k ∨ j ∈ xs
  | [] => by simp [insI]
  | x :: xs => by
    unfold insI
    split
    · simp
    · split
      · rename_i e
        subst e
        simp
      · have := @mem_insI k j xs
        simp only [List.mem_cons, this]
        constructor
        · rintro (h | h | h) <;> simp [h]
        · rintro (h | h | h) <;> simp [h]
theorem up_insI {k : Int} : ∀ {xs : List Int}, xs.Pairwise (· < ·) → (insI k xs).Pairwise (· < ·)
  | [], _ => by simp [insI]
  | x :: xs, h => by
    obtain ⟨h1, h2⟩ := List.pairwise_cons.mp h
    unfold insI
    split
    · rename_i lt
      refine List.pairwise_cons.mpr ⟨fun y hy => ?_, h⟩
      rcases List.mem_cons.mp hy with e | e
      · omega
      · have := h1 y e
        omega
    · split
      · exact h
      · refine List.pairwise_cons.mpr ⟨fun y hy => ?_, up_insI h2⟩
        rcases mem_insI.mp hy with e | e
        · omega
        · exact h1 y e
theorem mem_upI {j : Int} : ∀ {ns : List Int}, j ∈ upI ns ↔ j ∈ ns
  | [] => by simp [upI]
  | k :: ns => by
    have := @mem_upI j ns
    unfold upI at this ⊢
    rw [List.foldr_cons, mem_insI, this, List.mem_cons]
theorem up_upI : ∀ (ns : List Int), (upI ns).Pairwise (· < ·)
  | [] => by simp [upI]
  | k :: ns => by
    have := up_upI ns
    unfold upI at this ⊢
    exact up_insI this
/-- a rising list is told by what is in it -/
theorem up_eq : ∀ {xs ys : List Int}, xs.Pairwise (· < ·) → ys.Pairwise (· < ·) → (∀ k, k ∈ xs ↔ k ∈ ys) → xs = ys
  | [], [], _, _, _ => rfl
  | [], y :: _, _, _, h => nomatch (h y).mpr (by simp)
  | x :: _, [], _, _, h => nomatch (h x).mp (by simp)
  | x :: xs, y :: ys, hx, hy, h => by
    obtain ⟨hx1, hx2⟩ := List.pairwise_cons.mp hx
    obtain ⟨hy1, hy2⟩ := List.pairwise_cons.mp hy
    have e : x = y := by
      have a := (h x).mp (by simp)
      have b := (h y).mpr (by simp)
      rcases List.mem_cons.mp a with a | a
      · exact a
      rcases List.mem_cons.mp b with b | b
      · exact b.symm
      have := hy1 x a
      have := hx1 y b
      omega
    subst e
    congr 1
    refine up_eq hx2 hy2 fun k => ?_
    have := h k
    simp only [List.mem_cons] at this
    constructor
    · intro m
      rcases this.mp (.inr m) with z | z
      · have := hx1 k m
        omega
      · exact z
    · intro m
      rcases this.mpr (.inr m) with z | z
      · have := hy1 k m
        omega
      · exact z
/-! ### sorted(set(xs)) -/
def sortSetF : D → Option D
  | .list ds => (intsOf ds).bind fun ns => if ns.length < 64 then some (.list ((upI ns).map PyData.int)) else none
  | _ => none
def cntF : D → D → Option D
  | .list ds, .int k => (intsOf ds).map fun ns => .int (ns.count k)
  | _, _ => none
def eCnt (f g : EF) : EF := fun ρ => (f ρ).bind fun x => match x with
  | .list _ => (g ρ).bind fun y => Rs.of (cntF x y)
  | _ => .bad
section
variable {X : Cx} {W : WX}
def rSetUp (K : PySem.W.Frag) (w : World) : List V → Hp → VK → Prop := fun vs H Q => ∃ (l : Addr) (ns : List Int), vs = [.ref l] ∧ SqL K H l (ns.map V.int) ∧ ns.length < 64 ∧ ∀ p c, H p = none → c ≤ ns.length → Q (.ref p) (upd H p (SetO w p (fun j => decide (j ∈ ns)) c))
theorem cr_setUp (hc : X.calm = true) : CallR X (.type "set") (rSetUp X.K X.w) := by
  rintro pn s σ H _ _ Q inv vals ⟨l, ns, rfl, lies, short, go⟩
  obtain rfl := Vals.ref1 vals
  obtain ⟨its, rel, isl, _⟩ := inv.list lies
  refine setMade (inv.ok.hd hc) isl.isList rel.ints (by unfold scanBound; omega) fun h' tk c made few keep => ?_
  exact ⟨.ref _, _, inv.laid (o := SetO X.w _ _ c) keep (Nat.le_refl _) (setO_new made), rfl, go _ c (inv.hok.fresh (Nat.le_refl _)) few⟩
theorem intsRp {H : Hp} {K : PySem.W.Frag} {L : Ad} : ∀ (ns : List Int), RpL K H L (ns.map PyData.int) (ns.map V.int)
  | [] => .nil
  | n :: ns => .cons (.int n) (intsRp ns)
theorem sn_sortedSet {a : Expr} {f : EF} {p p2 q pos : Pos} (hm : X.mg "sorted" = none) (hm2 : X.mg "set" = none) (ha : SB X W a f) (hg : Gl X "sorted" := by rfl) (hg2 : Gl X "set" := by rfl) (hc : X.calm = true := by rfl)
    (na : starEach [a] X.env = (false, eval a X.env) :: starEach [] X.env := by rfl) : SN X W (.Call (.Name "sorted" p) [.Call (.Name "set" p2) [a] [] q] [] pos) (eUn sortSetF f) := by
  have inner := pe_callTy (p := p2) (pos := q) (cr_setUp (X := X) hc) hg2 hm2 (by decide +kernel) (pa_cons ha pa_nil na) (he := na)
  have key := pe_callB (p := p) (pos := pos) (cr_sortedSet (X := X) hc) hg hm (by decide +kernel) (pa_cons inner pa_nil rfl)
  refine key.weak fun σ H Q ⟨L, ρ, re, p⟩ => ⟨L, ρ, re, p.stepB fun dx H1 x s1 rx p1 => ?_⟩
  cases dx with
  | list ds =>
    obtain ⟨a, vs, rfl, ha, rl⟩ := rx.lstV
    unfold sortSetF at p1
    dsimp only at p1
    cases hi : intsOf ds with
    | none => rw [hi] at p1; exact p1.elim
    | some ns =>
      rw [hi] at p1
      simp only [Option.bind_some] at p1
      have ed := intsOf_eq hi
      subst ed
      have ev := rl.ints
      subst ev
      split at p1
      · rename_i hz
        refine ⟨a, ns, rfl, SqL.of ha, hz, fun q c hq few => ⟨q, _, c, rfl, upd_same, by omega, fun zs r up mem _ hr => ?_⟩⟩
        have e := up_eq up (up_upI ns) fun k => by rw [mem k, mem_upI]; simp
        subst e
        have nq : r ≠ q := fun e => by subst e; rw [upd_same] at hr; cases hr
        have free : H1 r = none := by rw [← hr, upd_ne nq]
        exact p1 _ _ ((same_upd hq).trans (same_upd hr)) free (.lst upd_same (intsRp _))
      · exact p1.elim
  | _ => exact p1.elim
theorem se_count {o e : Expr} {f g : EF} {apos cpos : Pos} (ho : SB X W o f) (he : SE X W e g) (hbase : attributeBase o "count" X.env (eval o X.env) = eval o X.env := by rfl) (hline : (apos.endLine == cpos.line) = true := by rfl)
    (na : starEach [e] X.env = (false, eval e X.env) :: starEach [] X.env := by rfl) : SE X W (.Call (.Attribute o "count" apos) [e] [] cpos) (eCnt f g) := by
  have key := pe_bm (apos := apos) (cpos := cpos) PySem.F.plainAttrs_list PySem.F.slot_list_count PySem.F.type_list_count (mt_lcount (X := X)) ho (pa_cons he pa_nil na) hbase (by rw [na]; rfl) hline na
  refine key.weak fun σ H Q ⟨L, ρ, re, p⟩ => ⟨L, ρ, re, p.step fun dx H1 x s1 rx p1 => ?_⟩
  cases dx with
  | list ds =>
    obtain ⟨a, vs, rfl, ha, rl⟩ := rx.lstV
    refine ⟨.inl ⟨rfl, vs, SqL.of ha⟩, L, ρ, re.mono s1, p1.stepE fun dy H2 y s2 ry p2 => ?_⟩
    cases dy with
    | int k =>
      obtain rfl := ry.intV
      unfold cntF at p2
      dsimp only at p2
      cases hi : intsOf ds with
      | none => rw [hi] at p2; exact p2.elim
      | some ns =>
        rw [hi] at p2
        simp only [Option.map_some, Rs.of_some] at p2
        have ed := intsOf_eq hi
        subst ed
        have ev := rl.ints
        subst ev
        exact ⟨a, ns, k, rfl, rfl, SqL.of (s2 _ _ ha), p2 _ _ (Same.refl _) (.int _)⟩
    | _ => exact p2.elim
  | _ => exact p1.elim
end
end VV

set_option Elab.async false
set_option linter.all false
set_option maxRecDepth 100000
set_option maxHeartbeats 8000000
/-! PLo: plain facts for k02: falling ranges, any slices, lights that are none, boxes that are none, levels counted. -/
namespace VVlaw
open PySem PySem.Spec L2 VV
open PyProof.Rows hiding St
theorem down_range (h : Nat) (h1 : 1 ≤ h) (h2 : h ≤ 1000) : rng3 [.int ((h : Int) - 1), .int (-1), .int (-1)] = some (((rangeI 0 h).map fun a => (h : Int) - 1 - a).map PyData.int) := by
  have sz : Builtin.Range.rangeSize ((h : Int) - 1) (-1) (-1) = h := by
    unfold Builtin.Range.rangeSize
    rw [if_neg (by decide), if_pos (by omega)]
    have : ((h : Int) - 1 - -1 - 1) / (- -1) = h - 1 := by
      rw [show (- -1 : Int) = 1 from rfl, Int.ediv_one]
      omega
    rw [this]
    omega
  have sm : Builtin.Range.small ((h : Int) - 1) (-1) (-1) = true := by
    have f1 : Builtin.Range.rangeFitsLong ((h : Int) - 1) = true := by
      unfold Builtin.Range.rangeFitsLong
      simp
      omega
    have f2 : Builtin.Range.rangeFitsLong (h : Int) = true := by
      unfold Builtin.Range.rangeFitsLong
      simp
      omega
    unfold Builtin.Range.small
    rw [sz, f1, f2, if_neg (by decide)]
    have f3 : Builtin.Range.rangeFitsLong (-1) = true := by decide
    have f4 : Builtin.Range.rangeFitsLong (-1 + (-1 + 1)) = true := by decide
    rw [f3, f4]
    simp
  simp -implicitDefEqProofs only [rng3, sz, sm]
  rw [if_pos (by simp)]
  unfold stepD rangeI
  rw [List.map_map, List.map_map, Int.toNat_natCast]
  congr 1
theorem sIx_any (n d : Nat) (v : Int) (h : 0 ≤ v) : HT.sIx n d (some v) = min v.toNat n := by
  show (if v < 0 then (v + (n : Int)).toNat else min v.toNat n) = _
  rw [if_neg (by omega)]
theorem cutL_any {α : Type} (xs : List α) (a b : Int) (h0 : 0 ≤ a) (h1 : a ≤ b) : cutL xs (some a) (some b) = (xs.drop a.toNat).take (b - a).toNat := by
  unfold cutL
  rw [sIx_any _ _ _ h0, sIx_any _ _ _ (by omega)]
  by_cases ha : a.toNat ≤ xs.length
  · rw [Nat.min_eq_left ha]
    by_cases hb : b.toNat ≤ xs.length
    · rw [Nat.min_eq_left hb]
      congr 1
      omega
    · rw [Nat.min_eq_right (by omega), List.take_of_length_le (by rw [List.length_drop]; omega), List.take_of_length_le (by rw [List.length_drop]; omega)]
  · rw [List.drop_of_length_le (i := min a.toNat xs.length) (by omega), List.drop_of_length_le (i := a.toNat) (by omega), List.take_nil, List.take_nil]
theorem sl_any {α : Type} (f : α → D) (xs : List α) (a b : Int) (h0 : 0 ≤ a) (h1 : a ≤ b) : slF (.tuple (xs.map f)) (some a) (some b) = some (.tuple (((xs.drop a.toNat).take (b - a).toNat).map f)) := by
  show some (PyData.tuple (cutL (xs.map f) (some a) (some b))) = _
  rw [cutL_any _ _ _ h0 h1, List.map_take, List.map_drop]
/-! ### refusals -/
theorem within_none (a b : D) : sem_is_within [.none, a, b] = .ok (.bool false) := by
  simp -implicitDefEqProofs only [sem_is_within, b_is_within, ap_sSeq, seqO_nx, seqO_rt, seqO_exc, ap_sIf, ifO_t, ifO_f, ifO_exc, ap_sNx, ap_sSet, ap_sOwn, ap_sRet, ap_sDrop, ap_sAsg, outB_some, bT_nm, bT_tp, bTs_nil, bTs_cons, ap_sRaise, ap_sPar, parO_ok, ap_sFor, ap_sRetV, retO_own, retO_val, ap_sFrz, frzO_own, frzO_val, ap_sApp, ap_sExt, ap_eV, valO_val, ap_eB, borO_val, borO_own, ap_eC, ap_eOp, opO_ok, ap_eUn, ap_eTup, ap_eLst, tupR_ok, lstR_ok, ap_eCB, ap_eCall, callO_ok, callO_exc, ap_gNot, notR_b, ap_gTru, truR_b, truR_list, ap_gAnd, ap_gOr, andO_t, andO_f, orO_t, orO_f, ap_eAnd, ap_eOr, eandO_t, eandO_f, eorO_t, eorO_f, ap_eNot, enotO_b, enotO_list, ap_eIf, eifO_t, eifO_f, ap_eChain, chO_ok, ap_eIsi, isiO_int, isiO_tup, isiO_lst, isiO_bl, isiO_str, isiO_non, isInt_int, isInt_bl, isInt_tup, isInt_lst, isInt_str, isInt_non, isBool_int, isBool_bl, isTup_tup, isTup_lst, isTup_int, isTup_non, isTup_str, isTup_bl, isLst_lst, isLst_tup, f_add, f_sub, f_neg, f_eqI, f_neI, f_eqB, f_neB, f_lt, f_le, f_gt, f_ge, f_is, f_isNot, isNone_int, isNone_tup, isNone_lst, isNone_non, f_len_l, f_len_t, f_len_rd, f_tup_l, f_tup_t, f_max2, f_min2, f_abs, f_sum_l, f_sum_t, f_ix0, f_ix1, f_ix2, f_ix3, f_rev_t, outR_nx, outR_rt, outR_exc, nones0, nonesS, runB_eq, ap_eSl, optI_none, optI_some, optO_int, ap_sWh, ap_iSeq, items_l, items_t, ap_iRange1, ap_iRange2, wipeE_nil, wipeE_cons, evA_nil, evA_cons, RL.cons_ok, RL.cons_exc, RL.bind_ok, RL.bind_exc, RL.out_ok, RL.out_exc, Rs.bind_ok, Rs.bind_exc, Rs.out_ok, Rs.out_exc, Rs.of_some, Option.bind_some, List.getElem?_cons_zero, List.getElem?_cons_succ, List.set_cons_zero, List.set_cons_succ, List.map_cons, List.map_nil, List.cons_append, List.nil_append, List.length_cons, List.length_nil, Nat.reduceAdd, Nat.reduceSub, Nat.reduceLeDiff, Nat.reduceLT, Bool.not_true, Bool.not_false, decide_true, decide_false]
theorem within_bool (c : Bool) (a b : D) : sem_is_within [.bool c, a, b] = .ok (.bool false) := by
  simp -implicitDefEqProofs only [sem_is_within, b_is_within, ap_sSeq, seqO_nx, seqO_rt, seqO_exc, ap_sIf, ifO_t, ifO_f, ifO_exc, ap_sNx, ap_sSet, ap_sOwn, ap_sRet, ap_sDrop, ap_sAsg, outB_some, bT_nm, bT_tp, bTs_nil, bTs_cons, ap_sRaise, ap_sPar, parO_ok, ap_sFor, ap_sRetV, retO_own, retO_val, ap_sFrz, frzO_own, frzO_val, ap_sApp, ap_sExt, ap_eV, valO_val, ap_eB, borO_val, borO_own, ap_eC, ap_eOp, opO_ok, ap_eUn, ap_eTup, ap_eLst, tupR_ok, lstR_ok, ap_eCB, ap_eCall, callO_ok, callO_exc, ap_gNot, notR_b, ap_gTru, truR_b, truR_list, ap_gAnd, ap_gOr, andO_t, andO_f, orO_t, orO_f, ap_eAnd, ap_eOr, eandO_t, eandO_f, eorO_t, eorO_f, ap_eNot, enotO_b, enotO_list, ap_eIf, eifO_t, eifO_f, ap_eChain, chO_ok, ap_eIsi, isiO_int, isiO_tup, isiO_lst, isiO_bl, isiO_str, isiO_non, isInt_int, isInt_bl, isInt_tup, isInt_lst, isInt_str, isInt_non, isBool_int, isBool_bl, isTup_tup, isTup_lst, isTup_int, isTup_non, isTup_str, isTup_bl, isLst_lst, isLst_tup, f_add, f_sub, f_neg, f_eqI, f_neI, f_eqB, f_neB, f_lt, f_le, f_gt, f_ge, f_is, f_isNot, isNone_int, isNone_tup, isNone_lst, isNone_non, f_len_l, f_len_t, f_len_rd, f_tup_l, f_tup_t, f_max2, f_min2, f_abs, f_sum_l, f_sum_t, f_ix0, f_ix1, f_ix2, f_ix3, f_rev_t, outR_nx, outR_rt, outR_exc, nones0, nonesS, runB_eq, ap_eSl, optI_none, optI_some, optO_int, ap_sWh, ap_iSeq, items_l, items_t, ap_iRange1, ap_iRange2, wipeE_nil, wipeE_cons, evA_nil, evA_cons, RL.cons_ok, RL.cons_exc, RL.bind_ok, RL.bind_exc, RL.out_ok, RL.out_exc, Rs.bind_ok, Rs.bind_exc, Rs.out_ok, Rs.out_exc, Rs.of_some, Option.bind_some, List.getElem?_cons_zero, List.getElem?_cons_succ, List.set_cons_zero, List.set_cons_succ, List.map_cons, List.map_nil, List.cons_append, List.nil_append, List.length_cons, List.length_nil, Nat.reduceAdd, Nat.reduceSub, Nat.reduceLeDiff, Nat.reduceLT, Bool.not_true, Bool.not_false, decide_true, decide_false]
theorem lit_bad {s : List (List Int)} {h w : Nat} (S : Sh s h w) (d : D) (hd : sem_is_within [d, .int (-255), .int 255] = .ok (.bool false)) : sem_lit [shD s, d] = .exc "BadShot" [] := by
  simp -implicitDefEqProofs only [sem_lit, b_lit, look_eq S, hd, ap_sSeq, seqO_nx, seqO_rt, seqO_exc, ap_sIf, ifO_t, ifO_f, ifO_exc, ap_sNx, ap_sSet, ap_sOwn, ap_sRet, ap_sDrop, ap_sAsg, outB_some, bT_nm, bT_tp, bTs_nil, bTs_cons, ap_sRaise, ap_sPar, parO_ok, ap_sFor, ap_sRetV, retO_own, retO_val, ap_sFrz, frzO_own, frzO_val, ap_sApp, ap_sExt, ap_eV, valO_val, ap_eB, borO_val, borO_own, ap_eC, ap_eOp, opO_ok, ap_eUn, ap_eTup, ap_eLst, tupR_ok, lstR_ok, ap_eCB, ap_eCall, callO_ok, callO_exc, ap_gNot, notR_b, ap_gTru, truR_b, truR_list, ap_gAnd, ap_gOr, andO_t, andO_f, orO_t, orO_f, ap_eAnd, ap_eOr, eandO_t, eandO_f, eorO_t, eorO_f, ap_eNot, enotO_b, enotO_list, ap_eIf, eifO_t, eifO_f, ap_eChain, chO_ok, ap_eIsi, isiO_int, isiO_tup, isiO_lst, isiO_bl, isiO_str, isiO_non, isInt_int, isInt_bl, isInt_tup, isInt_lst, isInt_str, isInt_non, isBool_int, isBool_bl, isTup_tup, isTup_lst, isTup_int, isTup_non, isTup_str, isTup_bl, isLst_lst, isLst_tup, f_add, f_sub, f_neg, f_eqI, f_neI, f_eqB, f_neB, f_lt, f_le, f_gt, f_ge, f_is, f_isNot, isNone_int, isNone_tup, isNone_lst, isNone_non, f_len_l, f_len_t, f_len_rd, f_tup_l, f_tup_t, f_max2, f_min2, f_abs, f_sum_l, f_sum_t, f_ix0, f_ix1, f_ix2, f_ix3, f_rev_t, outR_nx, outR_rt, outR_exc, nones0, nonesS, runB_eq, ap_eSl, optI_none, optI_some, optO_int, ap_sWh, ap_iSeq, items_l, items_t, ap_iRange1, ap_iRange2, wipeE_nil, wipeE_cons, evA_nil, evA_cons, RL.cons_ok, RL.cons_exc, RL.bind_ok, RL.bind_exc, RL.out_ok, RL.out_exc, Rs.bind_ok, Rs.bind_exc, Rs.out_ok, Rs.out_exc, Rs.of_some, Option.bind_some, List.getElem?_cons_zero, List.getElem?_cons_succ, List.set_cons_zero, List.set_cons_succ, List.map_cons, List.map_nil, List.cons_append, List.nil_append, List.length_cons, List.length_nil, Nat.reduceAdd, Nat.reduceSub, Nat.reduceLeDiff, Nat.reduceLT, Bool.not_true, Bool.not_false, decide_true, decide_false]
theorem cut_badx {s : List (List Int)} {h w : Nat} (S : Sh s h w) (x y wide high : D) (hx : sem_is_within [x, .int 0, .int ((w : Int) - 1)] = .ok (.bool false)) : sem_cut_out [shD s, x, y, wide, high] = .exc "BadWindow" [] := by
  simp -implicitDefEqProofs only [sem_cut_out, b_cut_out, look_eq S, size_of_eq S, hx, ap_sSeq, seqO_nx, seqO_rt, seqO_exc, ap_sIf, ifO_t, ifO_f, ifO_exc, ap_sNx, ap_sSet, ap_sOwn, ap_sRet, ap_sDrop, ap_sAsg, outB_some, bT_nm, bT_tp, bTs_nil, bTs_cons, ap_sRaise, ap_sPar, parO_ok, ap_sFor, ap_sRetV, retO_own, retO_val, ap_sFrz, frzO_own, frzO_val, ap_sApp, ap_sExt, ap_eV, valO_val, ap_eB, borO_val, borO_own, ap_eC, ap_eOp, opO_ok, ap_eUn, ap_eTup, ap_eLst, tupR_ok, lstR_ok, ap_eCB, ap_eCall, callO_ok, callO_exc, ap_gNot, notR_b, ap_gTru, truR_b, truR_list, ap_gAnd, ap_gOr, andO_t, andO_f, orO_t, orO_f, ap_eAnd, ap_eOr, eandO_t, eandO_f, eorO_t, eorO_f, ap_eNot, enotO_b, enotO_list, ap_eIf, eifO_t, eifO_f, ap_eChain, chO_ok, ap_eIsi, isiO_int, isiO_tup, isiO_lst, isiO_bl, isiO_str, isiO_non, isInt_int, isInt_bl, isInt_tup, isInt_lst, isInt_str, isInt_non, isBool_int, isBool_bl, isTup_tup, isTup_lst, isTup_int, isTup_non, isTup_str, isTup_bl, isLst_lst, isLst_tup, f_add, f_sub, f_neg, f_eqI, f_neI, f_eqB, f_neB, f_lt, f_le, f_gt, f_ge, f_is, f_isNot, isNone_int, isNone_tup, isNone_lst, isNone_non, f_len_l, f_len_t, f_len_rd, f_tup_l, f_tup_t, f_max2, f_min2, f_abs, f_sum_l, f_sum_t, f_ix0, f_ix1, f_ix2, f_ix3, f_rev_t, outR_nx, outR_rt, outR_exc, nones0, nonesS, runB_eq, ap_eSl, optI_none, optI_some, optO_int, ap_sWh, ap_iSeq, items_l, items_t, ap_iRange1, ap_iRange2, wipeE_nil, wipeE_cons, evA_nil, evA_cons, RL.cons_ok, RL.cons_exc, RL.bind_ok, RL.bind_exc, RL.out_ok, RL.out_exc, Rs.bind_ok, Rs.bind_exc, Rs.out_ok, Rs.out_exc, Rs.of_some, Option.bind_some, List.getElem?_cons_zero, List.getElem?_cons_succ, List.set_cons_zero, List.set_cons_succ, List.map_cons, List.map_nil, List.cons_append, List.nil_append, List.length_cons, List.length_nil, Nat.reduceAdd, Nat.reduceSub, Nat.reduceLeDiff, Nat.reduceLT, Bool.not_true, Bool.not_false, decide_true, decide_false]
theorem cut_bad {s : List (List Int)} {h w : Nat} (S : Sh s h w) (x y wide high : Int) (h0 : 0 ≤ x) (h1 : 0 ≤ y) (h2 : 0 ≤ wide) (h3 : 0 ≤ high) (hb : ¬ (x + wide ≤ w ∧ y + high ≤ h ∧ 0 < wide ∧ 0 < high)) : sem_cut_out [shD s, .int x, .int y, .int wide, .int high] = .exc "BadWindow" [] := by
  by_cases c1 : 0 ≤ x ∧ x ≤ (w : Int) - 1
  · by_cases c2 : 0 ≤ y ∧ y ≤ (h : Int) - 1
    · by_cases c3 : 1 ≤ wide ∧ wide ≤ (w : Int) - x
      · have c4 : ¬ (1 ≤ high ∧ high ≤ (h : Int) - y) := by omega
        simp -implicitDefEqProofs only [sem_cut_out, b_cut_out, look_eq S, size_of_eq S, is_within_eq, c1, c2, c3, c4, and_self, ap_sSeq, seqO_nx, seqO_rt, seqO_exc, ap_sIf, ifO_t, ifO_f, ifO_exc, ap_sNx, ap_sSet, ap_sOwn, ap_sRet, ap_sDrop, ap_sAsg, outB_some, bT_nm, bT_tp, bTs_nil, bTs_cons, ap_sRaise, ap_sPar, parO_ok, ap_sFor, ap_sRetV, retO_own, retO_val, ap_sFrz, frzO_own, frzO_val, ap_sApp, ap_sExt, ap_eV, valO_val, ap_eB, borO_val, borO_own, ap_eC, ap_eOp, opO_ok, ap_eUn, ap_eTup, ap_eLst, tupR_ok, lstR_ok, ap_eCB, ap_eCall, callO_ok, callO_exc, ap_gNot, notR_b, ap_gTru, truR_b, truR_list, ap_gAnd, ap_gOr, andO_t, andO_f, orO_t, orO_f, ap_eAnd, ap_eOr, eandO_t, eandO_f, eorO_t, eorO_f, ap_eNot, enotO_b, enotO_list, ap_eIf, eifO_t, eifO_f, ap_eChain, chO_ok, ap_eIsi, isiO_int, isiO_tup, isiO_lst, isiO_bl, isiO_str, isiO_non, isInt_int, isInt_bl, isInt_tup, isInt_lst, isInt_str, isInt_non, isBool_int, isBool_bl, isTup_tup, isTup_lst, isTup_int, isTup_non, isTup_str, isTup_bl, isLst_lst, isLst_tup, f_add, f_sub, f_neg, f_eqI, f_neI, f_eqB, f_neB, f_lt, f_le, f_gt, f_ge, f_is, f_isNot, isNone_int, isNone_tup, isNone_lst, isNone_non, f_len_l, f_len_t, f_len_rd, f_tup_l, f_tup_t, f_max2, f_min2, f_abs, f_sum_l, f_sum_t, f_ix0, f_ix1, f_ix2, f_ix3, f_rev_t, outR_nx, outR_rt, outR_exc, nones0, nonesS, runB_eq, ap_eSl, optI_none, optI_some, optO_int, ap_sWh, ap_iSeq, items_l, items_t, ap_iRange1, ap_iRange2, wipeE_nil, wipeE_cons, evA_nil, evA_cons, RL.cons_ok, RL.cons_exc, RL.bind_ok, RL.bind_exc, RL.out_ok, RL.out_exc, Rs.bind_ok, Rs.bind_exc, Rs.out_ok, Rs.out_exc, Rs.of_some, Option.bind_some, List.getElem?_cons_zero, List.getElem?_cons_succ, List.set_cons_zero, List.set_cons_succ, List.map_cons, List.map_nil, List.cons_append, List.nil_append, List.length_cons, List.length_nil, Nat.reduceAdd, Nat.reduceSub, Nat.reduceLeDiff, Nat.reduceLT, Bool.not_true, Bool.not_false, decide_true, decide_false]
      · simp -implicitDefEqProofs only [sem_cut_out, b_cut_out, look_eq S, size_of_eq S, is_within_eq, c1, c2, c3, and_self, ap_sSeq, seqO_nx, seqO_rt, seqO_exc, ap_sIf, ifO_t, ifO_f, ifO_exc, ap_sNx, ap_sSet, ap_sOwn, ap_sRet, ap_sDrop, ap_sAsg, outB_some, bT_nm, bT_tp, bTs_nil, bTs_cons, ap_sRaise, ap_sPar, parO_ok, ap_sFor, ap_sRetV, retO_own, retO_val, ap_sFrz, frzO_own, frzO_val, ap_sApp, ap_sExt, ap_eV, valO_val, ap_eB, borO_val, borO_own, ap_eC, ap_eOp, opO_ok, ap_eUn, ap_eTup, ap_eLst, tupR_ok, lstR_ok, ap_eCB, ap_eCall, callO_ok, callO_exc, ap_gNot, notR_b, ap_gTru, truR_b, truR_list, ap_gAnd, ap_gOr, andO_t, andO_f, orO_t, orO_f, ap_eAnd, ap_eOr, eandO_t, eandO_f, eorO_t, eorO_f, ap_eNot, enotO_b, enotO_list, ap_eIf, eifO_t, eifO_f, ap_eChain, chO_ok, ap_eIsi, isiO_int, isiO_tup, isiO_lst, isiO_bl, isiO_str, isiO_non, isInt_int, isInt_bl, isInt_tup, isInt_lst, isInt_str, isInt_non, isBool_int, isBool_bl, isTup_tup, isTup_lst, isTup_int, isTup_non, isTup_str, isTup_bl, isLst_lst, isLst_tup, f_add, f_sub, f_neg, f_eqI, f_neI, f_eqB, f_neB, f_lt, f_le, f_gt, f_ge, f_is, f_isNot, isNone_int, isNone_tup, isNone_lst, isNone_non, f_len_l, f_len_t, f_len_rd, f_tup_l, f_tup_t, f_max2, f_min2, f_abs, f_sum_l, f_sum_t, f_ix0, f_ix1, f_ix2, f_ix3, f_rev_t, outR_nx, outR_rt, outR_exc, nones0, nonesS, runB_eq, ap_eSl, optI_none, optI_some, optO_int, ap_sWh, ap_iSeq, items_l, items_t, ap_iRange1, ap_iRange2, wipeE_nil, wipeE_cons, evA_nil, evA_cons, RL.cons_ok, RL.cons_exc, RL.bind_ok, RL.bind_exc, RL.out_ok, RL.out_exc, Rs.bind_ok, Rs.bind_exc, Rs.out_ok, Rs.out_exc, Rs.of_some, Option.bind_some, List.getElem?_cons_zero, List.getElem?_cons_succ, List.set_cons_zero, List.set_cons_succ, List.map_cons, List.map_nil, List.cons_append, List.nil_append, List.length_cons, List.length_nil, Nat.reduceAdd, Nat.reduceSub, Nat.reduceLeDiff, Nat.reduceLT, Bool.not_true, Bool.not_false, decide_true, decide_false]
    · simp -implicitDefEqProofs only [sem_cut_out, b_cut_out, look_eq S, size_of_eq S, is_within_eq, c1, c2, and_self, ap_sSeq, seqO_nx, seqO_rt, seqO_exc, ap_sIf, ifO_t, ifO_f, ifO_exc, ap_sNx, ap_sSet, ap_sOwn, ap_sRet, ap_sDrop, ap_sAsg, outB_some, bT_nm, bT_tp, bTs_nil, bTs_cons, ap_sRaise, ap_sPar, parO_ok, ap_sFor, ap_sRetV, retO_own, retO_val, ap_sFrz, frzO_own, frzO_val, ap_sApp, ap_sExt, ap_eV, valO_val, ap_eB, borO_val, borO_own, ap_eC, ap_eOp, opO_ok, ap_eUn, ap_eTup, ap_eLst, tupR_ok, lstR_ok, ap_eCB, ap_eCall, callO_ok, callO_exc, ap_gNot, notR_b, ap_gTru, truR_b, truR_list, ap_gAnd, ap_gOr, andO_t, andO_f, orO_t, orO_f, ap_eAnd, ap_eOr, eandO_t, eandO_f, eorO_t, eorO_f, ap_eNot, enotO_b, enotO_list, ap_eIf, eifO_t, eifO_f, ap_eChain, chO_ok, ap_eIsi, isiO_int, isiO_tup, isiO_lst, isiO_bl, isiO_str, isiO_non, isInt_int, isInt_bl, isInt_tup, isInt_lst, isInt_str, isInt_non, isBool_int, isBool_bl, isTup_tup, isTup_lst, isTup_int, isTup_non, isTup_str, isTup_bl, isLst_lst, isLst_tup, f_add, f_sub, f_neg, f_eqI, f_neI, f_eqB, f_neB, f_lt, f_le, f_gt, f_ge, f_is, f_isNot, isNone_int, isNone_tup, isNone_lst, isNone_non, f_len_l, f_len_t, f_len_rd, f_tup_l, f_tup_t, f_max2, f_min2, f_abs, f_sum_l, f_sum_t, f_ix0, f_ix1, f_ix2, f_ix3, f_rev_t, outR_nx, outR_rt, outR_exc, nones0, nonesS, runB_eq, ap_eSl, optI_none, optI_some, optO_int, ap_sWh, ap_iSeq, items_l, items_t, ap_iRange1, ap_iRange2, wipeE_nil, wipeE_cons, evA_nil, evA_cons, RL.cons_ok, RL.cons_exc, RL.bind_ok, RL.bind_exc, RL.out_ok, RL.out_exc, Rs.bind_ok, Rs.bind_exc, Rs.out_ok, Rs.out_exc, Rs.of_some, Option.bind_some, List.getElem?_cons_zero, List.getElem?_cons_succ, List.set_cons_zero, List.set_cons_succ, List.map_cons, List.map_nil, List.cons_append, List.nil_append, List.length_cons, List.length_nil, Nat.reduceAdd, Nat.reduceSub, Nat.reduceLeDiff, Nat.reduceLT, Bool.not_true, Bool.not_false, decide_true, decide_false]
  · simp -implicitDefEqProofs only [sem_cut_out, b_cut_out, look_eq S, size_of_eq S, is_within_eq, c1, ap_sSeq, seqO_nx, seqO_rt, seqO_exc, ap_sIf, ifO_t, ifO_f, ifO_exc, ap_sNx, ap_sSet, ap_sOwn, ap_sRet, ap_sDrop, ap_sAsg, outB_some, bT_nm, bT_tp, bTs_nil, bTs_cons, ap_sRaise, ap_sPar, parO_ok, ap_sFor, ap_sRetV, retO_own, retO_val, ap_sFrz, frzO_own, frzO_val, ap_sApp, ap_sExt, ap_eV, valO_val, ap_eB, borO_val, borO_own, ap_eC, ap_eOp, opO_ok, ap_eUn, ap_eTup, ap_eLst, tupR_ok, lstR_ok, ap_eCB, ap_eCall, callO_ok, callO_exc, ap_gNot, notR_b, ap_gTru, truR_b, truR_list, ap_gAnd, ap_gOr, andO_t, andO_f, orO_t, orO_f, ap_eAnd, ap_eOr, eandO_t, eandO_f, eorO_t, eorO_f, ap_eNot, enotO_b, enotO_list, ap_eIf, eifO_t, eifO_f, ap_eChain, chO_ok, ap_eIsi, isiO_int, isiO_tup, isiO_lst, isiO_bl, isiO_str, isiO_non, isInt_int, isInt_bl, isInt_tup, isInt_lst, isInt_str, isInt_non, isBool_int, isBool_bl, isTup_tup, isTup_lst, isTup_int, isTup_non, isTup_str, isTup_bl, isLst_lst, isLst_tup, f_add, f_sub, f_neg, f_eqI, f_neI, f_eqB, f_neB, f_lt, f_le, f_gt, f_ge, f_is, f_isNot, isNone_int, isNone_tup, isNone_lst, isNone_non, f_len_l, f_len_t, f_len_rd, f_tup_l, f_tup_t, f_max2, f_min2, f_abs, f_sum_l, f_sum_t, f_ix0, f_ix1, f_ix2, f_ix3, f_rev_t, outR_nx, outR_rt, outR_exc, nones0, nonesS, runB_eq, ap_eSl, optI_none, optI_some, optO_int, ap_sWh, ap_iSeq, items_l, items_t, ap_iRange1, ap_iRange2, wipeE_nil, wipeE_cons, evA_nil, evA_cons, RL.cons_ok, RL.cons_exc, RL.bind_ok, RL.bind_exc, RL.out_ok, RL.out_exc, Rs.bind_ok, Rs.bind_exc, Rs.out_ok, Rs.out_exc, Rs.of_some, Option.bind_some, List.getElem?_cons_zero, List.getElem?_cons_succ, List.set_cons_zero, List.set_cons_succ, List.map_cons, List.map_nil, List.cons_append, List.nil_append, List.length_cons, List.length_nil, Nat.reduceAdd, Nat.reduceSub, Nat.reduceLeDiff, Nat.reduceLT, Bool.not_true, Bool.not_false, decide_true, decide_false]
/-! ### levels counted -/
def cntL (L : List Int) : List (Int × Int) := (upI L).map fun v => (v, ((L.count v : Nat) : Int))
theorem getI_map (f : Int → Int) (u : Int) : ∀ ks : List Int, getI (ks.map fun v => (v, f v)) u = if u ∈ ks then some (f u) else none
  | [] => by simp [getI]
  | k :: ks => by
    have ih := getI_map f u ks
    unfold getI at ih ⊢
    rw [List.map_cons, List.find?_cons]
    by_cases e : k = u
    · subst e
      simp
    · have : (k == u) = false := by simpa using e
      simp -implicitDefEqProofs only [this]
      rw [ih]
      have : u ∈ k :: ks ↔ u ∈ ks := by simp [Ne.symm e]
      simp -implicitDefEqProofs only [this]
theorem len_ins (k : Int) : ∀ xs : List Int, (insI k xs).length ≤ xs.length + 1
  | [] => by simp [insI]
  | x :: xs => by
    have := len_ins k xs
    unfold insI
    split
    · simp
    · split
      · simp
      · simp -implicitDefEqProofs only [List.length_cons]
        omega
theorem len_up : ∀ L : List Int, (upI L).length ≤ L.length
  | [] => by simp [upI]
  | k :: L => by
    have := len_up L
    have := len_ins k (upI L)
    show (insI k (upI L)).length ≤ _
    rw [List.length_cons]
    omega
theorem cnt_cntL (L : List Int) : Cnt L (cntL L) := by
  refine ⟨?_, fun v => ?_, ?_⟩
  · unfold cntL
    rw [List.map_map]
    have : ((fun q : Int × Int => q.1) ∘ fun v => (v, ((L.count v : Nat) : Int))) = id := rfl
    rw [this, List.map_id]
    exact (up_upI L).imp fun h => by omega
  · unfold cntL
    rw [getI_map]
    simp -implicitDefEqProofs only [mem_upI]
  · unfold cntL
    rw [List.length_map]
    exact len_up L
theorem cnt_sorted (L : List Int) : (cntL L).mergeSort leP = cntL L := by
  refine List.mergeSort_of_pairwise ?_
  unfold cntL
  refine List.Pairwise.map _ (fun a b h => ?_) (up_upI L)
  rw [leP_iff]
  exact .inl h
end VVlaw

set_option Elab.async false
set_option linter.all false
set_option maxRecDepth 100000
set_option maxHeartbeats 4000000
namespace VVlaw
open PySem PySem.Spec L2 VV
open PyProof.Rows hiding St

end VVlaw

set_option Elab.async false
set_option linter.all false
set_option maxRecDepth 100000
set_option maxHeartbeats 4000000
namespace VVlaw
open PySem PySem.Spec L2 VV
open PyProof.Rows hiding St
def sub_BadShot : Str → Option Bool := fun c => if c = "BadShot" then some true else if c = "BadWindow" then some false else none
def sub_BadWindow : Str → Option Bool := fun c => if c = "BadShot" then some false else if c = "BadWindow" then some true else none
def b__law_lit_refused : SF := (sSeq (sTry1 sub_BadShot (sDrop (eCall sem_lit [(eV 0), (eV 1)])) (sRet (eC (.str "shot")))) (sRet (eC (.str "none"))))
def sem__law_lit_refused : List D → Rs := runB 2 2 b__law_lit_refused
def b__law_cut_told : SF := (sTryAs 5 sub_BadWindow (sRet (eCall sem_cut_out [(eV 0), (eV 1), (eV 2), (eV 3), (eV 4)])) (fun _ => (sRet (eIf (gAnd (gTru (eC (.bool true))) (gNot (gTru (eC (.bool false))))) (eC (.str "window")) (eC (.str "other"))))))
def sem__law_cut_told : List D → Rs := runB 5 6 b__law_cut_told
def lp_law_1 : SF := (sApp 5 (eCB tupF [(eLc [12] (iRange3 [(eOp subF (eV 3) (eC (.int 1))), (eUn negF (eC (.int 1))), (eUn negF (eC (.int 1)))]) (.nm 12) (eC (.bool true)) (eOp ixF (eOp ixF (eV 2) (eV 12)) (eV 6)))]))
def lp_law_2 : SF := (sSet 9 (eOp addF (eV 9) (eCB lstF [(eV 10)])))
def b_law : SF := (sSeq (sSet 1 (eCall sem__law_row [(eV 0), (eC (.int 2))])) (sSeq (sSet 2 (eCall sem__law_shot [(eV 1), (eC (.int 5)), (eOp ixF (eV 1) (eC (.int 0)))])) (sSeq (sPar 3 4 [(eCB lenF [(eV 2)]), (eCB lenF [(eOp ixF (eV 2) (eC (.int 0)))])]) (sSeq (sOwn 5 (eLst [])) (sSeq (sFor (iRange1 [(eV 4)]) (.nm 6) lp_law_1) (sSeq (sIf (gOr (eOp neF (eCall sem_turned [(eV 2)]) (eCB tupF [(eB 5)])) (eOp neF (eCall sem_mirrored [(eV 2)]) (eCB tupF [(eLc [10] (iSeq (eV 2)) (.nm 10) (eC (.bool true)) (eUn revF (eV 10)))]))) (sRet (eC (.bool false))) sNx) (sSeq (sSet 7 (eOp subF (eOp modF (eOp mulF (eOp ixF (eV 1) (eC (.int 1))) (eC (.int 3))) (eC (.int 511))) (eC (.int 255)))) (sSeq (sSet 8 (eCB tupF [(eLc [10] (iSeq (eV 2)) (.nm 10) (eC (.bool true)) (eCB tupF [(eLc [16] (iSeq (eV 10)) (.nm 16) (eC (.bool true)) (eCB max2F [(eC (.int 0)), (eCB min2F [(eC (.int 255)), (eOp addF (eV 16) (eV 7))])]))]))])) (sSeq (sIf (gOr (eOp neF (eCall sem_lit [(eV 2), (eV 7)]) (eV 8)) (eOp neF (eCall sem__law_lit_refused [(eV 2), (eOp ixF (eLst [(eC (.int 256)), (eUn negF (eC (.int 256))), (eC .none), (eC (.bool true))]) (eOp modF (eOp ixF (eV 1) (eC (.int 2))) (eC (.int 4))))]) (eC (.str "shot")))) (sRet (eC (.bool false))) sNx) (sSeq (sSet 9 (eLst [])) (sSeq (sFor (iSeq (eV 2)) (.nm 10) lp_law_2) (sSeq (sIf (eOp neF (eCall sem_mean [(eV 2)]) (eCall sem__law_least [(eCB sumF [(eV 9)]), (eCB lenF [(eV 9)])])) (sRet (eC (.bool false))) sNx) (sSeq (sIf (eOp neF (eCall sem_spread [(eV 2)]) (eLc [16] (iSeq (eUn sortSetF (eV 9))) (.nm 16) (eC (.bool true)) (eTup [(eV 16), (eCnt (eV 9) (eV 16))]))) (sRet (eC (.bool false))) sNx) (sSeq (sSet 11 (eTup [(eOp modF (eOp ixF (eV 1) (eC (.int 40))) (eC (.int 6))), (eOp modF (eOp ixF (eV 1) (eC (.int 41))) (eC (.int 6))), (eOp modF (eOp ixF (eV 1) (eC (.int 42))) (eC (.int 6))), (eOp modF (eOp ixF (eV 1) (eC (.int 43))) (eC (.int 6)))])) (sSeq (sAsg (.tp [(.nm 6), (.nm 12), (.nm 13), (.nm 14)]) (eV 11)) (sSeq (sIf (eOp eqF (eOp modF (eOp ixF (eV 1) (eC (.int 44))) (eC (.int 6))) (eC (.int 0))) (sRet (eOp eqF (eCall sem__law_cut_told [(eV 2), (eOp ixF (eLst [(eC .none), (eUn negF (eC (.int 1))), (eC (.bool true))]) (eOp modF (eOp ixF (eV 1) (eC (.int 45))) (eC (.int 3)))), (eV 12), (eV 13), (eV 14)]) (eC (.str "window")))) sNx) (sSeq (sSet 15 (eAnd (eOp leF (eOp addF (eV 6) (eV 13)) (eV 4)) (eAnd (eOp leF (eOp addF (eV 12) (eV 14)) (eV 3)) (eAnd (eOp gtF (eV 13) (eC (.int 0))) (eOp gtF (eV 14) (eC (.int 0))))))) (sSeq (sSet 5 (eCB tupF [(eLc [10] (iSeq (eSl (eV 2) (some (eV 12)) (some (eOp addF (eV 12) (eV 14))))) (.nm 10) (eC (.bool true)) (eSl (eV 10) (some (eV 6)) (some (eOp addF (eV 6) (eV 13)))))])) (sFrz 5 (sRet (eOp eqF (eCall sem__law_cut_told [(eV 2), (eV 6), (eV 12), (eV 13), (eV 14)]) (eIf (gTru (eV 15)) (eV 5) (eC (.str "window"))))))))))))))))))))))))
def sem_law : List D → Rs := runB 1 17 b_law
end VVlaw

set_option Elab.async false
set_option linter.all false
set_option maxRecDepth 100000
set_option maxHeartbeats 8000000
/-! K02l: the law k02. -/
namespace VVlaw
open PySem PySem.Spec L2 VV
open PyProof.Rows hiding St
theorem row_ly (r : List Int) : Ly 1 (rowD r) := Ly.tuple fun d hd => by
  obtain ⟨v, _, rfl⟩ := List.mem_map.mp hd
  exact Ly.int 0 v
theorem sh_ly (s : List (List Int)) : Ly 2 (shD s) := Ly.tuple fun d hd => by
  obtain ⟨r, _, rfl⟩ := List.mem_map.mp hd
  exact row_ly r
theorem ne_sh (s : List (List Int)) : neF (shD s) (shD s) = some (.bool false) := f_ne_self (sh_ly s) (by decide)
theorem eq_sh (s : List (List Int)) : eqF (shD s) (shD s) = some (.bool true) := f_eq_self (sh_ly s) (by decide)
theorem pair_ly (i j : Int) : Ly 1 (.tuple [.int i, .int j]) := Ly.tuple fun d hd => by
  rcases List.mem_cons.mp hd with rfl | hd
  · exact Ly.int 0 _
  · rw [List.mem_singleton.mp hd]
    exact Ly.int 0 _
theorem ne_fr (i j : Int) : neF (frD i j) (frD i j) = some (.bool false) := f_ne_self (pair_ly _ _) (by decide)
theorem enc_ly (ps : List (Int × Int)) : Ly 2 (.list (ps.map encP)) := Ly.list fun d hd => by
  obtain ⟨b, _, rfl⟩ := List.mem_map.mp hd
  exact pair_ly _ _
theorem ne_enc (ps : List (Int × Int)) : neF (.list (ps.map encP)) (.list (ps.map encP)) = some (.bool false) := f_ne_self (enc_ly ps) (by decide)
def dueL (s : List (List Int)) (h k : Nat) : List (List Int) := (rangeI 0 k).map fun c => (rangeI 0 h).map fun a => cell s (h - 1 - a) c
theorem rangeI_succ (lo : Int) (n : Nat) : rangeI lo (n + 1) = rangeI lo n ++ [lo + n] := by
  unfold rangeI
  rw [List.range_succ, List.map_append]
  rfl
/-- the rows, turned, made by the law -/
theorem due_go {s : List (List Int)} {h w : Nat} (S : Sh s h w) (z0 z1 : Option Sl) : ∃ o6 : Option Sl, forGo (.nm 6) lp_law_1 (rangeD 0 w) [z0, z1, some (.val (shD s)), some (.val (.int (h : Int))), some (.val (.int (w : Int))), some (.own (.list [])), none, none, none, none, none, none, none, none, none, none, none] =
    .nx [z0, z1, some (.val (shD s)), some (.val (.int (h : Int))), some (.val (.int (w : Int))), some (.own (.list ((dueL s h w).map rowD))), o6, none, none, none, none, none, none, none, none, none, none] := by
  have h1 := S.h1; have h2 := S.h2; have w1 := S.w1; have w2 := S.w2
  have dr := down_range h h1 (by omega)
  obtain ⟨ρ', e, o6, rfl⟩ := forGo_rng (i := 6) (lo := 0) (n := w) (f := lp_law_1)
    (fun k ρ => ∃ o6 : Option Sl, ρ = [z0, z1, some (.val (shD s)), some (.val (.int (h : Int))), some (.val (.int (w : Int))), some (.own (.list ((dueL s h k).map rowD))), o6, none, none, none, none, none, none, none, none, none, none])
    (ρ := [z0, z1, some (.val (shD s)), some (.val (.int (h : Int))), some (.val (.int (w : Int))), some (.own (.list [])), none, none, none, none, none, none, none, none, none, none, none]) ⟨none, rfl⟩ (by
      rintro k ρ hk ⟨o6, rfl⟩
      have hlen : ((dueL s h k).map rowD).length < 16777216 := by rw [List.length_map, dueL, List.length_map, rangeI_length]; omega
      simp -implicitDefEqProofs only [lp_law_1, ap_sSeq, seqO_nx, seqO_rt, seqO_exc, ap_sIf, ifO_t, ifO_f, ifO_exc, ap_sNx, ap_sSet, ap_sOwn, ap_sRet, ap_sDrop, ap_sAsg, outB_some, bT_nm, bT_tp, bTs_nil, bTs_cons, ap_sRaise, ap_sPar, parO_ok, ap_sFor, ap_sRetV, retO_own, retO_val, ap_sFrz, frzO_own, frzO_val, ap_sApp, ap_sExt, ap_eV, valO_val, ap_eB, borO_val, borO_own, ap_eC, ap_eOp, opO_ok, ap_eUn, ap_eTup, ap_eLst, tupR_ok, lstR_ok, ap_eCB, ap_eCall, callO_ok, callO_exc, ap_gNot, notR_b, ap_gTru, truR_b, truR_list, ap_gAnd, ap_gOr, andO_t, andO_f, orO_t, orO_f, ap_eAnd, ap_eOr, eandO_t, eandO_f, eorO_t, eorO_f, ap_eNot, enotO_b, enotO_list, ap_eIf, eifO_t, eifO_f, ap_eChain, chO_ok, ap_eIsi, isiO_int, isiO_tup, isiO_lst, isiO_bl, isiO_str, isiO_non, isInt_int, isInt_bl, isInt_tup, isInt_lst, isInt_str, isInt_non, isBool_int, isBool_bl, isTup_tup, isTup_lst, isTup_int, isTup_non, isTup_str, isTup_bl, isLst_lst, isLst_tup, f_add, f_sub, f_neg, f_eqI, f_neI, f_eqB, f_neB, f_lt, f_le, f_gt, f_ge, f_is, f_isNot, isNone_int, isNone_tup, isNone_lst, isNone_non, f_len_l, f_len_t, f_len_rd, f_tup_l, f_tup_t, f_max2, f_min2, f_abs, f_sum_l, f_sum_t, f_ix0, f_ix1, f_ix2, f_ix3, f_rev_t, outR_nx, outR_rt, outR_exc, nones0, nonesS, runB_eq, ap_eSl, optI_none, optI_some, optO_int, ap_sWh, ap_iSeq, items_l, items_t, ap_iRange1, ap_iRange2, wipeE_nil, wipeE_cons, evA_nil, evA_cons, RL.cons_ok, RL.cons_exc, RL.bind_ok, RL.bind_exc, RL.out_ok, RL.out_exc, Rs.bind_ok, Rs.bind_exc, Rs.out_ok, Rs.out_exc, Rs.of_some, Option.bind_some, List.getElem?_cons_zero, List.getElem?_cons_succ, List.set_cons_zero, List.set_cons_succ, List.map_cons, List.map_nil, List.cons_append, List.nil_append, List.length_cons, List.length_nil, Nat.reduceAdd, Nat.reduceSub, Nat.reduceLeDiff, Nat.reduceLT, Bool.not_true, Bool.not_false, decide_true, decide_false]
      rw [eLc_mapA ((rangeI 0 h).map fun a => (h : Int) - 1 - a) PyData.int (fun y => PyData.int (cell s y (0 + (k : Int)))) (by
          simp -implicitDefEqProofs only [iRange3, RL.items, dr, ap_sSeq, seqO_nx, seqO_rt, seqO_exc, ap_sIf, ifO_t, ifO_f, ifO_exc, ap_sNx, ap_sSet, ap_sOwn, ap_sRet, ap_sDrop, ap_sAsg, outB_some, bT_nm, bT_tp, bTs_nil, bTs_cons, ap_sRaise, ap_sPar, parO_ok, ap_sFor, ap_sRetV, retO_own, retO_val, ap_sFrz, frzO_own, frzO_val, ap_sApp, ap_sExt, ap_eV, valO_val, ap_eB, borO_val, borO_own, ap_eC, ap_eOp, opO_ok, ap_eUn, ap_eTup, ap_eLst, tupR_ok, lstR_ok, ap_eCB, ap_eCall, callO_ok, callO_exc, ap_gNot, notR_b, ap_gTru, truR_b, truR_list, ap_gAnd, ap_gOr, andO_t, andO_f, orO_t, orO_f, ap_eAnd, ap_eOr, eandO_t, eandO_f, eorO_t, eorO_f, ap_eNot, enotO_b, enotO_list, ap_eIf, eifO_t, eifO_f, ap_eChain, chO_ok, ap_eIsi, isiO_int, isiO_tup, isiO_lst, isiO_bl, isiO_str, isiO_non, isInt_int, isInt_bl, isInt_tup, isInt_lst, isInt_str, isInt_non, isBool_int, isBool_bl, isTup_tup, isTup_lst, isTup_int, isTup_non, isTup_str, isTup_bl, isLst_lst, isLst_tup, f_add, f_sub, f_neg, f_eqI, f_neI, f_eqB, f_neB, f_lt, f_le, f_gt, f_ge, f_is, f_isNot, isNone_int, isNone_tup, isNone_lst, isNone_non, f_len_l, f_len_t, f_len_rd, f_tup_l, f_tup_t, f_max2, f_min2, f_abs, f_sum_l, f_sum_t, f_ix0, f_ix1, f_ix2, f_ix3, f_rev_t, outR_nx, outR_rt, outR_exc, nones0, nonesS, runB_eq, ap_eSl, optI_none, optI_some, optO_int, ap_sWh, ap_iSeq, items_l, items_t, ap_iRange1, ap_iRange2, wipeE_nil, wipeE_cons, evA_nil, evA_cons, RL.cons_ok, RL.cons_exc, RL.bind_ok, RL.bind_exc, RL.out_ok, RL.out_exc, Rs.bind_ok, Rs.bind_exc, Rs.out_ok, Rs.out_exc, Rs.of_some, Option.bind_some, List.getElem?_cons_zero, List.getElem?_cons_succ, List.set_cons_zero, List.set_cons_succ, List.map_cons, List.map_nil, List.cons_append, List.nil_append, List.length_cons, List.length_nil, Nat.reduceAdd, Nat.reduceSub, Nat.reduceLeDiff, Nat.reduceLT, Bool.not_true, Bool.not_false, decide_true, decide_false]) (by rw [List.length_map, rangeI_length]; omega) (by
        intro y hy
        obtain ⟨a, ha, rfl⟩ := List.mem_map.mp hy
        have ha' := mem_rangeI.mp ha
        have i1 : ixF (shD s) (.int ((h : Int) - 1 - a)) = some (rowD (rw' s ((h : Int) - 1 - a))) := ix_sh s _ (by omega) (by rw [S.len]; omega)
        have lr := S.rlen (y := (h : Int) - 1 - a) (by omega) (by omega)
        have i2 : ixF (rowD (rw' s ((h : Int) - 1 - a))) (.int (0 + (k : Int))) = some (.int (cell s ((h : Int) - 1 - a) (0 + (k : Int)))) := ix_row _ _ (by omega) (by omega)
        simp -implicitDefEqProofs only [i1, i2, ap_sSeq, seqO_nx, seqO_rt, seqO_exc, ap_sIf, ifO_t, ifO_f, ifO_exc, ap_sNx, ap_sSet, ap_sOwn, ap_sRet, ap_sDrop, ap_sAsg, outB_some, bT_nm, bT_tp, bTs_nil, bTs_cons, ap_sRaise, ap_sPar, parO_ok, ap_sFor, ap_sRetV, retO_own, retO_val, ap_sFrz, frzO_own, frzO_val, ap_sApp, ap_sExt, ap_eV, valO_val, ap_eB, borO_val, borO_own, ap_eC, ap_eOp, opO_ok, ap_eUn, ap_eTup, ap_eLst, tupR_ok, lstR_ok, ap_eCB, ap_eCall, callO_ok, callO_exc, ap_gNot, notR_b, ap_gTru, truR_b, truR_list, ap_gAnd, ap_gOr, andO_t, andO_f, orO_t, orO_f, ap_eAnd, ap_eOr, eandO_t, eandO_f, eorO_t, eorO_f, ap_eNot, enotO_b, enotO_list, ap_eIf, eifO_t, eifO_f, ap_eChain, chO_ok, ap_eIsi, isiO_int, isiO_tup, isiO_lst, isiO_bl, isiO_str, isiO_non, isInt_int, isInt_bl, isInt_tup, isInt_lst, isInt_str, isInt_non, isBool_int, isBool_bl, isTup_tup, isTup_lst, isTup_int, isTup_non, isTup_str, isTup_bl, isLst_lst, isLst_tup, f_add, f_sub, f_neg, f_eqI, f_neI, f_eqB, f_neB, f_lt, f_le, f_gt, f_ge, f_is, f_isNot, isNone_int, isNone_tup, isNone_lst, isNone_non, f_len_l, f_len_t, f_len_rd, f_tup_l, f_tup_t, f_max2, f_min2, f_abs, f_sum_l, f_sum_t, f_ix0, f_ix1, f_ix2, f_ix3, f_rev_t, outR_nx, outR_rt, outR_exc, nones0, nonesS, runB_eq, ap_eSl, optI_none, optI_some, optO_int, ap_sWh, ap_iSeq, items_l, items_t, ap_iRange1, ap_iRange2, wipeE_nil, wipeE_cons, evA_nil, evA_cons, RL.cons_ok, RL.cons_exc, RL.bind_ok, RL.bind_exc, RL.out_ok, RL.out_exc, Rs.bind_ok, Rs.bind_exc, Rs.out_ok, Rs.out_exc, Rs.of_some, Option.bind_some, List.getElem?_cons_zero, List.getElem?_cons_succ, List.set_cons_zero, List.set_cons_succ, List.map_cons, List.map_nil, List.cons_append, List.nil_append, List.length_cons, List.length_nil, Nat.reduceAdd, Nat.reduceSub, Nat.reduceLeDiff, Nat.reduceLT, Bool.not_true, Bool.not_false, decide_true, decide_false]
        exact ⟨trivial, trivial⟩)]
      simp -implicitDefEqProofs only [appO_ok _ _ _ _ hlen, ap_sSeq, seqO_nx, seqO_rt, seqO_exc, ap_sIf, ifO_t, ifO_f, ifO_exc, ap_sNx, ap_sSet, ap_sOwn, ap_sRet, ap_sDrop, ap_sAsg, outB_some, bT_nm, bT_tp, bTs_nil, bTs_cons, ap_sRaise, ap_sPar, parO_ok, ap_sFor, ap_sRetV, retO_own, retO_val, ap_sFrz, frzO_own, frzO_val, ap_sApp, ap_sExt, ap_eV, valO_val, ap_eB, borO_val, borO_own, ap_eC, ap_eOp, opO_ok, ap_eUn, ap_eTup, ap_eLst, tupR_ok, lstR_ok, ap_eCB, ap_eCall, callO_ok, callO_exc, ap_gNot, notR_b, ap_gTru, truR_b, truR_list, ap_gAnd, ap_gOr, andO_t, andO_f, orO_t, orO_f, ap_eAnd, ap_eOr, eandO_t, eandO_f, eorO_t, eorO_f, ap_eNot, enotO_b, enotO_list, ap_eIf, eifO_t, eifO_f, ap_eChain, chO_ok, ap_eIsi, isiO_int, isiO_tup, isiO_lst, isiO_bl, isiO_str, isiO_non, isInt_int, isInt_bl, isInt_tup, isInt_lst, isInt_str, isInt_non, isBool_int, isBool_bl, isTup_tup, isTup_lst, isTup_int, isTup_non, isTup_str, isTup_bl, isLst_lst, isLst_tup, f_add, f_sub, f_neg, f_eqI, f_neI, f_eqB, f_neB, f_lt, f_le, f_gt, f_ge, f_is, f_isNot, isNone_int, isNone_tup, isNone_lst, isNone_non, f_len_l, f_len_t, f_len_rd, f_tup_l, f_tup_t, f_max2, f_min2, f_abs, f_sum_l, f_sum_t, f_ix0, f_ix1, f_ix2, f_ix3, f_rev_t, outR_nx, outR_rt, outR_exc, nones0, nonesS, runB_eq, ap_eSl, optI_none, optI_some, optO_int, ap_sWh, ap_iSeq, items_l, items_t, ap_iRange1, ap_iRange2, wipeE_nil, wipeE_cons, evA_nil, evA_cons, RL.cons_ok, RL.cons_exc, RL.bind_ok, RL.bind_exc, RL.out_ok, RL.out_exc, Rs.bind_ok, Rs.bind_exc, Rs.out_ok, Rs.out_exc, Rs.of_some, Option.bind_some, List.getElem?_cons_zero, List.getElem?_cons_succ, List.set_cons_zero, List.set_cons_succ, List.map_cons, List.map_nil, List.cons_append, List.nil_append, List.length_cons, List.length_nil, Nat.reduceAdd, Nat.reduceSub, Nat.reduceLeDiff, Nat.reduceLT, Bool.not_true, Bool.not_false, decide_true, decide_false]
      refine ⟨_, rfl, some (.val (.int (0 + (k : Int)))), ?_⟩
      unfold dueL
      rw [rangeI_succ, List.map_append, List.map_append]
      simp -implicitDefEqProofs only [List.map_cons, List.map_nil, rowD, List.map_map]
      rfl)
  exact ⟨o6, e⟩
/-- all levels, row by row -/
theorem flat_go (z0 z1 z2 z3 z4 z5 z6 z7 z8 : Option Sl) : ∀ (s : List (List Int)) (L : List Int) (o : Option Sl), L.length + s.flatten.length ≤ 1000 → ∃ o' : Option Sl, forGo (.nm 10) lp_law_2 (s.map rowD) [z0, z1, z2, z3, z4, z5, z6, z7, z8, some (.val (.list (L.map PyData.int))), o, none, none, none, none, none, none] =
    .nx [z0, z1, z2, z3, z4, z5, z6, z7, z8, some (.val (.list ((L ++ s.flatten).map PyData.int))), o', none, none, none, none, none, none]
  | [], L, o, _ => ⟨o, by rw [List.flatten_nil, List.append_nil]; rfl⟩
  | r :: s, L, o, hl => by
    rw [List.flatten_cons, List.length_append] at hl
    obtain ⟨o', e⟩ := flat_go z0 z1 z2 z3 z4 z5 z6 z7 z8 s (L ++ r) (some (.val (rowD r))) (by rw [List.length_append]; omega)
    refine ⟨o', ?_⟩
    rw [List.map_cons, forGo_nx (ρ2 := [z0, z1, z2, z3, z4, z5, z6, z7, z8, some (.val (.list ((L ++ r).map PyData.int))), some (.val (rowD r)), none, none, none, none, none, none]) ?_, e, List.flatten_cons, List.append_assoc]
    have ea : addF (.list (L.map PyData.int)) (.list (r.map PyData.int)) = some (.list ((L ++ r).map PyData.int)) := by
      rw [List.map_append]
      exact if_pos (by rw [List.length_map, List.length_map]; show _ ≤ 16777216; omega)
    have el : lstF [rowD r] = some (.list (r.map PyData.int)) := rfl
    simp -implicitDefEqProofs only [lp_law_2, el, ea, ap_sSeq, seqO_nx, seqO_rt, seqO_exc, ap_sIf, ifO_t, ifO_f, ifO_exc, ap_sNx, ap_sSet, ap_sOwn, ap_sRet, ap_sDrop, ap_sAsg, outB_some, bT_nm, bT_tp, bTs_nil, bTs_cons, ap_sRaise, ap_sPar, parO_ok, ap_sFor, ap_sRetV, retO_own, retO_val, ap_sFrz, frzO_own, frzO_val, ap_sApp, ap_sExt, ap_eV, valO_val, ap_eB, borO_val, borO_own, ap_eC, ap_eOp, opO_ok, ap_eUn, ap_eTup, ap_eLst, tupR_ok, lstR_ok, ap_eCB, ap_eCall, callO_ok, callO_exc, ap_gNot, notR_b, ap_gTru, truR_b, truR_list, ap_gAnd, ap_gOr, andO_t, andO_f, orO_t, orO_f, ap_eAnd, ap_eOr, eandO_t, eandO_f, eorO_t, eorO_f, ap_eNot, enotO_b, enotO_list, ap_eIf, eifO_t, eifO_f, ap_eChain, chO_ok, ap_eIsi, isiO_int, isiO_tup, isiO_lst, isiO_bl, isiO_str, isiO_non, isInt_int, isInt_bl, isInt_tup, isInt_lst, isInt_str, isInt_non, isBool_int, isBool_bl, isTup_tup, isTup_lst, isTup_int, isTup_non, isTup_str, isTup_bl, isLst_lst, isLst_tup, f_add, f_sub, f_neg, f_eqI, f_neI, f_eqB, f_neB, f_lt, f_le, f_gt, f_ge, f_is, f_isNot, isNone_int, isNone_tup, isNone_lst, isNone_non, f_len_l, f_len_t, f_len_rd, f_tup_l, f_tup_t, f_max2, f_min2, f_abs, f_sum_l, f_sum_t, f_ix0, f_ix1, f_ix2, f_ix3, f_rev_t, outR_nx, outR_rt, outR_exc, nones0, nonesS, runB_eq, ap_eSl, optI_none, optI_some, optO_int, ap_sWh, ap_iSeq, items_l, items_t, ap_iRange1, ap_iRange2, wipeE_nil, wipeE_cons, evA_nil, evA_cons, RL.cons_ok, RL.cons_exc, RL.bind_ok, RL.bind_exc, RL.out_ok, RL.out_exc, Rs.bind_ok, Rs.bind_exc, Rs.out_ok, Rs.out_exc, Rs.of_some, Option.bind_some, List.getElem?_cons_zero, List.getElem?_cons_succ, List.set_cons_zero, List.set_cons_succ, List.map_cons, List.map_nil, List.cons_append, List.nil_append, List.length_cons, List.length_nil, Nat.reduceAdd, Nat.reduceSub, Nat.reduceLeDiff, Nat.reduceLT, Bool.not_true, Bool.not_false, decide_true, decide_false]
theorem due_turn (s : List (List Int)) (h w : Nat) : shD (dueL s h w) = shD (turnL s h w) := rfl
theorem tup_due (s : List (List Int)) (h w : Nat) : tupF [.list ((dueL s h w).map rowD)] = some (shD (turnL s h w)) := rfl
theorem wset_ne (ρ : En) (x : Option Sl) {i j : Nat} (h : j ≠ i) : ((wipeE ρ [i]).set i x)[j]? = ρ[j]? := by
  rw [List.getElem?_set_ne (Ne.symm h), wipeE_get ρ j [i] (by simpa using h)]
theorem wset_self (ρ : En) (x : Option Sl) {i : Nat} (h : i < ρ.length) : ((wipeE ρ [i]).set i x)[i]? = some x := List.getElem?_set_self (by rw [wipeE_length]; exact h)
theorem wset_len (ρ : En) (x : Option Sl) (i : Nat) : ((wipeE ρ [i]).set i x).length = ρ.length := by rw [List.length_set, wipeE_length]
/-- lit, made by the law -/
theorem lit_law {s : List (List Int)} {h w : Nat} (S : Sh s h w) (c : Int) (ρ : En) (hl : ρ.length = 17) (e2 : ρ[2]? = some (some (.val (shD s)))) (e7 : ρ[7]? = some (some (.val (.int c)))) :
    eLc [10] (iSeq (eV 2)) (.nm 10) (eC (.bool true)) (eCB tupF [(eLc [16] (iSeq (eV 10)) (.nm 16) (eC (.bool true)) (eCB max2F [(eC (.int 0)), (eCB min2F [(eC (.int 255)), (eOp addF (eV 16) (eV 7))])]))]) ρ = .ok (.list ((litL c s).map rowD)) := by
  have h2 := S.h2; have w2 := S.w2; have al := S.len
  have key : eLc [10] (iSeq (eV 2)) (.nm 10) (eC (.bool true)) (eCB tupF [(eLc [16] (iSeq (eV 10)) (.nm 16) (eC (.bool true)) (eCB max2F [(eC (.int 0)), (eCB min2F [(eC (.int 255)), (eOp addF (eV 16) (eV 7))])]))]) ρ = .ok (.list ((litL c s).map rowD)) := by
    rw [eLc_mapA s rowD (fun r => rowD (r.map fun v => min (max (v + c) 0) 255)) (by simp -implicitDefEqProofs only [e2, items_sh, ap_sSeq, seqO_nx, seqO_rt, seqO_exc, ap_sIf, ifO_t, ifO_f, ifO_exc, ap_sNx, ap_sSet, ap_sOwn, ap_sRet, ap_sDrop, ap_sAsg, outB_some, bT_nm, bT_tp, bTs_nil, bTs_cons, ap_sRaise, ap_sPar, parO_ok, ap_sFor, ap_sRetV, retO_own, retO_val, ap_sFrz, frzO_own, frzO_val, ap_sApp, ap_sExt, ap_eV, valO_val, ap_eB, borO_val, borO_own, ap_eC, ap_eOp, opO_ok, ap_eUn, ap_eTup, ap_eLst, tupR_ok, lstR_ok, ap_eCB, ap_eCall, callO_ok, callO_exc, ap_gNot, notR_b, ap_gTru, truR_b, truR_list, ap_gAnd, ap_gOr, andO_t, andO_f, orO_t, orO_f, ap_eAnd, ap_eOr, eandO_t, eandO_f, eorO_t, eorO_f, ap_eNot, enotO_b, enotO_list, ap_eIf, eifO_t, eifO_f, ap_eChain, chO_ok, ap_eIsi, isiO_int, isiO_tup, isiO_lst, isiO_bl, isiO_str, isiO_non, isInt_int, isInt_bl, isInt_tup, isInt_lst, isInt_str, isInt_non, isBool_int, isBool_bl, isTup_tup, isTup_lst, isTup_int, isTup_non, isTup_str, isTup_bl, isLst_lst, isLst_tup, f_add, f_sub, f_neg, f_eqI, f_neI, f_eqB, f_neB, f_lt, f_le, f_gt, f_ge, f_is, f_isNot, isNone_int, isNone_tup, isNone_lst, isNone_non, f_len_l, f_len_t, f_len_rd, f_tup_l, f_tup_t, f_max2, f_min2, f_abs, f_sum_l, f_sum_t, f_ix0, f_ix1, f_ix2, f_ix3, f_rev_t, outR_nx, outR_rt, outR_exc, nones0, nonesS, runB_eq, ap_eSl, optI_none, optI_some, optO_int, ap_sWh, ap_iSeq, items_l, items_t, ap_iRange1, ap_iRange2, wipeE_nil, wipeE_cons, evA_nil, evA_cons, RL.cons_ok, RL.cons_exc, RL.bind_ok, RL.bind_exc, RL.out_ok, RL.out_exc, Rs.bind_ok, Rs.bind_exc, Rs.out_ok, Rs.out_exc, Rs.of_some, Option.bind_some, List.getElem?_cons_zero, List.getElem?_cons_succ, List.set_cons_zero, List.set_cons_succ, List.map_cons, List.map_nil, List.cons_append, List.nil_append, List.length_cons, List.length_nil, Nat.reduceAdd, Nat.reduceSub, Nat.reduceLeDiff, Nat.reduceLT, Bool.not_true, Bool.not_false, decide_true, decide_false]) (by omega) (by
      intro r hr
      have lr := S.row r hr
      have q7 : ((wipeE ρ [10]).set 10 (some (.val (rowD r))))[7]? = some (some (.val (.int c))) := by rw [wset_ne _ _ (by decide), e7]
      have q10 : ((wipeE ρ [10]).set 10 (some (.val (rowD r))))[10]? = some (some (.val (rowD r))) := wset_self _ _ (by omega)
      have ql := wset_len ρ (some (.val (rowD r))) 10
      rw [hl] at ql
      generalize (wipeE ρ [10]).set 10 (some (.val (rowD r))) = ρ1 at q7 q10 ql
      refine ⟨by simp -implicitDefEqProofs only [ap_sSeq, seqO_nx, seqO_rt, seqO_exc, ap_sIf, ifO_t, ifO_f, ifO_exc, ap_sNx, ap_sSet, ap_sOwn, ap_sRet, ap_sDrop, ap_sAsg, outB_some, bT_nm, bT_tp, bTs_nil, bTs_cons, ap_sRaise, ap_sPar, parO_ok, ap_sFor, ap_sRetV, retO_own, retO_val, ap_sFrz, frzO_own, frzO_val, ap_sApp, ap_sExt, ap_eV, valO_val, ap_eB, borO_val, borO_own, ap_eC, ap_eOp, opO_ok, ap_eUn, ap_eTup, ap_eLst, tupR_ok, lstR_ok, ap_eCB, ap_eCall, callO_ok, callO_exc, ap_gNot, notR_b, ap_gTru, truR_b, truR_list, ap_gAnd, ap_gOr, andO_t, andO_f, orO_t, orO_f, ap_eAnd, ap_eOr, eandO_t, eandO_f, eorO_t, eorO_f, ap_eNot, enotO_b, enotO_list, ap_eIf, eifO_t, eifO_f, ap_eChain, chO_ok, ap_eIsi, isiO_int, isiO_tup, isiO_lst, isiO_bl, isiO_str, isiO_non, isInt_int, isInt_bl, isInt_tup, isInt_lst, isInt_str, isInt_non, isBool_int, isBool_bl, isTup_tup, isTup_lst, isTup_int, isTup_non, isTup_str, isTup_bl, isLst_lst, isLst_tup, f_add, f_sub, f_neg, f_eqI, f_neI, f_eqB, f_neB, f_lt, f_le, f_gt, f_ge, f_is, f_isNot, isNone_int, isNone_tup, isNone_lst, isNone_non, f_len_l, f_len_t, f_len_rd, f_tup_l, f_tup_t, f_max2, f_min2, f_abs, f_sum_l, f_sum_t, f_ix0, f_ix1, f_ix2, f_ix3, f_rev_t, outR_nx, outR_rt, outR_exc, nones0, nonesS, runB_eq, ap_eSl, optI_none, optI_some, optO_int, ap_sWh, ap_iSeq, items_l, items_t, ap_iRange1, ap_iRange2, wipeE_nil, wipeE_cons, evA_nil, evA_cons, RL.cons_ok, RL.cons_exc, RL.bind_ok, RL.bind_exc, RL.out_ok, RL.out_exc, Rs.bind_ok, Rs.bind_exc, Rs.out_ok, Rs.out_exc, Rs.of_some, Option.bind_some, List.getElem?_cons_zero, List.getElem?_cons_succ, List.set_cons_zero, List.set_cons_succ, List.map_cons, List.map_nil, List.cons_append, List.nil_append, List.length_cons, List.length_nil, Nat.reduceAdd, Nat.reduceSub, Nat.reduceLeDiff, Nat.reduceLT, Bool.not_true, Bool.not_false, decide_true, decide_false], ?_⟩
      have inner : eLc [16] (iSeq (eV 10)) (.nm 16) (eC (.bool true)) (eCB max2F [(eC (.int 0)), (eCB min2F [(eC (.int 255)), (eOp addF (eV 16) (eV 7))])]) ρ1 = .ok (.list (r.map fun v => PyData.int (min (max (v + c) 0) 255))) := by
        rw [eLc_mapA r PyData.int (fun v => PyData.int (min (max (v + c) 0) 255)) (by simp -implicitDefEqProofs only [q10, items_row, ap_sSeq, seqO_nx, seqO_rt, seqO_exc, ap_sIf, ifO_t, ifO_f, ifO_exc, ap_sNx, ap_sSet, ap_sOwn, ap_sRet, ap_sDrop, ap_sAsg, outB_some, bT_nm, bT_tp, bTs_nil, bTs_cons, ap_sRaise, ap_sPar, parO_ok, ap_sFor, ap_sRetV, retO_own, retO_val, ap_sFrz, frzO_own, frzO_val, ap_sApp, ap_sExt, ap_eV, valO_val, ap_eB, borO_val, borO_own, ap_eC, ap_eOp, opO_ok, ap_eUn, ap_eTup, ap_eLst, tupR_ok, lstR_ok, ap_eCB, ap_eCall, callO_ok, callO_exc, ap_gNot, notR_b, ap_gTru, truR_b, truR_list, ap_gAnd, ap_gOr, andO_t, andO_f, orO_t, orO_f, ap_eAnd, ap_eOr, eandO_t, eandO_f, eorO_t, eorO_f, ap_eNot, enotO_b, enotO_list, ap_eIf, eifO_t, eifO_f, ap_eChain, chO_ok, ap_eIsi, isiO_int, isiO_tup, isiO_lst, isiO_bl, isiO_str, isiO_non, isInt_int, isInt_bl, isInt_tup, isInt_lst, isInt_str, isInt_non, isBool_int, isBool_bl, isTup_tup, isTup_lst, isTup_int, isTup_non, isTup_str, isTup_bl, isLst_lst, isLst_tup, f_add, f_sub, f_neg, f_eqI, f_neI, f_eqB, f_neB, f_lt, f_le, f_gt, f_ge, f_is, f_isNot, isNone_int, isNone_tup, isNone_lst, isNone_non, f_len_l, f_len_t, f_len_rd, f_tup_l, f_tup_t, f_max2, f_min2, f_abs, f_sum_l, f_sum_t, f_ix0, f_ix1, f_ix2, f_ix3, f_rev_t, outR_nx, outR_rt, outR_exc, nones0, nonesS, runB_eq, ap_eSl, optI_none, optI_some, optO_int, ap_sWh, ap_iSeq, items_l, items_t, ap_iRange1, ap_iRange2, wipeE_nil, wipeE_cons, evA_nil, evA_cons, RL.cons_ok, RL.cons_exc, RL.bind_ok, RL.bind_exc, RL.out_ok, RL.out_exc, Rs.bind_ok, Rs.bind_exc, Rs.out_ok, Rs.out_exc, Rs.of_some, Option.bind_some, List.getElem?_cons_zero, List.getElem?_cons_succ, List.set_cons_zero, List.set_cons_succ, List.map_cons, List.map_nil, List.cons_append, List.nil_append, List.length_cons, List.length_nil, Nat.reduceAdd, Nat.reduceSub, Nat.reduceLeDiff, Nat.reduceLT, Bool.not_true, Bool.not_false, decide_true, decide_false]) (by omega) (by
          intro v hv
          have q16 : ((wipeE ρ1 [16]).set 16 (some (.val (.int v))))[16]? = some (some (.val (.int v))) := wset_self _ _ (by omega)
          have p7 : ((wipeE ρ1 [16]).set 16 (some (.val (.int v))))[7]? = some (some (.val (.int c))) := by rw [wset_ne _ _ (by decide), q7]
          have lv := S.lev r hr v hv
          have em : max 0 (min 255 (v + c)) = min (max (v + c) 0) 255 := by omega
          generalize (wipeE ρ1 [16]).set 16 (some (.val (.int v))) = ρ2 at q16 p7 ⊢
          simp -implicitDefEqProofs only [q16, p7, em, ap_sSeq, seqO_nx, seqO_rt, seqO_exc, ap_sIf, ifO_t, ifO_f, ifO_exc, ap_sNx, ap_sSet, ap_sOwn, ap_sRet, ap_sDrop, ap_sAsg, outB_some, bT_nm, bT_tp, bTs_nil, bTs_cons, ap_sRaise, ap_sPar, parO_ok, ap_sFor, ap_sRetV, retO_own, retO_val, ap_sFrz, frzO_own, frzO_val, ap_sApp, ap_sExt, ap_eV, valO_val, ap_eB, borO_val, borO_own, ap_eC, ap_eOp, opO_ok, ap_eUn, ap_eTup, ap_eLst, tupR_ok, lstR_ok, ap_eCB, ap_eCall, callO_ok, callO_exc, ap_gNot, notR_b, ap_gTru, truR_b, truR_list, ap_gAnd, ap_gOr, andO_t, andO_f, orO_t, orO_f, ap_eAnd, ap_eOr, eandO_t, eandO_f, eorO_t, eorO_f, ap_eNot, enotO_b, enotO_list, ap_eIf, eifO_t, eifO_f, ap_eChain, chO_ok, ap_eIsi, isiO_int, isiO_tup, isiO_lst, isiO_bl, isiO_str, isiO_non, isInt_int, isInt_bl, isInt_tup, isInt_lst, isInt_str, isInt_non, isBool_int, isBool_bl, isTup_tup, isTup_lst, isTup_int, isTup_non, isTup_str, isTup_bl, isLst_lst, isLst_tup, f_add, f_sub, f_neg, f_eqI, f_neI, f_eqB, f_neB, f_lt, f_le, f_gt, f_ge, f_is, f_isNot, isNone_int, isNone_tup, isNone_lst, isNone_non, f_len_l, f_len_t, f_len_rd, f_tup_l, f_tup_t, f_max2, f_min2, f_abs, f_sum_l, f_sum_t, f_ix0, f_ix1, f_ix2, f_ix3, f_rev_t, outR_nx, outR_rt, outR_exc, nones0, nonesS, runB_eq, ap_eSl, optI_none, optI_some, optO_int, ap_sWh, ap_iSeq, items_l, items_t, ap_iRange1, ap_iRange2, wipeE_nil, wipeE_cons, evA_nil, evA_cons, RL.cons_ok, RL.cons_exc, RL.bind_ok, RL.bind_exc, RL.out_ok, RL.out_exc, Rs.bind_ok, Rs.bind_exc, Rs.out_ok, Rs.out_exc, Rs.of_some, Option.bind_some, List.getElem?_cons_zero, List.getElem?_cons_succ, List.set_cons_zero, List.set_cons_succ, List.map_cons, List.map_nil, List.cons_append, List.nil_append, List.length_cons, List.length_nil, Nat.reduceAdd, Nat.reduceSub, Nat.reduceLeDiff, Nat.reduceLT, Bool.not_true, Bool.not_false, decide_true, decide_false]
          exact ⟨trivial, trivial⟩)]
      simp -implicitDefEqProofs only [inner, ap_sSeq, seqO_nx, seqO_rt, seqO_exc, ap_sIf, ifO_t, ifO_f, ifO_exc, ap_sNx, ap_sSet, ap_sOwn, ap_sRet, ap_sDrop, ap_sAsg, outB_some, bT_nm, bT_tp, bTs_nil, bTs_cons, ap_sRaise, ap_sPar, parO_ok, ap_sFor, ap_sRetV, retO_own, retO_val, ap_sFrz, frzO_own, frzO_val, ap_sApp, ap_sExt, ap_eV, valO_val, ap_eB, borO_val, borO_own, ap_eC, ap_eOp, opO_ok, ap_eUn, ap_eTup, ap_eLst, tupR_ok, lstR_ok, ap_eCB, ap_eCall, callO_ok, callO_exc, ap_gNot, notR_b, ap_gTru, truR_b, truR_list, ap_gAnd, ap_gOr, andO_t, andO_f, orO_t, orO_f, ap_eAnd, ap_eOr, eandO_t, eandO_f, eorO_t, eorO_f, ap_eNot, enotO_b, enotO_list, ap_eIf, eifO_t, eifO_f, ap_eChain, chO_ok, ap_eIsi, isiO_int, isiO_tup, isiO_lst, isiO_bl, isiO_str, isiO_non, isInt_int, isInt_bl, isInt_tup, isInt_lst, isInt_str, isInt_non, isBool_int, isBool_bl, isTup_tup, isTup_lst, isTup_int, isTup_non, isTup_str, isTup_bl, isLst_lst, isLst_tup, f_add, f_sub, f_neg, f_eqI, f_neI, f_eqB, f_neB, f_lt, f_le, f_gt, f_ge, f_is, f_isNot, isNone_int, isNone_tup, isNone_lst, isNone_non, f_len_l, f_len_t, f_len_rd, f_tup_l, f_tup_t, f_max2, f_min2, f_abs, f_sum_l, f_sum_t, f_ix0, f_ix1, f_ix2, f_ix3, f_rev_t, outR_nx, outR_rt, outR_exc, nones0, nonesS, runB_eq, ap_eSl, optI_none, optI_some, optO_int, ap_sWh, ap_iSeq, items_l, items_t, ap_iRange1, ap_iRange2, wipeE_nil, wipeE_cons, evA_nil, evA_cons, RL.cons_ok, RL.cons_exc, RL.bind_ok, RL.bind_exc, RL.out_ok, RL.out_exc, Rs.bind_ok, Rs.bind_exc, Rs.out_ok, Rs.out_exc, Rs.of_some, Option.bind_some, List.getElem?_cons_zero, List.getElem?_cons_succ, List.set_cons_zero, List.set_cons_succ, List.map_cons, List.map_nil, List.cons_append, List.nil_append, List.length_cons, List.length_nil, Nat.reduceAdd, Nat.reduceSub, Nat.reduceLeDiff, Nat.reduceLT, Bool.not_true, Bool.not_false, decide_true, decide_false]
      unfold rowD
      rw [List.map_map]
      rfl)]
    unfold litL
    rw [List.map_map]
    rfl
  exact key
/-- a box, cut by the law -/
theorem cut_law {s : List (List Int)} {h w : Nat} (S : Sh s h w) (x y wd ht : Int) (h0 : 0 ≤ x) (h1 : 0 ≤ y) (h2 : 0 ≤ wd) (h3 : 0 ≤ ht) (ρ : En) (hl : ρ.length = 17) (e2 : ρ[2]? = some (some (.val (shD s)))) (e6 : ρ[6]? = some (some (.val (.int x)))) (e12 : ρ[12]? = some (some (.val (.int y)))) (e13 : ρ[13]? = some (some (.val (.int wd)))) (e14 : ρ[14]? = some (some (.val (.int ht)))) :
    eLc [10] (iSeq (eSl (eV 2) (some (eV 12)) (some (eOp addF (eV 12) (eV 14))))) (.nm 10) (eC (.bool true)) (eSl (eV 10) (some (eV 6)) (some (eOp addF (eV 6) (eV 13)))) ρ = .ok (.list ((cutS' s x.toNat y.toNat wd.toNat ht.toNat).map rowD)) := by
  have b2 := S.h2; have al := S.len
  have s1 : slF (shD s) (some y) (some (y + ht)) = some (.tuple (((s.drop y.toNat).take ht.toNat).map rowD)) := by
    unfold shD
    rw [sl_any rowD s y (y + ht) h1 (by omega), show y + ht - y = ht by omega]
  have key : eLc [10] (iSeq (eSl (eV 2) (some (eV 12)) (some (eOp addF (eV 12) (eV 14))))) (.nm 10) (eC (.bool true)) (eSl (eV 10) (some (eV 6)) (some (eOp addF (eV 6) (eV 13)))) ρ = .ok (.list ((cutS' s x.toNat y.toNat wd.toNat ht.toNat).map rowD)) := by
    rw [eLc_mapA ((s.drop y.toNat).take ht.toNat) rowD (fun r => rowD ((r.drop x.toNat).take wd.toNat)) (by simp -implicitDefEqProofs only [e2, e12, e14, s1, ap_sSeq, seqO_nx, seqO_rt, seqO_exc, ap_sIf, ifO_t, ifO_f, ifO_exc, ap_sNx, ap_sSet, ap_sOwn, ap_sRet, ap_sDrop, ap_sAsg, outB_some, bT_nm, bT_tp, bTs_nil, bTs_cons, ap_sRaise, ap_sPar, parO_ok, ap_sFor, ap_sRetV, retO_own, retO_val, ap_sFrz, frzO_own, frzO_val, ap_sApp, ap_sExt, ap_eV, valO_val, ap_eB, borO_val, borO_own, ap_eC, ap_eOp, opO_ok, ap_eUn, ap_eTup, ap_eLst, tupR_ok, lstR_ok, ap_eCB, ap_eCall, callO_ok, callO_exc, ap_gNot, notR_b, ap_gTru, truR_b, truR_list, ap_gAnd, ap_gOr, andO_t, andO_f, orO_t, orO_f, ap_eAnd, ap_eOr, eandO_t, eandO_f, eorO_t, eorO_f, ap_eNot, enotO_b, enotO_list, ap_eIf, eifO_t, eifO_f, ap_eChain, chO_ok, ap_eIsi, isiO_int, isiO_tup, isiO_lst, isiO_bl, isiO_str, isiO_non, isInt_int, isInt_bl, isInt_tup, isInt_lst, isInt_str, isInt_non, isBool_int, isBool_bl, isTup_tup, isTup_lst, isTup_int, isTup_non, isTup_str, isTup_bl, isLst_lst, isLst_tup, f_add, f_sub, f_neg, f_eqI, f_neI, f_eqB, f_neB, f_lt, f_le, f_gt, f_ge, f_is, f_isNot, isNone_int, isNone_tup, isNone_lst, isNone_non, f_len_l, f_len_t, f_len_rd, f_tup_l, f_tup_t, f_max2, f_min2, f_abs, f_sum_l, f_sum_t, f_ix0, f_ix1, f_ix2, f_ix3, f_rev_t, outR_nx, outR_rt, outR_exc, nones0, nonesS, runB_eq, ap_eSl, optI_none, optI_some, optO_int, ap_sWh, ap_iSeq, items_l, items_t, ap_iRange1, ap_iRange2, wipeE_nil, wipeE_cons, evA_nil, evA_cons, RL.cons_ok, RL.cons_exc, RL.bind_ok, RL.bind_exc, RL.out_ok, RL.out_exc, Rs.bind_ok, Rs.bind_exc, Rs.out_ok, Rs.out_exc, Rs.of_some, Option.bind_some, List.getElem?_cons_zero, List.getElem?_cons_succ, List.set_cons_zero, List.set_cons_succ, List.map_cons, List.map_nil, List.cons_append, List.nil_append, List.length_cons, List.length_nil, Nat.reduceAdd, Nat.reduceSub, Nat.reduceLeDiff, Nat.reduceLT, Bool.not_true, Bool.not_false, decide_true, decide_false]) (by rw [List.length_take, List.length_drop]; omega) (by
      intro r hr
      have q6 : ((wipeE ρ [10]).set 10 (some (.val (rowD r))))[6]? = some (some (.val (.int x))) := by rw [wset_ne _ _ (by decide), e6]
      have q13 : ((wipeE ρ [10]).set 10 (some (.val (rowD r))))[13]? = some (some (.val (.int wd))) := by rw [wset_ne _ _ (by decide), e13]
      have q10 : ((wipeE ρ [10]).set 10 (some (.val (rowD r))))[10]? = some (some (.val (rowD r))) := wset_self _ _ (by omega)
      have s2 : slF (rowD r) (some x) (some (x + wd)) = some (rowD ((r.drop x.toNat).take wd.toNat)) := by
        unfold rowD
        rw [sl_any PyData.int r x (x + wd) h0 (by omega), show x + wd - x = wd by omega]
      generalize (wipeE ρ [10]).set 10 (some (.val (rowD r))) = ρ2 at q6 q13 q10 ⊢
      simp -implicitDefEqProofs only [q6, q13, q10, s2, ap_sSeq, seqO_nx, seqO_rt, seqO_exc, ap_sIf, ifO_t, ifO_f, ifO_exc, ap_sNx, ap_sSet, ap_sOwn, ap_sRet, ap_sDrop, ap_sAsg, outB_some, bT_nm, bT_tp, bTs_nil, bTs_cons, ap_sRaise, ap_sPar, parO_ok, ap_sFor, ap_sRetV, retO_own, retO_val, ap_sFrz, frzO_own, frzO_val, ap_sApp, ap_sExt, ap_eV, valO_val, ap_eB, borO_val, borO_own, ap_eC, ap_eOp, opO_ok, ap_eUn, ap_eTup, ap_eLst, tupR_ok, lstR_ok, ap_eCB, ap_eCall, callO_ok, callO_exc, ap_gNot, notR_b, ap_gTru, truR_b, truR_list, ap_gAnd, ap_gOr, andO_t, andO_f, orO_t, orO_f, ap_eAnd, ap_eOr, eandO_t, eandO_f, eorO_t, eorO_f, ap_eNot, enotO_b, enotO_list, ap_eIf, eifO_t, eifO_f, ap_eChain, chO_ok, ap_eIsi, isiO_int, isiO_tup, isiO_lst, isiO_bl, isiO_str, isiO_non, isInt_int, isInt_bl, isInt_tup, isInt_lst, isInt_str, isInt_non, isBool_int, isBool_bl, isTup_tup, isTup_lst, isTup_int, isTup_non, isTup_str, isTup_bl, isLst_lst, isLst_tup, f_add, f_sub, f_neg, f_eqI, f_neI, f_eqB, f_neB, f_lt, f_le, f_gt, f_ge, f_is, f_isNot, isNone_int, isNone_tup, isNone_lst, isNone_non, f_len_l, f_len_t, f_len_rd, f_tup_l, f_tup_t, f_max2, f_min2, f_abs, f_sum_l, f_sum_t, f_ix0, f_ix1, f_ix2, f_ix3, f_rev_t, outR_nx, outR_rt, outR_exc, nones0, nonesS, runB_eq, ap_eSl, optI_none, optI_some, optO_int, ap_sWh, ap_iSeq, items_l, items_t, ap_iRange1, ap_iRange2, wipeE_nil, wipeE_cons, evA_nil, evA_cons, RL.cons_ok, RL.cons_exc, RL.bind_ok, RL.bind_exc, RL.out_ok, RL.out_exc, Rs.bind_ok, Rs.bind_exc, Rs.out_ok, Rs.out_exc, Rs.of_some, Option.bind_some, List.getElem?_cons_zero, List.getElem?_cons_succ, List.set_cons_zero, List.set_cons_succ, List.map_cons, List.map_nil, List.cons_append, List.nil_append, List.length_cons, List.length_nil, Nat.reduceAdd, Nat.reduceSub, Nat.reduceLeDiff, Nat.reduceLT, Bool.not_true, Bool.not_false, decide_true, decide_false]
      exact ⟨trivial, trivial⟩)]
    unfold cutS'
    rw [List.map_map]
    rfl
  exact key
theorem sub_win : sub_BadWindow "BadWindow" = some true := by kernel_rfl
theorem sub_shot : sub_BadShot "BadShot" = some true := by kernel_rfl
theorem cut_told {s : List (List Int)} (a b c d e : D) (h : sem_cut_out [shD s, a, b, c, d] = .exc "BadWindow" []) : sem__law_cut_told [shD s, a, b, c, d] = .ok (.str "window") := by
  simp -implicitDefEqProofs only [sem__law_cut_told, b__law_cut_told, h, ap_sTryAs, tryO_exc, sub_win, hitO_t, clr_rt, ap_sSeq, seqO_nx, seqO_rt, seqO_exc, ap_sIf, ifO_t, ifO_f, ifO_exc, ap_sNx, ap_sSet, ap_sOwn, ap_sRet, ap_sDrop, ap_sAsg, outB_some, bT_nm, bT_tp, bTs_nil, bTs_cons, ap_sRaise, ap_sPar, parO_ok, ap_sFor, ap_sRetV, retO_own, retO_val, ap_sFrz, frzO_own, frzO_val, ap_sApp, ap_sExt, ap_eV, valO_val, ap_eB, borO_val, borO_own, ap_eC, ap_eOp, opO_ok, ap_eUn, ap_eTup, ap_eLst, tupR_ok, lstR_ok, ap_eCB, ap_eCall, callO_ok, callO_exc, ap_gNot, notR_b, ap_gTru, truR_b, truR_list, ap_gAnd, ap_gOr, andO_t, andO_f, orO_t, orO_f, ap_eAnd, ap_eOr, eandO_t, eandO_f, eorO_t, eorO_f, ap_eNot, enotO_b, enotO_list, ap_eIf, eifO_t, eifO_f, ap_eChain, chO_ok, ap_eIsi, isiO_int, isiO_tup, isiO_lst, isiO_bl, isiO_str, isiO_non, isInt_int, isInt_bl, isInt_tup, isInt_lst, isInt_str, isInt_non, isBool_int, isBool_bl, isTup_tup, isTup_lst, isTup_int, isTup_non, isTup_str, isTup_bl, isLst_lst, isLst_tup, f_add, f_sub, f_neg, f_eqI, f_neI, f_eqB, f_neB, f_lt, f_le, f_gt, f_ge, f_is, f_isNot, isNone_int, isNone_tup, isNone_lst, isNone_non, f_len_l, f_len_t, f_len_rd, f_tup_l, f_tup_t, f_max2, f_min2, f_abs, f_sum_l, f_sum_t, f_ix0, f_ix1, f_ix2, f_ix3, f_rev_t, outR_nx, outR_rt, outR_exc, nones0, nonesS, runB_eq, ap_eSl, optI_none, optI_some, optO_int, ap_sWh, ap_iSeq, items_l, items_t, ap_iRange1, ap_iRange2, wipeE_nil, wipeE_cons, evA_nil, evA_cons, RL.cons_ok, RL.cons_exc, RL.bind_ok, RL.bind_exc, RL.out_ok, RL.out_exc, Rs.bind_ok, Rs.bind_exc, Rs.out_ok, Rs.out_exc, Rs.of_some, Option.bind_some, List.getElem?_cons_zero, List.getElem?_cons_succ, List.set_cons_zero, List.set_cons_succ, List.map_cons, List.map_nil, List.cons_append, List.nil_append, List.length_cons, List.length_nil, Nat.reduceAdd, Nat.reduceSub, Nat.reduceLeDiff, Nat.reduceLT, Bool.not_true, Bool.not_false, decide_true, decide_false]
theorem cut_told_ok {s t : List (List Int)} (a b c d : D) (h : sem_cut_out [shD s, a, b, c, d] = .ok (shD t)) : sem__law_cut_told [shD s, a, b, c, d] = .ok (shD t) := by
  simp -implicitDefEqProofs only [sem__law_cut_told, b__law_cut_told, h, ap_sTryAs, tryO_rt, ap_sSeq, seqO_nx, seqO_rt, seqO_exc, ap_sIf, ifO_t, ifO_f, ifO_exc, ap_sNx, ap_sSet, ap_sOwn, ap_sRet, ap_sDrop, ap_sAsg, outB_some, bT_nm, bT_tp, bTs_nil, bTs_cons, ap_sRaise, ap_sPar, parO_ok, ap_sFor, ap_sRetV, retO_own, retO_val, ap_sFrz, frzO_own, frzO_val, ap_sApp, ap_sExt, ap_eV, valO_val, ap_eB, borO_val, borO_own, ap_eC, ap_eOp, opO_ok, ap_eUn, ap_eTup, ap_eLst, tupR_ok, lstR_ok, ap_eCB, ap_eCall, callO_ok, callO_exc, ap_gNot, notR_b, ap_gTru, truR_b, truR_list, ap_gAnd, ap_gOr, andO_t, andO_f, orO_t, orO_f, ap_eAnd, ap_eOr, eandO_t, eandO_f, eorO_t, eorO_f, ap_eNot, enotO_b, enotO_list, ap_eIf, eifO_t, eifO_f, ap_eChain, chO_ok, ap_eIsi, isiO_int, isiO_tup, isiO_lst, isiO_bl, isiO_str, isiO_non, isInt_int, isInt_bl, isInt_tup, isInt_lst, isInt_str, isInt_non, isBool_int, isBool_bl, isTup_tup, isTup_lst, isTup_int, isTup_non, isTup_str, isTup_bl, isLst_lst, isLst_tup, f_add, f_sub, f_neg, f_eqI, f_neI, f_eqB, f_neB, f_lt, f_le, f_gt, f_ge, f_is, f_isNot, isNone_int, isNone_tup, isNone_lst, isNone_non, f_len_l, f_len_t, f_len_rd, f_tup_l, f_tup_t, f_max2, f_min2, f_abs, f_sum_l, f_sum_t, f_ix0, f_ix1, f_ix2, f_ix3, f_rev_t, outR_nx, outR_rt, outR_exc, nones0, nonesS, runB_eq, ap_eSl, optI_none, optI_some, optO_int, ap_sWh, ap_iSeq, items_l, items_t, ap_iRange1, ap_iRange2, wipeE_nil, wipeE_cons, evA_nil, evA_cons, RL.cons_ok, RL.cons_exc, RL.bind_ok, RL.bind_exc, RL.out_ok, RL.out_exc, Rs.bind_ok, Rs.bind_exc, Rs.out_ok, Rs.out_exc, Rs.of_some, Option.bind_some, List.getElem?_cons_zero, List.getElem?_cons_succ, List.set_cons_zero, List.set_cons_succ, List.map_cons, List.map_nil, List.cons_append, List.nil_append, List.length_cons, List.length_nil, Nat.reduceAdd, Nat.reduceSub, Nat.reduceLeDiff, Nat.reduceLT, Bool.not_true, Bool.not_false, decide_true, decide_false]
theorem lit_refused {s : List (List Int)} {h w : Nat} (S : Sh s h w) (d : D) (hd : sem_is_within [d, .int (-255), .int 255] = .ok (.bool false)) : sem__law_lit_refused [shD s, d] = .ok (.str "shot") := by
  simp -implicitDefEqProofs only [sem__law_lit_refused, b__law_lit_refused, lit_bad S d hd, ap_sTry1, try1O_exc, sub_shot, hit1O_t, suf_rt, ap_sSeq, seqO_nx, seqO_rt, seqO_exc, ap_sIf, ifO_t, ifO_f, ifO_exc, ap_sNx, ap_sSet, ap_sOwn, ap_sRet, ap_sDrop, ap_sAsg, outB_some, bT_nm, bT_tp, bTs_nil, bTs_cons, ap_sRaise, ap_sPar, parO_ok, ap_sFor, ap_sRetV, retO_own, retO_val, ap_sFrz, frzO_own, frzO_val, ap_sApp, ap_sExt, ap_eV, valO_val, ap_eB, borO_val, borO_own, ap_eC, ap_eOp, opO_ok, ap_eUn, ap_eTup, ap_eLst, tupR_ok, lstR_ok, ap_eCB, ap_eCall, callO_ok, callO_exc, ap_gNot, notR_b, ap_gTru, truR_b, truR_list, ap_gAnd, ap_gOr, andO_t, andO_f, orO_t, orO_f, ap_eAnd, ap_eOr, eandO_t, eandO_f, eorO_t, eorO_f, ap_eNot, enotO_b, enotO_list, ap_eIf, eifO_t, eifO_f, ap_eChain, chO_ok, ap_eIsi, isiO_int, isiO_tup, isiO_lst, isiO_bl, isiO_str, isiO_non, isInt_int, isInt_bl, isInt_tup, isInt_lst, isInt_str, isInt_non, isBool_int, isBool_bl, isTup_tup, isTup_lst, isTup_int, isTup_non, isTup_str, isTup_bl, isLst_lst, isLst_tup, f_add, f_sub, f_neg, f_eqI, f_neI, f_eqB, f_neB, f_lt, f_le, f_gt, f_ge, f_is, f_isNot, isNone_int, isNone_tup, isNone_lst, isNone_non, f_len_l, f_len_t, f_len_rd, f_tup_l, f_tup_t, f_max2, f_min2, f_abs, f_sum_l, f_sum_t, f_ix0, f_ix1, f_ix2, f_ix3, f_rev_t, outR_nx, outR_rt, outR_exc, nones0, nonesS, runB_eq, ap_eSl, optI_none, optI_some, optO_int, ap_sWh, ap_iSeq, items_l, items_t, ap_iRange1, ap_iRange2, wipeE_nil, wipeE_cons, evA_nil, evA_cons, RL.cons_ok, RL.cons_exc, RL.bind_ok, RL.bind_exc, RL.out_ok, RL.out_exc, Rs.bind_ok, Rs.bind_exc, Rs.out_ok, Rs.out_exc, Rs.of_some, Option.bind_some, List.getElem?_cons_zero, List.getElem?_cons_succ, List.set_cons_zero, List.set_cons_succ, List.map_cons, List.map_nil, List.cons_append, List.nil_append, List.length_cons, List.length_nil, Nat.reduceAdd, Nat.reduceSub, Nat.reduceLeDiff, Nat.reduceLT, Bool.not_true, Bool.not_false, decide_true, decide_false]
theorem ne_sh' (s : List (List Int)) : neF (shD s) (.tuple (s.map rowD)) = some (.bool false) := ne_sh s
theorem eq_sh' (s : List (List Int)) : eqF (shD s) (.tuple (s.map rowD)) = some (.bool true) := eq_sh s
theorem ne_fr' (i j : Int) : neF (.tuple [.int (i / (Int.gcd i j : Int)), .int (j / (Int.gcd i j : Int))]) (frD i j) = some (.bool false) := ne_fr i j
theorem ne_txt : neF (.str "shot") (.str "shot") = some (.bool false) := by kernel_rfl
theorem eq_txt : eqF (.str "window") (.str "window") = some (.bool true) := by kernel_rfl
theorem tup_rows (s : List (List Int)) : tupF [.list (s.map rowD)] = some (shD s) := rfl
/-- the rows mirrored, by the law -/
theorem mir_law {s : List (List Int)} {h w : Nat} (S : Sh s h w) (ρ : En) (hl : ρ.length = 17) (e2 : ρ[2]? = some (some (.val (shD s)))) : eLc [10] (iSeq (eV 2)) (.nm 10) (eC (.bool true)) (eUn revF (eV 10)) ρ = .ok (.list ((s.map List.reverse).map rowD)) := by
  have b2 := S.h2; have al := S.len
  rw [eLc_mapA s rowD (fun r => rowD r.reverse) (by simp -implicitDefEqProofs only [e2, items_sh, ap_sSeq, seqO_nx, seqO_rt, seqO_exc, ap_sIf, ifO_t, ifO_f, ifO_exc, ap_sNx, ap_sSet, ap_sOwn, ap_sRet, ap_sDrop, ap_sAsg, outB_some, bT_nm, bT_tp, bTs_nil, bTs_cons, ap_sRaise, ap_sPar, parO_ok, ap_sFor, ap_sRetV, retO_own, retO_val, ap_sFrz, frzO_own, frzO_val, ap_sApp, ap_sExt, ap_eV, valO_val, ap_eB, borO_val, borO_own, ap_eC, ap_eOp, opO_ok, ap_eUn, ap_eTup, ap_eLst, tupR_ok, lstR_ok, ap_eCB, ap_eCall, callO_ok, callO_exc, ap_gNot, notR_b, ap_gTru, truR_b, truR_list, ap_gAnd, ap_gOr, andO_t, andO_f, orO_t, orO_f, ap_eAnd, ap_eOr, eandO_t, eandO_f, eorO_t, eorO_f, ap_eNot, enotO_b, enotO_list, ap_eIf, eifO_t, eifO_f, ap_eChain, chO_ok, ap_eIsi, isiO_int, isiO_tup, isiO_lst, isiO_bl, isiO_str, isiO_non, isInt_int, isInt_bl, isInt_tup, isInt_lst, isInt_str, isInt_non, isBool_int, isBool_bl, isTup_tup, isTup_lst, isTup_int, isTup_non, isTup_str, isTup_bl, isLst_lst, isLst_tup, f_add, f_sub, f_neg, f_eqI, f_neI, f_eqB, f_neB, f_lt, f_le, f_gt, f_ge, f_is, f_isNot, isNone_int, isNone_tup, isNone_lst, isNone_non, f_len_l, f_len_t, f_len_rd, f_tup_l, f_tup_t, f_max2, f_min2, f_abs, f_sum_l, f_sum_t, f_ix0, f_ix1, f_ix2, f_ix3, f_rev_t, outR_nx, outR_rt, outR_exc, nones0, nonesS, runB_eq, ap_eSl, optI_none, optI_some, optO_int, ap_sWh, ap_iSeq, items_l, items_t, ap_iRange1, ap_iRange2, wipeE_nil, wipeE_cons, evA_nil, evA_cons, RL.cons_ok, RL.cons_exc, RL.bind_ok, RL.bind_exc, RL.out_ok, RL.out_exc, Rs.bind_ok, Rs.bind_exc, Rs.out_ok, Rs.out_exc, Rs.of_some, Option.bind_some, List.getElem?_cons_zero, List.getElem?_cons_succ, List.set_cons_zero, List.set_cons_succ, List.map_cons, List.map_nil, List.cons_append, List.nil_append, List.length_cons, List.length_nil, Nat.reduceAdd, Nat.reduceSub, Nat.reduceLeDiff, Nat.reduceLT, Bool.not_true, Bool.not_false, decide_true, decide_false]) (by omega) (by
    intro r hr
    have q10 : ((wipeE ρ [10]).set 10 (some (.val (rowD r))))[10]? = some (some (.val (rowD r))) := wset_self _ _ (by omega)
    generalize (wipeE ρ [10]).set 10 (some (.val (rowD r))) = ρ2 at q10 ⊢
    have e : revF (rowD r) = some (rowD r.reverse) := by
      unfold rowD
      rw [List.map_reverse]
      rfl
    simp -implicitDefEqProofs only [q10, e, ap_sSeq, seqO_nx, seqO_rt, seqO_exc, ap_sIf, ifO_t, ifO_f, ifO_exc, ap_sNx, ap_sSet, ap_sOwn, ap_sRet, ap_sDrop, ap_sAsg, outB_some, bT_nm, bT_tp, bTs_nil, bTs_cons, ap_sRaise, ap_sPar, parO_ok, ap_sFor, ap_sRetV, retO_own, retO_val, ap_sFrz, frzO_own, frzO_val, ap_sApp, ap_sExt, ap_eV, valO_val, ap_eB, borO_val, borO_own, ap_eC, ap_eOp, opO_ok, ap_eUn, ap_eTup, ap_eLst, tupR_ok, lstR_ok, ap_eCB, ap_eCall, callO_ok, callO_exc, ap_gNot, notR_b, ap_gTru, truR_b, truR_list, ap_gAnd, ap_gOr, andO_t, andO_f, orO_t, orO_f, ap_eAnd, ap_eOr, eandO_t, eandO_f, eorO_t, eorO_f, ap_eNot, enotO_b, enotO_list, ap_eIf, eifO_t, eifO_f, ap_eChain, chO_ok, ap_eIsi, isiO_int, isiO_tup, isiO_lst, isiO_bl, isiO_str, isiO_non, isInt_int, isInt_bl, isInt_tup, isInt_lst, isInt_str, isInt_non, isBool_int, isBool_bl, isTup_tup, isTup_lst, isTup_int, isTup_non, isTup_str, isTup_bl, isLst_lst, isLst_tup, f_add, f_sub, f_neg, f_eqI, f_neI, f_eqB, f_neB, f_lt, f_le, f_gt, f_ge, f_is, f_isNot, isNone_int, isNone_tup, isNone_lst, isNone_non, f_len_l, f_len_t, f_len_rd, f_tup_l, f_tup_t, f_max2, f_min2, f_abs, f_sum_l, f_sum_t, f_ix0, f_ix1, f_ix2, f_ix3, f_rev_t, outR_nx, outR_rt, outR_exc, nones0, nonesS, runB_eq, ap_eSl, optI_none, optI_some, optO_int, ap_sWh, ap_iSeq, items_l, items_t, ap_iRange1, ap_iRange2, wipeE_nil, wipeE_cons, evA_nil, evA_cons, RL.cons_ok, RL.cons_exc, RL.bind_ok, RL.bind_exc, RL.out_ok, RL.out_exc, Rs.bind_ok, Rs.bind_exc, Rs.out_ok, Rs.out_exc, Rs.of_some, Option.bind_some, List.getElem?_cons_zero, List.getElem?_cons_succ, List.set_cons_zero, List.set_cons_succ, List.map_cons, List.map_nil, List.cons_append, List.nil_append, List.length_cons, List.length_nil, Nat.reduceAdd, Nat.reduceSub, Nat.reduceLeDiff, Nat.reduceLT, Bool.not_true, Bool.not_false, decide_true, decide_false]
    exact ⟨trivial, trivial⟩)]
  rw [List.map_map]
  rfl
theorem intsOf_map : ∀ L : List Int, intsOf (L.map PyData.int) = some L
  | [] => rfl
  | a :: L => by
    have := intsOf_map L
    simp -implicitDefEqProofs only [List.map_cons, intsOf, this, Option.map_some]
theorem sortSet_ints (L : List Int) (h : L.length < 64) : sortSetF (.list (L.map PyData.int)) = some (.list ((upI L).map PyData.int)) := by
  simp -implicitDefEqProofs only [sortSetF, intsOf_map, Option.bind_some, if_pos h]
theorem ap_eCnt (f g : EF) (ρ : En) (ds : List D) (h : f ρ = .ok (.list ds)) : eCnt f g ρ = (g ρ).bind fun y => Rs.of (cntF (.list ds) y) := by
  unfold eCnt
  rw [h]
  rfl
theorem count_law (L : List Int) (hL : L.length < 64) (ρ : En) (hl : ρ.length = 17) (e9 : ρ[9]? = some (some (.val (.list (L.map PyData.int))))) : eLc [16] (iSeq (eUn sortSetF (eV 9))) (.nm 16) (eC (.bool true)) (eTup [(eV 16), (eCnt (eV 9) (eV 16))]) ρ = .ok (.list ((cntL L).map encP)) := by
  have lu := len_up L
  rw [eLc_mapA (upI L) PyData.int (fun v => encP (v, ((L.count v : Nat) : Int))) (by simp -implicitDefEqProofs only [e9, sortSet_ints L hL, ap_sSeq, seqO_nx, seqO_rt, seqO_exc, ap_sIf, ifO_t, ifO_f, ifO_exc, ap_sNx, ap_sSet, ap_sOwn, ap_sRet, ap_sDrop, ap_sAsg, outB_some, bT_nm, bT_tp, bTs_nil, bTs_cons, ap_sRaise, ap_sPar, parO_ok, ap_sFor, ap_sRetV, retO_own, retO_val, ap_sFrz, frzO_own, frzO_val, ap_sApp, ap_sExt, ap_eV, valO_val, ap_eB, borO_val, borO_own, ap_eC, ap_eOp, opO_ok, ap_eUn, ap_eTup, ap_eLst, tupR_ok, lstR_ok, ap_eCB, ap_eCall, callO_ok, callO_exc, ap_gNot, notR_b, ap_gTru, truR_b, truR_list, ap_gAnd, ap_gOr, andO_t, andO_f, orO_t, orO_f, ap_eAnd, ap_eOr, eandO_t, eandO_f, eorO_t, eorO_f, ap_eNot, enotO_b, enotO_list, ap_eIf, eifO_t, eifO_f, ap_eChain, chO_ok, ap_eIsi, isiO_int, isiO_tup, isiO_lst, isiO_bl, isiO_str, isiO_non, isInt_int, isInt_bl, isInt_tup, isInt_lst, isInt_str, isInt_non, isBool_int, isBool_bl, isTup_tup, isTup_lst, isTup_int, isTup_non, isTup_str, isTup_bl, isLst_lst, isLst_tup, f_add, f_sub, f_neg, f_eqI, f_neI, f_eqB, f_neB, f_lt, f_le, f_gt, f_ge, f_is, f_isNot, isNone_int, isNone_tup, isNone_lst, isNone_non, f_len_l, f_len_t, f_len_rd, f_tup_l, f_tup_t, f_max2, f_min2, f_abs, f_sum_l, f_sum_t, f_ix0, f_ix1, f_ix2, f_ix3, f_rev_t, outR_nx, outR_rt, outR_exc, nones0, nonesS, runB_eq, ap_eSl, optI_none, optI_some, optO_int, ap_sWh, ap_iSeq, items_l, items_t, ap_iRange1, ap_iRange2, wipeE_nil, wipeE_cons, evA_nil, evA_cons, RL.cons_ok, RL.cons_exc, RL.bind_ok, RL.bind_exc, RL.out_ok, RL.out_exc, Rs.bind_ok, Rs.bind_exc, Rs.out_ok, Rs.out_exc, Rs.of_some, Option.bind_some, List.getElem?_cons_zero, List.getElem?_cons_succ, List.set_cons_zero, List.set_cons_succ, List.map_cons, List.map_nil, List.cons_append, List.nil_append, List.length_cons, List.length_nil, Nat.reduceAdd, Nat.reduceSub, Nat.reduceLeDiff, Nat.reduceLT, Bool.not_true, Bool.not_false, decide_true, decide_false]) (by omega) (by
    intro v hv
    have q16 : ((wipeE ρ [16]).set 16 (some (.val (.int v))))[16]? = some (some (.val (.int v))) := wset_self _ _ (by omega)
    have q9 : ((wipeE ρ [16]).set 16 (some (.val (.int v))))[9]? = some (some (.val (.list (L.map PyData.int)))) := by rw [wset_ne _ _ (by decide), e9]
    generalize (wipeE ρ [16]).set 16 (some (.val (.int v))) = ρ2 at q16 q9 ⊢
    have ec : eCnt (eV 9) (eV 16) ρ2 = .ok (.int ((L.count v : Nat) : Int)) := by
      rw [ap_eCnt _ _ _ (L.map PyData.int) (by simp -implicitDefEqProofs only [q9, ap_sSeq, seqO_nx, seqO_rt, seqO_exc, ap_sIf, ifO_t, ifO_f, ifO_exc, ap_sNx, ap_sSet, ap_sOwn, ap_sRet, ap_sDrop, ap_sAsg, outB_some, bT_nm, bT_tp, bTs_nil, bTs_cons, ap_sRaise, ap_sPar, parO_ok, ap_sFor, ap_sRetV, retO_own, retO_val, ap_sFrz, frzO_own, frzO_val, ap_sApp, ap_sExt, ap_eV, valO_val, ap_eB, borO_val, borO_own, ap_eC, ap_eOp, opO_ok, ap_eUn, ap_eTup, ap_eLst, tupR_ok, lstR_ok, ap_eCB, ap_eCall, callO_ok, callO_exc, ap_gNot, notR_b, ap_gTru, truR_b, truR_list, ap_gAnd, ap_gOr, andO_t, andO_f, orO_t, orO_f, ap_eAnd, ap_eOr, eandO_t, eandO_f, eorO_t, eorO_f, ap_eNot, enotO_b, enotO_list, ap_eIf, eifO_t, eifO_f, ap_eChain, chO_ok, ap_eIsi, isiO_int, isiO_tup, isiO_lst, isiO_bl, isiO_str, isiO_non, isInt_int, isInt_bl, isInt_tup, isInt_lst, isInt_str, isInt_non, isBool_int, isBool_bl, isTup_tup, isTup_lst, isTup_int, isTup_non, isTup_str, isTup_bl, isLst_lst, isLst_tup, f_add, f_sub, f_neg, f_eqI, f_neI, f_eqB, f_neB, f_lt, f_le, f_gt, f_ge, f_is, f_isNot, isNone_int, isNone_tup, isNone_lst, isNone_non, f_len_l, f_len_t, f_len_rd, f_tup_l, f_tup_t, f_max2, f_min2, f_abs, f_sum_l, f_sum_t, f_ix0, f_ix1, f_ix2, f_ix3, f_rev_t, outR_nx, outR_rt, outR_exc, nones0, nonesS, runB_eq, ap_eSl, optI_none, optI_some, optO_int, ap_sWh, ap_iSeq, items_l, items_t, ap_iRange1, ap_iRange2, wipeE_nil, wipeE_cons, evA_nil, evA_cons, RL.cons_ok, RL.cons_exc, RL.bind_ok, RL.bind_exc, RL.out_ok, RL.out_exc, Rs.bind_ok, Rs.bind_exc, Rs.out_ok, Rs.out_exc, Rs.of_some, Option.bind_some, List.getElem?_cons_zero, List.getElem?_cons_succ, List.set_cons_zero, List.set_cons_succ, List.map_cons, List.map_nil, List.cons_append, List.nil_append, List.length_cons, List.length_nil, Nat.reduceAdd, Nat.reduceSub, Nat.reduceLeDiff, Nat.reduceLT, Bool.not_true, Bool.not_false, decide_true, decide_false])]
      simp -implicitDefEqProofs only [q16, cntF, intsOf_map, Option.map_some, ap_sSeq, seqO_nx, seqO_rt, seqO_exc, ap_sIf, ifO_t, ifO_f, ifO_exc, ap_sNx, ap_sSet, ap_sOwn, ap_sRet, ap_sDrop, ap_sAsg, outB_some, bT_nm, bT_tp, bTs_nil, bTs_cons, ap_sRaise, ap_sPar, parO_ok, ap_sFor, ap_sRetV, retO_own, retO_val, ap_sFrz, frzO_own, frzO_val, ap_sApp, ap_sExt, ap_eV, valO_val, ap_eB, borO_val, borO_own, ap_eC, ap_eOp, opO_ok, ap_eUn, ap_eTup, ap_eLst, tupR_ok, lstR_ok, ap_eCB, ap_eCall, callO_ok, callO_exc, ap_gNot, notR_b, ap_gTru, truR_b, truR_list, ap_gAnd, ap_gOr, andO_t, andO_f, orO_t, orO_f, ap_eAnd, ap_eOr, eandO_t, eandO_f, eorO_t, eorO_f, ap_eNot, enotO_b, enotO_list, ap_eIf, eifO_t, eifO_f, ap_eChain, chO_ok, ap_eIsi, isiO_int, isiO_tup, isiO_lst, isiO_bl, isiO_str, isiO_non, isInt_int, isInt_bl, isInt_tup, isInt_lst, isInt_str, isInt_non, isBool_int, isBool_bl, isTup_tup, isTup_lst, isTup_int, isTup_non, isTup_str, isTup_bl, isLst_lst, isLst_tup, f_add, f_sub, f_neg, f_eqI, f_neI, f_eqB, f_neB, f_lt, f_le, f_gt, f_ge, f_is, f_isNot, isNone_int, isNone_tup, isNone_lst, isNone_non, f_len_l, f_len_t, f_len_rd, f_tup_l, f_tup_t, f_max2, f_min2, f_abs, f_sum_l, f_sum_t, f_ix0, f_ix1, f_ix2, f_ix3, f_rev_t, outR_nx, outR_rt, outR_exc, nones0, nonesS, runB_eq, ap_eSl, optI_none, optI_some, optO_int, ap_sWh, ap_iSeq, items_l, items_t, ap_iRange1, ap_iRange2, wipeE_nil, wipeE_cons, evA_nil, evA_cons, RL.cons_ok, RL.cons_exc, RL.bind_ok, RL.bind_exc, RL.out_ok, RL.out_exc, Rs.bind_ok, Rs.bind_exc, Rs.out_ok, Rs.out_exc, Rs.of_some, Option.bind_some, List.getElem?_cons_zero, List.getElem?_cons_succ, List.set_cons_zero, List.set_cons_succ, List.map_cons, List.map_nil, List.cons_append, List.nil_append, List.length_cons, List.length_nil, Nat.reduceAdd, Nat.reduceSub, Nat.reduceLeDiff, Nat.reduceLT, Bool.not_true, Bool.not_false, decide_true, decide_false]
    simp -implicitDefEqProofs only [q16, ec, ap_sSeq, seqO_nx, seqO_rt, seqO_exc, ap_sIf, ifO_t, ifO_f, ifO_exc, ap_sNx, ap_sSet, ap_sOwn, ap_sRet, ap_sDrop, ap_sAsg, outB_some, bT_nm, bT_tp, bTs_nil, bTs_cons, ap_sRaise, ap_sPar, parO_ok, ap_sFor, ap_sRetV, retO_own, retO_val, ap_sFrz, frzO_own, frzO_val, ap_sApp, ap_sExt, ap_eV, valO_val, ap_eB, borO_val, borO_own, ap_eC, ap_eOp, opO_ok, ap_eUn, ap_eTup, ap_eLst, tupR_ok, lstR_ok, ap_eCB, ap_eCall, callO_ok, callO_exc, ap_gNot, notR_b, ap_gTru, truR_b, truR_list, ap_gAnd, ap_gOr, andO_t, andO_f, orO_t, orO_f, ap_eAnd, ap_eOr, eandO_t, eandO_f, eorO_t, eorO_f, ap_eNot, enotO_b, enotO_list, ap_eIf, eifO_t, eifO_f, ap_eChain, chO_ok, ap_eIsi, isiO_int, isiO_tup, isiO_lst, isiO_bl, isiO_str, isiO_non, isInt_int, isInt_bl, isInt_tup, isInt_lst, isInt_str, isInt_non, isBool_int, isBool_bl, isTup_tup, isTup_lst, isTup_int, isTup_non, isTup_str, isTup_bl, isLst_lst, isLst_tup, f_add, f_sub, f_neg, f_eqI, f_neI, f_eqB, f_neB, f_lt, f_le, f_gt, f_ge, f_is, f_isNot, isNone_int, isNone_tup, isNone_lst, isNone_non, f_len_l, f_len_t, f_len_rd, f_tup_l, f_tup_t, f_max2, f_min2, f_abs, f_sum_l, f_sum_t, f_ix0, f_ix1, f_ix2, f_ix3, f_rev_t, outR_nx, outR_rt, outR_exc, nones0, nonesS, runB_eq, ap_eSl, optI_none, optI_some, optO_int, ap_sWh, ap_iSeq, items_l, items_t, ap_iRange1, ap_iRange2, wipeE_nil, wipeE_cons, evA_nil, evA_cons, RL.cons_ok, RL.cons_exc, RL.bind_ok, RL.bind_exc, RL.out_ok, RL.out_exc, Rs.bind_ok, Rs.bind_exc, Rs.out_ok, Rs.out_exc, Rs.of_some, Option.bind_some, List.getElem?_cons_zero, List.getElem?_cons_succ, List.set_cons_zero, List.set_cons_succ, List.map_cons, List.map_nil, List.cons_append, List.nil_append, List.length_cons, List.length_nil, Nat.reduceAdd, Nat.reduceSub, Nat.reduceLeDiff, Nat.reduceLT, Bool.not_true, Bool.not_false, decide_true, decide_false]
    exact ⟨trivial, rfl⟩)]
  unfold cntL
  rw [List.map_map]
  rfl
theorem lights (k : Int) : ∃ d, ixF (.list [.int 256, .int (-256), .none, .bool true]) (.int (k % 4)) = some d ∧ sem_is_within [d, .int (-255), .int 255] = .ok (.bool false) := by
  have : k % 4 = 0 ∨ k % 4 = 1 ∨ k % 4 = 2 ∨ k % 4 = 3 := by omega
  rcases this with e | e | e | e <;> rw [e]
  · exact ⟨.int 256, by kernel_rfl, by rw [is_within_eq]; rfl⟩
  · exact ⟨.int (-256), by kernel_rfl, by rw [is_within_eq]; rfl⟩
  · exact ⟨.none, by kernel_rfl, within_none _ _⟩
  · exact ⟨.bool true, by kernel_rfl, within_bool _ _ _⟩
theorem places (k : Int) (b : Int) : ∃ d, ixF (.list [.none, .int (-1), .bool true]) (.int (k % 3)) = some d ∧ sem_is_within [d, .int 0, .int b] = .ok (.bool false) := by
  have : k % 3 = 0 ∨ k % 3 = 1 ∨ k % 3 = 2 := by omega
  rcases this with e | e | e <;> rw [e]
  · exact ⟨.none, by kernel_rfl, within_none _ _⟩
  · exact ⟨.int (-1), by kernel_rfl, by rw [is_within_eq]; simp⟩
  · exact ⟨.bool true, by kernel_rfl, within_bool _ _ _⟩
theorem law_true : ∀ ns : List Int, ns.length ≤ 63 → sem_law [rdL ns] = .ok (.bool true) := by
  intro ns _
  obtain ⟨r, er, R⟩ := law_row_eq ns 2 (by decide)
  obtain ⟨s, h, w, ea, S, ah, aw⟩ := law_shot_eq R 5 (r.getD 0 0) (by decide)
  have i0 : ixF (.list (r.map PyData.int)) (.int 0) = some (.int (r.getD 0 0)) := R.at 0 (by decide) (by decide)
  have i1 : ixF (.list (r.map PyData.int)) (.int 1) = some (.int (r.getD 1 0)) := R.at 1 (by decide) (by decide)
  have i2 : ixF (.list (r.map PyData.int)) (.int 2) = some (.int (r.getD 2 0)) := R.at 2 (by decide) (by decide)
  have i40 : ixF (.list (r.map PyData.int)) (.int 40) = some (.int (r.getD 40 0)) := R.at 40 (by decide) (by decide)
  have i41 : ixF (.list (r.map PyData.int)) (.int 41) = some (.int (r.getD 41 0)) := R.at 41 (by decide) (by decide)
  have i42 : ixF (.list (r.map PyData.int)) (.int 42) = some (.int (r.getD 42 0)) := R.at 42 (by decide) (by decide)
  have i43 : ixF (.list (r.map PyData.int)) (.int 43) = some (.int (r.getD 43 0)) := R.at 43 (by decide) (by decide)
  have i44 : ixF (.list (r.map PyData.int)) (.int 44) = some (.int (r.getD 44 0)) := R.at 44 (by decide) (by decide)
  have i45 : ixF (.list (r.map PyData.int)) (.int 45) = some (.int (r.getD 45 0)) := R.at 45 (by decide) (by decide)
  generalize r.getD 0 0 = r0 at *
  generalize r.getD 1 0 = r1 at *
  generalize r.getD 2 0 = r2 at *
  generalize r.getD 40 0 = r40 at *
  generalize r.getD 41 0 = r41 at *
  generalize r.getD 42 0 = r42 at *
  generalize r.getD 43 0 = r43 at *
  generalize r.getD 44 0 = r44 at *
  generalize r.getD 45 0 = r45 at *
  have a1 := S.w1; have a2 := S.h1
  have al := S.len
  have za : ixF (shD s) (.int 0) = some (rowD (rw' s 0)) := ix_sh s 0 (by decide) (by omega)
  have la : (rw' s 0).length = w := S.rlen (by decide) (by omega)
  have rg : (RL.ok [.int (w : Int)]).items rng1 = .ok (rangeD 0 w) := by
    rw [rng1_ok _ (by omega) (by omega), Int.toNat_natCast]
  obtain ⟨o6, dg⟩ := due_go S (some (.val (rdL ns))) (some (.val (.list (r.map PyData.int))))
  have ed : dueL s h w = turnL s h w := rfl
  rw [ed] at dg
  have t1 := turned_eq S
  have m0 := mirrored_eq S
  have m1 : mulF (.int r1) (.int 3) = some (.int (r1 * 3)) := f_mul _ _ (.inr (by decide))
  have q1 : modF (.int (r1 * 3)) (.int 511) = some (.int (r1 * 3 % 511)) := f_modP _ _ (by decide)
  have lt := lit_eq S (r1 * 3 % 511 - 255) (by omega)
  obtain ⟨d2, x2, w2⟩ := lights r2
  have lr := lit_refused S d2 w2
  have q2 : modF (.int r2) (.int 4) = some (.int (r2 % 4)) := f_modP _ _ (by decide)
  have fl := flat_len S.row
  rw [al] at fl
  have f25 : h * w ≤ 5 * 5 := Nat.mul_le_mul ah aw
  have f1 : 1 * 1 ≤ h * w := Nat.mul_le_mul a2 a1
  have mn := mean_eq S
  have hw' : (w : Int) * h = ((s.flatten.length : Nat) : Int) := by rw [fl, Int.mul_comm]; simp
  rw [hw'] at mn
  have ll := lleast_big s.flatten.sum (s.flatten.length : Int) (by omega) ((Bd.of (k := 10) 0 25 (by omega) (by decide) (by decide)).mono (by decide))
  obtain ⟨ps, sp, C⟩ := spread_eq S
  rw [C.sorted_eq (cnt_cntL s.flatten) (List.Perm.refl _), cnt_sorted] at sp
  have q40 : modF (.int r40) (.int 6) = some (.int (r40 % 6)) := f_modP _ _ (by decide)
  have q41 : modF (.int r41) (.int 6) = some (.int (r41 % 6)) := f_modP _ _ (by decide)
  have q42 : modF (.int r42) (.int 6) = some (.int (r42 % 6)) := f_modP _ _ (by decide)
  have q43 : modF (.int r43) (.int 6) = some (.int (r43 % 6)) := f_modP _ _ (by decide)
  have q44 : modF (.int r44) (.int 6) = some (.int (r44 % 6)) := f_modP _ _ (by decide)
  have q45 : modF (.int r45) (.int 3) = some (.int (r45 % 3)) := f_modP _ _ (by decide)
  have b0 : 0 ≤ r40 % 6 := by omega
  have b1 : 0 ≤ r41 % 6 := by omega
  have b2 : 0 ≤ r42 % 6 := by omega
  have b3 : 0 ≤ r43 % 6 := by omega
  obtain ⟨o10, fg⟩ := flat_go (some (.val (rdL ns))) (some (.val (.list (r.map PyData.int)))) (some (.val (shD s))) (some (.val (.int (h : Int)))) (some (.val (.int (w : Int)))) (some (.own (.list ((dueL s h w).map rowD)))) o6 (some (.val (.int (r1 * 3 % 511 - 255)))) (some (.val (.tuple ((litL (r1 * 3 % 511 - 255) s).map rowD)))) s [] none (by simp -implicitDefEqProofs only [List.length_nil]; omega)
  rw [List.nil_append, ed, List.map_nil] at fg
  have ll' := lit_law S (r1 * 3 % 511 - 255)
  have ml := mir_law S
  have cl := count_law s.flatten (by omega)
  obtain ⟨d5, x5, w5⟩ := places r45 ((w : Int) - 1)
  have ct := cut_told (s := s) d5 (.int (r41 % 6)) (.int (r42 % 6)) (.int (r43 % 6)) .none (cut_badx S d5 _ _ _ w5)
  have cw := cut_law S (r40 % 6) (r41 % 6) (r42 % 6) (r43 % 6) b0 b1 b2 b3
  by_cases e44 : r44 % 6 = 0
  · simp -implicitDefEqProofs only [sem_law, b_law, er, i0, ea, za, len_sh, len_row, al, la, rg, dg, t1, m0, tup_due, tup_rows, ne_sh', eq_sh', ne_fr', ne_txt, eq_txt, f_sum_l, List.length_map, ml, i1, m1, q1, lt, ll', i2, q2, x2, lr, fg, mn, ll, ne_fr, sp, cl, ne_enc, i40, i41, i42, i43, q40, q41, q42, q43, i44, q44, e44, items_sh, i45, q45, x5, ct, ap_sSeq, seqO_nx, seqO_rt, seqO_exc, ap_sIf, ifO_t, ifO_f, ifO_exc, ap_sNx, ap_sSet, ap_sOwn, ap_sRet, ap_sDrop, ap_sAsg, outB_some, bT_nm, bT_tp, bTs_nil, bTs_cons, ap_sRaise, ap_sPar, parO_ok, ap_sFor, ap_sRetV, retO_own, retO_val, ap_sFrz, frzO_own, frzO_val, ap_sApp, ap_sExt, ap_eV, valO_val, ap_eB, borO_val, borO_own, ap_eC, ap_eOp, opO_ok, ap_eUn, ap_eTup, ap_eLst, tupR_ok, lstR_ok, ap_eCB, ap_eCall, callO_ok, callO_exc, ap_gNot, notR_b, ap_gTru, truR_b, truR_list, ap_gAnd, ap_gOr, andO_t, andO_f, orO_t, orO_f, ap_eAnd, ap_eOr, eandO_t, eandO_f, eorO_t, eorO_f, ap_eNot, enotO_b, enotO_list, ap_eIf, eifO_t, eifO_f, ap_eChain, chO_ok, ap_eIsi, isiO_int, isiO_tup, isiO_lst, isiO_bl, isiO_str, isiO_non, isInt_int, isInt_bl, isInt_tup, isInt_lst, isInt_str, isInt_non, isBool_int, isBool_bl, isTup_tup, isTup_lst, isTup_int, isTup_non, isTup_str, isTup_bl, isLst_lst, isLst_tup, f_add, f_sub, f_neg, f_eqI, f_neI, f_eqB, f_neB, f_lt, f_le, f_gt, f_ge, f_is, f_isNot, isNone_int, isNone_tup, isNone_lst, isNone_non, f_len_l, f_len_t, f_len_rd, f_tup_l, f_tup_t, f_max2, f_min2, f_abs, f_sum_l, f_sum_t, f_ix0, f_ix1, f_ix2, f_ix3, f_rev_t, outR_nx, outR_rt, outR_exc, nones0, nonesS, runB_eq, ap_eSl, optI_none, optI_some, optO_int, ap_sWh, ap_iSeq, items_l, items_t, ap_iRange1, ap_iRange2, wipeE_nil, wipeE_cons, evA_nil, evA_cons, RL.cons_ok, RL.cons_exc, RL.bind_ok, RL.bind_exc, RL.out_ok, RL.out_exc, Rs.bind_ok, Rs.bind_exc, Rs.out_ok, Rs.out_exc, Rs.of_some, Option.bind_some, List.getElem?_cons_zero, List.getElem?_cons_succ, List.set_cons_zero, List.set_cons_succ, List.map_cons, List.map_nil, List.cons_append, List.nil_append, List.length_cons, List.length_nil, Nat.reduceAdd, Nat.reduceSub, Nat.reduceLeDiff, Nat.reduceLT, Bool.not_true, Bool.not_false, decide_true, decide_false]
  · by_cases hg : r40 % 6 + r42 % 6 ≤ w ∧ r41 % 6 + r43 % 6 ≤ h ∧ 0 < r42 % 6 ∧ 0 < r43 % 6
    · obtain ⟨g1, g2, g3, g4⟩ := hg
      have co := cut_told_ok _ _ _ _ (cut_out_eq S (r40 % 6) (r41 % 6) (r42 % 6) (r43 % 6) b0 b1 (by omega) (by omega) g1 g2)
      simp -implicitDefEqProofs only [sem_law, b_law, er, i0, ea, za, len_sh, len_row, al, la, rg, dg, t1, m0, tup_due, tup_rows, ne_sh', eq_sh', ne_fr', ne_txt, eq_txt, f_sum_l, List.length_map, ml, i1, m1, q1, lt, ll', i2, q2, x2, lr, fg, mn, ll, ne_fr, sp, cl, ne_enc, i40, i41, i42, i43, q40, q41, q42, q43, i44, q44, e44, items_sh, co, cw, g1, g2, g3, g4, ap_sSeq, seqO_nx, seqO_rt, seqO_exc, ap_sIf, ifO_t, ifO_f, ifO_exc, ap_sNx, ap_sSet, ap_sOwn, ap_sRet, ap_sDrop, ap_sAsg, outB_some, bT_nm, bT_tp, bTs_nil, bTs_cons, ap_sRaise, ap_sPar, parO_ok, ap_sFor, ap_sRetV, retO_own, retO_val, ap_sFrz, frzO_own, frzO_val, ap_sApp, ap_sExt, ap_eV, valO_val, ap_eB, borO_val, borO_own, ap_eC, ap_eOp, opO_ok, ap_eUn, ap_eTup, ap_eLst, tupR_ok, lstR_ok, ap_eCB, ap_eCall, callO_ok, callO_exc, ap_gNot, notR_b, ap_gTru, truR_b, truR_list, ap_gAnd, ap_gOr, andO_t, andO_f, orO_t, orO_f, ap_eAnd, ap_eOr, eandO_t, eandO_f, eorO_t, eorO_f, ap_eNot, enotO_b, enotO_list, ap_eIf, eifO_t, eifO_f, ap_eChain, chO_ok, ap_eIsi, isiO_int, isiO_tup, isiO_lst, isiO_bl, isiO_str, isiO_non, isInt_int, isInt_bl, isInt_tup, isInt_lst, isInt_str, isInt_non, isBool_int, isBool_bl, isTup_tup, isTup_lst, isTup_int, isTup_non, isTup_str, isTup_bl, isLst_lst, isLst_tup, f_add, f_sub, f_neg, f_eqI, f_neI, f_eqB, f_neB, f_lt, f_le, f_gt, f_ge, f_is, f_isNot, isNone_int, isNone_tup, isNone_lst, isNone_non, f_len_l, f_len_t, f_len_rd, f_tup_l, f_tup_t, f_max2, f_min2, f_abs, f_sum_l, f_sum_t, f_ix0, f_ix1, f_ix2, f_ix3, f_rev_t, outR_nx, outR_rt, outR_exc, nones0, nonesS, runB_eq, ap_eSl, optI_none, optI_some, optO_int, ap_sWh, ap_iSeq, items_l, items_t, ap_iRange1, ap_iRange2, wipeE_nil, wipeE_cons, evA_nil, evA_cons, RL.cons_ok, RL.cons_exc, RL.bind_ok, RL.bind_exc, RL.out_ok, RL.out_exc, Rs.bind_ok, Rs.bind_exc, Rs.out_ok, Rs.out_exc, Rs.of_some, Option.bind_some, List.getElem?_cons_zero, List.getElem?_cons_succ, List.set_cons_zero, List.set_cons_succ, List.map_cons, List.map_nil, List.cons_append, List.nil_append, List.length_cons, List.length_nil, Nat.reduceAdd, Nat.reduceSub, Nat.reduceLeDiff, Nat.reduceLT, Bool.not_true, Bool.not_false, decide_true, decide_false]

    · have co := cut_told _ _ _ _ .none (cut_bad S (r40 % 6) (r41 % 6) (r42 % 6) (r43 % 6) b0 b1 b2 b3 hg)
      by_cases g1 : r40 % 6 + r42 % 6 ≤ w
      · by_cases g2 : r41 % 6 + r43 % 6 ≤ h
        · by_cases g3 : 0 < r42 % 6
          · have g4 : ¬ 0 < r43 % 6 := fun z => hg ⟨g1, g2, g3, z⟩
            simp -implicitDefEqProofs only [sem_law, b_law, er, i0, ea, za, len_sh, len_row, al, la, rg, dg, t1, m0, tup_due, tup_rows, ne_sh', eq_sh', ne_fr', ne_txt, eq_txt, f_sum_l, List.length_map, ml, i1, m1, q1, lt, ll', i2, q2, x2, lr, fg, mn, ll, ne_fr, sp, cl, ne_enc, i40, i41, i42, i43, q40, q41, q42, q43, i44, q44, e44, items_sh, co, cw, g1, g2, g3, g4, ap_sSeq, seqO_nx, seqO_rt, seqO_exc, ap_sIf, ifO_t, ifO_f, ifO_exc, ap_sNx, ap_sSet, ap_sOwn, ap_sRet, ap_sDrop, ap_sAsg, outB_some, bT_nm, bT_tp, bTs_nil, bTs_cons, ap_sRaise, ap_sPar, parO_ok, ap_sFor, ap_sRetV, retO_own, retO_val, ap_sFrz, frzO_own, frzO_val, ap_sApp, ap_sExt, ap_eV, valO_val, ap_eB, borO_val, borO_own, ap_eC, ap_eOp, opO_ok, ap_eUn, ap_eTup, ap_eLst, tupR_ok, lstR_ok, ap_eCB, ap_eCall, callO_ok, callO_exc, ap_gNot, notR_b, ap_gTru, truR_b, truR_list, ap_gAnd, ap_gOr, andO_t, andO_f, orO_t, orO_f, ap_eAnd, ap_eOr, eandO_t, eandO_f, eorO_t, eorO_f, ap_eNot, enotO_b, enotO_list, ap_eIf, eifO_t, eifO_f, ap_eChain, chO_ok, ap_eIsi, isiO_int, isiO_tup, isiO_lst, isiO_bl, isiO_str, isiO_non, isInt_int, isInt_bl, isInt_tup, isInt_lst, isInt_str, isInt_non, isBool_int, isBool_bl, isTup_tup, isTup_lst, isTup_int, isTup_non, isTup_str, isTup_bl, isLst_lst, isLst_tup, f_add, f_sub, f_neg, f_eqI, f_neI, f_eqB, f_neB, f_lt, f_le, f_gt, f_ge, f_is, f_isNot, isNone_int, isNone_tup, isNone_lst, isNone_non, f_len_l, f_len_t, f_len_rd, f_tup_l, f_tup_t, f_max2, f_min2, f_abs, f_sum_l, f_sum_t, f_ix0, f_ix1, f_ix2, f_ix3, f_rev_t, outR_nx, outR_rt, outR_exc, nones0, nonesS, runB_eq, ap_eSl, optI_none, optI_some, optO_int, ap_sWh, ap_iSeq, items_l, items_t, ap_iRange1, ap_iRange2, wipeE_nil, wipeE_cons, evA_nil, evA_cons, RL.cons_ok, RL.cons_exc, RL.bind_ok, RL.bind_exc, RL.out_ok, RL.out_exc, Rs.bind_ok, Rs.bind_exc, Rs.out_ok, Rs.out_exc, Rs.of_some, Option.bind_some, List.getElem?_cons_zero, List.getElem?_cons_succ, List.set_cons_zero, List.set_cons_succ, List.map_cons, List.map_nil, List.cons_append, List.nil_append, List.length_cons, List.length_nil, Nat.reduceAdd, Nat.reduceSub, Nat.reduceLeDiff, Nat.reduceLT, Bool.not_true, Bool.not_false, decide_true, decide_false]
          · simp -implicitDefEqProofs only [sem_law, b_law, er, i0, ea, za, len_sh, len_row, al, la, rg, dg, t1, m0, tup_due, tup_rows, ne_sh', eq_sh', ne_fr', ne_txt, eq_txt, f_sum_l, List.length_map, ml, i1, m1, q1, lt, ll', i2, q2, x2, lr, fg, mn, ll, ne_fr, sp, cl, ne_enc, i40, i41, i42, i43, q40, q41, q42, q43, i44, q44, e44, items_sh, co, cw, g1, g2, g3, ap_sSeq, seqO_nx, seqO_rt, seqO_exc, ap_sIf, ifO_t, ifO_f, ifO_exc, ap_sNx, ap_sSet, ap_sOwn, ap_sRet, ap_sDrop, ap_sAsg, outB_some, bT_nm, bT_tp, bTs_nil, bTs_cons, ap_sRaise, ap_sPar, parO_ok, ap_sFor, ap_sRetV, retO_own, retO_val, ap_sFrz, frzO_own, frzO_val, ap_sApp, ap_sExt, ap_eV, valO_val, ap_eB, borO_val, borO_own, ap_eC, ap_eOp, opO_ok, ap_eUn, ap_eTup, ap_eLst, tupR_ok, lstR_ok, ap_eCB, ap_eCall, callO_ok, callO_exc, ap_gNot, notR_b, ap_gTru, truR_b, truR_list, ap_gAnd, ap_gOr, andO_t, andO_f, orO_t, orO_f, ap_eAnd, ap_eOr, eandO_t, eandO_f, eorO_t, eorO_f, ap_eNot, enotO_b, enotO_list, ap_eIf, eifO_t, eifO_f, ap_eChain, chO_ok, ap_eIsi, isiO_int, isiO_tup, isiO_lst, isiO_bl, isiO_str, isiO_non, isInt_int, isInt_bl, isInt_tup, isInt_lst, isInt_str, isInt_non, isBool_int, isBool_bl, isTup_tup, isTup_lst, isTup_int, isTup_non, isTup_str, isTup_bl, isLst_lst, isLst_tup, f_add, f_sub, f_neg, f_eqI, f_neI, f_eqB, f_neB, f_lt, f_le, f_gt, f_ge, f_is, f_isNot, isNone_int, isNone_tup, isNone_lst, isNone_non, f_len_l, f_len_t, f_len_rd, f_tup_l, f_tup_t, f_max2, f_min2, f_abs, f_sum_l, f_sum_t, f_ix0, f_ix1, f_ix2, f_ix3, f_rev_t, outR_nx, outR_rt, outR_exc, nones0, nonesS, runB_eq, ap_eSl, optI_none, optI_some, optO_int, ap_sWh, ap_iSeq, items_l, items_t, ap_iRange1, ap_iRange2, wipeE_nil, wipeE_cons, evA_nil, evA_cons, RL.cons_ok, RL.cons_exc, RL.bind_ok, RL.bind_exc, RL.out_ok, RL.out_exc, Rs.bind_ok, Rs.bind_exc, Rs.out_ok, Rs.out_exc, Rs.of_some, Option.bind_some, List.getElem?_cons_zero, List.getElem?_cons_succ, List.set_cons_zero, List.set_cons_succ, List.map_cons, List.map_nil, List.cons_append, List.nil_append, List.length_cons, List.length_nil, Nat.reduceAdd, Nat.reduceSub, Nat.reduceLeDiff, Nat.reduceLT, Bool.not_true, Bool.not_false, decide_true, decide_false]
        · simp -implicitDefEqProofs only [sem_law, b_law, er, i0, ea, za, len_sh, len_row, al, la, rg, dg, t1, m0, tup_due, tup_rows, ne_sh', eq_sh', ne_fr', ne_txt, eq_txt, f_sum_l, List.length_map, ml, i1, m1, q1, lt, ll', i2, q2, x2, lr, fg, mn, ll, ne_fr, sp, cl, ne_enc, i40, i41, i42, i43, q40, q41, q42, q43, i44, q44, e44, items_sh, co, cw, g1, g2, ap_sSeq, seqO_nx, seqO_rt, seqO_exc, ap_sIf, ifO_t, ifO_f, ifO_exc, ap_sNx, ap_sSet, ap_sOwn, ap_sRet, ap_sDrop, ap_sAsg, outB_some, bT_nm, bT_tp, bTs_nil, bTs_cons, ap_sRaise, ap_sPar, parO_ok, ap_sFor, ap_sRetV, retO_own, retO_val, ap_sFrz, frzO_own, frzO_val, ap_sApp, ap_sExt, ap_eV, valO_val, ap_eB, borO_val, borO_own, ap_eC, ap_eOp, opO_ok, ap_eUn, ap_eTup, ap_eLst, tupR_ok, lstR_ok, ap_eCB, ap_eCall, callO_ok, callO_exc, ap_gNot, notR_b, ap_gTru, truR_b, truR_list, ap_gAnd, ap_gOr, andO_t, andO_f, orO_t, orO_f, ap_eAnd, ap_eOr, eandO_t, eandO_f, eorO_t, eorO_f, ap_eNot, enotO_b, enotO_list, ap_eIf, eifO_t, eifO_f, ap_eChain, chO_ok, ap_eIsi, isiO_int, isiO_tup, isiO_lst, isiO_bl, isiO_str, isiO_non, isInt_int, isInt_bl, isInt_tup, isInt_lst, isInt_str, isInt_non, isBool_int, isBool_bl, isTup_tup, isTup_lst, isTup_int, isTup_non, isTup_str, isTup_bl, isLst_lst, isLst_tup, f_add, f_sub, f_neg, f_eqI, f_neI, f_eqB, f_neB, f_lt, f_le, f_gt, f_ge, f_is, f_isNot, isNone_int, isNone_tup, isNone_lst, isNone_non, f_len_l, f_len_t, f_len_rd, f_tup_l, f_tup_t, f_max2, f_min2, f_abs, f_sum_l, f_sum_t, f_ix0, f_ix1, f_ix2, f_ix3, f_rev_t, outR_nx, outR_rt, outR_exc, nones0, nonesS, runB_eq, ap_eSl, optI_none, optI_some, optO_int, ap_sWh, ap_iSeq, items_l, items_t, ap_iRange1, ap_iRange2, wipeE_nil, wipeE_cons, evA_nil, evA_cons, RL.cons_ok, RL.cons_exc, RL.bind_ok, RL.bind_exc, RL.out_ok, RL.out_exc, Rs.bind_ok, Rs.bind_exc, Rs.out_ok, Rs.out_exc, Rs.of_some, Option.bind_some, List.getElem?_cons_zero, List.getElem?_cons_succ, List.set_cons_zero, List.set_cons_succ, List.map_cons, List.map_nil, List.cons_append, List.nil_append, List.length_cons, List.length_nil, Nat.reduceAdd, Nat.reduceSub, Nat.reduceLeDiff, Nat.reduceLT, Bool.not_true, Bool.not_false, decide_true, decide_false]
      · simp -implicitDefEqProofs only [sem_law, b_law, er, i0, ea, za, len_sh, len_row, al, la, rg, dg, t1, m0, tup_due, tup_rows, ne_sh', eq_sh', ne_fr', ne_txt, eq_txt, f_sum_l, List.length_map, ml, i1, m1, q1, lt, ll', i2, q2, x2, lr, fg, mn, ll, ne_fr, sp, cl, ne_enc, i40, i41, i42, i43, q40, q41, q42, q43, i44, q44, e44, items_sh, co, cw, g1, ap_sSeq, seqO_nx, seqO_rt, seqO_exc, ap_sIf, ifO_t, ifO_f, ifO_exc, ap_sNx, ap_sSet, ap_sOwn, ap_sRet, ap_sDrop, ap_sAsg, outB_some, bT_nm, bT_tp, bTs_nil, bTs_cons, ap_sRaise, ap_sPar, parO_ok, ap_sFor, ap_sRetV, retO_own, retO_val, ap_sFrz, frzO_own, frzO_val, ap_sApp, ap_sExt, ap_eV, valO_val, ap_eB, borO_val, borO_own, ap_eC, ap_eOp, opO_ok, ap_eUn, ap_eTup, ap_eLst, tupR_ok, lstR_ok, ap_eCB, ap_eCall, callO_ok, callO_exc, ap_gNot, notR_b, ap_gTru, truR_b, truR_list, ap_gAnd, ap_gOr, andO_t, andO_f, orO_t, orO_f, ap_eAnd, ap_eOr, eandO_t, eandO_f, eorO_t, eorO_f, ap_eNot, enotO_b, enotO_list, ap_eIf, eifO_t, eifO_f, ap_eChain, chO_ok, ap_eIsi, isiO_int, isiO_tup, isiO_lst, isiO_bl, isiO_str, isiO_non, isInt_int, isInt_bl, isInt_tup, isInt_lst, isInt_str, isInt_non, isBool_int, isBool_bl, isTup_tup, isTup_lst, isTup_int, isTup_non, isTup_str, isTup_bl, isLst_lst, isLst_tup, f_add, f_sub, f_neg, f_eqI, f_neI, f_eqB, f_neB, f_lt, f_le, f_gt, f_ge, f_is, f_isNot, isNone_int, isNone_tup, isNone_lst, isNone_non, f_len_l, f_len_t, f_len_rd, f_tup_l, f_tup_t, f_max2, f_min2, f_abs, f_sum_l, f_sum_t, f_ix0, f_ix1, f_ix2, f_ix3, f_rev_t, outR_nx, outR_rt, outR_exc, nones0, nonesS, runB_eq, ap_eSl, optI_none, optI_some, optO_int, ap_sWh, ap_iSeq, items_l, items_t, ap_iRange1, ap_iRange2, wipeE_nil, wipeE_cons, evA_nil, evA_cons, RL.cons_ok, RL.cons_exc, RL.bind_ok, RL.bind_exc, RL.out_ok, RL.out_exc, Rs.bind_ok, Rs.bind_exc, Rs.out_ok, Rs.out_exc, Rs.of_some, Option.bind_some, List.getElem?_cons_zero, List.getElem?_cons_succ, List.set_cons_zero, List.set_cons_succ, List.map_cons, List.map_nil, List.cons_append, List.nil_append, List.length_cons, List.length_nil, Nat.reduceAdd, Nat.reduceSub, Nat.reduceLeDiff, Nat.reduceLT, Bool.not_true, Bool.not_false, decide_true, decide_false]
end VVlaw

set_option Elab.async false
set_option linter.all false
set_option maxRecDepth 100000
set_option maxHeartbeats 0
namespace VVlaw
open PySem PySem.Spec L2 VV
open PyProof.Rows hiding St
def topS (i : Nat) : Stmt := PySem.Challenge.pw_vastview_k02_shots_turned_lit_and_cut.main.body.getD i (.Pass ⟨0, 0, 0, 0⟩)
abbrev s_is_within : Stmt := topS 5
theorem sc_is_within : FnScope ["thing", "low", "high"] ["thing", "low", "high"] (defScope s_is_within) := ⟨rfl, rfl, rfl, by decide +kernel, rfl, by decide +kernel, by decide +kernel⟩
abbrev s_common : Stmt := topS 6
theorem sc_common : FnScope ["one", "other"] ["one", "other"] (defScope s_common) := ⟨rfl, rfl, rfl, by decide +kernel, rfl, by decide +kernel, by decide +kernel⟩
abbrev s_least : Stmt := topS 7
theorem sc_least : FnScope ["top", "bottom", "part"] ["top", "bottom"] (defScope s_least) := ⟨rfl, rfl, rfl, by decide +kernel, rfl, by decide +kernel, by decide +kernel⟩
abbrev s_is_row : Stmt := topS 11
theorem sc_is_row : FnScope ["thing", "wide", "one"] ["thing", "wide"] (defScope s_is_row) := ⟨rfl, rfl, rfl, by decide +kernel, rfl, by decide +kernel, by decide +kernel⟩
abbrev s_is_shot : Stmt := topS 12
theorem sc_is_shot : FnScope ["thing", "row"] ["thing"] (defScope s_is_shot) := ⟨rfl, rfl, rfl, by decide +kernel, rfl, by decide +kernel, by decide +kernel⟩
abbrev s_look : Stmt := topS 13
theorem sc_look : FnScope ["shot"] ["shot"] (defScope s_look) := ⟨rfl, rfl, rfl, by decide +kernel, rfl, by decide +kernel, by decide +kernel⟩
abbrev s_size_of : Stmt := topS 14
theorem sc_size_of : FnScope ["shot"] ["shot"] (defScope s_size_of) := ⟨rfl, rfl, rfl, by decide +kernel, rfl, by decide +kernel, by decide +kernel⟩
abbrev s_turned : Stmt := topS 15
theorem sc_turned : FnScope ["shot", "wide", "high", "column", "at"] ["shot"] (defScope s_turned) := ⟨rfl, rfl, rfl, by decide +kernel, rfl, by decide +kernel, by decide +kernel⟩
abbrev s_mirrored : Stmt := topS 16
theorem sc_mirrored : FnScope ["shot", "row"] ["shot"] (defScope s_mirrored) := ⟨rfl, rfl, rfl, by decide +kernel, rfl, by decide +kernel, by decide +kernel⟩
abbrev s_lit : Stmt := topS 17
theorem sc_lit : FnScope ["shot", "more", "row", "one"] ["shot", "more"] (defScope s_lit) := ⟨rfl, rfl, rfl, by decide +kernel, rfl, by decide +kernel, by decide +kernel⟩
abbrev s_cut_out : Stmt := topS 18
theorem sc_cut_out : FnScope ["shot", "x", "y", "wide", "high", "across", "down", "row"] ["shot", "x", "y", "wide", "high"] (defScope s_cut_out) := ⟨rfl, rfl, rfl, by decide +kernel, rfl, by decide +kernel, by decide +kernel⟩
abbrev s_mean : Stmt := topS 19
theorem sc_mean : FnScope ["shot", "wide", "high", "row"] ["shot"] (defScope s_mean) := ⟨rfl, rfl, rfl, by decide +kernel, rfl, by decide +kernel, by decide +kernel⟩
abbrev s_spread : Stmt := topS 20
theorem sc_spread : FnScope ["shot", "found", "row", "one"] ["shot"] (defScope s_spread) := ⟨rfl, rfl, rfl, by decide +kernel, rfl, by decide +kernel, by decide +kernel⟩
abbrev s__law_cell : Stmt := topS 22
theorem sc__law_cell : FnScope ["script", "k"] ["script", "k"] (defScope s__law_cell) := ⟨rfl, rfl, rfl, by decide +kernel, rfl, by decide +kernel, by decide +kernel⟩
abbrev s__law_row : Stmt := topS 23
theorem sc__law_row : FnScope ["script", "at", "cell", "found", "time"] ["script", "at"] (defScope s__law_row) := ⟨rfl, rfl, rfl, by decide +kernel, rfl, by decide +kernel, by decide +kernel⟩
abbrev s__law_common : Stmt := topS 24
theorem sc__law_common : FnScope ["one", "other"] ["one", "other"] (defScope s__law_common) := ⟨rfl, rfl, rfl, by decide +kernel, rfl, by decide +kernel, by decide +kernel⟩
abbrev s__law_least : Stmt := topS 25
theorem sc__law_least : FnScope ["top", "bottom", "part"] ["top", "bottom"] (defScope s__law_least) := ⟨rfl, rfl, rfl, by decide +kernel, rfl, by decide +kernel, by decide +kernel⟩
abbrev s__law_shot : Stmt := topS 26
theorem sc__law_shot : FnScope ["row", "at", "way", "high", "across", "found", "y", "line", "x", "one"] ["row", "at", "way"] (defScope s__law_shot) := ⟨rfl, rfl, rfl, by decide +kernel, rfl, by decide +kernel, by decide +kernel⟩
abbrev s__law_lit_refused : Stmt := topS 27
theorem sc__law_lit_refused : FnScope ["shot", "more"] ["shot", "more"] (defScope s__law_lit_refused) := ⟨rfl, rfl, rfl, by decide +kernel, rfl, by decide +kernel, by decide +kernel⟩
abbrev s__law_cut_told : Stmt := topS 28
theorem sc__law_cut_told : FnScope ["shot", "x", "y", "wide", "tall", "e"] ["shot", "x", "y", "wide", "tall"] (defScope s__law_cut_told) := ⟨rfl, rfl, rfl, by decide +kernel, rfl, by decide +kernel, by decide +kernel⟩
abbrev s_law : Stmt := topS 29
theorem sc_law : FnScope ["script", "row", "shot", "high", "across", "due", "x", "more", "brighter", "flat_levels", "line", "box", "y", "wide", "tall", "good", "one"] ["script"] (defScope s_law) := ⟨rfl, rfl, rfl, by decide +kernel, rfl, by decide +kernel, by decide +kernel⟩
structure Tx (K : PySem.W.Frag) (mg : Str → Option Value) : Prop where
  free_abs : mg "abs" = none
  free_bool : mg "bool" = none
  free_int : mg "int" = none
  free_isinstance : mg "isinstance" = none
  free_len : mg "len" = none
  free_list : mg "list" = none
  free_max : mg "max" = none
  free_min : mg "min" = none
  free_range : mg "range" = none
  free_set : mg "set" = none
  free_sorted : mg "sorted" = none
  free_sum : mg "sum" = none
  free_tuple : mg "tuple" = none
  c_MOST_LEVEL : ∃ t, mg "MOST_LEVEL" = some (.int 255 t)
  c_MOST_SIDE : ∃ t, mg "MOST_SIDE" = some (.int 12 t)
  x_BadShot : ExK K mg "BadShot"
  x_BadWindow : ExK K mg "BadWindow"
  xg_BadShot : mg "BadShot" = some (.ref (He.ga K "BadShot"))
  xg_BadWindow : mg "BadWindow" = some (.ref (He.ga K "BadWindow"))
  xg_VastError : mg "VastError" = some (.ref (He.ga K "VastError"))
  m_BadShot_BadShot : PySem.W.exmOne K (.ref (He.ga K "BadShot")) (.ref (He.ga K "BadShot")) = some true
  m_BadShot_BadWindow : PySem.W.exmOne K (.ref (He.ga K "BadShot")) (.ref (He.ga K "BadWindow")) = some false
  m_BadWindow_BadShot : PySem.W.exmOne K (.ref (He.ga K "BadWindow")) (.ref (He.ga K "BadShot")) = some false
  m_BadWindow_BadWindow : PySem.W.exmOne K (.ref (He.ga K "BadWindow")) (.ref (He.ga K "BadWindow")) = some true
  m_BadWindow_VastError : PySem.W.exmOne K (.ref (He.ga K "BadWindow")) (.ref (He.ga K "VastError")) = some true
  ec_BadWindow : ExcC K (He.ga K "BadWindow")
  g_is_within : mg "is_within" = some (.ref (He.ga K "is_within"))
  f_is_within : ∃ fd, FunD K "is_within" "is_within" (defArgs s_is_within) (defBody s_is_within) (defScope s_is_within) [] [] (He.ga K "is_within") fd
  g_common : mg "common" = some (.ref (He.ga K "common"))
  f_common : ∃ fd, FunD K "common" "common" (defArgs s_common) (defBody s_common) (defScope s_common) [] [] (He.ga K "common") fd
  g_least : mg "least" = some (.ref (He.ga K "least"))
  f_least : ∃ fd, FunD K "least" "least" (defArgs s_least) (defBody s_least) (defScope s_least) [] [] (He.ga K "least") fd
  g_is_row : mg "is_row" = some (.ref (He.ga K "is_row"))
  f_is_row : ∃ fd, FunD K "is_row" "is_row" (defArgs s_is_row) (defBody s_is_row) (defScope s_is_row) [] [] (He.ga K "is_row") fd
  g_is_shot : mg "is_shot" = some (.ref (He.ga K "is_shot"))
  f_is_shot : ∃ fd, FunD K "is_shot" "is_shot" (defArgs s_is_shot) (defBody s_is_shot) (defScope s_is_shot) [] [] (He.ga K "is_shot") fd
  g_look : mg "look" = some (.ref (He.ga K "look"))
  f_look : ∃ fd, FunD K "look" "look" (defArgs s_look) (defBody s_look) (defScope s_look) [] [] (He.ga K "look") fd
  g_size_of : mg "size_of" = some (.ref (He.ga K "size_of"))
  f_size_of : ∃ fd, FunD K "size_of" "size_of" (defArgs s_size_of) (defBody s_size_of) (defScope s_size_of) [] [] (He.ga K "size_of") fd
  g_turned : mg "turned" = some (.ref (He.ga K "turned"))
  f_turned : ∃ fd, FunD K "turned" "turned" (defArgs s_turned) (defBody s_turned) (defScope s_turned) [] [] (He.ga K "turned") fd
  g_mirrored : mg "mirrored" = some (.ref (He.ga K "mirrored"))
  f_mirrored : ∃ fd, FunD K "mirrored" "mirrored" (defArgs s_mirrored) (defBody s_mirrored) (defScope s_mirrored) [] [] (He.ga K "mirrored") fd
  g_lit : mg "lit" = some (.ref (He.ga K "lit"))
  f_lit : ∃ fd, FunD K "lit" "lit" (defArgs s_lit) (defBody s_lit) (defScope s_lit) [] [] (He.ga K "lit") fd
  g_cut_out : mg "cut_out" = some (.ref (He.ga K "cut_out"))
  f_cut_out : ∃ fd, FunD K "cut_out" "cut_out" (defArgs s_cut_out) (defBody s_cut_out) (defScope s_cut_out) [] [] (He.ga K "cut_out") fd
  g_mean : mg "mean" = some (.ref (He.ga K "mean"))
  f_mean : ∃ fd, FunD K "mean" "mean" (defArgs s_mean) (defBody s_mean) (defScope s_mean) [] [] (He.ga K "mean") fd
  g_spread : mg "spread" = some (.ref (He.ga K "spread"))
  f_spread : ∃ fd, FunD K "spread" "spread" (defArgs s_spread) (defBody s_spread) (defScope s_spread) [] [] (He.ga K "spread") fd
  g__law_cell : mg "_law_cell" = some (.ref (He.ga K "_law_cell"))
  f__law_cell : ∃ fd, FunD K "_law_cell" "_law_cell" (defArgs s__law_cell) (defBody s__law_cell) (defScope s__law_cell) [] [] (He.ga K "_law_cell") fd
  g__law_row : mg "_law_row" = some (.ref (He.ga K "_law_row"))
  f__law_row : ∃ fd, FunD K "_law_row" "_law_row" (defArgs s__law_row) (defBody s__law_row) (defScope s__law_row) [] [] (He.ga K "_law_row") fd
  g__law_common : mg "_law_common" = some (.ref (He.ga K "_law_common"))
  f__law_common : ∃ fd, FunD K "_law_common" "_law_common" (defArgs s__law_common) (defBody s__law_common) (defScope s__law_common) [] [] (He.ga K "_law_common") fd
  g__law_least : mg "_law_least" = some (.ref (He.ga K "_law_least"))
  f__law_least : ∃ fd, FunD K "_law_least" "_law_least" (defArgs s__law_least) (defBody s__law_least) (defScope s__law_least) [] [] (He.ga K "_law_least") fd
  g__law_shot : mg "_law_shot" = some (.ref (He.ga K "_law_shot"))
  f__law_shot : ∃ fd, FunD K "_law_shot" "_law_shot" (defArgs s__law_shot) (defBody s__law_shot) (defScope s__law_shot) [] [] (He.ga K "_law_shot") fd
  g__law_lit_refused : mg "_law_lit_refused" = some (.ref (He.ga K "_law_lit_refused"))
  f__law_lit_refused : ∃ fd, FunD K "_law_lit_refused" "_law_lit_refused" (defArgs s__law_lit_refused) (defBody s__law_lit_refused) (defScope s__law_lit_refused) [] [] (He.ga K "_law_lit_refused") fd
  g__law_cut_told : mg "_law_cut_told" = some (.ref (He.ga K "_law_cut_told"))
  f__law_cut_told : ∃ fd, FunD K "_law_cut_told" "_law_cut_told" (defArgs s__law_cut_told) (defBody s__law_cut_told) (defScope s__law_cut_told) [] [] (He.ga K "_law_cut_told") fd
  g_law : mg "law" = some (.ref (He.ga K "law"))
  f_law : ∃ fd, FunD K "law" "law" (defArgs s_law) (defBody s_law) (defScope s_law) [] [] (He.ga K "law") fd
section
variable {P : Program} {w : World} {K : PySem.W.Frag} {mg : Str → Option Value} {base : Heap}
theorem only_BadShot (c : Str) (h : sub_BadShot c = some true) : c = "BadShot" := by
  unfold sub_BadShot at h
  repeat
    first
    | assumption
    | (split at h; first | assumption | cases h | skip)
  all_goals first | assumption | cases h
theorem hsub_BadShot (T : Tx K mg) (c : Str) (b : Bool) (h : sub_BadShot c = some b) : PySem.W.exmOne K (.ref (He.ga K c)) (.ref (He.ga K "BadShot")) = some b := by
  unfold sub_BadShot at h
  by_cases z : c = "BadShot"
  · rw [if_pos z] at h
    cases h
    subst z
    exact T.m_BadShot_BadShot
  rw [if_neg z] at h
  clear z
  by_cases z : c = "BadWindow"
  · rw [if_pos z] at h
    cases h
    subst z
    exact T.m_BadWindow_BadShot
  rw [if_neg z] at h
  clear z
  cases h
theorem only_BadWindow (c : Str) (h : sub_BadWindow c = some true) : c = "BadWindow" := by
  unfold sub_BadWindow at h
  repeat
    first
    | assumption
    | (split at h; first | assumption | cases h | skip)
  all_goals first | assumption | cases h
theorem hsub_BadWindow (T : Tx K mg) (c : Str) (b : Bool) (h : sub_BadWindow c = some b) : PySem.W.exmOne K (.ref (He.ga K c)) (.ref (He.ga K "BadWindow")) = some b := by
  unfold sub_BadWindow at h
  by_cases z : c = "BadShot"
  · rw [if_pos z] at h
    cases h
    subst z
    exact T.m_BadShot_BadWindow
  rw [if_neg z] at h
  clear z
  by_cases z : c = "BadWindow"
  · rw [if_pos z] at h
    cases h
    subst z
    exact T.m_BadWindow_BadWindow
  rw [if_neg z] at h
  clear z
  cases h
theorem ok_is_within (T : Tx K mg)  : Dn P w K mg base "is_within" 1 3 sem_is_within := by
  obtain ⟨fd, F⟩ := T.f_is_within
  refine ⟨_, fd, _, T.g_is_within, fn_sem (k := 0) (f := b_is_within) F sc_is_within ?_, F.kp, F.bindsN (ps := ["thing", "low", "high"]) fun _ _ _ _ _ _ us hl => match us, hl with | [_, _, _], _ => rfl⟩
  intro cdv A outer s H E hr tk hp
  exact (ss_one (ss_ret (se_and (se_isi kit_int T.free_isinstance T.free_int (seb (se_v 0))) (se_and (se_not (seb (se_isi kit_bool T.free_isinstance T.free_bool (seb (se_v 0))))) (se_one (se_chain op_leD op_leD (fun _ _ _ => cmpF_b) (seb (se_v 1)) (seb (se_v 0)) (seb (se_v 2))))))))
theorem ok_common (T : Tx K mg)  : Dn P w K mg base "common" 1 2 sem_common := by
  obtain ⟨fd, F⟩ := T.f_common
  refine ⟨_, fd, _, T.g_common, fn_sem (k := 0) (f := b_common) F sc_common ?_, F.kp, F.bindsN (ps := ["one", "other"]) fun _ _ _ _ _ _ us hl => match us, hl with | [_, _], _ => rfl⟩
  intro cdv A outer s H E hr tk hp
  exact (ss_cons (ss_while (f := lp_common_1) 1000000 hp (st_cmp (op_neX hr) (fun _ _ _ => neF_b) (seb (se_v 1)) (seb se_int)) (ss_one (ss_par (i := 0) (j := 1) sc_common.nd (by decide) (sa_cons (se_v 1) (sa_cons (se_op op_modD (seb (se_v 0)) (seb (se_v 1))) sa_nil)) (by rfl)))) (ss_one (ss_ret (se_cb cl_abs T.free_abs (sba_cons (seb (se_v 0)) sba_nil)))))
theorem ok_least (T : Tx K mg) (d_common : Dn P w K mg base "common" 1 2 sem_common) : Dn P w K mg base "least" 2 2 sem_least := by
  obtain ⟨fd, F⟩ := T.f_least
  refine ⟨_, fd, _, T.g_least, fn_sem (k := 1) (f := b_least) F sc_least ?_, F.kp, F.bindsN (ps := ["top", "bottom"]) fun _ _ _ _ _ _ us hl => match us, hl with | [_, _], _ => rfl⟩
  intro cdv A outer s H E hr tk hp
  exact (ss_cons (ss_set (i := 2) sc_least.nd (se_call d_common (hr.mono (by decide)) tk (sa_cons (se_v 0) (sa_cons (se_v 1) sa_nil)))) (ss_cons (ss_if (st_cmp op_ltD (fun _ _ _ => cmpF_b) (seb (se_v 1)) (seb se_int)) (ss_one (ss_set (i := 2) sc_least.nd (se_un un_negD (seb (se_v 2))))) ss_nil) (ss_one (ss_ret (se_tup (sa_cons (se_op op_divD (seb (se_v 0)) (seb (se_v 2))) (sa_cons (se_op op_divD (seb (se_v 1)) (seb (se_v 2))) sa_nil)))))))
theorem ok_is_row (T : Tx K mg) (d_is_within : Dn P w K mg base "is_within" 1 3 sem_is_within) : Dn P w K mg base "is_row" 2 2 sem_is_row := by
  obtain ⟨fd, F⟩ := T.f_is_row
  refine ⟨_, fd, _, T.g_is_row, fn_sem (k := 1) (f := b_is_row) F sc_is_row ?_, F.kp, F.bindsN (ps := ["thing", "wide"]) fun _ _ _ _ _ _ us hl => match us, hl with | [_, _], _ => rfl⟩
  intro cdv A outer s H E hr tk hp
  exact (ss_cons (ss_if (st_w (sw_or (st_not (st_tru (seb (se_isi kit_tup T.free_isinstance T.free_tuple (seb (se_v 0)))))) (sw_or1 (st_cmp (op_neX hr) (fun _ _ _ => neF_b) (seb (se_cb cl_len T.free_len (sba_cons (seb (se_v 0)) sba_nil))) (seb (se_v 1)))))) (ss_one (ss_ret se_bl)) ss_nil) (ss_one (ss_ret (se_not (snb (sn_lc (own := [("one", 2)]) sc_is_row.nd (si_seq (seb (se_v 0))) (blkOk_by (own := [("one", 2)]) (by kernel_rfl)) (fun _ _ _ _ _ => (sg_nm (i := 2) sc_is_row.nd)) (fun _ _ _ _ _ => (sts_one (st_not (st_tru (seb (se_call d_is_within (hr.mono (by decide)) takes0 (sa_cons (se_v 2) (sa_cons se_int (sa_cons (se_globI T.c_MOST_LEVEL) sa_nil))))))))) (fun _ _ _ _ _ => (se_v 2))))))))
theorem ok_is_shot (T : Tx K mg) (d_is_row : Dn P w K mg base "is_row" 2 2 sem_is_row) : Dn P w K mg base "is_shot" 3 1 sem_is_shot := by
  obtain ⟨fd, F⟩ := T.f_is_shot
  refine ⟨_, fd, _, T.g_is_shot, fn_sem (k := 2) (f := b_is_shot) F sc_is_shot ?_, F.kp, F.bindsN (ps := ["thing"]) fun _ _ _ _ _ _ us hl => match us, hl with | [_], _ => rfl⟩
  intro cdv A outer s H E hr tk hp
  exact (ss_cons (ss_if (st_w (sw_or (st_not (st_tru (seb (se_isi kit_tup T.free_isinstance T.free_tuple (seb (se_v 0)))))) (sw_or (st_not (st_chain op_leD op_leD (fun _ _ _ => cmpF_b) (fun _ _ _ => cmpF_b) (seb se_int) (seb (se_cb cl_len T.free_len (sba_cons (seb (se_v 0)) sba_nil))) (seb (se_globI T.c_MOST_SIDE)))) (sw_or1 (st_not (st_tru (seb (se_isi kit_tup T.free_isinstance T.free_tuple (seb (se_ix (seb (se_v 0)) (seb se_int))))))))))) (ss_one (ss_ret se_bl)) ss_nil) (ss_cons (ss_if (st_not (st_chain op_leD op_leD (fun _ _ _ => cmpF_b) (fun _ _ _ => cmpF_b) (seb se_int) (seb (se_cb cl_len T.free_len (sba_cons (seb (se_ix (seb (se_v 0)) (seb se_int))) sba_nil))) (seb (se_globI T.c_MOST_SIDE)))) (ss_one (ss_ret se_bl)) ss_nil) (ss_one (ss_ret (se_not (snb (sn_lc (own := [("row", 1)]) sc_is_shot.nd (si_seq (seb (se_v 0))) (blkOk_by (own := [("row", 1)]) (by kernel_rfl)) (fun _ _ _ _ _ => (sg_nm (i := 1) sc_is_shot.nd)) (fun _ _ _ _ _ => (sts_one (st_not (st_tru (seb (se_call d_is_row (hr.mono (by decide)) takes0 (sa_cons (se_v 1) (sa_cons (se_cb cl_len T.free_len (sba_cons (seb (se_ix (seb (se_v 0)) (seb se_int))) sba_nil)) sa_nil)))))))) (fun _ _ _ _ _ => (se_v 1)))))))))
theorem ok_look (T : Tx K mg) (d_is_shot : Dn P w K mg base "is_shot" 3 1 sem_is_shot) : Dn P w K mg base "look" 4 1 sem_look := by
  obtain ⟨fd, F⟩ := T.f_look
  refine ⟨_, fd, _, T.g_look, fn_sem (k := 3) (f := b_look) F sc_look ?_, F.kp, F.bindsN (ps := ["shot"]) fun _ _ _ _ _ _ us hl => match us, hl with | [_], _ => rfl⟩
  intro cdv A outer s H E hr tk hp
  exact (ss_one (ss_if (st_not (st_tru (seb (se_call d_is_shot (hr.mono (by decide)) tk (sa_cons (se_v 0) sa_nil))))) (ss_one (ss_raise tk T.x_BadShot)) ss_nil))
theorem ok_size_of (T : Tx K mg)  : Dn P w K mg base "size_of" 1 1 sem_size_of := by
  obtain ⟨fd, F⟩ := T.f_size_of
  refine ⟨_, fd, _, T.g_size_of, fn_sem (k := 0) (f := b_size_of) F sc_size_of ?_, F.kp, F.bindsN (ps := ["shot"]) fun _ _ _ _ _ _ us hl => match us, hl with | [_], _ => rfl⟩
  intro cdv A outer s H E hr tk hp
  exact (ss_one (ss_ret (se_tup (sa_cons (se_cb cl_len T.free_len (sba_cons (seb (se_ix (seb (se_v 0)) (seb se_int))) sba_nil)) (sa_cons (se_cb cl_len T.free_len (sba_cons (seb (se_v 0)) sba_nil)) sa_nil)))))
theorem ok_turned (T : Tx K mg) (d_look : Dn P w K mg base "look" 4 1 sem_look) (d_size_of : Dn P w K mg base "size_of" 1 1 sem_size_of) : Dn P w K mg base "turned" 5 1 sem_turned := by
  obtain ⟨fd, F⟩ := T.f_turned
  refine ⟨_, fd, _, T.g_turned, fn_sem (k := 4) (f := b_turned) F sc_turned ?_, F.kp, F.bindsN (ps := ["shot"]) fun _ _ _ _ _ _ us hl => match us, hl with | [_], _ => rfl⟩
  intro cdv A outer s H E hr tk hp
  exact (ss_cons (ss_drop (se_call d_look (hr.mono (by decide)) tk (sa_cons (se_v 0) sa_nil))) (ss_cons (ss_asg (se_call d_size_of (hr.mono (by decide)) tk (sa_cons (se_v 0) sa_nil)) (sg_tp (sgs_cons (sg_nm (i := 1) sc_turned.nd) (sgs_cons (sg_nm (i := 2) sc_turned.nd) sgs_nil)))) (ss_one (ss_ret (se_ct cl_tup T.free_tuple (sba_cons (snb (sn_lc (own := [("column", 3)]) sc_turned.nd (si_range1 T.free_range (sba_cons (seb (se_v 1)) sba_nil)) (blkOk_by (own := [("column", 3)]) (by kernel_rfl)) (fun _ _ _ _ _ => (sg_nm (i := 3) sc_turned.nd)) (fun _ _ _ _ _ => sts_nil) (fun _ _ _ _ _ => (se_ct cl_tup T.free_tuple (sba_cons (snb (sn_lc (own := [("at", 4)]) sc_turned.nd (si_range1 T.free_range (sba_cons (seb (se_v 2)) sba_nil)) (blkOk_by (own := [("at", 4)]) (by kernel_rfl)) (fun _ _ _ _ _ => (sg_nm (i := 4) sc_turned.nd)) (fun _ _ _ _ _ => sts_nil) (fun _ _ _ _ _ => (se_ix (seb (se_ix (seb (se_v 0)) (seb (se_op op_subD (seb (se_op op_subD (seb (se_v 2)) (seb se_int))) (seb (se_v 4)))))) (seb (se_v 3)))))) sba_nil))))) sba_nil))))))
theorem ok_mirrored (T : Tx K mg) (d_look : Dn P w K mg base "look" 4 1 sem_look) : Dn P w K mg base "mirrored" 5 1 sem_mirrored := by
  obtain ⟨fd, F⟩ := T.f_mirrored
  refine ⟨_, fd, _, T.g_mirrored, fn_sem (k := 4) (f := b_mirrored) F sc_mirrored ?_, F.kp, F.bindsN (ps := ["shot"]) fun _ _ _ _ _ _ us hl => match us, hl with | [_], _ => rfl⟩
  intro cdv A outer s H E hr tk hp
  exact (ss_cons (ss_drop (se_call d_look (hr.mono (by decide)) tk (sa_cons (se_v 0) sa_nil))) (ss_one (ss_ret (se_ct cl_tup T.free_tuple (sba_cons (snb (sn_lc (own := [("row", 1)]) sc_mirrored.nd (si_seq (seb (se_v 0))) (blkOk_by (own := [("row", 1)]) (by kernel_rfl)) (fun _ _ _ _ _ => (sg_nm (i := 1) sc_mirrored.nd)) (fun _ _ _ _ _ => sts_nil) (fun _ _ _ _ _ => (se_rev (seb (se_v 1)))))) sba_nil)))))
theorem ok_lit (T : Tx K mg) (d_look : Dn P w K mg base "look" 4 1 sem_look) (d_is_within : Dn P w K mg base "is_within" 1 3 sem_is_within) : Dn P w K mg base "lit" 5 2 sem_lit := by
  obtain ⟨fd, F⟩ := T.f_lit
  refine ⟨_, fd, _, T.g_lit, fn_sem (k := 4) (f := b_lit) F sc_lit ?_, F.kp, F.bindsN (ps := ["shot", "more"]) fun _ _ _ _ _ _ us hl => match us, hl with | [_, _], _ => rfl⟩
  intro cdv A outer s H E hr tk hp
  exact (ss_cons (ss_drop (se_call d_look (hr.mono (by decide)) tk (sa_cons (se_v 0) sa_nil))) (ss_cons (ss_if (st_not (st_tru (seb (se_call d_is_within (hr.mono (by decide)) tk (sa_cons (se_v 1) (sa_cons (se_un un_negD (seb (se_globI T.c_MOST_LEVEL))) (sa_cons (se_globI T.c_MOST_LEVEL) sa_nil))))))) (ss_one (ss_raise tk T.x_BadShot)) ss_nil) (ss_one (ss_ret (se_ct cl_tup T.free_tuple (sba_cons (snb (sn_lc (own := [("row", 2)]) sc_lit.nd (si_seq (seb (se_v 0))) (blkOk_by (own := [("row", 2)]) (by kernel_rfl)) (fun _ _ _ _ _ => (sg_nm (i := 2) sc_lit.nd)) (fun _ _ _ _ _ => sts_nil) (fun _ _ _ _ _ => (se_ct cl_tup T.free_tuple (sba_cons (snb (sn_lc (own := [("one", 3)]) sc_lit.nd (si_seq (seb (se_v 2))) (blkOk_by (own := [("one", 3)]) (by kernel_rfl)) (fun _ _ _ _ _ => (sg_nm (i := 3) sc_lit.nd)) (fun _ _ _ _ _ => sts_nil) (fun _ _ _ _ _ => (se_cb (cl_min2 rfl) T.free_min (sba_cons (seb (se_cb (cl_max2 rfl) T.free_max (sba_cons (seb (se_op op_addD (seb (se_v 3)) (seb (se_v 1)))) (sba_cons (seb se_int) sba_nil)))) (sba_cons (seb (se_globI T.c_MOST_LEVEL)) sba_nil)))))) sba_nil))))) sba_nil))))))
theorem ok_cut_out (T : Tx K mg) (d_look : Dn P w K mg base "look" 4 1 sem_look) (d_size_of : Dn P w K mg base "size_of" 1 1 sem_size_of) (d_is_within : Dn P w K mg base "is_within" 1 3 sem_is_within) : Dn P w K mg base "cut_out" 5 5 sem_cut_out := by
  obtain ⟨fd, F⟩ := T.f_cut_out
  refine ⟨_, fd, _, T.g_cut_out, fn_sem (k := 4) (f := b_cut_out) F sc_cut_out ?_, F.kp, F.bindsN (ps := ["shot", "x", "y", "wide", "high"]) fun _ _ _ _ _ _ us hl => match us, hl with | [_, _, _, _, _], _ => rfl⟩
  intro cdv A outer s H E hr tk hp
  exact (ss_cons (ss_drop (se_call d_look (hr.mono (by decide)) tk (sa_cons (se_v 0) sa_nil))) (ss_cons (ss_asg (se_call d_size_of (hr.mono (by decide)) tk (sa_cons (se_v 0) sa_nil)) (sg_tp (sgs_cons (sg_nm (i := 5) sc_cut_out.nd) (sgs_cons (sg_nm (i := 6) sc_cut_out.nd) sgs_nil)))) (ss_cons (ss_if (st_w (sw_or (st_not (st_tru (seb (se_call d_is_within (hr.mono (by decide)) tk (sa_cons (se_v 1) (sa_cons se_int (sa_cons (se_op op_subD (seb (se_v 5)) (seb se_int)) sa_nil))))))) (sw_or1 (st_not (st_tru (seb (se_call d_is_within (hr.mono (by decide)) tk (sa_cons (se_v 2) (sa_cons se_int (sa_cons (se_op op_subD (seb (se_v 6)) (seb se_int)) sa_nil)))))))))) (ss_one (ss_raise tk T.x_BadWindow)) ss_nil) (ss_cons (ss_if (st_w (sw_or (st_not (st_tru (seb (se_call d_is_within (hr.mono (by decide)) tk (sa_cons (se_v 3) (sa_cons se_int (sa_cons (se_op op_subD (seb (se_v 5)) (seb (se_v 1))) sa_nil))))))) (sw_or1 (st_not (st_tru (seb (se_call d_is_within (hr.mono (by decide)) tk (sa_cons (se_v 4) (sa_cons se_int (sa_cons (se_op op_subD (seb (se_v 6)) (seb (se_v 2))) sa_nil)))))))))) (ss_one (ss_raise tk T.x_BadWindow)) ss_nil) (ss_one (ss_ret (se_ct cl_tup T.free_tuple (sba_cons (snb (sn_lc (own := [("row", 7)]) sc_cut_out.nd (si_seq (seb (se_sl (seb (se_v 0)) (so_some (seb (se_v 2))) (so_some (seb (se_op op_addD (seb (se_v 2)) (seb (se_v 4)))))))) (blkOk_by (own := [("row", 7)]) (by kernel_rfl)) (fun _ _ _ _ _ => (sg_nm (i := 7) sc_cut_out.nd)) (fun _ _ _ _ _ => sts_nil) (fun _ _ _ _ _ => (se_sl (seb (se_v 7)) (so_some (seb (se_v 1))) (so_some (seb (se_op op_addD (seb (se_v 1)) (seb (se_v 3))))))))) sba_nil))))))))
theorem ok_mean (T : Tx K mg) (d_look : Dn P w K mg base "look" 4 1 sem_look) (d_size_of : Dn P w K mg base "size_of" 1 1 sem_size_of) (d_least : Dn P w K mg base "least" 2 2 sem_least) : Dn P w K mg base "mean" 5 1 sem_mean := by
  obtain ⟨fd, F⟩ := T.f_mean
  refine ⟨_, fd, _, T.g_mean, fn_sem (k := 4) (f := b_mean) F sc_mean ?_, F.kp, F.bindsN (ps := ["shot"]) fun _ _ _ _ _ _ us hl => match us, hl with | [_], _ => rfl⟩
  intro cdv A outer s H E hr tk hp
  exact (ss_cons (ss_drop (se_call d_look (hr.mono (by decide)) tk (sa_cons (se_v 0) sa_nil))) (ss_cons (ss_asg (se_call d_size_of (hr.mono (by decide)) tk (sa_cons (se_v 0) sa_nil)) (sg_tp (sgs_cons (sg_nm (i := 1) sc_mean.nd) (sgs_cons (sg_nm (i := 2) sc_mean.nd) sgs_nil)))) (ss_one (ss_ret (se_call d_least (hr.mono (by decide)) tk (sa_cons (se_cb (cl_sum rfl) T.free_sum (sba_cons (snb (sn_lc (own := [("row", 3)]) sc_mean.nd (si_seq (seb (se_v 0))) (blkOk_by (own := [("row", 3)]) (by kernel_rfl)) (fun _ _ _ _ _ => (sg_nm (i := 3) sc_mean.nd)) (fun _ _ _ _ _ => sts_nil) (fun _ _ _ _ _ => (se_cb (cl_sum rfl) T.free_sum (sba_cons (seb (se_v 3)) sba_nil))))) sba_nil)) (sa_cons (se_op op_mulD (seb (se_v 1)) (seb (se_v 2))) sa_nil)))))))
theorem ok_spread (T : Tx K mg) (d_look : Dn P w K mg base "look" 4 1 sem_look) : Dn P w K mg base "spread" 5 1 sem_spread := by
  obtain ⟨fd, F⟩ := T.f_spread
  refine ⟨_, fd, _, T.g_spread, fn_sem (k := 4) (f := b_spread) F sc_spread ?_, F.kp, F.bindsN (ps := ["shot"]) fun _ _ _ _ _ _ us hl => match us, hl with | [_], _ => rfl⟩
  intro cdv A outer s H E hr tk hp
  exact (ss_cons (ss_drop (se_call d_look (hr.mono (by decide)) tk (sa_cons (se_v 0) sa_nil))) (ss_cons (ss_own (i := 1) sc_spread.nd sn_dk) (ss_cons (ss_for (f := lp_spread_2) hp (sis_seq (se_v 0)) (sg_nm (i := 2) sc_spread.nd) (ss_one (ss_for (f := lp_spread_1) hp (sis_seq (se_v 2)) (sg_nm (i := 3) sc_spread.nd) (ss_one (ss_putD 1 hr (seb (se_v 3)) (se_op op_addD (seb (se_get2 hr (sb_v 1) (seb (se_v 3)) se_int)) (seb se_int))))))) (ss_one (ss_ret (sne (sn_sortedItems hr T.free_sorted (sb_v 1))))))))
theorem ok__law_cell (T : Tx K mg)  : Dn P w K mg base "_law_cell" 1 2 sem__law_cell := by
  obtain ⟨fd, F⟩ := T.f__law_cell
  refine ⟨_, fd, _, T.g__law_cell, fn_sem (k := 0) (f := b__law_cell) F sc__law_cell ?_, F.kp, F.bindsN (ps := ["script", "k"]) fun _ _ _ _ _ _ us hl => match us, hl with | [_, _], _ => rfl⟩
  intro cdv A outer s H E hr tk hp
  exact (ss_cons (ss_if (st_cmp op_ltD (fun _ _ _ => cmpF_b) (seb (se_v 1)) (seb (se_cb cl_len T.free_len (sba_cons (seb (se_v 0)) sba_nil)))) (ss_one (ss_ret (se_ix (seb (se_v 0)) (seb (se_v 1))))) ss_nil) (ss_one (ss_ret se_int)))
theorem ok__law_row (T : Tx K mg) (d__law_cell : Dn P w K mg base "_law_cell" 1 2 sem__law_cell) : Dn P w K mg base "_law_row" 2 2 sem__law_row := by
  obtain ⟨fd, F⟩ := T.f__law_row
  refine ⟨_, fd, _, T.g__law_row, fn_sem (k := 1) (f := b__law_row) F sc__law_row ?_, F.kp, F.bindsN (ps := ["script", "at"]) fun _ _ _ _ _ _ us hl => match us, hl with | [_, _], _ => rfl⟩
  intro cdv A outer s H E hr tk hp
  exact (ss_cons (ss_set (i := 2) sc__law_row.nd (se_call d__law_cell (hr.mono (by decide)) tk (sa_cons (se_v 0) (sa_cons (se_v 1) sa_nil)))) (ss_cons (ss_own (i := 3) sc__law_row.nd (sn_lst sa_nil)) (ss_cons (ss_for (f := lp__law_row_1) hp (sis_range1 T.free_range (sba_cons (seb se_int) sba_nil)) (sg_nm (i := 4) sc__law_row.nd) (ss_one (ss_if (st_cmp op_ltD (fun _ _ _ => cmpF_b) (seb (se_call d__law_cell (hr.mono (by decide)) tk (sa_cons (se_v 0) (sa_cons (se_v 1) sa_nil)))) (seb (se_op op_powD (seb se_int) (seb se_int)))) (ss_cons (ss_set (i := 2) sc__law_row.nd (se_op op_modD (seb (se_op op_addD (seb (se_op op_addD (seb (se_op op_addD (seb (se_op op_mulD (seb (se_v 2)) (seb se_int))) (seb (se_op op_mulD (seb se_int) (seb (se_v 4)))))) (seb se_int))) (seb (se_call d__law_cell (hr.mono (by decide)) tk (sa_cons (se_v 0) (sa_cons (se_op op_modD (seb (se_op op_addD (seb (se_op op_addD (seb (se_v 1)) (seb se_int))) (seb (se_v 4)))) (seb se_int)) sa_nil)))))) (seb se_int))) (ss_one (ss_app 3 (se_op op_modD (seb (se_op op_divD (seb (se_v 2)) (seb se_int))) (seb se_int))))) (ss_cons (ss_app 3 (se_op op_modD (seb (se_v 2)) (seb se_int))) (ss_one (ss_set (i := 2) sc__law_row.nd (se_op op_divD (seb (se_v 2)) (seb se_int)))))))) (ss_one (ss_retV 3)))))
theorem ok__law_common (T : Tx K mg)  : Dn P w K mg base "_law_common" 1 2 sem__law_common := by
  obtain ⟨fd, F⟩ := T.f__law_common
  refine ⟨_, fd, _, T.g__law_common, fn_sem (k := 0) (f := b__law_common) F sc__law_common ?_, F.kp, F.bindsN (ps := ["one", "other"]) fun _ _ _ _ _ _ us hl => match us, hl with | [_, _], _ => rfl⟩
  intro cdv A outer s H E hr tk hp
  exact (ss_cons (ss_while (f := lp__law_common_1) 1000000 hp (st_cmp (op_neX hr) (fun _ _ _ => neF_b) (seb (se_v 1)) (seb se_int)) (ss_one (ss_par (i := 0) (j := 1) sc__law_common.nd (by decide) (sa_cons (se_v 1) (sa_cons (se_op op_modD (seb (se_v 0)) (seb (se_v 1))) sa_nil)) (by rfl)))) (ss_one (ss_ret (se_cb cl_abs T.free_abs (sba_cons (seb (se_v 0)) sba_nil)))))
theorem ok__law_least (T : Tx K mg) (d__law_common : Dn P w K mg base "_law_common" 1 2 sem__law_common) : Dn P w K mg base "_law_least" 2 2 sem__law_least := by
  obtain ⟨fd, F⟩ := T.f__law_least
  refine ⟨_, fd, _, T.g__law_least, fn_sem (k := 1) (f := b__law_least) F sc__law_least ?_, F.kp, F.bindsN (ps := ["top", "bottom"]) fun _ _ _ _ _ _ us hl => match us, hl with | [_, _], _ => rfl⟩
  intro cdv A outer s H E hr tk hp
  exact (ss_cons (ss_set (i := 2) sc__law_least.nd (se_call d__law_common (hr.mono (by decide)) tk (sa_cons (se_v 0) (sa_cons (se_v 1) sa_nil)))) (ss_cons (ss_set (i := 2) sc__law_least.nd (se_if (st_cmp op_ltD (fun _ _ _ => cmpF_b) (seb (se_v 1)) (seb se_int)) (se_un un_negD (seb (se_v 2))) (se_v 2))) (ss_one (ss_ret (se_tup (sa_cons (se_op op_divD (seb (se_v 0)) (seb (se_v 2))) (sa_cons (se_op op_divD (seb (se_v 1)) (seb (se_v 2))) sa_nil)))))))
theorem ok__law_shot (T : Tx K mg)  : Dn P w K mg base "_law_shot" 1 3 sem__law_shot := by
  obtain ⟨fd, F⟩ := T.f__law_shot
  refine ⟨_, fd, _, T.g__law_shot, fn_sem (k := 0) (f := b__law_shot) F sc__law_shot ?_, F.kp, F.bindsN (ps := ["row", "at", "way"]) fun _ _ _ _ _ _ us hl => match us, hl with | [_, _, _], _ => rfl⟩
  intro cdv A outer s H E hr tk hp
  exact (ss_cons (ss_par (i := 3) (j := 4) sc__law_shot.nd (by decide) (sa_cons (se_op op_addD (seb se_int) (seb (se_op op_modD (seb (se_ix (seb (se_v 0)) (seb (se_op op_modD (seb (se_v 1)) (seb se_int))))) (seb se_int)))) (sa_cons (se_op op_addD (seb se_int) (seb (se_op op_modD (seb (se_op op_divD (seb (se_ix (seb (se_v 0)) (seb (se_op op_modD (seb (se_op op_addD (seb (se_v 1)) (seb se_int))) (seb se_int))))) (seb se_int))) (seb se_int)))) sa_nil)) (by rfl)) (ss_cons (ss_own (i := 5) sc__law_shot.nd (sn_lst sa_nil)) (ss_cons (ss_for (f := lp__law_shot_2) hp (sis_range1 T.free_range (sba_cons (seb (se_v 3)) sba_nil)) (sg_nm (i := 6) sc__law_shot.nd) (ss_cons (ss_own (i := 7) sc__law_shot.nd (sn_lst sa_nil)) (ss_cons (ss_for (f := lp__law_shot_1) hp (sis_range1 T.free_range (sba_cons (seb (se_v 4)) sba_nil)) (sg_nm (i := 8) sc__law_shot.nd) (ss_cons (ss_set (i := 9) sc__law_shot.nd (se_ix (seb (se_v 0)) (seb (se_op op_modD (seb (se_op op_addD (seb (se_op op_addD (seb (se_op op_addD (seb (se_v 1)) (seb se_int))) (seb (se_op op_mulD (seb se_int) (seb (se_v 6)))))) (seb (se_v 8)))) (seb se_int))))) (ss_one (ss_app 7 (se_ix (snb (sn_lst (sa_cons (se_op op_modD (seb (se_op op_mulD (seb (se_v 9)) (seb se_int))) (seb se_int)) (sa_cons (se_op op_mulD (seb (se_op op_modD (seb (se_v 9)) (seb se_int))) (seb se_int)) (sa_cons (se_op op_modD (seb (se_ix (seb (se_v 0)) (seb (se_op op_modD (seb (se_v 1)) (seb se_int))))) (seb se_int)) sa_nil))))) (seb (se_op op_modD (seb (se_v 2)) (seb se_int)))))))) (ss_one (ss_app 5 (se_ct cl_tup T.free_tuple (sba_cons (sb_v 7) sba_nil))))))) (ss_one (ss_ret (se_ct cl_tup T.free_tuple (sba_cons (sb_v 5) sba_nil)))))))
theorem ok__law_lit_refused (T : Tx K mg) (d_lit : Dn P w K mg base "lit" 5 2 sem_lit) : Dn P w K mg base "_law_lit_refused" 6 2 sem__law_lit_refused := by
  obtain ⟨fd, F⟩ := T.f__law_lit_refused
  refine ⟨_, fd, _, T.g__law_lit_refused, fn_sem (k := 5) (f := b__law_lit_refused) F sc__law_lit_refused ?_, F.kp, F.bindsN (ps := ["shot", "more"]) fun _ _ _ _ _ _ us hl => match us, hl with | [_, _], _ => rfl⟩
  intro cdv A outer s H E hr tk hp
  exact (ss_cons (ss_try1 tk T.xg_BadShot (hsub_BadShot T) (fun W pn xe tk hp => (ss_one (ss_drop (se_call d_lit (hr.mono (by decide)) tk (sa_cons (se_v 0) (sa_cons (se_v 1) sa_nil)))))) (fun a oe pn => (ss_one (ss_ret se_str)))) (ss_one (ss_ret se_str)))
theorem ok__law_cut_told (T : Tx K mg) (d_cut_out : Dn P w K mg base "cut_out" 5 5 sem_cut_out) : Dn P w K mg base "_law_cut_told" 6 5 sem__law_cut_told := by
  obtain ⟨fd, F⟩ := T.f__law_cut_told
  refine ⟨_, fd, _, T.g__law_cut_told, fn_sem (k := 5) (f := b__law_cut_told) F sc__law_cut_told ?_, F.kp, F.bindsN (ps := ["shot", "x", "y", "wide", "tall"]) fun _ _ _ _ _ _ us hl => match us, hl with | [_, _, _, _, _], _ => rfl⟩
  intro cdv A outer s H E hr tk hp
  exact (ss_one (ss_tryAs (i := 5) sc__law_cut_told.nd tk T.xg_BadWindow (hsub_BadWindow T) (fun W pn xe tk hp => (ss_one (ss_ret (se_call d_cut_out (hr.mono (by decide)) tk (sa_cons (se_v 0) (sa_cons (se_v 1) (sa_cons (se_v 2) (sa_cons (se_v 3) (sa_cons (se_v 4) sa_nil))))))))) (fun c a oe pn hc hz hf => by
    obtain rfl := only_BadWindow c hc
    exact (us_ret (su_if (sut_w (suw_and (sut_tru (su_isi T.ec_BadWindow hz hf T.free_isinstance T.xg_VastError (kit_of T.m_BadWindow_VastError T.m_BadWindow_BadWindow))) (suw_and1 (sut_not (sut_tru (su_isi T.ec_BadWindow hz hf T.free_isinstance T.xg_BadShot (kit_of T.m_BadWindow_BadShot T.m_BadWindow_BadWindow))))))) (su_e se_str) (su_e se_str))))))
theorem ok_law (T : Tx K mg) {fd : FuncData} (F : FunD K "law" "law" (defArgs s_law) (defBody s_law) (defScope s_law) [] [] (He.ga K "law") fd) (d__law_row : Dn P w K mg base "_law_row" 2 2 sem__law_row) (d__law_shot : Dn P w K mg base "_law_shot" 1 3 sem__law_shot) (d_turned : Dn P w K mg base "turned" 5 1 sem_turned) (d_mirrored : Dn P w K mg base "mirrored" 5 1 sem_mirrored) (d_lit : Dn P w K mg base "lit" 5 2 sem_lit) (d__law_lit_refused : Dn P w K mg base "_law_lit_refused" 6 2 sem__law_lit_refused) (d_mean : Dn P w K mg base "mean" 5 1 sem_mean) (d__law_least : Dn P w K mg base "_law_least" 2 2 sem__law_least) (d_spread : Dn P w K mg base "spread" 5 1 sem_spread) (d__law_cut_told : Dn P w K mg base "_law_cut_told" 6 5 sem__law_cut_told) : FnOk P w K mg base (L2.CX P w) 7 (He.ga K "law") fd ["script"] (spP K 1 sem_law) := by
  refine fn_sem (k := 6) (f := b_law) F sc_law ?_
  intro cdv A outer s H E hr tk hp
  exact (ss_cons (ss_set (i := 1) sc_law.nd (se_call d__law_row (hr.mono (by decide)) tk (sa_cons (se_v 0) (sa_cons se_int sa_nil)))) (ss_cons (ss_set (i := 2) sc_law.nd (se_call d__law_shot (hr.mono (by decide)) tk (sa_cons (se_v 1) (sa_cons se_int (sa_cons (se_ix (seb (se_v 1)) (seb se_int)) sa_nil))))) (ss_cons (ss_par (i := 3) (j := 4) sc_law.nd (by decide) (sa_cons (se_cb cl_len T.free_len (sba_cons (seb (se_v 2)) sba_nil)) (sa_cons (se_cb cl_len T.free_len (sba_cons (seb (se_ix (seb (se_v 2)) (seb se_int))) sba_nil)) sa_nil)) (by rfl)) (ss_cons (ss_own (i := 5) sc_law.nd (sn_lst sa_nil)) (ss_cons (ss_for (f := lp_law_1) hp (sis_range1 T.free_range (sba_cons (seb (se_v 4)) sba_nil)) (sg_nm (i := 6) sc_law.nd) (ss_one (ss_app 5 (se_ct cl_tup T.free_tuple (sba_cons (snb (sn_lc (own := [("y", 12)]) sc_law.nd (si_range3 T.free_range (sba_cons (seb (se_op op_subD (seb (se_v 3)) (seb se_int))) (sba_cons (seb (se_un un_negD (seb se_int))) (sba_cons (seb (se_un un_negD (seb se_int))) sba_nil)))) (blkOk_by (own := [("y", 12)]) (by kernel_rfl)) (fun _ _ _ _ _ => (sg_nm (i := 12) sc_law.nd)) (fun _ _ _ _ _ => sts_nil) (fun _ _ _ _ _ => (se_ix (seb (se_ix (seb (se_v 2)) (seb (se_v 12)))) (seb (se_v 6)))))) sba_nil))))) (ss_cons (ss_if (st_w (sw_or (st_cmp (op_neX hr) (fun _ _ _ => neF_b) (seb (se_call d_turned (hr.mono (by decide)) tk (sa_cons (se_v 2) sa_nil))) (seb (se_ct cl_tup T.free_tuple (sba_cons (sb_v 5) sba_nil)))) (sw_or1 (st_cmp (op_neX hr) (fun _ _ _ => neF_b) (seb (se_call d_mirrored (hr.mono (by decide)) tk (sa_cons (se_v 2) sa_nil))) (seb (se_ct cl_tup T.free_tuple (sba_cons (snb (sn_lc (own := [("line", 10)]) sc_law.nd (si_seq (seb (se_v 2))) (blkOk_by (own := [("line", 10)]) (by kernel_rfl)) (fun _ _ _ _ _ => (sg_nm (i := 10) sc_law.nd)) (fun _ _ _ _ _ => sts_nil) (fun _ _ _ _ _ => (se_rev (seb (se_v 10)))))) sba_nil))))))) (ss_one (ss_ret se_bl)) ss_nil) (ss_cons (ss_set (i := 7) sc_law.nd (se_op op_subD (seb (se_op op_modD (seb (se_op op_mulD (seb (se_ix (seb (se_v 1)) (seb se_int))) (seb se_int))) (seb se_int))) (seb se_int))) (ss_cons (ss_set (i := 8) sc_law.nd (se_ct cl_tup T.free_tuple (sba_cons (snb (sn_lc (own := [("line", 10)]) sc_law.nd (si_seq (seb (se_v 2))) (blkOk_by (own := [("line", 10)]) (by kernel_rfl)) (fun _ _ _ _ _ => (sg_nm (i := 10) sc_law.nd)) (fun _ _ _ _ _ => sts_nil) (fun _ _ _ _ _ => (se_ct cl_tup T.free_tuple (sba_cons (snb (sn_lc (own := [("one", 16)]) sc_law.nd (si_seq (seb (se_v 10))) (blkOk_by (own := [("one", 16)]) (by kernel_rfl)) (fun _ _ _ _ _ => (sg_nm (i := 16) sc_law.nd)) (fun _ _ _ _ _ => sts_nil) (fun _ _ _ _ _ => (se_cb (cl_max2 rfl) T.free_max (sba_cons (seb se_int) (sba_cons (seb (se_cb (cl_min2 rfl) T.free_min (sba_cons (seb se_int) (sba_cons (seb (se_op op_addD (seb (se_v 16)) (seb (se_v 7)))) sba_nil)))) sba_nil)))))) sba_nil))))) sba_nil))) (ss_cons (ss_if (st_w (sw_or (st_cmp (op_neX hr) (fun _ _ _ => neF_b) (seb (se_call d_lit (hr.mono (by decide)) tk (sa_cons (se_v 2) (sa_cons (se_v 7) sa_nil)))) (seb (se_v 8))) (sw_or1 (st_cmp (op_neX hr) (fun _ _ _ => neF_b) (seb (se_call d__law_lit_refused (hr.mono (by decide)) tk (sa_cons (se_v 2) (sa_cons (se_ix (snb (sn_lst (sa_cons se_int (sa_cons (se_un un_negD (seb se_int)) (sa_cons se_non (sa_cons se_bl sa_nil)))))) (seb (se_op op_modD (seb (se_ix (seb (se_v 1)) (seb se_int))) (seb se_int)))) sa_nil)))) (seb se_str))))) (ss_one (ss_ret se_bl)) ss_nil) (ss_cons (ss_set (i := 9) sc_law.nd (sne (sn_lst sa_nil))) (ss_cons (ss_for (f := lp_law_2) hp (sis_seq (se_v 2)) (sg_nm (i := 10) sc_law.nd) (ss_one (ss_set (i := 9) sc_law.nd (se_op op_addD (seb (se_v 9)) (snb (sn_ct cl_lst T.free_list (sba_cons (seb (se_v 10)) sba_nil))))))) (ss_cons (ss_if (st_cmp (op_neX hr) (fun _ _ _ => neF_b) (seb (se_call d_mean (hr.mono (by decide)) tk (sa_cons (se_v 2) sa_nil))) (seb (se_call d__law_least (hr.mono (by decide)) tk (sa_cons (se_cb (cl_sum rfl) T.free_sum (sba_cons (seb (se_v 9)) sba_nil)) (sa_cons (se_cb cl_len T.free_len (sba_cons (seb (se_v 9)) sba_nil)) sa_nil))))) (ss_one (ss_ret se_bl)) ss_nil) (ss_cons (ss_if (st_cmp (op_neX hr) (fun _ _ _ => neF_b) (seb (se_call d_spread (hr.mono (by decide)) tk (sa_cons (se_v 2) sa_nil))) (snb (sn_lc (own := [("one", 16)]) sc_law.nd (si_seq (snb (sn_sortedSet T.free_sorted T.free_set (seb (se_v 9))))) (blkOk_by (own := [("one", 16)]) (by kernel_rfl)) (fun _ _ _ _ _ => (sg_nm (i := 16) sc_law.nd)) (fun _ _ _ _ _ => sts_nil) (fun _ _ _ _ _ => (se_tup (sa_cons (se_v 16) (sa_cons (se_count (seb (se_v 9)) (se_v 16)) sa_nil))))))) (ss_one (ss_ret se_bl)) ss_nil) (ss_cons (ss_set (i := 11) sc_law.nd (se_tup (sa_cons (se_op op_modD (seb (se_ix (seb (se_v 1)) (seb se_int))) (seb se_int)) (sa_cons (se_op op_modD (seb (se_ix (seb (se_v 1)) (seb se_int))) (seb se_int)) (sa_cons (se_op op_modD (seb (se_ix (seb (se_v 1)) (seb se_int))) (seb se_int)) (sa_cons (se_op op_modD (seb (se_ix (seb (se_v 1)) (seb se_int))) (seb se_int)) sa_nil)))))) (ss_cons (ss_asg (se_v 11) (sg_tp (sgs_cons (sg_nm (i := 6) sc_law.nd) (sgs_cons (sg_nm (i := 12) sc_law.nd) (sgs_cons (sg_nm (i := 13) sc_law.nd) (sgs_cons (sg_nm (i := 14) sc_law.nd) sgs_nil)))))) (ss_cons (ss_if (st_cmp (op_eqX hr) (fun _ _ _ => eqF_b) (seb (se_op op_modD (seb (se_ix (seb (se_v 1)) (seb se_int))) (seb se_int))) (seb se_int)) (ss_one (ss_ret (se_cmp (op_eqX hr) (seb (se_call d__law_cut_told (hr.mono (by decide)) tk (sa_cons (se_v 2) (sa_cons (se_ix (snb (sn_lst (sa_cons se_non (sa_cons (se_un un_negD (seb se_int)) (sa_cons se_bl sa_nil))))) (seb (se_op op_modD (seb (se_ix (seb (se_v 1)) (seb se_int))) (seb se_int)))) (sa_cons (se_v 12) (sa_cons (se_v 13) (sa_cons (se_v 14) sa_nil))))))) (seb se_str)))) ss_nil) (ss_cons (ss_set (i := 15) sc_law.nd (se_and (se_cmp op_leD (seb (se_op op_addD (seb (se_v 6)) (seb (se_v 13)))) (seb (se_v 4))) (se_and (se_cmp op_leD (seb (se_op op_addD (seb (se_v 12)) (seb (se_v 14)))) (seb (se_v 3))) (se_and (se_cmp op_gtD (seb (se_v 13)) (seb se_int)) (se_one (se_cmp op_gtD (seb (se_v 14)) (seb se_int))))))) (ss_cons (ss_set (i := 5) sc_law.nd (se_ct cl_tup T.free_tuple (sba_cons (snb (sn_lc (own := [("line", 10)]) sc_law.nd (si_seq (seb (se_sl (seb (se_v 2)) (so_some (seb (se_v 12))) (so_some (seb (se_op op_addD (seb (se_v 12)) (seb (se_v 14)))))))) (blkOk_by (own := [("line", 10)]) (by kernel_rfl)) (fun _ _ _ _ _ => (sg_nm (i := 10) sc_law.nd)) (fun _ _ _ _ _ => sts_nil) (fun _ _ _ _ _ => (se_sl (seb (se_v 10)) (so_some (seb (se_v 6))) (so_some (seb (se_op op_addD (seb (se_v 6)) (seb (se_v 13))))))))) sba_nil))) (ss_frz 5 (ss_one (ss_ret (se_cmp (op_eqX hr) (seb (se_call d__law_cut_told (hr.mono (by decide)) tk (sa_cons (se_v 2) (sa_cons (se_v 6) (sa_cons (se_v 12) (sa_cons (se_v 13) (sa_cons (se_v 14) sa_nil))))))) (seb (se_if (st_tru (seb (se_v 15))) (se_v 5) se_str))))))))))))))))))))))))
end
def dd (i : Nat) (x y : Str) (kw : List (Str × He.Dv) := []) : He.DefD := ⟨(x, none), y, y, defArgs (topS i), defBody (topS i), defScope (topS i), [], kw⟩
def fn : List He.DefD := ([dd 5 "is_within" "is_within", dd 6 "common" "common", dd 7 "least" "least", dd 11 "is_row" "is_row", dd 12 "is_shot" "is_shot", dd 13 "look" "look", dd 14 "size_of" "size_of", dd 15 "turned" "turned", dd 16 "mirrored" "mirrored", dd 17 "lit" "lit", dd 18 "cut_out" "cut_out", dd 19 "mean" "mean", dd 20 "spread" "spread", dd 22 "_law_cell" "_law_cell", dd 23 "_law_row" "_law_row", dd 24 "_law_common" "_law_common", dd 25 "_law_least" "_law_least", dd 26 "_law_shot" "_law_shot", dd 27 "_law_lit_refused" "_law_lit_refused", dd 28 "_law_cut_told" "_law_cut_told"] : List He.DefD) ++ ([dd 29 "law" "law"] : List He.DefD)
def fa : List He.Fa := ([.glo "is_within", .glo "common", .glo "least", .glo "is_row", .glo "is_shot", .glo "look", .glo "size_of", .glo "turned", .glo "mirrored", .glo "lit", .glo "cut_out", .glo "mean", .glo "spread", .glo "_law_cell", .glo "_law_row", .glo "_law_common", .glo "_law_least", .glo "_law_shot", .glo "_law_lit_refused", .glo "_law_cut_told"] : List He.Fa) ++ ([.glo "law", .free "abs", .free "bool", .free "int", .free "isinstance", .free "len", .free "list", .free "max", .free "min", .free "range", .free "set", .free "sorted", .free "sum", .free "tuple", .int "MOST_LEVEL" 255, .int "MOST_SIDE" 12, .glo "BadShot", .exc "BadShot", .glo "BadWindow", .exc "BadWindow"] : List He.Fa) ++ ([.glo "VastError", .exm "BadShot" "BadShot" true, .exm "BadShot" "BadWindow" false, .exm "BadWindow" "BadShot" false, .exm "BadWindow" "BadWindow" true, .exm "BadWindow" "VastError" true] : List He.Fa)
abbrev R : PySem.W.OpenRow := PySem.W.OpenLaw.row PySem.Challenge.rw_vastview_k02_shots_turned_lit_and_cut
def xsE : List Str := ["BadWindow"]
def chks : List VV.Chk := [fun K => VV.excB K "BadWindow"]
abbrev hk : PySem.W.Hook := VV.hookC 5 fa fn chks
def ob (s : PySem.W.SharedT) : AlV := obsC 5 fa fn chks (HandSHeadRun.getT s)
theorem ob_eq (s : PySem.W.SharedT) : ob s = hk.obs s.abs := obsC_eq (HandSHeadRun.getT_eq s)
def loose : List Str := ["VastError", "BadShot", "BadWindow", "is_within", "common", "least", "MOST_SIDE", "MOST_LEVEL", "is_row", "is_shot", "look", "size_of", "turned", "mirrored", "lit", "cut_out", "mean", "spread", "_law_cell", "_law_row", "_law_common", "_law_least", "_law_shot", "_law_lit_refused", "_law_cut_told"]
theorem run (w : World) : HandSHeadRun.RunEq R (PySem.W.view R.prog [29]) hk ob 4000 loose w := by
  intro os
  kernel_rfl
theorem tx {K : PySem.W.Frag} {h : Heap} {mg : Str → Option Value} (X : K.In h) (G : h.Ns mainGlobals mg) (c : He.SaysD fa fn K) (ce : ∀ c ∈ chks, c K = true) : Tx K mg where
  free_abs := He.free_ok X G (c.fact 21 (f := .free "abs") rfl)
  free_bool := He.free_ok X G (c.fact 22 (f := .free "bool") rfl)
  free_int := He.free_ok X G (c.fact 23 (f := .free "int") rfl)
  free_isinstance := He.free_ok X G (c.fact 24 (f := .free "isinstance") rfl)
  free_len := He.free_ok X G (c.fact 25 (f := .free "len") rfl)
  free_list := He.free_ok X G (c.fact 26 (f := .free "list") rfl)
  free_max := He.free_ok X G (c.fact 27 (f := .free "max") rfl)
  free_min := He.free_ok X G (c.fact 28 (f := .free "min") rfl)
  free_range := He.free_ok X G (c.fact 29 (f := .free "range") rfl)
  free_set := He.free_ok X G (c.fact 30 (f := .free "set") rfl)
  free_sorted := He.free_ok X G (c.fact 31 (f := .free "sorted") rfl)
  free_sum := He.free_ok X G (c.fact 32 (f := .free "sum") rfl)
  free_tuple := He.free_ok X G (c.fact 33 (f := .free "tuple") rfl)
  c_MOST_LEVEL := He.int_ok X G (c.fact 34 (f := .int "MOST_LEVEL" 255) rfl)
  c_MOST_SIDE := He.int_ok X G (c.fact 35 (f := .int "MOST_SIDE" 12) rfl)
  x_BadShot := ⟨He.glo_ok X G (c.fact 36 (f := .glo "BadShot") rfl), c.fact 37 (f := .exc "BadShot") rfl⟩
  x_BadWindow := ⟨He.glo_ok X G (c.fact 38 (f := .glo "BadWindow") rfl), c.fact 39 (f := .exc "BadWindow") rfl⟩
  xg_BadShot := He.glo_ok X G (c.fact 36 (f := .glo "BadShot") rfl)
  xg_BadWindow := He.glo_ok X G (c.fact 38 (f := .glo "BadWindow") rfl)
  xg_VastError := He.glo_ok X G (c.fact 40 (f := .glo "VastError") rfl)
  m_BadShot_BadShot := He.exm_ok (c.fact 41 (f := .exm "BadShot" "BadShot" true) rfl)
  m_BadShot_BadWindow := He.exm_ok (c.fact 42 (f := .exm "BadShot" "BadWindow" false) rfl)
  m_BadWindow_BadShot := He.exm_ok (c.fact 43 (f := .exm "BadWindow" "BadShot" false) rfl)
  m_BadWindow_BadWindow := He.exm_ok (c.fact 44 (f := .exm "BadWindow" "BadWindow" true) rfl)
  m_BadWindow_VastError := He.exm_ok (c.fact 45 (f := .exm "BadWindow" "VastError" true) rfl)
  ec_BadWindow := VV.excB_ok (VV.chk_at ce 0 (c := fun K => VV.excB K "BadWindow") rfl)
  g_is_within := He.glo_ok X G (c.fact 0 (f := .glo "is_within") rfl)
  f_is_within := c.def_ 0 (d := dd 5 "is_within" "is_within") rfl
  g_common := He.glo_ok X G (c.fact 1 (f := .glo "common") rfl)
  f_common := c.def_ 1 (d := dd 6 "common" "common") rfl
  g_least := He.glo_ok X G (c.fact 2 (f := .glo "least") rfl)
  f_least := c.def_ 2 (d := dd 7 "least" "least") rfl
  g_is_row := He.glo_ok X G (c.fact 3 (f := .glo "is_row") rfl)
  f_is_row := c.def_ 3 (d := dd 11 "is_row" "is_row") rfl
  g_is_shot := He.glo_ok X G (c.fact 4 (f := .glo "is_shot") rfl)
  f_is_shot := c.def_ 4 (d := dd 12 "is_shot" "is_shot") rfl
  g_look := He.glo_ok X G (c.fact 5 (f := .glo "look") rfl)
  f_look := c.def_ 5 (d := dd 13 "look" "look") rfl
  g_size_of := He.glo_ok X G (c.fact 6 (f := .glo "size_of") rfl)
  f_size_of := c.def_ 6 (d := dd 14 "size_of" "size_of") rfl
  g_turned := He.glo_ok X G (c.fact 7 (f := .glo "turned") rfl)
  f_turned := c.def_ 7 (d := dd 15 "turned" "turned") rfl
  g_mirrored := He.glo_ok X G (c.fact 8 (f := .glo "mirrored") rfl)
  f_mirrored := c.def_ 8 (d := dd 16 "mirrored" "mirrored") rfl
  g_lit := He.glo_ok X G (c.fact 9 (f := .glo "lit") rfl)
  f_lit := c.def_ 9 (d := dd 17 "lit" "lit") rfl
  g_cut_out := He.glo_ok X G (c.fact 10 (f := .glo "cut_out") rfl)
  f_cut_out := c.def_ 10 (d := dd 18 "cut_out" "cut_out") rfl
  g_mean := He.glo_ok X G (c.fact 11 (f := .glo "mean") rfl)
  f_mean := c.def_ 11 (d := dd 19 "mean" "mean") rfl
  g_spread := He.glo_ok X G (c.fact 12 (f := .glo "spread") rfl)
  f_spread := c.def_ 12 (d := dd 20 "spread" "spread") rfl
  g__law_cell := He.glo_ok X G (c.fact 13 (f := .glo "_law_cell") rfl)
  f__law_cell := c.def_ 13 (d := dd 22 "_law_cell" "_law_cell") rfl
  g__law_row := He.glo_ok X G (c.fact 14 (f := .glo "_law_row") rfl)
  f__law_row := c.def_ 14 (d := dd 23 "_law_row" "_law_row") rfl
  g__law_common := He.glo_ok X G (c.fact 15 (f := .glo "_law_common") rfl)
  f__law_common := c.def_ 15 (d := dd 24 "_law_common" "_law_common") rfl
  g__law_least := He.glo_ok X G (c.fact 16 (f := .glo "_law_least") rfl)
  f__law_least := c.def_ 16 (d := dd 25 "_law_least" "_law_least") rfl
  g__law_shot := He.glo_ok X G (c.fact 17 (f := .glo "_law_shot") rfl)
  f__law_shot := c.def_ 17 (d := dd 26 "_law_shot" "_law_shot") rfl
  g__law_lit_refused := He.glo_ok X G (c.fact 18 (f := .glo "_law_lit_refused") rfl)
  f__law_lit_refused := c.def_ 18 (d := dd 27 "_law_lit_refused" "_law_lit_refused") rfl
  g__law_cut_told := He.glo_ok X G (c.fact 19 (f := .glo "_law_cut_told") rfl)
  f__law_cut_told := c.def_ 19 (d := dd 28 "_law_cut_told" "_law_cut_told") rfl
  g_law := He.glo_ok X G (c.fact 20 (f := .glo "law") rfl)
  f_law := c.def_ 20 (d := dd 29 "law" "law") rfl
theorem facts {P : Program} {w : World} {K : PySem.W.Frag} {h : Heap} {mg : Str → Option Value} {f : Addr} (X : K.In h) (G : h.Ns mainGlobals mg) (hfa : mg ("law" : Str) = some (.ref f)) (c : He.SaysD fa fn K) (ce : ∀ c ∈ chks, c K = true) :
    ∃ fd : FuncData, (∀ (s : Shared) (v : Value), BindsTo s fd ⟨[v], []⟩ [("script", v)]) ∧ ∀ base : Heap, K.In base → base.Ns mainGlobals mg → FnOk P w K mg base (L2.CX P w) 7 f fd ["script"] (spP K 1 sem_law) := by
  have T := tx X G c ce
  obtain ⟨fd, F⟩ := T.f_law
  have e := hfa.symm.trans T.g_law
  cases e
  have b := FunD.bindsA (ps := ["script"]) F fun _ _ _ _ _ _ us hl => match us, hl with | [_], _ => rfl
  refine ⟨fd, fun s v => b s [v] rfl, fun base _ _ => ?_⟩
  have d_is_within := ok_is_within (P := P) (w := w) (base := base) T 
  have d_common := ok_common (P := P) (w := w) (base := base) T 
  have d_least := ok_least (P := P) (w := w) (base := base) T d_common
  have d_is_row := ok_is_row (P := P) (w := w) (base := base) T d_is_within
  have d_is_shot := ok_is_shot (P := P) (w := w) (base := base) T d_is_row
  have d_look := ok_look (P := P) (w := w) (base := base) T d_is_shot
  have d_size_of := ok_size_of (P := P) (w := w) (base := base) T 
  have d_turned := ok_turned (P := P) (w := w) (base := base) T d_look d_size_of
  have d_mirrored := ok_mirrored (P := P) (w := w) (base := base) T d_look
  have d_lit := ok_lit (P := P) (w := w) (base := base) T d_look d_is_within
  have d_cut_out := ok_cut_out (P := P) (w := w) (base := base) T d_look d_size_of d_is_within
  have d_mean := ok_mean (P := P) (w := w) (base := base) T d_look d_size_of d_least
  have d_spread := ok_spread (P := P) (w := w) (base := base) T d_look
  have d__law_cell := ok__law_cell (P := P) (w := w) (base := base) T 
  have d__law_row := ok__law_row (P := P) (w := w) (base := base) T d__law_cell
  have d__law_common := ok__law_common (P := P) (w := w) (base := base) T 
  have d__law_least := ok__law_least (P := P) (w := w) (base := base) T d__law_common
  have d__law_shot := ok__law_shot (P := P) (w := w) (base := base) T 
  have d__law_lit_refused := ok__law_lit_refused (P := P) (w := w) (base := base) T d_lit
  have d__law_cut_told := ok__law_cut_told (P := P) (w := w) (base := base) T d_cut_out
  exact ok_law T F d__law_row d__law_shot d_turned d_mirrored d_lit d__law_lit_refused d_mean d__law_least d_spread d__law_cut_told
end VVlaw
open PySem PySem.W PySem.Calls PyProof.Rows
set_option maxRecDepth 100000 in
set_option maxHeartbeats 0 in
theorem PySem.Challenge.cw_vastview_k02_shots_turned_lit_and_cut_holds : PySem.Challenge.rw_vastview_k02_shots_turned_lit_and_cut.Holds := by
  w_on; o_law
  refine HandSHeadRun.head_any (r := OpenLaw.row PySem.Challenge.rw_vastview_k02_shots_turned_lit_and_cut) (q := view (OpenLaw.row PySem.Challenge.rw_vastview_k02_shots_turned_lit_and_cut).prog [29]) (H := VVlaw.hk) (ob := VVlaw.ob) (M := 4000) (loose := VVlaw.loose) (d := HandSHeadRun.topDef (OpenLaw.row PySem.Challenge.rw_vastview_k02_shots_turned_lit_and_cut).prog 29) (kwd := []) VVlaw.ob_eq
    (by kernel_rfl) (fun s => by kernel_rfl) VVlaw.run (by kernel_rfl) (by kernel_rfl) (by kernel_rfl) (by rfl) (by first | assumption | decide +kernel) (by decide +kernel) ⟨rfl, rfl, rfl, rfl, rfl, by decide +kernel⟩ ?hw ?hc
  case hw => w_witness2
  case hc =>
    refine VV.law_end (l := PySem.Challenge.rw_vastview_k02_shots_turned_lit_and_cut) (k := 7) rfl (by kernel_rfl) ⟨rfl, by decide, by decide⟩ VVlaw.law_true ?F
    intro w mg fa h Y G hmg0
    obtain ⟨K, KX, c, ce⟩ := Y
    have hmg : mg ("law" : PySem.Str) = some (.ref fa) := by
      have e : (HandSHeadRun.topDef (OpenLaw.row PySem.Challenge.rw_vastview_k02_shots_turned_lit_and_cut).prog 29).name = ("law" : PySem.Str) := by kernel_rfl
      rw [← e]
      exact hmg0
    obtain ⟨fd, hb, hF⟩ := VVlaw.facts (P := (PySem.Challenge.rw_vastview_k02_shots_turned_lit_and_cut).prog) (w := w) KX G hmg c ce
    exact ⟨K, fd, KX, hb, hF⟩

