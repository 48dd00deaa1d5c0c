import PyProof.Rows.All
import Wide.All
import OpenK.AllK
import Wide.FinOn
import HandS.ForMost
import HandS.ForExc
import HandS.More
import HandS.Defaults
import HandS.Flow
import HandS.Style
import HandS.Wide
import HandS.IsInst
import HandS.TupAny
import HandS.TupMul
import HandS.Zip
import HandS.Codes
import HandS.HeadHook1
import HandS.Lambda
import HandS.HeadHook4
import HandS.HeadHook2
import HandS.Deep
import HandS.TupLen
import KE.KStateDown
import HandS.Ends
import HandS.MakeKwOnly
import KE.DataMinMax
import HandS.Exc
import HandS.ExcIs
import HandS.TryOnly
import HandS.TryMany
import HandS.Head0
import HandS.Head1
import HandS.Head2
import HandS.HeadEnd
import HandS.Dict
import HandS.DictTup
import KE.SortData
import HandS.Conv
import KE.KDictWalk
import KE.KDictSum
import KE.KDictList
import KE.KEqDict
import KE.GoesEnum
import KE.GoesMore
import HandS.Text
import HandS.SetFor
import HandS.Strs
import KE.KDictKeyed
import PyProof.Rows.InDataRows
import HandS.NoneIn
import HandS.Sort
import PyProof.ListRange
import KE.KIndexOf
import KE.DataFind
import HandS.SortInts
import HandS.TupSets
import HandS.SetBool
import HandS.SetTxt0
import HandS.ExcInit
import HandS.ExcField
import KE.KItemsList
import KE.SortKeyHeap
import HandS.HeadWalk
import KE.KExcIs
import KE.KUnpackStar
import HandS.FStr
import HandS.RaiseMore
import PySem.Challenge.RW_vastview_k31_texts
set_option Elab.async false
set_option linter.all false
set_option maxRecDepth 100000
set_option maxHeartbeats 4000000
/-! VVa: plain data, results, and how they lie in the abstract heap. -/
namespace VV
open PySem PySem.Spec L2
open PyProof.Rows hiding St

abbrev D := PyData
abbrev Ad := Addr → Prop
/-- a list that is only read: the law's script -/
def rdL (ns : List Int) : D := .dict [(.none, .list (ns.map PyData.int))]
/-- a tuple that is known to the object: made by tuple(..) -/
def fzD (ds : List D) : D := .dict [(.none, .tuple ds)]
/-- a dict of tuples that is known to the object -/
def fdD (ps : List (D × D)) : D := .dict [(.none, .dict ps)]
/-- an object of a class of one's own, with its fields -/
def obD (c : Str) (fs : List (Str × D)) : D := .dict ((.none, .str c) :: fs.map fun p => (PyData.str p.1, p.2))
def keyD : Key → D
  | .inl i => .int i
  | .inr x => .str x
/-! ### what is known stays; tables of code objects may grow -/
/-- the one lambda's name -/
def lamQ : Str := "matches_of.<locals>.<lambda>"
def NT : HO → Prop
  | .tbl _ => False
  | _ => True
structure Same (H H' : Hp) : Prop where
  go : ∀ b o, H b = some o → NT o → H' b = some o
  fre : ∀ b, H' b = none → H b = none
  tab : ∀ P, LamX.TabS H P lamQ → LamX.TabS H' P lamQ
theorem Same.ap {H H' : Hp} (s : Same H H') (b : Addr) (o : HO) (h : H b = some o) (nt : NT o := by exact trivial) : H' b = some o := s.go b o h nt
instance {H H' : Hp} : CoeFun (Same H H') fun _ => ∀ b o, H b = some o → (nt : NT o := by exact trivial) → H' b = some o := ⟨@Same.ap H H'⟩
theorem Same.of {H H' : Hp} (e : ∀ b o, H b = some o → H' b = some o) : Same H H' := ⟨fun b o h _ => e b o h, fun b h => by
  cases q : H b with
  | none => rfl
  | some o => (rw [e b o q] at h; cases h), fun P t => t.ext e⟩
theorem Same.refl (H : Hp) : Same H H := .of fun _ _ h => h
theorem Same.trans {H H1 H2 : Hp} (a : Same H H1) (b : Same H1 H2) : Same H H2 := ⟨fun c o h n => b.go c o (a.go c o h n) n, fun c h => a.fre c (b.fre c h), fun P t => b.tab P (a.tab P t)⟩
theorem Same.free {H H' : Hp} (e : Same H H') {l : Addr} (h : H' l = Option.none) : H l = Option.none := e.fre l h
/-- neither a table nor a code object -/
def NC (a : Addr) : HO → Prop
  | HO.tbl _ => False
  | HO.ext φ => ∀ q, HO.ext φ ≠ LamX.CodeO a q
  | _ => True
theorem nc_code {a : Addr} {q : Str} (n : NC a (LamX.CodeO a q)) : False := n q rfl
theorem tabS_off {H H' : Hp} {P l : Addr} {q : Str} {o : HO} (t : LamX.TabS H P q) (hl : H l = some o) (n : NC l o) (e : ∀ b, b ≠ l → H b = H' b) : LamX.TabS H' P q := by
  obtain ⟨ps, h1, h2, h3⟩ := t
  refine ⟨ps, ?_, h2, fun pos cv hc => ?_⟩
  · rw [← e]
    · exact h1
    · intro z; subst z; rw [hl] at h1; cases h1; exact n
  · obtain ⟨c, e1, e2⟩ := h3 pos cv hc
    refine ⟨c, e1, ?_⟩
    rw [← e]
    · exact e2
    · intro z; subst z; rw [hl] at e2; cases e2; exact nc_code n
theorem tabS_upd {H : Hp} {P a : Addr} {q : Str} {o u : HO} (t : LamX.TabS H P q) (ha : H a = some u) (n : NC a u) : LamX.TabS (upd H a o) P q := by
  obtain ⟨ps, h1, h2, h3⟩ := t
  refine ⟨ps, ?_, h2, fun pos cv hc => ?_⟩
  · rw [upd_ne]
    · exact h1
    · intro e; subst e; rw [ha] at h1; cases h1; exact n
  · obtain ⟨c, e1, e2⟩ := h3 pos cv hc
    refine ⟨c, e1, ?_⟩
    rw [upd_ne]
    · exact e2
    · intro e; subst e; rw [ha] at e2; cases e2; exact nc_code n
/-- a thing that was not there is written -/
theorem Same.updN {H H1 : Hp} {a : Addr} {o u : HO} (s : Same H H1) (na : H a = none) (ha : H1 a = some u) (n : NC a u) : Same H (upd H1 a o) := ⟨fun b x hb nt => by
  rw [upd_ne (by intro e; subst e; rw [na] at hb; cases hb)]
  exact s.go b x hb nt, fun b hb => by
  by_cases e : b = a
  · subst e; exact na
  · rw [upd_ne e] at hb; exact s.fre b hb, fun P t => tabS_upd (s.tab P t) ha n⟩
/-- the one def that makes a lambda, its table -/
def lamDef : He.Defn := ("matches_of", none)
def tabK (K : PySem.W.Frag) : Addr := (He.cT K lamDef).2
def lamB (K : PySem.W.Frag) : Bool := (K.lookup (tabK K)).isNone
def TbOk (K : PySem.W.Frag) (H : Hp) : Prop := lamB K = true → LamX.TabS H (tabK K) lamQ
theorem TbOk.mono {K : PySem.W.Frag} {H H' : Hp} (t : TbOk K H) (s : Same H H') : TbOk K H' := fun e => s.tab _ (t e)
theorem TbOk.upd {K : PySem.W.Frag} {H : Hp} {a : Addr} {o u : HO} (t : TbOk K H) (ha : H a = some u) (n : NC a u) : TbOk K (upd H a o) := fun e => tabS_upd (t e) ha n
/-- a list that never changes: locked, or the top's own -/
def SqF (K : PySem.W.Frag) (H : Hp) (a : Addr) (xs : List V) : Prop :=
  (∃ o, H a = some (.frz o (.lst xs))) ∨ SqL K (fun _ => none) a xs
theorem SqF.sq {K : PySem.W.Frag} {H : Hp} {a : Addr} {xs : List V} (h : SqF K H a xs) : SqL K H a xs := by
  rcases h with h | (h | ⟨_, h⟩) | h
  · exact .inl (.inr h)
  · cases h
  · cases h
  · exact .inr h
/-- .. or one that is not among those that may be changed -/
def SqG (K : PySem.W.Frag) (H : Hp) (L : Ad) (a : Addr) (xs : List V) : Prop := SqF K H a xs ∨ (H a = some (.lst xs) ∧ ¬ L a)
theorem SqG.sq {K : PySem.W.Frag} {H : Hp} {L : Ad} {a : Addr} {xs : List V} (h : SqG K H L a xs) : SqL K H a xs := h.elim SqF.sq fun q => .inl (.inl q.1)

/-! ### how data lie in the heap; L: the addresses that may still be changed -/
mutual
inductive Rp (K : PySem.W.Frag) (H : Hp) (L : Ad) : D → V → Prop
  | non : Rp K H L .none .non
  | bl (b : Bool) : Rp K H L (.bool b) (.bl b)
  | int (i : Int) : Rp K H L (.int i) (.int i)
  | str (x : Str) : Rp K H L (.str x) (.str x)
  | tup {a : Addr} {vs : List V} {ds : List D} : H a = some (.tup vs) → RpL K H L ds vs → Rp K H L (.tuple ds) (.ref a)
  | lst {a : Addr} {vs : List V} {ds : List D} : H a = some (.lst vs) → ¬ L a → RpL K H L ds vs → Rp K H L (.list ds) (.ref a)
  | rd {a : Addr} {ns : List Int} : SqG K H L a (ns.map V.int) → Rp K H L (rdL ns) (.ref a)
  | fz {a : Addr} {o : Obj} {vs : List V} {ds : List D} : H a = some (.frz o (.tup vs)) → o.dict = none → RpL K H L ds vs → Rp K H L (fzD ds) (.ref a)
  | fd {a : Addr} {o : Obj} {kvs : List (List Key × V)} {ps : List (D × D)} : H a = some (.frz o (.dT kvs)) → ps.map (·.1) = kvs.map (fun q => PyData.tuple (q.1.map keyD)) → RpL K H L (ps.map (·.2)) (kvs.map (·.2)) → Rp K H L (fdD ps) (.ref a)
  | ob {a dx : Addr} {c : Str} {fs : List (Str × D)} {vs : List (Str × V)} : H a = some (.ins (He.ga K c) dx vs) → ¬ L a → fs.map (·.1) = vs.map (·.1) → RpL K H L (fs.map (·.2)) (vs.map (·.2)) → Rp K H L (obD c fs) (.ref a)
  | dk {a : Addr} {kvs : List (Key × V)} {ps : List (D × D)} : H a = some (.dK kvs) → ¬ L a → ps.map (·.1) = kvs.map (fun q => keyD q.1) → RpL K H L (ps.map (·.2)) (kvs.map (·.2)) → Rp K H L (.dict ps) (.ref a)
  | dt {a : Addr} {kvs : List (List Key × V)} {ps : List (D × D)} : H a = some (.dT kvs) → ¬ L a → ps.map (·.1) = kvs.map (fun q => PyData.tuple (q.1.map keyD)) → RpL K H L (ps.map (·.2)) (kvs.map (·.2)) → Rp K H L (.dict ((PyData.none, PyData.none) :: ps)) (.ref a)
inductive RpL (K : PySem.W.Frag) (H : Hp) (L : Ad) : List D → List V → Prop
  | nil : RpL K H L [] []
  | cons {d : D} {v : V} {ds : List D} {vs : List V} : Rp K H L d v → RpL K H L ds vs → RpL K H L (d :: ds) (v :: vs)
end
section
variable {K : PySem.W.Frag} {H H' : Hp} {L L' : Ad}
theorem SqF.mono {a : Addr} {xs : List V} (s : Same H H') (h : SqF K H a xs) : SqF K H' a xs := by
  rcases h with ⟨o, h⟩ | h
  · exact .inl ⟨o, s _ _ h⟩
  · exact .inr h
theorem SqG.mono {a : Addr} {xs : List V} (s : Same H H') (h : SqG K H L a xs) : SqG K H' L a xs := h.imp (SqF.mono s) fun q => ⟨s _ _ q.1, q.2⟩
theorem SqG.lives (s : ∀ a, L' a → L a ∨ H a = none) {a : Addr} {xs : List V} (h : SqG K H L a xs) : SqG K H L' a xs := h.imp id fun q => ⟨q.1, fun z => (s _ z).elim q.2 fun e => by rw [e] at q; cases q.1⟩
mutual
theorem Rp.mono (s : Same H H') : ∀ {d : D} {v : V}, Rp K H L d v → Rp K H' L d v
  | _, _, .non => .non
  | _, _, .bl b => .bl b
  | _, _, .int i => .int i
  | _, _, .str x => .str x
  | _, _, .tup h r => .tup (s _ _ h) (RpL.mono s r)
  | _, _, .lst h n r => .lst (s _ _ h) n (RpL.mono s r)
  | _, _, .rd h => .rd (h.mono s)
  | _, _, .fz h e r => .fz (s _ _ h) e (RpL.mono s r)
  | _, _, .fd h e r => .fd (s _ _ h) e (RpL.mono s r)
  | _, _, .ob h n e r => .ob (s _ _ h) n e (RpL.mono s r)
  | _, _, .dk h n e r => .dk (s _ _ h) n e (RpL.mono s r)
  | _, _, .dt h n e r => .dt (s _ _ h) n e (RpL.mono s r)
theorem RpL.mono (s : Same H H') : ∀ {ds : List D} {vs : List V}, RpL K H L ds vs → RpL K H' L ds vs
  | _, _, .nil => .nil
  | _, _, .cons h r => .cons (Rp.mono s h) (RpL.mono s r)
end
/- another set of addresses: fewer, or new ones -/
mutual
theorem Rp.lives (s : ∀ a, L' a → L a ∨ H a = none) : ∀ {d : D} {v : V}, Rp K H L d v → Rp K H L' d v
  | _, _, .non => .non
  | _, _, .bl b => .bl b
  | _, _, .int i => .int i
  | _, _, .str x => .str x
  | _, _, .tup h r => .tup h (RpL.lives s r)
  | _, _, .lst h n r => .lst h (fun z => (s _ z).elim n fun q => by rw [q] at h; cases h) (RpL.lives s r)
  | _, _, .rd h => .rd (h.lives s)
  | _, _, .fz h e r => .fz h e (RpL.lives s r)
  | _, _, .fd h e r => .fd h e (RpL.lives s r)
  | _, _, .ob h n e r => .ob h (fun z => (s _ z).elim n fun q => by rw [q] at h; cases h) e (RpL.lives s r)
  | _, _, .dk h n e r => .dk h (fun z => (s _ z).elim n fun q => by rw [q] at h; cases h) e (RpL.lives s r)
  | _, _, .dt h n e r => .dt h (fun z => (s _ z).elim n fun q => by rw [q] at h; cases h) e (RpL.lives s r)
theorem RpL.lives (s : ∀ a, L' a → L a ∨ H a = none) : ∀ {ds : List D} {vs : List V}, RpL K H L ds vs → RpL K H L' ds vs
  | _, _, .nil => .nil
  | _, _, .cons h r => .cons (Rp.lives s h) (RpL.lives s r)
end
/-- what is no tuple and not locked -/
def Chg : HO → Prop
  | .lst _ => True
  | .dK _ => True
  | .dT _ => True
  | .ext _ => True
  | .ins _ _ _ => True
  | _ => False
theorem SqF.upd {a b : Addr} {o o' : HO} {xs : List V} (hb : H b = some o) (c : Chg o) (h : SqF K H a xs) : SqF K (upd H b o') a xs := by
  rcases h with ⟨q, h⟩ | h
  · refine .inl ⟨q, ?_⟩
    rw [upd_ne]
    · exact h
    · intro e; subst e; rw [hb] at h; cases h; exact c
  · exact .inr h
theorem SqG.upd {a b : Addr} {o o' : HO} {xs : List V} (hb : H b = some o) (c : Chg o) (hl : L b) (h : SqG K H L a xs) : SqG K (upd H b o') L a xs := h.imp (SqF.upd hb c) fun q => ⟨by
  have n : a ≠ b := fun e => q.2 (by rw [e]; exact hl)
  rw [upd_ne n]
  exact q.1, q.2⟩
/- a changeable object is written -/
mutual
theorem Rp.upd {b : Addr} {o o' : HO} (hb : H b = some o) (c : Chg o) (hl : L b) : ∀ {d : D} {v : V}, Rp K H L d v → Rp K (upd H b o') L d v
  | _, _, .non => .non
  | _, _, .bl b => .bl b
  | _, _, .int i => .int i
  | _, _, .str x => .str x
  | _, _, .tup h r => .tup (by rw [upd_ne (by intro e; subst e; rw [hb] at h; cases h; exact c)]; exact h) (RpL.upd hb c hl r)
  | _, _, .lst h n r => .lst (by rw [upd_ne (by intro e; subst e; exact n hl)]; exact h) n (RpL.upd hb c hl r)
  | _, _, .rd h => .rd (SqG.upd hb c hl h)
  | _, _, .fz h e r => .fz (by rw [upd_ne (by intro e; subst e; rw [hb] at h; cases h; exact c)]; exact h) e (RpL.upd hb c hl r)
  | _, _, .fd h e r => .fd (by rw [upd_ne (by intro e; subst e; rw [hb] at h; cases h; exact c)]; exact h) e (RpL.upd hb c hl r)
  | _, _, .ob h n e r => .ob (by rw [upd_ne (by intro e; subst e; exact n hl)]; exact h) n e (RpL.upd hb c hl r)
  | _, _, .dk h n e r => .dk (by rw [upd_ne (by intro e; subst e; exact n hl)]; exact h) n e (RpL.upd hb c hl r)
  | _, _, .dt h n e r => .dt (by rw [upd_ne (by intro e; subst e; exact n hl)]; exact h) n e (RpL.upd hb c hl r)
theorem RpL.upd {b : Addr} {o o' : HO} (hb : H b = some o) (c : Chg o) (hl : L b) : ∀ {ds : List D} {vs : List V}, RpL K H L ds vs → RpL K (upd H b o') L ds vs
  | _, _, .nil => .nil
  | _, _, .cons h r => .cons (Rp.upd hb c hl h) (RpL.upd hb c hl r)
end
/-! ### lists of data -/
theorem RpL.length : ∀ {ds : List D} {vs : List V}, RpL K H L ds vs → ds.length = vs.length
  | _, _, .nil => rfl
  | _, _, .cons _ r => by simp [RpL.length r]
theorem RpL.get : ∀ {ds : List D} {vs : List V} {i : Nat} {d : D}, RpL K H L ds vs → ds[i]? = some d → ∃ v, vs[i]? = some v ∧ Rp K H L d v
  | _, _, _, _, .nil, h => by simp at h
  | _, _, 0, _, .cons r _, h => by simp at h; subst h; exact ⟨_, rfl, r⟩
  | _, _, i + 1, d, .cons _ r, h => by
    obtain ⟨v, e, q⟩ := RpL.get (i := i) (d := d) r (by simpa using h)
    exact ⟨v, by simpa using e, q⟩
theorem RpL.append : ∀ {ds es : List D} {vs us : List V}, RpL K H L ds vs → RpL K H L es us → RpL K H L (ds ++ es) (vs ++ us)
  | _, _, _, _, .nil, s => s
  | _, _, _, _, .cons r t, s => .cons r (RpL.append t s)
theorem RpL.take (n : Nat) : ∀ {ds : List D} {vs : List V}, RpL K H L ds vs → RpL K H L (ds.take n) (vs.take n) := by
  induction n with
  | zero => intro ds vs _; simp; exact .nil
  | succ n ih =>
    intro ds vs h
    cases h with
    | nil => exact .nil
    | cons r t => exact .cons r (ih t)
theorem RpL.drop (n : Nat) : ∀ {ds : List D} {vs : List V}, RpL K H L ds vs → RpL K H L (ds.drop n) (vs.drop n) := by
  induction n with
  | zero => intro ds vs h; exact h
  | succ n ih =>
    intro ds vs h
    cases h with
    | nil => exact .nil
    | cons r t => exact ih t
theorem RpL.set {d : D} {v : V} (r : Rp K H L d v) (i : Nat) : ∀ {ds : List D} {vs : List V}, RpL K H L ds vs → RpL K H L (ds.set i d) (vs.set i v) := by
  induction i with
  | zero =>
    intro ds vs h
    cases h with
    | nil => exact .nil
    | cons q t => exact .cons r t
  | succ n ih =>
    intro ds vs h
    cases h with
    | nil => exact .nil
    | cons q t => exact .cons q (ih t)
theorem RpL.reverse {ds : List D} {vs : List V} (h : RpL K H L ds vs) : RpL K H L ds.reverse vs.reverse := by
  induction ds generalizing vs with
  | nil => cases h; exact .nil
  | cons d ds ih =>
    cases h with
    | cons r t =>
      simpa only [List.reverse_cons] using (ih t).append (.cons r .nil)
theorem RpL.rep {ds : List D} {vs : List V} (h : RpL K H L ds vs) : ∀ n : Nat, RpL K H L (List.replicate n ds).flatten (List.replicate n vs).flatten
  | 0 => by simp; exact .nil
  | n + 1 => by
    simpa only [List.replicate_succ, List.flatten_cons] using h.append (RpL.rep h n)
/-- plain ints -/
theorem RpL.ints : ∀ {ns : List Int} {vs : List V}, RpL K H L (ns.map PyData.int) vs → vs = ns.map V.int
  | [], _, h => by cases h; rfl
  | n :: ns, _, h => by
    cases h with
    | cons r t =>
      cases r
      rw [RpL.ints t]
      rfl
theorem RpL.ofInts (ns : List Int) : RpL K H L (ns.map PyData.int) (ns.map V.int) := by
  induction ns with
  | nil => exact .nil
  | cons n ns ih => exact .cons (.int n) ih
theorem Rp.intV {i : Int} {v : V} (h : Rp K H L (.int i) v) : v = .int i := by cases h; rfl
theorem Rp.blV {b : Bool} {v : V} (h : Rp K H L (.bool b) v) : v = .bl b := by cases h; rfl
theorem Rp.strV {x : Str} {v : V} (h : Rp K H L (.str x) v) : v = .str x := by cases h; rfl
theorem Rp.nonV {v : V} (h : Rp K H L .none v) : v = .non := by cases h; rfl
theorem Rp.tupV {ds : List D} {v : V} (h : Rp K H L (.tuple ds) v) : ∃ a vs, v = .ref a ∧ H a = some (.tup vs) ∧ RpL K H L ds vs := by
  cases h with
  | tup h r => exact ⟨_, _, rfl, h, r⟩
theorem Rp.non_iff {d : D} {v : V} (h : Rp K H L d v) : v = .non ↔ d = .none := by
  cases h <;> simp [rdL, fzD, fdD, obD]
end

/-! ### what may be changed is held by a slot; a value that is looked at for a moment may be such -/
/-- the object at a bears the list or dict d -/
inductive Ow (K : PySem.W.Frag) (H : Hp) (L : Ad) : D → Addr → Prop
  | lst {a : Addr} {vs : List V} {ds : List D} : H a = some (.lst vs) → RpL K H L ds vs → Ow K H L (.list ds) a
  | dk {a : Addr} {kvs : List (Key × V)} {ps : List (D × D)} : H a = some (.dK kvs) → ps.map (·.1) = kvs.map (fun q => keyD q.1) → RpL K H L (ps.map (·.2)) (kvs.map (·.2)) → Ow K H L (.dict ps) a
  | dt {a : Addr} {kvs : List (List Key × V)} {ps : List (D × D)} : H a = some (.dT kvs) → ps.map (·.1) = kvs.map (fun q => PyData.tuple (q.1.map keyD)) → RpL K H L (ps.map (·.2)) (kvs.map (·.2)) → Ow K H L (.dict ((PyData.none, PyData.none) :: ps)) a
  | ob {a dx : Addr} {c : Str} {fs : List (Str × D)} {vs : List (Str × V)} : H a = some (.ins (He.ga K c) dx vs) → fs.map (·.1) = vs.map (·.1) → RpL K H L (fs.map (·.2)) (vs.map (·.2)) → Ow K H L (obD c fs) a
def Rb (K : PySem.W.Frag) (H : Hp) (L : Ad) (d : D) (v : V) : Prop := Rp K H L d v ∨ ∃ a, v = .ref a ∧ Ow K H L d a
section
variable {K : PySem.W.Frag} {H H' : Hp} {L L' : Ad} {d : D} {v : V}
theorem Rp.rb (h : Rp K H L d v) : Rb K H L d v := .inl h
theorem Ow.mono {a : Addr} (s : Same H H') (h : Ow K H L d a) : Ow K H' L d a := by
  cases h with
  | lst h r => exact .lst (s _ _ h) (r.mono s)
  | dk h e r => exact .dk (s _ _ h) e (r.mono s)
  | dt h e r => exact .dt (s _ _ h) e (r.mono s)
  | ob h e r => exact .ob (s _ _ h) e (r.mono s)
theorem Ow.lives {a : Addr} (s : ∀ a, L' a → L a ∨ H a = none) (h : Ow K H L d a) : Ow K H L' d a := by
  cases h with
  | lst h r => exact .lst h (r.lives s)
  | dk h e r => exact .dk h e (r.lives s)
  | dt h e r => exact .dt h e (r.lives s)
  | ob h e r => exact .ob h e (r.lives s)
theorem Ow.upd {a b : Addr} {o o' : HO} (hb : H b = some o) (c : Chg o) (hl : L b) (ne : a ≠ b) (h : Ow K H L d a) : Ow K (L2.upd H b o') L d a := by
  cases h with
  | lst h r => exact .lst (by rw [upd_ne ne]; exact h) (r.upd hb c hl)
  | dk h e r => exact .dk (by rw [upd_ne ne]; exact h) e (r.upd hb c hl)
  | dt h e r => exact .dt (by rw [upd_ne ne]; exact h) e (r.upd hb c hl)
  | ob h e r => exact .ob (by rw [upd_ne ne]; exact h) e (r.upd hb c hl)
theorem Ow.rp {a : Addr} (h : Ow K H L d a) (n : ¬ L a) : Rp K H L d (.ref a) := by
  cases h with
  | lst h r => exact .lst h n r
  | dk h e r => exact .dk h n e r
  | dt h e r => exact .dt h n e r
  | ob h e r => exact .ob h n e r
theorem Ow.chg {a : Addr} (h : Ow K H L d a) : ∃ o, H a = some o ∧ Chg o := by
  cases h with
  | lst h r => exact ⟨_, h, trivial⟩
  | dk h e r => exact ⟨_, h, trivial⟩
  | dt h e r => exact ⟨_, h, trivial⟩
  | ob h e r => exact ⟨_, h, trivial⟩
theorem Ow.nc {a : Addr} (h : Ow K H L d a) : ∃ o, H a = some o ∧ NC a o := by
  cases h with
  | lst h r => exact ⟨_, h, trivial⟩
  | dk h e r => exact ⟨_, h, trivial⟩
  | dt h e r => exact ⟨_, h, trivial⟩
  | ob h e r => exact ⟨_, h, trivial⟩
theorem Rb.mono (s : Same H H') (h : Rb K H L d v) : Rb K H' L d v := by
  rcases h with h | ⟨a, e, h⟩
  · exact .inl (h.mono s)
  · exact .inr ⟨a, e, h.mono s⟩
theorem Rb.lstV {ds : List D} (h : Rb K H L (.list ds) v) : ∃ a vs, v = .ref a ∧ H a = some (.lst vs) ∧ RpL K H L ds vs := by
  rcases h with h | ⟨a, e, h⟩
  · cases h with
    | lst h n r => exact ⟨_, _, rfl, h, r⟩
  · cases h with
    | lst h r => exact ⟨a, _, e, h, r⟩
theorem Rb.tupV {ds : List D} (h : Rb K H L (.tuple ds) v) : ∃ a vs, v = .ref a ∧ H a = some (.tup vs) ∧ RpL K H L ds vs := by
  rcases h with h | ⟨a, e, h⟩
  · exact h.tupV
  · cases h
theorem Rb.intV {i : Int} (h : Rb K H L (.int i) v) : v = .int i := by
  rcases h with h | ⟨a, e, h⟩
  · exact h.intV
  · cases h
theorem Rb.blV {b : Bool} (h : Rb K H L (.bool b) v) : v = .bl b := by
  rcases h with h | ⟨a, e, h⟩
  · exact h.blV
  · cases h
theorem Rb.strV {x : Str} (h : Rb K H L (.str x) v) : v = .str x := by
  rcases h with h | ⟨a, e, h⟩
  · exact h.strV
  · cases h
theorem Rb.nonV (h : Rb K H L .none v) : v = .non := by
  rcases h with h | ⟨a, e, h⟩
  · exact h.nonV
  · cases h
theorem Rb.non_iff (h : Rb K H L d v) : v = .non ↔ d = .none := by
  rcases h with h | ⟨a, e, h⟩
  · exact h.non_iff
  · subst e
    cases h <;> simp [obD]
end
end VV

set_option Elab.async false
set_option linter.all false
set_option maxRecDepth 100000
set_option maxHeartbeats 4000000
/-! VVb: results, slots, the judgements of this layer, expressions. -/
namespace VV
open PySem PySem.Spec L2
open PyProof.Rows hiding St

/-! ### what an expression, a statement comes to -/
inductive Rs where
  | ok (d : D)
  | exc (c : Str) (fs : List (Str × D))
  | bad
def Rs.bind (r : Rs) (k : D → Rs) : Rs := match r with
  | .ok d => k d
  | .exc c fs => .exc c fs
  | .bad => .bad
def Rs.of : Option D → Rs
  | some d => .ok d
  | none => .bad
@[simp] theorem Rs.bind_ok (d : D) (k : D → Rs) : (Rs.ok d).bind k = k d := rfl
@[simp] theorem Rs.bind_exc (c : Str) (fs : List (Str × D)) (k : D → Rs) : (Rs.exc c fs).bind k = .exc c fs := rfl
@[simp] theorem Rs.bind_bad (k : D → Rs) : Rs.bad.bind k = .bad := rfl
@[simp] theorem Rs.of_some (d : D) : Rs.of (some d) = .ok d := rfl
@[simp] theorem Rs.of_none : Rs.of none = .bad := rfl
/-- what is known of where an object and its lists lie -/
abbrev Kn := Option (Addr × Option (List Addr))
/-- things of several lists: a list of lists; an object of which some fields are lists of its own -/
inductive Gr where
  | rows (rs : List (List D))
  | stu (o : Kn) (d : D)
/-- a slot: a value; a list or dict that this frame alone holds -/
inductive Sl where
  | val (d : D)
  | own (d : D)
  | grid (g : Gr)
  | pin (a : Addr)
  | ownP (d : D)
abbrev En := List (Option Sl)
abbrev EF := En → Rs
inductive Out where
  | nx (ρ : En)
  | rt (d : D)
  | rn (d : D)
  | rm (d : D) (ρ : En)
  | rq (i : Nat) (ρ : En)
  | bk (ρ : En)
  | ct (ρ : En)
  | exc (c : Str) (fs : List (Str × D)) (ρ : En)
  | bad
abbrev SF := En → Out
/-- live addresses are tracked -/
structure LvOk (K : PySem.W.Frag) (H : Hp) (L : Ad) : Prop where
  go : ∀ a, L a → H a ≠ none
  tb : TbOk K H
instance {K : PySem.W.Frag} {H : Hp} {L : Ad} : CoeFun (LvOk K H L) fun _ => ∀ a, L a → H a ≠ none := ⟨fun s => s.go⟩
theorem LvOk.mono {K : PySem.W.Frag} {H H' : Hp} {L : Ad} (h : LvOk K H L) (s : Same H H') : LvOk K H' L := ⟨fun a z e => h a z (s.free e), h.tb.mono s⟩
/-- a list of lists that all may be changed: rows by place, their addresses -/
structure Ogr (K : PySem.W.Frag) (H : Hp) (L : Ad) (rows : List (List D)) (a : Addr) (bs : List Addr) : Prop where
  top : H a = some (.lst (bs.map V.ref))
  len : rows.length = bs.length
  row : ∀ (k : Nat) (r : List D) (b : Addr), rows[k]? = some r → bs[k]? = some b → ∃ us, H b = some (.lst us) ∧ RpL K H L r us
/-- a field that holds a list of the object's own -/
def inD (ds : List D) : D := .dict [(.none, .bool true), (.none, .list ds)]
theorem no_inD {K : PySem.W.Frag} {H : Hp} {L : Ad} {ds : List D} {v : V} (h : Rp K H L (inD ds) v) : False := by
  unfold inD at h
  generalize e : PyData.dict [(PyData.none, PyData.bool true), (PyData.none, PyData.list ds)] = d at h
  cases h with
  | dk h n q r =>
    cases e
    rename_i kvs
    cases kvs with
    | nil => cases q
    | cons kv kvs =>
      simp only [List.map_cons, List.cons.injEq] at q
      obtain ⟨k, _⟩ := kv
      cases k <;> cases q.1
  | _ => simp [rdL, fzD, fdD, obD] at e
/-- an object's fields, those that are lists of its own by their addresses -/
inductive Fl (K : PySem.W.Frag) (H : Hp) (L : Ad) : List D → List V → List Addr → Prop
  | nil : Fl K H L [] [] []
  | val {d : D} {v : V} {ds : List D} {vs : List V} {bs : List Addr} : Rp K H L d v → Fl K H L ds vs bs → Fl K H L (d :: ds) (v :: vs) bs
  | inn {l : List D} {us : List V} {b : Addr} {ds : List D} {vs : List V} {bs : List Addr} : H b = some (.lst us) → RpL K H L l us → Fl K H L ds vs bs → Fl K H L (inD l :: ds) (.ref b :: vs) (b :: bs)
/-- such an object -/
structure Os (K : PySem.W.Frag) (H : Hp) (L : Ad) (o : Kn) (d : D) (a : Addr) (bs : List Addr) : Prop where
  at_ : ∀ a0 q, o = some (a0, q) → a = a0 ∧ ∀ cs, q = some cs → bs = cs
  ex : ∃ (C : Str) (fs : List (Str × D)) (dx : Addr) (vs : List (Str × V)), d = obD C fs ∧ H a = some (.ins (He.ga K C) dx vs) ∧ fs.map (·.1) = vs.map (·.1) ∧ Fl K H L (fs.map (·.2)) (vs.map (·.2)) bs
def Og (K : PySem.W.Frag) (H : Hp) (L : Ad) : Gr → Addr → List Addr → Prop
  | .rows rs => Ogr K H L rs
  | .stu o d => Os K H L o d
theorem obD_inj {c c' : Str} {fs fs' : List (Str × D)} (h : obD c fs = obD c' fs') : c = c' ∧ fs = fs' := by
  unfold obD at h
  simp only [PyData.dict.injEq, List.cons.injEq, Prod.mk.injEq, PyData.str.injEq, true_and] at h
  refine ⟨h.1, ?_⟩
  have aux : ∀ xs ys : List (Str × D), xs.map (fun p => (PyData.str p.1, p.2)) = ys.map (fun p => (PyData.str p.1, p.2)) → xs = ys := by
    intro xs
    induction xs with
    | nil => intro ys h; cases ys with
      | nil => rfl
      | cons _ _ => cases h
    | cons x xs ih => intro ys h; cases ys with
      | nil => cases h
      | cons y ys =>
        simp only [List.map_cons, List.cons.injEq, Prod.mk.injEq, PyData.str.injEq] at h
        rw [ih ys h.2, Prod.ext h.1.1 h.1.2]
  exact aux _ _ h.2
section
variable {K : PySem.W.Frag} {H H' : Hp} {L L' : Ad} {rows : List (List D)} {g : Gr} {o : Kn} {d : D} {a : Addr} {bs : List Addr} {ds : List D} {vs : List V}
theorem Ogr.mono (s : Same H H') (h : Ogr K H L rows a bs) : Ogr K H' L rows a bs := ⟨s _ _ h.top, h.len, fun k r b e1 e2 => let ⟨us, q, rl⟩ := h.row k r b e1 e2; ⟨us, s _ _ q, rl.mono s⟩⟩
theorem Ogr.lives (s : ∀ a, L' a → L a ∨ H a = none) (h : Ogr K H L rows a bs) : Ogr K H L' rows a bs := ⟨h.top, h.len, fun k r b e1 e2 => let ⟨us, q, rl⟩ := h.row k r b e1 e2; ⟨us, q, rl.lives s⟩⟩
theorem Ogr.upd {c : Addr} {o o' : HO} (hc : H c = some o) (ch : Chg o) (hl : L c) (na : a ≠ c) (nb : ∀ b ∈ bs, b ≠ c) (h : Ogr K H L rows a bs) : Ogr K (L2.upd H c o') L rows a bs :=
  ⟨by rw [upd_ne na]; exact h.top, h.len, fun k r b e1 e2 => let ⟨us, q, rl⟩ := h.row k r b e1 e2; ⟨us, by rw [upd_ne (nb b (List.mem_of_getElem? e2))]; exact q, rl.upd hc ch hl⟩⟩
theorem Ogr.there (h : Ogr K H L rows a bs) : H a ≠ none ∧ ∀ b ∈ bs, H b ≠ none := by
  refine ⟨by rw [h.top]; simp, fun b hb => ?_⟩
  obtain ⟨k, hk⟩ := List.mem_iff_getElem?.mp hb
  have lt : k < rows.length := by rw [h.len]; exact (List.getElem?_eq_some_iff.mp hk).1
  obtain ⟨us, q, _⟩ := h.row k rows[k] b (List.getElem?_eq_getElem lt) hk
  rw [q]
  simp
theorem Ogr.same {bs' : List Addr} {rows' : List (List D)} (h : Ogr K H L rows a bs) (h' : Ogr K H' L' rows' a bs') (s : Same H H') : bs' = bs := by
  have e := (s _ _ h.top).symm.trans h'.top
  have e2 : bs.map V.ref = bs'.map V.ref := by injection (Option.some.inj e)
  have aux : ∀ xs ys : List Addr, xs.map V.ref = ys.map V.ref → ys = xs := by
    intro xs
    induction xs with
    | nil => intro ys h; cases ys with
      | nil => rfl
      | cons _ _ => cases h
    | cons x xs ih => intro ys h; cases ys with
      | nil => cases h
      | cons y ys =>
        simp only [List.map_cons, List.cons.injEq] at h
        rw [ih ys h.2]
        injection h.1 with h1
        rw [h1]
  exact aux _ _ e2
theorem Fl.mono (s : Same H H') (h : Fl K H L ds vs bs) : Fl K H' L ds vs bs := by
  induction h with
  | nil => exact .nil
  | val r _ ih => exact .val (r.mono s) ih
  | inn h r _ ih => exact .inn (s _ _ h) (r.mono s) ih
theorem Fl.lives (s : ∀ a, L' a → L a ∨ H a = none) (h : Fl K H L ds vs bs) : Fl K H L' ds vs bs := by
  induction h with
  | nil => exact .nil
  | val r _ ih => exact .val (r.lives s) ih
  | inn h r _ ih => exact .inn h (r.lives s) ih
theorem Fl.upd {c : Addr} {o o' : HO} (hc : H c = some o) (ch : Chg o) (hl : L c) (h : Fl K H L ds vs bs) : (∀ b ∈ bs, b ≠ c) → Fl K (L2.upd H c o') L ds vs bs := by
  induction h with
  | nil => exact fun _ => .nil
  | val r _ ih => exact fun n => .val (r.upd hc ch hl) (ih n)
  | inn h r _ ih => exact fun n => .inn (by rw [upd_ne (n _ (by simp))]; exact h) (r.upd hc ch hl) (ih fun b hb => n b (by simp [hb]))
theorem Fl.there (h : Fl K H L ds vs bs) : ∀ b ∈ bs, H b ≠ none := by
  induction h with
  | nil => exact fun b hb => by cases hb
  | val _ _ ih => exact ih
  | inn h _ _ ih => exact fun b hb => (List.mem_cons.mp hb).elim (fun e => by rw [e, h]; simp) (ih b)
theorem Fl.same {bs' : List Addr} (h : Fl K H L ds vs bs) : Fl K H' L' ds vs bs' → bs' = bs := by
  induction h generalizing bs' with
  | nil => intro h'; cases h'; rfl
  | val r _ ih =>
    intro h'
    generalize e : _ :: _ = ds2 at h'
    cases h' with
    | val _ r2 => cases e; exact ih r2
    | inn _ _ _ => cases e; exact (no_inD r).elim
  | inn h r _ ih =>
    intro h'
    generalize e : inD _ :: _ = ds2 at h'
    cases h' with
    | val r2 _ => cases e; exact (no_inD r2).elim
    | inn _ _ r2 =>
      simp only [List.cons.injEq] at e
      obtain ⟨_, e⟩ := e
      subst e
      rw [ih r2]
theorem Os.mono (s : Same H H') (h : Os K H L o d a bs) : Os K H' L o d a bs := ⟨h.at_, let ⟨C, fs, dx, vs, e, h1, h2, h3⟩ := h.ex; ⟨C, fs, dx, vs, e, s _ _ h1, h2, h3.mono s⟩⟩
theorem Os.lives (s : ∀ a, L' a → L a ∨ H a = none) (h : Os K H L o d a bs) : Os K H L' o d a bs := ⟨h.at_, let ⟨C, fs, dx, vs, e, h1, h2, h3⟩ := h.ex; ⟨C, fs, dx, vs, e, h1, h2, h3.lives s⟩⟩
theorem Os.upd {c : Addr} {u u' : HO} (hc : H c = some u) (ch : Chg u) (hl : L c) (na : a ≠ c) (nb : ∀ b ∈ bs, b ≠ c) (h : Os K H L o d a bs) : Os K (L2.upd H c u') L o d a bs := ⟨h.at_, let ⟨C, fs, dx, vs, e, h1, h2, h3⟩ := h.ex; ⟨C, fs, dx, vs, e, by rw [upd_ne na]; exact h1, h2, h3.upd hc ch hl nb⟩⟩
theorem Os.there (h : Os K H L o d a bs) : H a ≠ none ∧ ∀ b ∈ bs, H b ≠ none := let ⟨_, _, _, _, _, h1, _, h3⟩ := h.ex; ⟨by rw [h1]; simp, h3.there⟩
theorem Os.same {bs' : List Addr} (h : Os K H L o d a bs) (h' : Os K H' L' o d a bs') (s : Same H H') : bs' = bs := by
  obtain ⟨C, fs, dx, vs, e, h1, h2, h3⟩ := h.ex
  obtain ⟨C', fs', dx', vs', e', h1', h2', h3'⟩ := h'.ex
  obtain ⟨rfl, rfl⟩ := obD_inj (e.symm.trans e')
  have q := (s _ _ h1).symm.trans h1'
  cases q
  exact h3.same h3'
theorem Og.mono (s : Same H H') (h : Og K H L g a bs) : Og K H' L g a bs := by
  cases g with
  | rows rs => exact Ogr.mono s h
  | stu o d => exact Os.mono s h
theorem Og.lives (s : ∀ a, L' a → L a ∨ H a = none) (h : Og K H L g a bs) : Og K H L' g a bs := by
  cases g with
  | rows rs => exact Ogr.lives s h
  | stu o d => exact Os.lives s h
theorem Og.upd {c : Addr} {u u' : HO} (hc : H c = some u) (ch : Chg u) (hl : L c) (na : a ≠ c) (nb : ∀ b ∈ bs, b ≠ c) (h : Og K H L g a bs) : Og K (L2.upd H c u') L g a bs := by
  cases g with
  | rows rs => exact Ogr.upd hc ch hl na nb h
  | stu o d => exact Os.upd hc ch hl na nb h
theorem Og.there (h : Og K H L g a bs) : H a ≠ none ∧ ∀ b ∈ bs, H b ≠ none := by
  cases g with
  | rows rs => exact Ogr.there h
  | stu o d => exact Os.there h
theorem Og.same {bs' : List Addr} (h : Og K H L g a bs) (h' : Og K H' L' g a bs') (s : Same H H') : bs' = bs := by
  cases g with
  | rows rs => exact Ogr.same h h' s
  | stu o d => exact Os.same h h' s
end
def SlR (K : PySem.W.Frag) (H : Hp) (L : Ad) : Sl → Option V → Prop
  | .val d, o => ∃ v, o = some v ∧ Rp K H L d v
  | .own d, o => ∃ a, o = some (.ref a) ∧ Ow K H L d a
  | .grid rows, o => ∃ a bs, o = some (.ref a) ∧ Og K H L rows a bs
  | .pin a, o => o = some (.ref a)
  | .ownP d, o => ∃ a, o = some (.ref a) ∧ Ow K H L d a
/-- the slots, read -/
structure RE (K : PySem.W.Frag) (H : Hp) (L : Ad) (ρ : En) (σ : St) : Prop where
  lv : LvOk K H L
  len : ρ.length = σ.length
  sl : ∀ (i : Nat) (x : Sl), ρ[i]? = some (some x) → ∃ o, σ[i]? = some o ∧ SlR K H L x o
theorem SlR.mono {K : PySem.W.Frag} {H H' : Hp} {L : Ad} {x : Sl} {o : Option V} (s : Same H H') (h : SlR K H L x o) : SlR K H' L x o := by
  cases x with
  | val d => obtain ⟨v, e, r⟩ := h; exact ⟨v, e, r.mono s⟩
  | own d => obtain ⟨a, e, r⟩ := h; exact ⟨a, e, r.mono s⟩
  | grid rows => obtain ⟨a, bs, e, r⟩ := h; exact ⟨a, bs, e, r.mono s⟩
  | pin a => exact h
  | ownP d => obtain ⟨a, e, r⟩ := h; exact ⟨a, e, r.mono s⟩
theorem RE.mono {K : PySem.W.Frag} {H H' : Hp} {L : Ad} {ρ : En} {σ : St} (h : RE K H L ρ σ) (s : Same H H') : RE K H' L ρ σ :=
  ⟨h.lv.mono s, h.len, fun i x e => let ⟨o, e1, r⟩ := h.sl i x e; ⟨o, e1, r.mono s⟩⟩
/-- an exception's fields -/
def XR (K : PySem.W.Frag) (H : Hp) (L : Ad) (fs : List (Str × D)) (x : Option Addr) : Prop :=
  (fs = [] ∧ x = none) ∨ ∃ (dd : Addr) (gs : List (Str × V)), fs ≠ [] ∧ x = some dd ∧ H dd = some (.xd gs) ∧ gs.map (·.1) = fs.map (·.1) ∧ RpL K H L (fs.map (·.2)) (gs.map (·.2))
def Post (K : PySem.W.Frag) (W : WX) (L : Ad) (σ : St) (H : Hp) (r : Rs) (Q : VK) : Prop := match r with
  | .ok d => ∀ (H' : Hp) (v : V), Same H H' → Rp K H' L d v → Q v H'
  | .exc c fs => ∀ (H' : Hp) (x : Option Addr), Same H H' → XR K H' L fs x → W (.ref (He.ga K c)) x σ H'
  | .bad => False
def PostB (K : PySem.W.Frag) (W : WX) (L : Ad) (σ : St) (H : Hp) (r : Rs) (Q : VK) : Prop := match r with
  | .ok d => ∀ (H' : Hp) (v : V), Same H H' → Rb K H' L d v → Q v H'
  | .exc c fs => ∀ (H' : Hp) (x : Option Addr), Same H H' → XR K H' L fs x → W (.ref (He.ga K c)) x σ H'
  | .bad => False
/-- L and one more -/
def Lp (L : Ad) (a : Addr) : Ad := fun z => L z ∨ z = a
/-- a new list or dict -/
def PostN (K : PySem.W.Frag) (W : WX) (L : Ad) (σ : St) (H : Hp) (r : Rs) (Q : VK) : Prop := match r with
  | .ok d => ∀ (H' : Hp) (a : Addr), Same H H' → H a = none → Ow K H' (Lp L a) d a → Q (.ref a) H'
  | .exc c fs => ∀ (H' : Hp) (x : Option Addr), Same H H' → XR K H' L fs x → W (.ref (He.ga K c)) x σ H'
  | .bad => False
/-- a test -/
def PostT (K : PySem.W.Frag) (W : WX) (L : Ad) (σ : St) (H : Hp) (r : Rs) (Q : Bool → Hp → Prop) : Prop := match r with
  | .ok (.bool b) => ∀ (H' : Hp), Same H H' → Q b H'
  | .exc c fs => ∀ (H' : Hp) (x : Option Addr), Same H H' → XR K H' L fs x → W (.ref (He.ga K c)) x σ H'
  | _ => False
section
variable {K : PySem.W.Frag} {W : WX} {L : Ad} {σ : St} {H H1 : Hp} {r : Rs} {Q R : VK}
theorem Post.mono (h : Post K W L σ H r Q) (s : Same H H1) : Post K W L σ H1 r Q := by
  cases r with
  | ok d => exact fun H' v s' => h H' v (s.trans s')
  | exc c fs => exact fun H' x s' => h H' x (s.trans s')
  | bad => exact h
theorem PostB.mono (h : PostB K W L σ H r Q) (s : Same H H1) : PostB K W L σ H1 r Q := by
  cases r with
  | ok d => exact fun H' v s' => h H' v (s.trans s')
  | exc c fs => exact fun H' x s' => h H' x (s.trans s')
  | bad => exact h
theorem PostT.mono {QT : Bool → Hp → Prop} (h : PostT K W L σ H r QT) (s : Same H H1) : PostT K W L σ H1 r QT := by
  cases r with
  | ok d =>
    cases d with
    | bool b => exact fun H' s' => h H' (s.trans s')
    | _ => exact h
  | exc c fs => exact fun H' x s' => h H' x (s.trans s')
  | bad => exact h
/-- one after the other -/
theorem Post.step {k : D → Rs} (h : Post K W L σ H (r.bind k) Q) (hk : ∀ d H1 v, Same H H1 → Rb K H1 L d v → Post K W L σ H1 (k d) Q → R v H1) : PostB K W L σ H r R := by
  cases r with
  | ok d => exact fun H' v s' rv => hk d H' v s' rv (Post.mono h s')
  | exc c fs => exact h
  | bad => exact h
theorem Post.stepE {k : D → Rs} (h : Post K W L σ H (r.bind k) Q) (hk : ∀ d H1 v, Same H H1 → Rp K H1 L d v → Post K W L σ H1 (k d) Q → R v H1) : Post K W L σ H r R := by
  cases r with
  | ok d => exact fun H' v s' rv => hk d H' v s' rv (Post.mono h s')
  | exc c fs => exact h
  | bad => exact h
theorem PostT.step {k : D → Rs} {QT : Bool → Hp → Prop} (h : PostT K W L σ H (r.bind k) QT) (hk : ∀ d H1 v, Same H H1 → Rb K H1 L d v → PostT K W L σ H1 (k d) QT → R v H1) : PostB K W L σ H r R := by
  cases r with
  | ok d => exact fun H' v s' rv => hk d H' v s' rv (PostT.mono h s')
  | exc c fs => exact h
  | bad => exact h
theorem PostT.stepT {k : D → Rs} {QT RT : Bool → Hp → Prop} (h : PostT K W L σ H (r.bind k) QT) (hb : ∀ d, (∀ b, d ≠ .bool b) → k d = .bad) (hk : ∀ b H1, Same H H1 → PostT K W L σ H1 (k (.bool b)) QT → RT b H1) : PostT K W L σ H r RT := by
  have key : ∀ d : D, (∀ b, d ≠ .bool b) → PostT K W L σ H ((Rs.ok d).bind k) QT → False := fun d hd h => by
    simp only [Rs.bind_ok] at h
    rw [hb d hd] at h
    exact h
  cases r with
  | ok d =>
    cases d with
    | bool b => exact fun H' s' => hk b H' s' (PostT.mono h s')
    | _ => exact (key _ (by intro b z; cases z) h).elim
  | exc c fs => exact h
  | bad => exact h
end
def tE (K : PySem.W.Frag) (W : WX) (f : EF) : TE := fun σ H Q => ∃ L ρ, RE K H L ρ σ ∧ Post K W L σ H (f ρ) Q
def tB (K : PySem.W.Frag) (W : WX) (f : EF) : TE := fun σ H Q => ∃ L ρ, RE K H L ρ σ ∧ PostB K W L σ H (f ρ) Q
def tN (K : PySem.W.Frag) (W : WX) (f : EF) : TE := fun σ H Q => ∃ L ρ, RE K H L ρ σ ∧ PostN K W L σ H (f ρ) Q
def tT (K : PySem.W.Frag) (W : WX) (f : EF) : TT := fun σ H Q => ∃ L ρ, RE K H L ρ σ ∧ PostT K W L σ H (f ρ) Q
/-- an expression has a value; .. for a moment; .. a new list or dict; a test -/
abbrev SE (X : Cx) (W : WX) (e : Expr) (f : EF) : Prop := PE X e (tE X.K W f)
abbrev SB (X : Cx) (W : WX) (e : Expr) (f : EF) : Prop := PE X e (tB X.K W f)
abbrev SN (X : Cx) (W : WX) (e : Expr) (f : EF) : Prop := PE X e (tN X.K W f)
abbrev ST (X : Cx) (W : WX) (e : Expr) (f : EF) : Prop := PT X e (tT X.K W f)
section
variable {X : Cx} {W : WX} {e : Expr} {f : EF}
theorem _root_.L2.PE.weak {t t' : TE} (h : PE X e t) (hw : ∀ σ H Q, t' σ H Q → t σ H Q) : PE X e t' := ⟨fun pins s σ H Q I q => h.run pins s σ H Q I (hw σ H Q q)⟩
theorem _root_.L2.PT.weak {t t' : TT} (h : PT X e t) (hw : ∀ σ H Q, t' σ H Q → t σ H Q) : PT X e t' := ⟨fun pins s σ H Q I q => h.run pins s σ H Q I (hw σ H Q q)⟩
theorem seb (h : SE X W e f) : SB X W e f := L2.PE.weak h fun σ H Q ⟨L, ρ, re, p⟩ => ⟨L, ρ, re, by
  cases hf : f ρ with
  | ok d => rw [hf] at p; exact fun H' v s r => p H' v s r.rb
  | exc c fs => rw [hf] at p; exact p
  | bad => rw [hf] at p; exact p⟩
theorem sne (h : SN X W e f) : SE X W e f := L2.PE.weak h fun σ H Q ⟨L, ρ, re, p⟩ => ⟨L, ρ, re, by
  cases hf : f ρ with
  | ok d => rw [hf] at p; exact fun H' a s n r => p H' (.ref a) s ((r.lives fun z q => .inl (.inl q)).rp fun z => re.lv a z n)
  | exc c fs => rw [hf] at p; exact p
  | bad => rw [hf] at p; exact p⟩
theorem snb (h : SN X W e f) : SB X W e f := seb (sne h)
end

/-! ### names, constants -/
def eV (i : Nat) : EF := fun ρ => match ρ[i]? with
  | some (some (.val d)) => .ok d
  | _ => .bad
def eB (i : Nat) : EF := fun ρ => match ρ[i]? with
  | some (some (.val d)) => .ok d
  | some (some (.own d)) => .ok d
  | some (some (.ownP d)) => .ok d
  | _ => .bad
def eC (d : D) : EF := fun _ => .ok d
section
variable {X : Cx} {W : WX}
theorem se_v (i : Nat) {x : Str} {pos : Pos} (hN : X.N[i]? = some x := by rfl) (hv : Vis X.env.scope x := by first | exact Or.inl rfl | exact Or.inr (Or.inl rfl) | exact Or.inr (Or.inr rfl)) (hd : (x == ("__debug__" : Str)) = false := by decide)
    (hcd : (x == ("__classdict__" : Str)) = false := by decide) : SE X W (.Name x pos) (eV i) := (pe_var hN hv hd hcd).weak fun σ H Q ⟨L, ρ, re, p⟩ => by
  unfold eV at p
  cases hx : ρ[i]? with
  | none => simp only [hx] at p; exact p.elim
  | some o =>
    cases o with
    | none => simp only [hx] at p; exact p.elim
    | some x =>
      cases x with
      | own d => simp only [hx] at p; exact p.elim
      | grid _ => simp only [hx] at p; exact p.elim
      | pin _ => simp only [hx] at p; exact p.elim
      | ownP _ => simp only [hx] at p; exact p.elim
      | val d =>
        simp only [hx] at p
        obtain ⟨o, e1, v, e2, r⟩ := re.sl i _ hx
        subst e2
        exact ⟨v, e1, p H v (Same.refl H) r⟩
theorem sb_v (i : Nat) {x : Str} {pos : Pos} (hN : X.N[i]? = some x := by rfl) (hv : Vis X.env.scope x := by first | exact Or.inl rfl | exact Or.inr (Or.inl rfl) | exact Or.inr (Or.inr rfl)) (hd : (x == ("__debug__" : Str)) = false := by decide)
    (hcd : (x == ("__classdict__" : Str)) = false := by decide) : SB X W (.Name x pos) (eB i) := (pe_var hN hv hd hcd).weak fun σ H Q ⟨L, ρ, re, p⟩ => by
  unfold eB at p
  cases hx : ρ[i]? with
  | none => simp only [hx] at p; exact p.elim
  | some o =>
    cases o with
    | none => simp only [hx] at p; exact p.elim
    | some x =>
      cases x with
      | grid _ => simp only [hx] at p; exact p.elim
      | pin _ => simp only [hx] at p; exact p.elim
      | ownP d =>
        simp only [hx] at p
        obtain ⟨o, e1, a, e2, r⟩ := re.sl i _ hx
        subst e2
        exact ⟨_, e1, p H _ (Same.refl H) (.inr ⟨a, rfl, r⟩)⟩
      | own d =>
        simp only [hx] at p
        obtain ⟨o, e1, a, e2, r⟩ := re.sl i _ hx
        subst e2
        exact ⟨_, e1, p H _ (Same.refl H) (.inr ⟨a, rfl, r⟩)⟩
      | val d =>
        simp only [hx] at p
        obtain ⟨o, e1, v, e2, r⟩ := re.sl i _ hx
        subst e2
        exact ⟨v, e1, p H v (Same.refl H) r.rb⟩
theorem se_int {i j pos} : SE X W (.Constant (.int i) j pos) (eC (.int i)) := pe_int.weak fun σ H Q ⟨L, ρ, re, p⟩ => p H _ (Same.refl H) (.int i)
theorem se_bl {b j pos} : SE X W (.Constant (.bool b) j pos) (eC (.bool b)) := pe_bl.weak fun σ H Q ⟨L, ρ, re, p⟩ => p H _ (Same.refl H) (.bl b)
theorem se_non {j pos} : SE X W (.Constant .none j pos) (eC .none) := pe_non.weak fun σ H Q ⟨L, ρ, re, p⟩ => p H _ (Same.refl H) .non
theorem se_str {x j pos} : SE X W (.Constant (.str x) j pos) (eC (.str x)) := pe_str.weak fun σ H Q ⟨L, ρ, re, p⟩ => p H _ (Same.refl H) (.str x)
/-- a module's constant: an int, a text -/
theorem se_globI {x : Str} {i : Int} {pos : Pos} (hm : ∃ t, X.mg x = some (.int i t)) (hg : Gl X x := by rfl) (hd : (x == ("__debug__" : Str)) = false := by decide) : SE X W (.Name x pos) (eC (.int i)) := by
  obtain ⟨t, hm⟩ := hm
  exact (pe_glob (v := .int i) hg hm ⟨t, rfl⟩ hd).weak fun σ H Q ⟨L, ρ, re, p⟩ => p H _ (Same.refl H) (.int i)
theorem se_globS {x z : Str} {pos : Pos} (hm : ∃ t, X.mg x = some (.str z t)) (hg : Gl X x := by rfl) (hd : (x == ("__debug__" : Str)) = false := by decide) : SE X W (.Name x pos) (eC (.str z)) := by
  obtain ⟨t, hm⟩ := hm
  exact (pe_glob (v := .str z) hg hm ⟨t, rfl⟩ hd).weak fun σ H Q ⟨L, ρ, re, p⟩ => p H _ (Same.refl H) (.str z)
end

/-! ### operators -/
def eOp (fn : D → D → Option D) (f g : EF) : EF := fun ρ => (f ρ).bind fun x => (g ρ).bind fun y => Rs.of (fn x y)
def eUn (fn : D → Option D) (f : EF) : EF := fun ρ => (f ρ).bind fun x => Rs.of (fn x)
/-- an operation by values, as a function of data -/
def rD2 (K : PySem.W.Frag) (fn : D → D → Option D) : R2 := fun x y H Q => ∃ L dx dy d, LvOk K H L ∧ Rb K H L dx x ∧ Rb K H L dy y ∧ fn dx dy = some d ∧ ∀ H' v, Same H H' → Rp K H' L d v → Q v H'
abbrev OpD (X : Cx) (op : Operator) (fn : D → D → Option D) : Prop := OpR X (binaryOp op) (rD2 X.K fn)
abbrev CmD (X : Cx) (op : CmpOp) (fn : D → D → Option D) : Prop := OpR X (compareOp op) (rD2 X.K fn)
def rD1 (K : PySem.W.Frag) (fn : D → Option D) : V → Hp → VK → Prop := fun x H Q => ∃ L dx d, LvOk K H L ∧ Rb K H L dx x ∧ fn dx = some d ∧ ∀ H' v, Same H H' → Rp K H' L d v → Q v H'
section
variable {X : Cx} {W : WX} {a b c : Expr} {f g h : EF} {pos : Pos}
theorem tOp_of {K : PySem.W.Frag} {fn : D → D → Option D} : ∀ σ H Q, tE K W (eOp fn f g) σ H Q → tOp (rD2 K fn) (tB K W f) (tB K W g) σ H Q := fun σ H Q ⟨L, ρ, re, p⟩ =>
  ⟨L, ρ, re, p.step fun dx H1 x s1 rx p1 => ⟨L, ρ, re.mono s1, p1.step fun dy H2 y s2 ry p2 => by
    cases hd : fn dx dy with
    | none => rw [hd] at p2; exact p2.elim
    | some d => rw [hd] at p2; exact ⟨L, dx, dy, d, re.lv.mono (s1.trans s2), rx.mono s2, ry, hd, p2⟩⟩⟩
theorem se_op {op : Operator} {fn : D → D → Option D} (ho : OpD X op fn) (ha : SB X W a f) (hb : SB X W b g) : SE X W (.BinOp a op b pos) (eOp fn f g) := (pe_op ho ha hb).weak tOp_of
theorem se_cmp {op : CmpOp} {fn : D → D → Option D} (ho : CmD X op fn) (ha : SB X W a f) (hb : SB X W b g) (hm : behindInMarks op b = false := by first | exact nomark _ | rfl) : SE X W (.Compare a [op] [b] pos) (eOp fn f g) := (pe_cmpR ho ha hb hm).weak tOp_of
/-- the same as a test -/
theorem st_cmp {op : CmpOp} {fn : D → D → Option D} (ho : CmD X op fn) (hfn : ∀ x y d, fn x y = some d → ∃ b, d = .bool b) (ha : SB X W a f) (hb : SB X W b g) (hm : behindInMarks op b = false := by first | exact nomark _ | rfl) :
    ST X W (.Compare a [op] [b] pos) (eOp fn f g) := (pt_cmpR ho ha hb hm).weak fun σ H Q ⟨L, ρ, re, p⟩ =>
  ⟨L, ρ, re, p.step fun dx H1 x s1 rx p1 => ⟨L, ρ, re.mono s1, p1.step fun dy H2 y s2 ry p2 => by
    cases hd : fn dx dy with
    | none => rw [hd] at p2; exact p2.elim
    | some d =>
      obtain ⟨b, e⟩ := hfn _ _ _ hd
      subst e
      rw [hd] at p2
      exact ⟨L, dx, dy, _, re.lv.mono (s1.trans s2), rx.mono s2, ry, hd, fun H' v s r => ⟨b, r.blV, p2 H' s⟩⟩⟩⟩
/-- a op b op' c -/
def eChain (fn fn' : D → D → Option D) (f g h : EF) : EF := fun ρ => (f ρ).bind fun x => (g ρ).bind fun y => (Rs.of (fn x y)).bind fun b => match b with
  | .bool true => (h ρ).bind fun z => Rs.of (fn' y z)
  | .bool false => .ok (.bool false)
  | _ => .bad
theorem se_un {op : UnaryOp} {fn : D → Option D} (ho : UnR X (unaryOp op) (rD1 X.K fn)) (ha : SB X W a f) : SE X W (.UnaryOp op a pos) (eUn fn f) := (pe_un ho ha).weak fun σ H Q ⟨L, ρ, re, p⟩ =>
  ⟨L, ρ, re, p.step fun dx H1 x s1 rx p1 => by
    cases hd : fn dx with
    | none => rw [hd] at p1; exact p1.elim
    | some d => rw [hd] at p1; exact ⟨L, dx, d, re.lv.mono s1, rx, hd, p1⟩⟩
end
end VV

set_option Elab.async false
set_option linter.all false
set_option maxRecDepth 100000
set_option maxHeartbeats 4000000
/-! VVc: operators and comparisons as functions of data. -/
namespace VV
open PySem PySem.Spec L2
open PyProof.Rows hiding St

theorem same_upd {H : Hp} {p : Addr} {o : HO} (free : H p = none) : Same H (upd H p o) := .of fun _ _ e => (upd_ne (ne_of_none e free)).trans e
theorem new_not {K : PySem.W.Frag} {H : Hp} {L : Ad} {p : Addr} (lv : LvOk K H L) (h : H p = none) : ¬ L p := fun z => lv p z h

theorem Lp_new {H : Hp} {L : Ad} {p : Addr} (h : H p = none) : ∀ a, Lp L p a → L a ∨ H a = none := fun a z => z.elim .inl fun e => by subst e; exact .inr h

/-! ### arithmetic -/
def mulOk (i j : Int) : Bool := decide ((-(2 ^ 64) < i ∧ i < 2 ^ 64) ∨ (-(2 ^ 64) < j ∧ j < 2 ^ 64)) || decide (i.natAbs.log2 + j.natAbs.log2 < 1000000)
def divOk (j : Int) : Bool := decide (j ≠ 0) && decide (j.natAbs.log2 < 9000)
def addF : D → D → Option D
  | .int i, .int j => some (.int (i + j))
  | .str x, .str y => if x.length + y.length ≤ sizeLine then some (.str (x ++ y)) else none
  | .list xs, .list ys => if xs.length + ys.length ≤ sizeLine then some (.list (xs ++ ys)) else none
  | .tuple xs, .tuple ys => if xs.length + ys.length ≤ sizeLine then some (.tuple (xs ++ ys)) else none
  | _, _ => none
def subF : D → D → Option D
  | .int i, .int j => some (.int (i - j))
  | _, _ => none
def mulF : D → D → Option D
  | .int i, .int j => if mulOk i j = true then some (.int (i * j)) else none
  | .list xs, .int k => if (decide (-(2 ^ 63) ≤ k) && decide (k < 2 ^ 63) && decide (xs.length * k.toNat ≤ sizeLine)) = true then some (.list (List.replicate k.toNat xs).flatten) else none
  | .tuple xs, .int k => if (!xs.isEmpty && decide (2 ≤ k) && decide (k ≤ 1000) && decide (xs.length ≤ 1000)) = true then some (.tuple (List.replicate k.toNat xs).flatten) else none
  | _, _ => none
def divF : D → D → Option D
  | .int i, .int j => if divOk j = true then some (.int (i.fdiv j)) else none
  | _, _ => none
def modF : D → D → Option D
  | .int i, .int j => if j = 0 then none else some (.int (i.fmod j))
  | _, _ => none
def powF : D → D → Option D
  | .int i, .int j => if (decide (0 ≤ j) && decide (j ≤ 1000000) && decide (i.natAbs < 2 ^ 64)) = true then some (.int (i ^ j.toNat)) else none
  | _, _ => none
def negF : D → Option D
  | .int i => some (.int (-i))
  | _ => none
section
variable {X : Cx}
theorem op_addD : OpD X .Add addF := by
  intro pn s σ H x y v u Q I rx ry h
  obtain ⟨L, dx, dy, d, lv, bx, by', hf, k⟩ := h
  unfold addF at hf
  split at hf
  · obtain rfl := bx.intV
    obtain rfl := by'.intV
    cases hf
    exact op_add pn s σ H _ _ v u Q I rx ry ⟨_, _, rfl, rfl, k H _ (Same.refl H) (.int _)⟩
  · obtain rfl := bx.strV
    obtain rfl := by'.strV
    split at hf
    · cases hf
      exact op_add_str pn s σ H _ _ v u Q I rx ry ⟨_, _, rfl, rfl, by assumption, k H _ (Same.refl H) (.str _)⟩
    · cases hf
  · obtain ⟨a, vs, rfl, ha, ra⟩ := bx.lstV
    obtain ⟨b, us, rfl, hb, rb⟩ := by'.lstV
    split at hf
    · cases hf
      rename_i hz
      rw [ra.length, rb.length] at hz
      exact op_cat pn s σ H _ _ v u Q I rx ry ⟨a, b, vs, us, rfl, rfl, ha, hb, hz, fun p hp => k _ _ (same_upd hp) (.lst upd_same (new_not lv hp) ((ra.append rb).mono (same_upd hp)))⟩
    · cases hf
  · obtain ⟨a, vs, rfl, ha, ra⟩ := bx.tupV
    obtain ⟨b, us, rfl, hb, rb⟩ := by'.tupV
    split at hf
    · cases hf
      rename_i hz
      rw [ra.length, rb.length] at hz
      refine op_catA pn s σ H _ _ v u Q I rx ry ⟨a, b, vs, us, rfl, rfl, SqT.of ha, SqT.of hb, hz, ?_, ?_, ?_⟩
      · intro e
        subst e
        cases ra
        exact k H _ (Same.refl H) (.tup hb rb)
      · intro _ e
        subst e
        cases rb
        rw [List.append_nil] at k
        exact k H _ (Same.refl H) (.tup ha ra)
      · intro _ _ p hp
        exact k _ _ (same_upd hp) (.tup upd_same ((ra.append rb).mono (same_upd hp)))
    · cases hf
  · cases hf
theorem op_subD : OpD X .Sub subF := by
  intro pn s σ H x y v u Q I rx ry h
  obtain ⟨L, dx, dy, d, lv, bx, by', hf, k⟩ := h
  unfold subF at hf
  split at hf
  · obtain rfl := bx.intV
    obtain rfl := by'.intV
    cases hf
    exact op_sub pn s σ H _ _ v u Q I rx ry ⟨_, _, rfl, rfl, k H _ (Same.refl H) (.int _)⟩
  · cases hf
theorem op_mulD : OpD X .Mult mulF := by
  intro pn s σ H x y v u Q I rx ry h
  obtain ⟨L, dx, dy, d, lv, bx, by', hf, k⟩ := h
  unfold mulF at hf
  split at hf
  · obtain rfl := bx.intV
    obtain rfl := by'.intV
    split at hf
    · cases hf
      rename_i hz
      unfold mulOk at hz
      rcases Bool.or_eq_true_iff.mp hz with q | q
      · have q' := of_decide_eq_true q
        exact op_mul pn s σ H _ _ v u Q I rx ry ⟨_, _, rfl, rfl, q', k H _ (Same.refl H) (.int _)⟩
      · have q' := of_decide_eq_true q
        exact op_mulW pn s σ H _ _ v u Q I rx ry ⟨_, _, rfl, rfl, q', k H _ (Same.refl H) (.int _)⟩
    · cases hf
  · obtain ⟨a, vs, rfl, ha, ra⟩ := bx.lstV
    obtain rfl := by'.intV
    split at hf
    · cases hf
      rename_i hz
      simp only [Bool.and_eq_true, decide_eq_true_eq] at hz
      obtain ⟨⟨h1, h2⟩, h3⟩ := hz
      rw [ra.length] at h3
      exact op_rep pn s σ H _ _ v u Q I rx ry ⟨a, _, vs, rfl, rfl, ha, h1, h2, h3, fun p hp => k _ _ (same_upd hp) (.lst upd_same (new_not lv hp) ((ra.rep _).mono (same_upd hp)))⟩
    · cases hf
  · obtain ⟨a, vs, rfl, ha, ra⟩ := bx.tupV
    obtain rfl := by'.intV
    split at hf
    · cases hf
      rename_i hz
      simp only [Bool.and_eq_true, decide_eq_true_eq, Bool.not_eq_true'] at hz
      obtain ⟨⟨⟨h0, h1⟩, h2⟩, h3⟩ := hz
      rw [ra.length] at h3
      refine op_repT pn s σ H _ _ v u Q I rx ry ⟨a, _, vs, rfl, rfl, SqT.of ha, ?_, h1, h2, h3, fun p hp => k _ _ (same_upd hp) (.tup upd_same ((ra.rep _).mono (same_upd hp)))⟩
      intro e
      subst e
      cases ra
      cases h0
    · cases hf
  · cases hf
theorem op_divD : OpD X .FloorDiv divF := by
  intro pn s σ H x y v u Q I rx ry h
  obtain ⟨L, dx, dy, d, lv, bx, by', hf, k⟩ := h
  unfold divF at hf
  split at hf
  · obtain rfl := bx.intV
    obtain rfl := by'.intV
    split at hf
    · cases hf
      rename_i hz
      unfold divOk at hz
      simp only [Bool.and_eq_true, decide_eq_true_eq] at hz
      obtain ⟨t, rfl⟩ := rx
      obtain ⟨t', rfl⟩ := ry
      exact floordiv_int hz.1 ⟨.int _, H, I.tok _, ⟨_, rfl⟩, k H _ (Same.refl H) (.int _)⟩ (.inl (PyProof.noPylong_of_log2 hz.2))
    · cases hf
  · cases hf
theorem op_modD : OpD X .Mod modF := by
  intro pn s σ H x y v u Q I rx ry h
  obtain ⟨L, dx, dy, d, lv, bx, by', hf, k⟩ := h
  unfold modF at hf
  split at hf
  · obtain rfl := bx.intV
    obtain rfl := by'.intV
    split at hf
    · cases hf
    · cases hf
      exact op_modN pn s σ H _ _ v u Q I rx ry ⟨_, _, rfl, rfl, by assumption, k H _ (Same.refl H) (.int _)⟩
  · cases hf
theorem op_powD : OpD X .Pow powF := by
  intro pn s σ H x y v u Q I rx ry h
  obtain ⟨L, dx, dy, d, lv, bx, by', hf, k⟩ := h
  unfold powF at hf
  split at hf
  · obtain rfl := bx.intV
    obtain rfl := by'.intV
    split at hf
    · cases hf
      rename_i hz
      simp only [Bool.and_eq_true, decide_eq_true_eq] at hz
      exact op_pow pn s σ H _ _ v u Q I rx ry ⟨_, _, rfl, rfl, ⟨hz.1.1, hz.1.2, hz.2⟩, k H _ (Same.refl H) (.int _)⟩
    · cases hf
  · cases hf
theorem un_negD : UnR X (unaryOp .USub) (rD1 X.K negF) := by
  intro pn s σ H x v Q I rx h
  obtain ⟨L, dx, d, lv, bx, hf, k⟩ := h
  unfold negF at hf
  split at hf
  · obtain rfl := bx.intV
    cases hf
    exact un_neg pn s σ H _ v Q I rx ⟨_, rfl, k H _ (Same.refl H) (.int _)⟩
  · cases hf
end

/-! ### comparisons -/
def cmpF (p : Int → Int → Bool) (q : List Nat → List Nat → Bool) : D → D → Option D
  | .int i, .int j => some (.bool (p i j))
  | .str x, .str y => some (.bool (q x.cps.toList y.cps.toList))
  | _, _ => none
def ltF := cmpF (fun i j => decide (i < j)) fun x y => decide (x < y)
def leF := cmpF (fun i j => decide (i ≤ j)) fun x y => !decide (y < x)
def gtF := cmpF (fun i j => decide (j < i)) fun x y => decide (y < x)
def geF := cmpF (fun i j => decide (j ≤ i)) fun x y => !decide (x < y)
def eqF : D → D → Option D := fun x y => if (SeqAt.shaped x && SeqAt.shaped y) = true then some (.bool (PyData.eqv x y)) else none
def neF : D → D → Option D := fun x y => if (SeqAt.shaped x && SeqAt.shaped y) = true then some (.bool (!PyData.eqv x y)) else none
def isNone : D → Bool
  | .none => true
  | _ => false
def isF : D → D → Option D := fun x y => if isNone y = true then some (.bool (isNone x)) else none
def isNotF : D → D → Option D := fun x y => if isNone y = true then some (.bool (!isNone x)) else none
theorem isNone_iff {d : D} : isNone d = true ↔ d = .none := by cases d <;> simp [isNone]
theorem cmpF_b {p q x y d} (h : cmpF p q x y = some d) : ∃ b, d = .bool b := by
  unfold cmpF at h
  split at h <;> cases h <;> exact ⟨_, rfl⟩
theorem eqF_b {x y d} (h : eqF x y = some d) : ∃ b, d = .bool b := by
  unfold eqF at h
  split at h <;> cases h; exact ⟨_, rfl⟩
theorem neF_b {x y d} (h : neF x y = some d) : ∃ b, d = .bool b := by
  unfold neF at h
  split at h <;> cases h; exact ⟨_, rfl⟩
theorem isF_b {x y d} (h : isF x y = some d) : ∃ b, d = .bool b := by
  unfold isF at h
  split at h <;> cases h; exact ⟨_, rfl⟩
/-! data with no dict in it read as the library reads them -/
theorem not_lay_dict {ps : List (D × D)} : ¬ (PyData.dict ps).canLay0 = true := by simp [PyData.canLay0]
section
variable {K : PySem.W.Frag} {H : Hp} {L : Ad}
mutual
theorem Rp.dp : ∀ {d : D} {v : V}, Rp K H L d v → d.canLay0 = true → Dp K H v d
  | _, _, .non, _ => .non
  | _, _, .bl b, _ => .bl b
  | _, _, .int i, _ => .int i
  | _, _, .str x, _ => .str x
  | _, _, .tup h r, c => .tup (SqT.of h) (RpL.dp r (by simpa [PyData.canLay0] using c))
  | _, _, .lst h n r, c => .lst (SqL.of h) (RpL.dp r (by simpa [PyData.canLay0] using c))
  | _, _, .rd h, c => (not_lay_dict c).elim
  | _, _, .fz h e r, c => (not_lay_dict c).elim
  | _, _, .fd h e r, c => (not_lay_dict c).elim
  | _, _, .dk _ _ _ _, c => (not_lay_dict c).elim
  | _, _, .dt _ _ _ _, c => (not_lay_dict c).elim
  | _, _, .ob _ _ _ _, c => (not_lay_dict c).elim
theorem RpL.dp : ∀ {ds : List D} {vs : List V}, RpL K H L ds vs → PyData.canLayAll0 ds = true → DpAll K H vs ds
  | _, _, .nil, _ => .nil
  | _, _, .cons h r, c => by
    rw [PyData.canLayAll0, Bool.and_eq_true] at c
    exact .cons (Rp.dp h c.1) (RpL.dp r c.2)
end
theorem Rb.dp {d : D} {v : V} (h : Rb K H L d v) (c : d.canLay0 = true) : Dp K H v d := by
  rcases h with h | ⟨a, e, h⟩
  · exact h.dp c
  · subst e
    cases h with
    | lst h r => exact .lst (SqL.of h) (RpL.dp r (by simpa [PyData.canLay0] using c))
    | dk _ _ _ => exact (not_lay_dict c).elim
    | dt _ _ _ => exact (not_lay_dict c).elim
    | ob _ _ _ => exact (not_lay_dict c).elim
end
section
variable {X : Cx}
theorem op_cmpD {op : CmpOp} {p : Int → Int → Bool} {q : List Nat → List Nat → Bool} (h1 : OpR X (compareOp op) (rI0 fun i j => .bl (p i j))) (h2 : OpR X (compareOp op) (fun x y H Q => ∃ i j, x = .str i ∧ y = .str j ∧ Q (.bl (q i.cps.toList j.cps.toList)) H)) : CmD X op (cmpF p q) := by
  intro pn s σ H x y v u Q I rx ry h
  obtain ⟨L, dx, dy, d, lv, bx, by', hf, k⟩ := h
  unfold cmpF at hf
  split at hf
  · obtain rfl := bx.intV
    obtain rfl := by'.intV
    cases hf
    exact h1 pn s σ H _ _ v u Q I rx ry ⟨_, _, rfl, rfl, k H _ (Same.refl H) (.bl _)⟩
  · obtain rfl := bx.strV
    obtain rfl := by'.strV
    cases hf
    exact h2 pn s σ H _ _ v u Q I rx ry ⟨_, _, rfl, rfl, k H _ (Same.refl H) (.bl _)⟩
  · cases hf
theorem op_ltD : CmD X .Lt ltF := op_cmpD op_lt op_lt_str
theorem op_leD : CmD X .LtE leF := op_cmpD op_le op_le_str
theorem op_gtD : CmD X .Gt gtF := op_cmpD op_gt op_gt_str
theorem op_geD : CmD X .GtE geF := op_cmpD op_ge op_ge_str
theorem op_eqX {k : Nat} (hr : Room k X.A) : CmD X .Eq eqF := by
  intro pn s σ H x y v u Q I rx ry h
  obtain ⟨L, dx, dy, d, lv, bx, by', hf, k⟩ := h
  unfold eqF at hf
  split at hf
  · cases hf
    rename_i hz
    rw [Bool.and_eq_true] at hz
    exact op_eqD hr.units pn s σ H _ _ v u Q I rx ry ⟨dx, dy, bx.dp (SeqAt.canLay_of_shaped hz.1), by'.dp (SeqAt.canLay_of_shaped hz.2), hz.1, hz.2, k H _ (Same.refl H) (.bl _)⟩
  · cases hf
theorem op_neX {k : Nat} (hr : Room k X.A) : CmD X .NotEq neF := by
  intro pn s σ H x y v u Q I rx ry h
  obtain ⟨L, dx, dy, d, lv, bx, by', hf, k⟩ := h
  unfold neF at hf
  split at hf
  · cases hf
    rename_i hz
    rw [Bool.and_eq_true] at hz
    exact op_neD hr.units pn s σ H _ _ v u Q I rx ry ⟨dx, dy, bx.dp (SeqAt.canLay_of_shaped hz.1), by'.dp (SeqAt.canLay_of_shaped hz.2), hz.1, hz.2, k H _ (Same.refl H) (.bl _)⟩
  · cases hf
theorem op_isX : CmD X .Is isF := by
  intro pn s σ H x y v u Q I rx ry h
  obtain ⟨L, dx, dy, d, lv, bx, by', hf, k⟩ := h
  unfold isF at hf
  split at hf
  · cases hf
    rename_i hz
    have e := isNone_iff.mp hz
    subst e
    obtain rfl := by'.nonV
    refine op_isN pn s σ H _ _ v u Q I rx ry ⟨rfl, k H _ (Same.refl H) ?_⟩
    have e2 : decide (x = .non) = isNone dx := by
      cases hx : isNone dx with
      | true => exact decide_eq_true (bx.non_iff.mpr (isNone_iff.mp hx))
      | false => exact decide_eq_false fun z => by rw [isNone_iff.mpr (bx.non_iff.mp z)] at hx; cases hx
    rw [e2]
    exact .bl _
  · cases hf
end
end VV

set_option Elab.async false
set_option linter.all false
set_option maxRecDepth 100000
set_option maxHeartbeats 4000000
/-! VVd: tests, and, or, not; arguments; calls; displays; subscripts. -/
namespace VV
open PySem PySem.Spec L2
open PyProof.Rows hiding St

/-! ### truth -/
def tru : D → Option Bool
  | .none => some false
  | .bool b => some b
  | .int i => some (i != 0)
  | .str x => if x.length ≤ sizeLine then some ((x.length : Int) != 0) else none
  | .list ds => some (!ds.isEmpty)
  | .tuple ds => some (!ds.isEmpty)
  | .dict _ => none
theorem isEmpty_len {α β : Type} {xs : List α} {ys : List β} (h : xs.length = ys.length) : xs.isEmpty = ys.isEmpty := by
  cases xs <;> cases ys <;> simp at h ⊢
theorem Rb.tru {K : PySem.W.Frag} {H : Hp} {L : Ad} {d : D} {v : V} {k : Bool} (h : Rb K H L d v) (e : tru d = some k) : TruV K v H k := by
  cases d with
  | none => obtain rfl := h.nonV; cases e; rfl
  | bool b => obtain rfl := h.blV; cases e; rfl
  | int i => obtain rfl := h.intV; cases e; rfl
  | str x =>
    obtain rfl := h.strV
    simp only [VV.tru] at e
    split at e
    · cases e; exact ⟨by assumption, rfl⟩
    · cases e
  | list ds =>
    obtain ⟨a, vs, rfl, ha, r⟩ := h.lstV
    cases e
    exact .inl ⟨vs, SqL.of ha, by rw [isEmpty_len r.length]⟩
  | tuple ds =>
    obtain ⟨a, vs, rfl, ha, r⟩ := h.tupV
    cases e
    exact .inr (.inl ⟨vs, SqT.of ha, by rw [isEmpty_len r.length]⟩)
  | dict ps => cases e
def truR (d : D) : Rs := match tru d with
  | some b => .ok (.bool b)
  | none => .bad
def gTru (f : EF) : EF := fun ρ => (f ρ).bind truR
def notR : D → Rs
  | .bool b => .ok (.bool (!b))
  | _ => .bad
def gNot (f : EF) : EF := fun ρ => (f ρ).bind notR
def andR (r : Rs) : D → Rs
  | .bool true => r
  | .bool false => .ok (.bool false)
  | _ => .bad
def orR (r : Rs) : D → Rs
  | .bool false => r
  | .bool true => .ok (.bool true)
  | _ => .bad
def gAnd (f g : EF) : EF := fun ρ => (f ρ).bind (andR (g ρ))
def gOr (f g : EF) : EF := fun ρ => (f ρ).bind (orR (g ρ))
/-- values -/
def eAnd (f g : EF) : EF := fun ρ => (f ρ).bind fun d => match tru d with
  | some true => g ρ
  | some false => .ok d
  | none => .bad
def eOr (f g : EF) : EF := fun ρ => (f ρ).bind fun d => match tru d with
  | some true => .ok d
  | some false => g ρ
  | none => .bad
def eNot (f : EF) : EF := fun ρ => (f ρ).bind fun d => match tru d with
  | some b => .ok (.bool (!b))
  | none => .bad
def ifR (r1 r2 : Rs) : D → Rs
  | .bool true => r1
  | .bool false => r2
  | _ => .bad
def eIf (c f g : EF) : EF := fun ρ => (c ρ).bind (ifR (f ρ) (g ρ))
abbrev SW (X : Cx) (W : WX) (e : Expr) (f : EF) : Prop := PW X e (tT X.K W f)
section
variable {X : Cx} {W : WX} {a b c : Expr} {f g h : EF} {pos : Pos} {rest : List Expr}
theorem _root_.L2.PW.weak {e : Expr} {t t' : TT} (h : PW X e t) (hw : ∀ σ H Q, t' σ H Q → t σ H Q) : PW X e t' := ⟨fun wh pn s σ H Q I q => h.run wh pn s σ H Q I (hw σ H Q q)⟩
theorem st_tru (ha : SB X W a f) (he : ∀ whole, isTrue a X.env whole = (do let v ← whole; standAt a.pos; holding [v] (truthy v)) := by intro _; rfl) : ST X W a (gTru f) := (pt_truth ha he).weak fun σ H Q ⟨L, ρ, re, p⟩ =>
  ⟨L, ρ, re, p.step fun d H1 v s1 r p1 => by
    unfold truR at p1
    cases e : tru d with
    | none => simp only [e] at p1; exact p1.elim
    | some k => simp only [e] at p1; exact ⟨k, r.tru e, p1 H1 (Same.refl H1)⟩⟩
theorem notR_bad (d : D) (h : ∀ b, d ≠ .bool b) : notR d = .bad := by
  cases d with
  | bool b => exact absurd rfl (h b)
  | _ => rfl
theorem andR_bad {r : Rs} (d : D) (h : ∀ b, d ≠ .bool b) : andR r d = .bad := by
  cases d with
  | bool b => exact absurd rfl (h b)
  | _ => rfl
theorem orR_bad {r : Rs} (d : D) (h : ∀ b, d ≠ .bool b) : orR r d = .bad := by
  cases d with
  | bool b => exact absurd rfl (h b)
  | _ => rfl
theorem st_not (ha : ST X W a f) : ST X W (.UnaryOp .Not a pos) (gNot f) := (pt_not ha).weak fun σ H Q ⟨L, ρ, re, p⟩ =>
  ⟨L, ρ, re, p.stepT notR_bad fun b H1 s1 p1 => p1 H1 (Same.refl H1)⟩
theorem sw_and1 (ha : ST X W a f) : SW X W (.BoolOp .And [a] pos) f := pw_and1 ha
theorem sw_or1 (ha : ST X W a f) : SW X W (.BoolOp .Or [a] pos) f := pw_or1 ha
theorem sw_and (ha : ST X W a f) (hb : SW X W (.BoolOp .And (b :: rest) pos) g) : SW X W (.BoolOp .And (a :: b :: rest) pos) (gAnd f g) := (pw_and ha hb).weak fun σ H Q ⟨L, ρ, re, p⟩ =>
  ⟨L, ρ, re, p.stepT andR_bad fun b H1 s1 p1 => by
    cases b with
    | true => rw [if_pos rfl]; exact ⟨L, ρ, re.mono s1, p1⟩
    | false => rw [if_neg Bool.false_ne_true]; exact p1 H1 (Same.refl H1)⟩
theorem sw_or (ha : ST X W a f) (hb : SW X W (.BoolOp .Or (b :: rest) pos) g) : SW X W (.BoolOp .Or (a :: b :: rest) pos) (gOr f g) := (pw_or ha hb).weak fun σ H Q ⟨L, ρ, re, p⟩ =>
  ⟨L, ρ, re, p.stepT orR_bad fun b H1 s1 p1 => by
    cases b with
    | true => rw [if_pos rfl]; exact p1 H1 (Same.refl H1)
    | false => rw [if_neg Bool.false_ne_true]; exact ⟨L, ρ, re.mono s1, p1⟩⟩
theorem st_w (h : SW X W a f) : ST X W a f := PW.pt h
theorem se_one {op} (h : SE X W a f) : SE X W (.BoolOp op [a] pos) f := pe_one h
theorem se_and (ha : SE X W a f) (hb : SE X W (.BoolOp .And (b :: rest) pos) g) : SE X W (.BoolOp .And (a :: b :: rest) pos) (eAnd f g) := (pe_andT ha hb).weak fun σ H Q ⟨L, ρ, re, p⟩ =>
  ⟨L, ρ, re, p.stepE fun d H1 v s1 r p1 => by
    cases e : tru d with
    | none => simp only [e] at p1; exact p1.elim
    | some k =>
      simp only [e] at p1
      refine ⟨k, r.rb.tru e, ?_⟩
      cases k with
      | true => rw [if_pos rfl]; exact ⟨L, ρ, re.mono s1, p1⟩
      | false => rw [if_neg Bool.false_ne_true]; exact p1 H1 v (Same.refl H1) r⟩
theorem se_not (ha : SB X W a f) : SE X W (.UnaryOp .Not a pos) (eNot f) := (pe_notT ha).weak fun σ H Q ⟨L, ρ, re, p⟩ =>
  ⟨L, ρ, re, p.step fun d H1 v s1 r p1 => by
    cases e : tru d with
    | none => simp only [e] at p1; exact p1.elim
    | some k => simp only [e] at p1; exact ⟨k, r.tru e, p1 H1 _ (Same.refl H1) (.bl _)⟩⟩
theorem se_if (hc : ST X W c h) (ha : SE X W a f) (hb : SE X W b g) : SE X W (.IfExp c a b pos) (eIf h f g) := (pe_ifExp hc ha hb).weak fun σ H Q ⟨L, ρ, re, p⟩ => by
  refine ⟨L, ρ, re, ?_⟩
  unfold eIf at p
  cases hr : h ρ with
  | bad => rw [hr] at p; exact p
  | exc c fs => rw [hr] at p; exact p
  | ok d =>
    rw [hr] at p
    cases d with
    | bool k =>
      intro H1 s1
      have p1 := p.mono s1
      cases k with
      | true => rw [if_pos rfl]; exact ⟨L, ρ, re.mono s1, p1⟩
      | false => rw [if_neg Bool.false_ne_true]; exact ⟨L, ρ, re.mono s1, p1⟩
    | _ => exact p
/-- a op b op' c -/
theorem se_chain {op op' : CmpOp} {fn fn' : D → D → Option D} {h : EF} (ho : CmD X op fn) (ho' : CmD X op' fn') (hfn : ∀ x y d, fn x y = some d → ∃ b, d = .bool b) (ha : SB X W a f) (hb : SB X W b g) (hc : SB X W c h)
    (hm : lastMarks [op, op'] [b, c] = false := by with_unfolding_all rfl) : SE X W (.Compare a [op, op'] [b, c] pos) (eChain fn fn' f g h) :=
  (pe_chain ho ho' ha hb hc hm).weak fun σ H Q ⟨L, ρ, re, p⟩ =>
  ⟨L, ρ, re, p.step fun dx H1 x s1 rx p1 => ⟨L, ρ, re.mono s1, p1.step fun dy H2 y s2 ry p2 => by
    cases hd : fn dx dy with
    | none => rw [hd] at p2; exact p2.elim
    | some d =>
      obtain ⟨k, e⟩ := hfn _ _ _ hd
      subst e
      rw [hd] at p2
      refine ⟨L, dx, dy, _, re.lv.mono (s1.trans s2), rx.mono s2, ry, hd, fun H3 v s3 r => ⟨k, r.blV, ?_⟩⟩
      simp only [Rs.of_some, Rs.bind_ok] at p2
      have p3 := p2.mono s3
      cases k with
      | false => exact p3 H3 _ (Same.refl H3) (.bl _)
      | true =>
        refine ⟨L, ρ, re.mono (s1.trans (s2.trans s3)), p3.step fun dz H4 z s4 rz p4 => ?_⟩
        cases hz : fn' dy dz with
        | none => rw [hz] at p4; exact p4.elim
        | some d' => rw [hz] at p4; exact ⟨L, dy, dz, d', re.lv.mono (s1.trans (s2.trans (s3.trans s4))), ry.mono (s3.trans s4), rz, hz, p4⟩⟩⟩
theorem st_chain {op op' : CmpOp} {fn fn' : D → D → Option D} {h : EF} (ho : CmD X op fn) (ho' : CmD X op' fn') (hfn : ∀ x y d, fn x y = some d → ∃ b, d = .bool b) (hfn' : ∀ x y d, fn' x y = some d → ∃ b, d = .bool b) (ha : SB X W a f) (hb : SB X W b g) (hc : SB X W c h)
    (hm : lastMarks [op, op'] [b, c] = false := by with_unfolding_all rfl) : ST X W (.Compare a [op, op'] [b, c] pos) (eChain fn fn' f g h) :=
  (pt_chain ho ho' ha hb hc hm).weak fun σ H Q ⟨L, ρ, re, p⟩ =>
  ⟨L, ρ, re, p.step fun dx H1 x s1 rx p1 => ⟨L, ρ, re.mono s1, p1.step fun dy H2 y s2 ry p2 => by
    cases hd : fn dx dy with
    | none => rw [hd] at p2; exact p2.elim
    | some d =>
      obtain ⟨k, e⟩ := hfn _ _ _ hd
      subst e
      rw [hd] at p2
      refine ⟨L, dx, dy, _, re.lv.mono (s1.trans s2), rx.mono s2, ry, hd, fun H3 v s3 r => ⟨k, r.blV, ?_⟩⟩
      simp only [Rs.of_some, Rs.bind_ok] at p2
      have p3 := p2.mono s3
      cases k with
      | false => exact ⟨false, rfl, p3 H3 (Same.refl H3)⟩
      | true =>
        refine ⟨L, ρ, re.mono (s1.trans (s2.trans s3)), p3.step fun dz H4 z s4 rz p4 => ?_⟩
        cases hz : fn' dy dz with
        | none => rw [hz] at p4; exact p4.elim
        | some d' =>
          obtain ⟨k', e'⟩ := hfn' _ _ _ hz
          subst e'
          rw [hz] at p4
          exact ⟨L, dy, dz, _, re.lv.mono (s1.trans (s2.trans (s3.trans s4))), ry.mono (s3.trans s4), rz, hz, fun H5 v s5 r => ⟨k', r.blV, p4 H5 s5⟩⟩⟩⟩
end
end VV

set_option Elab.async false
set_option linter.all false
set_option maxRecDepth 100000
set_option maxHeartbeats 4000000
/-! VVe: arguments, calls, displays, subscripts. -/
namespace VV
open PySem PySem.Spec L2
open PyProof.Rows hiding St

/-! ### several expressions -/
inductive RL where
  | ok (ds : List D)
  | exc (c : Str) (fs : List (Str × D))
  | bad
def RL.bind (r : RL) (k : List D → Rs) : Rs := match r with
  | .ok ds => k ds
  | .exc c fs => .exc c fs
  | .bad => .bad
@[simp] theorem RL.bind_ok (d : List D) (k : List D → Rs) : (RL.ok d).bind k = k d := rfl
@[simp] theorem RL.bind_exc (c : Str) (fs : List (Str × D)) (k : List D → Rs) : (RL.exc c fs).bind k = .exc c fs := rfl
@[simp] theorem RL.bind_bad (k : List D → Rs) : RL.bad.bind k = .bad := rfl
def RL.cons (r : Rs) (q : RL) : RL := match r with
  | .ok d => (match q with
    | .ok ds => .ok (d :: ds)
    | .exc c fs => .exc c fs
    | .bad => .bad)
  | .exc c fs => .exc c fs
  | .bad => .bad
@[simp] theorem RL.cons_ok (d : D) (ds : List D) : RL.cons (.ok d) (.ok ds) = .ok (d :: ds) := rfl
@[simp] theorem RL.cons_exc (c : Str) (fs : List (Str × D)) (q : RL) : RL.cons (.exc c fs) q = .exc c fs := rfl
@[simp] theorem RL.cons_bad (q : RL) : RL.cons .bad q = .bad := rfl
@[simp] theorem RL.cons_ok_exc (d : D) (c : Str) (fs : List (Str × D)) : RL.cons (.ok d) (.exc c fs) = .exc c fs := rfl
@[simp] theorem RL.cons_ok_bad (d : D) : RL.cons (.ok d) .bad = .bad := rfl
def evA : List EF → En → RL
  | [], _ => .ok []
  | f :: fs, ρ => RL.cons (f ρ) (evA fs ρ)
@[simp] theorem evA_nil (ρ : En) : evA [] ρ = .ok [] := rfl
@[simp] theorem evA_cons (f : EF) (fs : List EF) (ρ : En) : evA (f :: fs) ρ = RL.cons (f ρ) (evA fs ρ) := rfl
inductive RbL (K : PySem.W.Frag) (H : Hp) (L : Ad) : List D → List V → Prop
  | nil : RbL K H L [] []
  | cons {d : D} {v : V} {ds : List D} {vs : List V} : Rb K H L d v → RbL K H L ds vs → RbL K H L (d :: ds) (v :: vs)
def PostA (K : PySem.W.Frag) (W : WX) (L : Ad) (σ : St) (H : Hp) (r : RL) (Q : List V → Hp → Prop) : Prop := match r with
  | .ok ds => ∀ (H' : Hp) (vs : List V), Same H H' → RpL K H' L ds vs → Q vs H'
  | .exc c fs => ∀ (H' : Hp) (x : Option Addr), Same H H' → XR K H' L fs x → W (.ref (He.ga K c)) x σ H'
  | .bad => False
def PostBA (K : PySem.W.Frag) (W : WX) (L : Ad) (σ : St) (H : Hp) (r : RL) (Q : List V → Hp → Prop) : Prop := match r with
  | .ok ds => ∀ (H' : Hp) (vs : List V), Same H H' → RbL K H' L ds vs → Q vs H'
  | .exc c fs => ∀ (H' : Hp) (x : Option Addr), Same H H' → XR K H' L fs x → W (.ref (He.ga K c)) x σ H'
  | .bad => False
section
variable {K : PySem.W.Frag} {W : WX} {L : Ad} {σ : St} {H H1 : Hp} {Q : VK} {QL : List V → Hp → Prop}
theorem RbL.mono {ds : List D} {vs : List V} (s : Same H H1) (h : RbL K H L ds vs) : RbL K H1 L ds vs := by
  induction h with
  | nil => exact .nil
  | cons r _ ih => exact .cons (r.mono s) ih
theorem PostA.mono {r : RL} (h : PostA K W L σ H r QL) (s : Same H H1) : PostA K W L σ H1 r QL := by
  cases r with
  | ok d => exact fun H' v s' => h H' v (s.trans s')
  | exc c fs => exact fun H' x s' => h H' x (s.trans s')
  | bad => exact h
theorem PostBA.mono {r : RL} (h : PostBA K W L σ H r QL) (s : Same H H1) : PostBA K W L σ H1 r QL := by
  cases r with
  | ok d => exact fun H' v s' => h H' v (s.trans s')
  | exc c fs => exact fun H' x s' => h H' x (s.trans s')
  | bad => exact h
theorem PostN.mono {r : Rs} (h : PostN K W L σ H r Q) (s : Same H H1) : PostN K W L σ H1 r Q := by
  cases r with
  | ok d => exact fun H' v s' n => h H' v (s.trans s') (s.free n)
  | exc c fs => exact fun H' x s' => h H' x (s.trans s')
  | bad => exact h
theorem Post.stepA {r : RL} {k : List D → Rs} (h : Post K W L σ H (r.bind k) Q) (hk : ∀ ds H1 vs, Same H H1 → RpL K H1 L ds vs → Post K W L σ H1 (k ds) Q → QL vs H1) : PostA K W L σ H r QL := by
  cases r with
  | ok d => exact fun H' v s' rv => hk d H' v s' rv (Post.mono h s')
  | exc c fs => exact h
  | bad => exact h
theorem Post.stepBA {r : RL} {k : List D → Rs} (h : Post K W L σ H (r.bind k) Q) (hk : ∀ ds H1 vs, Same H H1 → RbL K H1 L ds vs → Post K W L σ H1 (k ds) Q → QL vs H1) : PostBA K W L σ H r QL := by
  cases r with
  | ok d => exact fun H' v s' rv => hk d H' v s' rv (Post.mono h s')
  | exc c fs => exact h
  | bad => exact h
theorem PostN.stepA {r : RL} {k : List D → Rs} (h : PostN K W L σ H (r.bind k) Q) (hk : ∀ ds H1 vs, Same H H1 → RpL K H1 L ds vs → PostN K W L σ H1 (k ds) Q → QL vs H1) : PostA K W L σ H r QL := by
  cases r with
  | ok d => exact fun H' v s' rv => hk d H' v s' rv (PostN.mono h s')
  | exc c fs => exact h
  | bad => exact h
theorem PostN.stepBA {r : RL} {k : List D → Rs} (h : PostN K W L σ H (r.bind k) Q) (hk : ∀ ds H1 vs, Same H H1 → RbL K H1 L ds vs → PostN K W L σ H1 (k ds) Q → QL vs H1) : PostBA K W L σ H r QL := by
  cases r with
  | ok d => exact fun H' v s' rv => hk d H' v s' rv (PostN.mono h s')
  | exc c fs => exact h
  | bad => exact h
theorem PostN.stepB {r : Rs} {k : D → Rs} {R : VK} (h : PostN K W L σ H (r.bind k) Q) (hk : ∀ d H1 v, Same H H1 → Rb K H1 L d v → PostN K W L σ H1 (k d) Q → R v H1) : PostB K W L σ H r R := by
  cases r with
  | ok d => exact fun H' v s' rv => hk d H' v s' rv (PostN.mono h s')
  | exc c fs => exact h
  | bad => exact h
theorem RbL.one {d : D} {vs : List V} (h : RbL K H L [d] vs) : ∃ v, vs = [v] ∧ Rb K H L d v := by
  cases h with
  | cons r t => cases t; exact ⟨_, rfl, r⟩
theorem RbL.two {d e : D} {vs : List V} (h : RbL K H L [d, e] vs) : ∃ v w, vs = [v, w] ∧ Rb K H L d v ∧ Rb K H L e w := by
  cases h with
  | cons r t =>
    cases t with
    | cons r' t' => cases t'; exact ⟨_, _, rfl, r, r'⟩
end
def tA (K : PySem.W.Frag) (W : WX) (fs : List EF) : TA := fun σ H Q => ∃ L ρ, RE K H L ρ σ ∧ PostA K W L σ H (evA fs ρ) Q
def tBA (K : PySem.W.Frag) (W : WX) (fs : List EF) : TA := fun σ H Q => ∃ L ρ, RE K H L ρ σ ∧ PostBA K W L σ H (evA fs ρ) Q
abbrev SA (X : Cx) (W : WX) (es : List Expr) (fs : List EF) : Prop := PA X es (tA X.K W fs)
abbrev SBA (X : Cx) (W : WX) (es : List Expr) (fs : List EF) : Prop := PA X es (tBA X.K W fs)
section
variable {X : Cx} {W : WX} {e : Expr} {es : List Expr} {f : EF} {fs : List EF} {pos : Pos}
theorem _root_.L2.PA.weak {t t' : TA} (h : PA X es t) (hw : ∀ σ H Q, t' σ H Q → t σ H Q) : PA X es t' := ⟨fun p pn s σ H Q I q => h.run p pn s σ H Q I (hw σ H Q q)⟩
theorem sa_nil : SA X W [] [] := pa_nil.weak fun σ H Q ⟨L, ρ, re, p⟩ => p H [] (Same.refl H) .nil
theorem sba_nil : SBA X W [] [] := pa_nil.weak fun σ H Q ⟨L, ρ, re, p⟩ => p H [] (Same.refl H) .nil
theorem sa_cons (ha : SE X W e f) (hr : SA X W es fs) (hs : starEach (e :: es) X.env = (false, eval e X.env) :: starEach es X.env := by rfl) : SA X W (e :: es) (f :: fs) := (pa_cons ha hr hs).weak fun σ H Q ⟨L, ρ, re, p⟩ => by
  refine ⟨L, ρ, re, ?_⟩
  simp only [evA_cons] at p
  cases hf : f ρ with
  | bad => rw [hf] at p; exact p
  | exc c fs => rw [hf] at p; exact p
  | ok d =>
    rw [hf] at p
    intro H1 v s1 r1
    refine ⟨L, ρ, re.mono s1, ?_⟩
    cases hg : evA fs ρ with
    | bad => rw [hg] at p; exact p
    | exc c fs => rw [hg] at p; exact fun H' x s' => p H' x (s1.trans s')
    | ok ds => rw [hg] at p; exact fun H' vs s' r' => p H' (v :: vs) (s1.trans s') (.cons (r1.mono s') r')
theorem sba_cons (ha : SB X W e f) (hr : SBA X W es fs) (hs : starEach (e :: es) X.env = (false, eval e X.env) :: starEach es X.env := by rfl) : SBA X W (e :: es) (f :: fs) := (pa_cons ha hr hs).weak fun σ H Q ⟨L, ρ, re, p⟩ => by
  refine ⟨L, ρ, re, ?_⟩
  simp only [evA_cons] at p
  cases hf : f ρ with
  | bad => rw [hf] at p; exact p
  | exc c fs => rw [hf] at p; exact p
  | ok d =>
    rw [hf] at p
    intro H1 v s1 r1
    refine ⟨L, ρ, re.mono s1, ?_⟩
    cases hg : evA fs ρ with
    | bad => rw [hg] at p; exact p
    | exc c fs => rw [hg] at p; exact fun H' x s' => p H' x (s1.trans s')
    | ok ds => rw [hg] at p; exact fun H' vs s' r' => p H' (v :: vs) (s1.trans s') (.cons (r1.mono s') r')

/-! ### displays -/
def tupR (ds : List D) : Rs := if ds.length ≤ sizeLine then .ok (.tuple ds) else .bad
def lstR (ds : List D) : Rs := if ds.length ≤ sizeLine then .ok (.list ds) else .bad
def eTup (fs : List EF) : EF := fun ρ => (evA fs ρ).bind tupR
def eLst (fs : List EF) : EF := fun ρ => (evA fs ρ).bind lstR
theorem se_tup {x1} (h : SA X W es fs) : SE X W (.Tuple es x1 pos) (eTup fs) := (pe_tup h).weak fun σ H Q ⟨L, ρ, re, p⟩ =>
  ⟨L, ρ, re, p.stepA fun ds H1 vs s1 r p1 => by
    unfold tupR at p1
    split at p1
    · rename_i hz
      rw [r.length] at hz
      exact ⟨hz, fun q hq => p1 _ _ (same_upd hq) (.tup upd_same (r.mono (same_upd hq)))⟩
    · exact p1.elim⟩
theorem sn_lst (h : SA X W es fs) : SN X W (.List es pos) (eLst fs) := (pe_lst h).weak fun σ H Q ⟨L, ρ, re, p⟩ =>
  ⟨L, ρ, re, p.stepA fun ds H1 vs s1 r p1 => by
    unfold lstR at p1
    split at p1
    · rename_i hz
      rw [r.length] at hz
      exact ⟨hz, fun q hq => p1 _ _ (same_upd hq) hq (.lst upd_same ((r.lives (Lp_new hq)).mono (same_upd hq)))⟩
    · exact p1.elim⟩
theorem sn_dk : SN X W (.Dict [] [] pos) (eC (.dict [])) := pe_dnewK.weak fun σ H Q ⟨L, ρ, re, p⟩ => fun q hq => p _ _ (same_upd hq) hq (.dk upd_same rfl .nil)
/-! ### built-in functions and classes called -/
def rDL (K : PySem.W.Frag) (fn : List D → Option D) : List V → Hp → VK → Prop := fun xs H Q => ∃ L ds d, LvOk K H L ∧ RbL K H L ds xs ∧ fn ds = some d ∧ ∀ H' v, Same H H' → Rp K H' L d v → Q v H'
def rDN (K : PySem.W.Frag) (fn : List D → Option D) : List V → Hp → VK → Prop := fun xs H Q => ∃ L ds d, LvOk K H L ∧ RbL K H L ds xs ∧ fn ds = some d ∧ ∀ H' a, Same H H' → H a = none → Ow K H' (Lp L a) d a → Q (.ref a) H'
abbrev ClD (X : Cx) (f : Value) (fn : List D → Option D) : Prop := CallR X f (rDL X.K fn)
abbrev ClN (X : Cx) (f : Value) (fn : List D → Option D) : Prop := CallR X f (rDN X.K fn)
def eCB (fn : List D → Option D) (fs : List EF) : EF := fun ρ => (evA fs ρ).bind fun ds => Rs.of (fn ds)
theorem tCB_of {K : PySem.W.Frag} {fn : List D → Option D} : ∀ σ H Q, tE K W (eCB fn fs) σ H Q → tCB (rDL K fn) (tBA K W fs) σ H Q := fun σ H Q ⟨L, ρ, re, p⟩ =>
  ⟨L, ρ, re, p.stepBA fun ds H1 vs s1 r p1 => by
    cases hd : fn ds with
    | none => rw [hd] at p1; exact p1.elim
    | some d => rw [hd] at p1; exact ⟨L, ds, d, re.lv.mono s1, r, hd, p1⟩⟩
theorem tCBN_of {K : PySem.W.Frag} {fn : List D → Option D} : ∀ σ H Q, tN K W (eCB fn fs) σ H Q → tCB (rDN K fn) (tBA K W fs) σ H Q := fun σ H Q ⟨L, ρ, re, p⟩ =>
  ⟨L, ρ, re, p.stepBA fun ds H1 vs s1 r p1 => by
    cases hd : fn ds with
    | none => rw [hd] at p1; exact p1.elim
    | some d => rw [hd] at p1; exact ⟨L, ds, d, re.lv.mono s1, r, hd, p1⟩⟩
variable {x : Str} {p : Pos} {id T : String} {fn : List D → Option D}
theorem se_cb (hc : ClD X (.builtin id) fn) (hm : X.mg x = none) (ha : SBA X W (e :: es) fs) (hg : Gl X x := by rfl) (hv : bootBuiltins x = some (.builtin id) := by decide +kernel) (hn : x ≠ "__name__" := by decide) (hdb : (x == ("__debug__" : Str)) = false := by decide)
    (he : starEach (e :: es) X.env = (false, eval e X.env) :: starEach es X.env := by rfl) (hpl : (backTo pos (starEach es X.env)).any (·.1) = false := by rfl) : SE X W (.Call (.Name x p) (e :: es) [] pos) (eCB fn fs) :=
  (pe_callB hc hg hm hv ha hn hdb he hpl).weak tCB_of
theorem sn_cb (hc : ClN X (.builtin id) fn) (hm : X.mg x = none) (ha : SBA X W (e :: es) fs) (hg : Gl X x := by rfl) (hv : bootBuiltins x = some (.builtin id) := by decide +kernel) (hn : x ≠ "__name__" := by decide) (hdb : (x == ("__debug__" : Str)) = false := by decide)
    (he : starEach (e :: es) X.env = (false, eval e X.env) :: starEach es X.env := by rfl) (hpl : (backTo pos (starEach es X.env)).any (·.1) = false := by rfl) : SN X W (.Call (.Name x p) (e :: es) [] pos) (eCB fn fs) :=
  (pe_callB hc hg hm hv ha hn hdb he hpl).weak tCBN_of
theorem se_ct (hc : ClD X (.type T) fn) (hm : X.mg x = none) (ha : SBA X W (e :: es) fs) (hg : Gl X x := by rfl) (hv : bootBuiltins x = some (.type T) := by decide +kernel) (hn : x ≠ "__name__" := by decide) (hdb : (x == ("__debug__" : Str)) = false := by decide)
    (he : starEach (e :: es) X.env = (false, eval e X.env) :: starEach es X.env := by rfl) (hpl : (backTo pos (starEach es X.env)).any (·.1) = false := by rfl) : SE X W (.Call (.Name x p) (e :: es) [] pos) (eCB fn fs) :=
  (pe_callTy hc hg hm hv ha hn hdb he hpl).weak tCB_of
/-! ### own defs called -/
/-- the promise of a def that is a function of its arguments' data, and changes nothing -/
def spP (K : PySem.W.Frag) (n : Nat) (f : List D → Rs) : Sp := fun vs H Q E => ∃ L ds, LvOk K H L ∧ ds.length = n ∧ RpL K H L ds vs ∧ match f ds with
  | .ok d => ∀ H' v, Same H H' → Rp K H' L d v → Q v H'
  | .exc c fs => ∀ H' x, Same H H' → XR K H' L fs x → E (.ref (He.ga K c)) x H'
  | .bad => False
structure Dn (P : Program) (w : World) (K : PySem.W.Frag) (mg : Str → Option Value) (base : Heap) (x : Str) (k n : Nat) (f : List D → Rs) : Prop where
  ex : ∃ (fa : Addr) (fd : FuncData) (ps : List Str), mg x = some (.ref fa) ∧ FnOk P w K mg base (L2.CX P w) k fa fd ps (spP K n f) ∧ PySem.W.keepIn K (.ref fa) = true ∧ Binds K fd ps []
def eCall (f : List D → Rs) (fs : List EF) : EF := fun ρ => (evA fs ρ).bind f
theorem se_call {k n : Nat} {g : List D → Rs} (F : Dn X.prog X.w X.K X.mg X.base x k n g) (hr : Room k X.A) (tk : Takes X W) (ha : SA X W (e :: es) fs) (hlen : (e :: es).length = n := by rfl) (hfl : fs.length = n := by rfl) (hg : Gl X x := by rfl) (hdb : (x == ("__debug__" : Str)) = false := by decide)
    (he : starEach (e :: es) X.env = (false, eval e X.env) :: starEach es X.env := by rfl) (hpl : (backTo pos (starEach es X.env)).any (·.1) = false := by rfl) : SE X W (.Call (.Name x p) (e :: es) [] pos) (eCall g fs) := by
  obtain ⟨fa, fd, ps, hm, F, hk, hb⟩ := F.ex
  have len : ∀ (gs : List EF) (ρ : En) (ds : List D), evA gs ρ = .ok ds → ds.length = gs.length := by
    intro gs
    induction gs with
    | nil => intro ρ ds h; cases h; rfl
    | cons g gs ih =>
      intro ρ ds h
      rw [evA_cons] at h
      cases hg : g ρ with
      | bad => rw [hg] at h; cases h
      | exc c fs => rw [hg] at h; cases h
      | ok d =>
        rw [hg] at h
        cases hq : evA gs ρ with
        | bad => rw [hq] at h; cases h
        | exc c fs => rw [hq] at h; cases h
        | ok es => rw [hq] at h; cases h; simp [ih ρ es hq]
  refine (pe_callS (E := WE W) F hr hg hm hk hb (fun σ => passAt tk σ) ha hdb he hpl).weak fun σ H Q ⟨L, ρ, re, p⟩ => ⟨L, ρ, re, ?_⟩
  unfold eCall at p
  cases hA : evA fs ρ with
  | bad => rw [hA] at p; exact p
  | exc c fs => rw [hA] at p; exact p
  | ok ds =>
    rw [hA] at p
    simp only [RL.bind_ok] at p
    refine fun H1 vs s1 r => ⟨L, ds, re.lv.mono s1, (len fs ρ ds hA).trans hfl, r, ?_⟩
    have p1 := p.mono s1
    cases hg : g ds with
    | bad => rw [hg] at p1; exact p1.elim
    | exc c fs => rw [hg] at p1; exact p1
    | ok d => rw [hg] at p1; exact p1
end
end VV

set_option Elab.async false
set_option linter.all false
set_option maxRecDepth 100000
set_option maxHeartbeats 4000000
/-! VVf: subscripts, slices, built-in functions. -/
namespace VV
open PySem PySem.Spec L2
open PyProof.Rows hiding St

/-! ### subscripts -/
def asFz : D → Option (List D)
  | .dict [(.none, .tuple ds)] => some ds
  | _ => none
theorem asFz_eq {d : D} {ds : List D} (h : asFz d = some ds) : d = fzD ds := by
  unfold asFz at h
  split at h
  · cases h; rfl
  · cases h
def asRd : D → Option (List D)
  | .dict [(.none, .list ds)] => some ds
  | .dict [(.none, .tuple ds)] => some ds
  | .dict [(.none, .dict _)] => some []
  | .dict ((.none, .str _) :: _) => some []
  | _ => none
def isFd : List (D × D) → Bool
  | [(.none, .dict _)] => true
  | (.none, .str _) :: _ => true
  | _ => false
def ixF : D → D → Option D
  | .list ds, .int i => atI ds i
  | .tuple ds, .int i => atI ds i
  | .str z, .int i => if z.length ≤ sizeLine then (atI z.cps.toList i).map fun c => .str ⟨#[c]⟩ else none
  | .dict ps, .int i => (asRd (.dict ps)).bind fun ds => atI ds i
  | _, _ => none
section
variable {K : PySem.W.Frag} {H : Hp} {L : Ad}
theorem RpL.atI {ds : List D} {vs : List V} {i : Int} {d : D} (r : RpL K H L ds vs) (h : L2.atI ds i = some d) : ∃ v, L2.atI vs i = some v ∧ Rp K H L d v := by
  unfold L2.atI at h
  cases e : ixN ds.length i with
  | none => exact absurd h (by rw [e]; simp)
  | some j =>
    rw [e] at h
    obtain ⟨v, e1, rv⟩ := r.get (i := j) h
    refine ⟨v, ?_, rv⟩
    unfold L2.atI
    rw [← r.length, e]
    exact e1
theorem keyD_ne (k : Key) : keyD k ≠ .none := by cases k <;> simp [keyD]
theorem asRd_split {ps : List (D × D)} {ds : List D} (e : asRd (.dict ps) = some ds) : ps = [(.none, .list ds)] ∨ ps = [(.none, .tuple ds)] ∨ (ds = [] ∧ isFd ps = true) := by
  unfold asRd at e
  split at e
  · rename_i h1
    cases h1
    cases e
    exact .inl rfl
  · rename_i h1
    cases h1
    cases e
    exact .inr (.inl rfl)
  · rename_i h1
    cases h1
    cases e
    exact .inr (.inr ⟨rfl, rfl⟩)
  · rename_i h1
    cases h1
    cases e
    exact .inr (.inr ⟨rfl, rfl⟩)
  · cases e
theorem no_key1 {x : D} {kvs : List (Key × V)} (z : ([(PyData.none, x)] : List (D × D)).map (·.1) = kvs.map (fun q => keyD q.1)) : False := by
  cases kvs with
  | nil => cases z
  | cons q r =>
    simp only [List.map_cons, List.cons.injEq] at z
    exact keyD_ne _ z.1.symm
theorem Rb.rdV {ds : List D} {v : V} (h : Rb K H L (.dict [(.none, .list ds)]) v) : ∃ (a : Addr) (ns : List Int), v = .ref a ∧ SqL K H a (ns.map V.int) ∧ ds = ns.map PyData.int := by
  rcases h with h | ⟨a, e1, h⟩
  · generalize hd : (PyData.dict [(PyData.none, PyData.list ds)]) = dd at h
    cases h with
    | rd h =>
      unfold rdL at hd
      simp only [PyData.dict.injEq, List.cons.injEq, Prod.mk.injEq, PyData.list.injEq, and_true, true_and] at hd
      exact ⟨_, _, rfl, h.sq, hd⟩
    | fz h e r => unfold fzD at hd; cases hd
    | fd h e r => unfold fdD at hd; cases hd
    | dk _ _ z _ => cases hd; exact (no_key1 z).elim
    | dt _ _ z _ => cases hd
    | _ => cases hd
  · cases h with
    | dk _ z _ => exact (no_key1 z).elim
theorem Rb.fzV {ds : List D} {v : V} (h : Rb K H L (fzD ds) v) : ∃ (a : Addr) (o : Obj) (vs : List V), v = .ref a ∧ H a = some (.frz o (.tup vs)) ∧ o.dict = none ∧ RpL K H L ds vs := by
  unfold fzD at h
  rcases h with h | ⟨a, e1, h⟩
  · generalize hd : (PyData.dict [(PyData.none, PyData.tuple ds)]) = dd at h
    cases h with
    | rd h => unfold rdL at hd; cases hd
    | fd h e r => unfold fdD at hd; cases hd
    | fz h e r =>
      unfold fzD at hd
      simp only [PyData.dict.injEq, List.cons.injEq, Prod.mk.injEq, PyData.tuple.injEq, and_true, true_and] at hd
      subst hd
      exact ⟨_, _, _, rfl, h, e, r⟩
    | dk _ _ z _ => cases hd; exact (no_key1 z).elim
    | dt _ _ z _ => cases hd
    | _ => cases hd
  · cases h with
    | dk _ z _ => exact (no_key1 z).elim
theorem SqT.ofF {o : Obj} {a : Addr} {vs : List V} (h : H a = some (.frz o (.tup vs))) : SqT K H a vs := .inl (.inr ⟨o, h⟩)
end
section
variable {X : Cx} {W : WX} {a b : Expr} {f g : EF} {pos : Pos}
theorem ix_D : IxR X (rD2 X.K ixF) := by
  intro value slice pn s σ H x y v u Q I rx ry h hs
  obtain ⟨L, dx, dy, d, lv, bx, by', hf, k⟩ := h
  unfold ixF at hf
  split at hf
  · obtain ⟨p, vs, rfl, hp, r⟩ := bx.lstV
    obtain rfl := by'.intV
    obtain ⟨z, e, rz⟩ := r.atI hf
    exact ix_list value slice pn s σ H _ _ v u Q I rx ry ⟨p, vs, _, z, rfl, rfl, SqL.of hp, e, k H z (Same.refl H) rz⟩ hs
  · obtain ⟨p, vs, rfl, hp, r⟩ := bx.tupV
    obtain rfl := by'.intV
    obtain ⟨z, e, rz⟩ := r.atI hf
    exact ix_tup value slice pn s σ H _ _ v u Q I rx ry ⟨p, vs, _, z, rfl, rfl, SqT.of hp, e, k H z (Same.refl H) rz⟩ hs
  · obtain rfl := bx.strV
    obtain rfl := by'.intV
    split at hf
    · rename_i hz
      obtain ⟨c, e, rfl⟩ := Option.map_eq_some_iff.mp hf
      exact ix_str value slice pn s σ H _ _ v u Q I rx ry ⟨_, _, c, rfl, rfl, hz, e, k H _ (Same.refl H) (.str _)⟩ hs
    · cases hf
  · obtain rfl := by'.intV
    cases e : asRd (.dict _) with
    | none => rw [e] at hf; cases hf
    | some ds =>
      rw [e] at hf
      rcases asRd_split e with rfl | rfl | ⟨rfl, _⟩
      rotate_right
      · have hf' : L2.atI ([] : List D) _ = some d := hf
        unfold L2.atI ixN at hf'
        simp at hf'
      · obtain ⟨p, ns, rfl, hp, rfl⟩ := bx.rdV
        have hf' : L2.atI (ns.map PyData.int) _ = some d := hf
        obtain ⟨z, e2, rz⟩ := (RpL.ofInts (K := X.K) (H := H) (L := L) ns).atI hf'
        exact ix_list value slice pn s σ H _ _ v u Q I rx ry ⟨p, _, _, z, rfl, rfl, hp, e2, k H z (Same.refl H) rz⟩ hs
      · obtain ⟨p, o, vs, rfl, hp, _, r⟩ := Rb.fzV (ds := ds) bx
        have hf' : L2.atI ds _ = some d := hf
        obtain ⟨z, e2, rz⟩ := r.atI hf'
        exact ix_tup value slice pn s σ H _ _ v u Q I rx ry ⟨p, vs, _, z, rfl, rfl, SqT.ofF hp, e2, k H z (Same.refl H) rz⟩ hs
  · cases hf
theorem se_ix (ha : SB X W a f) (hb : SB X W b g) (hs : PlainIx b := by exact fun _ _ => rfl) : SE X W (.Subscript a b pos) (eOp ixF f g) := (pe_ix ix_D ha hb hs).weak tOp_of

/-! ### slices -/
def cutL {α : Type} (xs : List α) (lo hi : Option Int) : List α := (xs.drop (HT.sIx xs.length 0 lo)).take (HT.sIx xs.length xs.length hi - HT.sIx xs.length 0 lo)
def slF : D → Option Int → Option Int → Option D
  | .list ds, lo, hi => some (.list (cutL ds lo hi))
  | .tuple ds, lo, hi => some (.tuple (cutL ds lo hi))
  | .str z, lo, hi => if z.length ≤ sizeLine then some (.str (cutS z lo hi)) else none
  | _, _, _ => none
def optI (g : Option EF) (ρ : En) (k : Option Int → Rs) : Rs := match g with
  | none => k none
  | some g => (g ρ).bind fun d => match d with
    | .int i => k (some i)
    | _ => .bad
def eSl (f : EF) (lo hi : Option EF) : EF := fun ρ => (f ρ).bind fun x => optI lo ρ fun l => optI hi ρ fun h => Rs.of (slF x l h)
def tSO (K : PySem.W.Frag) (W : WX) : Option EF → TO
  | none => tNoPart
  | some g => tPart (tB K W g)
abbrev SO (X : Cx) (W : WX) (e : Option Expr) (g : Option EF) : Prop := PO X e (tSO X.K W g)
theorem so_none : SO X W none none := po_none
theorem so_some (h : SB X W a f) : SO X W (some a) (some f) := po_some h
theorem RpL.cut {K : PySem.W.Frag} {H : Hp} {L : Ad} {ds : List D} {vs : List V} (r : RpL K H L ds vs) (lo hi : Option Int) : RpL K H L (cutL ds lo hi) (cutV vs lo hi) := by
  unfold cutL cutV
  rw [r.length]
  exact (r.drop _).take _
theorem cutL_whole {α : Type} {xs : List α} {lo hi : Option Int} (h : HT.sIx xs.length 0 lo = 0 ∧ HT.sIx xs.length xs.length hi = xs.length) : cutL xs lo hi = xs := by
  unfold cutL
  rw [h.1, h.2, List.drop_zero, Nat.sub_zero, List.take_length]
theorem sl_D : L2.SlR X (fun x lo hi H Q => ∃ L dx d, LvOk X.K H L ∧ Rb X.K H L dx x ∧ slF dx lo hi = some d ∧ ∀ H' v, Same H H' → Rp X.K H' L d v → Q v H') := by
  intro pn s σ H x v vl vu lo hi sl Q I rx hs pl pu h
  obtain ⟨L, dx, d, lv, bx, hf, k⟩ := h
  unfold slF at hf
  split at hf
  · obtain ⟨p, vs, rfl, hp, r⟩ := bx.lstV
    cases hf
    exact sl_list pn s σ H _ v vl vu lo hi sl Q I rx hs pl pu ⟨p, vs, rfl, SqL.of hp, fun q hq => k _ _ (same_upd hq) (.lst upd_same (new_not lv hq) ((r.cut lo hi).mono (same_upd hq)))⟩
  · obtain ⟨p, vs, rfl, hp, r⟩ := bx.tupV
    cases hf
    refine sl_tupA pn s σ H _ v vl vu lo hi sl Q I rx hs pl pu ⟨p, vs, rfl, SqT.of hp, fun hw => ?_, fun _ q hq => k _ _ (same_upd hq) (.tup upd_same ((r.cut lo hi).mono (same_upd hq)))⟩
    rw [← r.length] at hw
    rw [cutL_whole hw] at k
    exact k H _ (Same.refl H) (.tup hp r)
  · obtain rfl := bx.strV
    split at hf
    · cases hf
      exact sl_str pn s σ H _ v vl vu lo hi sl Q I rx hs pl pu ⟨_, rfl, by assumption, k H _ (Same.refl H) (.str _)⟩
    · cases hf
  · cases hf
theorem Post.stepO {K : PySem.W.Frag} {L : Ad} {σ : St} {H : Hp} {ρ : En} {go : Option EF} {k : Option Int → Rs} {Q : VK} {R : Option Int → Hp → Prop} (re : RE K H L ρ σ) (h : Post K W L σ H (optI go ρ k) Q)
    (hk : ∀ o H1, Same H H1 → Post K W L σ H1 (k o) Q → R o H1) : tSO K W go σ H R := by
  cases go with
  | none => exact hk none H (Same.refl H) h
  | some g =>
    refine ⟨L, ρ, re, h.step fun d H1 v s1 r p1 => ?_⟩
    cases d with
    | int i => exact ⟨i, r.intV, hk (some i) H1 s1 p1⟩
    | _ => exact p1.elim
theorem se_sl {lo hi : Option Expr} {gl gh : Option EF} {p2 : Pos} (ha : SB X W a f) (hl : SO X W lo gl) (hh : SO X W hi gh) : SE X W (.Subscript a (.Slice lo hi none p2) pos) (eSl f gl gh) := (pe_slice sl_D ha hl hh).weak fun σ H Q ⟨L, ρ, re, p⟩ =>
  ⟨L, ρ, re, p.step fun dx H1 x s1 rx p1 => Post.stepO (re.mono s1) p1 fun l H2 s2 p2 => Post.stepO (re.mono (s1.trans s2)) p2 fun h H3 s3 p3 => by
    cases hd : slF dx l h with
    | none => rw [hd] at p3; exact p3.elim
    | some d => rw [hd] at p3; exact ⟨L, dx, d, re.lv.mono (s1.trans (s2.trans s3)), rx.mono (s2.trans s3), hd, p3⟩⟩
end

/-! ### numbers out of data -/
def intsOf : List D → Option (List Int)
  | [] => some []
  | .int i :: r => (intsOf r).map fun is => i :: is
  | _ => none
theorem intsOf_eq : ∀ {ds : List D} {ns : List Int}, intsOf ds = some ns → ds = ns.map PyData.int
  | [], ns, h => by cases h; rfl
  | d :: ds, ns, h => by
    cases d with
    | int i =>
      unfold intsOf at h
      obtain ⟨is, e, rfl⟩ := Option.map_eq_some_iff.mp h
      rw [intsOf_eq e]
      rfl
    | _ => cases h
@[simp] theorem intsOf_map (ns : List Int) : intsOf (ns.map PyData.int) = some ns := by
  induction ns with
  | nil => rfl
  | cons n ns ih => simp [intsOf, ih]
/-! ### built-in functions -/
/-- how many keys; a dict of tuples is marked by its first pair -/
def dLen : List (D × D) → Nat
  | (.none, .none) :: ps => ps.length
  | ps => ps.length
theorem dLen_dk {ps : List (D × D)} {kvs : List (Key × V)} (z : ps.map (·.1) = kvs.map (fun q => keyD q.1)) : dLen ps = ps.length := by
  unfold dLen
  split
  · cases kvs with
    | nil => simp at z
    | cons q r =>
      simp only [List.map_cons, List.cons.injEq] at z
      obtain ⟨z, _⟩ := z
      obtain ⟨qk, qv⟩ := q
      cases qk <;> cases z
  · rfl
def lenF : List D → Option D
  | [.list ds] => some (.int ds.length)
  | [.tuple ds] => some (.int ds.length)
  | [.str z] => if z.length ≤ sizeLine then some (.int z.length) else none
  | [.dict ps] => (match asRd (.dict ps) with
    | some ds => if isFd ps = true then none else some (.int ds.length)
    | none => some (.int (dLen ps)))
  | _ => none
def absF : List D → Option D
  | [.int i] => some (.int (if i < 0 then -i else i))
  | _ => none
def tupF : List D → Option D
  | [.list ds] => some (.tuple ds)
  | [.tuple ds] => some (.tuple ds)
  | _ => none
def sumF : List D → Option D
  | [.list ds] => (intsOf ds).map fun ns => .int ns.sum
  | [.tuple ds] => (intsOf ds).map fun ns => .int ns.sum
  | _ => none
def max2F : List D → Option D
  | [.int i, .int j] => some (.int (if j > i then j else i))
  | _ => none
def min2F : List D → Option D
  | [.int i, .int j] => some (.int (if j < i then j else i))
  | _ => none
section
variable {X : Cx}
theorem Rb.dictV {K : PySem.W.Frag} {H : Hp} {L : Ad} {ps : List (D × D)} {v : V} (h : Rb K H L (.dict ps) v) (e : asRd (.dict ps) = none) : ∃ a, v = .ref a ∧ Ow K H L (.dict ps) a := by
  rcases h with h | ⟨a, e1, h⟩
  · generalize hd : (PyData.dict ps) = dd at h e
    cases h with
    | rd h => unfold rdL at e; simp [asRd] at e
    | fz h _ r => unfold fzD at e; simp [asRd] at e
    | fd h _ r => unfold fdD at e; simp [asRd] at e
    | ob h _ _ r => unfold obD at e; simp [asRd] at e
    | dk h1 _ z r => exact ⟨_, rfl, .dk h1 z r⟩
    | dt h1 _ z r => exact ⟨_, rfl, .dt h1 z r⟩
    | _ => cases hd
  · exact ⟨a, e1, h⟩
theorem cl_max2 (hc : X.calm = true) : ClD X (.builtin "max") max2F := by
  intro pn s σ H xs us Q I rs h
  obtain ⟨L, ds, d, lv, rb, hf, k⟩ := h
  unfold max2F at hf
  split at hf
  · obtain ⟨v, w, rfl, r, r'⟩ := rb.two
    obtain rfl := r.intV
    obtain rfl := r'.intV
    cases hf
    exact call_max2 hc pn s σ H _ us Q I rs ⟨_, _, rfl, k H _ (Same.refl H) (.int _)⟩
  · cases hf
theorem cl_min2 (hc : X.calm = true) : ClD X (.builtin "min") min2F := by
  intro pn s σ H xs us Q I rs h
  obtain ⟨L, ds, d, lv, rb, hf, k⟩ := h
  unfold min2F at hf
  split at hf
  · obtain ⟨v, w, rfl, r, r'⟩ := rb.two
    obtain rfl := r.intV
    obtain rfl := r'.intV
    cases hf
    exact call_min2 hc pn s σ H _ us Q I rs ⟨_, _, rfl, k H _ (Same.refl H) (.int _)⟩
  · cases hf
theorem cl_tup : ClD X (.type "tuple") tupF := by
  intro pn s σ H xs us Q I rs h
  obtain ⟨L, ds, d, lv, rb, hf, k⟩ := h
  unfold tupF at hf
  split at hf
  · obtain ⟨v, rfl, r⟩ := rb.one
    obtain ⟨a, vs, rfl, ha, rl⟩ := r.lstV
    cases hf
    exact call_tuple_of pn s σ H _ us Q I rs ⟨a, vs, rfl, .inl ⟨SqL.of ha, fun p hp => k _ _ (same_upd hp) (.tup upd_same (rl.mono (same_upd hp)))⟩⟩
  · obtain ⟨v, rfl, r⟩ := rb.one
    obtain ⟨a, vs, rfl, ha, rl⟩ := r.tupV
    cases hf
    exact call_tuple_of pn s σ H _ us Q I rs ⟨a, vs, rfl, .inr ⟨SqT.of ha, k H _ (Same.refl H) (.tup ha rl)⟩⟩
  · cases hf
theorem cl_len : ClD X (.builtin "len") lenF := by
  intro pn s σ H xs us Q I rs h
  obtain ⟨L, ds, d, lv, rb, hf, k⟩ := h
  unfold lenF at hf
  split at hf
  · obtain ⟨v, rfl, r⟩ := rb.one
    obtain ⟨a, vs, rfl, ha, rl⟩ := r.lstV
    cases hf
    rw [rl.length] at k
    exact call_len pn s σ H _ us Q I rs ⟨_, _, rfl, .inl ⟨vs, SqL.of ha, rfl⟩, k H _ (Same.refl H) (.int _)⟩
  · obtain ⟨v, rfl, r⟩ := rb.one
    obtain ⟨a, vs, rfl, ha, rl⟩ := r.tupV
    cases hf
    rw [rl.length] at k
    exact call_len pn s σ H _ us Q I rs ⟨_, _, rfl, .inr ⟨vs, SqT.of ha, rfl⟩, k H _ (Same.refl H) (.int _)⟩
  · obtain ⟨v, rfl, r⟩ := rb.one
    obtain rfl := r.strV
    split at hf
    · cases hf
      exact call_len pn s σ H _ us Q I rs ⟨_, _, rfl, ⟨by assumption, rfl⟩, k H _ (Same.refl H) (.int _)⟩
    · cases hf
  · obtain ⟨v, rfl, r⟩ := rb.one
    split at hf
    · rename_i e
      rcases asRd_split e with rfl | rfl | ⟨_, fd⟩
      rotate_right
      · rw [if_pos fd] at hf
        cases hf
      · obtain ⟨a, ns, rfl, ha, rfl⟩ := r.rdV
        cases hf
        have e2 : ((ns.map PyData.int).length : Int) = ((ns.map V.int).length : Int) := by simp
        rw [e2] at k
        exact call_len pn s σ H _ us Q I rs ⟨_, _, rfl, .inl ⟨_, ha, rfl⟩, k H _ (Same.refl H) (.int _)⟩
      · obtain ⟨a, o, vs, rfl, ha, _, rl⟩ := Rb.fzV r
        cases hf
        rw [rl.length] at k
        exact call_len pn s σ H _ us Q I rs ⟨_, _, rfl, .inr ⟨vs, SqT.ofF ha, rfl⟩, k H _ (Same.refl H) (.int _)⟩
    · rename_i e
      obtain ⟨a, rfl, ow⟩ := r.dictV e
      cases hf
      obtain ⟨u, rfl, ru⟩ := vals1 rs
      cases ru
      cases ow with
      | dk h1 z rl =>
        have e2 := congrArg List.length z
        rw [List.length_map, List.length_map] at e2
        rw [dLen_dk z, e2] at k
        exact d_len I (.inl h1) fun t s' I' => ⟨.int _, H, I', ⟨t, rfl⟩, k H _ (Same.refl H) (.int _)⟩
      | dt h1 z rl =>
        have e2 := congrArg List.length z
        rw [List.length_map, List.length_map] at e2
        simp only [dLen] at k
        rw [e2] at k
        exact call_len_dT pn s σ H [.ref a] [.ref a] Q I (.cons rfl .nil) ⟨a, _, rfl, h1, k H _ (Same.refl H) (.int _)⟩
      | ob _ _ _ => cases e
  · cases hf
/-! sum -/
/-! isinstance(x, T), T a built-in class -/
def tyN : D → Option String
  | .none => some "NoneType"
  | .bool _ => some "bool"
  | .int _ => some "int"
  | .str _ => some "str"
  | .list _ => some "list"
  | .tuple _ => some "tuple"
  | .dict ps => if (asFz (.dict ps)).isSome then some "tuple" else none
def isInt : D → Bool
  | .int _ => true
  | .bool _ => true
  | _ => false
def isBool : D → Bool
  | .bool _ => true
  | _ => false
def isTup : D → Bool
  | .tuple _ => true
  | .dict ps => (asFz (.dict ps)).isSome
  | _ => false
def isLst : D → Bool
  | .list _ => true
  | _ => false
def isStr : D → Bool
  | .str _ => true
  | _ => false
def eIsi (g : D → Bool) (f : EF) : EF := fun ρ => (f ρ).bind fun d => match d with
  | .dict ps => if (asFz (.dict ps)).isSome then .ok (.bool (g (.dict ps))) else .bad
  | d => .ok (.bool (g d))
theorem tyN_dict {ps : List (D × D)} {t : String} (h : tyN (.dict ps) = some t) : t = "tuple" ∧ (asFz (.dict ps)).isSome = true := by
  unfold tyN at h
  dsimp only at h
  split at h
  · rename_i hz
    cases h
    exact ⟨rfl, hz⟩
  · cases h
theorem kit_int (d : D) (t : String) (h : tyN d = some t) : kitB t "int" = some (isInt d) := by
  cases d with
  | dict ps =>
    obtain ⟨h1, h2⟩ := tyN_dict h
    subst h1
    show kitB "tuple" "int" = some false
    decide +kernel
  | _ => cases h <;> first | rfl | decide +kernel
theorem kit_bool (d : D) (t : String) (h : tyN d = some t) : kitB t "bool" = some (isBool d) := by
  cases d with
  | dict ps =>
    obtain ⟨h1, h2⟩ := tyN_dict h
    subst h1
    show kitB "tuple" "bool" = some false
    decide +kernel
  | _ => cases h <;> first | rfl | decide +kernel
theorem kit_tup (d : D) (t : String) (h : tyN d = some t) : kitB t "tuple" = some (isTup d) := by
  cases d with
  | dict ps =>
    obtain ⟨h1, h2⟩ := tyN_dict h
    subst h1
    rw [show isTup (.dict ps) = true from h2]
    decide +kernel
  | _ => cases h <;> first | rfl | decide +kernel
theorem kit_lst (d : D) (t : String) (h : tyN d = some t) : kitB t "list" = some (isLst d) := by
  cases d with
  | dict ps =>
    obtain ⟨h1, h2⟩ := tyN_dict h
    subst h1
    show kitB "tuple" "list" = some false
    decide +kernel
  | _ => cases h <;> first | rfl | decide +kernel
theorem kit_str (d : D) (t : String) (h : tyN d = some t) : kitB t "str" = some (isStr d) := by
  cases d with
  | dict ps =>
    obtain ⟨h1, h2⟩ := tyN_dict h
    subst h1
    show kitB "tuple" "str" = some false
    decide +kernel
  | _ => cases h <;> first | rfl | decide +kernel
theorem Rb.ty {K : PySem.W.Frag} {H : Hp} {L : Ad} {d : D} {v : V} {t : String} (h : Rb K H L d v) (e : tyN d = some t) : TyX K H v (.type t) := by
  cases d with
  | none => obtain rfl := h.nonV; cases e; exact .base .non
  | bool b => obtain rfl := h.blV; cases e; exact .base (.bl b)
  | int i => obtain rfl := h.intV; cases e; exact .base (.int i)
  | str x => obtain rfl := h.strV; cases e; exact .base (.str x)
  | list ds => obtain ⟨a, vs, rfl, ha, r⟩ := h.lstV; cases e; exact .base (.lst ha)
  | tuple ds => obtain ⟨a, vs, rfl, ha, r⟩ := h.tupV; cases e; exact .base (.tup ha)
  | dict ps =>
    obtain ⟨h1, h2⟩ := tyN_dict e
    subst h1
    obtain ⟨ds, hds⟩ := Option.isSome_iff_exists.mp h2
    rw [asFz_eq hds] at h
    obtain ⟨a, o, vs, rfl, ha, _, r⟩ := h.fzV
    exact .fTuple ha
theorem se_isi {W : WX} {a : Expr} {f : EF} {T : String} {x : Str} {g : D → Bool} {p p2 pos : Pos} (hT : ∀ d t, tyN d = some t → kitB t T = some (g d)) (hm : X.mg "isinstance" = none) (hmT : X.mg x = none) (ha : SB X W a f)
    (hg : Gl X "isinstance" := by rfl) (hgT : Gl X x := by rfl) (hv : bootBuiltins "isinstance" = some (.builtin "isinstance") := by decide +kernel) (hvT : bootBuiltins x = some (.type T) := by decide +kernel)
    (hn : x ≠ "__name__" := by decide) (hd : (x == ("__debug__" : Str)) = false := by decide)
    (he : starEach (a :: [Expr.Name x p2]) X.env = (false, eval a X.env) :: starEach [Expr.Name x p2] X.env := by rfl) (he2 : starEach (Expr.Name x p2 :: []) X.env = (false, eval (Expr.Name x p2) X.env) :: starEach [] X.env := by rfl) (hpl : (backTo pos (starEach [Expr.Name x p2] X.env)).any (·.1) = false := by rfl) :
    SE X W (.Call (.Name "isinstance" p) [a, .Name x p2] [] pos) (eIsi g f) :=
  (pe_callB call_isi hg hm hv (pa_cons ha (pa_cons (pe_bltn (v := .ty T) hgT hmT hvT rfl hn hd) pa_nil he2) he) (by decide) (by decide) he hpl).weak fun σ H Q ⟨L, ρ, re, pp⟩ =>
    ⟨L, ρ, re, pp.step fun d H1 v s1 r p1 => by
      cases e : tyN d with
      | none =>
        cases d with
        | dict ps =>
          have hn : ¬ (asFz (.dict ps)).isSome = true := fun z => by
            unfold tyN at e
            dsimp only at e
            rw [if_pos z] at e
            cases e
          dsimp only at p1
          rw [if_neg hn] at p1
          exact p1.elim
        | _ => cases e
      | some t =>
        refine ⟨v, .ty T, .type t, .type T, g d, rfl, .ty T, r.ty e, kit_ty (hT d t e), ?_⟩
        cases d with
        | dict ps =>
          dsimp only at p1
          rw [if_pos (tyN_dict e).2] at p1
          exact p1 H1 _ (Same.refl H1) (.bl _)
        | _ => exact p1 H1 _ (Same.refl H1) (.bl _)⟩
end
end VV

set_option Elab.async false
set_option linter.all false
set_option maxRecDepth 100000
set_option maxHeartbeats 4000000
/-! VVg: what is walked, targets, comprehensions. -/
namespace VV
open PySem PySem.Spec L2
open PyProof.Rows hiding St

section
variable {K : PySem.W.Frag} {H H' : Hp} {L L' : Ad} {d : D} {v : V}
theorem Rb.lives (s : ∀ a, L' a → L a ∨ H a = none) (h : Rb K H L d v) : Rb K H L' d v := by
  rcases h with h | ⟨a, e, h⟩
  · exact .inl (h.lives s)
  · exact .inr ⟨a, e, h.lives s⟩
theorem SlR.lives {x : Sl} {o : Option V} (s : ∀ a, L' a → L a ∨ H a = none) (h : SlR K H L x o) : SlR K H L' x o := by
  cases x with
  | val d => obtain ⟨v, e, r⟩ := h; exact ⟨v, e, r.lives s⟩
  | own d => obtain ⟨a, e, r⟩ := h; exact ⟨a, e, r.lives s⟩
  | grid rows => obtain ⟨a, bs, e, r⟩ := h; exact ⟨a, bs, e, r.lives s⟩
  | pin a => exact h
  | ownP d => obtain ⟨a, e, r⟩ := h; exact ⟨a, e, r.lives s⟩
theorem RE.lives {ρ : En} {σ : St} (s : ∀ a, L' a → L a ∨ H a = none) (lv : LvOk K H L') (h : RE K H L ρ σ) : RE K H L' ρ σ :=
  ⟨lv, h.len, fun i x e => let ⟨o, e1, r⟩ := h.sl i x e; ⟨o, e1, r.lives s⟩⟩
end

/-! ### what is walked -/
structure ItB (K : PySem.W.Frag) (ds : List D) (J : It) (S : Hp → Ad → Prop) : Prop where
  go : ∀ i H L, S H L → i < ds.length → J.go i H
  stop : ∀ i H L, S H L → ds.length ≤ i → J.stop i H
  yld : ∀ i H L x H', S H L → J.yld i H x H' → Same H H' ∧ ∀ d, ds[i]? = some d → Rp K H' L d x
  keep : ∀ H L H' L', S H L → Same H H' → (∀ a, L' a → L a ∨ H a = none) → S H' L'
structure ItS (K : PySem.W.Frag) (ds : List D) (J : It) (S : Hp → Ad → Prop) : Prop extends ItB K ds J S where
  evo : ∀ H L H' L', S H L → (∀ d v, Rp K H L d v → Rp K H' L' d v) → S H' L'
def PostI (K : PySem.W.Frag) (W : WX) (L : Ad) (σ : St) (H : Hp) (r : RL) (R : It → Hp → Prop) : Prop := match r with
  | .ok ds => ∀ (J : It) (S : Hp → Ad → Prop) (H' : Hp), Same H H' → ItB K ds J S → S H' L → R J H'
  | .exc c fs => ∀ (H' : Hp) (x : Option Addr), Same H H' → XR K H' L fs x → W (.ref (He.ga K c)) x σ H'
  | .bad => False
def PostIS (K : PySem.W.Frag) (W : WX) (L : Ad) (σ : St) (H : Hp) (r : RL) (R : It → Hp → Prop) : Prop := match r with
  | .ok ds => ∀ (J : It) (S : Hp → Ad → Prop) (H' : Hp), Same H H' → ItS K ds J S → S H' L → R J H'
  | .exc c fs => ∀ (H' : Hp) (x : Option Addr), Same H H' → XR K H' L fs x → W (.ref (He.ga K c)) x σ H'
  | .bad => False
abbrev IF := En → RL
def tI (K : PySem.W.Frag) (W : WX) (f : IF) : TI := fun σ H R => ∃ L ρ, RE K H L ρ σ ∧ PostI K W L σ H (f ρ) R
def tIS (K : PySem.W.Frag) (W : WX) (f : IF) : TI := fun σ H R => ∃ L ρ, RE K H L ρ σ ∧ PostIS K W L σ H (f ρ) R
/-- what a comprehension walks; what a for walks -/
abbrev SI (X : Cx) (W : WX) (tg e : Expr) (f : IF) : Prop := PI X tg e (tI X.K W f)
abbrev SIS (X : Cx) (W : WX) (tg e : Expr) (f : IF) : Prop := PI X tg e (tIS X.K W f)
def Rs.items (r : Rs) (fn : D → Option (List D)) : RL := match r with
  | .ok d => (match fn d with
    | some ds => .ok ds
    | none => .bad)
  | .exc c fs => .exc c fs
  | .bad => .bad
def itF : D → Option (List D)
  | .list ds => some ds
  | .tuple ds => some ds
  | .str z => some (z.cps.toList.map fun c => .str ⟨#[c]⟩)
  | .dict ps => asFz (.dict ps)
  | _ => none
def iSeq (f : EF) : IF := fun ρ => (f ρ).items itF
section
variable {X : Cx} {W : WX} {tg e a b c : Expr} {f g h : EF} {pos p : Pos}
theorem _root_.L2.PI.weak {t t' : TI} (h : PI X tg e t) (hw : ∀ σ H Q, t' σ H Q → t σ H Q) : PI X tg e t' := ⟨fun pn s σ H Q I q => h.run pn s σ H Q I (hw σ H Q q)⟩
theorem itb_list {K : PySem.W.Frag} {ds : List D} {a : Addr} : ItB K ds (Itl K a) (fun H L => ∃ vs, H a = some (.lst vs) ∧ RpL K H L ds vs) where
  go := fun i H L ⟨vs, ha, r⟩ hi => by
    rw [r.length] at hi
    exact ⟨vs, vs[i], SqL.of ha, by simp [hi]⟩
  stop := fun i H L ⟨vs, ha, r⟩ hi => ⟨vs, SqL.of ha, by rw [← r.length]; exact hi⟩
  yld := fun i H L x H' ⟨vs, ha, r⟩ ⟨e, y⟩ => by
    subst e
    refine ⟨Same.refl _, fun d hd => ?_⟩
    obtain ⟨v, e1, rv⟩ := r.get hd
    rw [y vs (SqL.of ha)] at e1
    cases e1
    exact rv
  keep := fun H L H' L' ⟨vs, ha, r⟩ s l => ⟨vs, s _ _ ha, (r.lives l).mono s⟩
theorem itb_tup {K : PySem.W.Frag} {ds : List D} {a : Addr} : ItB K ds (Itt K a) (fun H L => ∃ vs, H a = some (.tup vs) ∧ RpL K H L ds vs) where
  go := fun i H L ⟨vs, ha, r⟩ hi => by
    rw [r.length] at hi
    exact ⟨vs, vs[i], SqT.of ha, by simp [hi]⟩
  stop := fun i H L ⟨vs, ha, r⟩ hi => ⟨vs, SqT.of ha, by rw [← r.length]; exact hi⟩
  yld := fun i H L x H' ⟨vs, ha, r⟩ ⟨e, y⟩ => by
    subst e
    refine ⟨Same.refl _, fun d hd => ?_⟩
    obtain ⟨v, e1, rv⟩ := r.get hd
    rw [y vs (SqT.of ha)] at e1
    cases e1
    exact rv
  keep := fun H L H' L' ⟨vs, ha, r⟩ s l => ⟨vs, s _ _ ha, (r.lives l).mono s⟩
theorem itb_fz {K : PySem.W.Frag} {ds : List D} {a : Addr} : ItB K ds (Itt K a) (fun H L => Rp K H L (fzD ds) (.ref a)) where
  go := fun i H L q hi => by
    obtain ⟨_, o, vs, e, ha, _, r⟩ := q.rb.fzV
    cases e
    rw [r.length] at hi
    exact ⟨vs, vs[i], SqT.ofF ha, by simp [hi]⟩
  stop := fun i H L q hi => by
    obtain ⟨_, o, vs, e, ha, _, r⟩ := q.rb.fzV
    cases e
    exact ⟨vs, SqT.ofF ha, by rw [← r.length]; exact hi⟩
  yld := fun i H L x H' q ⟨e, y⟩ => by
    obtain ⟨_, o, vs, e2, ha, _, r⟩ := q.rb.fzV
    cases e2
    subst e
    refine ⟨Same.refl _, fun d hd => ?_⟩
    obtain ⟨v, e1, rv⟩ := r.get hd
    rw [y vs (SqT.ofF ha)] at e1
    cases e1
    exact rv
  keep := fun H L H' L' q s l => (q.lives l).mono s
theorem Rb.fzR {K : PySem.W.Frag} {H : Hp} {L : Ad} {ds : List D} {v : V} (h : Rb K H L (fzD ds) v) : Rp K H L (fzD ds) v := by
  obtain ⟨a, o, vs, rfl, ha, e, r⟩ := h.fzV
  exact .fz ha e r
theorem itb_str {K : PySem.W.Frag} {z : Str} : ItB K (z.cps.toList.map fun c => PyData.str ⟨#[c]⟩) (Its z) (fun _ _ => True) where
  go := fun i H L _ hi => show i < z.cps.size by simpa using hi
  stop := fun i H L _ hi => show z.cps.size ≤ i by simpa using hi
  yld := fun i H L x H' _ ⟨e, c, e1, e2⟩ => by
    subst e
    refine ⟨Same.refl _, fun d hd => ?_⟩
    rw [List.getElem?_map, Array.getElem?_toList, e1] at hd
    cases hd
    subst e2
    exact .str _
  keep := fun H L H' L' _ s l => trivial
/-- what is walked is known by the slots before it is evaluated: each kind by its own rule of the library -/
theorem si_seq (ha : SB X W e f) : SI X W tg e (iSeq f) := ⟨fun pn s σ H R I ⟨L, ρ, re, p⟩ => by
  unfold iSeq Rs.items at p
  match hf : f ρ with
  | .bad => rw [hf] at p; exact p.elim
  | .exc c fs =>
    rw [hf] at p
    refine (pi_list ha).run pn s σ H R I ⟨L, ρ, re, ?_⟩
    rw [hf]
    exact p
  | .ok (.list ds) =>
    rw [hf] at p
    refine (pi_list ha).run pn s σ H R I ⟨L, ρ, re, ?_⟩
    rw [hf]
    intro H1 v s1 r
    obtain ⟨b, vs, ev, hb, rl⟩ := r.lstV
    exact ⟨b, ev, ⟨vs, SqL.of hb⟩, p _ _ H1 s1 itb_list ⟨vs, hb, rl⟩⟩
  | .ok (.tuple ds) =>
    rw [hf] at p
    refine (pi_tup ha).run pn s σ H R I ⟨L, ρ, re, ?_⟩
    rw [hf]
    intro H1 v s1 r
    obtain ⟨b, vs, ev, hb, rl⟩ := r.tupV
    exact ⟨b, ev, ⟨vs, SqT.of hb⟩, p _ _ H1 s1 itb_tup ⟨vs, hb, rl⟩⟩
  | .ok (.str z) =>
    rw [hf] at p
    refine (pi_str ha).run pn s σ H R I ⟨L, ρ, re, ?_⟩
    rw [hf]
    exact fun H1 v s1 r => ⟨z, r.strV, p _ _ H1 s1 itb_str trivial⟩
  | .ok .none => rw [hf] at p; exact p.elim
  | .ok (.bool _) => rw [hf] at p; exact p.elim
  | .ok (.int _) => rw [hf] at p; exact p.elim
  | .ok (.dict ps) =>
    rw [hf] at p
    cases hz : asFz (.dict ps) with
    | none => simp only [itF, hz] at p; exact p.elim
    | some ds =>
      simp only [itF, hz] at p
      refine (pi_tup ha).run pn s σ H R I ⟨L, ρ, re, ?_⟩
      rw [hf]
      intro H1 v s1 r
      rw [asFz_eq hz] at r
      have rr := r.fzR
      obtain ⟨b, o, vs, ev, hb, _, rl⟩ := r.fzV
      subst ev
      exact ⟨b, rfl, ⟨vs, SqT.ofF hb⟩, p _ _ H1 s1 itb_fz rr⟩⟩
/-- a list that others may read: its items stay while the frame's own lists change -/
theorem its_lst {K : PySem.W.Frag} {ds : List D} {a : Addr} : ItS K ds (Itl K a) (fun H L => Rp K H L (.list ds) (.ref a)) := by
  have un : ∀ {H : Hp} {L : Ad}, Rp K H L (.list ds) (.ref a) → ∃ vs, H a = some (.lst vs) ∧ RpL K H L ds vs := fun r => by
    cases r with
    | lst h n rl => exact ⟨_, h, rl⟩
  exact ⟨⟨fun i H L q => itb_list.go i H L (un q), fun i H L q => itb_list.stop i H L (un q), fun i H L x H' q => itb_list.yld i H L x H' (un q), fun H L H' L' q sm l => (q.lives l).mono sm⟩, fun H L H' L' q ev => ev _ _ q⟩
theorem its_tup {K : PySem.W.Frag} {ds : List D} {a : Addr} : ItS K ds (Itt K a) (fun H L => Rp K H L (.tuple ds) (.ref a)) := by
  have un : ∀ {H : Hp} {L : Ad}, Rp K H L (.tuple ds) (.ref a) → ∃ vs, H a = some (.tup vs) ∧ RpL K H L ds vs := fun r => by
    cases r with
    | tup h rl => exact ⟨_, h, rl⟩
  exact ⟨⟨fun i H L q => itb_tup.go i H L (un q), fun i H L q => itb_tup.stop i H L (un q), fun i H L x H' q => itb_tup.yld i H L x H' (un q), fun H L H' L' q sm l => (q.lives l).mono sm⟩, fun H L H' L' q ev => ev _ _ q⟩
theorem sis_seq (ha : SE X W e f) : SIS X W tg e (iSeq f) := ⟨fun pn s σ H R I ⟨L, ρ, re, p⟩ => by
  unfold iSeq Rs.items at p
  match hf : f ρ with
  | .bad => rw [hf] at p; exact p.elim
  | .exc c fs =>
    rw [hf] at p
    refine (pi_list ha).run pn s σ H R I ⟨L, ρ, re, ?_⟩
    rw [hf]
    exact p
  | .ok (.list ds) =>
    rw [hf] at p
    refine (pi_list ha).run pn s σ H R I ⟨L, ρ, re, ?_⟩
    rw [hf]
    intro H1 v s1 r
    obtain ⟨b, vs, ev, hb, _⟩ := r.rb.lstV
    subst ev
    exact ⟨b, rfl, ⟨vs, SqL.of hb⟩, p _ _ H1 s1 its_lst r⟩
  | .ok (.tuple ds) =>
    rw [hf] at p
    refine (pi_tup ha).run pn s σ H R I ⟨L, ρ, re, ?_⟩
    rw [hf]
    intro H1 v s1 r
    obtain ⟨b, vs, ev, hb, _⟩ := r.tupV
    subst ev
    exact ⟨b, rfl, ⟨vs, SqT.of hb⟩, p _ _ H1 s1 its_tup r⟩
  | .ok (.str z) =>
    rw [hf] at p
    refine (pi_str ha).run pn s σ H R I ⟨L, ρ, re, ?_⟩
    rw [hf]
    exact fun H1 v s1 r => ⟨z, r.strV, p _ _ H1 s1 ⟨itb_str, fun _ _ _ _ _ _ => trivial⟩ trivial⟩
  | .ok .none => rw [hf] at p; exact p.elim
  | .ok (.bool _) => rw [hf] at p; exact p.elim
  | .ok (.int _) => rw [hf] at p; exact p.elim
  | .ok (.dict ps) =>
    rw [hf] at p
    cases hz : asFz (.dict ps) with
    | none => simp only [itF, hz] at p; exact p.elim
    | some ds =>
      simp only [itF, hz] at p
      refine (pi_tup ha).run pn s σ H R I ⟨L, ρ, re, ?_⟩
      rw [hf]
      intro H1 v s1 r
      rw [asFz_eq hz] at r
      obtain ⟨b, o, vs, ev, hb, _, _⟩ := r.rb.fzV
      subst ev
      exact ⟨b, rfl, ⟨vs, SqT.ofF hb⟩, p _ _ H1 s1 ⟨itb_fz, fun H L H' L' q ev => ev _ _ q⟩ r⟩⟩
/-! range -/
def rangeD (lo : Int) (n : Nat) : List D := (List.range n).map fun (i : Nat) => PyData.int (lo + (i : Int))
def smallI (i : Int) : Bool := decide (-(2 ^ 62) ≤ i) && decide (i < 2 ^ 62)
def rng1 : List D → Option (List D)
  | [.int j] => if smallI j = true then some (rangeD 0 j.toNat) else none
  | _ => none
def rng2 : List D → Option (List D)
  | [.int i, .int j] => if (smallI i && smallI j) = true then some (rangeD i (j - i).toNat) else none
  | _ => none
def RL.items (r : RL) (fn : List D → Option (List D)) : RL := match r with
  | .ok d => (match fn d with
    | some ds => .ok ds
    | none => .bad)
  | .exc c fs => .exc c fs
  | .bad => .bad
def iRange1 (fs : List EF) : IF := fun ρ => (evA fs ρ).items rng1
def iRange2 (fs : List EF) : IF := fun ρ => (evA fs ρ).items rng2
theorem its_range {K : PySem.W.Frag} {lo : Int} {n : Nat} : ItS K (rangeD lo n) (Itr lo n) (fun _ _ => True) where
  go := fun i H L _ hi => show i < n by simpa [rangeD] using hi
  stop := fun i H L _ hi => show n ≤ i by simpa [rangeD] using hi
  yld := fun i H L x H' _ ⟨e, e2⟩ => by
    subst e e2
    refine ⟨Same.refl _, fun d hd => ?_⟩
    unfold rangeD at hd
    rw [List.getElem?_map] at hd
    by_cases hi : i < n
    · rw [List.getElem?_range hi] at hd
      cases hd
      exact .int _
    · rw [List.getElem?_eq_none (by simpa using hi)] at hd
      cases hd
  keep := fun H L H' L' _ s l => trivial
  evo := fun H L H' L' _ ev => trivial
theorem rng1_eq {ds es : List D} (h : rng1 ds = some es) : ∃ j : Int, ds = [.int j] ∧ -(2 ^ 62) ≤ j ∧ j < 2 ^ 62 ∧ es = rangeD 0 j.toNat := by
  unfold rng1 at h
  split at h
  · split at h
    · cases h
      rename_i hz
      simp only [smallI, Bool.and_eq_true, decide_eq_true_eq] at hz
      exact ⟨_, rfl, hz.1, hz.2, rfl⟩
    · cases h
  · cases h
theorem tI_range1 {K : PySem.W.Frag} {fs : List EF} : ∀ σ H R, tI K W (iRange1 fs) σ H R → iRng1 (tBA K W fs) σ H R := fun σ H R ⟨L, ρ, re, p⟩ => by
  refine ⟨L, ρ, re, ?_⟩
  unfold iRange1 RL.items at p
  cases hf : evA fs ρ with
  | bad => rw [hf] at p; exact p
  | exc c fs => rw [hf] at p; exact p
  | ok ds =>
    rw [hf] at p
    intro H1 vs s1 r
    cases hq : rng1 ds with
    | none => simp only [hq] at p; exact p.elim
    | some es =>
      simp only [hq] at p
      obtain ⟨j, rfl, h1, h2, rfl⟩ := rng1_eq hq
      obtain ⟨v, rfl, rv⟩ := r.one
      obtain rfl := rv.intV
      exact ⟨_, rfl, h1, h2, p _ _ H1 s1 its_range.toItB trivial⟩
theorem tIS_range1 {K : PySem.W.Frag} {fs : List EF} : ∀ σ H R, tIS K W (iRange1 fs) σ H R → iRng1 (tBA K W fs) σ H R := fun σ H R ⟨L, ρ, re, p⟩ => by
  refine ⟨L, ρ, re, ?_⟩
  unfold iRange1 RL.items at p
  cases hf : evA fs ρ with
  | bad => rw [hf] at p; exact p
  | exc c fs => rw [hf] at p; exact p
  | ok ds =>
    rw [hf] at p
    intro H1 vs s1 r
    cases hq : rng1 ds with
    | none => simp only [hq] at p; exact p.elim
    | some es =>
      simp only [hq] at p
      obtain ⟨j, rfl, h1, h2, rfl⟩ := rng1_eq hq
      obtain ⟨v, rfl, rv⟩ := r.one
      obtain rfl := rv.intV
      exact ⟨_, rfl, h1, h2, p _ _ H1 s1 its_range trivial⟩
theorem si_range1 {f : EF} (hm : X.mg "range" = none) (ha : SBA X W [a] [f]) (hg : Gl X "range" := by rfl) (hs : starEach [a] X.env = [(false, eval a X.env)] := by rfl) : SI X W tg (.Call (.Name "range" p) [a] [] pos) (iRange1 [f]) := (pi_range1 hg hm ha hs).weak tI_range1
theorem sis_range1 {f : EF} (hm : X.mg "range" = none) (ha : SBA X W [a] [f]) (hg : Gl X "range" := by rfl) (hs : starEach [a] X.env = [(false, eval a X.env)] := by rfl) : SIS X W tg (.Call (.Name "range" p) [a] [] pos) (iRange1 [f]) := (pi_range1 hg hm ha hs).weak tIS_range1
end

/-! ### targets -/
inductive Tg where
  | nm (i : Nat)
  | tp (ts : List Tg)
mutual
def gT (K : PySem.W.Frag) : Tg → TG
  | .nm i => gName i
  | .tp ts => gTup K ts.length (gTs K ts)
def gTs (K : PySem.W.Frag) : List Tg → TGs
  | [] => gNil
  | t :: ts => gCons (gT K t) (gTs K ts)
end
mutual
def bindT : Tg → D → En → Option En
  | .nm i, d, ρ => some (ρ.set i (some (.val d)))
  | .tp ts, .tuple ds, ρ => bindTs ts ds ρ
  | .tp _, _, _ => none
def bindTs : List Tg → List D → En → Option En
  | [], [], ρ => some ρ
  | t :: ts, d :: ds, ρ => (bindT t d ρ).bind fun ρ => bindTs ts ds ρ
  | _, _, _ => none
end
mutual
def slotsT : Tg → List Nat
  | .nm i => [i]
  | .tp ts => slotsTs ts
def slotsTs : List Tg → List Nat
  | [] => []
  | t :: ts => slotsT t ++ slotsTs ts
end
theorem RE.set {K : PySem.W.Frag} {H : Hp} {L : Ad} {ρ : En} {σ : St} {i : Nat} {d : D} {v : V} (re : RE K H L ρ σ) (r : Rp K H L d v) : RE K H L (ρ.set i (some (.val d))) (σ.set i (some v)) := by
  have hl := re.len
  refine ⟨re.lv, by simp [hl], fun j x e => ?_⟩
  by_cases hj : i = j
  · subst hj
    by_cases hi : i < ρ.length
    · rw [List.getElem?_set_self hi] at e
      cases e
      exact ⟨_, List.getElem?_set_self (by rw [← hl]; exact hi), v, rfl, r⟩
    · rw [List.getElem?_eq_none (by simpa using hi)] at e
      cases e
  · rw [List.getElem?_set_ne hj] at e
    obtain ⟨o, e1, q⟩ := re.sl j x e
    exact ⟨o, by rw [List.getElem?_set_ne hj]; exact e1, q⟩
/-- the slots that change, and only they -/
structure Ch (is : List Nat) (ρ ρ1 : En) (σ σ1 : St) : Prop where
  lr : ρ1.length = ρ.length
  ls : σ1.length = σ.length
  r : ∀ j, j ∉ is → ρ1[j]? = ρ[j]?
  s : ∀ j, j ∉ is → σ1[j]? = σ[j]?
  v : ∀ j, j ∈ is → ∀ d, ρ1[j]? ≠ some (some (.own d))
  g : ∀ j, j ∈ is → ∀ rows, ρ1[j]? ≠ some (some (.grid rows))
  p : ∀ j, j ∈ is → ∀ d, ρ1[j]? ≠ some (some (.ownP d))
mutual
theorem gT_of {K : PySem.W.Frag} {H : Hp} {L : Ad} : ∀ {t : Tg} {d : D} {v : V} {ρ ρ1 : En} {σ : St} {Q : St → Hp → Prop}, RE K H L ρ σ → Rp K H L d v → bindT t d ρ = some ρ1 →
    (∀ σ1, RE K H L ρ1 σ1 → Ch (slotsT t) ρ ρ1 σ σ1 → Q σ1 H) → gT K t v σ H Q
  | .nm i, d, v, ρ, ρ1, σ, Q, re, r, hb, k => by
    simp only [bindT, Option.some.injEq] at hb
    subst hb
    refine k _ (re.set r) ⟨by simp, by simp, fun j hj => ?_, fun j hj => ?_, fun j hj d' z => ?_, fun j hj d' z => ?_, fun j hj d' z => ?_⟩
    · exact List.getElem?_set_ne (fun e => hj (by simp [slotsT, e]))
    · exact List.getElem?_set_ne (fun e => hj (by simp [slotsT, e]))
    all_goals
      have e : j = i := by simpa [slotsT] using hj
      subst e
      by_cases hi : j < ρ.length
      · rw [List.getElem?_set_self hi] at z
        cases z
      · rw [List.getElem?_eq_none (by simpa using hi)] at z
        cases z
  | .tp ts, .tuple ds, v, ρ, ρ1, σ, Q, re, r, hb, k => by
    obtain ⟨a, vs, rfl, ha, rl⟩ := r.tupV
    simp only [bindT] at hb
    obtain ⟨e1, q⟩ := gTs_of (Q := Q) re rl hb k
    exact ⟨a, vs, rfl, SqT.of ha, e1, q⟩
  | .tp ts, .none, v, ρ, ρ1, σ, Q, re, r, hb, k => by simp [bindT] at hb
  | .tp ts, .bool _, v, ρ, ρ1, σ, Q, re, r, hb, k => by simp [bindT] at hb
  | .tp ts, .int _, v, ρ, ρ1, σ, Q, re, r, hb, k => by simp [bindT] at hb
  | .tp ts, .str _, v, ρ, ρ1, σ, Q, re, r, hb, k => by simp [bindT] at hb
  | .tp ts, .list _, v, ρ, ρ1, σ, Q, re, r, hb, k => by simp [bindT] at hb
  | .tp ts, .dict _, v, ρ, ρ1, σ, Q, re, r, hb, k => by simp [bindT] at hb
theorem gTs_of {K : PySem.W.Frag} {H : Hp} {L : Ad} : ∀ {ts : List Tg} {ds : List D} {vs : List V} {ρ ρ1 : En} {σ : St} {Q : St → Hp → Prop}, RE K H L ρ σ → RpL K H L ds vs → bindTs ts ds ρ = some ρ1 →
    (∀ σ1, RE K H L ρ1 σ1 → Ch (slotsTs ts) ρ ρ1 σ σ1 → Q σ1 H) → vs.length = ts.length ∧ gTs K ts vs σ H Q
  | [], [], vs, ρ, ρ1, σ, Q, re, r, hb, k => by
    cases r
    simp only [bindTs, Option.some.injEq] at hb
    subst hb
    exact ⟨rfl, rfl, k σ re ⟨rfl, rfl, fun _ _ => rfl, fun _ _ => rfl, fun j hj => by simp [slotsTs] at hj, fun j hj => by simp [slotsTs] at hj, fun j hj => by simp [slotsTs] at hj⟩⟩
  | t :: ts, d :: ds, vs, ρ, ρ1, σ, Q, re, r, hb, k => by
    cases r with
    | cons r1 rl =>
      rename_i v vs
      simp only [bindTs] at hb
      obtain ⟨ρ2, e2, hb⟩ := Option.bind_eq_some_iff.mp hb
      have hlen : vs.length = ts.length := by
        have aux : ∀ (ts : List Tg) (ds : List D) (ρ ρ1 : En), bindTs ts ds ρ = some ρ1 → ds.length = ts.length := by
          intro ts
          induction ts with
          | nil => intro ds ρ ρ1 h; cases ds with
            | nil => rfl
            | cons _ _ => simp [bindTs] at h
          | cons t ts ih =>
            intro ds ρ ρ1 h
            cases ds with
            | nil => simp [bindTs] at h
            | cons d ds =>
              simp only [bindTs] at h
              obtain ⟨ρ2, _, h⟩ := Option.bind_eq_some_iff.mp h
              simp [ih ds ρ2 ρ1 h]
        rw [← rl.length]
        exact aux ts ds ρ2 ρ1 hb
      refine ⟨by simp [hlen], v, vs, rfl, gT_of re r1 e2 fun σ1 re1 c1 => ?_⟩
      refine (gTs_of re1 rl hb fun σ2 re2 c2 => k σ2 re2 ?_).2
      refine ⟨c2.lr.trans c1.lr, c2.ls.trans c1.ls, fun j hj => ?_, fun j hj => ?_, fun j hj d' => ?_, fun j hj d' => ?_, fun j hj d' => ?_⟩
      · rw [slotsTs, List.mem_append, not_or] at hj
        rw [c2.r j hj.2, c1.r j hj.1]
      · rw [slotsTs, List.mem_append, not_or] at hj
        rw [c2.s j hj.2, c1.s j hj.1]
      · by_cases h2 : j ∈ slotsTs ts
        · exact c2.v j h2 d'
        · rw [c2.r j h2]
          rw [slotsTs, List.mem_append] at hj
          exact c1.v j (hj.resolve_right h2) d'
      · by_cases h2 : j ∈ slotsTs ts
        · exact c2.g j h2 d'
        · rw [c2.r j h2]
          rw [slotsTs, List.mem_append] at hj
          exact c1.g j (hj.resolve_right h2) d'
      · by_cases h2 : j ∈ slotsTs ts
        · exact c2.p j h2 d'
        · rw [c2.r j h2]
          rw [slotsTs, List.mem_append] at hj
          exact c1.p j (hj.resolve_right h2) d'
  | [], d :: ds, vs, ρ, ρ1, σ, Q, re, r, hb, k => by simp [bindTs] at hb
  | t :: ts, [], vs, ρ, ρ1, σ, Q, re, r, hb, k => by simp [bindTs] at hb
end
end VV

set_option Elab.async false
set_option linter.all false
set_option maxRecDepth 100000
set_option maxHeartbeats 4000000
/-! VVh: comprehensions. -/
namespace VV
open PySem PySem.Spec L2
open PyProof.Rows hiding St

abbrev WF : WX := fun _ _ _ _ => False
def wipeE (ρ : En) : List Nat → En
  | [] => ρ
  | v :: vs => (wipeE ρ vs).set v none
theorem wipeE_length (ρ : En) : ∀ vs : List Nat, (wipeE ρ vs).length = ρ.length
  | [] => rfl
  | v :: vs => by unfold wipeE; rw [List.length_set, wipeE_length ρ vs]
theorem wipeE_get (ρ : En) (i : Nat) : ∀ vs : List Nat, i ∉ vs → (wipeE ρ vs)[i]? = ρ[i]?
  | [], _ => rfl
  | v :: vs, hn => by
    have hv : v ≠ i := fun z => hn (z ▸ List.mem_cons_self ..)
    show ((wipeE ρ vs).set v none)[i]? = _
    rw [List.getElem?_set_ne hv, wipeE_get ρ i vs fun z => hn (List.mem_cons_of_mem _ z)]
theorem wipeE_gone (ρ : En) (i : Nat) (x : Sl) : ∀ vs : List Nat, i ∈ vs → (wipeE ρ vs)[i]? ≠ some (some x)
  | v :: vs, hm, he => by
    have he' : ((wipeE ρ vs).set v none)[i]? = some (some x) := he
    rw [List.getElem?_set] at he'
    split at he'
    · split at he' <;> cases he'
    · rename_i hne
      exact wipeE_gone ρ i x vs ((List.mem_cons.mp hm).resolve_left fun z => hne z.symm) he'
theorem wipeE_some {ρ : En} {i : Nat} {x : Sl} {vs : List Nat} (he : (wipeE ρ vs)[i]? = some (some x)) : ρ[i]? = some (some x) ∧ i ∉ vs := by
  have hn : i ∉ vs := fun z => wipeE_gone ρ i x vs z he
  exact ⟨(wipeE_get ρ i vs hn) ▸ he, hn⟩
theorem wipe_at {σ : St} {i : Nat} : ∀ {vs : List Nat}, i ∉ vs → (wipe σ vs)[i]? = σ[i]?
  | [], _ => rfl
  | v :: vs, h => by
    simp only [List.mem_cons, not_or] at h
    unfold wipe
    rw [List.getElem?_set_ne (Ne.symm h.1)]
    exact wipe_at h.2
theorem wipe_in {σ : St} {i : Nat} (hi : i < σ.length) : ∀ {vs : List Nat}, i ∈ vs → (wipe σ vs)[i]? = some none
  | v :: vs, h => by
    unfold wipe
    by_cases e : v = i
    · subst e
      exact List.getElem?_set_self (by rw [wipe_length]; exact hi)
    · rw [List.getElem?_set_ne e]
      exact wipe_in hi ((List.mem_cons.mp h).resolve_left (Ne.symm e))
theorem wipe_eq {σ σ1 : St} {vs : List Nat} (hl : σ1.length = σ.length) (h : ∀ j, j ∉ vs → σ1[j]? = σ[j]?) : wipe σ1 vs = wipe σ vs := by
  apply List.ext_getElem?
  intro i
  by_cases hi : i ∈ vs
  · by_cases hlt : i < σ.length
    · rw [wipe_in hlt hi, wipe_in (by rw [hl]; exact hlt) hi]
    · rw [List.getElem?_eq_none (by rw [wipe_length]; omega), List.getElem?_eq_none (by rw [wipe_length]; omega)]
  · rw [wipe_at hi, wipe_at hi, h i hi]
theorem wipe_twice {σ : St} {vs : List Nat} : wipe (wipe σ vs) vs = wipe σ vs := wipe_eq (wipe_length _ _) fun j hj => wipe_at hj
theorem RE.wipe {K : PySem.W.Frag} {H : Hp} {L : Ad} {ρ : En} {σ : St} (vs : List Nat) (re : RE K H L ρ σ) : RE K H L (wipeE ρ vs) (L2.wipe σ vs) := by
  refine ⟨re.lv, by rw [wipeE_length, wipe_length]; exact re.len, fun i x e => ?_⟩
  obtain ⟨h1, h2⟩ := wipeE_some e
  obtain ⟨o, e1, r⟩ := re.sl i x h1
  exact ⟨o, by rw [wipe_at h2]; exact e1, r⟩
/-- one item -/
def lcOne (t : Tg) (c e : EF) (ρ : En) (d : D) (k : RL) : RL := match bindT t d ρ with
  | none => .bad
  | some ρ1 => match c ρ1 with
    | .ok (.bool true) => (match e ρ1 with
      | .ok y => RL.cons (.ok y) k
      | _ => .bad)
    | .ok (.bool false) => k
    | _ => .bad
def lcGo (t : Tg) (c e : EF) (ρ : En) : List D → RL
  | [] => .ok []
  | d :: ds => lcOne t c e ρ d (lcGo t c e ρ ds)
def eLc (vs : List Nat) (fi : IF) (t : Tg) (c e : EF) : EF := fun ρ => (fi ρ).bind fun ds => (lcGo t c e (wipeE ρ vs) ds).bind lstR
theorem lcOne_ok {t : Tg} {c e : EF} {ρ : En} {d : D} {k : RL} {rs : List D} (h : lcOne t c e ρ d k = .ok rs) :
    ∃ ρ1, bindT t d ρ = some ρ1 ∧ ((c ρ1 = .ok (.bool true) ∧ ∃ y r, e ρ1 = .ok y ∧ k = .ok r ∧ rs = y :: r) ∨ (c ρ1 = .ok (.bool false) ∧ k = .ok rs)) := by
  unfold lcOne at h
  cases hb : bindT t d ρ with
  | none => exact absurd h (by rw [hb]; simp)
  | some ρ1 =>
    rw [hb] at h
    refine ⟨ρ1, rfl, ?_⟩
    cases hc : c ρ1 with
    | bad => simp only [hc] at h; cases h
    | exc c fs => simp only [hc] at h; cases h
    | ok b =>
      simp only [hc] at h
      cases b with
      | bool b =>
        cases b with
        | true =>
          cases he : e ρ1 with
          | bad => simp only [he] at h; cases h
          | exc c fs => simp only [he] at h; cases h
          | ok y =>
            simp only [he] at h
            cases k with
            | bad => cases h
            | exc c fs => cases h
            | ok r => cases h; exact .inl ⟨rfl, y, r, rfl, rfl, rfl⟩
        | false => exact .inr ⟨rfl, h⟩
      | _ => cases h
abbrev STs (X : Cx) (ifs : List Expr) (c : EF) : Prop := PTs X ifs (tT X.K WF c)
section
variable {X : Cx} {W : WX}
theorem sts_nil : STs X [] (eC (.bool true)) := ⟨fun pins s σ H Q I ⟨L, ρ, re, p⟩ => pts_nil.run pins s σ H Q I (p H (Same.refl H))⟩
theorem sts_one {c : Expr} {f : EF} (h : ST X WF c f) : STs X [c] f := pts_one h
/-- the loop of a comprehension: from H1 on, D new -/
theorem lc_loop {K : PySem.W.Frag} {L : Ad} {σ : St} {ρ : En} {H1 : Hp} {J : It} {S : Hp → Ad → Prop} {ds rs : List VV.D} {t : Tg} {c e : EF} {vs : List Nat} {Q : VK} (re : RE K H1 L ρ σ) (it : ItB K ds J S) (hS : S H1 L)
    (hsl : ∀ i ∈ slotsT t, i ∈ vs) (hgo : lcGo t c e (wipeE ρ vs) ds = .ok rs) (hz : rs.length ≤ sizeLine) (hQ : ∀ D H, H1 D = none → Same H1 H → Ow K H (Lp L D) (.list rs) D → Q (.ref D) H) :
    tLc (fun _ _ R => R J H1) (gT K t) (tT K WF c) (tE K WF e) vs σ H1 Q := by
  intro D hD
  let L' : Ad := Lp L D
  have hL' : ∀ a, L' a → L a ∨ H1 a = none := fun a z => z.elim .inl fun q => by subst q; exact .inr hD
  -- what holds between two turns
  let Iv : Nat → Hp → Prop := fun i H => i ≤ ds.length ∧ Same H1 H ∧ ∃ (acc : List V) (racc rest : List VV.D), H D = some (.lst acc) ∧ RpL K H L' racc acc ∧ lcGo t c e (wipeE ρ vs) (ds.drop i) = .ok rest ∧ racc ++ rest = rs
  refine ⟨fun i m H => m = ds.length - i ∧ Iv i H, ⟨ds.length, by simp, Nat.zero_le _, same_upd hD, [], [], rs, upd_same, .nil, hgo, rfl⟩, ?_⟩
  rintro i m H ⟨rfl, hi, s1, acc, racc, rest, hacc, racc', hrest, htot⟩
  have hSn : S H L' := it.keep H1 L H L' hS s1 hL'
  have lv' : LvOk K H L' := ⟨fun a z => z.elim (fun q => re.lv.mono s1 a q) fun q => by subst q; rw [hacc]; simp, re.lv.tb.mono s1⟩
  have reH : RE K H L' ρ σ := by
    have r0 : RE K H L ρ σ := re.mono s1
    refine ⟨lv', r0.len, fun j x q => ?_⟩
    obtain ⟨o, e1, r⟩ := re.sl j x q
    exact ⟨o, e1, (r.lives (L' := L') hL').mono s1⟩
  by_cases hlt : i < ds.length
  · refine .inr ⟨it.go i H L' hSn hlt, Iv (i + 1), fun H' p' => ⟨ds.length - (i + 1), by omega, rfl, p'⟩, fun x H' y => ?_⟩
    obtain ⟨s2, hx⟩ := it.yld i H L' x H' hSn y
    have hdrop : ds.drop i = ds[i] :: ds.drop (i + 1) := List.drop_eq_getElem_cons hlt
    have rx := hx ds[i] (by simp [hlt])
    rw [hdrop] at hrest
    obtain ⟨ρ1, hb, hcase⟩ := lcOne_ok hrest
    refine gT_of ((reH.mono s2).wipe vs) rx hb fun σ1 re1 ch => ?_
    refine ⟨?_, L', ρ1, re1, ?_⟩
    · rw [← wipe_twice (σ := σ)]
      exact wipe_eq ch.ls fun j hj => ch.s j fun q => hj (hsl j q)
    · rcases hcase with ⟨hc, y, r, he, hk, hr⟩ | ⟨hc, hk⟩
      · rw [hc]
        intro H3 s3
        rw [if_pos rfl]
        refine ⟨L', ρ1, re1.mono s3, ?_⟩
        rw [he]
        intro H4 v s4 rv
        have s24 : Same H H4 := s2.trans (s3.trans s4)
        have hD4 : H4 D = some (.lst acc) := s24 _ _ hacc
        have la : acc.length = racc.length := racc'.length.symm
        subst hr
        refine ⟨acc, hD4, ?_, hlt, (s1.trans s24).updN hD hD4 trivial, acc ++ [v], racc ++ [y], r, upd_same, ?_, hk, by rw [← htot]; simp⟩
        · rw [la]
          have := congrArg List.length htot
          simp only [List.length_append, List.length_cons] at this
          omega
        · exact RpL.upd hD4 trivial (.inr rfl) ((racc'.mono s24).append (.cons rv .nil))
      · rw [hc]
        intro H3 s3
        rw [if_neg (by decide)]
        have s23 : Same H H3 := s2.trans s3
        exact ⟨hlt, s1.trans s23, acc, racc, rest, s23 _ _ hacc, racc'.mono s23, hk, htot⟩
  · have e : i = ds.length := by omega
    subst e
    rw [List.drop_length] at hrest
    cases hrest
    rw [List.append_nil] at htot
    subst htot
    exact .inl ⟨it.stop _ H L' hSn (Nat.le_refl _), hQ D H hD s1 (.lst hacc racc')⟩
theorem tLc_of {K : PySem.W.Frag} {fi : IF} {t : Tg} {c e : EF} {vs : List Nat} (hsl : ∀ i ∈ slotsT t, i ∈ vs) : ∀ σ H Q, tN K W (eLc vs fi t c e) σ H Q → tLc (tI K W fi) (gT K t) (tT K WF c) (tE K WF e) vs σ H Q := fun σ H Q ⟨L, ρ, re, p⟩ => by
  refine ⟨L, ρ, re, ?_⟩
  unfold eLc at p
  cases hf : fi ρ with
  | bad => rw [hf] at p; exact p
  | exc c fs => rw [hf] at p; exact p
  | ok ds =>
    rw [hf] at p
    simp only [RL.bind_ok] at p
    cases hg : lcGo t c e (wipeE ρ vs) ds with
    | bad => rw [hg] at p; exact p.elim
    | exc c' fs =>
      have aux : ∀ ds : List D, ∀ c' fs, lcGo t c e (wipeE ρ vs) ds ≠ .exc c' fs := by
        intro ds
        induction ds with
        | nil => intro c' fs h; cases h
        | cons d ds ih =>
          intro c' fs h
          simp only [lcGo] at h
          unfold lcOne at h
          cases hb : bindT t d (wipeE ρ vs) with
          | none => exact absurd h (by rw [hb]; simp)
          | some ρ1 =>
            rw [hb] at h
            cases hc : c ρ1 with
            | bad => simp only [hc] at h; cases h
            | exc c fs => simp only [hc] at h; cases h
            | ok b =>
              simp only [hc] at h
              cases b with
              | bool b =>
                cases b with
                | true =>
                  cases he : e ρ1 with
                  | bad => simp only [he] at h; cases h
                  | exc c fs => simp only [he] at h; cases h
                  | ok y =>
                    simp only [he] at h
                    cases hk : lcGo t c e (wipeE ρ vs) ds with
                    | bad => rw [hk] at h; cases h
                    | exc c' fs' => exact ih _ _ hk
                    | ok r => rw [hk] at h; cases h
                | false => exact ih _ _ h
              | _ => cases h
      exact (aux _ _ _ hg).elim
    | ok rs =>
      rw [hg] at p
      simp only [RL.bind_ok] at p
      unfold lstR at p
      split at p
      · rename_i hz
        intro J S H1 s1 it hS
        exact lc_loop (re.mono s1) it hS hsl hg hz fun D H' hD s' ow => p H' D (s1.trans s') (s1.free hD) ow
      · exact p.elim
theorem sn_lc {elt tg iter : Expr} {ifs : List Expr} {scope : Scope} {own : List (Str × Nat)} {pos : Pos} {fi : IF} {t : Tg} {c e : EF} (hN : X.N.Nodup) (hi : SI X W tg iter fi) (ok : BlkOk X.N X.env.scope scope own)
    (hg : ∀ (s : Shared) (H : Hp) (C : Addr) (cl : List (Str × Addr)) (fp : List Addr), PG (X.blk s H scope (compEnvC scope cl C X.env) fp) tg (gT X.K t)) (ht : ∀ (s : Shared) (H : Hp) (C : Addr) (cl : List (Str × Addr)) (fp : List Addr), STs (X.blk s H scope (compEnvC scope cl C X.env) fp) ifs c)
    (he : ∀ (s : Shared) (H : Hp) (C : Addr) (cl : List (Str × Addr)) (fp : List Addr), SE (X.blk s H scope (compEnvC scope cl C X.env) fp) WF elt e) (hsl : ∀ i ∈ slotsT t, i ∈ own.map (·.2) := by decide) (hc : X.calm = true := by rfl) (hs : ∀ x, foldedSetIterable iter X.env x = pure x := by intro _; rfl) :
    SN X W (.ListComp elt [⟨tg, iter, ifs, 0⟩] scope pos) (eLc (own.map (·.2)) fi t c e) := (pe_lc hc hN hi ok hg ht he hs).weak (tLc_of hsl)
end
end VV

set_option Elab.async false
set_option linter.all false
set_option maxRecDepth 100000
set_option maxHeartbeats 4000000
/-! VVi: statements. -/
namespace VV
open PySem PySem.Spec L2
open PyProof.Rows hiding St

/-! ### the frame: its slots, the lists and dicts that it alone holds (α: slot to address); H0, Lo: the heap at the entry and what others hold -/
def Lv (Lo : Ad) (α : Nat → Option Addr) : Ad := fun a => Lo a ∨ ∃ i, α i = some a
/-- where α keeps the address of a row of the grid of a slot -/
def vix (i k : Nat) : Nat := (k + 1) * 1000 + i
theorem vix_inj {i i' k k' : Nat} (h : i < 1000) (h' : i' < 1000) (e : vix i k = vix i' k') : i = i' ∧ k = k' := by
  unfold vix at e
  omega
theorem vix_ge (i k : Nat) : 1000 ≤ vix i k := by
  unfold vix
  omega
/-- what a parameter holds that is the caller's: its address is the one of Lo's that H0 lacks -/
structure Pr (K : PySem.W.Frag) (H0 H : Hp) (Lo L : Ad) (ρ : En) (σ : St) : Prop where
  par : ∀ (i : Nat) (d : D), ρ[i]? = some (some (.ownP d)) → ∃ a, Lo a ∧ H0 a = none ∧ σ[i]? = some (some (.ref a)) ∧ Ow K H L d a
  one : ∀ (i j : Nat) (d e : D), ρ[i]? = some (some (.ownP d)) → ρ[j]? = some (some (.ownP e)) → i = j
theorem Pr.of {K : PySem.W.Frag} {H0 H H1 : Hp} {Lo L L1 : Ad} {ρ ρ1 : En} {σ σ1 : St} (h : Pr K H0 H Lo L ρ σ) (k : ∀ (j : Nat) (d : D), ρ1[j]? = some (some (.ownP d)) → ρ[j]? = some (some (.ownP d)) ∧ σ1[j]? = σ[j]?)
    (t : ∀ (d : D) (a : Addr), Lo a → Ow K H L d a → Ow K H1 L1 d a) : Pr K H0 H1 Lo L1 ρ1 σ1 :=
  ⟨fun i d e => by
    obtain ⟨e1, e2⟩ := k i d e
    obtain ⟨a, p1, p2, p3, p4⟩ := h.par i d e1
    exact ⟨a, p1, p2, e2.trans p3, t d a p1 p4⟩, fun i j d e e1 e2 => h.one i j d e (k i d e1).1 (k j e e2).1⟩
theorem Pr.set {K : PySem.W.Frag} {H0 H H1 : Hp} {Lo L L1 : Ad} {ρ : En} {σ : St} {i : Nat} {x : Option Sl} (h : Pr K H0 H Lo L ρ σ) (n : ∀ d : D, x ≠ some (.ownP d)) (t : ∀ (d : D) (a : Addr), Lo a → Ow K H L d a → Ow K H1 L1 d a) : Pr K H0 H1 Lo L1 (ρ.set i x) σ :=
  h.of (fun j d e => ⟨by
    by_cases hj : i = j
    · subst hj
      by_cases hi : i < ρ.length
      · rw [List.getElem?_set_self hi] at e
        exact absurd (Option.some.inj e) (n d)
      · rw [List.getElem?_eq_none (by simpa using hi)] at e
        cases e
    · rwa [List.getElem?_set_ne hj] at e, rfl⟩) t
theorem Pr.set2 {K : PySem.W.Frag} {H0 H H1 : Hp} {Lo L L1 : Ad} {ρ : En} {σ : St} {i : Nat} {x : Option Sl} {o : Option V} (h : Pr K H0 H Lo L ρ σ) (n : ∀ d : D, x ≠ some (.ownP d)) (t : ∀ (d : D) (a : Addr), Lo a → Ow K H L d a → Ow K H1 L1 d a) : Pr K H0 H1 Lo L1 (ρ.set i x) (σ.set i o) :=
  h.of (fun j d e => by
    by_cases hj : i = j
    · subst hj
      by_cases hi : i < ρ.length
      · rw [List.getElem?_set_self hi] at e
        exact absurd (Option.some.inj e) (n d)
      · rw [List.getElem?_eq_none (by simpa using hi)] at e
        cases e
    · rw [List.getElem?_set_ne hj] at e
      exact ⟨e, List.getElem?_set_ne hj⟩) t
structure RSt (K : PySem.W.Frag) (H0 : Hp) (Lo : Ad) (ρ : En) (α : Nat → Option Addr) (σ : St) (H : Hp) : Prop where
  re : RE K H (Lv Lo α) ρ σ
  same : Same H0 H
  lo : ∀ a b, Lo a → Lo b → H0 a = none → H0 b = none → a = b
  new : ∀ i a, α i = some a → H0 a = none
  inj : ∀ i j a, α i = some a → α j = some a → i = j
  own : ∀ i d, ρ[i]? = some (some (.own d)) → ∃ a, α i = some a ∧ σ[i]? = some (some (.ref a)) ∧ Ow K H (Lv Lo α) d a
  sm : ρ.length ≤ 1000
  grd : ∀ i rows, ρ[i]? = some (some (.grid rows)) → ∃ a bs, α i = some a ∧ σ[i]? = some (some (.ref a)) ∧ (∀ k b, bs[k]? = some b → α (vix i k) = some b) ∧ Og K H (Lv Lo α) rows a bs
  nl : ∀ i a, α i = some a → ¬ Lo a
  pr : Pr K H0 H Lo (Lv Lo α) ρ σ
def Evo (K : PySem.W.Frag) (Lo : Ad) (H : Hp) (α : Nat → Option Addr) (H' : Hp) (α' : Nat → Option Addr) : Prop := ∀ d v, Rp K H (Lv Lo α) d v → Rp K H' (Lv Lo α') d v
theorem Evo.refl {K : PySem.W.Frag} {Lo : Ad} {H : Hp} {α : Nat → Option Addr} : Evo K Lo H α H α := fun _ _ h => h
theorem Evo.trans {K : PySem.W.Frag} {Lo : Ad} {H H1 H2 : Hp} {α α1 α2 : Nat → Option Addr} (a : Evo K Lo H α H1 α1) (b : Evo K Lo H1 α1 H2 α2) : Evo K Lo H α H2 α2 := fun d v h => b d v (a d v h)
theorem Evo.of_same {K : PySem.W.Frag} {Lo : Ad} {H H' : Hp} {α : Nat → Option Addr} (s : Same H H') : Evo K Lo H α H' α := fun d v h => h.mono s
def rms (α : Nat → Option Addr) (is : List Nat) : Nat → Option Addr := fun j => if j ∈ is ∧ j < 1000 then none else α j
section
variable {K : PySem.W.Frag} {H0 H H' : Hp} {Lo : Ad} {ρ ρ1 : En} {α : Nat → Option Addr} {σ σ1 : St}
theorem rms_some {is : List Nat} {j : Nat} {a : Addr} (h : rms α is j = some a) : α j = some a ∧ ¬ (j ∈ is ∧ j < 1000) := by
  unfold rms at h
  split at h
  · cases h
  · exact ⟨h, by assumption⟩
theorem Lv_rms {is : List Nat} (a : Addr) (h : Lv Lo (rms α is) a) : Lv Lo α a := h.elim .inl fun ⟨i, e⟩ => .inr ⟨i, (rms_some e).1⟩
theorem RSt.mono (h : RSt K H0 Lo ρ α σ H) (s : Same H H') : RSt K H0 Lo ρ α σ H' :=
  ⟨h.re.mono s, h.same.trans s, h.lo, h.new, h.inj, fun i d e => let ⟨a, e1, e2, o⟩ := h.own i d e; ⟨a, e1, e2, o.mono s⟩, h.sm, fun i rows e => let ⟨a, bs, e1, e2, e3, o⟩ := h.grd i rows e; ⟨a, bs, e1, e2, e3, o.mono s⟩, h.nl, h.pr.of (fun _ _ e => ⟨e, rfl⟩) fun _ _ _ o => o.mono s⟩
theorem rms_far {is : List Nat} {i k : Nat} : rms α is (vix i k) = α (vix i k) := by
  unfold rms
  rw [if_neg (fun z => absurd z.2 (Nat.not_lt.mpr (vix_ge i k)))]
theorem rms_off {is : List Nat} {i : Nat} (h : i ∉ is) : rms α is i = α i := by
  unfold rms
  rw [if_neg fun z => h z.1]
theorem Evo.rms (is : List Nat) : Evo K Lo H α H (rms α is) := fun d v h => h.lives fun a z => .inl (Lv_rms a z)
/-- slots take values -/
theorem RSt.ch {is : List Nat} (h : RSt K H0 Lo ρ α σ H) (re : RE K H (Lv Lo α) ρ1 σ1) (c : Ch is ρ ρ1 σ σ1) : RSt K H0 Lo ρ1 (VV.rms α is) σ1 H := by
  refine ⟨re.lives (fun a z => .inl (Lv_rms a z)) ⟨fun a z => h.re.lv a (Lv_rms a z), h.re.lv.tb⟩, h.same, h.lo, fun i a e => h.new i a (rms_some e).1, fun i j a e1 e2 => h.inj i j a (rms_some e1).1 (rms_some e2).1, fun i d e => ?_, by rw [c.lr]; exact h.sm, fun i rows e => ?_, fun i a e => h.nl i a (rms_some e).1, h.pr.of (fun j d e => ?_) fun _ _ _ o => o.lives fun a z => .inl (Lv_rms a z)⟩
  · by_cases hi : i ∈ is
    · exact (c.v i hi d e).elim
    · rw [c.r i hi] at e
      obtain ⟨a, e1, e2, o⟩ := h.own i d e
      exact ⟨a, (rms_off hi).trans e1, by rw [c.s i hi]; exact e2, o.lives fun a z => .inl (Lv_rms a z)⟩
  · by_cases hi : i ∈ is
    · exact (c.g i hi rows e).elim
    · rw [c.r i hi] at e
      obtain ⟨a, bs, e1, e2, e3, o⟩ := h.grd i rows e
      exact ⟨a, bs, (rms_off hi).trans e1, by rw [c.s i hi]; exact e2, fun k b q => rms_far.trans (e3 k b q), o.lives fun a z => .inl (Lv_rms a z)⟩
  · by_cases hi : j ∈ is
    · exact (c.p j hi d e).elim
    · rw [c.r j hi] at e
      exact ⟨e, c.s j hi⟩
theorem RSt.set {i : Nat} {d : D} {v : V} (h : RSt K H0 Lo ρ α σ H) (r : Rp K H (Lv Lo α) d v) : RSt K H0 Lo (ρ.set i (some (.val d))) (VV.rms α [i]) (σ.set i (some v)) H := by
  refine h.ch (h.re.set r) ⟨by simp, by simp, fun j hj => ?_, fun j hj => ?_, fun j hj d' z => ?_, fun j hj d' z => ?_, fun j hj d' z => ?_⟩
  · exact List.getElem?_set_ne (fun e => hj (by simp [e]))
  · exact List.getElem?_set_ne (fun e => hj (by simp [e]))
  all_goals
    have e : j = i := by simpa using hj
    subst e
    by_cases hi : j < ρ.length
    · rw [List.getElem?_set_self hi] at z
      cases z
    · rw [List.getElem?_eq_none (by simpa using hi)] at z
      cases z
/-- a slot takes a new list or dict -/
theorem RSt.setOwn {i : Nat} {d : D} {a : Addr} {H1 : Hp} (i1 : i < 1000) (h : RSt K H0 Lo ρ α σ H) (s : Same H H1) (n : H a = none) (o : Ow K H1 (Lp (Lv Lo α) a) d a) :
    RSt K H0 Lo (ρ.set i (some (.own d))) (fun j => if j = i then some a else α j) (σ.set i (some (.ref a))) H1 ∧ Evo K Lo H α H1 (fun j => if j = i then some a else α j) := by
  have na : ¬ Lv Lo α a := fun z => h.re.lv a z n
  have hL : ∀ z, Lv Lo (fun j => if j = i then some a else α j) z → Lp (Lv Lo α) a z := fun z q => by
    rcases q with q | ⟨j, q⟩
    · exact .inl (.inl q)
    · dsimp only at q
      split at q
      · cases q; exact .inr rfl
      · exact .inl (.inr ⟨j, q⟩)
  have hL2 : ∀ z, Lv Lo (fun j => if j = i then some a else α j) z → Lv Lo α z ∨ H z = none := fun z q => (hL z q).elim .inl fun e => by subst e; exact .inr n
  have ev : Evo K Lo H α H1 (fun j => if j = i then some a else α j) := fun d v r => (r.lives hL2).mono s
  have o' : Ow K H1 (Lv Lo (fun j => if j = i then some a else α j)) d a := o.lives fun z q => .inl (hL z q)
  have nn : H1 a ≠ none := by obtain ⟨ob, e, _⟩ := o.chg; rw [e]; simp
  refine ⟨⟨⟨⟨fun z q => ?_, h.re.lv.tb.mono s⟩, by simp [h.re.len], fun j x e => ?_⟩, h.same.trans s, h.lo, fun j z e => ?_, fun j l z e1 e2 => ?_, fun j d' e => ?_, by simpa using h.sm, fun j rows e => ?_, fun j z e => ?_, h.pr.set2 (by intro _ z; cases z) fun _ _ _ o => (o.lives hL2).mono s⟩, ev⟩
  · rcases hL z q with q | e
    · exact h.re.lv.mono s z q
    · subst e; exact nn
  · by_cases hj : i = j
    · subst hj
      by_cases hi : i < ρ.length
      · rw [List.getElem?_set_self hi] at e
        cases e
        exact ⟨_, List.getElem?_set_self (by rw [← h.re.len]; exact hi), a, rfl, o'⟩
      · rw [List.getElem?_eq_none (by simpa using hi)] at e
        cases e
    · rw [List.getElem?_set_ne hj] at e
      obtain ⟨ob, e1, r⟩ := h.re.sl j x e
      exact ⟨ob, by rw [List.getElem?_set_ne hj]; exact e1, (r.lives hL2).mono s⟩
  · split at e
    · cases e; exact h.same.free n
    · exact h.new j z e
  · split at e1
    · cases e1
      split at e2
      · rename_i x y; rw [x, y]
      · exact (na (.inr ⟨l, e2⟩)).elim
    · split at e2
      · cases e2; exact (na (.inr ⟨j, e1⟩)).elim
      · exact h.inj j l z e1 e2
  · by_cases hj : i = j
    · subst hj
      by_cases hi : i < ρ.length
      · rw [List.getElem?_set_self hi] at e
        cases e
        exact ⟨a, by simp, List.getElem?_set_self (by rw [← h.re.len]; exact hi), o'⟩
      · rw [List.getElem?_eq_none (by simpa using hi)] at e
        cases e
    · rw [List.getElem?_set_ne hj] at e
      obtain ⟨b, e1, e2, ob⟩ := h.own j d' e
      refine ⟨b, ?_, by rw [List.getElem?_set_ne hj]; exact e2, (ob.lives hL2).mono s⟩
      rw [if_neg (Ne.symm hj)]
      exact e1
  · by_cases hj : i = j
    · subst hj
      by_cases hi : i < ρ.length
      · rw [List.getElem?_set_self hi] at e
        cases e
      · rw [List.getElem?_eq_none (by simpa using hi)] at e
        cases e
    · rw [List.getElem?_set_ne hj] at e
      obtain ⟨b, bs, e1, e2, e3, og⟩ := h.grd j rows e
      refine ⟨b, bs, ?_, by rw [List.getElem?_set_ne hj]; exact e2, fun k c q => ?_, (og.lives hL2).mono s⟩
      · rw [if_neg (Ne.symm hj)]
        exact e1
      · rw [if_neg (fun z => absurd (vix_ge j k) (by omega))]
        exact e3 k c q
  · split at e
    · cases e; exact fun z => na (.inl z)
    · exact h.nl j z e
/-- what a slot holds is changed -/
theorem RSt.write {i : Nat} {d d' : D} {a : Addr} {o' : HO} (h : RSt K H0 Lo ρ α σ H) (hi : ρ[i]? = some (some (.own d))) (ha : σ[i]? = some (some (.ref a))) (o : Ow K (upd H a o') (Lv Lo α) d' a) :
    RSt K H0 Lo (ρ.set i (some (.own d'))) α σ (upd H a o') ∧ Evo K Lo H α (upd H a o') α := by
  obtain ⟨b, e1, e2, ob⟩ := h.own i d hi
  have eb : b = a := by rw [ha] at e2; cases e2; rfl
  subst eb
  obtain ⟨oo, eo, ch⟩ := ob.chg
  obtain ⟨o2, eo2, nc2⟩ := ob.nc
  have hL : Lv Lo α b := .inr ⟨i, e1⟩
  have hlt : i < ρ.length := by
    rcases Nat.lt_or_ge i ρ.length with q | q
    · exact q
    · rw [List.getElem?_eq_none q] at hi; cases hi
  have far : ∀ (j : Nat) {bs : List Addr}, (∀ k b', bs[k]? = some b' → α (vix j k) = some b') → ∀ b' ∈ bs, b' ≠ b := fun j bs hb b' m z => by
    subst z
    obtain ⟨k, hk⟩ := List.mem_iff_getElem?.mp m
    have q1 := h.inj _ _ _ e1 (hb k b' hk)
    have q2 := vix_ge j k
    have q3 := h.sm
    omega
  refine ⟨⟨⟨⟨fun z q => ?_, h.re.lv.tb.upd eo2 nc2⟩, by simp [h.re.len], fun j x e => ?_⟩, h.same.updN (h.new i b e1) eo2 nc2, h.lo, h.new, h.inj, fun j d2 e => ?_, by simpa using h.sm, fun j rows e => ?_, h.nl, h.pr.set (by intro _ z; cases z) fun _ c lc o => o.upd eo ch hL (fun z => h.nl i b e1 (z ▸ lc))⟩, fun d v r => r.upd eo ch hL⟩
  · by_cases hz : z = b
    · subst hz; rw [upd_same]; simp
    · rw [upd_ne hz]; exact h.re.lv z q
  · by_cases hj : i = j
    · subst hj
      rw [List.getElem?_set_self hlt] at e
      cases e
      exact ⟨_, ha, b, rfl, o⟩
    · rw [List.getElem?_set_ne hj] at e
      obtain ⟨w, f1, r⟩ := h.re.sl j x e
      refine ⟨w, f1, ?_⟩
      cases x with
      | val d3 => obtain ⟨v, g1, g2⟩ := r; exact ⟨v, g1, g2.upd eo ch hL⟩
      | own d3 =>
        obtain ⟨c, g1, g2, g3⟩ := h.own j d3 e
        have nc : c ≠ b := fun z => by subst z; exact hj (h.inj i j c e1 g1)
        rw [f1] at g2
        cases g2
        exact ⟨c, rfl, g3.upd eo ch hL nc⟩
      | grid rows =>
        obtain ⟨c, bs, g1, g2, g3, g4⟩ := h.grd j rows e
        have nc : c ≠ b := fun z => by subst z; exact hj (h.inj i j c e1 g1)
        rw [f1] at g2
        cases g2
        exact ⟨c, bs, rfl, g4.upd eo ch hL nc (far j g3)⟩
      | pin a => exact r
      | ownP d3 =>
        obtain ⟨c, lc, _, g2, g3⟩ := h.pr.par j d3 e
        rw [f1] at g2
        cases g2
        exact ⟨c, rfl, g3.upd eo ch hL (fun z => h.nl i b e1 (z ▸ lc))⟩
  · by_cases hj : i = j
    · subst hj
      rw [List.getElem?_set_self hlt] at e
      cases e
      exact ⟨b, e1, ha, o⟩
    · rw [List.getElem?_set_ne hj] at e
      obtain ⟨c, g1, g2, g3⟩ := h.own j d2 e
      have nc : c ≠ b := fun z => by subst z; exact hj (h.inj i j c e1 g1)
      exact ⟨c, g1, g2, g3.upd eo ch hL nc⟩
  · by_cases hj : i = j
    · subst hj
      rw [List.getElem?_set_self hlt] at e
      cases e
    · rw [List.getElem?_set_ne hj] at e
      obtain ⟨c, bs, g1, g2, g3, g4⟩ := h.grd j rows e
      have nc : c ≠ b := fun z => by subst z; exact hj (h.inj i j c e1 g1)
      exact ⟨c, bs, g1, g2, g3, g4.upd eo ch hL nc (far j g3)⟩
/-- a slot's list is a value from now on -/
theorem RSt.frz {i : Nat} {d : D} (h : RSt K H0 Lo ρ α σ H) (hi : ρ[i]? = some (some (.own d))) : RSt K H0 Lo (ρ.set i (some (.val d))) (VV.rms α [i]) σ H := by
  obtain ⟨a, e1, e2, ob⟩ := h.own i d hi
  have hlt : i < ρ.length := by
    rcases Nat.lt_or_ge i ρ.length with q | q
    · exact q
    · rw [List.getElem?_eq_none q] at hi; cases hi
  have hL : ∀ z, Lv Lo (VV.rms α [i]) z → Lv Lo α z ∨ H z = none := fun z q => .inl (Lv_rms z q)
  have na : ¬ Lv Lo (VV.rms α [i]) a := fun z => by
    rcases z with z | ⟨j, z⟩
    · exact h.nl i a e1 z
    · obtain ⟨z1, z2⟩ := rms_some z
      have ej := h.inj i j a e1 z1
      have := h.sm
      exact z2 ⟨by simp [ej], by omega⟩
  refine ⟨⟨⟨fun z q => h.re.lv z (Lv_rms z q), h.re.lv.tb⟩, by simp [h.re.len], fun j x e => ?_⟩, h.same, h.lo, fun j z e => h.new j z (rms_some e).1, fun j l z f1 f2 => h.inj j l z (rms_some f1).1 (rms_some f2).1, fun j d2 e => ?_, by simpa using h.sm, fun j rows e => ?_, fun j z e => h.nl j z (rms_some e).1, h.pr.set (by intro _ z; cases z) fun _ _ _ o => o.lives hL⟩
  · by_cases hj : i = j
    · subst hj
      rw [List.getElem?_set_self hlt] at e
      cases e
      exact ⟨_, e2, _, rfl, (ob.lives hL).rp na⟩
    · rw [List.getElem?_set_ne hj] at e
      obtain ⟨w, f1, r⟩ := h.re.sl j x e
      exact ⟨w, f1, r.lives hL⟩
  · by_cases hj : i = j
    · subst hj
      rw [List.getElem?_set_self hlt] at e
      cases e
    · rw [List.getElem?_set_ne hj] at e
      obtain ⟨c, g1, g2, g3⟩ := h.own j d2 e
      exact ⟨c, (rms_off (by simp [Ne.symm hj])).trans g1, g2, g3.lives hL⟩
  · by_cases hj : i = j
    · subst hj
      rw [List.getElem?_set_self hlt] at e
      cases e
    · rw [List.getElem?_set_ne hj] at e
      obtain ⟨c, bs, g1, g2, g3, g4⟩ := h.grd j rows e
      exact ⟨c, bs, (rms_off (by simp [Ne.symm hj])).trans g1, g2, fun k b q => rms_far.trans (g3 k b q), g4.lives hL⟩
end
def PostS (K : PySem.W.Frag) (H0 : Hp) (Lo : Ad) (W : WX) (H : Hp) (α : Nat → Option Addr) (o : Out) (D : Ends) : Prop := match o with
  | .nx ρ' => ∀ α' σ' H', RSt K H0 Lo ρ' α' σ' H' → Evo K Lo H α H' α' → D.nx σ' H'
  | .rt d => ∀ H' v, Same H0 H' → Rp K H' Lo d v → D.rt v H'
  | .rn d => ∀ H' a, Same H0 H' → H0 a = none → Ow K H' (Lp Lo a) d a → D.rt (.ref a) H'
  | .rm d ρ' => ∀ α' σ' H' v, RSt K H0 Lo ρ' α' σ' H' → Evo K Lo H α H' α' → Rp K H' (Lv Lo α') d v → D.rt v H'
  | .rq i ρ' => ∀ α' σ' H' b ds, RSt K H0 Lo ρ' α' σ' H' → Evo K Lo H α H' α' → α' i = some b → ρ'[i]? = some (some (.own (.list ds))) → D.rt (.ref b) H'
  | .bk ρ' => ∀ α' σ' H', RSt K H0 Lo ρ' α' σ' H' → Evo K Lo H α H' α' → D.bk σ' H'
  | .ct ρ' => ∀ α' σ' H', RSt K H0 Lo ρ' α' σ' H' → Evo K Lo H α H' α' → D.ct σ' H'
  | .exc c fs ρ' => ∀ α' σ' H' x, RSt K H0 Lo ρ' α' σ' H' → Evo K Lo H α H' α' → XR K H' (Lv Lo α') fs x → W (.ref (He.ga K c)) x σ' H'
  | .bad => False
theorem PostS.evo {K : PySem.W.Frag} {H0 H H' : Hp} {Lo : Ad} {W : WX} {α α' : Nat → Option Addr} {o : Out} {D : Ends} (h : PostS K H0 Lo W H α o D) (e : Evo K Lo H α H' α') : PostS K H0 Lo W H' α' o D := by
  cases o with
  | nx ρ => exact fun a s H2 r e2 => h a s H2 r (e.trans e2)
  | rt d => exact h
  | rn d => exact h
  | rm d ρ => exact fun a s H2 v r e2 => h a s H2 v r (e.trans e2)
  | rq i ρ => exact fun a s H2 b ds r e2 => h a s H2 b ds r (e.trans e2)
  | bk ρ => exact fun a s H2 r e2 => h a s H2 r (e.trans e2)
  | ct ρ => exact fun a s H2 r e2 => h a s H2 r (e.trans e2)
  | exc c fs ρ => exact fun a s H2 x r e2 => h a s H2 x r (e.trans e2)
  | bad => exact h
def tS (K : PySem.W.Frag) (H0 : Hp) (Lo : Ad) (W : WX) (f : SF) : TS := fun D σ H => ∃ ρ α, RSt K H0 Lo ρ α σ H ∧ PostS K H0 Lo W H α (f ρ) D
abbrev SS (X : Cx) (W : WX) (st : Stmt) (f : SF) : Prop := ∀ (H0 : Hp) (Lo : Ad), PS X st (tS X.K H0 Lo W f)
abbrev SSs (X : Cx) (W : WX) (sts : List Stmt) (f : SF) : Prop := ∀ (H0 : Hp) (Lo : Ad), PSs X sts (tS X.K H0 Lo W f)
/-- an expression's result, then a statement's end -/
def Rs.out (r : Rs) (ρ : En) (k : D → Out) : Out := match r with
  | .ok d => k d
  | .exc c fs => .exc c fs ρ
  | .bad => .bad
@[simp] theorem Rs.out_ok (d : D) (ρ : En) (k : D → Out) : (Rs.ok d).out ρ k = k d := rfl
@[simp] theorem Rs.out_exc (c : Str) (fs : List (Str × D)) (ρ : En) (k : D → Out) : (Rs.exc c fs).out ρ k = .exc c fs ρ := rfl
@[simp] theorem Rs.out_bad (ρ : En) (k : D → Out) : Rs.bad.out ρ k = .bad := rfl
section
variable {K : PySem.W.Frag} {H0 H : Hp} {Lo : Ad} {W : WX} {ρ : En} {α : Nat → Option Addr} {σ : St} {r : Rs} {k : D → Out} {D : Ends} {R : VK}
theorem PostS.expr (rst : RSt K H0 Lo ρ α σ H) (h : PostS K H0 Lo W H α (r.out ρ k) D) (hk : ∀ d H1 v, Same H H1 → Rp K H1 (Lv Lo α) d v → RSt K H0 Lo ρ α σ H1 → PostS K H0 Lo W H1 α (k d) D → R v H1) : Post K W (Lv Lo α) σ H r R := by
  cases r with
  | ok d => exact fun H1 v s rv => hk d H1 v s rv (rst.mono s) (PostS.evo h (.of_same s))
  | exc c fs => exact fun H1 x s xr => h α σ H1 x (rst.mono s) (.of_same s) xr
  | bad => exact h
theorem PostS.exprB (rst : RSt K H0 Lo ρ α σ H) (h : PostS K H0 Lo W H α (r.out ρ k) D) (hk : ∀ d H1 v, Same H H1 → Rb K H1 (Lv Lo α) d v → RSt K H0 Lo ρ α σ H1 → PostS K H0 Lo W H1 α (k d) D → R v H1) : PostB K W (Lv Lo α) σ H r R := by
  cases r with
  | ok d => exact fun H1 v s rv => hk d H1 v s rv (rst.mono s) (PostS.evo h (.of_same s))
  | exc c fs => exact fun H1 x s xr => h α σ H1 x (rst.mono s) (.of_same s) xr
  | bad => exact h
theorem PostS.exprN (rst : RSt K H0 Lo ρ α σ H) (h : PostS K H0 Lo W H α (r.out ρ k) D) (hk : ∀ d H1 a, Same H H1 → H a = none → Ow K H1 (Lp (Lv Lo α) a) d a → PostS K H0 Lo W H α (k d) D → R (.ref a) H1) : PostN K W (Lv Lo α) σ H r R := by
  cases r with
  | ok d => exact fun H1 a s n o => hk d H1 a s n o h
  | exc c fs => exact fun H1 x s xr => h α σ H1 x (rst.mono s) (.of_same s) xr
  | bad => exact h
end
section
variable {X : Cx} {W : WX} {st : Stmt} {sts rest body : List Stmt} {f g : SF} {e a b c o : Expr} {ef eg : EF} {pos pos' : Pos} {i : Nat} {x : Str}
theorem _root_.L2.PS.weak {t t' : TS} (h : PS X st t) (hw : ∀ D σ H, t' D σ H → t D σ H) : PS X st t' := ⟨fun pn s σ H D I q => h.run pn s σ H D I (hw D σ H q)⟩
theorem _root_.L2.PSs.weak {t t' : TS} (h : PSs X sts t) (hw : ∀ D σ H, t' D σ H → t D σ H) : PSs X sts t' := ⟨fun pn s σ H D I q => h.run pn s σ H D I (hw D σ H q)⟩
def sNx : SF := fun ρ => .nx ρ
def sSeq (f g : SF) : SF := fun ρ => match f ρ with
  | .nx ρ' => g ρ'
  | o => o
theorem ss_nil : SSs X W [] sNx := fun H0 Lo => pss_nil.weak fun D σ H ⟨ρ, α, rst, p⟩ => p α σ H rst .refl
theorem ss_cons (h1 : SS X W st f) (h2 : SSs X W rest g) : SSs X W (st :: rest) (sSeq f g) := fun H0 Lo => (pss_cons (h1 H0 Lo) (h2 H0 Lo)).weak fun D σ H ⟨ρ, α, rst, p⟩ => by
  refine ⟨ρ, α, rst, ?_⟩
  unfold sSeq at p
  cases hf : f ρ with
  | nx ρ' => rw [hf] at p; exact fun α' σ' H' r ev => ⟨ρ', α', r, p.evo ev⟩
  | rt d => rw [hf] at p; exact p
  | rn d => rw [hf] at p; exact p
  | rm d ρ' => rw [hf] at p; exact p
  | rq i ρ' => rw [hf] at p; exact p
  | bk ρ' => rw [hf] at p; exact p
  | ct ρ' => rw [hf] at p; exact p
  | exc c fs ρ' => rw [hf] at p; exact p
  | bad => rw [hf] at p; exact p
theorem ss_one (h1 : SS X W st f) : SSs X W [st] f := fun H0 Lo => pss_one (h1 H0 Lo)
def sFrz (i : Nat) (f : SF) : SF := fun ρ => match ρ[i]? with
  | some (some (.own d)) => f (ρ.set i (some (.val d)))
  | some (some (.val _)) => f ρ
  | _ => .bad
theorem ss_frz (i : Nat) (h : SSs X W sts f) : SSs X W sts (sFrz i f) := fun H0 Lo => (h H0 Lo).weak fun D σ H ⟨ρ, α, rst, p⟩ => by
  unfold sFrz at p
  cases hi : ρ[i]? with
  | none => simp only [hi] at p; exact p.elim
  | some q =>
    cases q with
    | none => simp only [hi] at p; exact p.elim
    | some q =>
      cases q with
      | own d => simp only [hi] at p; exact ⟨_, _, rst.frz hi, p.evo (Evo.rms [i])⟩
      | grid _ => simp only [hi] at p; exact p.elim
      | pin _ => simp only [hi] at p; exact p.elim
      | ownP _ => simp only [hi] at p; exact p.elim
      | val d => simp only [hi] at p; exact ⟨_, _, rst, p⟩
def sDrop (f : EF) : SF := fun ρ => (f ρ).out ρ fun _ => .nx ρ
theorem ss_drop (he : SE X W e ef) (hs : swapsWith e none pos.line X.env = pure false := by rfl) : SS X W (.Expr e pos) (sDrop ef) := fun H0 Lo => (ps_expr he hs).weak fun D σ H ⟨ρ, α, rst, p⟩ =>
  ⟨_, ρ, rst.re, p.expr rst fun d H1 v s r rst1 p1 => p1 α σ H1 rst1 .refl⟩
def sRet (f : EF) : SF := fun ρ => (f ρ).out ρ fun d => .rt d
theorem ss_ret (he : SE X W e ef) : SS X W (.Return (some e) pos) (sRet ef) := fun H0 Lo => (ps_ret he).weak fun D σ H ⟨ρ, α, rst, p⟩ =>
  ⟨_, ρ, rst.re, p.expr rst fun d H1 v s r rst1 p1 => p1 H1 v rst1.same (r.lives fun z q => .inl (.inl q))⟩
def sRetV (i : Nat) : SF := fun ρ => match ρ[i]? with
  | some (some (.own d)) => .rt d
  | some (some (.val d)) => .rt d
  | _ => .bad
theorem ss_retV (i : Nat) {x : Str} {p : Pos} (hN : X.N[i]? = some x := by rfl) (hv : Vis X.env.scope x := by first | exact Or.inl rfl | exact Or.inr (Or.inl rfl) | exact Or.inr (Or.inr rfl)) (hd : (x == ("__debug__" : Str)) = false := by decide)
    (hcd : (x == ("__classdict__" : Str)) = false := by decide) : SS X W (.Return (some (.Name x p)) pos) (sRetV i) := fun H0 Lo => (ps_ret (pe_var hN hv hd hcd)).weak fun D σ H ⟨ρ, α, rst, p⟩ => by
  unfold sRetV at p
  cases hi : ρ[i]? with
  | none => simp only [hi] at p; exact p.elim
  | some q =>
    cases q with
    | none => simp only [hi] at p; exact p.elim
    | some q =>
      cases q with
      | grid _ => simp only [hi] at p; exact p.elim
      | pin _ => simp only [hi] at p; exact p.elim
      | ownP _ => simp only [hi] at p; exact p.elim
      | own d =>
        simp only [hi] at p
        obtain ⟨a, e1, e2, ob⟩ := rst.own i d hi
        exact ⟨.ref a, e2, p H _ rst.same ((ob.lives fun z q => .inl (.inl q)).rp fun z => rst.nl i a e1 z)⟩
      | val d =>
        simp only [hi] at p
        obtain ⟨w, e1, v, e2, r⟩ := rst.re.sl i _ hi
        subst e2
        exact ⟨v, e1, p H _ rst.same (r.lives fun z q => .inl (.inl q))⟩
def outIf (f g : Out) : D → Out
  | .bool true => f
  | .bool false => g
  | _ => .bad
def sIf (c : EF) (f g : SF) : SF := fun ρ => (c ρ).out ρ (outIf (f ρ) (g ρ))
theorem ss_if {sa sb : List Stmt} (hc : ST X W c ef) (ha : SSs X W sa f) (hb : SSs X W sb g) : SS X W (.If c sa sb pos) (sIf ef f g) := fun H0 Lo => (ps_if hc (ha H0 Lo) (hb H0 Lo)).weak fun D σ H ⟨ρ, α, rst, p⟩ => by
  refine ⟨_, ρ, rst.re, ?_⟩
  unfold sIf at p
  cases hr : ef ρ with
  | bad => rw [hr] at p; exact p
  | exc c fs => rw [hr] at p; exact fun H1 x s xr => p α σ H1 x (rst.mono s) (.of_same s) xr
  | ok d =>
    rw [hr] at p
    cases d with
    | bool k =>
      intro H1 s1
      have p1 := p.evo (.of_same s1)
      cases k with
      | true => rw [if_pos rfl]; exact ⟨ρ, α, rst.mono s1, p1⟩
      | false => rw [if_neg Bool.false_ne_true]; exact ⟨ρ, α, rst.mono s1, p1⟩
    | _ => exact p
/-! assignments -/
def outB (r : Option En) : Out := match r with
  | some ρ => .nx ρ
  | none => .bad
def sAsg (t : Tg) (f : EF) : SF := fun ρ => (f ρ).out ρ fun d => outB (bindT t d ρ)
theorem gT_st {K : PySem.W.Frag} {H0 H : Hp} {Lo : Ad} {t : Tg} {d : D} {v : V} {ρ : En} {α : Nat → Option Addr} {σ : St} {D : Ends} (rst : RSt K H0 Lo ρ α σ H) (r : Rp K H (Lv Lo α) d v) (p : PostS K H0 Lo W H α (outB (bindT t d ρ)) D) : gT K t v σ H D.nx := by
  unfold outB at p
  cases hb : bindT t d ρ with
  | none => rw [hb] at p; exact p.elim
  | some ρ1 => rw [hb] at p; exact gT_of rst.re r hb fun σ1 re1 ch => p _ σ1 H (rst.ch re1 ch) (Evo.rms _)
theorem ss_asg {tg : Expr} {t : Tg} (he : SE X W e ef) (hg : PG X tg (gT X.K t)) (hs : swapsWithSole [tg] e pos.line X.env = pure false := by rfl) (hw : swappedStores [tg] e X.env = pure none := by rfl)
    (h1 : (assignEach [tg] X.env).map (·.2) = [assign tg X.env] := by rfl) : SS X W (.Assign [tg] e pos) (sAsg t ef) := fun H0 Lo => (ps_asg he hg hs hw h1).weak fun D σ H ⟨ρ, α, rst, p⟩ =>
  ⟨_, ρ, rst.re, p.expr rst fun d H1 v s r rst1 p1 => gT_st rst1 r p1⟩
def sSet (i : Nat) (f : EF) : SF := fun ρ => (f ρ).out ρ fun d => .nx (ρ.set i (some (.val d)))
def sOwn (i : Nat) (f : EF) : SF := fun ρ => (f ρ).out ρ fun d => .nx (ρ.set i (some (.own d)))
theorem ss_set (hN : X.N.Nodup) (he : SE X W e ef) (hi : X.N[i]? = some x := by rfl) (hx : Loc X.env.scope x := by first | exact Or.inl rfl | exact Or.inr rfl) (hs : swapsWith e (some (.Name x pos')) pos.line X.env = pure false := by rfl) (hf : X.fn x = true ∨ X.env.scope.names.lookup x = some .local := by first | exact .inl rfl | exact .inr rfl) :
    SS X W (.Assign [.Name x pos'] e pos) (sSet i ef) := fun H0 Lo => (ps_set hN hi hx he hs hf).weak fun D σ H ⟨ρ, α, rst, p⟩ =>
  ⟨_, ρ, rst.re, p.expr rst fun d H1 v s r rst1 p1 => p1 _ _ H1 (rst1.set r) (Evo.rms _)⟩
theorem ss_own (hN : X.N.Nodup) (he : SN X W e ef) (hi : X.N[i]? = some x := by rfl) (hx : Loc X.env.scope x := by first | exact Or.inl rfl | exact Or.inr rfl) (hs : swapsWith e (some (.Name x pos')) pos.line X.env = pure false := by rfl) (hf : X.fn x = true ∨ X.env.scope.names.lookup x = some .local := by first | exact .inl rfl | exact .inr rfl) (i1 : i < 1000 := by decide) :
    SS X W (.Assign [.Name x pos'] e pos) (sOwn i ef) := fun H0 Lo => (ps_set hN hi hx he hs hf).weak fun D σ H ⟨ρ, α, rst, p⟩ =>
  ⟨_, ρ, rst.re, p.exprN rst fun d H1 a s n o p1 => let ⟨q1, q2⟩ := rst.setOwn i1 s n o; p1 _ _ H1 q1 q2⟩
/-- name = [..] on one line, the name a local: a value | a list that the frame holds -/
theorem ss_setLc {elt tg iter : Expr} {ifs : List Expr} {scope : Scope} {own : List (Str × Nat)} {py spos : Pos} {fi : IF} {t : Tg} {cf f : EF} (hN : X.N.Nodup) (hi : SI X W tg iter fi) (ok : BlkOk X.N X.env.scope scope own)
    (hg : ∀ (s : Shared) (H : Hp) (C : Addr) (cl : List (Str × Addr)) (fp : List Addr), PG (X.blk s H scope (compEnvC scope cl C X.env) fp) tg (gT X.K t)) (ht : ∀ (s : Shared) (H : Hp) (C : Addr) (cl : List (Str × Addr)) (fp : List Addr), STs (X.blk s H scope (compEnvC scope cl C X.env) fp) ifs cf)
    (he : ∀ (s : Shared) (H : Hp) (C : Addr) (cl : List (Str × Addr)) (fp : List Addr), SE (X.blk s H scope (compEnvC scope cl C X.env) fp) WF elt f) (hsw : swapsWith (.ListComp elt [⟨tg, iter, ifs, 0⟩] scope pos) (some (.Name x py)) spos.line X.env = pure true)
    (hsl : ∀ i ∈ slotsT t, i ∈ own.map (·.2) := by decide) (hy : X.N[i]? = some x := by rfl) (hyl : X.env.scope.names.lookup x = some .local := by rfl) (hc : X.calm = true := by rfl) (hs : ∀ x, foldedSetIterable iter X.env x = pure x := by intro _; rfl) :
    SS X W (.Assign [.Name x py] (.ListComp elt [⟨tg, iter, ifs, 0⟩] scope pos) spos) (sSet i (eLc (own.map (·.2)) fi t cf f)) := fun H0 Lo => (ps_setLc hc hN hy hyl hsw hi ok hg ht he hs).weak fun D σ H ⟨ρ, α, rst, p⟩ =>
  tLc_of hsl σ H _ ⟨_, ρ, rst.re, p.exprN rst fun d H1 a s n o p1 => (p1.evo (.of_same s)) _ _ H1 ((rst.mono s).set ((o.lives fun z q => .inl (.inl q)).rp fun z => rst.re.lv a z n)) (Evo.rms _)⟩
end
end VV

set_option Elab.async false
set_option linter.all false
set_option maxRecDepth 100000
set_option maxHeartbeats 4000000
/-! VVj: lists changed, loops, raise, and a def's promise. -/
namespace VV
open PySem PySem.Spec L2
open PyProof.Rows hiding St

section
variable {X : Cx} {W : WX} {st : Stmt} {sts rest body : List Stmt} {f g : SF} {e a b c o : Expr} {ef eg : EF} {pos pos' : Pos} {i : Nat} {x : Str}
/-! ### lists that the frame holds -/
def ownL (ρ : En) (i : Nat) (k : List D → Out) : Out := match ρ[i]? with
  | some (some (.own (.list ds))) => k ds
  | _ => .bad
theorem PostS.ownL {K : PySem.W.Frag} {H0 H : Hp} {Lo : Ad} {ρ : En} {α : Nat → Option Addr} {σ : St} {k : List D → Out} {Dn : Ends} (rst : RSt K H0 Lo ρ α σ H) (p : PostS K H0 Lo W H α (VV.ownL ρ i k) Dn) :
    ∃ ds a vs, ρ[i]? = some (some (.own (.list ds))) ∧ σ[i]? = some (some (.ref a)) ∧ H a = some (.lst vs) ∧ RpL K H (Lv Lo α) ds vs ∧ PostS K H0 Lo W H α (k ds) Dn ∧ Lv Lo α a := by
  unfold VV.ownL at p
  cases hi : ρ[i]? with
  | none => simp only [hi] at p; exact p.elim
  | some q =>
    cases q with
    | none => simp only [hi] at p; exact p.elim
    | some q =>
      cases q with
      | val d => simp only [hi] at p; exact p.elim
      | grid _ => simp only [hi] at p; exact p.elim
      | pin _ => simp only [hi] at p; exact p.elim
      | ownP _ => simp only [hi] at p; exact p.elim
      | own d =>
        cases d with
        | list ds =>
          simp only [hi] at p
          obtain ⟨a, e1, e2, ob⟩ := rst.own i _ hi
          cases ob with
          | lst h1 r => exact ⟨ds, a, _, rfl, e2, h1, r, p, .inr ⟨i, e1⟩⟩
        | _ => simp only [hi] at p; exact p.elim
def sApp (i : Nat) (f : EF) : SF := fun ρ => ownL ρ i fun ds => (f ρ).out ρ fun d => if ds.length < sizeLine then .nx (ρ.set i (some (.own (.list (ds ++ [d]))))) else .bad
theorem ss_app (i : Nat) {x : Str} {p apos cpos : Pos} (he : SE X W e ef) (hN : X.N[i]? = some x := by rfl) (hv : Vis X.env.scope x := by first | exact Or.inl rfl | exact Or.inr (Or.inl rfl) | exact Or.inr (Or.inr rfl)) (hd : (x == ("__debug__" : Str)) = false := by decide)
    (hcd : (x == ("__classdict__" : Str)) = false := by decide) (hbase : attributeBase (.Name x p) "append" X.env (eval (.Name x p) X.env) = eval (.Name x p) X.env := by rfl)
    (hfew : ((backTo cpos (starEach (e :: []) X.env)).all (fun x => !x.1) && (backToKw cpos (keywordEach [] X.env)).all (fun x => x.1.isSome) && decide ((e :: []).length + ([] : List Keyword).length + (if ([] : List Keyword).isEmpty then 0 else 1) < 30)) = true := by rfl)
    (hline : (apos.endLine == cpos.line) = true := by rfl) (hs : starEach (e :: []) X.env = (false, eval e X.env) :: starEach [] X.env := by rfl) (hplain : (backTo cpos (starEach [] X.env)).any (·.1) = false := by rfl) :
    SS X W (.Expr (.Call (.Attribute (.Name x p) "append" apos) [e] [] cpos) pos) (sApp i ef) := fun H0 Lo =>
  (ps_expr (pe_bm PySem.F.plainAttrs_list PySem.F.slot_list_append PySem.F.type_list_append mt_append (pe_var hN hv hd hcd) (pa_cons he pa_nil hs) hbase hfew hline hs hplain)).weak fun D σ H ⟨ρ, α, rst, p⟩ => by
  obtain ⟨ds, l, vs, h1, h2, h3, rl, p, hL⟩ := PostS.ownL rst p
  refine ⟨.ref l, h2, .inl ⟨rfl, vs, SqL.of h3⟩, _, ρ, rst.re, p.expr rst fun d H1 v s r rst1 p1 => ?_⟩
  split at p1
  · rename_i hz
    rw [rl.length] at hz
    refine ⟨l, vs, v, rfl, rfl, s _ _ h3, hz, ?_⟩
    have hl3 := s _ _ h3
    obtain ⟨q1, q2⟩ := rst1.write (d' := .list (ds ++ [d])) (o' := .lst (vs ++ [v])) h1 h2 (.lst upd_same (RpL.upd hl3 trivial hL ((rl.mono s).append (.cons r .nil))))
    exact p1 α σ _ q1 q2
  · exact p1.elim
def sExt (i : Nat) (f : EF) : SF := fun ρ => ownL ρ i fun ds => (f ρ).out ρ fun d => match d with
  | .list es => if ds.length + es.length ≤ sizeLine then .nx (ρ.set i (some (.own (.list (ds ++ es))))) else .bad
  | _ => .bad
theorem ss_ext (i : Nat) {x : Str} {p apos cpos : Pos} (he : SB X W e ef) (hN : X.N[i]? = some x := by rfl) (hv : Vis X.env.scope x := by first | exact Or.inl rfl | exact Or.inr (Or.inl rfl) | exact Or.inr (Or.inr rfl)) (hd : (x == ("__debug__" : Str)) = false := by decide)
    (hcd : (x == ("__classdict__" : Str)) = false := by decide) (hbase : attributeBase (.Name x p) "extend" X.env (eval (.Name x p) X.env) = eval (.Name x p) X.env := by rfl)
    (hfew : ((backTo cpos (starEach (e :: []) X.env)).all (fun x => !x.1) && (backToKw cpos (keywordEach [] X.env)).all (fun x => x.1.isSome) && decide ((e :: []).length + ([] : List Keyword).length + (if ([] : List Keyword).isEmpty then 0 else 1) < 30)) = true := by rfl)
    (hline : (apos.endLine == cpos.line) = true := by rfl) (hs : starEach (e :: []) X.env = (false, eval e X.env) :: starEach [] X.env := by rfl) (hplain : (backTo cpos (starEach [] X.env)).any (·.1) = false := by rfl) :
    SS X W (.Expr (.Call (.Attribute (.Name x p) "extend" apos) [e] [] cpos) pos) (sExt i ef) := fun H0 Lo =>
  (ps_expr (pe_bm PySem.F.plainAttrs_list PySem.F.slot_list_extend PySem.F.type_list_extend mt_extend (pe_var hN hv hd hcd) (pa_cons he pa_nil hs) hbase hfew hline hs hplain)).weak fun D σ H ⟨ρ, α, rst, p⟩ => by
  obtain ⟨ds, l, vs, h1, h2, h3, rl, p, hL⟩ := PostS.ownL rst p
  refine ⟨.ref l, h2, .inl ⟨rfl, vs, SqL.of h3⟩, _, ρ, rst.re, p.exprB rst fun d H1 v s r rst1 p1 => ?_⟩
  cases d with
  | list es =>
    simp only at p1
    split at p1
    · rename_i hz
      obtain ⟨b, us, rfl, hb, rb⟩ := r.lstV
      rw [rl.length, rb.length] at hz
      have hl3 := s _ _ h3
      refine ⟨l, b, vs, us, rfl, rfl, hl3, hb, hz, ?_⟩
      obtain ⟨q1, q2⟩ := rst1.write (d' := .list (ds ++ es)) (o' := .lst (vs ++ us)) h1 h2 (.lst upd_same (RpL.upd hl3 trivial hL ((rl.mono s).append rb)))
      exact p1 α σ _ q1 q2
    · exact p1.elim
  | _ => exact p1.elim
/-! ### for, while -/
def forOne (t : Tg) (f : SF) (d : D) (ρ : En) (k : En → Out) : Out := match bindT t d ρ with
  | none => .bad
  | some ρ1 => match f ρ1 with
    | .nx ρ2 => k ρ2
    | .ct ρ2 => k ρ2
    | .bk ρ2 => .nx ρ2
    | .rt d => .rt d
    | .rn d => .rn d
    | .rm d ρ2 => .rm d ρ2
    | .rq i ρ2 => .rq i ρ2
    | .exc c fs ρ2 => .exc c fs ρ2
    | .bad => .bad
def forGo (t : Tg) (f : SF) : List D → En → Out
  | [], ρ => .nx ρ
  | d :: ds, ρ => forOne t f d ρ (forGo t f ds)
def RL.out (r : RL) (ρ : En) (k : List D → Out) : Out := match r with
  | .ok d => k d
  | .exc c fs => .exc c fs ρ
  | .bad => .bad
@[simp] theorem RL.out_ok (d : List D) (ρ : En) (k : List D → Out) : (RL.ok d).out ρ k = k d := rfl
@[simp] theorem RL.out_exc (c : Str) (fs : List (Str × D)) (ρ : En) (k : List D → Out) : (RL.exc c fs).out ρ k = .exc c fs ρ := rfl
@[simp] theorem RL.out_bad (ρ : En) (k : List D → Out) : RL.bad.out ρ k = .bad := rfl
def sFor (fi : IF) (t : Tg) (f : SF) : SF := fun ρ => (fi ρ).out ρ fun ds => forGo t f ds ρ
theorem ss_for {tg iter : Expr} {fi : IF} {t : Tg} (hp : PassesOwn (model X.prog X.w) X.A X.env X.xe) (hi : SIS X W tg iter fi) (hg : PG X tg (gT X.K t)) (hb : SSs X W body f) (hc : X.calm = true := by rfl) (hs : ∀ x, foldedSetIterable iter X.env x = pure x := by intro _; rfl) :
    SS X W (.For tg iter body [] pos) (sFor fi t f) := fun H0 Lo => (ps_for hp hc hi hg (hb H0 Lo) hs).weak fun D σ H ⟨ρ, α, rst, p⟩ => by
  refine ⟨_, ρ, rst.re, ?_⟩
  unfold sFor at p
  cases hf : fi ρ with
  | bad => rw [hf] at p; exact p
  | exc c fs => rw [hf] at p; exact fun H1 x s xr => p α σ H1 x (rst.mono s) (.of_same s) xr
  | ok ds =>
    rw [hf] at p
    simp only [RL.out_ok] at p
    intro J S H1 s1 it hS
    let Iv : Nat → St → Hp → Prop := fun i σ H => i ≤ ds.length ∧ ∃ ρ α, RSt X.K H0 Lo ρ α σ H ∧ S H (Lv Lo α) ∧ PostS X.K H0 Lo W H α (forGo t f (ds.drop i) ρ) D
    refine ⟨fun i m σ H => m = ds.length - i ∧ Iv i σ H, ⟨ds.length, by simp, Nat.zero_le _, ρ, α, rst.mono s1, hS, by rw [List.drop_zero]; exact p.evo (.of_same s1)⟩, ?_⟩
    rintro i m σ2 H2 ⟨rfl, hi, ρ2, α2, rst2, hS2, p2⟩
    by_cases hlt : i < ds.length
    · refine .inr ⟨it.go i H2 _ hS2 hlt, Iv (i + 1), fun σ' H' q => ⟨ds.length - (i + 1), by omega, rfl, q⟩, fun x H3 y => ?_⟩
      obtain ⟨s3, hx⟩ := it.yld i H2 _ x H3 hS2 y
      have rx := hx ds[i] (by simp [hlt])
      rw [List.drop_eq_getElem_cons hlt] at p2
      simp only [forGo] at p2
      unfold forOne at p2
      have rst3 := rst2.mono s3
      cases hbt : bindT t ds[i] ρ2 with
      | none => rw [hbt] at p2; exact p2.elim
      | some ρ3 =>
        rw [hbt] at p2
        simp only at p2
        refine gT_of rst3.re rx hbt fun σ3 re3 ch => ?_
        have rst4 := rst3.ch re3 ch
        have ev4 : Evo X.K Lo H2 α2 H3 (rms α2 (slotsT t)) := (Evo.of_same s3).trans (Evo.rms _)
        refine ⟨ρ3, _, rst4, ?_⟩
        have hS4 : S H3 (Lv Lo (rms α2 (slotsT t))) := it.evo _ _ _ _ hS2 ev4
        have p4 := p2.evo ev4
        cases hb3 : f ρ3 with
        | nx ρ5 => rw [hb3] at p4; exact fun α5 σ5 H5 r5 e5 => ⟨hlt, ρ5, α5, r5, it.evo _ _ _ _ hS4 e5, p4.evo e5⟩
        | ct ρ5 => rw [hb3] at p4; exact fun α5 σ5 H5 r5 e5 => ⟨hlt, ρ5, α5, r5, it.evo _ _ _ _ hS4 e5, p4.evo e5⟩
        | bk ρ5 => rw [hb3] at p4; exact p4
        | rt d => rw [hb3] at p4; exact p4
        | rn d => rw [hb3] at p4; exact p4
        | rm d ρ5 => rw [hb3] at p4; exact p4
        | rq i ρ5 => rw [hb3] at p4; exact p4
        | exc c fs ρ5 => rw [hb3] at p4; exact p4
        | bad => rw [hb3] at p4; exact p4
    · have e : i = ds.length := by omega
      subst e
      rw [List.drop_length] at p2
      exact .inl ⟨it.stop _ H2 _ hS2 (Nat.le_refl _), p2 α2 σ2 H2 rst2 .refl⟩
def whGo (c : EF) (f : SF) : Nat → En → Out
  | 0, _ => .bad
  | n + 1, ρ => (c ρ).out ρ fun b => match b with
    | .bool true => (match f ρ with
      | .nx ρ2 => whGo c f n ρ2
      | .ct ρ2 => whGo c f n ρ2
      | .bk ρ2 => .nx ρ2
      | .rt d => .rt d
      | .rn d => .rn d
      | .rm d ρ2 => .rm d ρ2
      | .rq i ρ2 => .rq i ρ2
      | .exc c fs ρ2 => .exc c fs ρ2
      | .bad => .bad)
    | .bool false => .nx ρ
    | _ => .bad
/-- a while of fewer than n turns -/
def sWh (n : Nat) (c : EF) (f : SF) : SF := whGo c f n
/-! ### raise, += -/
def sRaise (c : Str) : SF := fun ρ => .exc c [] ρ
/-- what the head tells of an error class without own __init__ -/
structure ExK (K : PySem.W.Frag) (mg : Str → Option Value) (x : Str) : Prop where
  g : mg x = some (.ref (He.ga K x))
  c : (He.Fa.exc x).ok K = true
theorem ss_raise {m : Str} {j : Nat} {p p2 q : Pos} (tk : Takes X W) (T : ExK X.K X.mg x) (hg : Gl X x := by rfl) (hdb : (x == ("__debug__" : Str)) = false := by decide) (hc : X.calm = true := by rfl) :
    SS X W (.Raise (some (.Call (.Name x p) [.Constant (.str m) j p2] [] q)) none pos) (sRaise x) := fun H0 Lo => by
  obtain ⟨k1, k2, k3, k4⟩ := He.exc_ok T.c
  exact (ps_raise hc tk (pmk_own PySem.F.excBase_ValueError k1 T.g k2 (raises_own k3 k4) hg hdb)).weak fun D σ H ⟨ρ, α, rst, p⟩ => p α σ H none rst .refl (.inl ⟨rfl, rfl⟩)
/-! a, b = x, y with plain local names -/
def sPar (i j : Nat) (fs : List EF) : SF := fun ρ => (evA fs ρ).out ρ fun ds => match ds with
  | [x, y] => .nx ((ρ.set i (some (.val x))).set j (some (.val y)))
  | _ => .bad
theorem PostS.args {K : PySem.W.Frag} {H0 H : Hp} {Lo : Ad} {ρ : En} {α : Nat → Option Addr} {σ : St} {r : RL} {k : List D → Out} {Dn : Ends} {R : List V → Hp → Prop} (rst : RSt K H0 Lo ρ α σ H) (h : PostS K H0 Lo W H α (r.out ρ k) Dn)
    (hk : ∀ d H1 v, Same H H1 → RpL K H1 (Lv Lo α) d v → RSt K H0 Lo ρ α σ H1 → PostS K H0 Lo W H1 α (k d) Dn → R v H1) : PostA K W (Lv Lo α) σ H r R := by
  cases r with
  | ok d => exact fun H1 v s rv => hk d H1 v s rv (rst.mono s) (PostS.evo h (.of_same s))
  | exc c fs => exact fun H1 x s xr => h α σ H1 x (rst.mono s) (.of_same s) xr
  | bad => exact h
theorem ss_par {i j : Nat} {x y : Str} {a b : Expr} {fs : List EF} {px py pt : Pos} {kt k2 pt2} (hN : X.N.Nodup) (hij : i ≠ j) (ha : SA X W [a, b] fs) (hw : swappedStores [.Tuple [.Name x px, .Name y py] kt pt] (.Tuple [a, b] k2 pt2) X.env = pure (some [x, y]))
    (hi : X.N[i]? = some x := by rfl) (hj : X.N[j]? = some y := by rfl) (hx : X.env.scope.names.lookup x = some .local := by rfl) (hy : X.env.scope.names.lookup y = some .local := by rfl)
    (hs : swapsWithSole [.Tuple [.Name x px, .Name y py] kt pt] (.Tuple [a, b] k2 pt2) pos.line X.env = pure false := by rfl) (hc : X.calm = true := by rfl) :
    SS X W (.Assign [.Tuple [.Name x px, .Name y py] kt pt] (.Tuple [a, b] k2 pt2) pos) (sPar i j fs) := fun H0 Lo => (ps_par hc hN hi hj hij hx hy ha hw hs).weak fun D σ H ⟨ρ, α, rst, p⟩ =>
  ⟨_, ρ, rst.re, p.args rst fun ds H1 vs s rl rst1 p1 => by
    cases rl with
    | nil => exact p1.elim
    | cons r1 rl =>
      cases rl with
      | nil => exact p1.elim
      | cons r2 rl =>
        cases rl with
        | nil =>
          refine ⟨_, _, rfl, ?_⟩
          have q1 := rst1.set (i := i) r1
          have q2 := q1.set (i := j) (r2.lives fun z q => .inl (Lv_rms z q))
          exact p1 _ _ H1 q2 ((Evo.rms _).trans (Evo.rms _))
        | cons _ _ => exact p1.elim⟩
end

/-! ### a def -/
def runB (n N : Nat) (f : SF) : List D → Rs := fun ds => if ds.length = n then
  (match f (ds.map (fun d => some (.val d)) ++ List.replicate (N - n) none) with
    | .nx _ => .ok .none
    | .rt d => .ok d
    | .rn _ => .bad
    | .rm _ _ => .bad
    | .rq _ _ => .bad
    | .exc c fs _ => .exc c fs
    | .bk _ => .bad
    | .ct _ => .bad
    | .bad => .bad) else .bad
theorem re_start {K : PySem.W.Frag} {H : Hp} {L : Ad} {N : List Str} {ds : List D} {vs : List V} (lv : LvOk K H L) (r : RpL K H L ds vs) : RE K H L (ds.map (fun d => some (Sl.val d)) ++ List.replicate (N.length - ds.length) none) (start N vs) := by
  refine ⟨lv, ?_, fun i x e => ?_⟩
  · unfold L2.start
    simp [r.length]
  · rcases Nat.lt_or_ge i ds.length with hi | hi
    · rw [List.getElem?_append_left (by simpa using hi), List.getElem?_map] at e
      cases hd : ds[i]? with
      | none => rw [hd] at e; cases e
      | some d =>
        rw [hd] at e
        cases e
        obtain ⟨v, e1, rv⟩ := r.get hd
        refine ⟨some v, ?_, v, rfl, rv⟩
        unfold L2.start
        rw [List.getElem?_append_left (by rw [List.length_map, ← r.length]; exact hi), List.getElem?_map, e1]
        rfl
    · rw [List.getElem?_append_right (by simpa using hi)] at e
      obtain ⟨_, e⟩ := List.getElem?_eq_some_iff.mp e
      rw [List.getElem_replicate] at e
      cases e
/-- what a def's end gives its caller -/
def OutOk (K : PySem.W.Frag) (H : Hp) (L : Ad) (o : Out) (Q : VK) (E : XK) : Prop := match o with
  | .nx _ => ∀ H', Same H H' → Q .non H'
  | .rt d => ∀ H' v, Same H H' → Rp K H' L d v → Q v H'
  | .rn d => ∀ H' a, Same H H' → H a = none → Ow K H' (Lp L a) d a → Q (.ref a) H'
  | .exc c fs _ => ∀ H' x, Same H H' → XR K H' L fs x → E (.ref (He.ga K c)) x H'
  | _ => False
theorem fn_genC {P : Program} {w : World} {K : PySem.W.Frag} {mg : Str → Option Value} {base : Heap} {x qual : Str} {params : Arguments} {body : List Stmt} {scope : Scope} {dvs : List V} {kws : List (Str × V)} {fa : Addr} {fd : FuncData} {N ps : List Str} {k : Nat} {f : SF} {sp : Sp}
    (F : FunD K x qual params body scope dvs kws fa fd) (S : FnScope N ps scope)
    (hb : ∀ (cdv : Value) (A : Around) (outer : List Env) (s : Shared) (H : Hp) (E : XK), fd.code = cdv → Room k (A.deeper (envOfC qual scope s.heap.objs.size fa cdv)) → Takes (cxOf (L2.CX P w) P w K mg base N qual scope fa cdv A outer s H E) (fun cls d _ H => E cls d H) →
      PassesOwn (model P w) (A.deeper (envOfC qual scope s.heap.objs.size fa cdv)) (envOfC qual scope s.heap.objs.size fa cdv) (cxOf (L2.CX P w) P w K mg base N qual scope fa cdv A outer s H E).xe →
      SSs (cxOf (L2.CX P w) P w K mg base N qual scope fa cdv A outer s H E) (fun cls d _ H => E cls d H) body f) (small : N.length ≤ 1000) (less : ps.length ≤ N.length)
    (hsp : ∀ vs H Q E, sp vs H Q E → ∃ L ds, LvOk K H L ∧ ds.length = ps.length ∧ RpL K H L ds vs ∧ OutOk K H L (f (ds.map (fun d => some (Sl.val d)) ++ List.replicate (N.length - ps.length) none)) Q E) :
    FnOk P w K mg base (L2.CX P w) (k + 1) fa fd ps sp := by
  obtain ⟨oc, od, dV, kV, doc, pm, an, cdv, ct, osl, efd, lk, hcd, _, _⟩ := F.ex
  have ecd : fd.code = cdv := by rw [efd]
  subst efd
  refine fn_of lk hcd S (fun vs H Q E h => ?_) (fun A outer s H vs Q E hr h => ?_)
  · obtain ⟨L, ds, lv, hl, r, _⟩ := hsp vs H Q E h
    rw [← r.length]
    exact hl
  · obtain ⟨L, ds, lv, hl, r, h⟩ := hsp vs H Q E h
    refine ⟨_, hb cdv A outer s H E ecd hr (takes_of rfl rfl rfl rfl) (passes_of rfl) H L, ?_⟩
    have re := re_start (N := N) lv r
    have hLv : ∀ a, Lv L (fun _ => none) a → L a := fun a z => z.elim id fun ⟨i, e⟩ => by cases e
    have vals : ∀ (i : Nat) (x : Sl), (ds.map (fun d => some (Sl.val d)) ++ List.replicate (N.length - ds.length) none)[i]? = some (some x) → ∃ d, x = .val d := fun i x e => by
      rcases Nat.lt_or_ge i ds.length with hi | hi
      · rw [List.getElem?_append_left (by simpa using hi), List.getElem?_map] at e
        cases hd : ds[i]? with
        | none => rw [hd] at e; cases e
        | some d => rw [hd] at e; cases e; exact ⟨d, rfl⟩
      · rw [List.getElem?_append_right (by simpa using hi)] at e
        obtain ⟨_, e⟩ := List.getElem?_eq_some_iff.mp e
        rw [List.getElem_replicate] at e
        cases e
    refine ⟨_, fun _ => none, ⟨re.lives (fun a z => .inl (hLv a z)) ⟨fun a z => lv a (hLv a z), lv.tb⟩, Same.refl H, (fun a b z _ e _ => (lv a z e).elim), (fun i a e => by cases e), (fun i j a e => by cases e), fun i d e => ?_, ?_, fun i d e => ?_, (fun i a e => by cases e), ⟨fun i d e => (by obtain ⟨_, z⟩ := vals i _ e; cases z), fun i j d e e1 _ => (by obtain ⟨_, z⟩ := vals i _ e1; cases z)⟩⟩, ?_⟩
    · obtain ⟨_, z⟩ := vals i _ e
      cases z
    · rw [List.length_append, List.length_map, List.length_replicate, hl]
      omega
    · obtain ⟨_, z⟩ := vals i _ e
      cases z
    · rw [← hl] at h
      cases ho : f (ds.map (fun d => some (Sl.val d)) ++ List.replicate (N.length - ds.length) none) with
      | nx ρ => rw [ho] at h; exact fun α' σ' H' rst _ => h H' rst.same
      | rt d => rw [ho] at h; exact h
      | rn d => rw [ho] at h; exact h
      | rm d ρ => rw [ho] at h; exact h.elim
      | rq i ρ => rw [ho] at h; exact h.elim
      | bk ρ => rw [ho] at h; exact h.elim
      | ct ρ => rw [ho] at h; exact h.elim
      | exc c fs ρ => rw [ho] at h; exact fun α' σ' H' x rst _ xr => h H' x rst.same (xr.imp id fun ⟨dd, gs, a1, a2, a3, a4, a5⟩ => ⟨dd, gs, a1, a2, a3, a4, a5.lives fun z q => .inl (.inl q)⟩)
      | bad => rw [ho] at h; exact h.elim
theorem fn_gen {P : Program} {w : World} {K : PySem.W.Frag} {mg : Str → Option Value} {base : Heap} {x qual : Str} {params : Arguments} {body : List Stmt} {scope : Scope} {dvs : List V} {kws : List (Str × V)} {fa : Addr} {fd : FuncData} {N ps : List Str} {k : Nat} {f : SF} {sp : Sp}
    (F : FunD K x qual params body scope dvs kws fa fd) (S : FnScope N ps scope)
    (hb : ∀ (cdv : Value) (A : Around) (outer : List Env) (s : Shared) (H : Hp) (E : XK), Room k (A.deeper (envOfC qual scope s.heap.objs.size fa cdv)) → Takes (cxOf (L2.CX P w) P w K mg base N qual scope fa cdv A outer s H E) (fun cls d _ H => E cls d H) →
      PassesOwn (model P w) (A.deeper (envOfC qual scope s.heap.objs.size fa cdv)) (envOfC qual scope s.heap.objs.size fa cdv) (cxOf (L2.CX P w) P w K mg base N qual scope fa cdv A outer s H E).xe →
      SSs (cxOf (L2.CX P w) P w K mg base N qual scope fa cdv A outer s H E) (fun cls d _ H => E cls d H) body f) (small : N.length ≤ 1000) (less : ps.length ≤ N.length)
    (hsp : ∀ vs H Q E, sp vs H Q E → ∃ L ds, LvOk K H L ∧ ds.length = ps.length ∧ RpL K H L ds vs ∧ OutOk K H L (f (ds.map (fun d => some (Sl.val d)) ++ List.replicate (N.length - ps.length) none)) Q E) :
    FnOk P w K mg base (L2.CX P w) (k + 1) fa fd ps sp :=
  fn_genC F S (fun cdv A outer s H E _ => hb cdv A outer s H E) small less hsp
theorem fn_sem {P : Program} {w : World} {K : PySem.W.Frag} {mg : Str → Option Value} {base : Heap} {x qual : Str} {params : Arguments} {body : List Stmt} {scope : Scope} {dvs : List V} {kws : List (Str × V)} {fa : Addr} {fd : FuncData} {N ps : List Str} {k : Nat} {f : SF}
    (F : FunD K x qual params body scope dvs kws fa fd) (S : FnScope N ps scope)
    (hb : ∀ (cdv : Value) (A : Around) (outer : List Env) (s : Shared) (H : Hp) (E : XK), Room k (A.deeper (envOfC qual scope s.heap.objs.size fa cdv)) → Takes (cxOf (L2.CX P w) P w K mg base N qual scope fa cdv A outer s H E) (fun cls d _ H => E cls d H) →
      PassesOwn (model P w) (A.deeper (envOfC qual scope s.heap.objs.size fa cdv)) (envOfC qual scope s.heap.objs.size fa cdv) (cxOf (L2.CX P w) P w K mg base N qual scope fa cdv A outer s H E).xe →
      SSs (cxOf (L2.CX P w) P w K mg base N qual scope fa cdv A outer s H E) (fun cls d _ H => E cls d H) body f) (small : N.length ≤ 1000 := by decide) (less : ps.length ≤ N.length := by decide) :
    FnOk P w K mg base (L2.CX P w) (k + 1) fa fd ps (spP K ps.length (runB ps.length N.length f)) := by
  refine fn_gen F S hb small less fun vs H Q E ⟨L, ds, lv, hl, r, h⟩ => ⟨L, ds, lv, hl, r, ?_⟩
  unfold runB at h
  rw [if_pos hl] at h
  cases ho : f (ds.map (fun d => some (Sl.val d)) ++ List.replicate (N.length - ps.length) none) with
  | nx ρ => rw [ho] at h; exact fun H' s => h H' .non s .non
  | rt d => rw [ho] at h; exact h
  | exc c fs ρ => rw [ho] at h; exact h
  | _ => rw [ho] at h; exact h.elim
end VV

set_option Elab.async false
set_option linter.all false
set_option maxRecDepth 100000
set_option maxHeartbeats 4000000
/-! VVk: targets by rule, [::-1], two fors in a comprehension, calls with keywords, a law's end. -/
namespace VV
open PySem PySem.Spec L2
open PyProof.Rows hiding St

section
variable {X : Cx} {pos : Pos}
theorem sg_nm {i : Nat} {x : Str} (hN : X.N.Nodup) (hi : X.N[i]? = some x := by rfl) (hx : Loc X.env.scope x := by first | exact Or.inl rfl | exact Or.inr rfl) (hf : X.fn x = true ∨ X.env.scope.names.lookup x = some .local := by first | exact .inl rfl | exact .inr rfl) :
    PG X (.Name x pos) (gT X.K (.nm i)) := by
  unfold gT
  exact pg_name hN hi hx hf
theorem sgs_nil : PGs X [] (gTs X.K []) := by
  unfold gTs
  exact pgs_nil
theorem sgs_cons {e : Expr} {es : List Expr} {t : Tg} {ts : List Tg} (h1 : PG X e (gT X.K t)) (h2 : PGs X es (gTs X.K ts))
    (hs : (assignEach (e :: es) X.env).map (·.2) = assign e X.env :: (assignEach es X.env).map (·.2) := by rfl) : PGs X (e :: es) (gTs X.K (t :: ts)) := by
  unfold gTs
  exact pgs_cons h1 h2 hs
theorem sg_tp {es : List Expr} {k : Nat} {ts : List Tg} (h : PGs X es (gTs X.K ts)) (hc : X.calm = true := by rfl)
    (hn : (assignEach es X.env).length = ts.length := by rfl) (hst : (assignEach es X.env).findIdx? (·.1) = none := by rfl) : PG X (.Tuple es k pos) (gT X.K (.tp ts)) := by
  unfold gT
  exact pg_tup hc h hn hst
end

/-! ### x[::-1] -/
section
variable {P : Program} {w : World} {A : Around} {E : Value → Shared → Prop} {s : Shared} {t sl : Addr} {u : Tok}
end
section
variable {X : Cx} {W : WX} {e : Expr} {k : Nat} {p1 p2 p3 pos : Pos}
end
def revF : D → Option D
  | .list ds => some (.list ds.reverse)
  | .tuple ds => some (.tuple ds.reverse)
  | _ => none
section
variable {X : Cx} {W : WX}
end

/-! ### two fors -/
/-- no slot's own list lies at D; G: a heap in which its grids lie -/
structure NoOwn (K : PySem.W.Frag) (D : Addr) (G : Hp) (ρ : En) (σ : St) : Prop where
  own : ∀ (j : Nat) (d : VV.D) (a : Addr), ρ[j]? = some (some (.own d)) → σ[j]? = some (some (.ref a)) → a ≠ D
  grid : ∀ (j : Nat) (g : Gr) (a : Addr), ρ[j]? = some (some (.grid g)) → σ[j]? = some (some (.ref a)) → a ≠ D ∧ ∃ (L : Ad) (bs : List Addr), Og K G L g a bs ∧ D ∉ bs
  par : ∀ (j : Nat) (d : VV.D) (a : Addr), ρ[j]? = some (some (.ownP d)) → σ[j]? = some (some (.ref a)) → a ≠ D
theorem RE.upd {K : PySem.W.Frag} {G H : Hp} {L : Ad} {ρ : En} {σ : St} {D : Addr} {o o' : HO} (re : RE K H L ρ σ) (no : NoOwn K D G ρ σ) (sm : Same G H) (hD : H D = some o) (c : Chg o) (nc : NC D o) (hL : L D) : RE K (L2.upd H D o') L ρ σ := by
  refine ⟨⟨fun a z => ?_, re.lv.tb.upd hD nc⟩, re.len, fun i x e => ?_⟩
  · by_cases h : a = D
    · subst h; rw [upd_same]; simp
    · rw [upd_ne h]; exact re.lv a z
  · obtain ⟨ob, e1, r⟩ := re.sl i x e
    refine ⟨ob, e1, ?_⟩
    cases x with
    | val d => obtain ⟨v, g1, g2⟩ := r; exact ⟨v, g1, g2.upd hD c hL⟩
    | own d =>
      obtain ⟨a, g1, g2⟩ := r
      subst g1
      exact ⟨a, rfl, g2.upd hD c hL (no.own i d a e e1)⟩
    | grid rows =>
      obtain ⟨a, bs, g1, g2⟩ := r
      subst g1
      obtain ⟨na, _, bs', q1, q2⟩ := no.grid i rows a e e1
      have eb : bs = bs' := q1.same g2 sm
      subst eb
      exact ⟨a, bs, rfl, g2.upd hD c hL na fun b hb z => q2 (z ▸ hb)⟩
    | pin a => exact r
    | ownP d =>
      obtain ⟨a, g1, g2⟩ := r
      subst g1
      exact ⟨a, rfl, g2.upd hD c hL (no.par i d a e e1)⟩
section
variable {X : Cx} {W : WX}
variable {elt tg iter tg1 iter1 : Expr} {ifs ifs1 : List Expr} {scope : Scope} {own : List (Str × Nat)} {pos : Pos} {fi fi1 : IF} {t t1 : Tg} {c c1 e : EF} {i : Nat} {x : Str}
end

/-! ### calls with keywords, all keyword-only parameters written -/
structure Dk (P : Program) (w : World) (K : PySem.W.Frag) (mg : Str → Option Value) (base : Heap) (x : Str) (k n : Nat) (ks : List Str) (f : List D → Rs) : Prop where
  ex : ∃ (fa : Addr) (fd : FuncData) (ps : List Str), mg x = some (.ref fa) ∧ FnOk P w K mg base (L2.CX P w) k fa fd ps (spP K (n + ks.length) f) ∧ PySem.W.keepIn K (.ref fa) = true ∧ KBn K fd ps n ks (fun us ws => us ++ ws) (fun vs zs => vs ++ zs)
section
variable {X : Cx} {W : WX} {e : Expr} {es : List Expr} {kws : List Keyword} {f : EF} {fs gs : List EF} {p pos kpos : Pos} {nm : Option Str} {x : Str} {ks : List Str}
theorem _root_.L2.PK.weak {t t' : TA} (h : PK X kws t) (hw : ∀ σ H Q, t' σ H Q → t σ H Q) : PK X kws t' := ⟨fun p pins s σ H Q I q => h.run p pins s σ H Q I (hw σ H Q q)⟩
end
/-! the end of a law -/
/-- the law's def is a function f of its script; f says True of every script: the row holds -/
theorem law_end {l : PySem.W.OpenLaw} {k : Nat} {q : Program} {loose : List Str} {XP : (Str → Option Value) → Heap → Prop} {YP : World → Heap → Prop} {d : DefRec} {f : List D → Rs} (most : l.most = some 63) (nodef : d.params.defaults = []) (room : Room k callerA)
    (plain : ∀ ns : List Int, ns.length ≤ 63 → f [rdL ns] = .ok (.bool true))
    (found : ∀ (w : World) (mg : Str → Option Value) (fa : Addr) (h : Heap), YP w h → h.Ns mainGlobals mg → mg d.name = some (.ref fa) → ∃ (K : PySem.W.Frag) (fd : FuncData), K.In h ∧ lamB K = false ∧ (∀ (s : Shared) (u : Value), BindsTo s fd ⟨[u], []⟩ [("script", u)]) ∧
      ∀ base : Heap, K.In base → base.Ns mainGlobals mg → FnOk l.prog w K mg base (L2.CX l.prog w) k fa fd ["script"] (spP K 1 f)) :
    PySem.W.WalkO q loose XP YP l.row.toRowW d [] (fun g us => PySem.call g us) :=
  Att.attach_call most nodef fun w _ st mg mb fa _ _ _ _ a vs ns ground said _ _ _ named obj whole short bare => by
    obtain ⟨K, fd, inn, nolam, binds, ok⟩ := found w mg fa _ said ground.T.g named
    refine law_call inn ground.T.g ground.T.b ground.T.builtins ground.T.nolimit bare obj whole (Nat.le_trans short (by decide)) room ok binds (fun H only seq => ?_) fun H e s' c => ?_
    · have lies : SqF K H a (ns.map V.int) := by
        rcases seq with (z | z) | z
        · rcases only a with y | ⟨o, xs, y⟩ <;> rw [z] at y <;> cases y
        · exact .inl z
        · exact .inr (.inr z)
      refine ⟨fun _ => False, [rdL ns], ⟨fun _ z => z.elim, fun e => by rw [nolam] at e; cases e⟩, rfl, .cons (.rd (.inl lies)) .nil, ?_⟩
      rw [plain ns short]
      exact fun H' v _ r => r.blV
    · exact let ⟨_, _, _, _, _, _, _, _, _, _, _, _, z⟩ := c; z.elim
end VV

set_option Elab.async false
set_option linter.all false
set_option maxRecDepth 100000
set_option maxHeartbeats 4000000
/-! VVl: min and max of a list or a tuple of ints. -/
namespace VV
open PySem PySem.Spec L2
open PyProof.Rows hiding St
theorem foldl_min (ns : List Int) : ∀ n : Int, ns.foldl min n ∈ n :: ns ∧ ∀ y ∈ n :: ns, ns.foldl min n ≤ y := by
  induction ns with
  | nil => intro n; simp
  | cons m ns ih =>
    intro n
    obtain ⟨h1, h2⟩ := ih (min n m)
    rw [List.foldl_cons]
    refine ⟨?_, fun y hy => ?_⟩
    · rcases List.mem_cons.mp h1 with h | h
      · rw [h]
        rcases Int.le_total n m with q | q
        · rw [Int.min_eq_left q]; simp
        · rw [Int.min_eq_right q]; simp
      · simp [h]
    · have h3 := h2 (min n m) (by simp)
      simp only [List.mem_cons] at hy
      rcases hy with rfl | rfl | hy
      · omega
      · omega
      · exact h2 y (by simp [hy])
def bestI (f : Int → Int → Int) : List Int → Option D
  | [] => none
  | n :: ns => some (.int (ns.foldl f n))
def best1F (f : Int → Int → Int) : List D → Option D
  | [.list ds] => (intsOf ds).bind (bestI f)
  | [.tuple ds] => (intsOf ds).bind (bestI f)
  | _ => none
theorem readsAll_ints {h : Heap} {us : List Value} {ns : List Int} (hi : IntsAre us ns) : ReadsAll h us (ns.map PyData.int) [] := by
  induction hi with
  | nil => exact .nil
  | cons n t _ ih => exact ReadsAll.cons (as := []) (bs := []) (.int n t) ih
theorem depthAll_ints (ns : List Int) : PyData.depthAll (ns.map PyData.int) = 0 := by
  induction ns with
  | nil => rfl
  | cons n ns ih => simp [PyData.depthAll, PyData.depth, ih]
section
variable {X : Cx}
theorem alike_ints (ns : List Int) : PySem.W.AlikeAll (ns.map PyData.int) := by
  refine ⟨fun x hx y hy => ?_, fun x hx => ?_⟩
  · obtain ⟨i, _, rfl⟩ := List.mem_map.mp hx
    obtain ⟨j, _, rfl⟩ := List.mem_map.mp hy
    rfl
  · obtain ⟨i, _, rfl⟩ := List.mem_map.mp hx
    intro z
    cases z
theorem cl_min1 {k : Nat} (hr : Room k X.A) (hc : X.calm = true) : ClD X (.builtin "min") (best1F min) := by
  intro pn s σ H xs us Q I rs h
  obtain ⟨L, ds, d, lv, rb, hf, k⟩ := h
  unfold best1F at hf
  split at hf
  · obtain ⟨v, rfl, r⟩ := rb.one
    obtain ⟨a, vs, rfl, ha, rl⟩ := r.lstV
    obtain ⟨ns, e, hf2⟩ := Option.bind_eq_some_iff.mp hf
    have ed := intsOf_eq e
    subst ed
    have ev := rl.ints
    subst ev
    cases ns with
    | nil => cases hf2
    | cons n ns =>
      cases hf2
      refine cr_min hc pn s σ H _ us Q I rs ⟨a, n :: ns, rfl, SqL.of ha, by simp, fun m hm hle => ?_⟩
      obtain ⟨h1, h2⟩ := foldl_min ns n
      have e : m = ns.foldl min n := by have := hle _ h1; have := h2 _ hm; omega
      subst e
      exact k H _ (Same.refl H) (.int _)
  · obtain ⟨v, rfl, r⟩ := rb.one
    obtain ⟨a, vs, rfl, ha, rl⟩ := r.tupV
    obtain ⟨ns, e, hf2⟩ := Option.bind_eq_some_iff.mp hf
    have ed := intsOf_eq e
    subst ed
    have ev := rl.ints
    subst ev
    cases ns with
    | nil => cases hf2
    | cons n ns =>
      cases hf2
      obtain ⟨its, rv, hl, _⟩ := I.tuple (SqT.of ha)
      rw [Vals.ref1 rs]
      have hu := hr.un
      refine PySem.W.min_tuple_data (x := .int n) (xs := ns.map PyData.int) (vs := its.toArray) (I.ok.hd hc) (show s.heap.IsTuple a its.toArray from hl) (readsAll_ints (ns := n :: ns) rv.ints) (alike_ints (n :: ns)) (by rw [show PyData.int n :: ns.map PyData.int = (n :: ns).map PyData.int from rfl, depthAll_ints]; omega) fun i v h' tk bs _ rd hk => ?_
      rw [PySem.W.minD_ints] at rd
      cases rd
      exact ⟨.int _, H, I.kept hk, ⟨_, rfl⟩, k H _ (Same.refl H) (.int _)⟩
  · cases hf
end
end VV

set_option Elab.async false
set_option linter.all false
set_option maxRecDepth 100000
set_option maxHeartbeats 4000000
/-! VVm: try, except; what an except clause's suite says of its exception. -/
namespace VV
open PySem PySem.Spec L2
open PyProof.Rows hiding St

/-! ### expressions of a suite whose exception lies in slot i, at a -/
section
variable {X : Cx} {a : Addr} {i : Nat} {e b c : Expr} {rest : List Expr} {f g h : EF} {pos : Pos}
end
/-! ### statements of a suite -/
section
variable {X : Cx} {a : Addr} {i j : Nat} {e : Expr} {f : SF} {ef : EF} {pos : Pos} {sts : List Stmt}
end
/-! ### try -/
def Out.clr (i : Nat) : Out → Out
  | .nx ρ => .nx (ρ.set i none)
  | .rt d => .rt d
  | .bk ρ => .bk (ρ.set i none)
  | .ct ρ => .ct (ρ.set i none)
  | _ => .bad
theorem RE.clr {K : PySem.W.Frag} {H : Hp} {L : Ad} {ρ : En} {σ : St} (i : Nat) (o : Option V) (re : RE K H L ρ σ) : RE K H L (ρ.set i none) (σ.set i o) := by
  have hl := re.len
  refine ⟨re.lv, by simp [hl], fun j x e => ?_⟩
  by_cases hj : i = j
  · subst hj
    by_cases hi : i < ρ.length
    · rw [List.getElem?_set_self hi] at e; cases e
    · rw [List.getElem?_eq_none (by simpa using hi)] at e; cases e
  · rw [List.getElem?_set_ne hj] at e
    obtain ⟨w, e1, r⟩ := re.sl j x e
    exact ⟨w, by rw [List.getElem?_set_ne hj]; exact e1, r⟩
theorem RSt.clr {K : PySem.W.Frag} {H0 H : Hp} {Lo : Ad} {ρ : En} {α : Nat → Option Addr} {σ : St} (i : Nat) (o : Option V) (h : RSt K H0 Lo ρ α σ H) : RSt K H0 Lo (ρ.set i none) (VV.rms α [i]) (σ.set i o) H := by
  refine h.ch (h.re.clr i o) ⟨by simp, by simp, fun j hj => ?_, fun j hj => ?_, fun j hj d' z => ?_, fun j hj d' z => ?_, fun j hj d' z => ?_⟩
  · exact List.getElem?_set_ne (fun e => hj (by simp [e]))
  · exact List.getElem?_set_ne (fun e => hj (by simp [e]))
  all_goals
    have e : j = i := by simpa using hj
    subst e
    by_cases hi : j < ρ.length
    · rw [List.getElem?_set_self hi] at z
      cases z
    · rw [List.getElem?_eq_none (by simpa using hi)] at z
      cases z
section
variable {X : Cx} {W : WX} {x n : Str} {i : Nat} {body suite : List Stmt} {b₀ : Stmt} {np pos pos' : Pos} {fb : SF} {fh : Str → SF} {sub : Str → Option Bool}
end
end VV

set_option Elab.async false
set_option linter.all false
set_option maxRecDepth 100000
set_option maxHeartbeats 4000000
/-! VVn: the head's facts with what isinstance asks of error classes; an except clause without a name. -/
namespace VV
open PySem PySem.Spec L2
open PyProof.Rows hiding St
def excB (K : PySem.W.Frag) (x : Str) : Bool :=
  He.eqO (PySem.W.findIn K (.ref (He.ga K x)) "__getattribute__") (some (some (.builtin "BaseException.__getattribute__"))) && (He.eqO (PySem.W.findIn K (.ref (He.ga K x)) "__getattr__") (some none) &&
    (decide (PySem.W.subIn K (.ref (He.ga K x)) (.type "BaseException") = some true) && (PySem.W.hasDictIn K (He.ga K x) && (He.eqO (PySem.W.findIn K (.ref (He.ga K x)) "__class__") (some (some (.builtin "object.__class__"))) &&
      (He.eqO (PySem.W.specialIn K (.builtin "object.__class__") "__get__") (some (some (.builtin "getset_descriptor.__get__"))) && (decide (PySem.W.takesIn K (.builtin "object.__class__") = some true) && decide (PySem.W.mroIn K (He.ga K x) (.type "object") = some true)))))))
theorem excB_ok {K : PySem.W.Frag} {x : Str} (h : excB K x = true) : ExcC K (He.ga K x) := by
  unfold excB at h
  obtain ⟨h1, h2, h3, h4, h5, h6, h7, h8⟩ := by simpa only [Bool.and_eq_true] using h
  exact ⟨He.eqO_ok h1, He.eqO_ok h2, of_decide_eq_true h3, h4, He.eqO_ok h5, He.eqO_ok h6, of_decide_eq_true h7, of_decide_eq_true h8⟩
theorem kit_of {K : PySem.W.Frag} {a b : Addr} {v : Bool} (h : PySem.W.exmOne K (.ref a) (.ref b) = some v) (h0 : PySem.W.exmOne K (.ref a) (.ref a) = some true) : PySem.W.kitOne K (.ref a) (.ref b) = some v := by
  unfold PySem.W.kitOne
  by_cases e : ((Value.ref a) == (Value.ref b)) = true
  · have e2 : a = b := Value.ref.inj (beq_iff_eq.mp e)
    subst e2
    rw [h0] at h
    rw [if_pos e, h]
  · rw [if_neg e]
    unfold PySem.W.exmOne at h
    split at h
    · exact h
    · cases h
abbrev AlV : Type := He.AlD × Bool
/-! ### except C: suite -/
def Out.suf : Out → Out
  | .exc _ _ _ => .bad
  | o => o
section
variable {X : Cx} {W : WX} {x : Str} {body suite : List Stmt} {b₀ : Stmt} {np pos pos' : Pos} {fb fh : SF} {sub : Str → Option Bool}
end
end VV

set_option Elab.async false
set_option linter.all false
set_option maxRecDepth 100000
set_option maxHeartbeats 4000000
/-! VVo: code that is never come to; len(set(xs)) of ints. -/
namespace VV
open PySem PySem.Spec L2
open PyProof.Rows hiding St
section
variable {X : Cx} {W : WX}
end
end VV

set_option Elab.async false
set_option linter.all false
set_option maxRecDepth 100000
set_option maxHeartbeats 4000000
/-! VVp: dicts: d[k], d.get(k, x), k in d, d[k] = v. -/
namespace VV
open PySem PySem.Spec L2
open PyProof.Rows hiding St

def dgetP (ps : List (D × D)) (k : D) : Option D := (ps.find? fun q => PyData.eqv q.1 k).map (·.2)
def dputP (ps : List (D × D)) (k v : D) : List (D × D) := if (ps.any fun q => PyData.eqv q.1 k) = true then ps.map (fun q => if PyData.eqv q.1 k = true then (q.1, v) else q) else ps ++ [(k, v)]
def isKeyD : D → Bool
  | .int _ => true
  | .str _ => true
  | _ => false
def isKeyT : D → Bool
  | .tuple ds => ds.all isKeyD
  | _ => false
theorem keyD_eqv (a b : Key) : PyData.eqv (keyD a) (keyD b) = decide (a = b) := by
  rcases a with i | x <;> rcases b with j | y
  · simp only [keyD, PyData.eqv]
    by_cases h : i = j <;> simp [h]
  · rfl
  · rfl
  · simp only [keyD, PyData.eqv]
    by_cases h : x = y
    · simp [h]
    · simp [h]
theorem keyT_eqv : ∀ (a b : List Key), PyData.eqvAll (a.map keyD) (b.map keyD) = decide (a = b)
  | [], [] => rfl
  | [], b :: bs => by simp [PyData.eqvAll]
  | a :: as, [] => by simp [PyData.eqvAll]
  | a :: as, b :: bs => by
    simp only [List.map_cons, PyData.eqvAll, keyD_eqv, keyT_eqv as bs]
    by_cases h : a = b <;> by_cases g : as = bs <;> simp [h, g]
section
variable {κ : Type} [DecidableEq κ] {emb : κ → D} {K : PySem.W.Frag} {H : Hp} {L : Ad}
theorem dget_rel (hemb : ∀ a b, PyData.eqv (emb a) (emb b) = decide (a = b)) (k : κ) : ∀ {kvs : List (κ × V)} {ps : List (D × D)}, ps.map (·.1) = kvs.map (fun q => emb q.1) → RpL K H L (ps.map (·.2)) (kvs.map (·.2)) →
    (∀ d, dgetP ps (emb k) = some d → ∃ v, valV kvs k = some v ∧ Rp K H L d v) ∧ (dgetP ps (emb k) = none → valV kvs k = none)
  | [], [], _, _ => ⟨fun d h => (by cases h), fun _ => rfl⟩
  | [], _ :: _, h, _ => nomatch h
  | _ :: _, [], h, _ => nomatch h
  | q :: kvs, p :: ps, h, r => by
    simp only [List.cons.injEq, List.map_cons] at h
    rw [List.map_cons, List.map_cons] at r
    cases r with
    | cons r rl =>
      have ih := dget_rel hemb k h.2 rl
      by_cases e : q.1 = k
      · have e1 : PyData.eqv p.1 (emb k) = true := by rw [h.1, hemb, e]; simp
        have e2 : dgetP (p :: ps) (emb k) = some p.2 := by simp [dgetP, List.find?_cons, e1]
        rw [e2]
        refine ⟨fun d hd => ?_, fun hn => by cases hn⟩
        cases hd
        exact ⟨q.2, valV_pos e, r⟩
      · have e1 : PyData.eqv p.1 (emb k) = false := by rw [h.1, hemb]; simp [e]
        have e2 : dgetP (p :: ps) (emb k) = dgetP ps (emb k) := by simp [dgetP, List.find?_cons, e1]
        rw [e2, valV_neg e]
        exact ih
theorem dany_rel (hemb : ∀ a b, PyData.eqv (emb a) (emb b) = decide (a = b)) (k : κ) : ∀ {kvs : List (κ × V)} {ps : List (D × D)}, ps.map (·.1) = kvs.map (fun q => emb q.1) → (ps.any fun q => PyData.eqv q.1 (emb k)) = kvs.any fun q => decide (q.1 = k)
  | [], [], _ => rfl
  | [], _ :: _, h => nomatch h
  | _ :: _, [], h => nomatch h
  | q :: kvs, p :: ps, h => by
    simp only [List.cons.injEq, List.map_cons] at h
    rw [List.any_cons, List.any_cons, h.1, hemb, dany_rel hemb k h.2]
theorem dput_rel (hemb : ∀ a b, PyData.eqv (emb a) (emb b) = decide (a = b)) (k : κ) {d : D} {v : V} (rv : Rp K H L d v) {kvs : List (κ × V)} {ps : List (D × D)} (h : ps.map (·.1) = kvs.map (fun q => emb q.1)) (r : RpL K H L (ps.map (·.2)) (kvs.map (·.2))) :
    (dputP ps (emb k) d).map (·.1) = (putK kvs k v).map (fun q => emb q.1) ∧ RpL K H L ((dputP ps (emb k) d).map (·.2)) ((putK kvs k v).map (·.2)) := by
  unfold dputP putK
  rw [dany_rel hemb k h]
  by_cases c : (kvs.any fun kv => decide (kv.1 = k)) = true
  · rw [if_pos c, if_pos c]
    clear c
    induction kvs generalizing ps with
    | nil =>
      cases ps with
      | nil => exact ⟨rfl, .nil⟩
      | cons p ps => simp at h
    | cons q kvs ih =>
      cases ps with
      | nil => simp at h
      | cons p ps =>
        simp only [List.cons.injEq, List.map_cons] at h
        rw [List.map_cons, List.map_cons] at r
        cases r with
        | cons r rl =>
          obtain ⟨i1, i2⟩ := ih h.2 rl
          simp only [List.map_cons]
          by_cases e : q.1 = k
          · have e1 : PyData.eqv p.1 (emb k) = true := by rw [h.1, hemb, e]; simp
            rw [if_pos e1, if_pos e]
            exact ⟨by rw [i1]; simp [h.1], .cons rv i2⟩
          · have e1 : ¬ PyData.eqv p.1 (emb k) = true := by rw [h.1, hemb]; simp [e]
            rw [if_neg e1, if_neg e]
            exact ⟨by rw [i1]; simp [h.1], .cons r i2⟩
  · rw [if_neg c, if_neg c]
    refine ⟨by simp [h], ?_⟩
    simp only [List.map_append, List.map_cons, List.map_nil]
    exact RpL.append r (.cons rv .nil)
end
section
variable {K : PySem.W.Frag} {H : Hp} {L : Ad}
theorem Rb.keyV {k : D} {v : V} (h : Rb K H L k v) (hk : isKeyD k = true) : ∃ key, k = keyD key ∧ v = kV key := by
  cases k with
  | int i => exact ⟨.inl i, rfl, h.intV⟩
  | str x => exact ⟨.inr x, rfl, h.strV⟩
  | _ => cases hk
theorem RpL.keysV : ∀ {ds : List D} {vs : List V}, RpL K H L ds vs → ds.all isKeyD = true → ∃ ks : List Key, ds = ks.map keyD ∧ vs = ks.map kV
  | [], _, .nil, _ => ⟨[], rfl, rfl⟩
  | d :: ds, v :: vs, .cons r rl, h => by
    simp only [List.all_cons, Bool.and_eq_true] at h
    obtain ⟨k, e1, e2⟩ := r.rb.keyV h.1
    obtain ⟨ks, e3, e4⟩ := rl.keysV h.2
    exact ⟨k :: ks, by rw [e1, e3]; rfl, by rw [e2, e4]; rfl⟩
theorem Rb.keyTV {k : D} {v : V} (h : Rb K H L k v) (hk : isKeyT k = true) : ∃ (ks : List Key) (b : Addr), k = .tuple (ks.map keyD) ∧ v = .ref b ∧ H b = some (.tup (ks.map kV)) := by
  cases k with
  | tuple ds =>
    obtain ⟨b, vs, rfl, hb, rl⟩ := h.tupV
    obtain ⟨ks, e1, e2⟩ := rl.keysV hk
    subst e1 e2
    exact ⟨ks, b, rfl, rfl, hb⟩
  | _ => cases hk
/-- a dict of tuples, a dict of ints and texts, by their data -/
def splitD : List (D × D) → Bool × List (D × D)
  | (.none, .none) :: ps => (true, ps)
  | ps => (false, ps)
theorem splitD_dk {ps : List (D × D)} {kvs : List (Key × V)} (z : ps.map (·.1) = kvs.map (fun q => keyD q.1)) : splitD ps = (false, ps) := by
  unfold splitD
  split
  · cases kvs with
    | nil => simp at z
    | cons q r =>
      simp only [List.map_cons, List.cons.injEq] at z
      obtain ⟨z, _⟩ := z
      obtain ⟨qk, qv⟩ := q
      cases qk <;> cases z
  · rfl
/-- what the dict says at a key: none if the key or the dict is not of the kind -/
def dAt : D → D → Option (Option D)
  | .dict ps, k => if (asRd (.dict ps)).isSome then none else
    match splitD ps with
    | (true, qs) => if isKeyT k = true then some (dgetP qs k) else none
    | (false, qs) => if isKeyD k = true then some (dgetP qs k) else none
  | _, _ => none
theorem dAt_ok {d k : D} {v y : V} {r : Option D} (hd : Rb K H L d v) (hk : Rb K H L k y) (h : dAt d k = some r) : ∃ a o, v = .ref a ∧ IsD H a ∧ DGet H a y o ∧ (∀ x, r = some x → ∃ u, o = some u ∧ Rp K H L x u) ∧ (r = none → o = none) := by
  cases d with
  | dict ps =>
    unfold dAt at h
    dsimp only at h
    cases hr : asRd (.dict ps) with
    | some z => rw [hr] at h; cases h
    | none =>
      rw [hr] at h
      obtain ⟨a, rfl, ow⟩ := hd.dictV hr
      simp only [Option.isSome_none] at h
      cases ow with
      | dk ha z rl =>
        rw [splitD_dk z] at h
        simp only [if_false, Bool.false_eq_true] at h
        split at h
        · rename_i hkk
          obtain ⟨key, rfl, rfl⟩ := hk.keyV hkk
          cases h
          obtain ⟨g1, g2⟩ := dget_rel keyD_eqv key z rl
          exact ⟨a, _, rfl, .inl ⟨_, .inl ha⟩, DGet.k ha, fun x hx => g1 x hx, fun hx => g2 hx⟩
        · cases h
      | dt ha z rl =>
        simp only [splitD, Bool.false_eq_true, if_false] at h
        split at h
        · rename_i hkk
          obtain ⟨ks, b, rfl, rfl, hb⟩ := hk.keyTV hkk
          cases h
          obtain ⟨g1, g2⟩ := dget_rel (emb := fun k : List Key => PyData.tuple (k.map keyD)) (fun a b => by simp only [PyData.eqv]; exact keyT_eqv a b) ks z rl
          exact ⟨a, _, rfl, .inr ⟨_, .inl ha⟩, DGet.t ha hb, fun x hx => g1 x hx, fun hx => g2 hx⟩
        · cases h
      | ob _ _ _ => simp [asRd] at hr
  | _ => cases h
end
def dixF : D → D → Option D := fun d k => (dAt d k).bind id
section
variable {X : Cx} {W : WX} {o i e f' : Expr} {f g h : EF} {pos apos cpos : Pos} {k : Nat}
theorem se_dix (hr : Room k X.A) (ho : SB X W o f) (hi : SB X W i g) (hs : NoSl i := by intro _ _; rfl) : SE X W (.Subscript o i pos) (eOp dixF f g) := (pe_dget (by have := hr.un; omega) ho hi hs).weak fun σ H Q ⟨L, ρ, re, p⟩ =>
  ⟨L, ρ, re, p.step fun dx H1 x s1 rx p1 => ⟨L, ρ, re.mono s1, p1.step fun dy H2 y s2 ry p2 => by
    unfold dixF at p2
    cases hd : dAt dx dy with
    | none => rw [hd] at p2; exact p2.elim
    | some r =>
      rw [hd] at p2
      obtain ⟨a, ov, rfl, _, g, q1, q2⟩ := dAt_ok (rx.mono s2) ry hd
      cases r with
      | none => exact p2.elim
      | some z =>
        obtain ⟨u, rfl, ru⟩ := q1 z rfl
        exact ⟨a, u, rfl, g, p2 H2 u (Same.refl H2) ru⟩⟩⟩
end
/-! ### d[k] = v -/
def dPut : D → D → D → Option D
  | .dict ps, k, v => if (asRd (.dict ps)).isSome then none else
    match splitD ps with
    | (true, qs) => if (isKeyT k && decide (qs.length < sizeLine)) = true then some (.dict ((.none, .none) :: dputP qs k v)) else none
    | (false, qs) => if (isKeyD k && decide (qs.length < sizeLine)) = true then some (.dict (dputP qs k v)) else none
  | _, _, _ => none
def ownD (ρ : En) (i : Nat) (k : D → Out) : Out := match ρ[i]? with
  | some (some (.own d)) => k d
  | _ => .bad
def sPutD (i : Nat) (fk fv : EF) : SF := fun ρ => (fv ρ).out ρ fun v => ownD ρ i fun d => (fk ρ).out ρ fun k => match dPut d k v with
  | some d' => .nx (ρ.set i (some (.own d')))
  | none => .bad
section
variable {X : Cx} {W : WX} {a e : Expr} {ef eg : EF} {pos : Pos} {k : Nat}
theorem ss_putD (i : Nat) {x : Str} {p tp : Pos} (hr : Room k X.A) (hk : SB X W a ef) (he : SE X W e eg) (hN : X.N[i]? = some x := by rfl) (hv : Vis X.env.scope x := by first | exact Or.inl rfl | exact Or.inr (Or.inl rfl) | exact Or.inr (Or.inr rfl)) (hd : (x == ("__debug__" : Str)) = false := by decide)
    (hcd : (x == ("__classdict__" : Str)) = false := by decide) (hs : swapsWith e (some (.Subscript (.Name x p) a tp)) pos.line X.env = pure false := by rfl) :
    SS X W (.Assign [.Subscript (.Name x p) a tp] e pos) (sPutD i ef eg) := fun H0 Lo => (ps_dput (by have := hr.un; omega) (pe_var hN hv hd hcd) hk he hs).weak fun D σ H ⟨ρ, α, rst, p⟩ => by
  refine ⟨_, ρ, rst.re, p.expr rst fun dv H1 v s r rst1 p1 => ?_⟩
  unfold ownD at p1
  cases hi : ρ[i]? with
  | none => simp only [hi] at p1; exact p1.elim
  | some q =>
    cases q with
    | none => simp only [hi] at p1; exact p1.elim
    | some q =>
      cases q with
      | val d => simp only [hi] at p1; exact p1.elim
      | grid _ => simp only [hi] at p1; exact p1.elim
      | pin _ => simp only [hi] at p1; exact p1.elim
      | ownP _ => simp only [hi] at p1; exact p1.elim
      | own d =>
        simp only [hi] at p1
        obtain ⟨b, e1, e2, ob⟩ := rst1.own i d hi
        refine ⟨.ref b, e2, _, ρ, rst1.re, p1.exprB rst1 fun dk H2 y s2 rk rst2 p3 => ?_⟩
        have ob2 := ob.mono s2
        have hL : Lv Lo α b := .inr ⟨i, e1⟩
        have rv := r.mono s2
        cases hp : dPut d dk dv with
        | none => simp only [hp] at p3; exact p3.elim
        | some d' =>
          simp only [hp] at p3
          cases ob2 with
          | lst ha rl => cases hp
          | ob _ _ _ => unfold dPut obD at hp; simp [asRd] at hp
          | @dk _ kvs ps ha z rl =>
            unfold dPut at hp
            dsimp only at hp
            split at hp
            · cases hp
            · rw [splitD_dk z] at hp
              simp only at hp
              split at hp
              · rename_i hc
                simp only [Bool.and_eq_true, decide_eq_true_eq] at hc
                obtain ⟨key, rfl, rfl⟩ := rk.keyV hc.1
                cases hp
                have hl : kvs.length < sizeLine := by
                  have := congrArg List.length z
                  rw [List.length_map, List.length_map] at this
                  rw [← this]
                  exact hc.2
                refine ⟨b, _, rfl, DPut.k ha hl, ?_⟩
                obtain ⟨g1, g2⟩ := dput_rel keyD_eqv key (RpL.upd ha trivial hL (.cons rv .nil) |> fun q => match q with | .cons q _ => q) z (rl.upd ha trivial hL (o' := .dK (putK kvs key v)))
                obtain ⟨w1, w2⟩ := rst2.write (d' := .dict (dputP ps (keyD key) dv)) (o' := .dK (putK kvs key v)) hi e2 (.dk upd_same g1 g2)
                exact p3 α σ _ w1 w2
              · cases hp
          | @dt _ kvs ps ha z rl =>
            unfold dPut at hp
            dsimp only at hp
            split at hp
            · cases hp
            · simp only [splitD] at hp
              split at hp
              · rename_i hc
                simp only [Bool.and_eq_true, decide_eq_true_eq] at hc
                obtain ⟨ks, c, rfl, rfl, hcb⟩ := rk.keyTV hc.1
                cases hp
                have hl : kvs.length < sizeLine := by
                  have := congrArg List.length z
                  rw [List.length_map, List.length_map] at this
                  rw [← this]
                  exact hc.2
                refine ⟨b, _, rfl, DPut.t ha hcb hl, ?_⟩
                obtain ⟨g1, g2⟩ := dput_rel (emb := fun k : List Key => PyData.tuple (k.map keyD)) (fun a b => by simp only [PyData.eqv]; exact keyT_eqv a b) ks (RpL.upd ha trivial hL (.cons rv .nil) |> fun q => match q with | .cons q _ => q) z (rl.upd ha trivial hL (o' := .dT (putK kvs ks v)))
                obtain ⟨w1, w2⟩ := rst2.write (d' := .dict ((.none, .none) :: dputP ps (.tuple (ks.map keyD)) dv)) (o' := .dT (putK kvs ks v)) hi e2 (.dt upd_same g1 g2)
                exact p3 α σ _ w1 w2
              · cases hp
end
end VV

set_option Elab.async false
set_option linter.all false
set_option maxRecDepth 100000
set_option maxHeartbeats 4000000
/-! VVq: sorted(d.items()), ints to ints. -/
namespace VV
open PySem PySem.Spec L2
open PyProof.Rows hiding St
section
variable {X : Cx}
/-- a new list, not tracked yet, is sorted; then it may be tracked -/
theorem sort_new {β : Type} {enc : β → D} {R : Value → β → Prop} {us : List Value} {bs : List β} {pn : List (Addr × Obj)} {σ : St} {H : Hp} {s : Shared} {g : Heap} {tk : Nat} {l : Addr} {Q : Value → Shared → Prop} (inv : Inv X pn σ H s)
    (keep : ∀ b u, s.heap.get? b = some u → g.get? b = some u) (high : s.heap.objs.size ≤ l) (ob : g.get? l = some (seqObj "list" us.toArray 0)) (items : PySem.W.EachIs R us bs)
    (reads : PySem.W.EachIs (fun v b => ∃ as, Reads g v (enc b) as ∧ l ∉ as) us bs) (al : PySem.W.AllAlike (bs.map enc)) (so : PySem.W.Sortable (bs.map enc)) (len : bs.length ≤ sizeLine) (deep : ∀ b, b ∈ bs → X.A.in1.units + 1 + (enc b).depth < cLine)
    (go : ∀ (out : List Value) (g' : Heap), PySem.W.EachIs R out (bs.mergeSort (PySem.W.dataLe false enc)) → (∀ b u, b ≠ l → g.get? b = some u → g'.get? b = some u) →
      (∀ vs, Vals vs out → Inv X pn σ (upd H l (.lst vs)) { s with heap := g', toks := tk }) → Q .none { s with heap := g', toks := tk }) :
    wpAny (model X.prog X.w) X.A.in1 (call (.builtin "list.sort") [.ref l]) Q X.xe { s with heap := g, toks := tk } := by
  apply PySem.W.list_sort_data (s := { s with heap := g, toks := tk }) (R := R) (enc := enc) ob items reads al so len deep
  intro out many sorted
  have free : H l = none := inv.hok.fresh high
  have rest : ∀ b u, b ≠ l → g.get? b = some u → (sortedHeap g l us out.toArray).get? b = some u := fun b u ne e => (PyProof.Rows.sortedHeap_old ne (Heap.lt_size e)).trans e
  obtain ⟨n, at_⟩ := PyProof.Rows.sortedHeap_at (vs := us) (out := out.toArray) ob
  apply go out _ sorted rest
  intro vs rel
  generalize sortedHeap g l us out.toArray = g' at rest at_ ⊢
  have old : ∀ b u, s.heap.get? b = some u → g'.get? b = some u := fun b u e => rest b u (fun z => absurd (Heap.lt_size (z ▸ e)) (Nat.not_lt.mpr high)) (keep b u e)
  have fits : vs.length ≤ sizeLine := by rw [rel.length, many]; exact len
  exact (inv.kept (t' := tk) old).take (o := .lst vs) (fun _ _ _ e => e) (inv.fpOk high free) ⟨fits, out, n, rel, at_⟩
theorem pairs_len {P : Program} {w : World} : ∀ {es : List DictEntry} {vs : List (Key × Value)}, Pairs (mixKind P w) es vs → es.length = vs.length
  | _, _, .nil => rfl
  | _, _, .cons _ _ r => congrArg (· + 1) (pairs_len r)
end
end VV

set_option Elab.async false
set_option linter.all false
set_option maxRecDepth 100000
set_option maxHeartbeats 4000000
/-! VVr: the expression sorted(d.items()). -/
namespace VV
open PySem PySem.Spec L2
open PyProof.Rows hiding St
section
variable {X : Cx} {W : WX} {o : Expr} {f : EF} {p apos cpos pos : Pos} {k : Nat}
end
end VV

set_option Elab.async false
set_option linter.all false
set_option maxRecDepth 100000
set_option maxHeartbeats 4000000
/-! VVs: sorted of a list of data, of a dict's keys. -/
namespace VV
open PySem PySem.Spec L2
open PyProof.Rows hiding St
def isTupC : D → Bool
  | .tuple (_ :: _) => true
  | _ => false
def notNT : D → Bool
  | .none => false
  | .tuple _ => false
  | _ => true
/-- what list.sort can sort -/
def okSort (ds : List D) : Bool := ds.all (fun d => ds.all fun e => PySem.W.alike d e) && (ds.all isTupC || ds.all notNT) && ds.all (fun d => d.canLay0 && decide (d.depth ≤ 50))
def sortD (ds : List D) : List D := ds.mergeSort (PySem.W.dataLe false fun d : D => d)
structure OkSort (ds : List D) : Prop where
  al : PySem.W.AllAlike ds
  so : PySem.W.Sortable ds
  lay : ∀ d ∈ ds, d.canLay0 = true
  deep : ∀ d ∈ ds, d.depth ≤ 50
theorem okSort_ok {ds : List D} (h : okSort ds = true) : OkSort ds := by
  unfold okSort at h
  rw [Bool.and_eq_true, Bool.and_eq_true] at h
  obtain ⟨⟨h1, h2⟩, h3⟩ := h
  refine ⟨fun d m e m' => ?_, ?_, fun d m => ?_, fun d m => ?_⟩
  · exact List.all_eq_true.mp (List.all_eq_true.mp h1 d m) e m'
  · rcases Bool.or_eq_true _ _ |>.mp h2 with z | z
    · refine .inl fun d m => ?_
      have := List.all_eq_true.mp z d m
      unfold isTupC at this
      split at this
      · exact ⟨_, _, rfl⟩
      · cases this
    · refine .inr fun d m => ?_
      have := List.all_eq_true.mp z d m
      cases d <;> simp_all [notNT]
  · have := List.all_eq_true.mp h3 d m
    rw [Bool.and_eq_true] at this
    exact this.1
  · have := List.all_eq_true.mp h3 d m
    rw [Bool.and_eq_true] at this
    exact of_decide_eq_true this.2
section
variable {X : Cx} {K : PySem.W.Frag} {H : Hp} {L : Ad}
/-- a value with what it stands for -/
abbrev VD := V × D
def RVD (K : PySem.W.Frag) (H : Hp) (L : Ad) (u : Value) (b : VD) : Prop := RelV b.1 u ∧ Rp K H L b.2 b.1
theorem each_vd : ∀ {ds : List D} {vs : List V} {us : List Value}, RpL K H L ds vs → Vals vs us → PySem.W.EachIs (RVD K H L) us (vs.zip ds)
  | _, _, _, .nil, .nil => .nil
  | _, _, _, .cons r rl, .cons v vl => .cons ⟨v, r⟩ (each_vd rl vl)
theorem zip_snd : ∀ {ds : List D} {vs : List V}, RpL K H L ds vs → (vs.zip ds).map (·.2) = ds
  | _, _, .nil => rfl
  | _, _, .cons _ rl => by rw [List.zip_cons_cons, List.map_cons, zip_snd rl]
theorem each_back : ∀ {us : List Value} {bs : List VD}, PySem.W.EachIs (RVD K H L) us bs → Vals (bs.map (·.1)) us ∧ RpL K H L (bs.map (·.2)) (bs.map (·.1))
  | _, _, .nil => ⟨.nil, .nil⟩
  | _, _, .cons r rl => ⟨.cons r.1 (each_back rl).1, .cons r.2 (each_back rl).2⟩
theorem sort_snd (bs : List VD) : (bs.mergeSort (PySem.W.dataLe false (·.2))).map (·.2) = sortD (bs.map (·.2)) := List.map_mergeSort fun _ _ _ _ => rfl
theorem each_mem {β : Type} {R : Value → β → Prop} : ∀ {us : List Value} {bs : List β}, PySem.W.EachIs R us bs → PySem.W.EachIs (fun u b => R u b ∧ b ∈ bs) us bs
  | _, _, .nil => .nil
  | _, _, .cons r rl => .cons ⟨r, List.mem_cons_self⟩ ((each_mem rl).mono fun _ _ h => ⟨h.1, List.mem_cons_of_mem _ h.2⟩)
def sortLF : List D → Option D
  | [.list ds] => if okSort ds = true then some (.list (sortD ds)) else none
  | _ => none
theorem cl_sortedL {k : Nat} (hr : Room k X.A) (hc : X.calm = true) : ClN X (.builtin "sorted") sortLF := by
  rintro pn s σ H xs us Q inv vals ⟨L, ds, d, lv, rb, hf, go⟩
  unfold sortLF at hf
  split at hf
  case h_2 => cases hf
  rename_i es
  split at hf
  case isFalse => cases hf
  rename_i hok
  cases hf
  have O := okSort_ok hok
  obtain ⟨v, rfl, rv⟩ := rb.one
  obtain ⟨a, vs, rfl, ha, rl⟩ := rv.lstV
  obtain rfl := Vals.ref1 vals
  obtain ⟨its, rel, isl, most⟩ := inv.list (SqL.of ha)
  have each := each_vd rl rel
  have snd := zip_snd rl
  have many : (vs.zip es).length = es.length := by rw [← congrArg List.length snd, List.length_map]
  have un := hr.un
  refine PySem.W.sorted_data (R := RVD X.K H L) (enc := fun b : VD => b.2) isl.isList each ((each_mem each).mono ?_) (by rw [snd]; exact O.al) (by rw [snd]; exact O.so) (by rw [many, rl.length]; exact most) ?_ ?_
  · rintro u b ⟨⟨r1, r2⟩, m⟩
    exact Dp.reads inv b.2 b.1 u (r2.dp (O.lay _ (by rw [← snd]; exact List.mem_map_of_mem m))) r1
  · intro b m
    have := O.deep b.2 (by rw [← snd]; exact List.mem_map_of_mem m)
    omega
  intro out lout sorted
  obtain ⟨n, at_⟩ := sortedAll_at s.heap its out.toArray
  obtain ⟨v2, r2⟩ := each_back sorted
  have e2 := sort_snd (vs.zip es)
  rw [snd] at e2
  generalize hbs : (vs.zip es).mergeSort (PySem.W.dataLe false fun b : VD => b.2) = bs at v2 r2 e2 sorted
  rw [e2] at r2
  have keep : ∀ b u, s.heap.get? b = some u → (sortedAll s.heap its out.toArray).get? b = some u := fun _ _ => sortedAll_old
  generalize sortedAll s.heap its out.toArray = g at at_ keep
  have free : H (s.heap.objs.size + 1) = none := inv.hok.fresh (Nat.le_succ _)
  have fits : (bs.map (·.1)).length ≤ sizeLine := by rw [v2.length, lout, many, rl.length]; exact most
  refine ⟨.ref (s.heap.objs.size + 1), upd H (s.heap.objs.size + 1) (.lst (bs.map (·.1))), inv.laid (o := .lst (bs.map (·.1))) (t' := s.toks) keep (Nat.le_succ _) ⟨fits, out, n, v2, at_⟩, rfl, go _ _ (same_upd free) free (.lst upd_same ?_)⟩
  exact (r2.lives (Lp_new free)).mono (same_upd free)
mutual
theorem reads_lt {h : Heap} : ∀ {v : Value} {d : D} {as : List Addr}, Reads h v d as → ∀ x ∈ as, x < h.objs.size
  | _, _, _, .none, _, m => by cases m
  | _, _, _, .bool _, _, m => by cases m
  | _, _, _, .int _ _, _, m => by cases m
  | _, _, _, .str _ _, _, m => by cases m
  | _, _, _, .list e _ _ r, x, m => by
    cases m with
    | head => exact Heap.lt_size e
    | tail _ m => exact readsAll_lt r x m
  | _, _, _, .tuple _ _ _ r, x, m => readsAll_lt r x m
  | _, _, _, .dict e _ _ r q, x, m => by
    rcases List.mem_append.mp m with m | m
    · cases m with
      | head => exact Heap.lt_size e
      | tail _ m => exact readsAll_lt r x m
    · exact readsAll_lt q x m
theorem readsAll_lt {h : Heap} : ∀ {vs : List Value} {ds : List D} {as : List Addr}, ReadsAll h vs ds as → ∀ x ∈ as, x < h.objs.size
  | _, _, _, .nil, _, m => by cases m
  | _, _, _, .cons r q, x, m => by
    rcases List.mem_append.mp m with m | m
    · exact reads_lt r x m
    · exact readsAll_lt q x m
end
/-- the keys of a dict, in order, and what they stand for -/
theorem keys_each {es : Array DictEntry} {acc : Array Value} {n : Nat} (hn : es.size = n) (it : ItemsOf (fun i v => ∃ en : DictEntry, es[i]? = some en ∧ v = en.key) acc n) {bs : List VD} (len : bs.length = n) (key : ∀ (j : Nat) (en : DictEntry), es[j]? = some en → ∃ b, bs[j]? = some b ∧ RVD K H L en.key b) :
    PySem.W.EachIs (RVD K H L) acc.toList bs := by
  have aux : ∀ (us : List Value) (cs : List VD), us.length = cs.length → (∀ (j : Nat) (u : Value), us[j]? = some u → ∃ b, cs[j]? = some b ∧ RVD K H L u b) → PySem.W.EachIs (RVD K H L) us cs := by
    intro us
    induction us with
    | nil =>
      intro cs hl _
      cases cs with
      | nil => exact .nil
      | cons _ _ => cases hl
    | cons u us ih =>
      intro cs hl h
      cases cs with
      | nil => cases hl
      | cons c cs =>
        obtain ⟨b, e1, r⟩ := h 0 u rfl
        cases e1
        exact .cons r (ih cs (Nat.succ.inj hl) fun j u' hj => h (j + 1) u' hj)
  refine aux _ _ (by rw [Array.length_toList, it.1, len]) fun j u hj => ?_
  obtain ⟨en, h1, rfl⟩ := it.2 j u (by rw [← Array.getElem?_toList]; exact hj)
  exact key j en h1
/-- sorted(d): the dict's keys, collected and sorted -/
theorem sorted_dict {pn : List (Addr × Obj)} {σ : St} {H : Hp} {L : Ad} {s : Shared} {a : Addr} {ob : Obj} {es : Array DictEntry} {ep k : Nat} {bs : List VD} {Q : VK} (inv : Inv X pn σ H s) (hr : Room k X.A) (hc : X.calm = true) (lv : LvOk K H L) (plain : (a == sysModules) = false) (got : s.heap.get? a = some ob) (isd : ob.ExactDict)
    (dat : ob.data = .dict es ep) (many : bs.length = es.size) (most : es.size ≤ sizeLine) (key : ∀ (j : Nat) (en : DictEntry), es[j]? = some en → ∃ b, bs[j]? = some b ∧ RVD X.K H L en.key b) (O : OkSort (bs.map (·.2)))
    (go : ∀ (H' : Hp) (l : Addr), Same H H' → H l = none → Ow X.K H' (Lp L l) (.list (sortD (bs.map (·.2)))) l → Q (.ref l) H') : wpAny (model X.prog X.w) X.A (call (.builtin "sorted") [.ref a]) (EP X pn σ Q) X.xe s := by
  apply Calls.call_function_entry PyProof.Rows.kind_sorted PyProof.Rows.plain_sorted PyProof.Rows.entry_sorted (PyProof.Rows.args_sorted1 _)
  unfold Builtin.«sorted»
  apply wpAny_bind (m := checkCount "sorted" 1 1 _)
  apply wpAny_pure
  refine wpAny_bind (PySem.W.kdu_collect (A := X.A.in1) (kdl_raw plain isd dat) (inv.ok.hd hc) got most ?_)
  intro g tk acc keep it
  have each := keys_each (K := X.K) (H := H) (L := L) rfl it many key
  have la : acc.toList.length = bs.length := by rw [Array.length_toList, it.1, many]
  refine wpAny_bind (wpAny_newList ?_ (by rw [la, many]; exact most))
  have lies : (g.push { cls := .type "list", data := .seq acc.toList.toArray }).get? g.objs.size = some (seqObj "list" acc.toList.toArray 0) := Heap.get?_push_size _ rfl
  have up : ∀ b u, g.get? b = some u → (g.push { cls := .type "list", data := .seq acc.toList.toArray }).get? b = some u := fun b u e => Heap.get?_push_of_some _ e
  have inv1 : Inv X pn σ H { s with heap := g, toks := tk } := inv.kept keep
  generalize g.push { cls := .type "list", data := .seq acc.toList.toArray } = g2 at lies up
  have free : H g.objs.size = none := inv1.hok.fresh (Nat.le_refl _)
  have un := hr.un
  refine wpAny_bind (wpAny_holding (sort_new (enc := fun b : VD => b.2) (Q := fun _ s' => _) inv1 up (Nat.le_refl _) lies each ((each_mem each).mono ?_) O.al O.so (by rw [many]; exact most) ?_ ?_))
  · rintro u b ⟨⟨r1, r2⟩, m⟩
    obtain ⟨as, rd⟩ := Dp.reads inv1 b.2 b.1 u (r2.dp (O.lay _ (List.mem_map_of_mem m))) r1
    exact ⟨as, PyProof.Rows.Reads.keeps up rd, fun z => absurd (reads_lt rd _ z) (Nat.lt_irrefl _)⟩
  · intro b m
    have := O.deep b.2 (List.mem_map_of_mem m)
    show X.A.units + 1 + 1 + b.2.depth < cLine
    omega
  intro out g' srt rest lay
  obtain ⟨v2, r2⟩ := each_back srt
  rw [sort_snd bs] at r2
  have inv2 := lay _ v2
  refine wpAny_pure ⟨.ref g.objs.size, rfl, .ref g.objs.size, _, inv2, rfl, go _ _ (same_upd free) free (.lst upd_same ?_)⟩
  exact (r2.lives (Lp_new free)).mono (same_upd free)
/-- the keys of a dict of the layer -/
def keysD : D → Option (List D)
  | .dict ps => if (asRd (.dict ps)).isSome then none else some ((splitD ps).2.map (·.1))
  | _ => none
def sortF : List D → Option D
  | [.list ds] => if okSort ds = true then some (.list (sortD ds)) else none
  | [d] => (keysD d).bind fun ks => if okSort ks = true then some (.list (sortD ks)) else none
  | _ => none
theorem kv_at : ∀ {kvs : List (Key × V)} {vs : List (Key × Value)}, KV kvs vs → ∀ (j : Nat) (k : Key) (u : Value), vs[j]? = some (k, u) → ∃ v, kvs[j]? = some (k, v) ∧ RelV v u
  | _, _, .nil, j, k, u, h => by simp at h
  | _, _, .cons r rr, 0, k, u, h => by
    have e := Option.some.inj h
    refine ⟨_, congrArg some (Prod.ext ?_ rfl), ?_⟩
    · rw [r.1, e]
    · have := r.2
      rw [e] at this
      exact this
  | _, _, .cons r rr, j + 1, k, u, h => kv_at rr j k u h
theorem entry_key {P : Program} {w : World} : ∀ {es : List DictEntry} {vs : List (Key × Value)}, Pairs (mixKind P w) es vs → ∀ (j : Nat) (en : DictEntry), es[j]? = some en → ∃ k u, vs[j]? = some (k, u) ∧ keyIs k en.key = true
  | _, _, .nil, j, en, h => by simp at h
  | _, _, .cons h1 h2 hr, 0, en, h => by
    cases h
    exact ⟨_, _, rfl, h1⟩
  | _, _, .cons _ _ hr, j + 1, en, h => entry_key hr j en h
theorem kt_at {H : Hp} : ∀ {kvs : List (List Key × V)} {xs : List (List Key × Addr × Value)}, KT H kvs xs → ∀ (j : Nat) (y : List Key × Addr × Value), xs[j]? = some y → ∃ v, kvs[j]? = some (y.1, v) ∧ H y.2.1 = some (.tup (y.1.map kV))
  | _, _, .nil, j, y, h => by simp at h
  | _, _, .cons r rr, 0, y, h => by
    have e := Option.some.inj h
    obtain ⟨r1, r2, _⟩ := r
    rw [e] at r1 r2
    refine ⟨_, congrArg some (Prod.ext r1 rfl), ?_⟩
    rw [← r1]
    exact r2
  | _, _, .cons r rr, j + 1, y, h => kt_at rr j y h
theorem keys_map {α : Type} {f : α → D} {kvs : List (α × V)} {ps : List (D × D)} (e : ps.map (·.1) = kvs.map fun q => f q.1) (g : α → V) : (kvs.map fun q => (g q.1, f q.1)).map (·.2) = ps.map (·.1) := by
  rw [e, List.map_map]
  rfl
theorem kV_rp (k : Key) : Rp K H L (keyD k) (kV k) := by
  cases k with
  | inl i => exact .int i
  | inr x => exact .str x
theorem kVs_rp : ∀ ks : List Key, RpL K H L (ks.map keyD) (ks.map kV)
  | [] => .nil
  | k :: ks => .cons (kV_rp k) (kVs_rp ks)
theorem kt_keys {H : Hp} : ∀ {kvs : List (List Key × V)} {xs : List (List Key × Addr × Value)}, KT H kvs xs → xs.map ((fun x : VD => x.2) ∘ fun q => (V.ref q.2.1, PyData.tuple (q.1.map keyD))) = kvs.map fun q => PyData.tuple (q.1.map keyD)
  | _, _, .nil => rfl
  | _, _, .cons r rr => by
    rw [List.map_cons, List.map_cons, kt_keys rr, r.1]
    rfl
theorem cl_sortedD {k : Nat} (hr : Room k X.A) (hc : X.calm = true) : ClN X (.builtin "sorted") (fun ds => match ds with
    | [d] => (keysD d).bind fun ks => if okSort ks = true then some (.list (sortD ks)) else none
    | _ => none) := by
  rintro pn s σ H xs us Q inv vals ⟨L, ds, d, lv, rb, hf, go⟩
  dsimp only at hf
  split at hf
  case h_2 => cases hf
  rename_i d'
  cases hk : keysD d' with
  | none => rw [hk] at hf; cases hf
  | some ks =>
    rw [hk, Option.bind_some] at hf
    split at hf
    case isFalse => cases hf
    rename_i hok
    cases hf
    have O := okSort_ok hok
    unfold keysD at hk
    split at hk
    case h_2 => cases hk
    rename_i ps
    split at hk
    case isTrue => cases hk
    rename_i nrd
    cases hk
    obtain ⟨v, rfl, rv⟩ := rb.one
    obtain ⟨a, rfl, ow⟩ := rv.dictV (by simpa using nrd)
    obtain rfl := Vals.ref1 vals
    generalize hdd : (PyData.dict ps) = dd at ow
    cases ow with
    | lst _ _ => cases hdd
    | ob _ _ _ => cases hdd; simp [asRd] at nrd
    | @dk _ kvs ps' ha z rl =>
      cases hdd
      rw [splitD_dk z] at O go
      obtain ⟨most, plain, vs', rel, ob, es, ep, got, isd, dat, _, ents, _⟩ := dk_of inv.hok ha
      have l1 : es.size = vs'.length := by rw [← Array.length_toList, pairs_len ents]
      have l2 : kvs.length = vs'.length := Paired.length rel
      have ek : (kvs.map fun q => (kV q.1, keyD q.1)).map (·.2) = ps.map (·.1) := keys_map z kV
      refine sorted_dict inv hr hc lv plain got isd dat (bs := kvs.map fun q => (kV q.1, keyD q.1)) (by rw [List.length_map, l1, l2]) (by omega) (fun j en hj => ?_) (by rw [ek]; exact O) (by rw [ek]; exact go)
      obtain ⟨key, u, h1, h2⟩ := entry_key ents j en (by rw [Array.getElem?_toList]; exact hj)
      obtain ⟨v, h3, _⟩ := kv_at rel j key u h1
      exact ⟨_, by rw [List.getElem?_map, h3]; rfl, keyIs_rel h2, kV_rp key⟩
    | @dt _ kvs qs ha z rl =>
      cases hdd
      simp only [splitD] at O go
      obtain ⟨most, plain, xs, rel, ob, es, ep, got, isd, dat, ents, _, _⟩ := dt_rd inv.hok (.inl ha)
      have l1 : es.size = xs.length := size_of_entries ents
      have l2 : kvs.length = xs.length := Paired.length rel
      have ek : (xs.map fun q => (V.ref q.2.1, PyData.tuple (q.1.map keyD))).map (·.2) = qs.map (·.1) := by
        rw [z, List.map_map]
        exact kt_keys rel
      refine sorted_dict inv hr hc lv plain got isd dat (bs := xs.map fun q => (V.ref q.2.1, PyData.tuple (q.1.map keyD))) (by rw [List.length_map, l1]) (by omega) (fun j en hj => ?_) (by rw [ek]; exact O) (by rw [ek]; exact go)
      have q := entry_at ents j
      rw [hj] at q
      cases hx : xs[j]? with
      | none => rw [hx] at q; cases q
      | some y =>
        rw [hx] at q
        have e2 : en = entryOfKey (tupleKind (mixKind X.prog X.w)) y := Option.some.inj q
        obtain ⟨v, _, h3⟩ := kt_at rel j y hx
        refine ⟨_, by rw [List.getElem?_map, hx]; rfl, ?_, .tup h3 (kVs_rp _)⟩
        rw [e2]
        rfl
theorem cl_sorted {k : Nat} (hr : Room k X.A) (hc : X.calm = true) : ClN X (.builtin "sorted") sortF := by
  rintro pn s σ H xs us Q inv vals ⟨L, ds, d, lv, rb, hf, go⟩
  unfold sortF at hf
  split at hf
  · exact cl_sortedL hr hc pn s σ H xs us Q inv vals ⟨L, _, d, lv, rb, hf, go⟩
  · exact cl_sortedD hr hc pn s σ H xs us Q inv vals ⟨L, _, d, lv, rb, hf, go⟩
  · cases hf
end
end VV

set_option Elab.async false
set_option linter.all false
set_option maxRecDepth 100000
set_option maxHeartbeats 4000000
/-! VVt: d == {}, d != {}. -/
namespace VV
open PySem PySem.Spec L2
open PyProof.Rows hiding St
section
variable {prog : Program} {w : World} {A : Around} {E : Value → Shared → Prop} {s : Shared}
/-- a dict's object, its entries -/
structure DObj (h : Heap) (a : Addr) (n : Nat) : Prop where
  plain : (a == sysModules) = false
  ob : ∃ o es ep, h.get? a = some o ∧ o.ExactDict ∧ o.data = .dict es ep ∧ es.size = n
theorem DObj.typeIs {a : Addr} {n : Nat} (x : DObj s.heap a n) : s.TypeIs (.ref a) "dict" := let ⟨o, _, _, ho, hc, _⟩ := x.ob; ⟨o, ho, hc.1⟩
end
section
variable {X : Cx} {W : WX} {o : Expr} {f : EF} {p pos : Pos} {k : Nat}
end
end VV

set_option Elab.async false
set_option linter.all false
set_option maxRecDepth 100000
set_option maxHeartbeats 4000000
/-! VVu: zip of two lists or two tuples, enumerate of a list or a tuple. -/
namespace VV
open PySem PySem.Spec L2
open PyProof.Rows hiding St
def pairD (p : D × D) : D := .tuple [p.1, p.2]
def zipD (xs ys : List D) : List D := (xs.zip ys).map pairD
def zip2F : List D → Option (List D)
  | [.list xs, .list ys] => some (zipD xs ys)
  | [.tuple xs, .tuple ys] => some (zipD xs ys)
  | _ => none
def iZip (fs : List EF) : IF := fun ρ => (evA fs ρ).items zip2F
theorem zipD_length (xs ys : List D) : (zipD xs ys).length = min xs.length ys.length := by simp [zipD]
theorem zipD_get {xs ys : List D} {i : Nat} {d : D} (h : (zipD xs ys)[i]? = some d) : ∃ x y, xs[i]? = some x ∧ ys[i]? = some y ∧ d = .tuple [x, y] := by
  unfold zipD at h
  rw [List.getElem?_map] at h
  obtain ⟨p, hp, rfl⟩ := Option.map_eq_some_iff.mp h
  obtain ⟨h1, h2⟩ := List.getElem?_zip_eq_some.mp hp
  exact ⟨_, _, h1, h2, rfl⟩
section
variable {K : PySem.W.Frag}
/-- two lists that are walked at once; what their objects are, is asked at each turn -/
theorem itb_zipL {xs ys : List D} {a b : Addr} {S1 S2 : Hp → Ad → Prop} (h1 : ItB K xs (Itl K a) S1) (h2 : ItB K ys (Itl K b) S2) (g1 : ∀ H L, S1 H L → ∃ vs, H a = some (.lst vs) ∧ RpL K H L xs vs) (g2 : ∀ H L, S2 H L → ∃ vs, H b = some (.lst vs) ∧ RpL K H L ys vs) :
    ItB K (zipD xs ys) (Itz K a b) (fun H L => S1 H L ∧ S2 H L) where
  go := fun i H L ⟨s1, s2⟩ hi => by
    rw [zipD_length] at hi
    obtain ⟨vs, ha, ra⟩ := g1 H L s1
    obtain ⟨us, hb, rb⟩ := g2 H L s2
    have l1 := ra.length
    have l2 := rb.length
    exact ⟨vs, us, vs[i]'(by omega), us[i]'(by omega), SqL.of ha, SqL.of hb, by simp, by simp⟩
  stop := fun i H L ⟨s1, s2⟩ hi => by
    rw [zipD_length] at hi
    obtain ⟨vs, ha, ra⟩ := g1 H L s1
    obtain ⟨us, hb, rb⟩ := g2 H L s2
    have l1 := ra.length
    have l2 := rb.length
    exact ⟨vs, us, SqL.of ha, SqL.of hb, by omega⟩
  yld := fun i H L x H' ⟨s1, s2⟩ ⟨T, u, v, ex, hT, eH, hu, hv⟩ => by
    subst ex eH
    refine ⟨same_upd hT, fun d hd => ?_⟩
    obtain ⟨e1, e2, q1, q2, rfl⟩ := zipD_get hd
    obtain ⟨vs, ha, ra⟩ := g1 H L s1
    obtain ⟨us, hb, rb⟩ := g2 H L s2
    obtain ⟨w1, z1, r1⟩ := ra.get q1
    obtain ⟨w2, z2, r2⟩ := rb.get q2
    rw [hu vs (SqL.of ha)] at z1
    rw [hv us (SqL.of hb)] at z2
    cases z1
    cases z2
    exact .tup upd_same (.cons (r1.mono (same_upd hT)) (.cons (r2.mono (same_upd hT)) .nil))
  keep := fun H L H' L' ⟨s1, s2⟩ s l => ⟨h1.keep H L H' L' s1 s l, h2.keep H L H' L' s2 s l⟩
theorem itb_zipT {xs ys : List D} {a b : Addr} {S1 S2 : Hp → Ad → Prop} (h1 : ItB K xs (Itt K a) S1) (h2 : ItB K ys (Itt K b) S2) (g1 : ∀ H L, S1 H L → ∃ vs, H a = some (.tup vs) ∧ RpL K H L xs vs) (g2 : ∀ H L, S2 H L → ∃ vs, H b = some (.tup vs) ∧ RpL K H L ys vs) :
    ItB K (zipD xs ys) (RZ.ItzT K a b) (fun H L => S1 H L ∧ S2 H L) where
  go := fun i H L ⟨s1, s2⟩ hi => by
    rw [zipD_length] at hi
    obtain ⟨vs, ha, ra⟩ := g1 H L s1
    obtain ⟨us, hb, rb⟩ := g2 H L s2
    have l1 := ra.length
    have l2 := rb.length
    exact ⟨vs, us, vs[i]'(by omega), us[i]'(by omega), SqT.of ha, SqT.of hb, by simp, by simp⟩
  stop := fun i H L ⟨s1, s2⟩ hi => by
    rw [zipD_length] at hi
    obtain ⟨vs, ha, ra⟩ := g1 H L s1
    obtain ⟨us, hb, rb⟩ := g2 H L s2
    have l1 := ra.length
    have l2 := rb.length
    exact ⟨vs, us, SqT.of ha, SqT.of hb, by omega⟩
  yld := fun i H L x H' ⟨s1, s2⟩ ⟨T, u, v, ex, hT, eH, hu, hv⟩ => by
    subst ex eH
    refine ⟨same_upd hT, fun d hd => ?_⟩
    obtain ⟨e1, e2, q1, q2, rfl⟩ := zipD_get hd
    obtain ⟨vs, ha, ra⟩ := g1 H L s1
    obtain ⟨us, hb, rb⟩ := g2 H L s2
    obtain ⟨w1, z1, r1⟩ := ra.get q1
    obtain ⟨w2, z2, r2⟩ := rb.get q2
    rw [hu vs (SqT.of ha)] at z1
    rw [hv us (SqT.of hb)] at z2
    cases z1
    cases z2
    exact .tup upd_same (.cons (r1.mono (same_upd hT)) (.cons (r2.mono (same_upd hT)) .nil))
  keep := fun H L H' L' ⟨s1, s2⟩ s l => ⟨h1.keep H L H' L' s1 s l, h2.keep H L H' L' s2 s l⟩
theorem rp_lst {ds : List D} {a : Addr} (H : Hp) (L : Ad) (r : Rp K H L (.list ds) (.ref a)) : ∃ vs, H a = some (.lst vs) ∧ RpL K H L ds vs := by
  cases r with
  | lst h n rl => exact ⟨_, h, rl⟩
theorem rp_tup {ds : List D} {a : Addr} (H : Hp) (L : Ad) (r : Rp K H L (.tuple ds) (.ref a)) : ∃ vs, H a = some (.tup vs) ∧ RpL K H L ds vs := by
  cases r with
  | tup h rl => exact ⟨_, h, rl⟩
end
section
variable {X : Cx} {W : WX} {a b : Expr} {fs : List EF} {p pos tpos : Pos} {elts : List Expr} {kk : Nat}
theorem si_zip (hm : X.mg "zip" = none) (ha : SBA X W [a, b] fs) (hg : Gl X "zip" := by rfl) (hs : starEach [a, b] X.env = (false, eval a X.env) :: starEach [b] X.env := by rfl) (hpl : (backTo pos (starEach [b] X.env)).any (·.1) = false := by rfl) :
    SI X W (.Tuple elts kk tpos) (.Call (.Name "zip" p) [a, b] [] pos) (iZip fs) := (RZ.pi_zipA hg hm ha hs hpl).weak fun σ H R ⟨L, ρ, re, q⟩ => by
  refine ⟨L, ρ, re, ?_⟩
  unfold iZip RL.items at q
  cases hf : evA fs ρ with
  | bad => rw [hf] at q; exact q.elim
  | exc c gs => rw [hf] at q; exact q
  | ok ds =>
    rw [hf] at q
    dsimp only at q
    intro H1 vs s1 r
    unfold zip2F at q
    split at q
    · rename_i out hz
      split at hz
      · cases hz
        obtain ⟨v, w, rfl, rv, rw⟩ := r.two
        obtain ⟨a1, us1, rfl, h1, r1⟩ := rv.lstV
        obtain ⟨a2, us2, rfl, h2, r2⟩ := rw.lstV
        exact ⟨a1, a2, us1, us2, rfl, .inl ⟨SqL.of h1, SqL.of h2, q _ _ H1 s1 (itb_zipL itb_list itb_list (fun _ _ z => z) fun _ _ z => z) ⟨⟨us1, h1, r1⟩, us2, h2, r2⟩⟩⟩
      · cases hz
        obtain ⟨v, w, rfl, rv, rw⟩ := r.two
        obtain ⟨a1, us1, rfl, h1, r1⟩ := rv.tupV
        obtain ⟨a2, us2, rfl, h2, r2⟩ := rw.tupV
        exact ⟨a1, a2, us1, us2, rfl, .inr ⟨SqT.of h1, SqT.of h2, q _ _ H1 s1 (itb_zipT itb_tup itb_tup (fun _ _ z => z) fun _ _ z => z) ⟨⟨us1, h1, r1⟩, us2, h2, r2⟩⟩⟩
      · cases hz
    · exact q.elim
theorem RpL.two {K : PySem.W.Frag} {H : Hp} {L : Ad} {d e : D} {vs : List V} (h : RpL K H L [d, e] vs) : ∃ v w, vs = [v, w] ∧ Rp K H L d v ∧ Rp K H L e w := by
  cases h with
  | cons r t =>
    cases t with
    | cons r' t' =>
      cases t'
      exact ⟨_, _, rfl, r, r'⟩
theorem sis_zip (hm : X.mg "zip" = none) (ha : SA X W [a, b] fs) (hg : Gl X "zip" := by rfl) (hs : starEach [a, b] X.env = (false, eval a X.env) :: starEach [b] X.env := by rfl) (hpl : (backTo pos (starEach [b] X.env)).any (·.1) = false := by rfl) :
    SIS X W (.Tuple elts kk tpos) (.Call (.Name "zip" p) [a, b] [] pos) (iZip fs) := (RZ.pi_zipA hg hm ha hs hpl).weak fun σ H R ⟨L, ρ, re, q⟩ => by
  refine ⟨L, ρ, re, ?_⟩
  unfold iZip RL.items at q
  cases hf : evA fs ρ with
  | bad => rw [hf] at q; exact q.elim
  | exc c gs => rw [hf] at q; exact q
  | ok ds =>
    rw [hf] at q
    dsimp only at q
    intro H1 vs s1 r
    unfold zip2F at q
    split at q
    · rename_i out hz
      split at hz
      · cases hz
        obtain ⟨v, w, rfl, rv, rw⟩ := r.two
        obtain ⟨a1, us1, rfl, h1, r1⟩ := rv.rb.lstV
        obtain ⟨a2, us2, rfl, h2, r2⟩ := rw.rb.lstV
        exact ⟨a1, a2, us1, us2, rfl, .inl ⟨SqL.of h1, SqL.of h2, q _ _ H1 s1 ⟨itb_zipL its_lst.toItB its_lst.toItB rp_lst rp_lst, fun H L H' L' z ev => ⟨ev _ _ z.1, ev _ _ z.2⟩⟩ ⟨rv, rw⟩⟩⟩
      · cases hz
        obtain ⟨v, w, rfl, rv, rw⟩ := r.two
        obtain ⟨a1, us1, rfl, h1, r1⟩ := rv.tupV
        obtain ⟨a2, us2, rfl, h2, r2⟩ := rw.tupV
        exact ⟨a1, a2, us1, us2, rfl, .inr ⟨SqT.of h1, SqT.of h2, q _ _ H1 s1 ⟨itb_zipT its_tup.toItB its_tup.toItB rp_tup rp_tup, fun H L H' L' z ev => ⟨ev _ _ z.1, ev _ _ z.2⟩⟩ ⟨rv, rw⟩⟩⟩
      · cases hz
    · exact q.elim
end
end VV

set_option Elab.async false
set_option linter.all false
set_option maxRecDepth 100000
set_option maxHeartbeats 4000000
/-! VVv: enumerate of a list or a tuple. -/
namespace VV
open PySem PySem.Spec L2
open PyProof.Rows hiding St
/-! ### enumerate(v) begins -/
set_option maxHeartbeats 1000000 in
theorem enum_meets {v : Value} {o : Obj} {Φ : Heap → Prop} (B : Begins v o Φ) : Meets (Builtin.«enumerate.__new__» ⟨[.type "enumerate", v], []⟩) (fun _ R s => Φ s.heap ∧
    R (.ok (.ret (.ref (s.heap.push o).objs.size))) { s with heap := (s.heap.push o).push { cls := .type "enumerate", data := .fields #[.none, .bool false, .ref s.heap.objs.size, rawInt 0, .none, .none] } }) := by
  refine .of_wp fun prog w A R s h => ?_
  obtain ⟨hp, g, d, tk, os⟩ := s
  obtain ⟨ok, go⟩ := h
  have hsub := sub_enumerate
  have begins : ∀ {A' : Around} {E : Value → Shared → Prop} {Q : Value → Shared → Prop}, Q (.ref hp.objs.size) ⟨hp.push o, g, d, tk, os⟩ → wpAny (model prog w) A' (pyIter v) Q E ⟨hp, g, d, tk, os⟩ := fun q => B.iter prog w _ _ ⟨hp, g, d, tk, os⟩ _ ok q
  wp_walk using begins
  apply wpAny_stack_any
  intro st
  apply wpAny_pure
  split
  · rename_i c _ _ _ _ _
    cases (c == Value.type "enumerate") <;> (wp_walk using begins; exact ⟨_, rfl, go⟩)
  · wp_walk using begins; exact ⟨_, rfl, go⟩
section
variable {prog : Program} {w : World} {A : Around} {E : Value → Shared → Prop} {s : Shared}
theorem enum_call {v : Value} {o : Obj} {Φ : Heap → Prop} {Q : Value → Shared → Prop} (B : Begins v o Φ) (ok : Φ s.heap)
    (go : ∀ g : Heap, IsEnum g (s.heap.objs.size + 1) s.heap.objs.size 0 .none → g.get? s.heap.objs.size = some o → (∀ b u, s.heap.get? b = some u → g.get? b = some u) → Q (.ref (s.heap.objs.size + 1)) { s with heap := g }) :
    wpAny (model prog w) A (call (.type "enumerate") [v]) Q E s := by
  have size : (s.heap.push o).objs.size = s.heap.objs.size + 1 := Heap.size_push ..
  have inner : (s.heap.push o).get? s.heap.objs.size = some o := Heap.get?_push_size _ B.free
  apply callType_new F.called_enumerate (by decide) (F.typeCall_enumerate_1 _) (F.newCall_enumerate_1 _) (fun obj => F.args_object_init_2 obj _) F.entry_enumerate_new (enum_meets B)
  refine ⟨ok, ?_⟩
  have made : IsEnum ((s.heap.push o).push { cls := .type "enumerate", data := .fields #[.none, .bool false, .ref s.heap.objs.size, rawInt 0, .none, .none] }) (s.heap.objs.size + 1) s.heap.objs.size 0 .none := by
    rw [← size]
    exact Heap.get?_push_size _ rfl
  show _ ∧ _
  rw [size]
  exact ⟨⟨_, made, rfl⟩, go _ made (Heap.get?_push_of_some _ inner) fun b u e => Heap.get?_push_of_some _ (Heap.get?_push_of_some _ e)⟩
end
/-! ### its turns over a tuple -/
def ItE (K : PySem.W.Frag) (a : Addr) : It where
  go := fun i H => ∃ (xs : List V) (x : V), SqT K H a xs ∧ xs[i]? = some x
  yld := fun i H v H' => ∃ T x, v = .ref T ∧ H T = none ∧ H' = upd H T (.tup [.int (i : Nat), x]) ∧ ∀ xs, SqT K H a xs → xs[i]? = some x
  stop := fun i H => ∃ xs : List V, SqT K H a xs ∧ xs.length ≤ i
theorem turn_enumT {P : Program} {w : World} {K : PySem.W.Frag} {elts : List Expr} {kk : Nat} {tpos : Pos} (a e it : Addr) : Turn P w K (.Tuple elts kk tpos) (ItE K a) [e, it] e (fun i h => (∃ old, IsEnum h e it ((i : Nat) : Int) old) ∧ h.IsTupleIter it a i ∧ e ≠ it ∧ a ≠ it ∧ a ≠ e) where
  mem := List.mem_cons_self
  obj := by
    rintro i h ⟨⟨old, en⟩, ⟨o, ho, _, hd⟩, _⟩ b hb
    simp only [List.mem_cons, List.not_mem_nil, or_false] at hb
    rcases hb with rfl | rfl
    · exact ⟨_, en, nofun⟩
    · exact ⟨o, ho, fun v z => nomatch hd.symm.trans z⟩
  keep := by
    rintro i h h' ⟨⟨old, en⟩, ti, ne⟩ k
    exact ⟨⟨old, k e (by simp) _ en⟩, ti.at fun o q => k it (by simp) o q, ne⟩
  item := by
    rintro X rfl rfl rfl calm i pn s σ H E inv fp ⟨⟨old, en⟩, ti, ne1, ne2, ne3⟩ ⟨xs, x, sq, at_⟩
    obtain ⟨its, rel, tup, _⟩ := inv.tuple sq
    have le : e < s.heap.objs.size := Heap.lt_size en
    have li : it < s.heap.objs.size := by obtain ⟨_, q, _⟩ := ti; exact Heap.lt_size q
    have many := rel.length
    have here : i < xs.length := (List.getElem?_eq_some_iff.mp at_).1
    have D := Draws.tuple (prog := X.prog) (w := X.w) (A := X.A.in1) (inv.ok.hd calm) it a ne2 its.toArray
    refine wpAny_pyNext_enum_itemD D en ⟨ti, tup⟩ (by rw [List.size_toArray]; omega) ne1 (by simp only [List.mem_cons, List.not_mem_nil, or_false]; exact fun z => z.elim ne1 fun z => ne3 z.symm) ?_
    intro u g tk hu out st' tupl _ keep
    refine ⟨_, rfl, wpAny_letOwnedTupleGo_enum (s := { s with heap := g, toks := tk + 1 }) out ?_⟩
    intro g' en' same
    obtain ⟨v, hv, rv⟩ : ∃ v, its[i]? = some v ∧ RelV x v := rel.get at_
    have eu : v = u := by
      have h1 : its.toArray[i]? = some v := by simpa using hv
      exact Option.some.inj (h1.symm.trans hu)
    subst eu
    have lies : g'.get? s.heap.objs.size = some { cls := .type "tuple", data := .seq #[.int i tk, v] } := (same.2 _ (Nat.ne_of_gt le)).trans tupl
    have new : ObjOk X.prog X.w (upd H s.heap.objs.size (.tup [.int (i : Nat), x])) g' s.heap.objs.size (.tup [.int (i : Nat), x]) :=
      ⟨by rw [sizeLine_eq]; simp, [.int i tk, v], .cons ⟨_, rfl⟩ (.cons rv .nil), ⟨_, lies, rfl, _, rfl⟩⟩
    have old' : ∀ b o, b ∉ [e, it] → s.heap.get? b = some o → g'.get? b = some o := fun b o nb q => by
      simp only [List.mem_cons, List.not_mem_nil, or_false, not_or] at nb
      exact (same.2 b nb.1).trans (keep b o nb.1 nb.2 q)
    have inv1 := inv.turnedNew (t' := tk + 1) (ch := [e, it]) old' fp (Nat.le_refl _) new
    refine ⟨.ref s.heap.objs.size, _, inv1, rfl, ⟨_, x, rfl, inv.hok.fresh (Nat.le_refl _), rfl, fun ys hy => by rw [inv.tuple_inj hy sq]; exact at_⟩, ⟨⟨v, ?_⟩, st'.1.at fun o q => (same.2 it (Ne.symm ne1)).trans q, ne1, ne2, ne3⟩, ?_⟩
    · rw [show ((i + 1 : Nat) : Int) = (i : Int) + 1 by omega]
      exact en'
    · intro b hb
      have lb : b < s.heap.objs.size := by
        simp only [List.mem_cons, List.not_mem_nil, or_false] at hb
        rcases hb with rfl | rfl
        · exact le
        · exact li
      exact (upd_ne (Nat.ne_of_lt lb)).trans (fp b hb).1
  done := by
    rintro X rfl rfl rfl calm i pn s σ H E inv fp ⟨⟨old, en⟩, ti, ne1, ne2, ne3⟩ ⟨xs, sq, past⟩
    obtain ⟨its, rel, tup, _⟩ := inv.tuple sq
    obtain ⟨f0, f1, _, f3, f4, f5⟩ := fp it (by simp)
    have many := rel.length
    have D : Draws X.prog X.w X.A.in1 it [it, a] i (fun _ _ => True) (fun j h => j = i ∧ h.IsTupleIter it a i ∧ h.IsTuple a its.toArray) := by
      refine ⟨fun j h st => ?_, fun j h h' st k => ⟨st.1, st.2.1.at fun o q => k it (by simp) o q, st.2.2.at fun o q => k a (by simp) o q⟩, fun j s' Q E' lt st _ => absurd st.1 (Nat.ne_of_lt lt), fun s' Q E' st hE => ?_⟩
      · obtain ⟨o, ho, _⟩ := st.2.1
        exact ⟨o, ho⟩
      · exact wpAny_nextOf_tuple_end (inv.ok.hd calm) st.2.1 st.2.2 (by rw [Array.getElem?_eq_none_iff, List.size_toArray]; omega) hE
    exact wpAny_pyNext_enum_endD D en ⟨rfl, ti, tup⟩ fun g ext => ⟨rfl, inv.turned (t' := s.toks) (fun b o nb q => ext b o nb q) f0 f1 f3 f4 f5⟩
  self := by
    rintro A i s Q E ⟨⟨_, en⟩, _⟩ h
    exact wpAny_pyIter_enum en h
def iEnT (K : PySem.W.Frag) (ta : TA) : TI := fun σ H R => ta σ H fun vs H1 => ∃ a xs, vs = [.ref a] ∧ SqT K H1 a xs ∧ R (ItE K a) H1
theorem pi_enT {X : Cx} {e : Expr} {ta : TA} {p pos tpos : Pos} {elts : List Expr} {kk : Nat} (hg : Gl X "enumerate") (hm : X.mg "enumerate" = none) (ha : PA X [e] ta) (fst : starEach [e] X.env = [(false, eval e X.env)]) : PI X (.Tuple elts kk tpos) (.Call (.Name "enumerate" p) [e] [] pos) (iEnT X.K ta) := by
  constructor
  intro pn s σ H R inv h
  refine Call_ (ld_blt inv hg hm boot_enumerate (PyProof.Rows.callWith_type1 (thn (ha.run pos pn s σ H _ inv h) ?_) fst rfl))
  rintro us s1 ⟨_, H1, inv1, vals, a, xs, rfl, sq, go⟩
  obtain rfl := Vals.ref1 vals
  obtain ⟨its, rel, tup, _⟩ := inv1.tuple sq
  have la : a < s1.heap.objs.size := tup.lt
  apply enum_call (begins_tuple a its.toArray) tup
  intro g en ti keep
  have inv2 := inv1.kept (t' := s1.toks) keep
  refine wpAny_pyIter_enum en ⟨s1.heap.objs.size + 1, [s1.heap.objs.size + 1, s1.heap.objs.size], _, _, H1, rfl, inv2, turn_enumT a _ _, ⟨⟨.none, en⟩, ⟨_, ti, rfl, rfl⟩, Nat.succ_ne_self _, Nat.ne_of_lt la, Nat.ne_of_lt (Nat.lt_succ_of_lt la)⟩, fun b hb => ?_, go⟩
  have high : s1.heap.objs.size ≤ b := by
    simp only [List.mem_cons, List.not_mem_nil, or_false] at hb
    rcases hb with rfl | rfl
    · exact Nat.le_succ _
    · exact Nat.le_refl _
  exact inv1.fpOk high (inv1.hok.fresh high)
/-! ### in the layer -/
def enumD : Nat → List D → List D
  | _, [] => []
  | i, d :: ds => .tuple [.int (i : Nat), d] :: enumD (i + 1) ds
def enumF : List D → Option (List D)
  | [.list ds] => some (enumD 0 ds)
  | [.tuple ds] => some (enumD 0 ds)
  | _ => none
def iEnum' (fs : List EF) : IF := fun ρ => (evA fs ρ).items enumF
theorem enumD_length : ∀ (i : Nat) (ds : List D), (enumD i ds).length = ds.length
  | _, [] => rfl
  | i, _ :: ds => congrArg (· + 1) (enumD_length (i + 1) ds)
theorem enumD_get : ∀ (i : Nat) (ds : List D) (j : Nat) (d : D), (enumD i ds)[j]? = some d → ∃ x, ds[j]? = some x ∧ d = .tuple [.int ((i + j : Nat) : Int), x]
  | i, [], j, d, h => by simp [enumD] at h
  | i, x :: ds, 0, d, h => ⟨x, rfl, by simpa [enumD] using h.symm⟩
  | i, x :: ds, j + 1, d, h => by
    obtain ⟨y, h1, h2⟩ := enumD_get (i + 1) ds j d (by simpa [enumD] using h)
    exact ⟨y, by simpa using h1, by rw [h2, show i + 1 + j = i + (j + 1) by omega]⟩
section
variable {K : PySem.W.Frag}
theorem itb_enL {xs : List D} {a : Addr} {S : Hp → Ad → Prop} (h : ItB K xs (Itl K a) S) (g : ∀ H L, S H L → ∃ vs, H a = some (.lst vs) ∧ RpL K H L xs vs) : ItB K (enumD 0 xs) (Ite K a) S where
  go := fun i H L st hi => by
    rw [enumD_length] at hi
    obtain ⟨vs, ha, ra⟩ := g H L st
    have l1 := ra.length
    exact ⟨vs, vs[i]'(by omega), SqL.of ha, by simp⟩
  stop := fun i H L st hi => by
    rw [enumD_length] at hi
    obtain ⟨vs, ha, ra⟩ := g H L st
    exact ⟨vs, SqL.of ha, by rw [← ra.length]; exact hi⟩
  yld := fun i H L x H' st ⟨T, u, ex, hT, eH, hu⟩ => by
    subst ex eH
    refine ⟨same_upd hT, fun d hd => ?_⟩
    obtain ⟨y, q1, rfl⟩ := enumD_get 0 xs i d hd
    obtain ⟨vs, ha, ra⟩ := g H L st
    obtain ⟨w1, z1, r1⟩ := ra.get q1
    rw [hu vs (SqL.of ha)] at z1
    cases z1
    rw [Nat.zero_add]
    exact .tup upd_same (.cons (.int _) (.cons (r1.mono (same_upd hT)) .nil))
  keep := h.keep
theorem itb_enT {xs : List D} {a : Addr} {S : Hp → Ad → Prop} (h : ItB K xs (Itt K a) S) (g : ∀ H L, S H L → ∃ vs, H a = some (.tup vs) ∧ RpL K H L xs vs) : ItB K (enumD 0 xs) (ItE K a) S where
  go := fun i H L st hi => by
    rw [enumD_length] at hi
    obtain ⟨vs, ha, ra⟩ := g H L st
    have l1 := ra.length
    exact ⟨vs, vs[i]'(by omega), SqT.of ha, by simp⟩
  stop := fun i H L st hi => by
    rw [enumD_length] at hi
    obtain ⟨vs, ha, ra⟩ := g H L st
    exact ⟨vs, SqT.of ha, by rw [← ra.length]; exact hi⟩
  yld := fun i H L x H' st ⟨T, u, ex, hT, eH, hu⟩ => by
    subst ex eH
    refine ⟨same_upd hT, fun d hd => ?_⟩
    obtain ⟨y, q1, rfl⟩ := enumD_get 0 xs i d hd
    obtain ⟨vs, ha, ra⟩ := g H L st
    obtain ⟨w1, z1, r1⟩ := ra.get q1
    rw [hu vs (SqT.of ha)] at z1
    cases z1
    rw [Nat.zero_add]
    exact .tup upd_same (.cons (.int _) (.cons (r1.mono (same_upd hT)) .nil))
  keep := h.keep
end
section
variable {X : Cx} {W : WX} {a : Expr} {fs : List EF} {p pos tpos : Pos} {elts : List Expr} {kk : Nat}
theorem RpL.one {K : PySem.W.Frag} {H : Hp} {L : Ad} {d : D} {vs : List V} (h : RpL K H L [d] vs) : ∃ v, vs = [v] ∧ Rp K H L d v := by
  cases h with
  | cons r t =>
    cases t
    exact ⟨_, rfl, r⟩
theorem sis_enum (hm : X.mg "enumerate" = none) (ha : SA X W [a] fs) (hg : Gl X "enumerate" := by rfl) (fst : starEach [a] X.env = [(false, eval a X.env)] := by rfl) : SIS X W (.Tuple elts kk tpos) (.Call (.Name "enumerate" p) [a] [] pos) (iEnum' fs) := ⟨fun pn s σ H R inv ⟨L, ρ, re, q⟩ => by
  unfold iEnum' RL.items at q
  cases hf : evA fs ρ with
  | bad => rw [hf] at q; exact q.elim
  | exc c gs =>
    rw [hf] at q
    refine (pi_enum hg hm ha fst).run pn s σ H R inv ⟨L, ρ, re, ?_⟩
    rw [hf]
    exact q
  | ok ds =>
    rw [hf] at q
    dsimp only at q
    unfold enumF at q
    split at q
    · rename_i out hz
      split at hz
      · cases hz
        refine (pi_enum hg hm ha fst).run pn s σ H R inv ⟨L, ρ, re, ?_⟩
        rw [hf]
        intro H1 vs s1 r
        obtain ⟨v, rfl, rv⟩ := r.one
        obtain ⟨a1, us1, rfl, h1, r1⟩ := rv.rb.lstV
        exact ⟨a1, us1, rfl, SqL.of h1, q _ _ H1 s1 ⟨itb_enL its_lst.toItB rp_lst, fun H L H' L' z ev => ev _ _ z⟩ rv⟩
      · cases hz
        refine (pi_enT hg hm ha fst).run pn s σ H R inv ⟨L, ρ, re, ?_⟩
        rw [hf]
        intro H1 vs s1 r
        obtain ⟨v, rfl, rv⟩ := r.one
        obtain ⟨a1, us1, rfl, h1, r1⟩ := rv.tupV
        exact ⟨a1, us1, rfl, SqT.of h1, q _ _ H1 s1 ⟨itb_enT its_tup.toItB rp_tup, fun H L H' L' z ev => ev _ _ z⟩ rv⟩
      · cases hz
    · exact q.elim⟩
end
end VV

set_option Elab.async false
set_option linter.all false
set_option maxRecDepth 100000
set_option maxHeartbeats 4000000
/-! VVw: grids: a list of lists that the frame alone holds; made by a comprehension, read by len, written cell by cell, then a value. -/
namespace VV
open PySem PySem.Spec L2
open PyProof.Rows hiding St
section
variable {K : PySem.W.Frag} {H0 H : Hp} {Lo : Ad} {ρ : En} {α : Nat → Option Addr} {σ : St}
theorem slot_lt {i : Nat} {x : Sl} (h : RSt K H0 Lo ρ α σ H) (e : ρ[i]? = some (some x)) : i < ρ.length ∧ i < 1000 := by
  have := h.sm
  have := (List.getElem?_eq_some_iff.mp e).1
  omega
/-- a row of a grid is changed -/
theorem RSt.writeG {i n : Nat} {rows : List (List D)} {a b : Addr} {bs : List Addr} {r' : List D} {us us' : List V} (h : RSt K H0 Lo ρ α σ H) (hi : ρ[i]? = some (some (.grid (.rows rows)))) (e1 : α i = some a) (e2 : σ[i]? = some (some (.ref a)))
    (e3 : ∀ k b, bs[k]? = some b → α (vix i k) = some b) (og : Ogr K H (Lv Lo α) rows a bs) (hb : bs[n]? = some b) (hus : H b = some (.lst us)) (rl : RpL K H (Lv Lo α) r' us') :
    RSt K H0 Lo (ρ.set i (some (.grid (.rows (rows.set n r'))))) α σ (upd H b (.lst us')) ∧ Evo K Lo H α (upd H b (.lst us')) α := by
  have hL : Lv Lo α b := .inr ⟨_, e3 n b hb⟩
  obtain ⟨hlt, h1000⟩ := slot_lt h hi
  have far : ∀ {j : Nat} {x : Sl} {c : Addr}, ρ[j]? = some (some x) → α j = some c → c ≠ b := fun {j x c} ej ec z => by
    subst z
    have q := h.inj _ _ _ ec (e3 n c hb)
    have := (slot_lt h ej).2
    have := vix_ge i n
    omega
  have farG : ∀ {j : Nat} {x : Sl} {cs : List Addr}, ρ[j]? = some (some x) → (∀ k c, cs[k]? = some c → α (vix j k) = some c) → ∀ k c, cs[k]? = some c → ¬ (j = i ∧ k = n) → c ≠ b := fun {j x cs} ej ec k c hk hne z => by
    subst z
    have q := vix_inj (slot_lt h ej).2 h1000 (h.inj _ _ _ (ec k c hk) (e3 n c hb))
    exact hne q
  have new : Ogr K (upd H b (.lst us')) (Lv Lo α) (rows.set n r') a bs := by
    refine ⟨(upd_ne (far hi e1)).trans og.top, by rw [List.length_set]; exact og.len, fun k r c hr hc => ?_⟩
    by_cases hk : k = n
    · subst hk
      have ec : c = b := Option.some.inj (hc.symm.trans hb)
      subst ec
      have lt : k < rows.length := by rw [og.len]; exact (List.getElem?_eq_some_iff.mp hc).1
      rw [List.getElem?_set_self lt] at hr
      cases hr
      exact ⟨us', upd_same, RpL.upd hus trivial hL rl⟩
    · rw [List.getElem?_set_ne (Ne.symm hk)] at hr
      obtain ⟨ws, q1, q2⟩ := og.row k r c hr hc
      exact ⟨ws, (upd_ne (farG hi e3 k c hc fun z => hk z.2)).trans q1, q2.upd hus trivial hL⟩
  refine ⟨⟨⟨⟨fun z q => ?_, h.re.lv.tb.upd hus trivial⟩, by simp [h.re.len], fun j x e => ?_⟩, h.same.updN (h.new _ b (e3 n b hb)) hus trivial, h.lo, h.new, h.inj, fun j d e => ?_, by simpa using h.sm, fun j rs e => ?_, h.nl, h.pr.set (by intro _ z; cases z) fun _ c lc o => o.upd hus trivial hL (fun z => h.nl _ b (e3 n b hb) (z ▸ lc))⟩, fun d v r => r.upd hus trivial hL⟩
  · by_cases hz : z = b
    · subst hz; rw [upd_same]; simp
    · rw [upd_ne hz]; exact h.re.lv z q
  · by_cases hj : i = j
    · subst hj
      rw [List.getElem?_set_self hlt] at e
      cases e
      exact ⟨_, e2, a, bs, rfl, new⟩
    · rw [List.getElem?_set_ne hj] at e
      obtain ⟨w, f1, r⟩ := h.re.sl j x e
      refine ⟨w, f1, ?_⟩
      cases x with
      | val d => obtain ⟨v, g1, g2⟩ := r; exact ⟨v, g1, g2.upd hus trivial hL⟩
      | own d =>
        obtain ⟨c, g1, g2, g3⟩ := h.own j d e
        rw [f1] at g2
        cases g2
        exact ⟨c, rfl, g3.upd hus trivial hL (far e g1)⟩
      | grid rs =>
        obtain ⟨c, cs, g1, g2, g3, g4⟩ := h.grd j rs e
        rw [f1] at g2
        cases g2
        refine ⟨c, cs, rfl, g4.upd hus trivial hL (far e g1) fun z hz => ?_⟩
        obtain ⟨k, hk⟩ := List.mem_iff_getElem?.mp hz
        exact farG e g3 k z hk fun q => hj q.1.symm
      | pin a => exact r
      | ownP d3 =>
        obtain ⟨c, lc, _, g2, g3⟩ := h.pr.par j d3 e
        rw [f1] at g2
        cases g2
        exact ⟨c, rfl, g3.upd hus trivial hL (fun z => h.nl _ b (e3 n b hb) (z ▸ lc))⟩
  · by_cases hj : i = j
    · subst hj
      rw [List.getElem?_set_self hlt] at e
      cases e
    · rw [List.getElem?_set_ne hj] at e
      obtain ⟨c, g1, g2, g3⟩ := h.own j d e
      exact ⟨c, g1, g2, g3.upd hus trivial hL (far e g1)⟩
  · by_cases hj : i = j
    · subst hj
      rw [List.getElem?_set_self hlt] at e
      cases e
      exact ⟨a, bs, e1, e2, e3, new⟩
    · rw [List.getElem?_set_ne hj] at e
      obtain ⟨c, cs, g1, g2, g3, g4⟩ := h.grd j rs e
      refine ⟨c, cs, g1, g2, g3, g4.upd hus trivial hL (far e g1) fun z hz => ?_⟩
      obtain ⟨k, hk⟩ := List.mem_iff_getElem?.mp hz
      exact farG e g3 k z hk fun q => hj q.1.symm
/-- α without a slot's grid -/
def offG (α : Nat → Option Addr) (i : Nat) : Nat → Option Addr := fun j => if j = i ∨ (1000 ≤ j ∧ j % 1000 = i) then none else α j
theorem offG_some {i j : Nat} {a : Addr} (h : offG α i j = some a) : α j = some a ∧ ¬ (j = i ∨ (1000 ≤ j ∧ j % 1000 = i)) := by
  unfold offG at h
  split at h
  · cases h
  · exact ⟨h, by assumption⟩
theorem vix_mod {i k : Nat} (h : i < 1000) : vix i k % 1000 = i := by
  unfold vix
  omega
theorem vix_div {i k : Nat} (h : i < 1000) : vix i k / 1000 - 1 = k := by
  unfold vix
  omega
def rowsD (rows : List (List D)) : D := .list (rows.map PyData.list)
theorem rows_rp {L : Ad} {a : Addr} {bs : List Addr} {rows : List (List D)} (og : Ogr K H L rows a bs) (na : ¬ L a) (nb : ∀ b ∈ bs, ¬ L b) : Rp K H L (rowsD rows) (.ref a) := by
  refine .lst og.top na ?_
  have aux : ∀ (rs : List (List D)) (cs : List Addr), rs.length = cs.length → (∀ (k : Nat) (r : List D) (c : Addr), rs[k]? = some r → cs[k]? = some c → ¬ L c ∧ ∃ us, H c = some (.lst us) ∧ RpL K H L r us) → RpL K H L (rs.map PyData.list) (cs.map V.ref) := by
    intro rs
    induction rs with
    | nil =>
      intro cs hl _
      cases cs with
      | nil => exact .nil
      | cons _ _ => cases hl
    | cons r rs ih =>
      intro cs hl h
      cases cs with
      | nil => cases hl
      | cons c cs =>
        obtain ⟨nc, us, q1, q2⟩ := h 0 r c rfl rfl
        exact .cons (.lst q1 nc q2) (ih cs (Nat.succ.inj hl) fun k r' c' h1 h2 => h (k + 1) r' c' h1 h2)
  exact aux rows bs og.len fun k r c h1 h2 => ⟨nb c (List.mem_of_getElem? h2), og.row k r c h1 h2⟩
/-- a grid is a value from now on -/
theorem RSt.frzG {i : Nat} {rows : List (List D)} (h : RSt K H0 Lo ρ α σ H) (hi : ρ[i]? = some (some (.grid (.rows rows)))) : RSt K H0 Lo (ρ.set i (some (.val (rowsD rows)))) (offG α i) σ H ∧ Evo K Lo H α H (offG α i) := by
  obtain ⟨a, bs, e1, e2, e3, og⟩ := h.grd i _ hi
  have og : Ogr K H (Lv Lo α) rows a bs := og
  obtain ⟨hlt, h1000⟩ := slot_lt h hi
  have less : ∀ z, Lv Lo (offG α i) z → Lv Lo α z := fun z q => q.elim .inl fun ⟨j, e⟩ => .inr ⟨j, (offG_some e).1⟩
  have hL : ∀ z, Lv Lo (offG α i) z → Lv Lo α z ∨ H z = none := fun z q => .inl (less z q)
  have na : ¬ Lv Lo (offG α i) a := fun z => by
    rcases z with z | ⟨j, z⟩
    · exact h.nl i a e1 z
    · obtain ⟨z1, z2⟩ := offG_some z
      exact z2 (.inl (h.inj j i a z1 e1))
  have nb : ∀ b ∈ bs, ¬ Lv Lo (offG α i) b := fun b hb z => by
    obtain ⟨k, hk⟩ := List.mem_iff_getElem?.mp hb
    rcases z with z | ⟨j, z⟩
    · exact h.nl _ b (e3 k b hk) z
    · obtain ⟨z1, z2⟩ := offG_some z
      have ej := h.inj j _ b z1 (e3 k b hk)
      exact z2 (.inr ⟨by rw [ej]; exact vix_ge i k, by rw [ej]; exact vix_mod h1000⟩)
  have stay : ∀ {j : Nat} {x : Sl}, ρ[j]? = some (some x) → i ≠ j → offG α i j = α j := fun {j x} ej hj => by
    have := (slot_lt h ej).2
    unfold offG
    rw [if_neg (by omega)]
  have stayG : ∀ {j k : Nat} {x : Sl}, ρ[j]? = some (some x) → i ≠ j → offG α i (vix j k) = α (vix j k) := fun {j k x} ej hj => by
    have q := (slot_lt h ej).2
    have q2 := vix_ge j k
    have q3 := vix_mod (k := k) q
    unfold offG
    rw [if_neg (by omega)]
  refine ⟨⟨⟨⟨fun z q => h.re.lv z (less z q), h.re.lv.tb⟩, by simp [h.re.len], fun j x e => ?_⟩, h.same, h.lo, fun j z e => h.new j z (offG_some e).1, fun j l z f1 f2 => h.inj j l z (offG_some f1).1 (offG_some f2).1, fun j d e => ?_, by simpa using h.sm, fun j rs e => ?_, fun j z e => h.nl j z (offG_some e).1, h.pr.set (by intro _ z; cases z) fun _ _ _ o => o.lives hL⟩, fun d v r => r.lives hL⟩
  · by_cases hj : i = j
    · subst hj
      rw [List.getElem?_set_self hlt] at e
      cases e
      exact ⟨_, e2, _, rfl, rows_rp (og.lives hL) na nb⟩
    · rw [List.getElem?_set_ne hj] at e
      obtain ⟨w, f1, r⟩ := h.re.sl j x e
      exact ⟨w, f1, r.lives hL⟩
  · by_cases hj : i = j
    · subst hj
      rw [List.getElem?_set_self hlt] at e
      cases e
    · rw [List.getElem?_set_ne hj] at e
      obtain ⟨c, g1, g2, g3⟩ := h.own j d e
      exact ⟨c, (stay e hj).trans g1, g2, g3.lives hL⟩
  · by_cases hj : i = j
    · subst hj
      rw [List.getElem?_set_self hlt] at e
      cases e
    · rw [List.getElem?_set_ne hj] at e
      obtain ⟨c, cs, g1, g2, g3, g4⟩ := h.grd j rs e
      exact ⟨c, cs, (stay e hj).trans g1, g2, fun k b q => (stayG e hj).trans (g3 k b q), g4.lives hL⟩
/-- α with a grid in a slot -/
def onG (α : Nat → Option Addr) (i : Nat) (a : Addr) (bs : List Addr) : Nat → Option Addr := fun j => if j = i then some a else if 1000 ≤ j ∧ j % 1000 = i then bs[j / 1000 - 1]? else α j
/-- L and some more -/
def Lps (L : Ad) (xs : List Addr) : Ad := fun z => L z ∨ z ∈ xs
theorem onG_some {i j : Nat} {a z : Addr} {bs : List Addr} (h : onG α i a bs j = some z) : (j = i ∧ z = a) ∨ (1000 ≤ j ∧ j % 1000 = i ∧ bs[j / 1000 - 1]? = some z) ∨ α j = some z := by
  unfold onG at h
  split at h
  · cases h; exact .inl ⟨by assumption, rfl⟩
  · split at h
    · rename_i q
      exact .inr (.inl ⟨q.1, q.2, h⟩)
    · exact .inr (.inr h)
/-- a slot takes a new grid -/
theorem RSt.setGrid {i : Nat} {rows : Gr} {a : Addr} {bs : List Addr} {H1 : Hp} (i1 : i < 1000) (h : RSt K H0 Lo ρ α σ H) (s : Same H H1) (nd : (a :: bs).Nodup) (n : ∀ z ∈ a :: bs, H z = none) (og : Og K H1 (Lps (Lv Lo α) (a :: bs)) rows a bs) :
    RSt K H0 Lo (ρ.set i (some (.grid rows))) (onG α i a bs) (σ.set i (some (.ref a))) H1 ∧ Evo K Lo H α H1 (onG α i a bs) := by
  have out : ∀ z ∈ a :: bs, ¬ Lv Lo α z := fun z m q => h.re.lv z q (n z m)
  have hL : ∀ z, Lv Lo (onG α i a bs) z → Lps (Lv Lo α) (a :: bs) z := fun z q => by
    rcases q with q | ⟨j, q⟩
    · exact .inl (.inl q)
    · rcases onG_some q with ⟨_, rfl⟩ | ⟨_, _, q⟩ | q
      · exact .inr List.mem_cons_self
      · exact .inr (List.mem_cons_of_mem _ (List.mem_of_getElem? q))
      · exact .inl (.inr ⟨j, q⟩)
  have hL2 : ∀ z, Lv Lo (onG α i a bs) z → Lv Lo α z ∨ H z = none := fun z q => (hL z q).elim .inl fun e => .inr (n z e)
  have og' : Og K H1 (Lv Lo (onG α i a bs)) rows a bs := og.lives fun z q => .inl (hL z q)
  have at_ : onG α i a bs i = some a := by unfold onG; rw [if_pos rfl]
  have atv : ∀ k b, bs[k]? = some b → onG α i a bs (vix i k) = some b := fun k b q => by
    unfold onG
    rw [if_neg (by have := vix_ge i k; omega), if_pos ⟨vix_ge i k, vix_mod i1⟩, vix_div i1]
    exact q
  have stay : ∀ {j : Nat} {x : Sl}, ρ[j]? = some (some x) → i ≠ j → onG α i a bs j = α j := fun {j x} ej hj => by
    have := (slot_lt h ej).2
    unfold onG
    rw [if_neg (Ne.symm hj), if_neg (by omega)]
  have stayG : ∀ {j k : Nat} {x : Sl}, ρ[j]? = some (some x) → i ≠ j → onG α i a bs (vix j k) = α (vix j k) := fun {j k x} ej hj => by
    have q := (slot_lt h ej).2
    have q2 := vix_ge j k
    have q3 := vix_mod (k := k) q
    unfold onG
    rw [if_neg (by omega), if_neg (by omega)]
  have slot : ∀ {j : Nat} {x : Sl}, (ρ.set i (some (.grid rows)))[j]? = some (some x) → (i = j ∧ x = .grid rows ∧ i < ρ.length) ∨ (i ≠ j ∧ ρ[j]? = some (some x)) := fun {j x} e => by
    by_cases hj : i = j
    · subst hj
      by_cases hi : i < ρ.length
      · rw [List.getElem?_set_self hi] at e
        cases e
        exact .inl ⟨rfl, rfl, hi⟩
      · rw [List.getElem?_eq_none (by simpa using hi)] at e
        cases e
    · rw [List.getElem?_set_ne hj] at e
      exact .inr ⟨hj, e⟩
  refine ⟨⟨⟨⟨fun z q => ?_, h.re.lv.tb.mono s⟩, by simp [h.re.len], fun j x e => ?_⟩, h.same.trans s, h.lo, fun j z e => ?_, fun j l z f1 f2 => ?_, fun j d e => ?_, by simpa using h.sm, fun j rs e => ?_, fun j z e => ?_, h.pr.set2 (by intro _ z; cases z) fun _ _ _ o => (o.lives hL2).mono s⟩, fun d v r => (r.lives hL2).mono s⟩
  · rcases hL z q with q | q
    · exact h.re.lv.mono s z q
    · rcases List.mem_cons.mp q with rfl | q
      · exact og.there.1
      · exact og.there.2 z q
  · rcases slot e with ⟨rfl, rfl, hi⟩ | ⟨hj, e⟩
    · exact ⟨_, List.getElem?_set_self (by rw [← h.re.len]; exact hi), a, bs, rfl, og'⟩
    · obtain ⟨w, f1, r⟩ := h.re.sl j x e
      exact ⟨w, by rw [List.getElem?_set_ne hj]; exact f1, (r.lives hL2).mono s⟩
  · rcases onG_some e with ⟨_, rfl⟩ | ⟨_, _, q⟩ | q
    · exact h.same.free (n z List.mem_cons_self)
    · exact h.same.free (n z (List.mem_cons_of_mem _ (List.mem_of_getElem? q)))
    · exact h.new j z q
  · rw [List.nodup_cons] at nd
    rcases onG_some f1 with ⟨e1, e2⟩ | ⟨a1, a2, a3⟩ | a1 <;> rcases onG_some f2 with ⟨e3, e4⟩ | ⟨b1, b2, b3⟩ | b1
    · omega
    · exact absurd (e2 ▸ List.mem_of_getElem? b3) nd.1
    · exact (out z (by rw [e2]; exact List.mem_cons_self) (.inr ⟨l, b1⟩)).elim
    · exact absurd (e4 ▸ List.mem_of_getElem? a3) nd.1
    · have q := (List.getElem?_inj (List.getElem?_eq_some_iff.mp a3).1 nd.2).mp (a3.trans b3.symm)
      omega
    · exact (out z (List.mem_cons_of_mem _ (List.mem_of_getElem? a3)) (.inr ⟨l, b1⟩)).elim
    · exact (out z (by rw [e4]; exact List.mem_cons_self) (.inr ⟨j, a1⟩)).elim
    · exact (out z (List.mem_cons_of_mem _ (List.mem_of_getElem? b3)) (.inr ⟨j, a1⟩)).elim
    · exact h.inj j l z a1 b1
  · rcases slot e with ⟨_, z, _⟩ | ⟨hj, e⟩
    · cases z
    · obtain ⟨c, g1, g2, g3⟩ := h.own j d e
      exact ⟨c, (stay e hj).trans g1, by rw [List.getElem?_set_ne hj]; exact g2, (g3.lives hL2).mono s⟩
  · rcases slot e with ⟨rfl, z, hi⟩ | ⟨hj, e⟩
    · cases z
      exact ⟨a, bs, at_, List.getElem?_set_self (by rw [← h.re.len]; exact hi), atv, og'⟩
    · obtain ⟨c, cs, g1, g2, g3, g4⟩ := h.grd j rs e
      exact ⟨c, cs, (stay e hj).trans g1, by rw [List.getElem?_set_ne hj]; exact g2, fun k b q => (stayG e hj).trans (g3 k b q), (g4.lives hL2).mono s⟩
  · rcases onG_some e with ⟨_, rfl⟩ | ⟨_, _, q⟩ | q
    · exact fun lz => out z List.mem_cons_self (.inl lz)
    · exact fun lz => out z (List.mem_cons_of_mem _ (List.mem_of_getElem? q)) (.inl lz)
    · exact h.nl j z q
end
end VV

set_option Elab.async false
set_option linter.all false
set_option maxRecDepth 100000
set_option maxHeartbeats 4000000
/-! VVx: statements over grids. -/
namespace VV
open PySem PySem.Spec L2
open PyProof.Rows hiding St
/-! ### [a] * n as a new list -/
section
variable {X : Cx} {W : WX} {a b : Expr} {f g : EF} {pos : Pos}
end
/-! ### name = [new list for ..] -/
section
variable {X : Cx} {W : WX}
end
end VV

set_option Elab.async false
set_option linter.all false
set_option maxRecDepth 100000
set_option maxHeartbeats 4000000
/-! VVy: a grid frozen, measured, written. -/
namespace VV
open PySem PySem.Spec L2
open PyProof.Rows hiding St
def sFrzG (i : Nat) (f : SF) : SF := fun ρ => match ρ[i]? with
  | some (some (.grid (.rows rows))) => f (ρ.set i (some (.val (rowsD rows))))
  | some (some (.val _)) => f ρ
  | _ => .bad
def gridO (ρ : En) (i : Nat) (k : List (List D) → Out) : Out := match ρ[i]? with
  | some (some (.grid (.rows rows))) => k rows
  | _ => .bad
/-- the number of the row that an index means -/
def rowO (rows : List (List D)) (k : Nat → Out) : D → Out
  | .int j => (match ixN rows.length j with
    | some n => k n
    | none => .bad)
  | _ => .bad
section
variable {X : Cx} {W : WX} {sts : List Stmt} {f g ef : EF} {sf : SF} {a b e : Expr} {x : Str} {p px pos tp q : Pos}
theorem ss_frzG (i : Nat) (h : SSs X W sts sf) : SSs X W sts (sFrzG i sf) := fun H0 Lo => (h H0 Lo).weak fun D σ H ⟨ρ, α, rst, p⟩ => by
  unfold sFrzG at p
  cases hi : ρ[i]? with
  | none => simp only [hi] at p; exact p.elim
  | some z =>
    cases z with
    | none => simp only [hi] at p; exact p.elim
    | some z =>
      cases z with
      | own d => simp only [hi] at p; exact p.elim
      | grid g =>
        cases g with
        | stu o d => simp only [hi] at p; exact p.elim
        | rows rows =>
          simp only [hi] at p
          obtain ⟨q1, q2⟩ := rst.frzG hi
          exact ⟨_, _, q1, p.evo q2⟩
      | val d => simp only [hi] at p; exact ⟨_, _, rst, p⟩
      | pin _ => simp only [hi] at p; exact p.elim
      | ownP _ => simp only [hi] at p; exact p.elim
theorem row_at {K : PySem.W.Frag} {L : Ad} {H : Hp} {rows : List (List D)} {a : Addr} {bs : List Addr} {j : Int} {n : Nat} (og : Ogr K H L rows a bs) (hn : ixN rows.length j = some n) : ∃ c us, bs[n]? = some c ∧ L2.atI (bs.map V.ref) j = some (.ref c) ∧ H c = some (.lst us) ∧ RpL K H L (rows.getD n []) us ∧ rows[n]? = some (rows.getD n []) := by
  have lt : n < rows.length := by
    unfold ixN at hn
    split at hn
    · split at hn
      · cases hn; omega
      · cases hn
    · split at hn
      · cases hn; omega
      · cases hn
  have lt2 : n < bs.length := by rw [← og.len]; exact lt
  have er : rows[n]? = some (rows.getD n []) := by
    rw [List.getD_eq_getElem?_getD, List.getElem?_eq_getElem lt]
    rfl
  obtain ⟨us, q1, q2⟩ := og.row n _ _ er (List.getElem?_eq_getElem lt2)
  refine ⟨bs[n], us, List.getElem?_eq_getElem lt2, ?_, q1, q2, er⟩
  unfold L2.atI
  rw [List.length_map, ← og.len, hn]
  simp [lt2]
end
end VV

set_option Elab.async false
set_option linter.all false
set_option maxRecDepth 100000
set_option maxHeartbeats 4000000
/-! VVz: range with a step; in, not in. -/
namespace VV
open PySem PySem.Spec L2
open PyProof.Rows hiding St
/-! ### range(a, b, c) -/
section
variable {X : Cx} {W : WX} {a b c tg : Expr} {fs : List EF} {p pos : Pos}
end
/-! ### in, not in -/
def flatD : D → Bool
  | .none => true
  | .bool _ => true
  | .int _ => true
  | .str _ => true
  | _ => false
/-- the sign of a text of one -/
def signOf (w : Str) : Option Nat := match w.cps.toList with
  | [c] => some c
  | _ => none
theorem signOf_ok {w : Str} {c : Nat} (h : signOf w = some c) : w = ⟨#[c]⟩ := by
  obtain ⟨cps⟩ := w
  unfold signOf at h
  split at h
  · rename_i e
    cases h
    have : cps = #[c] := by
      have := congrArg List.toArray e
      simpa using this
    rw [this]
  · cases h
/-- membership of a list, of a tuple of flat things, of a text (one sign) -/
def memF : D → D → Option Bool
  | x, .list ds => if (SeqAt.shaped x && SeqAt.shaped (.list ds)) = true then some (ds.any fun z => PyData.eqv z x) else none
  | x, .tuple ds => if (flatD x && ds.all flatD) = true then some (ds.any fun z => PyData.eqv z x) else none
  | .str w, .str z => (signOf w).map fun c => decide (c ∈ z.cps.toList)
  | _, _ => none
def inF : D → D → Option D := fun x y => (memF x y).map PyData.bool
def ninF : D → D → Option D := fun x y => (memF x y).map fun b => .bool (!b)
theorem inF_b {x y d : D} (h : inF x y = some d) : ∃ b, d = .bool b := by
  unfold inF at h
  obtain ⟨b, _, rfl⟩ := Option.map_eq_some_iff.mp h
  exact ⟨b, rfl⟩
theorem ninF_b {x y d : D} (h : ninF x y = some d) : ∃ b, d = .bool b := by
  unfold ninF at h
  obtain ⟨b, _, rfl⟩ := Option.map_eq_some_iff.mp h
  exact ⟨_, rfl⟩
theorem flat_ok {K : PySem.W.Frag} {H : Hp} {L : Ad} {d : D} {v : V} (r : Rb K H L d v) (h : flatD d = true) : flatV v = true := by
  cases d with
  | none => rw [r.nonV]; rfl
  | bool b => rw [r.blV]; rfl
  | int i => rw [r.intV]; rfl
  | str x => rw [r.strV]; rfl
  | _ => cases h
theorem eqV_ok {K : PySem.W.Frag} {H : Hp} {L : Ad} {d e : D} {v w : V} (r : Rb K H L d v) (q : Rb K H L e w) (h : flatD d = true) (g : flatD e = true) : eqV v w = PyData.eqv d e := by
  cases d with
  | none =>
    rw [r.nonV]
    cases e with
    | none => rw [q.nonV]; rfl
    | bool b => rw [q.blV]; rfl
    | int i => rw [q.intV]; rfl
    | str x => rw [q.strV]; rfl
    | _ => cases g
  | bool c =>
    rw [r.blV]
    cases e with
    | none => rw [q.nonV]; rfl
    | bool b => rw [q.blV]; simp [eqV, PyData.eqv]
    | int i => rw [q.intV]; simp [eqV, PyData.eqv]
    | str x => rw [q.strV]; rfl
    | _ => cases g
  | int c =>
    rw [r.intV]
    cases e with
    | none => rw [q.nonV]; rfl
    | bool b => rw [q.blV]; simp [eqV, PyData.eqv]
    | int i => rw [q.intV]; simp [eqV, PyData.eqv]
    | str x => rw [q.strV]; rfl
    | _ => cases g
  | str c =>
    rw [r.strV]
    cases e with
    | none => rw [q.nonV]; rfl
    | bool b => rw [q.blV]; rfl
    | int i => rw [q.intV]; rfl
    | str x => rw [q.strV]; simp [eqV, PyData.eqv]
    | _ => cases g
  | _ => cases h
theorem inV_ok {K : PySem.W.Frag} {H : Hp} {L : Ad} {x : D} {v : V} (rx : Rb K H L x v) (hx : flatD x = true) : ∀ {ds : List D} {vs : List V}, RpL K H L ds vs → ds.all flatD = true → inV v vs = (ds.any fun z => PyData.eqv z x) ∧ vs.all flatV = true
  | _, _, .nil, _ => ⟨rfl, rfl⟩
  | d :: ds, w :: vs, .cons r rl, h => by
    have h2 : flatD d = true ∧ ds.all flatD = true := by simpa using h
    obtain ⟨i1, i2⟩ := inV_ok rx hx rl h2.2
    have e := eqV_ok r.rb rx h2.1 hx
    constructor
    · unfold inV at i1 ⊢
      rw [List.any_cons, List.any_cons, e, i1]
    · rw [List.all_cons, flat_ok r.rb h2.1, i2]
      rfl
section
variable {X : Cx} {k : Nat}
theorem op_inX (hr : Room k X.A) : CmD X .In inF := by
  rintro pn s σ H x y v u Q I rx ry ⟨L, dx, dy, d, lv, bx, by', hf, go⟩
  unfold inF at hf
  obtain ⟨b, hb, rfl⟩ := Option.map_eq_some_iff.mp hf
  have un := hr.un
  unfold memF at hb
  split at hb
  · split at hb
    · rename_i hz
      cases hb
      rw [Bool.and_eq_true] at hz
      exact op_inD (by omega) pn s σ H _ _ v u Q I rx ry ⟨dx, _, bx.dp (SeqAt.canLay_of_shaped hz.1), by'.dp (SeqAt.canLay_of_shaped hz.2), hz.1, hz.2, go H _ (Same.refl H) (.bl _)⟩
    · cases hb
  · split at hb
    · rename_i hz
      cases hb
      rw [Bool.and_eq_true] at hz
      obtain ⟨p, vs, rfl, hp, rl⟩ := by'.tupV
      obtain ⟨e1, e2⟩ := inV_ok bx hz.1 rl hz.2
      refine op_in_seq pn s σ H _ _ v u Q I rx ry ⟨p, vs, rfl, .inr (SqT.of hp), flat_ok bx hz.1, e2, go H _ (Same.refl H) ?_⟩
      rw [if_neg (by decide), e1]
      exact .bl _
    · cases hb
  · obtain ⟨c, hc, rfl⟩ := Option.map_eq_some_iff.mp hb
    obtain rfl := signOf_ok hc
    obtain rfl := bx.strV
    obtain rfl := by'.strV
    exact op_in_sign pn s σ H _ _ v u Q I rx ry ⟨_, _, rfl, rfl, go H _ (Same.refl H) (.bl _)⟩
  · cases hb
theorem op_ninX (hr : Room k X.A) : CmD X .NotIn ninF := by
  rintro pn s σ H x y v u Q I rx ry ⟨L, dx, dy, d, lv, bx, by', hf, go⟩
  unfold ninF at hf
  obtain ⟨b, hb, rfl⟩ := Option.map_eq_some_iff.mp hf
  have un := hr.un
  unfold memF at hb
  split at hb
  · split at hb
    · rename_i hz
      cases hb
      rw [Bool.and_eq_true] at hz
      exact op_notInD (by omega) pn s σ H _ _ v u Q I rx ry ⟨dx, _, bx.dp (SeqAt.canLay_of_shaped hz.1), by'.dp (SeqAt.canLay_of_shaped hz.2), hz.1, hz.2, go H _ (Same.refl H) (.bl _)⟩
    · cases hb
  · split at hb
    · rename_i hz
      cases hb
      rw [Bool.and_eq_true] at hz
      obtain ⟨p, vs, rfl, hp, rl⟩ := by'.tupV
      obtain ⟨e1, e2⟩ := inV_ok bx hz.1 rl hz.2
      refine op_notIn_seq pn s σ H _ _ v u Q I rx ry ⟨p, vs, rfl, .inr (SqT.of hp), flat_ok bx hz.1, e2, go H _ (Same.refl H) ?_⟩
      rw [if_pos rfl, e1]
      exact .bl _
    · cases hb
  · obtain ⟨c, hc, rfl⟩ := Option.map_eq_some_iff.mp hb
    obtain rfl := signOf_ok hc
    obtain rfl := bx.strV
    obtain rfl := by'.strV
    exact op_notIn_sign pn s σ H _ _ v u Q I rx ry ⟨_, _, rfl, rfl, go H _ (Same.refl H) (.bl _)⟩
  · cases hb
end
end VV

set_option Elab.async false
set_option linter.all false
set_option maxRecDepth 100000
set_option maxHeartbeats 4000000
/-! VWa: the head's facts with any checks; x in a module's tuple. -/
namespace VV
open PySem PySem.Spec L2
open PyProof.Rows hiding St
abbrev Chk := PySem.W.Frag → Bool
theorem chk_at {K : PySem.W.Frag} {cs : List Chk} (h : ∀ c ∈ cs, c K = true) (i : Nat) {c : Chk} (e : cs[i]? = some c) : c K = true := h c (List.mem_of_getElem? e)
/-! ### a module's tuple of flat things -/
structure TupC (K : PySem.W.Frag) (mg : Str → Option Value) (x : Str) (ds : List D) : Prop where
  glo : mg x = some (.ref (He.ga K x))
  flat : ds.all flatD = true
  lies : ∀ H : Hp, ∃ vs, SqT K H (He.ga K x) vs ∧ ∀ L : Ad, RpL K H L ds vs
section
variable {X : Cx} {W : WX} {a : Expr} {f : EF} {x : Str} {p pos : Pos} {ds : List D}
end
end VV

set_option Elab.async false
set_option linter.all false
set_option maxRecDepth 100000
set_option maxHeartbeats 4000000
/-! VWb: sorted(set(xs)) of a list of ints; xs.count(k). -/
namespace VV
open PySem PySem.Spec L2
open PyProof.Rows hiding St
section
variable {P : Program} {w : World} {A : Around} {E : Value → Shared → Prop}
theorem far {a n m : Nat} (h : a < n) (e : m = n + 1) : a ≠ m := by omega
end
/-! ### rising lists -/
/-! ### sorted(set(xs)) -/
section
variable {X : Cx} {W : WX}
end
end VV

set_option Elab.async false
set_option linter.all false
set_option maxRecDepth 100000
set_option maxHeartbeats 4000000
/-! VWc: defs that give away a new list or dict. -/
namespace VV
open PySem PySem.Spec L2
open PyProof.Rows hiding St
/-! ### return -/
section
variable {X : Cx} {W : WX} {x : Str} {p pos : Pos} {e : Expr} {ef : EF}
end
/-! ### such a def -/
def spN (K : PySem.W.Frag) (n : Nat) (f : List D → Rs) : Sp := fun vs H Q E => ∃ L ds, LvOk K H L ∧ ds.length = n ∧ RpL K H L ds vs ∧ match f ds with
  | .ok d => ∀ H' a, Same H H' → H a = none → Ow K H' (Lp L a) d a → Q (.ref a) H'
  | .exc c fs => ∀ H' x, Same H H' → XR K H' L fs x → E (.ref (He.ga K c)) x H'
  | .bad => False
structure DnN (P : Program) (w : World) (K : PySem.W.Frag) (mg : Str → Option Value) (base : Heap) (x : Str) (k n : Nat) (f : List D → Rs) : Prop where
  ex : ∃ (fa : Addr) (fd : FuncData) (ps : List Str), mg x = some (.ref fa) ∧ FnOk P w K mg base (L2.CX P w) k fa fd ps (spN K n f) ∧ PySem.W.keepIn K (.ref fa) = true ∧ Binds K fd ps []
section
variable {X : Cx} {W : WX} {x : Str} {p pos : Pos} {e : Expr} {es : List Expr} {fs : List EF}
end
end VV

set_option Elab.async false
set_option linter.all false
set_option maxRecDepth 100000
set_option maxHeartbeats 4000000
/-! VWd: try with several clauses, with names or without. -/
namespace VV
open PySem PySem.Spec L2
open PyProof.Rows hiding St
section
variable {X : Cx}
/-- an exception a of class cls that was caught: it no longer flies -/
structure Land (X : Cx) (pins : List (Addr × Obj)) (σ : St) (H : Hp) (a : Addr) (cls : Value) (d : Option Addr) (B : Heap) (t s : Shared) : Prop where
  inv : Inv X pins σ H t
  ground : ∀ b o, t.heap.get? b = some o → b ∉ frs X.stack → B.get? b = some o
  up : t.heap.UpToSlots s.heap
  fly : HandSPX.FlyingZ B (X.env :: X.outer) a (Zc cls d) s.heap
  new : H a = none
  os : s.os = t.os
  bare : AllBare s.gens
variable {pins : List (Addr × Obj)} {σ : St} {H : Hp} {a : Addr} {cls : Value} {d : Option Addr} {B : Heap} {t s : Shared} {D : Ends}
theorem Land.here (l : Land X pins σ H a cls d B t s) : Inv X pins σ H s := l.inv.landed l.ground l.fly.1 l.up l.os l.bare
theorem Land.inside (l : Land X pins σ H a cls d B t s) (hf : X.env.frame = some X.env.locals) : ∃ oe, s.heap.get? a = some oe ∧ Zc cls d oe ∧ (∃ vs, oe.data = .fields vs) ∧ Inv (X.suite a ((a, oe) :: (X.pn ++ pins))) [] σ H s := by
  obtain ⟨oe, vs, at_, z, data⟩ := l.fly.there
  have off : a ∉ frs (X.env :: X.outer) := by
    intro m
    obtain ⟨_, o, at2, no⟩ := l.fly.2.2.1.mem m
    obtain rfl := Option.some.inj (at_.symm.trans at2)
    exact no _ data
  refine ⟨oe, at_, z, ⟨vs, data⟩, l.here.suite at_ data l.new (fun e => off ?_) fun m => off ?_⟩
  · exact List.mem_filterMap.mpr ⟨X.env, by simp, e ▸ hf⟩
  · obtain ⟨en, m1, m2⟩ := List.mem_filterMap.mp m
    exact List.mem_filterMap.mpr ⟨en, List.mem_cons_of_mem _ m1, m2⟩
theorem Land.again {M : Model} {A : Around} {E : Value → Shared → Prop} {Q : Unit → Shared → Prop} (l : Land X pins σ H a cls d B t s) (go : ∀ s2, Land X pins σ H a cls d B t s2 → Q () s2) : wpAny M A (setFlight (.ref a) none) Q E s :=
  HandSPX.lands_againZ l.fly fun h fly up => go _ ⟨l.inv, l.ground, l.up.trans up, fly, l.new, l.os, l.bare⟩
/-- no clause took it -/
theorem Land.on (l : Land X pins σ H a cls d B t s) {W : WX} (hs : X.stack = X.env :: X.outer) (hf : X.env.frame = some X.env.locals) (tk : Takes X W) (w : W cls d σ H) : wpAny (model X.prog X.w) X.A (handleBy (.ref a) X.env []) (SP X pins D) X.xe s := by
  apply wpAny_handleBy_nil
  have last : wpAny (model X.prog X.w) X.A (setFlight (.ref a) X.env.frame) (fun _ s4 => wpAny (model X.prog X.w) X.A (throw (.ref a) : Sem Flow) (SP X pins D) X.xe s4) X.xe s := by
    rw [hf]
    apply HandSPX.setFlight_upZ l.fly
    intro h held up
    exact wpAny_throw (tk _ _ ⟨a, B, t, pins, σ, H, cls, d, rfl, l.inv, l.ground, l.up.trans up, .inr (.inr (hs ▸ held)), l.new, l.os, l.bare, w⟩)
  obtain ⟨oe, vs, T, oT, ts, at_, z, data, one, _⟩ := l.fly.2.2.2
  unfold PySem.passOn
  refine wpAny_bind (wpAny_field at_ data one ?_)
  rw [if_neg (by simp)]
  first
    | exact wpAny_bind (wpAny_pure (wpAny_bind last))
    | exact wpAny_bind last
/-- what a clause does with what was caught -/
def HdOk (X : Cx) (h : ExceptHandler) (c : Value) (ts : Addr → Value → Option Addr → TS) : Prop := ∀ (rest : List ExceptHandler) (pins : List (Addr × Obj)) (σ : St) (H : Hp) (a : Addr) (cls : Value) (d : Option Addr) (B : Heap) (t s : Shared) (D : Ends) (b : Bool),
  Land X pins σ H a cls d B t s → PySem.W.exmOne X.K cls c = some b → (b = true → ts a cls d D σ H) → (b = false → wpAny (model X.prog X.w) X.A (handleBy (.ref a) X.env rest) (SP X pins D) X.xe s) → wpAny (model X.prog X.w) X.A (handleBy (.ref a) X.env (h :: rest)) (SP X pins D) X.xe s
variable {x n : Str} {c : Value} {i : Nat} {suite : List Stmt} {b₀ : Stmt} {np pos' : Pos} {ts : Addr → Value → Option Addr → TS}
theorem Land.asks (l : Land X pins σ H a cls d B t s) (hf : X.env.frame = some X.env.locals) (hc : Names X x c) {b : Bool} (hb : PySem.W.exmOne X.K cls c = some b) {Q : Bool → Shared → Prop} {E : Value → Shared → Prop} (q : Q b s) :
    wpAny (model X.prog X.w) (X.A.mark (some (.ref a))) (eval (.Name x np) X.env) (fun u s1 => wpAny (model X.prog X.w) (X.A.mark (some (.ref a))) (excMatches (.ref a) u) Q E s1) E s := by
  obtain ⟨oe, at_, z, _, inv⟩ := l.inside hf
  have kind : PySem.W.Looks (model X.prog X.w) s.heap (typeOf (.ref a)) cls := fun A Q E s k q => wpAny_typeOf_ref (k _ _ at_) (by rw [z.1]; exact q)
  have told := (PySem.W.exm_one (M := model X.prog X.w) l.here.kIn kind hb).here (A := X.A.mark (some (.ref a))) (E := E) q
  obtain ⟨g, nd, m | ⟨m, v, nn⟩⟩ := hc
  · exact ld_glob (X := X.suite a ((a, oe) :: (X.pn ++ pins))) inv g m told nd
  · exact ld_blt (X := X.suite a ((a, oe) :: (X.pn ++ pins))) inv g m v told nn nd
theorem sp_out {q : Addr × Obj} {f : Flow} {s : Shared} (ok : X.Ok) (h : SP (X.suite a (q :: (X.pn ++ pins))) [] D f s) : SP X pins D f s := by
  cases f with
  | ret u =>
    obtain ⟨v, σ', H', inv, r, e⟩ := h
    exact ⟨v, σ', H', inv.unsuite ok, r, e⟩
  | _ =>
    obtain ⟨σ', H', inv, e⟩ := h
    exact ⟨σ', H', inv.unsuite ok, e⟩
def Ends.off (D : Ends) (i : Nat) : Ends := { nx := fun σ' H' => D.nx (σ'.set i none) H', rt := D.rt, bk := fun σ' H' => D.bk (σ'.set i none) H', ct := fun σ' H' => D.ct (σ'.set i none) H' }
theorem hd_as (hf : X.env.frame = some X.env.locals) (hN : X.N.Nodup) (hi : X.N[i]? = some n) (hln : X.env.kindOf n = some .local) (hc : Names X x c)
    (hsu : ∀ (a : Addr) (oe : Obj) (cls : Value) (d : Option Addr) (pn : List (Addr × Obj)), Zc cls d oe → (∃ vs, oe.data = .fields vs) → PSs (X.suite a ((a, oe) :: pn)) (b₀ :: suite) (ts a cls d)) :
    HdOk X (.ExceptHandler (some (.Name x np)) (some n) (b₀ :: suite) pos') c (fun a cls d D σ H => ts a cls d (Ends.off D i) (σ.set i (some (.ref a))) H) := by
  intro rest pins σ H a cls d B t s D b l hb yes no
  refine wpAny_handleBy_cons (codeAny_handlers_test (l.asks hf hc hb ?_)) (fun z => nomatch z)
  cases b with
  | false => exact no rfl
  | true =>
    refine codeAny_handlers_suite_as (l.again fun s2 l2 => ?_)
    obtain ⟨oe, _, z, data, inv⟩ := l2.inside hf
    refine store_ok (X := X.suite a ((a, oe) :: (X.pn ++ pins))) (v := .ref a) inv hN hi (.inl hln) rfl (fun s3 inv3 => ?_) (.inr hln)
    refine wpAny_mono ((hsu a oe cls d _ z data).run [] s3 _ H _ inv3 (yes rfl)) (fun f s4 e => ?_) fun _ _ e => e.elim
    have e2 := sp_out l.inv.ok e
    cases f with
    | ret u =>
      obtain ⟨v, σ', H', inv', r, q⟩ := e2
      exact gone_ok inv' hN hi hln fun s5 inv5 => ⟨v, _, H', inv5, r, q⟩
    | _ =>
      obtain ⟨σ', H', inv', q⟩ := e2
      exact gone_ok inv' hN hi hln fun s5 inv5 => ⟨_, H', inv5, q⟩
/-- the clauses, one behind the other -/
inductive Hds (X : Cx) : List ExceptHandler → List (Value × (Addr → Value → Option Addr → TS)) → Prop
  | nil : Hds X [] []
  | cons {h : ExceptHandler} {c : Value} {ts : Addr → Value → Option Addr → TS} {hs : List ExceptHandler} {l : List (Value × (Addr → Value → Option Addr → TS))} : HdOk X h c ts → Hds X hs l → Hds X (h :: hs) ((c, ts) :: l)
theorem Hds.take {hds : List ExceptHandler} {cs : List (Value × (Addr → Value → Option Addr → TS))} {W : WX} (hk : Hds X hds cs) (hs : X.stack = X.env :: X.outer) (hf : X.env.frame = some X.env.locals) (tk : Takes X W) (l : Land X pins σ H a cls d B t s) :
    wMany X.K W D cs cls d σ H → wpAny (model X.prog X.w) X.A (handleBy (.ref a) X.env hds) (SP X pins D) X.xe s := by
  induction hk with
  | nil => exact fun w => l.on hs hf tk w
  | cons h1 _ ih =>
    rintro ⟨b, hb, yes, no⟩
    exact h1 _ _ _ _ _ _ _ _ _ _ _ b l hb (fun e => yes e a l.new) fun e => ih (no e)
theorem ps_tries {body : List Stmt} {h₀ : ExceptHandler} {hds : List ExceptHandler} {cs : List (Value × (Addr → Value → Option Addr → TS))} {pos : Pos} {tb : WX → TS} {W : WX} (hs : X.stack = X.env :: X.outer) (hf : X.env.frame = some X.env.locals) (tk : Takes X W)
    (hb : ∀ (W : WX) (pn : List (Addr × Obj)) (xe : Value → Shared → Prop), Takes (X.tr pn xe) W → PassesOwn (model X.prog X.w) X.A X.env xe → PSs (X.tr pn xe) body (tb W)) (hk : Hds X (h₀ :: hds) cs) :
    PS X (.Try body (h₀ :: hds) [] [] pos) (fun D σ H => tb (wMany X.K W D cs) D σ H) := by
  refine ⟨fun pins s σ H D inv go => wpAny_Try_except ?_⟩
  have caught : Takes (X.tr (X.pn ++ pins) fun e s1 => wpAny (model X.prog X.w) X.A (noteFrame e X.env) (fun _ s2 => wpAny (model X.prog X.w) X.A (setFlight e none) (fun _ s3 => wpAny (model X.prog X.w) X.A (handleBy e X.env (h₀ :: hds)) (SP X pins D) X.xe s3) X.xe s2) X.xe s1) (wMany X.K W D cs) := by
    rintro _ s1 ⟨a, B, t, pins', σ1, H1, cls, d, rfl, inv1, ground, up, sky, new, os, bare, w⟩
    refine Sky.land (env := X.env) Zc.steady (by rw [inv.ok.frames, hs]) hf (show Sky B (X.env :: X.outer) a (Zc cls d) X.env.locals s1.heap from hs ▸ sky) fun h fly up2 => ?_
    exact hk.take hs hf tk ⟨inv1.ofTry inv.ok, ground, up.trans up2, fly, new, os, bare⟩ w
  refine wpAny_mono ((hb _ _ _ caught PassesOwn.looking).run [] s σ H D (inv.toTry _) go) (fun f s1 e => ?_) fun _ _ e => e
  cases f with
  | next =>
    obtain ⟨σ', H', inv', q⟩ := e
    exact wpAny_execs_nil ⟨σ', H', inv'.ofTry inv.ok, q⟩
  | ret u =>
    obtain ⟨v, σ', H', inv', r, q⟩ := e
    exact ⟨v, σ', H', inv'.ofTry inv.ok, r, q⟩
  | _ =>
    obtain ⟨σ', H', inv', q⟩ := e
    exact ⟨σ', H', inv'.ofTry inv.ok, q⟩
end
end VV

set_option Elab.async false
set_option linter.all false
set_option maxRecDepth 100000
set_option maxHeartbeats 4000000
/-! VWe: try with several clauses, as a function of slots. -/
namespace VV
open PySem PySem.Spec L2
open PyProof.Rows hiding St
/-- a clause: the slot of its name, what it takes, its suite -/
structure Cl where
  slot : Option Nat
  sub : Str → Option Bool
  suite : Str → SF
def hitAs (i : Nat) (f : SF) (fs : List (Str × D)) (ρ : En) : Out := match fs, ρ[i]? with
  | [], some _ => Out.clr i (f (ρ.set i none))
  | _, _ => .bad
def Cl.hit (k : Cl) (c : Str) (fs : List (Str × D)) (ρ : En) : Out := match k.slot with
  | none => Out.suf (k.suite c ρ)
  | some i => hitAs i (k.suite c) fs ρ
def hits : List Cl → Str → List (Str × D) → En → Out
  | [], c, fs, ρ => .exc c fs ρ
  | k :: ks, c, fs, ρ => match k.sub c with
    | some true => k.hit c fs ρ
    | some false => hits ks c fs ρ
    | none => .bad
section
variable {X : Cx} {W : WX} {x n : Str} {i : Nat} {body suite : List Stmt} {b₀ : Stmt} {np pos pos' : Pos} {fb fh : SF} {gh : Str → SF} {sub : Str → Option Bool} {h : ExceptHandler} {hds : List ExceptHandler} {k : Cl} {ks : List Cl}
abbrev Tk := Value × (Addr → Value → Option Addr → TS)
/-- what a clause's library form wishes, from what the function says -/
def Fit (X : Cx) (W : WX) (H0 : Hp) (Lo : Ad) (k : Cl) (q : Tk) : Prop := (∀ c b, k.sub c = some b → PySem.W.exmOne X.K (.ref (He.ga X.K c)) q.1 = some b) ∧
  ∀ (D : Ends) (c : Str) (fs : List (Str × VV.D)) (ρ : En) (α : Nat → Option Addr) (σ : St) (H : Hp) (xo : Option Addr) (a : Addr), k.sub c = some true → RSt X.K H0 Lo ρ α σ H → XR X.K H (Lv Lo α) fs xo → H a = none → PostS X.K H0 Lo W H α (k.hit c fs ρ) D → q.2 a (.ref (He.ga X.K c)) xo D σ H
def SHd (X : Cx) (h : ExceptHandler) (k : Cl) : Prop := ∀ (H0 : Hp) (Lo : Ad), ∃ q : Tk, HdOk X h q.1 q.2 ∧ ∀ W, Fit X W H0 Lo k q
/-- the clauses of a try -/
inductive SHs (X : Cx) : List ExceptHandler → List Cl → Prop
  | nil : SHs X [] []
  | cons {h : ExceptHandler} {k : Cl} {hds : List ExceptHandler} {ks : List Cl} : SHd X h k → SHs X hds ks → SHs X (h :: hds) (k :: ks)
theorem SHs.fits (hk : SHs X hds ks) (H0 : Hp) (Lo : Ad) : ∃ cs : List Tk, Hds X hds cs ∧ ∀ (W : WX) (D : Ends) (c : Str) (fs : List (Str × VV.D)) (ρ : En) (α : Nat → Option Addr) (σ : St) (H : Hp) (xo : Option Addr), RSt X.K H0 Lo ρ α σ H → XR X.K H (Lv Lo α) fs xo → PostS X.K H0 Lo W H α (hits ks c fs ρ) D → wMany X.K W D cs (.ref (He.ga X.K c)) xo σ H := by
  induction hk with
  | nil => exact ⟨[], .nil, fun W D c fs ρ α σ H xo rst xr p => p α σ H xo rst .refl xr⟩
  | cons h1 _ ih =>
    obtain ⟨q, ok, fit⟩ := h1 H0 Lo
    obtain ⟨cs, oks, rest⟩ := ih
    refine ⟨q :: cs, .cons ok oks, fun W D c fs ρ α σ H xo rst xr p => ?_⟩
    unfold hits at p
    split at p
    · rename_i e
      exact ⟨true, (fit W).1 c true e, fun _ a new => (fit W).2 D c fs ρ α σ H xo a e rst xr new p, fun z => absurd z.symm Bool.false_ne_true⟩
    · rename_i e
      exact ⟨false, (fit W).1 c false e, fun z => absurd z Bool.false_ne_true, fun _ => rest W D c fs ρ α σ H xo rst xr p⟩
    · exact p.elim
end
end VV

set_option Elab.async false
set_option linter.all false
set_option maxRecDepth 100000
set_option maxHeartbeats 4000000
/-! VWf: tuples known to the object: tuple(..), ==, dict(..); d.get(k). -/
namespace VV
open PySem PySem.Spec L2
open PyProof.Rows hiding St
section
variable {K : PySem.W.Frag} {H : Hp} {L : Ad}
end
section
variable {X : Cx}
end
end VV

set_option Elab.async false
set_option linter.all false
set_option maxRecDepth 100000
set_option maxHeartbeats 4000000
/-! VWg: dict(tuple of pairs whose keys are tuples); d.get(k). -/
namespace VV
open PySem PySem.Spec L2
open PyProof.Rows hiding St
/-- a pair's tuple, its key, the key's tuple, its value -/
structure Pz where
  at_ : Addr
  key : List Key
  kat : Addr
  val : V
abbrev keyT (ks : List Key) : D := .tuple (ks.map keyD)
section
variable {K : PySem.W.Frag} {H : Hp} {L : Ad}
end
section
variable {X : Cx} {pins : List (Addr × Obj)} {σ : St} {H : Hp} {s : Shared}
end
/-! ### d.get(k) -/
section
variable {X : Cx} {W : WX} {o e : Expr} {f g : EF} {apos cpos : Pos} {k : Nat}
end
end VV

set_option Elab.async false
set_option linter.all false
set_option maxRecDepth 100000
set_option maxHeartbeats 4000000
/-! VWh: xs.index(x), data of any depth. -/
namespace VV
open PySem PySem.Spec L2
open PyProof.Rows hiding St
section
variable {X : Cx} {W : WX}
end
end VV

set_option Elab.async false
set_option linter.all false
set_option maxRecDepth 100000
set_option maxHeartbeats 4000000
/-! VWi: membership in tuples of data of any depth, known to the object or not. -/
namespace VV
open PySem PySem.Spec L2
open PyProof.Rows hiding St
section
variable {X : Cx}
end
end VV

set_option Elab.async false
set_option linter.all false
set_option maxRecDepth 100000
set_option maxHeartbeats 4000000
/-! VWj: one clause of a comprehension, whatever it makes; a dict made by two clauses, keys tuples. -/
namespace VV
open PySem PySem.Spec L2
open PyProof.Rows hiding St
/-! ### a clause -/
/-- σ2 has what σ has -/
def Knows (σ σ2 : St) : Prop := σ.length = σ2.length ∧ ∀ (j : Nat) v, σ[j]? = some (some v) → σ2[j]? = some (some v)
theorem Knows.trans {a b c : St} (h : Knows a b) (k : Knows b c) : Knows a c := ⟨h.1.trans k.1, fun j v e => k.2 j v (h.2 j v e)⟩
section
variable {X : Cx} {pins : List (Addr × Obj)} {σb : St} {ce : Expr} {d : Nat} {acc : Value} {iter tg : Expr} {ifs : List Expr} {act : Sem Fin} {it : Addr} {fp : List Addr} {tn : Nat → Heap → Prop} {J : It} {g : TG} {tt : TT} {R : Result → Shared → Prop} {s : Shared} {H : Hp}
end
end VV

set_option Elab.async false
set_option linter.all false
set_option maxRecDepth 100000
set_option maxHeartbeats 4000000
/-! VWk: {k: v for .. in .. for .. in ..}, keys tuples. -/
namespace VV
open PySem PySem.Spec L2
open PyProof.Rows hiding St
theorem Knows.out {σ σ2 : St} {vs vs1 : List Nat} (h : Knows (L2.wipe σ vs) σ2) (sub : ∀ i ∈ vs1, i ∈ vs) : Knows (L2.wipe σ vs) (L2.wipe σ2 vs1) :=
  ⟨h.1.trans (wipe_length σ2 vs1).symm, fun j v e => by
    rw [wipe_at fun z => (wipe_some e).2 (sub j z)]
    exact h.2 j v e⟩
section
variable {P : Program} {w : World} {A : Around} {R : Result → Shared → Prop} {s : Shared} {ce : Expr} {d : Nat} {it acc : Value} {env : Env}
end
/-! ### the walk -/
section
variable {X : Cx} {kx vx tg iter tg1 iter1 : Expr} {ifs ifs1 : List Expr} {scope : Scope} {own : List (Str × Nat)} {vs1 : List Nat} {pos : Pos} {wi wi1 : TI} {g g1 : TG} {tt tt1 : TT} {tk tv : TE}
end
end VV

set_option Elab.async false
set_option linter.all false
set_option maxRecDepth 100000
set_option maxHeartbeats 4000000
/-! VWl: what {k: v for .. for ..} tells: the dict of the pairs that the list would have. -/
namespace VV
open PySem PySem.Spec L2
open PyProof.Rows hiding St
/-- the dict so far, at D -/
def Sofar (K : PySem.W.Frag) (H : Hp) (L : Ad) (D : Addr) (acc : List (VV.D × VV.D)) : Prop := ∃ kvs : List (List Key × V), H D = some (.dT kvs) ∧ acc.map (·.1) = kvs.map (fun q => keyT q.1) ∧ RpL K H L (acc.map (·.2)) (kvs.map (·.2))
theorem Sofar.mono {K : PySem.W.Frag} {H H' : Hp} {L : Ad} {D : Addr} {acc : List (VV.D × VV.D)} (h : Sofar K H L D acc) (s : Same H H') : Sofar K H' L D acc :=
  let ⟨kvs, a, b, c⟩ := h
  ⟨kvs, s _ _ a, b, c.mono s⟩
section
variable {X : Cx} {W : WX}
variable {kx vx tg iter tg1 iter1 : Expr} {ifs ifs1 : List Expr} {scope : Scope} {own : List (Str × Nat)} {pos : Pos} {fi fi1 : IF} {t t1 : Tg} {c c1 ek ev : EF} {i : Nat} {x : Str} {k : Nat}
end
/-! ### k in d, k not in d, as tests -/
section
variable {X : Cx} {W : WX} {i o : Expr} {f g : EF} {pos : Pos} {k : Nat}
end
end VV

set_option Elab.async false
set_option linter.all false
set_option maxRecDepth 100000
set_option maxHeartbeats 4000000
/-! VWm: dicts of tuples that are known to the object: dict(..), k in d, d[k], list(d), for k in d. -/
namespace VV
open PySem PySem.Spec L2
open PyProof.Rows hiding St
section
variable {K : PySem.W.Frag} {H : Hp} {L : Ad}
end
section
variable {X : Cx} {W : WX} {o i : Expr} {f g : EF} {pos : Pos} {k : Nat}
end
/-! ### list(d) -/
section
variable {X : Cx} {W : WX} {tg e : Expr} {f : EF}
/-! ### for k in d, in a comprehension -/
end
/-! ### the sum of two tuples known to the object -/
end VV

set_option Elab.async false
set_option linter.all false
set_option maxRecDepth 100000
set_option maxHeartbeats 4000000
/-! VWn: a, b, .. = a list. -/
namespace VV
open PySem PySem.Spec L2
open PyProof.Rows hiding St
section
variable {X : Cx} {W : WX} {e : Expr} {ef : EF} {pos p : Pos}
end
end VV

set_option Elab.async false
set_option linter.all false
set_option maxRecDepth 100000
set_option maxHeartbeats 4000000
/-! VWo: {k: v, ..}, keys ints and texts; list(range(n)). -/
namespace VV
open PySem PySem.Spec L2
open PyProof.Rows hiding St
/-! ### {k: v, ..} -/
def trsOf (K : PySem.W.Frag) (W : WX) (fs : List (EF × EF)) : List (TE × TE) := fs.map fun p => (tE K W p.1, tE K W p.2)
abbrev SP (X : Cx) (W : WX) (pos : Pos) (ks : List (Option Expr)) (vs : List Expr) (fs : List (EF × EF)) : Prop := PPs X pos ks vs (trsOf X.K W fs)
section
variable {X : Cx} {W : WX} {pos : Pos} {ks : List (Option Expr)} {vs : List Expr} {k v : Expr} {f g : EF} {fs : List (EF × EF)}
end
/-! ### list(range(n)) -/
section
variable {X : Cx} {W : WX}
end
end VV

set_option Elab.async false
set_option linter.all false
set_option maxRecDepth 100000
set_option maxHeartbeats 4000000
/-! VWp: xs.index(x, i); min(xs), data that are alike. -/
namespace VV
open PySem PySem.Spec L2
open PyProof.Rows hiding St
/-! ### xs.index(x, i) -/
section
variable {X : Cx} {W : WX}
/-! ### min of data -/
end
end VV

set_option Elab.async false
set_option linter.all false
set_option maxRecDepth 100000
set_option maxHeartbeats 4000000
/-! VWq: xs.remove(x); sorted(set(xs)) of many ints. -/
namespace VV
open PySem PySem.Spec L2
open PyProof.Rows hiding St
/-! ### xs.remove(x) -/
section
variable {X : Cx} {W : WX} {e : Expr} {ef : EF} {pos : Pos}
end
/-! ### sorted(set(xs)), many ints -/
section
variable {X : Cx} {W : WX}
end
end VV

set_option Elab.async false
set_option linter.all false
set_option maxRecDepth 100000
set_option maxHeartbeats 4000000
/-! VWr: len(set(xs)), tuples of ints; calls that leave keywords out. -/
namespace VV
open PySem PySem.Spec L2
open PyProof.Rows hiding St
/-! ### len(set(xs)) -/
section
variable {X : Cx} {W : WX}
/-! ### a call that leaves keywords out -/
def constV : D → V
  | .int i => .int i
  | .str x => .str x
  | .bool b => .bl b
  | _ => .non
structure DkD (P : Program) (w : World) (K : PySem.W.Frag) (mg : Str → Option Value) (base : Heap) (x : Str) (k n : Nat) (ks : List Str) (dv : List D) (f : List D → Rs) : Prop where
  ex : ∃ (fa : Addr) (fd : FuncData) (ps : List Str) (gN : List Value → List Value → List Value), mg x = some (.ref fa) ∧ FnOk P w K mg base (L2.CX P w) k fa fd ps (spP K (n + ks.length + dv.length) f) ∧ PySem.W.keepIn K (.ref fa) = true ∧ KBn K fd ps n ks gN (fun vs zs => vs ++ zs ++ dv.map constV)
variable {e : Expr} {es : List Expr} {kws : List Keyword} {fs gs : List EF} {p pos : Pos} {x : Str} {ks : List Str}
end
end VV

set_option Elab.async false
set_option linter.all false
set_option maxRecDepth 100000
set_option maxHeartbeats 4000000
/-! VWs: a for over a list that may be changed, and is not changed by the body. -/
namespace VV
open PySem PySem.Spec L2
open PyProof.Rows hiding St
open Classical in
section
variable {K : PySem.W.Frag} {H0 H : Hp} {Lo : Ad} {ρ : En} {α : Nat → Option Addr} {σ : St}
open Classical in
noncomputable def with1 (H0 : Hp) (l : Addr) (o : HO) : Hp := fun a => if a = l then some o else H0 a
theorem with1_same {l : Addr} {o : HO} : with1 H0 l o l = some o := by
  unfold with1
  rw [if_pos rfl]
theorem with1_ne {l a : Addr} {o : HO} (h : a ≠ l) : with1 H0 l o a = H0 a := by
  unfold with1
  rw [if_neg h]
theorem _root_.VV.Same.with1 {G G' : Hp} {l : Addr} {o : HO} (s : Same G G') (hl : G' l = some o) (n : NC l o) : Same (VV.with1 G l o) G' := ⟨fun b u hb nt => by
  by_cases e : b = l
  · subst e; rw [with1_same] at hb; cases hb; exact hl
  · rw [with1_ne e] at hb; exact s.go b u hb nt, fun b hb => by
  have e : b ≠ l := fun z => by subst z; rw [hl] at hb; cases hb
  rw [with1_ne e]; exact s.fre b hb, fun P t => by
  have t2 : LamX.TabS (upd G l o) P lamQ := tabS_off t with1_same n fun b hb => by rw [with1_ne hb, upd_ne hb]
  obtain ⟨ps, h1, h2, h3⟩ := t2
  have nP : P ≠ l := fun z => by subst z; rw [upd_same] at h1; cases h1; exact n
  have t3 : LamX.TabS G P lamQ := ⟨ps, by rw [upd_ne nP] at h1; exact h1, h2, fun pos cv hc => by
    obtain ⟨c, e1, e2⟩ := h3 pos cv hc
    have nc : c ≠ l := fun z => by subst z; rw [upd_same] at e2; cases e2; exact nc_code n
    exact ⟨c, e1, by rw [upd_ne nc] at e2; exact e2⟩⟩
  exact s.tab P t3⟩
theorem _root_.VV.Same.re1 {G G' : Hp} {l : Addr} {o o' : HO} (s : Same (VV.with1 G l o) G') (hl : G' l = some o) (n : NC l o) (n' : NC l o') : Same (VV.with1 G l o') (upd G' l o') := ⟨fun b u hb nt => by
  by_cases e : b = l
  · subst e; rw [with1_same] at hb; cases hb; exact upd_same
  · rw [with1_ne e] at hb; rw [upd_ne e]; exact s.go b u (by rw [with1_ne e]; exact hb) nt, fun b hb => by
  have e : b ≠ l := fun z => by subst z; rw [upd_same] at hb; cases hb
  rw [upd_ne e] at hb
  have := s.fre b hb
  rw [with1_ne e] at this ⊢; exact this, fun P t => tabS_upd (s.tab P (tabS_off t with1_same n' fun b hb => by rw [with1_ne hb, with1_ne hb]) |> fun t => t) hl n⟩

/-- the list is laid aside -/
theorem RSt.pin {i : Nat} {ds : List D} (h : RSt K H0 Lo ρ α σ H) (hi : ρ[i]? = some (some (.own (.list ds)))) : ∃ l vs, σ[i]? = some (some (.ref l)) ∧ H l = some (.lst vs) ∧ RpL K H (Lv Lo α) ds vs ∧ (H0 l = none ∧ ¬ Lo l) ∧ i < ρ.length ∧
    RSt K (with1 H0 l (.lst vs)) (fun a => Lo a ∨ a = l) (ρ.set i (some (.pin l))) (VV.rms α [i]) σ H ∧ ∀ a, Lv (fun a => Lo a ∨ a = l) (VV.rms α [i]) a → Lv Lo α a := by
  obtain ⟨l, e1, e2, ob⟩ := h.own i _ hi
  have hlt : i < ρ.length := by
    rcases Nat.lt_or_ge i ρ.length with q | q
    · exact q
    · rw [List.getElem?_eq_none q] at hi; cases hi
  cases ob with
  | lst hl rl =>
    rename_i vs
    have h0 := h.new i l e1
    have hLv : ∀ a, Lv (fun a => Lo a ∨ a = l) (VV.rms α [i]) a → Lv Lo α a := fun a z => by
      rcases z with (z | z) | ⟨j, z⟩
      · exact .inl z
      · subst z; exact .inr ⟨i, e1⟩
      · exact .inr ⟨j, (rms_some z).1⟩
    have hL : ∀ z, Lv (fun a => Lo a ∨ a = l) (VV.rms α [i]) z → Lv Lo α z ∨ H z = none := fun z q => .inl (hLv z q)
    have ne : ∀ j a, VV.rms α [i] j = some a → a ≠ l := fun j a q e => by
      subst e
      obtain ⟨z1, z2⟩ := rms_some q
      have ej := h.inj i j a e1 z1
      have := h.sm
      exact z2 ⟨by simp [ej], by omega⟩
    refine ⟨l, vs, e2, hl, rl, ⟨h0, h.nl i l e1⟩, hlt, ⟨⟨⟨fun z q => h.re.lv z (hLv z q), h.re.lv.tb⟩, by simp [h.re.len], fun j x e => ?_⟩, h.same.with1 hl trivial, fun a z => ?_, fun j a e => ?_, fun j k z f1 f2 => h.inj j k z (rms_some f1).1 (rms_some f2).1, fun j d2 e => ?_, by simpa using h.sm, fun j rows e => ?_, fun j a e z => z.elim (h.nl j a (rms_some e).1) (ne j a e), ⟨fun j d e => ?_, (h.pr.set (x := some (.pin l)) (H1 := H) (L1 := Lv Lo α) (by intro _ z; cases z) fun _ _ _ o => o).one⟩⟩, hLv⟩
    · by_cases hj : i = j
      · subst hj
        rw [List.getElem?_set_self hlt] at e
        cases e
        exact ⟨_, e2, rfl⟩
      · rw [List.getElem?_set_ne hj] at e
        obtain ⟨w, f1, r⟩ := h.re.sl j x e
        exact ⟨w, f1, r.lives hL⟩
    · intro za zb na nb
      have h1 : a ≠ l := fun q => by subst q; rw [with1_same] at na; cases na
      have h2 : z ≠ l := fun q => by subst q; rw [with1_same] at nb; cases nb
      rw [with1_ne h1] at na
      rw [with1_ne h2] at nb
      exact h.lo a z (za.resolve_right h1) (zb.resolve_right h2) na nb
    · rw [with1_ne (ne j a e)]
      exact h.new j a (rms_some e).1
    · by_cases hj : i = j
      · subst hj
        rw [List.getElem?_set_self hlt] at e
        cases e
      · rw [List.getElem?_set_ne hj] at e
        obtain ⟨c, g1, g2, g3⟩ := h.own j d2 e
        exact ⟨c, (rms_off (by simp [Ne.symm hj])).trans g1, g2, g3.lives hL⟩
    · by_cases hj : i = j
      · subst hj
        rw [List.getElem?_set_self hlt] at e
        cases e
      · rw [List.getElem?_set_ne hj] at e
        obtain ⟨c, bs, g1, g2, g3, g4⟩ := h.grd j rows e
        exact ⟨c, bs, (rms_off (by simp [Ne.symm hj])).trans g1, g2, fun k b q => rms_far.trans (g3 k b q), g4.lives hL⟩
    · obtain ⟨a, p1, p2, p3, p4⟩ := (h.pr.set (x := some (.pin l)) (H1 := H) (L1 := Lv Lo α) (by intro _ z; cases z) fun _ _ _ o => o).par j d e
      have ha : a ≠ l := fun z => h.nl i l e1 (z ▸ p1)
      exact ⟨a, .inl p1, by rw [with1_ne ha]; exact p2, p3, p4.lives hL⟩
end
section
variable {X : Cx} {W : WX} {body : List Stmt} {f : SF} {pos px : Pos} {x : Str}
theorem rpl_evo {K : PySem.W.Frag} {H H' : Hp} {L L' : Ad} (e : ∀ d v, Rp K H L d v → Rp K H' L' d v) : ∀ {ds : List D} {vs : List V}, RpL K H L ds vs → RpL K H' L' ds vs
  | [], _, h => by
    cases h
    exact .nil
  | d :: ds, _, h => by
    cases h with
    | cons a b => exact .cons (e _ _ a) (rpl_evo e b)
end
end VV

set_option Elab.async false
set_option linter.all false
set_option maxRecDepth 100000
set_option maxHeartbeats 4000000
/-! VWt: {e for .. in .. for .. in ..}, ints. -/
namespace VV
open PySem PySem.Spec L2
open PyProof.Rows hiding St
/-! ### the walk -/
section
variable {X : Cx} {elt tg iter tg1 iter1 : Expr} {ifs ifs1 : List Expr} {scope : Scope} {own : List (Str × Nat)} {vs1 : List Nat} {pos : Pos} {wi wi1 : TI} {g g1 : TG} {tt tt1 : TT} {te : TE}
end
end VV

set_option Elab.async false
set_option linter.all false
set_option maxRecDepth 100000
set_option maxHeartbeats 4000000
/-! VWu: sorted({e for .. for ..}), ints: the rising list of what the list would have. -/
namespace VV
open PySem PySem.Spec L2
open PyProof.Rows hiding St
def Sofs (w : World) (H : Hp) (D : Addr) (acc : List Int) : Prop := ∃ (S : Int → Bool) (n : Nat), H D = some (SetO w D S n) ∧ (∀ k, S k = true ↔ k ∈ acc) ∧ n ≤ acc.length
theorem Sofs.mono {w : World} {H H' : Hp} {D : Addr} {acc : List Int} (h : Sofs w H D acc) (s : Same H H') : Sofs w H' D acc :=
  let ⟨S, n, a, b, c⟩ := h
  ⟨S, n, s _ _ a, b, c⟩
section
variable {X : Cx} {W : WX}
variable {elt tg iter tg1 iter1 : Expr} {ifs ifs1 : List Expr} {scope : Scope} {own : List (Str × Nat)} {pos p cpos : Pos} {fi fi1 : IF} {t t1 : Tg} {c c1 e : EF}
end
end VV

set_option Elab.async false
set_option linter.all false
set_option maxRecDepth 100000
set_option maxHeartbeats 4000000
/-! VWv: rising lists of texts (begun: sorted(set(xs)) of texts). -/
namespace VV
open PySem PySem.Spec L2
open PyProof.Rows hiding St
def ltS (a b : Str) : Prop := a.cps.toList < b.cps.toList
instance (a b : Str) : Decidable (ltS a b) := inferInstanceAs (Decidable (a.cps.toList < b.cps.toList))
theorem ltS_total {a b : Str} (h : ¬ ltS a b) (ne : a ≠ b) : ltS b a := by
  refine Decidable.byContradiction fun n => ne ?_
  have e : a.cps.toList = b.cps.toList := List.le_antisymm (List.not_lt.mp n) (List.not_lt.mp h)
  obtain ⟨⟨x⟩⟩ := a
  obtain ⟨⟨y⟩⟩ := b
  simp at e
  rw [e]
end VV

set_option Elab.async false
set_option linter.all false
set_option maxRecDepth 100000
set_option maxHeartbeats 4000000
/-! VWw: a set of texts that can be walked; one text put into it. -/
namespace VV
open PySem PySem.Spec L2
open PyProof.Rows hiding St
open PySem.Froz (SD sObj TxOk addTx tailTx)
/-- the set at a has the texts l, each once, and can be walked -/
structure TxS (P : Program) (w : World) (h : Heap) (a : Addr) (l : List Str) : Prop where
  ex : ∃ D : SD, h.get? a = some (sObj "set" D) ∧ TxOk P w D l ∧ Ris D.2.2.place.toList ∧ (w.params.followText "set-order" = true ∨ D.2.2.led = true)
  nd : l.Nodup
theorem addTx_walk {w : World} {D : SD} {h : Int} {v : Value} (r : Ris D.2.2.place.toList) (l : w.params.followText "set-order" = true ∨ D.2.2.led = true) : Ris (addTx h v D).2.2.place.toList ∧ (w.params.followText "set-order" = true ∨ (addTx h v D).2.2.led = true) := by
  obtain ⟨es, ep, t⟩ := D
  have r1 := layNew_ris t es h v r
  have l1 := layNew_led t es h v
  unfold addTx tailTx
  generalize layNew t es h v = Z at *
  obtain ⟨es1, t1, dm, gv⟩ := Z
  dsimp only at r1 l1 l ⊢
  have both : ∀ t2 : SetTable, t2.place = t1.place → t2.led = t1.led → Ris (if (!dm && t2.tooFull) = true then ((relayAll t2 es1 (SetTable.grown es1.size)).1, ep + 2, (relayAll t2 es1 (SetTable.grown es1.size)).2.1) else (es1, ep + 1, t2) : SD).2.2.place.toList ∧ (w.params.followText "set-order" = true ∨ (if (!dm && t2.tooFull) = true then ((relayAll t2 es1 (SetTable.grown es1.size)).1, ep + 2, (relayAll t2 es1 (SetTable.grown es1.size)).2.1) else (es1, ep + 1, t2) : SD).2.2.led = true) := fun t2 e1 e2 => by
    have l2 : w.params.followText "set-order" = true ∨ t2.led = true := by rw [e2, l1]; exact l
    split
    · exact ⟨relayAll_ris .., by rw [relayAll_led]; exact l2⟩
    · exact ⟨by rw [e1]; exact r1, l2⟩
  split
  · exact both _ rfl rfl
  · exact both _ rfl rfl
section
variable {P : Program} {w : World} {A : Around} {E : Value → Shared → Prop} {s : Shared}
theorem there_x {a : Addr} {D : SD} {l : List Str} {k : Str} {u : Tok} {Q : Bool → Shared → Prop} (ho : s.heap.get? a = some (sObj "set" D)) (F : TxOk P w D l) (hk : k ∈ l) (hb : l.length < scanBound) (h : Q false s) : wpAny (model P w) A (setAddHashed a (.str k u) (hashStr w k)) Q E s := by
  obtain ⟨es, ep, t⟩ := D
  have few : es.size < scanBound := by have := F.sz; simp only at this; omega
  obtain ⟨e, he, is⟩ := (F.mem k).mp hk
  unfold setAddHashed setAddHashedIn
  apply wpAny_holding
  apply wpAny_bind
  apply wpAny_setState_of ho rfl F.fit
  dsimp only
  rw [byScan_of rfl few F.el]
  simp only [↓reduceIte]
  unfold setAddByScan
  apply wpAny_bind
  apply wpAny_bind
  apply wpAny_rule
  apply wpAny_bind
  refine wpAny_setScan_of (knd := strKind P w) (k := k) (PySem.Froz.is_str k u) ho rfl F.fit F.el ?_
  cases hr : List.findIdx? (fun e => (strKind P w).is k e.2) es.toList with
  | none => exact absurd is (by rw [List.findIdx?_eq_none_iff.mp hr e he]; decide)
  | some j => exact wpAny_pure (wpAny_pure h)
/-- one text put in -/
theorem TxS.add {a : Addr} {l : List Str} {k : Str} {u : Tok} {Q : Bool → Shared → Prop} (R : TxS P w s.heap a l) (room : l.length + 1 < scanBound)
    (go : ∀ h' b l', Heap.SameBut a s.heap h' → TxS P w h' a l' → (∀ j, j ∈ l' ↔ j = k ∨ j ∈ l) → l'.length ≤ l.length + 1 → Q b { s with heap := h' }) : wpAny (model P w) A (setAddHashed a (.str k u) (hashStr w k)) Q E s := by
  obtain ⟨D, ho, F, r, ld⟩ := R.ex
  by_cases hk : k ∈ l
  · refine there_x ho F hk (by omega) ?_
    exact go s.heap false l (Heap.SameBut.refl a s.heap) R (fun j => ⟨.inr, fun z => z.elim (fun e => e ▸ hk) id⟩) (by omega)
  · refine PySem.Froz.add_x ho F hk room ?_
    obtain ⟨r', l'⟩ := addTx_walk (w := w) (h := hashStr w k) (v := .str k u) r ld
    refine go _ true (k :: l) (Heap.SameBut.update ..) ⟨⟨_, PySem.Froz.get_upd _ ho rfl, PySem.Froz.add_ok u F, r', l'⟩, List.nodup_cons.mpr ⟨hk, R.nd⟩⟩ (fun j => List.mem_cons) (by rw [List.length_cons]; omega)
end
end VV

set_option Elab.async false
set_option linter.all false
set_option maxRecDepth 100000
set_option maxHeartbeats 4000000
/-! VWx: set(xs), xs a list of texts. -/
namespace VV
open PySem PySem.Spec L2
open PyProof.Rows hiding St
theorem TxS.at {P : Program} {w : World} {h h' : Heap} {a : Addr} {l : List Str} (R : TxS P w h a l) (k : ∀ o, h.get? a = some o → h'.get? a = some o) : TxS P w h' a l :=
  let ⟨⟨D, ho, q⟩, nd⟩ := R
  ⟨⟨D, k _ ho, q⟩, nd⟩
section
variable {P : Program} {w : World} {A : Around}
end
end VV

set_option Elab.async false
set_option linter.all false
set_option maxRecDepth 100000
set_option maxHeartbeats 4000000
/-! VWy: set(xs) of texts as a thing of the heap. -/
namespace VV
open PySem PySem.Spec L2
open PyProof.Rows hiding St
section
variable {X : Cx}
end
end VV

set_option Elab.async false
set_option linter.all false
set_option maxRecDepth 100000
set_option maxHeartbeats 4000000
/-! VWz: sorted(set(xs)) of texts. -/
namespace VV
open PySem PySem.Spec L2
open PyProof.Rows hiding St
/-! ### plain: texts sorted -/
def leS (a b : Str) : Bool := decide (a.cps.toList ≤ b.cps.toList)
theorem leS_iff {a b : Str} : leS a b = true ↔ ¬ ltS b a := by
  unfold leS ltS
  rw [decide_eq_true_eq, List.not_lt]
theorem leS_trans (a b c : Str) (h : leS a b = true) (k : leS b c = true) : leS a c = true := by
  unfold leS at *
  rw [decide_eq_true_eq] at *
  exact List.le_trans h k
theorem leS_total (a b : Str) : (leS a b || leS b a) = true := by
  unfold leS
  rw [Bool.or_eq_true, decide_eq_true_eq, decide_eq_true_eq]
  exact List.le_total ..
theorem ltS_of {a b : Str} (h : leS a b = true) (ne : a ≠ b) : ltS a b := by
  have n := leS_iff.mp h
  exact ltS_total n (Ne.symm ne)
theorem sortD_strs (ks : List Str) : sortD (ks.map PyData.str) = (ks.mergeSort leS).map PyData.str := by
  unfold sortD
  have e : PySem.W.dataLe false (fun k : Str => PyData.str k) = leS := PySem.W.dataLe_str (fun k : Str => k)
  rw [← e]
  exact (List.map_mergeSort (f := PyData.str) (r := PySem.W.dataLe false fun k : Str => PyData.str k) (s := PySem.W.dataLe false fun d : D => d) (l := ks) fun _ _ _ _ => rfl).symm
/-! ### the values of a set of texts -/
section
variable {X : Cx} {W : WX}
theorem alike_str (a b : Str) : PySem.W.alike (.str a) (.str b) = true := rfl
end
end VV

set_option Elab.async false
set_option linter.all false
set_option maxRecDepth 100000
set_option maxHeartbeats 4000000
/-! VXa: raise C(e), C an own error class whose __init__ keeps its argument in a field. -/
namespace VV
open PySem PySem.Spec L2
open PyProof.Rows hiding St
/-- an own class b over ValueError, without an __init__ of its own -/
structure BasK (K : PySem.W.Frag) (mg : Str → Option Value) (b : Str) : Prop where
  g : mg b = some (.ref (He.ga K b))
  rd : PySem.W.readsIn K (He.ga K b) (.type "type") = true
  fc : PySem.W.findCls K (.ref (He.ga K b)) (.type "type") "__init__" = some (.val (.builtin "ValueError.__init__"))
  sp : PySem.W.specialIn K (.ref (He.ga K b)) "__getattribute__" = some (some (.builtin "type.__getattribute__"))
def isVeInit : Option PySem.W.CFound → Bool
  | some (.val (.builtin s)) => s == "ValueError.__init__"
  | _ => false
theorem isVeInit_ok {o : Option PySem.W.CFound} (h : isVeInit o = true) : o = some (.val (.builtin "ValueError.__init__")) := by
  unfold isVeInit at h
  split at h
  · rw [beq_iff_eq.mp h]
  · cases h
def basB (K : PySem.W.Frag) (b : Str) : Bool := PySem.W.readsIn K (He.ga K b) (.type "type") && (isVeInit (PySem.W.findCls K (.ref (He.ga K b)) (.type "type") "__init__") && He.eqO (PySem.W.specialIn K (.ref (He.ga K b)) "__getattribute__") (some (some (.builtin "type.__getattribute__"))))
theorem basB_ok {K : PySem.W.Frag} {mg : Str → Option Value} {b : Str} (g : mg b = some (.ref (He.ga K b))) (h : basB K b = true) : BasK K mg b := by
  obtain ⟨h1, h⟩ := Bool.and_eq_true_iff.mp h
  obtain ⟨h2, h3⟩ := Bool.and_eq_true_iff.mp h
  exact ⟨g, h1, isVeInit_ok h2, He.eqO_ok h3⟩
section
variable {X : Cx} {e : Expr} {es : List Expr} {ta : TA} {b : Str} {p1 p2 pos : Pos}
theorem pe_base {pl : Sem Bool} (B : BasK X.K X.mg b) (ha : PA X (e :: es) ta) (hg : Gl X b := by rfl) (hdb : (b == ("__debug__" : Str)) = false := by decide)
    (hc : eval (.Call (.Attribute (.Name b p1) "__init__" p2) (e :: es) [] pos) X.env = (do
      let ov ← eval (.Name b p1) X.env
      standAt p2.atName
      let (f, first) ← holding [ov] (getMethod ov "__init__" pl)
      callWith pos f first (backTo pos (starEach (e :: es) X.env)) (backToKw pos (keywordEach [] X.env))) := by rfl)
    (he : starEach (e :: es) X.env = (false, eval e X.env) :: starEach es X.env := by rfl) (hpl : (backTo pos (starEach es X.env)).any (·.1) = false := by rfl) :
    PE X (.Call (.Attribute (.Name b p1) "__init__" p2) (e :: es) [] pos) (tVeI X.K ta) := by
  refine ⟨fun pins s σ H Q inv h => ?_⟩
  refine PySem.W.methodCall_KW (ld_glob inv hg B.g ?_ hdb) hc
  refine PySem.W.method_cls inv.kIn B.sp (PySem.W.cls_value inv.kIn B.rd B.fc (by decide +kernel) ?_)
  refine PyProof.Rows.callWith_method1 (thn (ha.run pos pins _ σ H _ (inv.tok _) h) ?_) he hpl
  rintro us s1 ⟨vs, H1, inv1, rel, a, C, ws, rfl, short, T, at_, q⟩
  cases rel with
  | @cons _ u0 _ ur r0 rr =>
    obtain rfl : u0 = Value.ref a := r0
    exact oinit_ok T inv1 at_ (by rw [← Paired.length rr, sizeLine_eq]; omega) fun s2 inv2 => ⟨.non, H1, inv2, rfl, q⟩
end
/-- what the __init__ of such a class does: its argument is kept in f -/
def spX (C : Addr) (f : Str) : Sp := fun vs H Q _ => ∃ (a : Addr) (y : V), vs = [.ref a, y] ∧ H a = some (exo a C none) ∧ ∀ dx, H dx = none → dx ≠ a → Q .non (upd (upd H dx (exd dx [(f, y)])) a (exo a C (some dx)))
/-- what the head tells of the class -/
structure XcK (K : PySem.W.Frag) (mg : Str → Option Value) (x f : Str) : Prop where
  g : mg x = some (.ref (He.ga K x))
  oex : OexC K (He.ga K x)
  ini : PySem.W.findIn K (.ref (He.ga K x)) "__init__" = some (some (.ref (He.ma K (He.ga K x) "__init__")))
  fn : PySem.W.typeIn K (.ref (He.ma K (He.ga K x) "__init__")) = some (.type "function")
  nof : PySem.W.findIn K (.ref (He.ga K x)) f = some none
  xf : XfC K (He.ga K x)
/-- the class object, by its shape -/
def oexB (K : PySem.W.Frag) (C : Addr) : Bool := match K.lookup C with
  | some ⟨.type t, _, .cls cd, sl⟩ => t == "type" && (match cd.mro, sl.toList with
    | .ref C' :: bm, [_, _, _, _, some (.builtin n), _] => C' == C && (n == "ValueError.__new__" && (!cd.hasDel && (cd.hasDict && PySem.HandSPX.refsVE bm)))
    | _, _ => false)
  | _ => false
def isTy (o : Option Value) (t : String) : Bool := match o with
  | some (.type s) => s == t
  | _ => false
theorem isTy_ok {o : Option Value} {t : String} (h : isTy o t = true) : o = some (.type t) := by
  unfold isTy at h
  split at h
  · rw [beq_iff_eq.mp h]
  · cases h
def xcB (K : PySem.W.Frag) (x f : Str) : Bool := oexB K (He.ga K x) && (He.eqO (PySem.W.findIn K (.ref (He.ga K x)) "__setattr__") (some (some (.builtin "object.__setattr__"))) && (decide (PySem.W.subIn K (.ref (He.ga K x)) (.type "BaseException") = some true) &&
  (isTy (PySem.W.typeIn K (.ref (He.ga K x))) "type" && (PySem.W.keepIn K (.ref (He.ga K x)) && (He.eqO (PySem.W.findIn K (.ref (He.ga K x)) "__init__") (some (some (.ref (He.ma K (He.ga K x) "__init__")))) &&
  (isTy (PySem.W.typeIn K (.ref (He.ma K (He.ga K x) "__init__"))) "function" && (He.eqO (PySem.W.findIn K (.ref (He.ga K x)) f) (some none) && xfB K (He.ga K x))))))))
theorem oexB_cls {K : PySem.W.Frag} {C : Addr} (h : oexB K C = true) : ∃ nm q N bs bm sn sub ab col dd k0 k1 k2 k3 k5, K.lookup C = some (excClassObj nm q C N bs bm true sn sub ab col dd k0 k1 k2 k3 k5 "ValueError.__new__") ∧ PySem.HandSPX.refsVE bm = true := by
  unfold oexB at h
  split at h
  case h_2 => cases h
  rename_i t dd cd sl ho
  obtain ⟨ht, z⟩ := Bool.and_eq_true_iff.mp h
  clear h
  have et : t = "type" := beq_iff_eq.mp ht
  subst et
  clear ht
  obtain ⟨nm, bs, mro, ns, qn, hd, sn, sub, ab, col, del⟩ := cd
  dsimp only at z
  split at z
  case h_2 => cases z
  rename_i C' bm k0 k1 k2 k3 n k5 hs
  obtain ⟨h1, z⟩ := Bool.and_eq_true_iff.mp z
  obtain ⟨h2, z⟩ := Bool.and_eq_true_iff.mp z
  obtain ⟨h3, z⟩ := Bool.and_eq_true_iff.mp z
  obtain ⟨h4, h5⟩ := Bool.and_eq_true_iff.mp z
  have e1 : C' = C := beq_iff_eq.mp h1
  have e2 : n = "ValueError.__new__" := beq_iff_eq.mp h2
  have e3 : del = false := by simpa using h3
  have e4 : sl = #[k0, k1, k2, k3, some (.builtin n), k5] := by
    obtain ⟨l⟩ := sl
    have : l = _ := hs
    rw [this]
  subst e1 e2 e3 e4 h4
  exact ⟨nm, qn, ns, bs, bm, sn, sub, ab, col, dd, k0, k1, k2, k3, k5, ho, h5⟩
theorem xcB_ok {K : PySem.W.Frag} {mg : Str → Option Value} {x f : Str} (g : mg x = some (.ref (He.ga K x))) (h : xcB K x f = true) : XcK K mg x f := by
  unfold xcB at h
  obtain ⟨h1, h⟩ := Bool.and_eq_true_iff.mp h
  obtain ⟨h2, h⟩ := Bool.and_eq_true_iff.mp h
  obtain ⟨h3, h⟩ := Bool.and_eq_true_iff.mp h
  obtain ⟨h4, h⟩ := Bool.and_eq_true_iff.mp h
  obtain ⟨h5, h⟩ := Bool.and_eq_true_iff.mp h
  obtain ⟨h6, h⟩ := Bool.and_eq_true_iff.mp h
  obtain ⟨h7, h⟩ := Bool.and_eq_true_iff.mp h
  obtain ⟨h8, h9⟩ := Bool.and_eq_true_iff.mp h
  exact ⟨g, ⟨oexB_cls h1, He.eqO_ok h2, of_decide_eq_true h3, isTy_ok h4, h5⟩, He.eqO_ok h6, isTy_ok h7, He.eqO_ok h8, xfB_ok h9⟩
/-- the __init__ of such a class keeps its promise -/
theorem fn_exc {P : Program} {w : World} {K : PySem.W.Frag} {mg : Str → Option Value} {base : Heap} {x qual f m : Str} {params : Arguments} {body : List Stmt} {scope : Scope} {C fI : Addr} {fd : FuncData} {sf n : Str} (F : FunD K x qual params body scope [] [] fI fd) (S : FnScope [sf, n] [sf, n] scope) (T : OexC K C) (nof : PySem.W.findIn K (.ref C) f = some none)
    (hb : ∀ (cdv : Value) (A : Around) (outer : List Env) (s : Shared) (H : Hp) (E : XK), PSs (cxOf (L2.CX P w) P w K mg base [sf, n] qual scope fI cdv A outer s H E) body (tSeq (tDrop (tVeI K (tCons (tVar 0) (tCons (tC (.str m)) tNil)))) (tOst K f (tVar 0) (tVar 1))))
    (k : Nat) : FnOk P w K mg base (L2.CX P w) (k + 1) fI fd [sf, n] (spX C f) := by
  refine F.ok S (fun vs H Q E ⟨a, y, e, _⟩ => by rw [e]; rfl) fun cdv A outer s H vs Q E hr ⟨a, y, e, at_, go⟩ => ⟨_, hb cdv A outer s H E, ?_⟩
  subst e
  refine ⟨.ref a, rfl, a, C, [.str m], rfl, (by show 1 ≤ 1000; omega), T, at_, y, rfl, .ref a, rfl, a, C, rfl, T, nof, .inl ⟨at_, fun dx h1 h2 => go dx h1 h2⟩⟩
/-! ### raise C(e) -/
def sRaiseX (c f : Str) (ef : EF) : SF := fun ρ => (ef ρ).out ρ fun d => .exc c [(f, d)] ρ
theorem fld_same {H1 : Hp} {a dx C : Addr} {f : Str} {y : V} (ha : H1 a = none) (hd : H1 dx = none) (ne : dx ≠ a) : Same H1 (upd (del (upd (upd (upd H1 a (exo a C none)) dx (exd dx [(f, y)])) a (exo a C (some dx))) a) dx (.xd [(f, y)])) := .of fun b o q => by
  have n1 : b ≠ a := fun z => by rw [z, ha] at q; cases q
  have n2 : b ≠ dx := fun z => by rw [z, hd] at q; cases q
  rw [upd_ne n2, del_ne n1, upd_ne n1, upd_ne n2, upd_ne n1, q]
/-- the class x and its __init__, of level k -/
structure XdK (P : Program) (w : World) (K : PySem.W.Frag) (mg : Str → Option Value) (base : Heap) (x f : Str) (k : Nat) : Prop where
  c : XcK K mg x f
  ex : ∃ (fd : FuncData) (ps : List Str), FnOk P w K mg base (L2.CX P w) k (He.ma K (He.ga K x) "__init__") fd ps (spX (He.ga K x) f) ∧ Binds K fd ps []
section
variable {X : Cx} {W : WX} {x f : Str} {e : Expr} {ef : EF} {p q pos : Pos} {fd : FuncData} {ps : List Str} {k : Nat}
theorem ss_raiseX (tk : Takes X W) (T : XcK X.K X.mg x f) (F1 : FnOk X.prog X.w X.K X.mg X.base (L2.CX X.prog X.w) k (He.ma X.K (He.ga X.K x) "__init__") fd ps (spX (He.ga X.K x) f)) (hr : Room (k + 1) X.A) (hb : Binds X.K fd ps []) (he : SE X W e ef) (hg : Gl X x := by rfl) (hdb : (x == ("__debug__" : Str)) = false := by decide) (hc : X.calm = true := by rfl)
    (hs : starEach [e] X.env = (false, eval e X.env) :: starEach [] X.env := by rfl) :
    SS X W (.Raise (some (.Call (.Name x p) [e] [] q)) none pos) (sRaiseX x f ef) := fun H0 Lo => by
  have mk := pmk_oex (p := p) (pos := q) (dvs := []) (ds := []) T.oex T.ini T.fn F1 hr hb .nil passL hg T.g (pa_cons he pa_nil hs) hdb hs (by rfl)
  refine (ps_raise hc tk mk).weak fun D σ H ⟨ρ, α, rst, p⟩ => ?_
  refine ⟨_, ρ, rst.re, p.expr rst fun d H1 v s r rst1 p1 => ?_⟩
  refine ⟨(by show 1 ≤ 1000; omega), fun a ha => ⟨a, v, rfl, upd_same, fun dx h1 h2 => ⟨rfl, dx, [(f, v)], upd_same, ?_, ?_, ?_⟩⟩⟩
  · rw [upd_ne h2, upd_same]
  · rw [← h1, upd_ne h2]
  · have hd : H1 dx = none := by rw [← h1, upd_ne h2]
    have sm := fld_same (C := He.ga X.K x) (f := f) (y := v) ha hd h2
    exact p1 α σ _ (some dx) (rst1.mono sm) (.of_same sm) (.inr ⟨dx, [(f, v)], by simp, rfl, upd_same, rfl, .cons (r.mono sm) .nil⟩)
theorem ss_raiseF (tk : Takes X W) (d : XdK X.prog X.w X.K X.mg X.base x f k) (hr : Room (k + 1) X.A) (he : SE X W e ef) (hg : Gl X x := by rfl) (hdb : (x == ("__debug__" : Str)) = false := by decide) (hc : X.calm = true := by rfl)
    (hs : starEach [e] X.env = (false, eval e X.env) :: starEach [] X.env := by rfl) : SS X W (.Raise (some (.Call (.Name x p) [e] [] q)) none pos) (sRaiseX x f ef) := by
  obtain ⟨fd, ps, F1, hb⟩ := d.ex
  exact ss_raiseX tk d.c F1 hr hb he hg hdb hc hs
end
end VV

set_option Elab.async false
set_option linter.all false
set_option maxRecDepth 100000
set_option maxHeartbeats 4000000
/-! VXb: except clauses whose suite reads a field of the error. -/
namespace VV
open PySem PySem.Spec L2
open PyProof.Rows hiding St
/-! ### the head's facts, with the interpreter's own statics in sight -/
def fragS (g : Addr → Option Obj) (n : Nat) : PySem.W.Frag := He.frG g (He.asD g n ++ [cStatics])
def obsS (n : Nat) (fa : List He.Fa) (fn : List He.DefD) (cs : List Chk) (g : Addr → Option Obj) : AlV := (He.obsD fa fn (fragS g n), cs.all fun c => c (fragS g n))
def hookS (n : Nat) (fa : List He.Fa) (fn : List He.DefD) (cs : List Chk) : PySem.W.Hook where
  α := AlV
  obs := fun s => obsS n fa fn cs s.heap.get?
  val := fun _ => (He.valD fn, true)
  says := fun _ h => ∃ K : PySem.W.Frag, K.In h ∧ (He.SaysD fa fn K ∧ ∀ c ∈ cs, c K = true)
  of := fun _ _ e => ⟨_, He.frG_in, congrArg (fun z : AlV => z.1) e, fun c hc => List.all_eq_true.mp (congrArg (fun z : AlV => z.2) e) c hc⟩
  keeps := fun _ _ _ told kept => told.elim fun K h => ⟨K, PySem.W.Frag.In.keeps h.1 kept, h.2⟩
theorem obsS_eq {n : Nat} {fa : List He.Fa} {fn : List He.DefD} {cs : List Chk} {g : Addr → Option Obj} {s : Shared} (h : ∀ a, g a = s.heap.get? a) : obsS n fa fn cs g = (hookS n fa fn cs).obs s := by
  obtain rfl : g = s.heap.get? := funext h
  rfl
/-- a field of the error -/
def eFd (fs : List (Str × D)) (x : Str) : EF := fun _ => match fs.lookup x with
  | some d => .ok d
  | none => .bad
theorem XR.mono {K : PySem.W.Frag} {H H' : Hp} {L : Ad} {fs : List (Str × D)} {x : Option Addr} (h : XR K H L fs x) (s : Same H H') : XR K H' L fs x :=
  h.imp id fun ⟨dd, gs, a1, a2, a3, a4, a5⟩ => ⟨dd, gs, a1, a2, s _ _ a3, a4, a5.mono s⟩
theorem XR.lives {K : PySem.W.Frag} {H : Hp} {L L' : Ad} {fs : List (Str × D)} {x : Option Addr} (h : XR K H L fs x) (s : ∀ a, L' a → L a ∨ H a = none) : XR K H L' fs x :=
  h.imp id fun ⟨dd, gs, a1, a2, a3, a4, a5⟩ => ⟨dd, gs, a1, a2, a3, a4, a5.lives s⟩
theorem lookup_rel {K : PySem.W.Frag} {H : Hp} {L : Ad} {x : Str} {d : D} : ∀ {fs : List (Str × D)} {gs : List (Str × V)}, gs.map (·.1) = fs.map (·.1) → RpL K H L (fs.map (·.2)) (gs.map (·.2)) → fs.lookup x = some d → ∃ v, gs.lookup x = some v ∧ Rp K H L d v
  | [], _, _, _, h => by cases h
  | (f, e) :: fs, [], z, _, _ => by cases z
  | (f, e) :: fs, (g, u) :: gs, z, r, h => by
    simp only [List.map_cons, List.cons.injEq] at z
    obtain ⟨z1, z2⟩ := z
    subst z1
    cases r with
    | cons r1 rl =>
      rw [List.lookup_cons] at h
      rw [List.lookup_cons]
      cases q : (x == g) with
      | true =>
        rw [q] at h
        cases h
        exact ⟨u, rfl, r1⟩
      | false =>
        rw [q] at h
        exact lookup_rel z2 rl h
/-! ### expressions of a suite -/
def tG (K : PySem.W.Frag) (a : Addr) (i : Nat) (d : Option Addr) (fs : List (Str × D)) (f : EF) : TE := fun σ H Q => σ[i]? = some (some (.ref a)) ∧ ∃ L ρ, RE K H L ρ σ ∧ XR K H L fs d ∧ Post K WF L σ H (f ρ) Q
def tGT (K : PySem.W.Frag) (a : Addr) (i : Nat) (d : Option Addr) (fs : List (Str × D)) (f : EF) : TT := fun σ H Q => σ[i]? = some (some (.ref a)) ∧ ∃ L ρ, RE K H L ρ σ ∧ XR K H L fs d ∧ PostT K WF L σ H (f ρ) Q
abbrev SG (X : Cx) (a : Addr) (i : Nat) (d : Option Addr) (fs : List (Str × D)) (e : Expr) (f : EF) : Prop := PE X e (tG X.K a i d fs f)
abbrev SGT (X : Cx) (a : Addr) (i : Nat) (d : Option Addr) (fs : List (Str × D)) (e : Expr) (f : EF) : Prop := PT X e (tGT X.K a i d fs f)
abbrev SGW (X : Cx) (a : Addr) (i : Nat) (d : Option Addr) (fs : List (Str × D)) (e : Expr) (f : EF) : Prop := PW X e (tGT X.K a i d fs f)
section
variable {X : Cx} {a : Addr} {i : Nat} {dx : Option Addr} {fs : List (Str × D)} {e b c : Expr} {rest : List Expr} {f g h : EF} {pos : Pos}
theorem sg_e (h : SE X WF e f) : SG X a i dx fs e f := L2.PE.weak h fun σ H Q ⟨_, L, ρ, re, _, p⟩ => ⟨L, ρ, re, p⟩
theorem sgt_tru (ha : SG X a i dx fs e f) (he : ∀ whole, isTrue e X.env whole = (do let v ← whole; standAt e.pos; holding [v] (truthy v)) := by intro _; rfl) : SGT X a i dx fs e (gTru f) := (pt_truth ha he).weak fun σ H Q ⟨hσ, L, ρ, re, xr, p⟩ => by
  refine ⟨hσ, L, ρ, re, xr, ?_⟩
  unfold gTru at p
  cases hf : f ρ with
  | bad => rw [hf] at p; exact p
  | exc c fs => rw [hf] at p; exact p
  | ok d =>
    rw [hf] at p
    simp only [Rs.bind_ok] at p
    intro H1 v s1 r
    have p1 := p.mono s1
    unfold truR at p1
    cases e : tru d with
    | none => simp only [e] at p1; exact p1.elim
    | some k => simp only [e] at p1; exact ⟨k, r.rb.tru e, p1 H1 (Same.refl H1)⟩
theorem sgt_not (ha : SGT X a i dx fs e f) : SGT X a i dx fs (.UnaryOp .Not e pos) (gNot f) := (pt_not ha).weak fun σ H Q ⟨hσ, L, ρ, re, xr, p⟩ =>
  ⟨hσ, L, ρ, re, xr, p.stepT notR_bad fun b H1 s1 p1 => p1 H1 (Same.refl H1)⟩
theorem sgw_and1 (ha : SGT X a i dx fs e f) : SGW X a i dx fs (.BoolOp .And [e] pos) f := pw_and1 ha
theorem sgw_and (ha : SGT X a i dx fs e f) (hb : SGW X a i dx fs (.BoolOp .And (b :: rest) pos) g) : SGW X a i dx fs (.BoolOp .And (e :: b :: rest) pos) (gAnd f g) := (pw_and ha hb).weak fun σ H Q ⟨hσ, L, ρ, re, xr, p⟩ =>
  ⟨hσ, L, ρ, re, xr, p.stepT andR_bad fun b H1 s1 p1 => by
    cases b with
    | true => rw [if_pos rfl]; exact ⟨hσ, L, ρ, re.mono s1, xr.mono s1, p1⟩
    | false => rw [if_neg Bool.false_ne_true]; exact p1 H1 (Same.refl H1)⟩
theorem sgt_w (h : SGW X a i dx fs e f) : SGT X a i dx fs e f := PW.pt h
theorem sg_if (hc : SGT X a i dx fs c h) (ha : SG X a i dx fs e f) (hb : SG X a i dx fs b g) : SG X a i dx fs (.IfExp c e b pos) (eIf h f g) := (pe_ifExp hc ha hb).weak fun σ H Q ⟨hσ, L, ρ, re, xr, p⟩ => by
  refine ⟨hσ, L, ρ, re, xr, ?_⟩
  unfold eIf at p
  cases hr : h ρ with
  | bad => rw [hr] at p; exact p
  | exc c fs => rw [hr] at p; exact p
  | ok d =>
    rw [hr] at p
    cases d with
    | bool k =>
      intro H1 s1
      have p1 := p.mono s1
      cases k with
      | true => rw [if_pos rfl]; exact ⟨hσ, L, ρ, re.mono s1, xr.mono s1, p1⟩
      | false => rw [if_neg Bool.false_ne_true]; exact ⟨hσ, L, ρ, re.mono s1, xr.mono s1, p1⟩
    | _ => exact p
end
/-- e.x -/
theorem sg_fld {X : Cx} {a C : Addr} {i : Nat} {oe : Obj} {pn : List (Addr × Obj)} {dx : Option Addr} {fs : List (Str × D)} {n x : Str} {p pos : Pos} (T : XfC X.K C) (nof : PySem.W.findIn X.K (.ref C) x = some none) (hz : Zc (.ref C) dx oe) (hf : ∃ vs, oe.data = .fields vs) (hN : X.N[i]? = some n := by rfl)
    (hv : Vis X.env.scope n := by first | exact Or.inl rfl | exact Or.inr (Or.inl rfl) | exact Or.inr (Or.inr rfl)) (hd : (n == ("__debug__" : Str)) = false := by decide) (hcd : (n == ("__classdict__" : Str)) = false := by decide) (hb : attributeBase (.Name n p) x X.env (eval (.Name n p) X.env) = eval (.Name n p) X.env := by rfl) :
    SG (X.suite a ((a, oe) :: pn)) a i dx fs (.Attribute (.Name n p) x pos) (eFd fs x) := by
  have h1 : PE (X.suite a ((a, oe) :: pn)) (.Name n p) (tVar i) := pe_var (X := X.suite a ((a, oe) :: pn)) hN hv hd hcd
  refine (pe_xf T nof hz hf h1 hb).weak fun σ H Q ⟨hσ, L, ρ, re, xr, q⟩ => ?_
  unfold eFd at q
  cases hl : fs.lookup x with
  | none => rw [hl] at q; exact q.elim
  | some d =>
    rw [hl] at q
    rcases xr with ⟨e, _⟩ | ⟨dd, gs, _, e2, e3, e4, e5⟩
    · subst e
      cases hl
    · obtain ⟨v, lv, r⟩ := lookup_rel e4 e5 hl
      exact ⟨.ref a, hσ, rfl, rfl, dd, gs, v, e2, e3, lv, q H v (Same.refl H) r⟩
/-! ### statements of a suite -/
def tSG (K : PySem.W.Frag) (H0 : Hp) (Lo : Ad) (a : Addr) (i : Nat) (d : Option Addr) (fs : List (Str × D)) (f : SF) : TS := fun D σ H => σ[i]? = some (some (.ref a)) ∧ ∃ ρ α, RSt K H0 Lo ρ α σ H ∧ XR K H (Lv Lo α) fs d ∧ PostS K H0 Lo WF H α (f ρ) D
abbrev SGs (X : Cx) (a : Addr) (i : Nat) (d : Option Addr) (fs : List (Str × D)) (sts : List Stmt) (f : SF) : Prop := ∀ (H0 : Hp) (Lo : Ad), PSs X sts (tSG X.K H0 Lo a i d fs f)
section
variable {X : Cx} {a : Addr} {i : Nat} {dx : Option Addr} {fs : List (Str × D)} {e : Expr} {f : SF} {ef : EF} {pos : Pos} {sts : List Stmt}
theorem gs_ret (he : SG X a i dx fs e ef) : SGs X a i dx fs [.Return (some e) pos] (sRet ef) := fun H0 Lo => (pss_one (ps_ret he)).weak fun D σ H ⟨hσ, ρ, α, rst, xr, p⟩ =>
  ⟨hσ, _, ρ, rst.re, xr, p.expr rst fun d H1 v s r rst1 p1 => p1 H1 v rst1.same (r.lives fun z q => .inl (.inl q))⟩
end
/-! ### try -/
structure ClF where
  slot : Option Nat
  sub : Str → Option Bool
  suite : Str → List (Str × D) → SF
def hitF (i : Nat) (f : SF) (ρ : En) : Out := match ρ[i]? with
  | some _ => Out.clr i (f (ρ.set i none))
  | _ => .bad
def ClF.hit (k : ClF) (c : Str) (fs : List (Str × D)) (ρ : En) : Out := match k.slot with
  | none => Out.suf (k.suite c fs ρ)
  | some i => hitF i (k.suite c fs) ρ
def hitsF : List ClF → Str → List (Str × D) → En → Out
  | [], c, fs, ρ => .exc c fs ρ
  | k :: ks, c, fs, ρ => match k.sub c with
    | some true => k.hit c fs ρ
    | some false => hitsF ks c fs ρ
    | none => .bad
def sTriesF (fb : SF) (ks : List ClF) : SF := fun ρ => match fb ρ with
  | .exc c fs ρ' => hitsF ks c fs ρ'
  | o => o
section
variable {X : Cx} {W : WX} {x n : Str} {i : Nat} {body suite : List Stmt} {b₀ : Stmt} {np pos pos' : Pos} {fb fh : SF} {gh : Str → List (Str × D) → SF} {sub : Str → Option Bool} {h : ExceptHandler} {hds : List ExceptHandler} {k : ClF} {ks : List ClF}
def FitF (X : Cx) (W : WX) (H0 : Hp) (Lo : Ad) (k : ClF) (q : Tk) : Prop := (∀ c b, k.sub c = some b → PySem.W.exmOne X.K (.ref (He.ga X.K c)) q.1 = some b) ∧
  ∀ (D : Ends) (c : Str) (fs : List (Str × VV.D)) (ρ : En) (α : Nat → Option Addr) (σ : St) (H : Hp) (xo : Option Addr) (a : Addr), k.sub c = some true → RSt X.K H0 Lo ρ α σ H → XR X.K H (Lv Lo α) fs xo → H a = none → PostS X.K H0 Lo W H α (k.hit c fs ρ) D → q.2 a (.ref (He.ga X.K c)) xo D σ H
def SHF (X : Cx) (h : ExceptHandler) (k : ClF) : Prop := ∀ (H0 : Hp) (Lo : Ad), ∃ q : Tk, HdOk X h q.1 q.2 ∧ ∀ W, FitF X W H0 Lo k q
theorem shf_as (hN : X.N.Nodup) (hc : X.mg x = some (.ref (He.ga X.K x))) (hsub : ∀ c b, sub c = some b → PySem.W.exmOne X.K (.ref (He.ga X.K c)) (.ref (He.ga X.K x)) = some b)
    (hsu : ∀ (c : Str) (fs : List (Str × VV.D)) (a : Addr) (oe : Obj) (d : Option Addr) (pn : List (Addr × Obj)), sub c = some true → Zc (.ref (He.ga X.K c)) d oe → (∃ vs, oe.data = .fields vs) → SGs (X.suite a ((a, oe) :: pn)) a i d fs (b₀ :: suite) (gh c fs))
    (hi : X.N[i]? = some n := by rfl) (hln : X.env.kindOf n = some .local := by rfl) (hg : Gl X x := by rfl) (hdb : (x == ("__debug__" : Str)) = false := by decide) (hf : X.env.frame = some X.env.locals := by rfl) :
    SHF X (.ExceptHandler (some (.Name x np)) (some n) (b₀ :: suite) pos') ⟨some i, sub, gh⟩ := by
  intro H0 Lo
  refine ⟨(.ref (He.ga X.K x), _), hd_as hf hN hi hln ⟨hg, hdb, .inl hc⟩ (ts := fun a cls d D σ H => ∃ c fs, cls = .ref (He.ga X.K c) ∧ sub c = some true ∧ tSG X.K H0 Lo a i d fs (gh c fs) D σ H) ?_, fun W => ⟨hsub, ?_⟩⟩
  · intro a oe cls d pn z data
    refine ⟨fun pins s σ H D inv ⟨c, fs, e1, e2, q⟩ => ?_⟩
    subst e1
    exact (hsu c fs a oe d pn e2 z data H0 Lo).run pins s σ H D inv q
  · intro D c fs ρ α σ H xo a hs rst xr new p
    replace p : PostS X.K H0 Lo W H α (hitF i (gh c fs) ρ) D := p
    unfold hitF at p
    split at p
    case h_2 => exact p.elim
    rename_i o at_
    have lt : i < σ.length := by
      rw [← rst.re.len]
      exact (List.getElem?_eq_some_iff.mp at_).1
    refine ⟨c, fs, rfl, hs, List.getElem?_set_self lt, ρ.set i none, _, rst.clr i (some (.ref a)), xr.lives fun z q => .inl (Lv_rms z q), ?_⟩
    have back : ∀ {α2 : Nat → Option Addr} {H2 : Hp}, Evo X.K Lo H (VV.rms α [i]) H2 α2 → Evo X.K Lo H α H2 (VV.rms α2 [i]) := fun e => (Evo.rms [i]).trans (e.trans (Evo.rms [i]))
    cases e : gh c fs (ρ.set i none) with
    | nx ρ2 => rw [e] at p; exact fun α2 σ2 H2 r2 e2 => p _ _ _ (r2.clr i none) (back e2)
    | bk ρ2 => rw [e] at p; exact fun α2 σ2 H2 r2 e2 => p _ _ _ (r2.clr i none) (back e2)
    | ct ρ2 => rw [e] at p; exact fun α2 σ2 H2 r2 e2 => p _ _ _ (r2.clr i none) (back e2)
    | rt d => rw [e] at p; exact p
    | _ => rw [e] at p; exact p.elim
inductive SHFs (X : Cx) : List ExceptHandler → List ClF → Prop
  | nil : SHFs X [] []
  | cons {h : ExceptHandler} {k : ClF} {hds : List ExceptHandler} {ks : List ClF} : SHF X h k → SHFs X hds ks → SHFs X (h :: hds) (k :: ks)
theorem SHFs.fits (hk : SHFs X hds ks) (H0 : Hp) (Lo : Ad) : ∃ cs : List Tk, Hds X hds cs ∧ ∀ (W : WX) (D : Ends) (c : Str) (fs : List (Str × VV.D)) (ρ : En) (α : Nat → Option Addr) (σ : St) (H : Hp) (xo : Option Addr), RSt X.K H0 Lo ρ α σ H → XR X.K H (Lv Lo α) fs xo → PostS X.K H0 Lo W H α (hitsF ks c fs ρ) D → wMany X.K W D cs (.ref (He.ga X.K c)) xo σ H := by
  induction hk with
  | nil => exact ⟨[], .nil, fun W D c fs ρ α σ H xo rst xr p => p α σ H xo rst .refl xr⟩
  | cons h1 _ ih =>
    obtain ⟨q, ok, fit⟩ := h1 H0 Lo
    obtain ⟨cs, oks, rest⟩ := ih
    refine ⟨q :: cs, .cons ok oks, fun W D c fs ρ α σ H xo rst xr p => ?_⟩
    unfold hitsF at p
    split at p
    · rename_i e
      exact ⟨true, (fit W).1 c true e, fun _ a new => (fit W).2 D c fs ρ α σ H xo a e rst xr new p, fun z => absurd z.symm Bool.false_ne_true⟩
    · rename_i e
      exact ⟨false, (fit W).1 c false e, fun z => absurd z Bool.false_ne_true, fun _ => rest W D c fs ρ α σ H xo rst xr p⟩
    · exact p.elim
theorem ss_triesF (tk : Takes X W) (hb : ∀ (W : WX) (pn : List (Addr × Obj)) (xe : Value → Shared → Prop), Takes (X.tr pn xe) W → PassesOwn (model X.prog X.w) X.A X.env xe → SSs (X.tr pn xe) W body fb) (hk : SHFs X (h :: hds) ks)
    (hs : X.stack = X.env :: X.outer := by rfl) (hf : X.env.frame = some X.env.locals := by rfl) : SS X W (.Try body (h :: hds) [] [] pos) (sTriesF fb ks) := by
  intro H0 Lo
  obtain ⟨cs, ok, fit⟩ := hk.fits H0 Lo
  refine (ps_tries (tb := fun W => tS X.K H0 Lo W fb) hs hf tk (fun W pn xe tk' hp => hb W pn xe tk' hp H0 Lo) ok).weak fun D σ H ⟨ρ, α, rst, p⟩ => ⟨ρ, α, rst, ?_⟩
  unfold sTriesF at p
  cases e : fb ρ with
  | exc c fs ρ' => rw [e] at p; exact fun α' σ' H' xo rst' ev xr => fit W D c fs ρ' α' σ' H' xo rst' xr (PostS.evo p ev)
  | _ => rw [e] at p; exact p
end
end VV

set_option Elab.async false
set_option linter.all false
set_option maxRecDepth 100000
set_option maxHeartbeats 4000000
/-! VXc: x[k] op= v; x[a], x[b] = v, w; a def that takes a new list over. -/
namespace VV
open PySem PySem.Spec L2
open PyProof.Rows hiding St
/-! ### x[k] op= v -/
section
variable {X : Cx} {W : WX} {a b e : Expr} {fa fb ef eg : EF} {pos : Pos}
/-! ### x[a], x[b] = (v, w) -/
end
end VV

set_option Elab.async false
set_option linter.all false
set_option maxRecDepth 100000
set_option maxHeartbeats 4000000
/-! VXd: a def that takes a new list over, and changes it. -/
namespace VV
open PySem PySem.Spec L2
open PyProof.Rows hiding St
/-- what the caller is promised: whatever was ahead of the list is there still -/
def RsOk (K : PySem.W.Frag) (H : Hp) (L : Ad) (r : Rs) (Q : VK) (E : XK) : Prop := match r with
  | .ok d => ∀ H' v, Same H H' → Rp K H' L d v → Q v H'
  | .exc c fs => ∀ H' x, Same H H' → XR K H' L fs x → E (.ref (He.ga K c)) x H'
  | .bad => False
def spC (K : PySem.W.Frag) (g : List D → Rs) : Sp := fun vs H Q E => ∃ (L : Ad) (a : Addr) (d : D), vs = [.ref a] ∧ LvOk K (del H a) L ∧ Ow K H (Lp L a) d a ∧ RsOk K (del H a) L (g [d]) Q E
structure DnC (P : Program) (w : World) (K : PySem.W.Frag) (mg : Str → Option Value) (base : Heap) (x : Str) (k : Nat) (g : List D → Rs) : Prop where
  ex : ∃ (fa : Addr) (fd : FuncData) (ps : List Str), mg x = some (.ref fa) ∧ FnOk P w K mg base (L2.CX P w) k fa fd ps (spC K g) ∧ PySem.W.keepIn K (.ref fa) = true ∧ Binds K fd ps []
theorem tabS_del {H : Hp} {P a : Addr} {q : Str} {u : HO} (t : LamX.TabS H P q) (ha : H a = some u) (n : NC a u) : LamX.TabS (del H a) P q := by
  obtain ⟨ps, h1, h2, h3⟩ := t
  refine ⟨ps, ?_, h2, fun pos cv hc => ?_⟩
  · rw [del_ne]
    · exact h1
    · intro e; subst e; rw [ha] at h1; cases h1; exact n
  · obtain ⟨c, e1, e2⟩ := h3 pos cv hc
    refine ⟨c, e1, ?_⟩
    rw [del_ne]
    · exact e2
    · intro e; subst e; rw [ha] at e2; cases e2; exact nc_code n
theorem TbOk.del {K : PySem.W.Frag} {H : Hp} {a : Addr} {u : HO} (t : TbOk K H) (ha : H a = some u) (n : NC a u) : TbOk K (del H a) := fun e => tabS_del (t e) ha n
/-- a thing that was not there is left out -/
theorem Same.delN {H H1 : Hp} {a : Addr} {u : HO} (s : Same H H1) (na : H a = none) (ha : H1 a = some u) (n : NC a u) : Same H (del H1 a) := ⟨fun b x hb nt => by
  rw [del_ne (by intro e; subst e; rw [na] at hb; cases hb)]
  exact s.go b x hb nt, fun b hb => by
  by_cases e : b = a
  · subst e; exact na
  · rw [del_ne e] at hb; exact s.fre b hb, fun P t => tabS_del (s.tab P t) ha n⟩
theorem same_del {H : Hp} {a : Addr} : Same (del H a) H := .of fun b o e => by
  by_cases hb : b = a
  · rw [hb, del_same] at e; cases e
  · rw [del_ne hb] at e; exact e
section
variable {X : Cx} {W : WX} {x : Str} {p pos : Pos} {e : Expr} {ef : EF}
end
end VV

set_option Elab.async false
set_option linter.all false
set_option maxRecDepth 100000
set_option maxHeartbeats 4000000
/-! VXe: enumerate of a zip of two tuples. -/
namespace VV
open PySem PySem.Spec L2
open PyProof.Rows hiding St
open Builtin.SmallTypes (nextOf ownedTupleIsFree ownedTupleHandOut)
/-- a zip's object -/
abbrev zr (f g : Value) (TI TO : Addr) : Obj := { cls := .type "zip", dict := none, data := .fields #[f, g, .bool false, .ref TI, .ref TO], slots := #[] }
/-- its first field: nothing, or the tuple given out last -/
def Mine (f : Value) : Prop := f = .none ∨ ∃ T : Addr, f = rawInt T
section
variable {prog : Program} {w : World} {A : Around} {E : Value → Shared → Prop} {s : Shared} {z TI TO i1 i2 l1 l2 : Addr} {f g : Value}
/-- how a zip of two tuples stands, k of each drawn -/
structure Zt (h : Heap) (z TI TO i1 i2 l1 l2 : Addr) (k : Nat) : Prop where
  me : ∃ f b, Mine f ∧ h.get? z = some (zr f (.bool b) TI TO)
  its : IsPair h TI (.ref i1) (.ref i2)
  last : ∃ a b, IsPair h TO a b
  j1 : h.IsTupleIter i1 l1 k
  j2 : h.IsTupleIter i2 l2 k
/-! ### enumerate over it -/
end
end VV

set_option Elab.async false
set_option linter.all false
set_option maxRecDepth 100000
set_option maxHeartbeats 4000000
/-! VXf: for .. in enumerate(zip(a, b)), a and b tuples; min of four. -/
namespace VV
open PySem PySem.Spec L2
open PyProof.Rows hiding St
section
variable {prog : Program} {w : World} {A : Around} {E : Value → Shared → Prop} {s : Shared}
end
end VV

set_option Elab.async false
set_option linter.all false
set_option maxRecDepth 100000
set_option maxHeartbeats 4000000
/-! VXg: enumerate of a zip in the layer; min of four ints. -/
namespace VV
open PySem PySem.Spec L2
open PyProof.Rows hiding St
section
variable {K : PySem.W.Frag}
end
section
variable {X : Cx} {W : WX} {a b : Expr} {fs : List EF} {p p2 pos pos2 tpos : Pos} {elts : List Expr} {kk : Nat}
end
/-! ### min of four -/
section
variable {prog : Program} {w : World} {A : Around} {E : Value → Shared → Prop} {s : Shared}
end
section
variable {X : Cx}
end
end VV

set_option Elab.async false
set_option linter.all false
set_option maxRecDepth 100000
set_option maxHeartbeats 4000000
/-! VXh: defs that change a thing of the caller's; their calls. -/
namespace VV
open PySem PySem.Spec L2
open PyProof.Rows hiding St
/-- what such a call comes to: its result, and what the thing is then -/
inductive Ms where
  | ok (r d : D)
  | exc (c : Str) (fs : List (Str × D)) (d : D)
  | bad
def MsOk (K : PySem.W.Frag) (H : Hp) (L : Ad) (a : Addr) (r : Ms) (Q : VK) (E : XK) : Prop := match r with
  | .ok r d => ∀ H' v, Same (del H a) H' → (∀ x y, Rp K H (Lp L a) x y → Rp K H' (Lp L a) x y) → Ow K H' (Lp L a) d a → Rp K H' (Lp L a) r v → Q v H'
  | .exc c fs d => ∀ H' x, Same (del H a) H' → (∀ x y, Rp K H (Lp L a) x y → Rp K H' (Lp L a) x y) → Ow K H' (Lp L a) d a → XR K H' (Lp L a) fs x → E (.ref (He.ga K c)) x H'
  | .bad => False
def spM (K : PySem.W.Frag) (n m : Nat) (g : List D → D → Ms) : Sp := fun vs H Q E => ∃ (L : Ad) (a : Addr) (ds : List D) (d : D) (us ws : List V), vs = us ++ .ref a :: ws ∧ ds.length + 1 = n ∧ m < n ∧ LvOk K (del H a) L ∧ Ow K H (Lp L a) d a ∧
  RpL K H (Lp L a) (ds.take m) us ∧ RpL K H (Lp L a) (ds.drop m) ws ∧ MsOk K H L a (g ds d) Q E
structure DnM (P : Program) (w : World) (K : PySem.W.Frag) (mg : Str → Option Value) (base : Heap) (x : Str) (k n m : Nat) (g : List D → D → Ms) : Prop where
  ex : ∃ (fa : Addr) (fd : FuncData) (ps : List Str), mg x = some (.ref fa) ∧ FnOk P w K mg base (L2.CX P w) k fa fd ps (spM K n m g) ∧ PySem.W.keepIn K (.ref fa) = true ∧ Binds K fd ps []
end VV

set_option Elab.async false
set_option linter.all false
set_option maxRecDepth 100000
set_option maxHeartbeats 4000000
/-! VXi: expressions that change what one slot holds. -/
namespace VV
open PySem PySem.Spec L2
open PyProof.Rows hiding St
/-- what a slot holds that may be changed -/
def plAt (ρ : En) (i : Nat) : Option D := match ρ[i]? with
  | some (some (.own d)) => some d
  | some (some (.ownP d)) => some d
  | _ => none
def putO (ρ : En) (i : Nat) (d : D) : En := match ρ[i]? with
  | some (some (.own _)) => ρ.set i (some (.own d))
  | some (some (.ownP _)) => ρ.set i (some (.ownP d))
  | some (some (.grid (.stu o _))) => ρ.set i (some (.grid (.stu o d)))
  | _ => ρ
section
variable {K : PySem.W.Frag} {H0 H H' : Hp} {Lo : Ad} {ρ : En} {α : Nat → Option Addr} {σ : St}
theorem Ow.evo {a b : Addr} {e : D} {L L' : Ad} (h : Ow K H L e b) (ne : b ≠ a) (s : Same (del H a) H') (ev : ∀ x y, Rp K H L x y → Rp K H' L' x y) : Ow K H' L' e b := by
  have t : ∀ {o}, H b = some o → (nt : NT o := by exact trivial) → H' b = some o := fun {o} q nt => s.go b o (by rw [del_ne ne]; exact q) nt
  cases h with
  | lst h r => exact .lst (t h) (rpl_evo ev r)
  | dk h z r => exact .dk (t h) z (rpl_evo ev r)
  | dt h z r => exact .dt (t h) z (rpl_evo ev r)
  | ob h z r => exact .ob (t h) z (rpl_evo ev r)
theorem Fl.evo {b : Addr} {bs : List Addr} {ds : List D} {vs : List V} {L L' : Ad} (h : Fl K H L ds vs bs) (t : ∀ c ∈ bs, ∀ o, H c = some o → (nt : NT o) → H' c = some o) (ev : ∀ x y, Rp K H L x y → Rp K H' L' x y) : Fl K H' L' ds vs bs := by
  induction h with
  | nil => exact .nil
  | val r _ ih => exact .val (ev _ _ r) (ih t)
  | inn h r _ ih => exact .inn (t _ (by simp) _ h trivial) (rpl_evo ev r) (ih fun c hc => t c (by simp [hc]))
theorem Ogr.evo {a b : Addr} {bs : List Addr} {rows : List (List D)} {L L' : Ad} (h : Ogr K H L rows b bs) (ne : b ≠ a) (nb : ∀ c ∈ bs, c ≠ a) (s : Same (del H a) H') (ev : ∀ x y, Rp K H L x y → Rp K H' L' x y) : Ogr K H' L' rows b bs :=
  ⟨s b _ (by rw [del_ne ne]; exact h.top), h.len, fun k r c e1 e2 => by
    obtain ⟨us, q, rl⟩ := h.row k r c e1 e2
    exact ⟨us, s c _ (by rw [del_ne (nb c (List.mem_of_getElem? e2))]; exact q), rpl_evo ev rl⟩⟩
theorem Og.evo {a b : Addr} {bs : List Addr} {g : Gr} {L L' : Ad} (h : Og K H L g b bs) (ne : b ≠ a) (nb : ∀ c ∈ bs, c ≠ a) (s : Same (del H a) H') (ev : ∀ x y, Rp K H L x y → Rp K H' L' x y) : Og K H' L' g b bs := by
  cases g with
  | rows rs => exact Ogr.evo h ne nb s ev
  | stu o d =>
    obtain ⟨C, fs, dx, vs, e, h1, h2, h3⟩ := Os.ex h
    exact ⟨Os.at_ h, C, fs, dx, vs, e, s b _ (by rw [del_ne ne]; exact h1), h2, h3.evo (b := b) (fun c hc o q nt => s.go c o (by rw [del_ne (nb c hc)]; exact q) nt) ev⟩
/-- a slot's thing and where it lies -/
theorem RSt.at_ {i : Nat} {d : D} (h : RSt K H0 Lo ρ α σ H) (e : plAt ρ i = some d) : ∃ a, σ[i]? = some (some (.ref a)) ∧ Ow K H (Lv Lo α) d a ∧ Lv Lo α a ∧ H0 a = none := by
  unfold plAt at e
  split at e
  · rename_i q
    cases e
    obtain ⟨a, e1, e2, o⟩ := h.own i d q
    exact ⟨a, e2, o, .inr ⟨i, e1⟩, h.new i a e1⟩
  · rename_i q
    cases e
    obtain ⟨a, e1, e2, e3, o⟩ := h.pr.par i d q
    exact ⟨a, e3, o, .inl e1, e2⟩
  · cases e
/-- it is another now, and nothing else is -/
theorem RSt.swap {i : Nat} {d d' : D} {a : Addr} (h : RSt K H0 Lo ρ α σ H) (e : plAt ρ i = some d) (ha : σ[i]? = some (some (.ref a))) (s : Same (del H a) H') (ev : ∀ x y, Rp K H (Lv Lo α) x y → Rp K H' (Lv Lo α) x y) (ow : Ow K H' (Lv Lo α) d' a) :
    RSt K H0 Lo (putO ρ i d') α σ H' := by
  obtain ⟨b, hb, _, lb, nb⟩ := h.at_ e
  have eb : b = a := by rw [ha] at hb; cases hb; rfl
  subst eb
  have hlt : i < ρ.length := by
    rcases Nat.lt_or_ge i ρ.length with q | q
    · exact q
    · unfold plAt at e
      rw [List.getElem?_eq_none q] at e
      cases e
  have kind : (ρ[i]? = some (some (.own d)) ∧ putO ρ i d' = ρ.set i (some (.own d')) ∧ α i = some b) ∨ (ρ[i]? = some (some (.ownP d)) ∧ putO ρ i d' = ρ.set i (some (.ownP d')) ∧ Lo b) := by
    unfold plAt at e
    split at e
    · rename_i q
      cases e
      obtain ⟨c, e1, e2, _⟩ := h.own i d q
      rw [ha] at e2
      cases e2
      exact .inl ⟨q, by unfold putO; rw [q], e1⟩
    · rename_i q
      cases e
      obtain ⟨c, e1, _, e2, _⟩ := h.pr.par i d q
      rw [ha] at e2
      cases e2
      exact .inr ⟨q, by unfold putO; rw [q], e1⟩
    · cases e
  have len : (putO ρ i d').length = ρ.length := by rcases kind with ⟨_, q, _⟩ | ⟨_, q, _⟩ <;> rw [q, List.length_set]
  -- a slot of the new frame
  have slot : ∀ {j : Nat} {x : Sl}, (putO ρ i d')[j]? = some (some x) → (j = i ∧ ((x = .own d' ∧ ρ[i]? = some (some (.own d)) ∧ α i = some b) ∨ (x = .ownP d' ∧ ρ[i]? = some (some (.ownP d)) ∧ Lo b))) ∨ (j ≠ i ∧ ρ[j]? = some (some x)) := fun {j x} q => by
    by_cases hj : j = i
    · subst hj
      rcases kind with ⟨k1, k2, k3⟩ | ⟨k1, k2, k3⟩
      · rw [k2, List.getElem?_set_self hlt] at q
        cases q
        exact .inl ⟨rfl, .inl ⟨rfl, k1, k3⟩⟩
      · rw [k2, List.getElem?_set_self hlt] at q
        cases q
        exact .inl ⟨rfl, .inr ⟨rfl, k1, k3⟩⟩
    · right
      refine ⟨hj, ?_⟩
      rcases kind with ⟨_, k2, _⟩ | ⟨_, k2, _⟩ <;> rwa [k2, List.getElem?_set_ne (Ne.symm hj)] at q
  -- where others lie
  have farO : ∀ {j : Nat} {c : Addr} {x : Sl}, j ≠ i → ρ[j]? = some (some x) → α j = some c → c ≠ b := fun {j c x} hj ej q z => by
    subst z
    rcases kind with ⟨_, _, k3⟩ | ⟨_, _, k3⟩
    · exact hj (h.inj _ _ _ q k3)
    · exact h.nl j c q k3
  have farG : ∀ {j : Nat} {bs : List Addr}, (∀ k c, bs[k]? = some c → α (vix j k) = some c) → ∀ c ∈ bs, c ≠ b := fun {j bs} hg c m z => by
    subst z
    obtain ⟨k, hk⟩ := List.mem_iff_getElem?.mp m
    have q := hg k c hk
    rcases kind with ⟨_, _, k3⟩ | ⟨_, _, k3⟩
    · have q1 := h.inj _ _ _ k3 q
      have q2 := vix_ge j k
      have q3 := h.sm
      omega
    · exact h.nl _ c q k3
  have farP : ∀ {j : Nat} {e : D} {c : Addr}, j ≠ i → ρ[j]? = some (some (.ownP e)) → Lo c → H0 c = none → c ≠ b := fun {j e c} hj ej lc nc z => by
    subst z
    rcases kind with ⟨_, _, k3⟩ | ⟨k1, _, _⟩
    · exact h.nl i c k3 lc
    · exact hj (h.pr.one _ _ _ _ ej k1)
  obtain ⟨o0, eo0, nc0⟩ : ∃ o0, H b = some o0 ∧ NC b o0 := (let ⟨c, hc, oc, _, _⟩ := h.at_ e; by
    rw [ha] at hc; cases hc; exact oc.nc)
  refine ⟨⟨⟨fun z q => ?_, (h.re.lv.tb.del eo0 nc0).mono s⟩, by rw [len]; exact h.re.len, fun j x q => ?_⟩, (h.same.delN nb eo0 nc0).trans s, h.lo, h.new, h.inj, fun j e2 q => ?_, by rw [len]; exact h.sm, fun j rows q => ?_, h.nl, ⟨fun j e2 q => ?_, fun j l e2 e3 q1 q2 => ?_⟩⟩
  · by_cases hz : z = b
    · obtain ⟨o, ho, _⟩ := ow.chg
      rw [hz, ho]
      simp
    · intro z0
      have z1 := s.fre z z0
      rw [del_ne hz] at z1
      exact h.re.lv z q z1
  · rcases slot q with ⟨rfl, ⟨rfl, _⟩ | ⟨rfl, _⟩⟩ | ⟨hj, q⟩
    · exact ⟨_, ha, b, rfl, ow⟩
    · exact ⟨_, ha, b, rfl, ow⟩
    · obtain ⟨w, f1, r⟩ := h.re.sl j x q
      refine ⟨w, f1, ?_⟩
      cases x with
      | val d3 => obtain ⟨v, g1, g2⟩ := r; exact ⟨v, g1, ev _ _ g2⟩
      | own d3 =>
        obtain ⟨c, g1, g2, g3⟩ := h.own j d3 q
        rw [f1] at g2
        cases g2
        exact ⟨c, rfl, g3.evo (farO hj q g1) s ev⟩
      | grid rows =>
        obtain ⟨c, bs, g1, g2, g3, g4⟩ := h.grd j rows q
        rw [f1] at g2
        cases g2
        exact ⟨c, bs, rfl, g4.evo (farO hj q g1) (farG g3) s ev⟩
      | pin a => exact r
      | ownP d3 =>
        obtain ⟨c, lc, nc, g2, g3⟩ := h.pr.par j d3 q
        rw [f1] at g2
        cases g2
        exact ⟨c, rfl, g3.evo (farP hj q lc nc) s ev⟩
  · rcases slot q with ⟨rfl, ⟨z, _, k3⟩ | ⟨z, _⟩⟩ | ⟨hj, q⟩
    · cases z
      exact ⟨b, k3, ha, ow⟩
    · cases z
    · obtain ⟨c, g1, g2, g3⟩ := h.own j e2 q
      exact ⟨c, g1, g2, g3.evo (farO hj q g1) s ev⟩
  · rcases slot q with ⟨rfl, ⟨z, _⟩ | ⟨z, _⟩⟩ | ⟨hj, q⟩
    · cases z
    · cases z
    · obtain ⟨c, bs, g1, g2, g3, g4⟩ := h.grd j rows q
      exact ⟨c, bs, g1, g2, g3, g4.evo (farO hj q g1) (farG g3) s ev⟩
  · rcases slot q with ⟨rfl, ⟨z, _⟩ | ⟨z, _, k3⟩⟩ | ⟨hj, q⟩
    · cases z
    · cases z
      exact ⟨b, k3, nb, ha, ow⟩
    · obtain ⟨c, lc, nc, g2, g3⟩ := h.pr.par j e2 q
      exact ⟨c, lc, nc, g2, g3.evo (farP hj q lc nc) s ev⟩
  · have old : ∀ {j : Nat} {e : D}, (putO ρ i d')[j]? = some (some (.ownP e)) → ∃ e', ρ[j]? = some (some (.ownP e')) := fun {j e} q => by
      rcases slot q with ⟨rfl, ⟨z, _⟩ | ⟨_, k1, _⟩⟩ | ⟨_, q⟩
      · cases z
      · exact ⟨_, k1⟩
      · exact ⟨_, q⟩
    obtain ⟨_, o1⟩ := old q1
    obtain ⟨_, o2⟩ := old q2
    exact h.pr.one _ _ _ _ o1 o2
end
end VV

set_option Elab.async false
set_option linter.all false
set_option maxRecDepth 100000
set_option maxHeartbeats 4000000
/-! VXj: an expression that changes what slot i holds: calls, and what is made of them. -/
namespace VV
open PySem PySem.Spec L2
open PyProof.Rows hiding St
abbrev EMF := En → Ms
def PostM (K : PySem.W.Frag) (H0 : Hp) (Lo : Ad) (W : WX) (σ : St) (H : Hp) (ρ : En) (α : Nat → Option Addr) (i : Nat) (r : Ms) (Q : VK) : Prop := match r with
  | .ok r d => ∀ α' H' v, RSt K H0 Lo (putO ρ i d) α' σ H' → Evo K Lo H α H' α' → Rp K H' (Lv Lo α') r v → Q v H'
  | .exc c fs d => ∀ α' H' x, RSt K H0 Lo (putO ρ i d) α' σ H' → Evo K Lo H α H' α' → XR K H' (Lv Lo α') fs x → W (.ref (He.ga K c)) x σ H'
  | .bad => False
/-! putO -/
/-! ### a call that is handed the thing of slot i as its last argument -/
section
variable {X : Cx} {W : WX} {e : Expr} {es : List Expr} {f : EF} {fs : List EF} {pos : Pos} {x : Str} {p : Pos}
/-- what a callee does to the thing at a, seen by the frame -/
theorem MsOk.of {K : PySem.W.Frag} {H0 H H1 : Hp} {Lo : Ad} {ρ : En} {α : Nat → Option Addr} {σ : St} {i : Nat} {d : D} {a : Addr} {r : Ms} {Q : VK} (rst : RSt K H0 Lo ρ α σ H) (ho : plAt ρ i = some d) (ha : σ[i]? = some (some (.ref a))) (s1 : Same H H1)
    (p : PostM K H0 Lo W σ H ρ α i r Q) : LvOk K (del H1 a) (fun z => Lv Lo α z ∧ z ≠ a) ∧ Ow K H1 (Lp (fun z => Lv Lo α z ∧ z ≠ a) a) d a ∧ (∀ {ds : List D} {vs : List V}, RpL K H1 (Lv Lo α) ds vs → RpL K H1 (Lp (fun z => Lv Lo α z ∧ z ≠ a) a) ds vs) ∧
    MsOk K H1 (fun z => Lv Lo α z ∧ z ≠ a) a r Q (WE W σ) := by
  have rst1 := rst.mono s1
  obtain ⟨b, hb, ow, lb, nb⟩ := rst1.at_ ho
  have eb : b = a := by rw [ha] at hb; cases hb; rfl
  subst eb
  have toL : ∀ z, Lp (fun z => Lv Lo α z ∧ z ≠ b) b z → Lv Lo α z ∨ H1 z = none := fun z q => .inl (q.elim (·.1) fun e => e ▸ lb)
  have ofL : ∀ {G : Hp} z, Lv Lo α z → Lp (fun z => Lv Lo α z ∧ z ≠ b) b z ∨ G z = none := fun {G} z q => .inl (by
    by_cases hz : z = b
    · exact .inr hz
    · exact .inl ⟨q, hz⟩)
  obtain ⟨o0, eo0, nc0⟩ := ow.nc
  refine ⟨⟨fun z q z0 => ?_, rst1.re.lv.tb.del eo0 nc0⟩, ow.lives toL, fun r => r.lives toL, ?_⟩
  · rw [del_ne q.2] at z0
    exact rst1.re.lv z q.1 z0
  · have back : ∀ {H' : Hp} {d' : D}, Same (del H1 b) H' → (∀ x y, Rp K H1 (Lp (fun z => Lv Lo α z ∧ z ≠ b) b) x y → Rp K H' (Lp (fun z => Lv Lo α z ∧ z ≠ b) b) x y) → Ow K H' (Lp (fun z => Lv Lo α z ∧ z ≠ b) b) d' b →
        RSt K H0 Lo (putO ρ i d') α σ H' ∧ Evo K Lo H α H' α := fun {H' d'} s2 ev ow2 => by
      have ev2 : ∀ x y, Rp K H1 (Lv Lo α) x y → Rp K H' (Lv Lo α) x y := fun x y r => (ev x y (r.lives toL)).lives ofL
      exact ⟨rst1.swap ho ha s2 ev2 (ow2.lives ofL), fun x y r => ev2 x y (r.mono s1)⟩
    cases r with
    | bad => exact p
    | ok r d' =>
      intro H' v s2 ev ow2 rv
      obtain ⟨q1, q2⟩ := back s2 ev ow2
      exact p α H' v q1 q2 (rv.lives ofL)
    | exc c fs d' =>
      intro H' x s2 ev ow2 xr
      obtain ⟨q1, q2⟩ := back s2 ev ow2
      exact p α H' x q1 q2 (xr.lives ofL)
/-! ### statements -/
def Ms.out (r : Ms) (ρ : En) (i : Nat) (k : D → En → Out) : Out := match r with
  | .ok r d => k r (putO ρ i d)
  | .exc c fs d => .exc c fs (putO ρ i d)
  | .bad => .bad
/-! ### d[k] = v, d the caller's -/
end
end VV

set_option Elab.async false
set_option linter.all false
set_option maxRecDepth 100000
set_option maxHeartbeats 4000000
/-! VXk: [e for x in it], where e changes what slot j holds. -/
namespace VV
open PySem PySem.Spec L2
open PyProof.Rows hiding St
section
variable {K : PySem.W.Frag} {H0 H0' H H' : Hp} {Lo Lo' : Ad} {ρ ρ' ρ2 : En} {α α' : Nat → Option Addr} {σ σ' : St} {D : Addr} {o o' : HO}
theorem RSt.map (h : RSt K H0 Lo ρ α σ H) (lv : LvOk K H' (Lv Lo' α)) (tr : ∀ x y, Rp K H (Lv Lo α) x y → Rp K H' (Lv Lo' α) x y)
    (to : ∀ d a, Lv Lo α a → H0 a = none → Ow K H (Lv Lo α) d a → Ow K H' (Lv Lo' α) d a) (tg : ∀ (rows : Gr) a bs, H0 a = none → (∀ b ∈ bs, H0 b = none) → Og K H (Lv Lo α) rows a bs → Og K H' (Lv Lo' α) rows a bs)
    (sm : Same H0' H') (lo : ∀ a b, Lo' a → Lo' b → H0' a = none → H0' b = none → a = b) (new : ∀ i a, α i = some a → H0' a = none) (nl : ∀ i a, α i = some a → ¬ Lo' a) (pr : ∀ a, Lo a → H0 a = none → Lo' a ∧ H0' a = none) : RSt K H0' Lo' ρ α σ H' := by
  have own : ∀ (i : Nat) (d : VV.D), ρ[i]? = some (some (.own d)) → ∃ a, α i = some a ∧ σ[i]? = some (some (.ref a)) ∧ Ow K H' (Lv Lo' α) d a := fun i d e => by
    obtain ⟨a, e1, e2, q⟩ := h.own i d e
    exact ⟨a, e1, e2, to d a (.inr ⟨i, e1⟩) (h.new i a e1) q⟩
  have grd : ∀ (i : Nat) (rows : Gr), ρ[i]? = some (some (.grid rows)) → ∃ a bs, α i = some a ∧ σ[i]? = some (some (.ref a)) ∧ (∀ k b, bs[k]? = some b → α (vix i k) = some b) ∧ Og K H' (Lv Lo' α) rows a bs := fun i rows e => by
    obtain ⟨a, bs, e1, e2, e3, q⟩ := h.grd i rows e
    refine ⟨a, bs, e1, e2, e3, tg rows a bs (h.new i a e1) (fun b hb => ?_) q⟩
    obtain ⟨k, hk⟩ := List.mem_iff_getElem?.mp hb
    exact h.new _ b (e3 k b hk)
  have par : ∀ (i : Nat) (d : VV.D), ρ[i]? = some (some (.ownP d)) → ∃ a, Lo' a ∧ H0' a = none ∧ σ[i]? = some (some (.ref a)) ∧ Ow K H' (Lv Lo' α) d a := fun i d e => by
    obtain ⟨a, e1, e2, e3, q⟩ := h.pr.par i d e
    exact ⟨a, (pr a e1 e2).1, (pr a e1 e2).2, e3, to d a (.inl e1) e2 q⟩
  refine ⟨⟨lv, h.re.len, fun i x e => ?_⟩, sm, lo, new, h.inj, own, h.sm, grd, nl, ⟨par, h.pr.one⟩⟩
  obtain ⟨w, e1, r⟩ := h.re.sl i x e
  refine ⟨w, e1, ?_⟩
  cases x with
  | val d => obtain ⟨v, g1, g2⟩ := r; exact ⟨v, g1, tr _ _ g2⟩
  | own d =>
    obtain ⟨a, _, g1, g2⟩ := own i d e
    rw [e1] at g1
    cases g1
    exact ⟨a, rfl, g2⟩
  | grid rows =>
    obtain ⟨a, bs, _, g1, _, g2⟩ := grd i rows e
    rw [e1] at g1
    cases g1
    exact ⟨a, bs, rfl, g2⟩
  | pin a => exact r
  | ownP d =>
    obtain ⟨a, _, _, g1, g2⟩ := par i d e
    rw [e1] at g1
    cases g1
    exact ⟨a, rfl, g2⟩
end
/-! ### the items -/
/-! ### the loop -/
section
variable {X : Cx} {W : WX}
end
end VV

set_option Elab.async false
set_option linter.all false
set_option maxRecDepth 100000
set_option maxHeartbeats 4000000
/-! VXl: f(e), f a builtin and e an expression that changes slot i; a def that is never come to. -/
namespace VV
open PySem PySem.Spec L2
open PyProof.Rows hiding St
def Ms.one (r : Ms) (fn : List D → Option D) : Ms := match r with
  | .ok r d => match fn [r] with
    | some y => .ok y d
    | none => .bad
  | .exc c fs d => .exc c fs d
  | .bad => .bad
section
variable {X : Cx} {W : WX} {x : Str} {p pos : Pos} {e : Expr} {id : String} {fn : List D → Option D} {f : EMF} {i : Nat}
end
end VV

set_option Elab.async false
set_option linter.all false
set_option maxRecDepth 100000
set_option maxHeartbeats 4000000
/-! VXm: x < y of alike data. -/
namespace VV
open PySem PySem.Spec L2
open PyProof.Rows hiding St
section
variable {X : Cx}
end
end VV

set_option Elab.async false
set_option linter.all false
set_option maxRecDepth 100000
set_option maxHeartbeats 4000000
/-! VXn: objects of own classes: their fields read, and stored. -/
namespace VV
open PySem PySem.Spec L2
open PyProof.Rows hiding St
section
variable {K : PySem.W.Frag} {H : Hp} {L : Ad} {c : Str} {fs : List (Str × D)}
end
/-- what the head tells of a class and a field of its objects -/
structure FldK (K : PySem.W.Frag) (C f : Str) : Prop where
  cls : Cls K (He.ga K C)
  no : NoAttr K (He.ga K C) f
section
variable {X : Cx} {W : WX} {o e : Expr} {ef eg : EF} {C f x : Str} {pos pos' p : Pos}
end
end VV

set_option Elab.async false
set_option linter.all false
set_option maxRecDepth 100000
set_option maxHeartbeats 4000000
/-! VXo: methods that change the object that slot i holds. -/
namespace VV
open PySem PySem.Spec L2
open PyProof.Rows hiding St
section
variable {X : Cx} {CX : CXT} {k : Nat} {C f : Addr} {m : Str} {fd : FuncData} {ps : List Str} {sp : Sp} {E : St → XK} {o e : Expr} {es : List Expr} {ta : TE} {t : TA} {apos pos : Pos}
end
/-- a method that changes its object: n parameters, the object the first -/
structure DnO (P : Program) (w : World) (K : PySem.W.Frag) (mg : Str → Option Value) (base : Heap) (C m : Str) (k n : Nat) (g : List D → D → Ms) : Prop where
  ex : ∃ (f : Addr) (fd : FuncData) (ps : List Str), Cls K (He.ga K C) ∧ Meth K (He.ga K C) m f ∧ FnOk P w K mg base (L2.CX P w) k f fd ps (spM K n 0 g) ∧ Binds K fd ps []
section
variable {X : Cx} {W : WX} {e : Expr} {es : List Expr} {fs : List EF} {pos apos px : Pos} {x C m : Str}
end
end VV

set_option Elab.async false
set_option linter.all false
set_option maxRecDepth 100000
set_option maxHeartbeats 4000000
/-! VXp: operators, if-expressions, range, where one part changes what slot i holds. -/
namespace VV
open PySem PySem.Spec L2
open PyProof.Rows hiding St
section
variable {X : Cx} {W : WX} {a b c : Expr} {pos p : Pos} {i : Nat} {f h : EF} {mf mg : EMF} {tg : Expr}
theorem PostM.mono {K : PySem.W.Frag} {H0 H H1 : Hp} {Lo : Ad} {σ : St} {ρ : En} {α : Nat → Option Addr} {r : Ms} {Q : VK} (p : PostM K H0 Lo W σ H ρ α i r Q) (s : Same H H1) : PostM K H0 Lo W σ H1 ρ α i r Q := by
  cases r with
  | bad => exact p
  | ok y d => exact fun α2 H2 u r2 e2 ru => p α2 H2 u r2 (Evo.trans (.of_same s) e2) ru
  | exc c xs d => exact fun α2 H2 xo r2 e2 xr => p α2 H2 xo r2 (Evo.trans (.of_same s) e2) xr
end
end VV

set_option Elab.async false
set_option linter.all false
set_option maxRecDepth 100000
set_option maxHeartbeats 4000000
/-! VXq: [..] * e, range(e), x.extend(e), where e changes what slot i holds. -/
namespace VV
open PySem PySem.Spec L2
open PyProof.Rows hiding St
section
variable {X : Cx} {W : WX} {a b e : Expr} {pos p : Pos} {i : Nat} {f : EF} {mf mg : EMF} {tg : Expr}
end
end VV

set_option Elab.async false
set_option linter.all false
set_option maxRecDepth 100000
set_option maxHeartbeats 4000000
/-! VXr: x.extend(e), x.append(e), where e changes what slot i holds. -/
namespace VV
open PySem PySem.Spec L2
open PyProof.Rows hiding St
section
variable {X : Cx} {W : WX} {e : Expr} {pos : Pos} {i j : Nat} {mf : EMF}
end
end VV

set_option Elab.async false
set_option linter.all false
set_option maxRecDepth 100000
set_option maxHeartbeats 4000000
/-! VXs: a new object of a class whose __init__ only stores fields. -/
namespace VV
open PySem PySem.Spec L2
open PyProof.Rows hiding St
/-- a class, made by __init__: n parameters, the object the first -/
structure DnK (P : Program) (w : World) (K : PySem.W.Frag) (mg : Str → Option Value) (base : Heap) (C : Str) (k n : Nat) (g : List D → D → Ms) : Prop where
  ex : ∃ (f : Addr) (fd : FuncData) (ps : List Str), mg C = some (.ref (He.ga K C)) ∧ Mk K (He.ga K C) f ∧ FnOk P w K mg base (L2.CX P w) k f fd ps (spM K n 0 g) ∧ Binds K fd ps []
section
variable {X : Cx} {W : WX} {e : Expr} {es : List Expr} {fs : List EF} {pos p : Pos} {C : Str}
end
end VV

set_option Elab.async false
set_option linter.all false
set_option maxRecDepth 100000
set_option maxHeartbeats 4000000
/-! VXt: x.f op= e, x an object that slot i holds, its field an int. -/
namespace VV
open PySem PySem.Spec L2
open PyProof.Rows hiding St
section
variable {X : Cx} {W : WX} {e : Expr} {eg : EF} {C f x : Str} {pos tpos p : Pos}
end
end VV

set_option Elab.async false
set_option linter.all false
set_option maxRecDepth 100000
set_option maxHeartbeats 4000000
/-! VYa: a lambda with one parameter: made, called by a builtin. -/
namespace VV
open PySem PySem.Spec L2
open PyProof.Rows hiding St
/-- its names: one parameter, what it captured, globals -/
structure LamS1 (nm : Str) (outside inside : Scope) : Prop where
  kd : inside.kind = .function ∧ inside.isCoroutine = false ∧ inside.isGenerator = false
  par : inside.names.lookup nm = some .local
  loc : ∀ p ∈ inside.names, p.2 = .local → p.1 = nm
  noc : ∀ p ∈ inside.names, p.2 ≠ .cell
  cap : ∀ p ∈ inside.names, p.2 = .free → p.1 ≠ nm
  out : ∀ p ∈ inside.names, p.2 = .free → outside.names.lookup p.1 = some .cell ∨ outside.names.lookup p.1 = some .free
section
variable {X : Cx} {pins : List (Addr × Obj)} {σ : St} {H : Hp} {s : Shared} {nm : Str} {iM : Nat} {v : V} {u : Value} {inside : Scope}
theorem LamS1.has (L : LamS1 nm X.env.scope inside) (ok : X.Ok) (p : Str × NameKind) (m : p ∈ inside.names) (e : p.2 = .free) : ∃ c, X.env.cells.lookup p.1 = some c := ok.has p.1 (L.out p m e)
/-- what it captured lies in the def's own cells -/
theorem caught (L : LamS1 nm X.env.scope inside) (ok : X.Ok) {y : Str} {c : Addr} (e : (cloFrom X.env.cells inside.names []).lookup y = some c) : X.env.cells.lookup y = some c := by
  have q := cloFrom_mem (PySem.mem_of_lookup e)
  simp only [List.not_mem_nil, false_or] at q
  obtain ⟨a, ha⟩ := L.has ok _ q.1 rfl
  simp only at ha
  rw [q.2, ha]
  rfl
end
end VV

set_option Elab.async false
set_option linter.all false
set_option maxRecDepth 100000
set_option maxHeartbeats 4000000
/-! VYb: sorted(xs, key=lambda m: body), the lambda made. -/
namespace VV
open PySem PySem.Spec L2
open PyProof.Rows hiding St
section
variable {X : Cx} {pins : List (Addr × Obj)} {σ : St} {H : Hp} {s : Shared} {L : Ad} {K : PySem.W.Frag}
end
end VV

set_option Elab.async false
set_option linter.all false
set_option maxRecDepth 100000
set_option maxHeartbeats 4000000
/-! VYc: sorted(xs, key=lambda m: body): the keys' calls. -/
namespace VV
open PySem PySem.Spec L2
open PyProof.Rows hiding St
section
variable {X : Cx} {pins : List (Addr × Obj)} {σ : St} {H : Hp} {s : Shared} {L : Ad}
end
end VV

set_option Elab.async false
set_option linter.all false
set_option maxRecDepth 100000
set_option maxHeartbeats 4000000
/-! VYd: sorted(xs, key=lambda m: body); methods that leave their object alone; a def that makes a lambda. -/
namespace VV
open PySem PySem.Spec L2
open PyProof.Rows hiding St
/-- the lambda's table is there -/
structure LamOk (K : PySem.W.Frag) (mg : Str → Option Value) (base : Heap) : Prop where
  on : lamB K = true
  tb : LamX.TabB base mg (He.cT K lamDef).1 (He.cT K lamDef).2
section
variable {X : Cx} {W : WX} {e : Expr} {fl fb : EF} {nm : Str} {p1 pos kpos lpos : Pos} {params : Arguments} {body : Expr} {scope : Scope} {iM k : Nat}
end
/-- a method that leaves its object alone: n parameters, the object the first -/
structure DvO (P : Program) (w : World) (K : PySem.W.Frag) (mg : Str → Option Value) (base : Heap) (C m : Str) (k n : Nat) (g : List D → Rs) : Prop where
  ex : ∃ (f : Addr) (fd : FuncData) (ps : List Str), Cls K (He.ga K C) ∧ Meth K (He.ga K C) m f ∧ FnOk P w K mg base (L2.CX P w) k f fd ps (spP K n g) ∧ Binds K fd ps []
section
variable {X : Cx} {W : WX} {o e : Expr} {es : List Expr} {fo : EF} {fs : List EF} {pos apos : Pos} {C m : Str}
end
end VV

set_option Elab.async false
set_option linter.all false
set_option maxRecDepth 100000
set_option maxHeartbeats 4000000
/-! VYe: head and end of a law that comes to a lambda. -/
namespace VV
open PySem PySem.Spec L2
open PyProof.Rows hiding St
def lamHd (K : PySem.W.Frag) : Bool := PySem.W.codeHdIn K (He.cT K lamDef).1 (He.cT K lamDef).2
/-- what the head tells -/
structure SaysL (fa : List He.Fa) (fn : List He.DefD) (cs : List Chk) (h : Heap) (K : PySem.W.Frag) : Prop where
  d : He.SaysD fa fn K
  chk : ∀ c ∈ cs, c K = true
  hd : lamHd K = true
  out : K.lookup (tabK K) = none
  empty : h.get? (tabK K) = some { cls := .none, data := .fields #[] }
end VV

set_option Elab.async false
set_option linter.all false
set_option maxRecDepth 100000
set_option maxHeartbeats 4000000
/-! VYf: x.insert(k, e), x an own list. -/
namespace VV
open PySem PySem.Spec L2
open PyProof.Rows hiding St
section
variable {X : Cx} {W : WX} {a e : Expr} {ek ef : EF} {pos : Pos}
end
end VV

set_option Elab.async false
set_option linter.all false
set_option maxRecDepth 100000
set_option maxHeartbeats 4000000
/-! VYg: isinstance of a caught error that may have a field. -/
namespace VV
open PySem PySem.Spec L2
open PyProof.Rows hiding St
/-- the error's own dict is there, where it has one -/
def DictAt (H : Hp) : Option Addr → Prop
  | none => True
  | some dd => ∃ gs, H dd = some (.xd gs)
def rIsX (K : PySem.W.Frag) (D a : Addr) (dx : Option Addr) : List V → Hp → VK → Prop := fun xs H Q => ∃ (c : V) (cv : Value) (b : Bool), xs = [.ref a, c] ∧ (∀ u, RelV c u → u = cv) ∧ DictAt H dx ∧ PySem.W.kitOne K (.ref D) cv = some b ∧ Q (.bl b) H
theorem cls_there {K : PySem.W.Frag} {D : Addr} (C : ExcC K D) : (PySem.W.clsIn K D).isSome = true := by
  have h := C.hd
  unfold PySem.W.hasDictIn at h
  cases q : PySem.W.clsIn K D with
  | none => rw [q] at h; cases h
  | some _ => rfl
theorem call_isX {X : Cx} {a D : Addr} {oe : Obj} {pn : List (Addr × Obj)} {dx : Option Addr} (C : ExcC X.K D) (hz : Zc (.ref D) dx oe) (hf : ∃ vs, oe.data = .fields vs) : CallR (X.suite a ((a, oe) :: pn)) (.builtin "isinstance") (rIsX X.K D a dx) := by
  rintro pins s σ H xs us Q I r ⟨c, cv, b, rfl, only, dict, kit, q⟩
  obtain ⟨u1, u2, rfl, r1, r2⟩ := r.two
  obtain rfl : u1 = Value.ref a := r1
  obtain rfl := only _ r2
  have here := (I.pin (a, oe) (List.mem_append.mpr (.inl List.mem_cons_self))).1
  have inst : ∃ od, PySem.W.InstAt s.heap a oe D od := by
    obtain ⟨oc, odd, oda, osl⟩ := oe
    obtain ⟨z1, z2⟩ := hz
    obtain ⟨vs, hv⟩ := hf
    simp only at z1 z2 hv
    subst z1 z2 hv
    cases odd with
    | none => exact ⟨none, here, rfl, rfl, trivial⟩
    | some dd =>
      obtain ⟨gs, hgs⟩ := dict
      obtain ⟨mA, ⟨o, _, _, ho, _⟩, _⟩ := I.hok dd _ hgs
      exact ⟨some o, here, rfl, rfl, ho⟩
  obtain ⟨od, J⟩ := inst
  exact PySem.W.kia_one (PySem.W.kitx_exc (cls_there C) C.hg C.hk C.hs C.ha C.hn C.ht C.hm) I.kIn J kit (by intro z; cases z) fun tk => ⟨.bl b, H, I.kept (t' := tk) fun _ _ z => z, rfl, q⟩
theorem sg_isi {X : Cx} {a D : Addr} {i : Nat} {oe : Obj} {pn : List (Addr × Obj)} {dx : Option Addr} {fs : List (Str × VV.D)} {x T : Str} {C : Addr} {b : Bool} {p p1 p2 pos : Pos} (c : ExcC X.K D) (hz : Zc (.ref D) dx oe) (hf : ∃ vs, oe.data = .fields vs) (hm : X.mg "isinstance" = none) (hT : X.mg T = some (.ref C))
    (hk : PySem.W.kitOne X.K (.ref D) (.ref C) = some b) (hN : X.N[i]? = some x := by rfl) (hv : Vis X.env.scope x := by first | exact Or.inl rfl | exact Or.inr (Or.inl rfl) | exact Or.inr (Or.inr rfl)) (hd : (x == ("__debug__" : Str)) = false := by decide) (hcd : (x == ("__classdict__" : Str)) = false := by decide)
    (hg : Gl X "isinstance" := by rfl) (hgT : Gl X T := by rfl) (hdT : (T == ("__debug__" : Str)) = false := by decide)
    (he : starEach [.Name x p1, .Name T p2] X.env = (false, eval (.Name x p1) X.env) :: starEach [.Name T p2] X.env := by rfl) (he2 : starEach [.Name T p2] X.env = (false, eval (.Name T p2) X.env) :: starEach [] X.env := by rfl) (hpl : (backTo pos (starEach [.Name T p2] X.env)).any (·.1) = false := by rfl) :
    SG (X.suite a ((a, oe) :: pn)) a i dx fs (.Call (.Name "isinstance" p) [.Name x p1, .Name T p2] [] pos) (eC (.bool b)) := by
  have h1 : PE (X.suite a ((a, oe) :: pn)) (.Name x p1) _ := pe_var (X := X.suite a ((a, oe) :: pn)) hN hv hd hcd
  have h2 : PE (X.suite a ((a, oe) :: pn)) (.Name T p2) _ := pe_glob (X := X.suite a ((a, oe) :: pn)) (v := .ref C) hgT hT rfl hdT
  refine (pe_callB (X := X.suite a ((a, oe) :: pn)) (call_isX c hz hf) hg hm (by decide +kernel) (pa_cons h1 (pa_cons h2 pa_nil he2) he) (by decide) (by decide) he hpl).weak fun σ H Q ⟨hσ, L, ρ, re, xr, q⟩ => ?_
  have da : DictAt H dx := by
    rcases xr with ⟨_, e⟩ | ⟨dd, gs, _, e, h, _⟩
    · rw [e]; trivial
    · rw [e]; exact ⟨gs, h⟩
  exact ⟨.ref a, hσ, .ref C, .ref C, b, rfl, fun u r => r, da, hk, q H _ (Same.refl H) (.bl b)⟩
end VV

set_option Elab.async false
set_option linter.all false
set_option maxRecDepth 100000
set_option maxHeartbeats 4000000
/-! VYh: methods that change their object and give away a new list. -/
namespace VV
open PySem PySem.Spec L2
open PyProof.Rows hiding St
/-! ### a list taken out of the heap -/
section
variable {K : PySem.W.Frag} {H : Hp} {L : Ad} {b : Addr} {us : List V}
theorem at_del {a : Addr} {o : HO} (hb : H b = some (.lst us)) (h : H a = some o) (no : ∀ ws, o ≠ .lst ws) : del H b a = some o := by
  rw [del_ne]
  · exact h
  · intro e
    subst e
    rw [hb] at h
    cases h
    exact no us rfl
theorem SqG.gone (hb : H b = some (.lst us)) (lb : L b) {a : Addr} {xs : List V} (h : SqG K H L a xs) : SqG K (del H b) L a xs := by
  rcases h with (⟨o, h⟩ | h) | ⟨h, n⟩
  · exact .inl (.inl ⟨o, at_del hb h fun ws => by simp⟩)
  · exact .inl (.inr h)
  · exact .inr ⟨by rw [del_ne (by intro e; subst e; exact n lb)]; exact h, n⟩
mutual
theorem Rp.gone (hb : H b = some (.lst us)) (lb : L b) : ∀ {d : D} {v : V}, Rp K H L d v → Rp K (del H b) L d v
  | _, _, .non => .non
  | _, _, .bl c => .bl c
  | _, _, .int i => .int i
  | _, _, .str x => .str x
  | _, _, .tup h r => .tup (at_del hb h fun ws => by simp) (RpL.gone hb lb r)
  | _, _, .lst h n r => .lst (by rw [del_ne (by intro e; subst e; exact n lb)]; exact h) n (RpL.gone hb lb r)
  | _, _, .rd h => .rd (h.gone hb lb)
  | _, _, .fz h e r => .fz (at_del hb h fun ws => by simp) e (RpL.gone hb lb r)
  | _, _, .fd h e r => .fd (at_del hb h fun ws => by simp) e (RpL.gone hb lb r)
  | _, _, .ob h n e r => .ob (at_del hb h fun ws => by simp) n e (RpL.gone hb lb r)
  | _, _, .dk h n e r => .dk (at_del hb h fun ws => by simp) n e (RpL.gone hb lb r)
  | _, _, .dt h n e r => .dt (at_del hb h fun ws => by simp) n e (RpL.gone hb lb r)
theorem RpL.gone (hb : H b = some (.lst us)) (lb : L b) : ∀ {ds : List D} {vs : List V}, RpL K H L ds vs → RpL K (del H b) L ds vs
  | _, _, .nil => .nil
  | _, _, .cons h r => .cons (Rp.gone hb lb h) (RpL.gone hb lb r)
end
theorem Ow.gone (hb : H b = some (.lst us)) (lb : L b) {d : D} {a : Addr} (ne : a ≠ b) (h : Ow K H L d a) : Ow K (del H b) L d a := by
  cases h with
  | lst h r => exact .lst (by rw [del_ne ne]; exact h) (r.gone hb lb)
  | dk h e r => exact .dk (by rw [del_ne ne]; exact h) e (r.gone hb lb)
  | dt h e r => exact .dt (by rw [del_ne ne]; exact h) e (r.gone hb lb)
  | ob h e r => exact .ob (by rw [del_ne ne]; exact h) e (r.gone hb lb)
end
/-! ### return x, x a list that the frame holds; the object is kept -/
section
variable {X : Cx} {W : WX} {x : Str} {p pos : Pos}
end
/-! ### such a def -/
def MsOkQ (K : PySem.W.Frag) (H : Hp) (L : Ad) (a : Addr) (r : Ms) (Q : VK) (E : XK) : Prop := match r with
  | .ok r d => ∀ H' b, Same (del H a) H' → (∀ x y, Rp K H (Lp L a) x y → Rp K H' (Lp (Lp L a) b) x y) → b ≠ a → ¬ L b → H b = none → Ow K H' (Lp (Lp L a) b) d a → Ow K H' (Lp (Lp L a) b) r b → Q (.ref b) H'
  | .exc c fs d => ∀ H' x, Same (del H a) H' → (∀ x y, Rp K H (Lp L a) x y → Rp K H' (Lp L a) x y) → Ow K H' (Lp L a) d a → XR K H' (Lp L a) fs x → E (.ref (He.ga K c)) x H'
  | .bad => False
def spQ (K : PySem.W.Frag) (n m : Nat) (g : List D → D → Ms) : Sp := fun vs H Q E => ∃ (L : Ad) (a : Addr) (ds : List D) (d : D) (us ws : List V), vs = us ++ .ref a :: ws ∧ ds.length + 1 = n ∧ m < n ∧ LvOk K (del H a) L ∧ Ow K H (Lp L a) d a ∧
  RpL K H (Lp L a) (ds.take m) us ∧ RpL K H (Lp L a) (ds.drop m) ws ∧ MsOkQ K H L a (g ds d) Q E
/-- a method that changes its object and gives away a new list -/
structure DnQ (P : Program) (w : World) (K : PySem.W.Frag) (mg : Str → Option Value) (base : Heap) (C m : Str) (k n : Nat) (g : List D → D → Ms) : Prop where
  ex : ∃ (f : Addr) (fd : FuncData) (ps : List Str), Cls K (He.ga K C) ∧ Meth K (He.ga K C) m f ∧ FnOk P w K mg base (L2.CX P w) k f fd ps (spQ K n 0 g) ∧ Binds K fd ps []
end VV

set_option Elab.async false
set_option linter.all false
set_option maxRecDepth 100000
set_option maxHeartbeats 4000000
/-! VYi: y = x.m(e, ..), where the method changes x and gives away a new list. -/
namespace VV
open PySem PySem.Spec L2
open PyProof.Rows hiding St
def PostQ (K : PySem.W.Frag) (H0 : Hp) (Lo : Ad) (W : WX) (σ : St) (H : Hp) (ρ : En) (α : Nat → Option Addr) (j i : Nat) (r : Ms) (Q : VK) : Prop := match r with
  | .ok (.list ds) d => ∀ H' b, RSt K H0 Lo ((putO ρ i d).set j (some (.own (.list ds)))) (fun l => if l = j then some b else α l) (σ.set j (some (.ref b))) H' → Evo K Lo H α H' (fun l => if l = j then some b else α l) → Q (.ref b) H'
  | .ok _ _ => False
  | .exc c xs d => ∀ H' x, RSt K H0 Lo (putO ρ i d) α σ H' → Evo K Lo H α H' α → XR K H' (Lv Lo α) xs x → W (.ref (He.ga K c)) x σ H'
  | .bad => False
theorem MsOkQ.of {K : PySem.W.Frag} {W : WX} {H0 H H1 : Hp} {Lo : Ad} {ρ : En} {α : Nat → Option Addr} {σ : St} {i j : Nat} {d : D} {a : Addr} {r : Ms} {Q : VK} (hj : j < 1000) (rst : RSt K H0 Lo ρ α σ H) (ho : plAt ρ i = some d) (ha : σ[i]? = some (some (.ref a))) (s1 : Same H H1)
    (p : PostQ K H0 Lo W σ H ρ α j i r Q) : LvOk K (del H1 a) (fun z => Lv Lo α z ∧ z ≠ a) ∧ Ow K H1 (Lp (fun z => Lv Lo α z ∧ z ≠ a) a) d a ∧ (∀ {ds : List D} {vs : List V}, RpL K H1 (Lv Lo α) ds vs → RpL K H1 (Lp (fun z => Lv Lo α z ∧ z ≠ a) a) ds vs) ∧
    MsOkQ K H1 (fun z => Lv Lo α z ∧ z ≠ a) a r Q (WE W σ) := by
  have rst1 := rst.mono s1
  obtain ⟨c, hc, ow, lb, nb⟩ := rst1.at_ ho
  have eb : c = a := by rw [ha] at hc; cases hc; rfl
  subst eb
  have toL : ∀ z, Lp (fun z => Lv Lo α z ∧ z ≠ c) c z → Lv Lo α z ∨ H1 z = none := fun z q => .inl (q.elim (·.1) fun e => e ▸ lb)
  have ofS : ∀ z, Lv Lo α z → Lp (fun z => Lv Lo α z ∧ z ≠ c) c z := fun z q => by
    by_cases hz : z = c
    · exact .inr hz
    · exact .inl ⟨q, hz⟩
  obtain ⟨o0, eo0, nc0⟩ := ow.nc
  refine ⟨⟨fun z q z0 => ?_, rst1.re.lv.tb.del eo0 nc0⟩, ow.lives toL, fun r => r.lives toL, ?_⟩
  · rw [del_ne q.2] at z0
    exact rst1.re.lv z q.1 z0
  · cases r with
    | bad => exact p
    | exc cl fs d' =>
      intro H' x s2 ev ow2 xr
      have ev2 : ∀ x y, Rp K H1 (Lv Lo α) x y → Rp K H' (Lv Lo α) x y := fun x y r => (ev x y (r.lives toL)).lives fun z q => .inl (ofS z q)
      exact p H' x (rst1.swap ho ha s2 ev2 (ow2.lives fun z q => .inl (ofS z q))) (fun x y r => ev2 x y (r.mono s1)) (xr.lives fun z q => .inl (ofS z q))
    | ok r d' =>
      cases r with
      | list ds =>
        intro H' b s2 ev ne nl fb ow2 orr
        obtain ⟨us, hb⟩ : ∃ us, H' b = some (.lst us) := by
          cases orr with
          | lst h _ => exact ⟨_, h⟩
        have sub : ∀ z, Lv Lo α z → Lp (Lp (fun z => Lv Lo α z ∧ z ≠ c) c) b z := fun z q => .inl (ofS z q)
        have s3 : Same (del H1 c) (del H' b) := s2.delN (by rw [del_ne ne]; exact fb) hb trivial
        have evG : ∀ x y, Rp K H1 (Lv Lo α) x y → Rp K (del H' b) (Lv Lo α) x y := fun x y r => ((ev x y (r.lives toL)).gone hb (.inr rfl)).lives fun z q => .inl (sub z q)
        have rstG := rst1.swap ho ha s3 evG ((ow2.gone hb (.inr rfl) (Ne.symm ne)).lives fun z q => .inl (sub z q))
        obtain ⟨r1, r2⟩ := rstG.setOwn (i := j) (d := .list ds) (a := b) hj same_del (del_same ..) (orr.lives fun z q => .inl (q.elim (sub z) fun e => .inr e))
        exact p H' b r1 fun x y r => r2 x y (evG x y (r.mono s1))
      | _ => exact p.elim
section
variable {X : Cx} {W : WX} {e : Expr} {es : List Expr} {fs : List EF} {pos cpos apos px pos' : Pos} {x y C m : Str}
end
end VV

set_option Elab.async false
set_option linter.all false
set_option maxRecDepth 100000
set_option maxHeartbeats 4000000
/-! VYj: x.pop(0) of an own list, y.append(e) where e pops. -/
namespace VV
open PySem PySem.Spec L2
open PyProof.Rows hiding St
section
variable {X : Cx} {W : WX} {e a : Expr} {pos : Pos} {i j : Nat} {mf : EMF}
end
end VV

set_option Elab.async false
set_option linter.all false
set_option maxRecDepth 100000
set_option maxHeartbeats 4000000
/-! VYk: (..) * 1 is the tuple itself. -/
namespace VV
open PySem PySem.Spec L2
open PyProof.Rows hiding St
section
variable {X : Cx}
end
end VV

set_option Elab.async false
set_option linter.all false
set_option maxRecDepth 100000
set_option maxHeartbeats 4000000
/-! VYl: y = [e for x in it], where e changes what slot j holds. -/
namespace VV
open PySem PySem.Spec L2
open PyProof.Rows hiding St
section
variable {X : Cx} {W : WX} {x : Str} {pos : Pos}
end
end VV

set_option Elab.async false
set_option linter.all false
set_option maxRecDepth 100000
set_option maxHeartbeats 4000000
/-! VYm: an exception leaves a comprehension. -/
namespace VV
open PySem PySem.Spec L2
open PyProof.Rows hiding St
section
variable {M : Model} {A : Around} {E : Value → Shared → Prop} {s : Shared}
end
/-! ### the block, with an end for exceptions -/
section
variable {X : Cx} {W : WX} {pins pn : List (Addr × Obj)} {σ σ' : St} {H H' : Hp} {s s3 t : Shared} {H3 : Hp} {scope : Scope} {ce : Env} {fp : List Addr} {xe : Value → Shared → Prop}
end
section
variable {X : Cx} {W : WX}
end
end VV

set_option Elab.async false
set_option linter.all false
set_option maxRecDepth 100000
set_option maxHeartbeats 4000000
/-! VYn: [e for x in it], where e changes what slot j holds, or raises. -/
namespace VV
open PySem PySem.Spec L2
open PyProof.Rows hiding St
section
variable {X : Cx} {W : WX} {x : Str} {pos : Pos}
end
end VV

set_option Elab.async false
set_option linter.all false
set_option maxRecDepth 100000
set_option maxHeartbeats 4000000
/-! VYo: objects with lists of their own: laid aside, changed, taken up again. -/
namespace VV
open PySem PySem.Spec L2
open PyProof.Rows hiding St
/-- H without an object and its lists -/
def delF (H : Hp) (a : Addr) (bs : List Addr) : Hp := fun z => if z = a ∨ z ∈ bs then none else H z
/-- L and these -/
def Lpf (L : Ad) (a : Addr) (bs : List Addr) : Ad := fun z => L z ∨ z = a ∨ z ∈ bs
section
variable {K : PySem.W.Frag} {H0 H H' : Hp} {Lo L L' : Ad} {ρ : En} {α : Nat → Option Addr} {σ : St} {a : Addr} {bs : List Addr}
theorem delF_in {z : Addr} (h : z = a ∨ z ∈ bs) : delF H a bs z = none := if_pos h
theorem delF_out {z : Addr} (h : ¬ (z = a ∨ z ∈ bs)) : delF H a bs z = H z := if_neg h
theorem delF_none {z : Addr} (h : delF H a bs z = none) : z = a ∨ z ∈ bs ∨ H z = none := by
  by_cases q : z = a ∨ z ∈ bs
  · exact q.elim .inl fun q => .inr (.inl q)
  · rw [delF_out q] at h
    exact .inr (.inr h)
theorem delF_some {z : Addr} {o : HO} (h : delF H a bs z = some o) : H z = some o ∧ ¬ (z = a ∨ z ∈ bs) := by
  by_cases q : z = a ∨ z ∈ bs
  · rw [delF_in q] at h; cases h
  · rw [delF_out q] at h
    exact ⟨h, q⟩
theorem same_delF : Same (delF H a bs) H := .of fun b o e => (delF_some e).1
/-- what lies there is neither a table nor a code object -/
theorem Fl.nc {ds : List D} {vs : List V} (h : Fl K H L ds vs bs) : ∀ b ∈ bs, ∃ o, H b = some o ∧ NC b o := by
  induction h with
  | nil => exact fun b hb => by cases hb
  | val _ _ ih => exact ih
  | inn h _ _ ih => exact fun b hb => (List.mem_cons.mp hb).elim (fun e => e ▸ ⟨_, h, trivial⟩) (ih b)
theorem Os.nc {o : Kn} {d : D} (h : Os K H L o d a bs) : ∀ b, b = a ∨ b ∈ bs → ∃ u, H b = some u ∧ NC b u := fun b hb => by
  obtain ⟨C, fs, dx, vs, e, h1, h2, h3⟩ := h.ex
  rcases hb with rfl | hb
  · exact ⟨_, h1, trivial⟩
  · exact h3.nc b hb
theorem tabS_delF {P : Addr} {q : Str} (t : LamX.TabS H P q) (n : ∀ b, b = a ∨ b ∈ bs → ∃ u, H b = some u ∧ NC b u) : LamX.TabS (delF H a bs) P q := by
  obtain ⟨ps, h1, h2, h3⟩ := t
  have off : ∀ {b : Addr} {u : HO}, H b = some u → (∀ w, w = u → ¬ NC b w) → delF H a bs b = some u := fun {b u} e nn => by
    rw [delF_out]
    · exact e
    · intro z
      obtain ⟨w, e2, nw⟩ := n b z
      rw [e] at e2
      cases e2
      exact nn u rfl nw
  refine ⟨ps, off h1 (fun w e nw => by subst e; exact nw), h2, fun pos cv hc => ?_⟩
  obtain ⟨c, e1, e2⟩ := h3 pos cv hc
  exact ⟨c, e1, off e2 fun w e nw => by subst e; exact nc_code nw⟩
theorem TbOk.delF (t : TbOk K H) (n : ∀ b, b = a ∨ b ∈ bs → ∃ u, H b = some u ∧ NC b u) : TbOk K (VV.delF H a bs) := fun e => tabS_delF (t e) n
theorem Same.delFN (s : Same H0 H) (na : ∀ b, b = a ∨ b ∈ bs → H0 b = none) (n : ∀ b, b = a ∨ b ∈ bs → ∃ u, H b = some u ∧ NC b u) : Same H0 (delF H a bs) := ⟨fun b x hb nt => by
  rw [delF_out fun z => by rw [na b z] at hb; cases hb]
  exact s.go b x hb nt, fun b hb => by
  rcases delF_none hb with z | z | z
  · exact na b (.inl z)
  · exact na b (.inr z)
  · exact s.fre b z, fun P t => tabS_delF (s.tab P t) n⟩
theorem Ow.evoT {b : Addr} {e : D} (h : Ow K H L e b) (t : ∀ o, H b = some o → (nt : NT o) → H' b = some o) (ev : ∀ x y, Rp K H L x y → Rp K H' L' x y) : Ow K H' L' e b := by
  cases h with
  | lst h r => exact .lst (t _ h trivial) (rpl_evo ev r)
  | dk h z r => exact .dk (t _ h trivial) z (rpl_evo ev r)
  | dt h z r => exact .dt (t _ h trivial) z (rpl_evo ev r)
  | ob h z r => exact .ob (t _ h trivial) z (rpl_evo ev r)
theorem Og.evoT {b : Addr} {cs : List Addr} {g : Gr} (h : Og K H L g b cs) (t : ∀ c, c = b ∨ c ∈ cs → ∀ o, H c = some o → (nt : NT o) → H' c = some o) (ev : ∀ x y, Rp K H L x y → Rp K H' L' x y) : Og K H' L' g b cs := by
  cases g with
  | rows rs =>
    have h : Ogr K H L rs b cs := h
    exact ⟨t b (.inl rfl) _ h.top trivial, h.len, fun k r c e1 e2 => by
      obtain ⟨us, q, rl⟩ := h.row k r c e1 e2
      exact ⟨us, t c (.inr (List.mem_of_getElem? e2)) _ q trivial, rpl_evo ev rl⟩⟩
  | stu o d =>
    obtain ⟨C, fs, dx, vs, e, h1, h2, h3⟩ := Os.ex h
    exact ⟨Os.at_ h, C, fs, dx, vs, e, t b (.inl rfl) _ h1 trivial, h2, h3.evo (b := b) (fun c hc => t c (.inr hc)) ev⟩
/-- what a slot holds and where it lies -/
theorem RSt.atG {i : Nat} {g : Gr} (h : RSt K H0 Lo ρ α σ H) (e : ρ[i]? = some (some (.grid g))) : ∃ a bs, σ[i]? = some (some (.ref a)) ∧ Og K H (Lv Lo α) g a bs ∧ (a :: bs).Nodup ∧ (∀ z, z = a ∨ z ∈ bs → Lv Lo α z ∧ H0 z = none) ∧ α i = some a ∧ (∀ k b, bs[k]? = some b → α (vix i k) = some b) ∧ i < 1000 := by
  obtain ⟨a, bs, e1, e2, e3, og⟩ := h.grd i _ e
  have lt := slot_lt h e
  refine ⟨a, bs, e2, og, ?_, fun z hz => ?_, e1, e3, lt.2⟩
  · rw [List.nodup_cons]
    refine ⟨fun m => ?_, ?_⟩
    · obtain ⟨k, hk⟩ := List.mem_iff_getElem?.mp m
      have q := h.inj _ _ _ e1 (e3 k a hk)
      have q2 := vix_ge i k
      omega
    · refine List.pairwise_iff_getElem.mpr fun k l hk hl hkl q => ?_
      have e4 := e3 k bs[k] (List.getElem?_eq_getElem hk)
      have e5 := e3 l bs[l] (List.getElem?_eq_getElem hl)
      rw [q] at e4
      have := (vix_inj lt.2 lt.2 (h.inj _ _ _ e4 e5)).2
      omega
  · rcases hz with rfl | hz
    · exact ⟨.inr ⟨i, e1⟩, h.new i _ e1⟩
    · obtain ⟨k, hk⟩ := List.mem_iff_getElem?.mp hz
      exact ⟨.inr ⟨_, e3 k z hk⟩, h.new _ z (e3 k z hk)⟩
theorem RSt.atS {i : Nat} {o : Kn} {d : D} (h : RSt K H0 Lo ρ α σ H) (e : ρ[i]? = some (some (.grid (.stu o d)))) : ∃ a bs, σ[i]? = some (some (.ref a)) ∧ Os K H (Lv Lo α) o d a bs ∧ (a :: bs).Nodup ∧ (∀ z, z = a ∨ z ∈ bs → Lv Lo α z ∧ H0 z = none) ∧ α i = some a ∧ (∀ k b, bs[k]? = some b → α (vix i k) = some b) ∧ i < 1000 := h.atG e
/-- α with other lists of a slot's object -/
def reG (α : Nat → Option Addr) (i : Nat) (bs : List Addr) : Nat → Option Addr := fun j => if 1000 ≤ j ∧ j % 1000 = i then bs[j / 1000 - 1]? else α j
theorem reG_some {i j : Nat} {z : Addr} (h : reG α i bs j = some z) : (1000 ≤ j ∧ j % 1000 = i ∧ bs[j / 1000 - 1]? = some z) ∨ (¬ (1000 ≤ j ∧ j % 1000 = i) ∧ α j = some z) := by
  unfold reG at h
  split at h
  · rename_i q
    exact .inl ⟨q.1, q.2, h⟩
  · exact .inr ⟨by assumption, h⟩
/-- it is another now, and nothing else is -/
theorem RSt.swapG {i : Nat} {g0 g1 : Gr} {bs' : List Addr} (h : RSt K H0 Lo ρ α σ H) (e : ρ[i]? = some (some (.grid g0))) (ha : α i = some a) (hs : σ[i]? = some (some (.ref a))) (hb : ∀ k b, bs[k]? = some b → α (vix i k) = some b) (hO : ∀ b, b = a ∨ b ∈ bs → ∃ u, H b = some u ∧ NC b u)
    (s : Same (delF H a bs) H') (ev : ∀ x y, Rp K H (Lv Lo α) x y → Rp K H' (Lv Lo (reG α i bs')) x y) (nd : (a :: bs').Nodup) (fr : ∀ b ∈ bs', b ∈ bs ∨ H b = none) (ow : Og K H' (Lv Lo (reG α i bs')) g1 a bs') :
    RSt K H0 Lo (ρ.set i (some (.grid g1))) (reG α i bs') σ H' ∧ Evo K Lo H α H' (reG α i bs') := by
  obtain ⟨hlt, h1000⟩ := slot_lt h e
  have h0 : ∀ z, z = a ∨ z ∈ bs → H0 z = none := fun z hz => by
    rcases hz with rfl | hz
    · exact h.new i _ ha
    · obtain ⟨k, hk⟩ := List.mem_iff_getElem?.mp hz
      exact h.new _ z (hb k z hk)
  have h0' : ∀ z, z = a ∨ z ∈ bs' → H0 z = none := fun z hz => by
    rcases hz with rfl | hz
    · exact h.new i _ ha
    · exact (fr z hz).elim (fun q => h0 z (.inr q)) fun q => h.same.free q
  have mine : ∀ z, z = a ∨ z ∈ bs → ∃ j, α j = some z ∧ (j = i ∨ (1000 ≤ j ∧ j % 1000 = i)) := fun z hz => by
    rcases hz with rfl | hz
    · exact ⟨i, ha, .inl rfl⟩
    · obtain ⟨k, hk⟩ := List.mem_iff_getElem?.mp hz
      exact ⟨_, hb k z hk, .inr ⟨vix_ge i k, vix_mod h1000⟩⟩
  have apart : ∀ {j : Nat} {z : Addr}, α j = some z → ¬ (j = i ∨ (1000 ≤ j ∧ j % 1000 = i)) → ¬ (z = a ∨ z ∈ bs) := fun {j z} q n m => by
    obtain ⟨l, hl, kl⟩ := mine z m
    rw [h.inj _ _ _ q hl] at n
    exact n kl
  have apartLo : ∀ {z : Addr}, Lo z → ¬ (z = a ∨ z ∈ bs) := fun {z} q m => by
    obtain ⟨l, hl, _⟩ := mine z m
    exact h.nl l z hl q
  have keep : ∀ {z : Addr} {u : HO}, ¬ (z = a ∨ z ∈ bs) → H z = some u → NT u → H' z = some u := fun {z u} n q nt => s.go z u (by rw [delF_out n]; exact q) nt
  have stayI : reG α i bs' i = some a := by
    unfold reG
    rw [if_neg (by omega)]
    exact ha
  have stayV : ∀ k b, bs'[k]? = some b → reG α i bs' (vix i k) = some b := fun k b q => by
    unfold reG
    rw [if_pos ⟨vix_ge i k, vix_mod h1000⟩, vix_div h1000]
    exact q
  have stay : ∀ {j : Nat} {x : Sl}, ρ[j]? = some (some x) → reG α i bs' j = α j := fun {j x} ej => by
    have := (slot_lt h ej).2
    unfold reG
    rw [if_neg (by omega)]
  have stayG : ∀ {j k : Nat} {x : Sl}, ρ[j]? = some (some x) → i ≠ j → reG α i bs' (vix j k) = α (vix j k) := fun {j k x} ej hj => by
    have q := (slot_lt h ej).2
    have q3 := vix_mod (k := k) q
    unfold reG
    rw [if_neg (by omega)]
  have farJ : ∀ {j : Nat} {x : Sl}, ρ[j]? = some (some x) → i ≠ j → ¬ (j = i ∨ (1000 ≤ j ∧ j % 1000 = i)) := fun {j x} ej hj => by
    have := (slot_lt h ej).2
    omega
  have farV : ∀ {j k : Nat} {x : Sl}, ρ[j]? = some (some x) → i ≠ j → ¬ (vix j k = i ∨ (1000 ≤ vix j k ∧ vix j k % 1000 = i)) := fun {j k x} ej hj => by
    have q := (slot_lt h ej).2
    have q2 := vix_ge j k
    have q3 := vix_mod (k := k) q
    omega
  have slot : ∀ {j : Nat} {x : Sl}, (ρ.set i (some (.grid g1)))[j]? = some (some x) → (i = j ∧ x = .grid g1) ∨ (i ≠ j ∧ ρ[j]? = some (some x)) := fun {j x} q => by
    by_cases hj : i = j
    · subst hj
      rw [List.getElem?_set_self hlt] at q
      cases q
      exact .inl ⟨rfl, rfl⟩
    · rw [List.getElem?_set_ne hj] at q
      exact .inr ⟨hj, q⟩
  have tO : ∀ {j : Nat} {c : Addr} {x : Sl} {e2 : D}, ρ[j]? = some (some x) → i ≠ j → α j = some c → Ow K H (Lv Lo α) e2 c → Ow K H' (Lv Lo (reG α i bs')) e2 c := fun {j c x e2} ej hj q r => r.evoT (fun u z nt => keep (apart q (farJ ej hj)) z nt) ev
  have tP : ∀ {c : Addr} {e2 : D}, Lo c → Ow K H (Lv Lo α) e2 c → Ow K H' (Lv Lo (reG α i bs')) e2 c := fun {c e2} q r => r.evoT (fun u z nt => keep (apartLo q) z nt) ev
  have tG : ∀ {j : Nat} {c : Addr} {cs : List Addr} {x : Sl} {g : Gr}, ρ[j]? = some (some x) → i ≠ j → α j = some c → (∀ k b, cs[k]? = some b → α (vix j k) = some b) → Og K H (Lv Lo α) g c cs → Og K H' (Lv Lo (reG α i bs')) g c cs := fun {j c cs x g} ej hj q qs r => r.evoT (fun z hz u zu nt => by
    rcases hz with rfl | hz
    · exact keep (apart q (farJ ej hj)) zu nt
    · obtain ⟨k, hk⟩ := List.mem_iff_getElem?.mp hz
      exact keep (apart (qs k z hk) (farV ej hj)) zu nt) ev
  have tb : TbOk K H' := (h.re.lv.tb.delF hO).mono s
  refine ⟨⟨⟨⟨fun z q => ?_, tb⟩, by rw [List.length_set]; exact h.re.len, fun j x q => ?_⟩, (h.same.delFN h0 hO).trans s, h.lo, fun j z q => ?_, fun j l z f1 f2 => ?_, fun j e2 q => ?_, by rw [List.length_set]; exact h.sm, fun j g q => ?_, fun j z q => ?_, ⟨fun j e2 q => ?_, fun j l e2 e3 q1 q2 => ?_⟩⟩, ev⟩
  · have old : ∀ {z : Addr}, ¬ (z = a ∨ z ∈ bs) → Lv Lo α z → H' z ≠ none := fun {z} n q z0 => by
      have z1 := s.fre z z0
      rw [delF_out n] at z1
      exact h.re.lv z q z1
    rcases q with q | ⟨j, q⟩
    · exact old (apartLo q) (.inl q)
    · rcases reG_some q with ⟨_, _, q2⟩ | ⟨n, q2⟩
      · exact ow.there.2 z (List.mem_of_getElem? q2)
      · by_cases hj : j = i
        · rw [hj, ha] at q2
          cases q2
          exact ow.there.1
        · exact old (apart q2 fun m => m.elim hj n) (.inr ⟨j, q2⟩)
  · rcases slot q with ⟨rfl, rfl⟩ | ⟨hj, q⟩
    · exact ⟨_, hs, a, bs', rfl, ow⟩
    · obtain ⟨w, f1, r⟩ := h.re.sl j x q
      refine ⟨w, f1, ?_⟩
      cases x with
      | val d3 => obtain ⟨v, g1, g2⟩ := r; exact ⟨v, g1, ev _ _ g2⟩
      | own d3 =>
        obtain ⟨c, g1, g2, g3⟩ := h.own j d3 q
        rw [f1] at g2
        cases g2
        exact ⟨c, rfl, tO q hj g1 g3⟩
      | grid g =>
        obtain ⟨c, cs, g1, g2, g3, g4⟩ := h.grd j g q
        rw [f1] at g2
        cases g2
        exact ⟨c, cs, rfl, tG q hj g1 g3 g4⟩
      | pin c => exact r
      | ownP d3 =>
        obtain ⟨c, lc, nc, g2, g3⟩ := h.pr.par j d3 q
        rw [f1] at g2
        cases g2
        exact ⟨c, rfl, tP lc g3⟩
  · rcases reG_some q with ⟨_, _, q⟩ | ⟨_, q⟩
    · exact h0' z (.inr (List.mem_of_getElem? q))
    · exact h.new j z q
  · rw [List.nodup_cons] at nd
    rcases reG_some f1 with ⟨a1, a2, a3⟩ | ⟨a1, a2⟩ <;> rcases reG_some f2 with ⟨b1, b2, b3⟩ | ⟨b1, b2⟩
    · have q := (List.getElem?_inj (List.getElem?_eq_some_iff.mp a3).1 nd.2).mp (a3.trans b3.symm)
      omega
    · have m := List.mem_of_getElem? a3
      exfalso
      by_cases hl : l = i
      · subst hl
        rw [ha] at b2
        cases b2
        exact nd.1 m
      · rcases fr z m with q | q
        · exact apart b2 (fun y => y.elim hl b1) (.inr q)
        · exact h.re.lv z (.inr ⟨l, b2⟩) q
    · have m := List.mem_of_getElem? b3
      exfalso
      by_cases hl : j = i
      · subst hl
        rw [ha] at a2
        cases a2
        exact nd.1 m
      · rcases fr z m with q | q
        · exact apart a2 (fun y => y.elim hl a1) (.inr q)
        · exact h.re.lv z (.inr ⟨j, a2⟩) q
    · exact h.inj j l z a2 b2
  · rcases slot q with ⟨_, z⟩ | ⟨hj, q⟩
    · cases z
    · obtain ⟨c, g1, g2, g3⟩ := h.own j e2 q
      exact ⟨c, (stay q).trans g1, g2, tO q hj g1 g3⟩
  · rcases slot q with ⟨rfl, z⟩ | ⟨hj, q⟩
    · cases z
      exact ⟨a, bs', stayI, hs, stayV, ow⟩
    · obtain ⟨c, cs, g1, g2, g3, g4⟩ := h.grd j g q
      exact ⟨c, cs, (stay q).trans g1, g2, fun k b y => (stayG q hj).trans (g3 k b y), tG q hj g1 g3 g4⟩
  · rcases reG_some q with ⟨_, _, q⟩ | ⟨_, q⟩
    · intro lz
      rcases fr z (List.mem_of_getElem? q) with y | y
      · exact apartLo lz (.inr y)
      · exact h.re.lv z (.inl lz) y
    · exact h.nl j z q
  · rcases slot q with ⟨_, z⟩ | ⟨hj, q⟩
    · cases z
    · obtain ⟨c, lc, nc, g2, g3⟩ := h.pr.par j e2 q
      exact ⟨c, lc, nc, g2, tP lc g3⟩
  · rcases slot q1 with ⟨_, z⟩ | ⟨_, q1⟩
    · cases z
    · rcases slot q2 with ⟨_, z⟩ | ⟨_, q2⟩
      · cases z
      · exact h.pr.one _ _ _ _ q1 q2
theorem RSt.swapS {i : Nat} {o : Kn} {d d' : D} {bs' : List Addr} (h : RSt K H0 Lo ρ α σ H) (e : ρ[i]? = some (some (.grid (.stu o d)))) (ha : α i = some a) (hs : σ[i]? = some (some (.ref a))) (hb : ∀ k b, bs[k]? = some b → α (vix i k) = some b) (hO : Os K H (Lv Lo α) o d a bs)
    (s : Same (delF H a bs) H') (ev : ∀ x y, Rp K H (Lv Lo α) x y → Rp K H' (Lv Lo (reG α i bs')) x y) (nd : (a :: bs').Nodup) (fr : ∀ b ∈ bs', b ∈ bs ∨ H b = none) (ow : Os K H' (Lv Lo (reG α i bs')) o d' a bs') :
    RSt K H0 Lo (putO ρ i d') (reG α i bs') σ H' ∧ Evo K Lo H α H' (reG α i bs') := by
  have hp : putO ρ i d' = ρ.set i (some (.grid (.stu o d'))) := by unfold putO; rw [e]
  rw [hp]
  exact h.swapG e ha hs hb hO.nc s ev nd fr ow
end
end VV

set_option Elab.async false
set_option linter.all false
set_option maxRecDepth 100000
set_option maxHeartbeats 4000000
/-! VYp: defs that change an object with lists of its own, which their caller holds. -/
namespace VV
open PySem PySem.Spec L2
open PyProof.Rows hiding St
/-- what is the same wherever the object lies -/
noncomputable def pick (F : Addr → Ms) : Ms := open Classical in if h : ∃ r, ∀ a, F a = r then Classical.choose h else .bad
def MsOkS (K : PySem.W.Frag) (H : Hp) (L : Ad) (a : Addr) (bs : List Addr) (r : Ms) (Q : VK) (E : XK) : Prop := match r with
  | .ok r d => ∀ H' bs' v, Same (delF H a bs) H' → (∀ x y, Rp K H (Lpf L a bs) x y → Rp K H' (Lpf L a bs') x y) → (a :: bs').Nodup → (∀ b ∈ bs', b ∈ bs ∨ H b = none) → Os K H' (Lpf L a bs') none d a bs' → Rp K H' (Lpf L a bs') r v → Q v H'
  | .exc c fs d => ∀ H' bs' x, Same (delF H a bs) H' → (∀ x y, Rp K H (Lpf L a bs) x y → Rp K H' (Lpf L a bs') x y) → (a :: bs').Nodup → (∀ b ∈ bs', b ∈ bs ∨ H b = none) → Os K H' (Lpf L a bs') none d a bs' → XR K H' (Lpf L a bs') fs x → E (.ref (He.ga K c)) x H'
  | .bad => False
def spS (K : PySem.W.Frag) (n m : Nat) (g : List D → D → Ms) : Sp := fun vs H Q E => ∃ (L : Ad) (a : Addr) (bs : List Addr) (ds : List D) (d : D) (us ws : List V), vs = us ++ .ref a :: ws ∧ ds.length + 1 = n ∧ m < n ∧ (a :: bs).Nodup ∧ LvOk K (delF H a bs) L ∧ Os K H (Lpf L a bs) none d a bs ∧
  RpL K H (Lpf L a bs) (ds.take m) us ∧ RpL K H (Lpf L a bs) (ds.drop m) ws ∧ MsOkS K H L a bs (g ds d) Q E
/-- a def .. -/
structure DnS (P : Program) (w : World) (K : PySem.W.Frag) (mg : Str → Option Value) (base : Heap) (x : Str) (k n m : Nat) (g : List D → D → Ms) : Prop where
  ex : ∃ (fa : Addr) (fd : FuncData) (ps : List Str), mg x = some (.ref fa) ∧ FnOk P w K mg base (L2.CX P w) k fa fd ps (spS K n m g) ∧ PySem.W.keepIn K (.ref fa) = true ∧ Binds K fd ps []
/-- a method -/
structure DnT (P : Program) (w : World) (K : PySem.W.Frag) (mg : Str → Option Value) (base : Heap) (C m : Str) (k n : Nat) (g : List D → D → Ms) : Prop where
  ex : ∃ (f : Addr) (fd : FuncData) (ps : List Str), Cls K (He.ga K C) ∧ Meth K (He.ga K C) m f ∧ FnOk P w K mg base (L2.CX P w) k f fd ps (spS K n 0 g) ∧ Binds K fd ps []
end VV

set_option Elab.async false
set_option linter.all false
set_option maxRecDepth 100000
set_option maxHeartbeats 4000000
/-! VYq: calls and methods of an object with lists of its own, which slot i holds. -/
namespace VV
open PySem PySem.Spec L2
open PyProof.Rows hiding St
/-- its lists are not known to lie somewhere -/
def freeK : Kn → Bool
  | some (_, some _) => false
  | _ => true
theorem Os.free {K : PySem.W.Frag} {H H' : Hp} {L L' : Ad} {o : Kn} {d d' : D} {a : Addr} {bs bs' : List Addr} (h : Os K H L o d a bs) (f : freeK o = true) (ex : Os K H' L' none d' a bs') : Os K H' L' o d' a bs' := ⟨fun a0 q e => ⟨(h.at_ a0 q e).1, fun cs z => by
  subst e
  subst z
  cases f⟩, ex.ex⟩
/-- what a callee does to the object at a, seen by the frame -/
theorem MsOkS.of {K : PySem.W.Frag} {W : WX} {H0 H H1 : Hp} {Lo : Ad} {ρ : En} {α : Nat → Option Addr} {σ : St} {i : Nat} {o : Kn} {d : D} {a : Addr} {r : Ms} {Q : VK} (rst : RSt K H0 Lo ρ α σ H) (e : ρ[i]? = some (some (.grid (.stu o d)))) (fk : freeK o = true) (ha : σ[i]? = some (some (.ref a))) (s1 : Same H H1)
    (p : PostM K H0 Lo W σ H ρ α i r Q) : ∃ (Lc : Ad) (bs : List Addr), (a :: bs).Nodup ∧ LvOk K (delF H1 a bs) Lc ∧ Os K H1 (Lpf Lc a bs) none d a bs ∧ (∀ {ds : List D} {vs : List V}, RpL K H1 (Lv Lo α) ds vs → RpL K H1 (Lpf Lc a bs) ds vs) ∧ MsOkS K H1 Lc a bs r Q (WE W σ) := by
  have rst1 := rst.mono s1
  obtain ⟨a', bs, q1, q2, q3, q4, q5, q6, h1000⟩ := rst1.atS e
  have ea : a' = a := by rw [ha] at q1; cases q1; rfl
  subst ea
  have mine : ∀ z, z = a' ∨ z ∈ bs → ∃ j, α j = some z ∧ (j = i ∨ (1000 ≤ j ∧ j % 1000 = i)) := fun z hz => by
    rcases hz with rfl | hz
    · exact ⟨i, q5, .inl rfl⟩
    · obtain ⟨k, hk⟩ := List.mem_iff_getElem?.mp hz
      exact ⟨_, q6 k z hk, .inr ⟨vix_ge i k, vix_mod h1000⟩⟩
  have apart : ∀ {j : Nat} {z : Addr}, α j = some z → ¬ (j = i ∨ (1000 ≤ j ∧ j % 1000 = i)) → ¬ (z = a' ∨ z ∈ bs) := fun {j z} q n m => by
    obtain ⟨l, hl, kl⟩ := mine z m
    rw [rst1.inj _ _ _ q hl] at n
    exact n kl
  have apartLo : ∀ {z : Addr}, Lo z → ¬ (z = a' ∨ z ∈ bs) := fun {z} q m => by
    obtain ⟨l, hl, _⟩ := mine z m
    exact rst1.nl l z hl q
  have toL : ∀ z, Lpf (fun z => Lv Lo α z ∧ ¬ (z = a' ∨ z ∈ bs)) a' bs z → Lv Lo α z ∨ H1 z = none := fun z q => .inl (q.elim (·.1) fun m => (q4 z m).1)
  have ofL : ∀ {bs' : List Addr} {G : Hp} z, Lv Lo (reG α i bs') z → Lpf (fun z => Lv Lo α z ∧ ¬ (z = a' ∨ z ∈ bs)) a' bs' z ∨ G z = none := fun {bs' G} z q => .inl (by
    rcases q with q | ⟨j, q⟩
    · exact .inl ⟨.inl q, apartLo q⟩
    · rcases reG_some q with ⟨_, _, q⟩ | ⟨n, q⟩
      · exact .inr (.inr (List.mem_of_getElem? q))
      · by_cases hj : j = i
        · rw [hj, q5] at q
          cases q
          exact .inr (.inl rfl)
        · exact .inl ⟨.inr ⟨j, q⟩, apart q fun m => m.elim hj n⟩)
  refine ⟨fun z => Lv Lo α z ∧ ¬ (z = a' ∨ z ∈ bs), bs, q3, ⟨fun z q z0 => ?_, rst1.re.lv.tb.delF q2.nc⟩, ⟨(fun _ _ e => nomatch e), (q2.lives toL).ex⟩, fun r => r.lives toL, ?_⟩
  · rw [delF_out q.2] at z0
    exact rst1.re.lv z q.1 z0
  · have back : ∀ {H' : Hp} {bs' : List Addr} {d' : D}, Same (delF H1 a' bs) H' → (∀ x y, Rp K H1 (Lpf (fun z => Lv Lo α z ∧ ¬ (z = a' ∨ z ∈ bs)) a' bs) x y → Rp K H' (Lpf (fun z => Lv Lo α z ∧ ¬ (z = a' ∨ z ∈ bs)) a' bs') x y) → (a' :: bs').Nodup → (∀ b ∈ bs', b ∈ bs ∨ H1 b = none) → Os K H' (Lpf (fun z => Lv Lo α z ∧ ¬ (z = a' ∨ z ∈ bs)) a' bs') none d' a' bs' →
        RSt K H0 Lo (putO ρ i d') (reG α i bs') σ H' ∧ Evo K Lo H α H' (reG α i bs') := fun {H' bs' d'} s2 ev nd fr ow => by
      have ev2 : ∀ x y, Rp K H1 (Lv Lo α) x y → Rp K H' (Lv Lo (reG α i bs')) x y := fun x y r => (ev x y (r.lives toL)).lives ofL
      obtain ⟨w1, w2⟩ := rst1.swapS e q5 q1 q6 q2 s2 ev2 nd fr (q2.free fk (ow.lives ofL))
      exact ⟨w1, fun x y r => w2 x y (r.mono s1)⟩
    cases r with
    | bad => exact p
    | ok r d' =>
      intro H' bs' v s2 ev nd fr ow rv
      obtain ⟨w1, w2⟩ := back s2 ev nd fr ow
      exact p _ H' v w1 w2 (rv.lives ofL)
    | exc c fs d' =>
      intro H' bs' x s2 ev nd fr ow xr
      obtain ⟨w1, w2⟩ := back s2 ev nd fr ow
      exact p _ H' x w1 w2 (xr.lives ofL)
/-! ### f(x, e, ..), x the object -/
section
variable {X : Cx} {W : WX} {e : Expr} {es : List Expr} {f : EF} {fs : List EF} {pos apos px p : Pos} {x y C m : Str}
end
end VV

set_option Elab.async false
set_option linter.all false
set_option maxRecDepth 100000
set_option maxHeartbeats 4000000
/-! VZa: a, *b = a list. -/
namespace VV
open PySem PySem.Spec L2
open PyProof.Rows hiding St
/-- one item, the others as a new list -/
theorem oneAndRest {P : Program} {w : World} {A : Around} {E : Value → Shared → Prop} {s : Shared} {l : Addr} {u : Value} {us : List Value} {Q : List Value → Shared → Prop} (calm : A.handled = none) (isl : s.heap.IsList l (u :: us).toArray) (few : us.length < sizeLine)
    (go : ∀ (h' : Heap) (tk : Nat), (∀ b o, s.heap.get? b = some o → h'.get? b = some o) → Q [u, .ref h'.objs.size] { s with heap := h'.push { cls := .type "list", data := .seq us.toArray }, toks := tk }) :
    wpAny (model P w) A (unpackItems (.ref l) 2 (some 1)) Q E s := by
  have there : l < s.heap.objs.size := by
    obtain ⟨o, got, _⟩ := isl
    exact Heap.lt_size got
  have apart : l ≠ s.heap.objs.size := Nat.ne_of_lt there
  unfold unpackItems notIterableAtAll
  apply wpAny_bind
  apply wpAny_bind
  apply wpAny_specialOf isl.typeIs slot_list_iter.lookup
  apply wpAny_pure
  simp only [if_false, Bool.false_eq_true]
  apply wpAny_bind
  apply wpAny_holding
  apply wpAny_pyIter_list isl
  apply wpAny_bind
  apply wpAny_holding
  refine PySem.W.kun_draw apart 1 0 _ _ (by exact ⟨_, Heap.get?_push_size _ rfl, rfl, rfl⟩) (isl.push _) (by simp) ?_
  intro h1 it1 step1
  have isl1 : h1.IsList l (u :: us).toArray := (isl.push _).extBut step1.extBut apart
  have at1 : ∃ oi, h1.get? s.heap.objs.size = some oi := by
    obtain ⟨oi, got, _⟩ := it1
    exact ⟨oi, got⟩
  have atl : ∃ ol, h1.get? l = some ol := by
    obtain ⟨ol, got, _⟩ := isl1
    exact ⟨ol, got⟩
  obtain ⟨oi, goti⟩ := at1
  obtain ⟨ol, gotl⟩ := atl
  show wpAny _ _ (if [u].length < 1 then _ else _) _ _ _
  rw [if_neg (by simp)]
  apply wpAny_bind
  apply wpAny_holding
  apply PySem.W.kun_collect (s := { s with heap := h1 }) (I := s.heap.objs.size) (ax := l) (items := (u :: us).toArray) (k := 1) (T := "list_iterator") (.inr (.inr (.inl rfl))) (Walks.list (A := A.in1) calm s.heap.objs.size l apart (u :: us).toArray)
  · exact fun j x st => st.1.typeIs
  · simp
  · exact ⟨it1, isl1⟩
  · exact Heap.lt_size goti
  · exact Heap.lt_size gotl
  · intro h2 tk keep
    have old : ∀ b o, s.heap.get? b = some o → h2.get? b = some o := fun b o e => by
      have nb : b ≠ s.heap.objs.size := Nat.ne_of_lt (Heap.lt_size e)
      exact keep b o nb (step1.extBut b o nb (Heap.get?_push_of_some _ e))
    show wpAny _ _ (if us.length < 0 then _ else _) _ _ _
    rw [if_neg (by omega)]
    show wpAny _ _ (newList (us.take us.length) >>= fun d => pure ([u] ++ [d] ++ us.drop us.length)) _ _ _
    rw [List.take_length, List.drop_length]
    apply wpAny_bind
    apply wpAny_newList _ (Nat.le_of_lt few)
    apply wpAny_pure
    exact go h2 tk old
  · have : us.length + 1 ≤ sizeLine := few
    simpa using this
def gStar (K : PySem.W.Frag) (t : TGs) : TG := fun v σ H Q => ∃ a x xs, v = .ref a ∧ SqL K H a (x :: xs) ∧ xs.length < sizeLine ∧ ∀ p, H p = none → t [x, .ref p] σ (upd H p (.lst xs)) Q
section
variable {X : Cx} {W : WX} {e e1 e2 : Expr} {ef : EF} {pos p p2 : Pos}
theorem pg_star {k : Nat} {t : TGs} (hc : X.calm = true) (h : PGs X [e1, .Starred e2 p2] t) (hn : (assignEach [e1, .Starred e2 p2] X.env).length = 2) (hst : (assignEach [e1, .Starred e2 p2] X.env).findIdx? (·.1) = some 1) : PG X (.Tuple [e1, .Starred e2 p2] k pos) (gStar X.K t) := by
  refine ⟨fun pins s σ H v u Q I r hw => ?_⟩
  obtain ⟨a, x, xs, rfl, lies, few, go⟩ := hw
  cases r
  obtain ⟨its, rel, ⟨o, m, e, c, d, q⟩, _⟩ := I.list lies
  cases rel with
  | @cons _ y _ ys rx rr =>
    rw [PyProof.Rows.assign_Tuple]
    refine wpAny_bind (wpAny_standAt ?_)
    unfold unpack
    rw [hn, hst]
    apply wpAny_bind
    apply wpAny_holding
    apply oneAndRest (I.ok.hd hc) ⟨o, e, c, m, q⟩ (by rw [← rr.length]; exact few)
    intro h' tk old
    have I1 : Inv X pins σ H { s with heap := h', toks := tk } := I.kept old
    have new : Inv X pins σ (upd H h'.objs.size (.lst xs)) { s with heap := h'.push { cls := .type "list", data := .seq ys.toArray }, toks := tk } :=
      I1.laid (fun b u q => Heap.get?_push_of_some _ q) (Nat.le_refl _) ⟨Nat.le_of_lt few, ys, _, rr, Heap.get?_push_size _ rfl⟩
    exact h.run pins _ σ _ [x, .ref h'.objs.size] _ Q new (.cons rx (.cons rfl .nil)) (go _ (I1.hok.fresh (Nat.le_refl _)))
def sStar (ts : List Tg) (f : EF) : SF := fun ρ => (f ρ).out ρ fun d => match d with
  | .list (x :: xs) => if xs.length < sizeLine then outB (bindTs ts [x, .list xs] ρ) else .bad
  | _ => .bad
theorem sgs_star {t1 t2 : Tg} (h1 : PG X e1 (gT X.K t1)) (h2 : PG X e2 (gT X.K t2)) (hs : (assignEach [e1, .Starred e2 p2] X.env).map (·.2) = (assignEach [e1, e2] X.env).map (·.2) := by rfl)
    (ha : (assignEach [e1, e2] X.env).map (·.2) = assign e1 X.env :: (assignEach [e2] X.env).map (·.2) := by rfl) (hb : (assignEach [e2] X.env).map (·.2) = assign e2 X.env :: (assignEach [] X.env).map (·.2) := by rfl) : PGs X [e1, .Starred e2 p2] (gTs X.K [t1, t2]) := by
  have h := sgs_cons h1 (sgs_cons h2 sgs_nil hb) ha
  exact ⟨fun pins s σ H vs us Q I r q => by rw [hs]; exact h.run pins s σ H vs us Q I r q⟩
theorem ss_star {k : Nat} {ts : List Tg} (he : SE X W e ef) (hg : PGs X [e1, .Starred e2 p2] (gTs X.K ts)) (hc : X.calm = true := by rfl) (hn : (assignEach [e1, .Starred e2 p2] X.env).length = 2 := by rfl) (hst : (assignEach [e1, .Starred e2 p2] X.env).findIdx? (·.1) = some 1 := by rfl)
    (hs : swapsWithSole [.Tuple [e1, .Starred e2 p2] k p] e pos.line X.env = pure false := by rfl) (hw : swappedStores [.Tuple [e1, .Starred e2 p2] k p] e X.env = pure none := by rfl)
    (h1 : (assignEach [.Tuple [e1, .Starred e2 p2] k p] X.env).map (·.2) = [assign (.Tuple [e1, .Starred e2 p2] k p) X.env] := by rfl) : SS X W (.Assign [.Tuple [e1, .Starred e2 p2] k p] e pos) (sStar ts ef) := fun H0 Lo => (ps_asg he (pg_star hc hg hn hst) hs hw h1).weak fun D σ H ⟨ρ, α, rst, pp⟩ =>
  ⟨_, ρ, rst.re, pp.expr rst fun d H1 v s r rst1 p1 => by
    cases d with
    | list ds =>
      cases ds with
      | nil => exact p1.elim
      | cons x xs =>
        dsimp only at p1
        split at p1
        · rename_i few
          unfold outB at p1
          cases hb : bindTs ts [x, .list xs] ρ with
          | none => rw [hb] at p1; exact p1.elim
          | some ρ1 =>
            rw [hb] at p1
            obtain ⟨a, vs, ev, ha, rl⟩ := r.rb.lstV
            cases rl with
            | cons rx rr =>
              rename_i vx vrs
              refine ⟨a, vx, vrs, ev, SqL.of ha, by rw [← rr.length]; exact few, fun q hq => ?_⟩
              have sq : Same H1 (upd H1 q (.lst vrs)) := same_upd hq
              have rst2 := rst1.mono sq
              have rq : Rp X.K (upd H1 q (.lst vrs)) (Lv Lo α) (.list xs) (.ref q) := .lst upd_same (fun z => rst1.re.lv q z hq) (rr.mono sq)
              exact (gTs_of (Q := D.nx) rst2.re (.cons (rx.mono sq) (.cons rq .nil)) hb fun σ1 re1 ch => p1 _ σ1 _ (rst2.ch re1 ch) ((Evo.of_same sq).trans (Evo.rms _))).2
        · exact p1.elim
    | _ => exact p1.elim⟩
end
end VV

set_option Elab.async false
set_option linter.all false
set_option maxRecDepth 100000
set_option maxHeartbeats 4000000
/-! VZb: texts: f'..', join, split, str of an int, int of a text. -/
namespace VV
open PySem PySem.Spec L2
open PyProof.Rows hiding St
def numS (i : Int) : Str := toString i
def fmtF : D → Option D
  | .str y => if y.length ≤ sizeLine then some (.str y) else none
  | .int i => if i.natAbs.log2 < 1920 then some (.str (numS i)) else none
  | _ => none
def fsGo : List EF → Str → EF
  | [], acc, _ => .ok (.str acc)
  | f :: fs, acc, ρ => (f ρ).bind fun d => match d with
    | .str y => if (acc ++ y).length ≤ sizeLine then fsGo fs (acc ++ y) ρ else .bad
    | _ => .bad
def eFs (fs : List EF) : EF := fun ρ => fsGo fs Str.empty ρ
def txs : List D → Option (List Str)
  | [] => some []
  | .str x :: ds => (txs ds).map fun q => x :: q
  | _ => none
def joinF : D → D → Option D
  | .str a, .list ds => (txs ds).bind fun ys => if (ys.map (·.length)).sum + ys.length * a.length ≤ 16777216 then some (.str (Str.join a ys)) else none
  | _, _ => none
def splitF : D → D → Option D
  | .str a, .str b => if ((b.length == 0) == false && decide (a.length + 2 ≤ sizeLine)) = true then some (.list ((Txt.split a b).map PyData.str)) else none
  | _, _ => none
def isTx : D → Bool
  | .str _ => true
  | _ => false
/-- a method of a text -/
def eTx (fn : D → D → Option D) (f g : EF) : EF := fun ρ => (f ρ).bind fun x => if isTx x = true then (g ρ).bind fun y => Rs.of (fn x y) else .bad
def strIF : List D → Option D
  | [.int i] => if i.natAbs.log2 < 1920 then some (.str (numS i)) else none
  | [.str a] => some (.str a)
  | _ => none
def intTF : List D → Option D
  | [.str a] => if a.length ≤ 640 then (PySem.intText? a).map PyData.int else none
  | _ => none
theorem txs_eq {K : PySem.W.Frag} {H : Hp} {L : Ad} : ∀ {ds : List D} {vs : List V} {ys : List Str}, RpL K H L ds vs → txs ds = some ys → vs = ys.map V.str
  | [], _, ys, .nil, h => by cases h; rfl
  | d :: ds, v :: vs, ys, .cons r rl, h => by
    unfold txs at h
    split at h
    · rename_i e; cases e
    · rename_i e
      obtain ⟨q, hq, rfl⟩ := Option.map_eq_some_iff.mp h
      cases e
      obtain rfl := r.rb.strV
      rw [txs_eq rl hq]
      rfl
    · cases h
section
variable {X : Cx} {W : WX} {e : Expr} {f : EF} {pos : Pos}
theorem se_fmt (he : SE X W e f) : SE X W (.FormattedValue e (-1) none pos) (eUn fmtF f) := (pe_fmt he).weak fun σ H Q ⟨L, ρ, re, p⟩ =>
  ⟨L, ρ, re, p.stepE fun d H1 v s r p1 => by
    unfold fmtF at p1
    split at p1
    · rename_i y
      obtain rfl := r.rb.strV
      split at p1
      · exact .inl ⟨y, rfl, by assumption, p1 H1 _ (Same.refl H1) (.str _)⟩
      · exact p1.elim
    · rename_i i
      obtain rfl := r.rb.intV
      split at p1
      · exact .inr ⟨i, rfl, by assumption, p1 H1 _ (Same.refl H1) (.str _)⟩
      · exact p1.elim
    · exact p1.elim⟩
inductive SFs (X : Cx) (W : WX) : List Expr → List EF → Prop where
  | nil : SFs X W [] []
  | cons {e : Expr} {f : EF} {es : List Expr} {fs : List EF} (h : SE X W e f) (r : SFs X W es fs) : SFs X W (e :: es) (f :: fs)
theorem SFs.pj {es : List Expr} {fs : List EF} (h : SFs X W es fs) : PJ X es (fs.map (tE X.K W)) := by
  induction h with
  | nil => exact .nil
  | cons h _ ih => exact .cons h ih
theorem fs_go {K : PySem.W.Frag} {L : Ad} {σ : St} {ρ : En} {Q : VK} : ∀ (fs : List EF) (acc : Str) (H : Hp), RE K H L ρ σ → Post K W L σ H (fsGo fs acc ρ) Q → tJs (fs.map (tE K W)) acc σ H fun out H1 => Q (.str out) H1
  | [], acc, H, re, p => p H _ (Same.refl H) (.str _)
  | f :: fs, acc, H, re, p => ⟨L, ρ, re, Post.stepE (k := fun d => match d with
    | .str y => if (acc ++ y).length ≤ sizeLine then fsGo fs (acc ++ y) ρ else .bad
    | _ => .bad) p fun d H1 v s r p1 => by
    cases d with
    | str y =>
      obtain rfl := r.rb.strV
      dsimp only at p1
      split at p1
      · exact ⟨y, rfl, by assumption, fs_go fs (acc ++ y) H1 (re.mono s) p1⟩
      · exact p1.elim
    | _ => exact p1.elim⟩
theorem se_fs {v1 v2 : Expr} {rest : List Expr} {fs : List EF} (h : SFs X W (v1 :: v2 :: rest) fs) : SE X W (.JoinedStr (v1 :: v2 :: rest) pos) (eFs fs) :=
  (pe_joined h.pj).weak fun σ H Q ⟨L, ρ, re, p⟩ => fs_go fs Str.empty H re p
theorem se_join {o : Expr} {g : EF} {apos : Pos} (ho : SB X W o f) (he : SB X W e g) (hs : starEach [e] X.env = [(false, eval e X.env)] := by rfl) (hb : attributeBase o "join" X.env (eval o X.env) = eval o X.env := by rfl) (hl : (apos.endLine == pos.line) = true := by rfl) :
    SE X W (.Call (.Attribute o "join" apos) [e] [] pos) (eTx joinF f g) := (pe_join ho he hs hb hl).weak fun σ H Q ⟨L, ρ, re, p⟩ =>
  ⟨L, ρ, re, p.step fun dx H1 x s1 rx p1 => by
    cases dx with
    | str a =>
      obtain rfl := rx.strV
      rw [if_pos (show isTx (.str a) = true from rfl)] at p1
      refine ⟨⟨a, rfl⟩, L, ρ, re.mono s1, p1.step fun dy H2 y s2 ry p2 => ?_⟩
      cases hj : joinF (.str a) dy with
      | none => rw [hj] at p2; exact p2.elim
      | some d =>
        rw [hj] at p2
        cases dy with
        | list ds =>
          unfold joinF at hj
          obtain ⟨ys, hy, hj⟩ := Option.bind_eq_some_iff.mp hj
          split at hj
          · cases hj
            rename_i hz
            obtain ⟨q, vs, rfl, hq, rl⟩ := ry.lstV
            obtain rfl := txs_eq rl hy
            refine ⟨a, q, ys, rfl, rfl, .inl (SqL.of hq), hz, ?_⟩
            rw [TL.join_eq]
            exact p2 H2 _ (Same.refl H2) (.str _)
          · cases hj
        | _ => cases hj
    | _ => exact p1.elim⟩
theorem rps_txt {K : PySem.W.Frag} {H : Hp} {L : Ad} : ∀ ys : List Str, RpL K H L (ys.map PyData.str) (ys.map V.str)
  | [] => .nil
  | y :: ys => .cons (.str y) (rps_txt ys)
theorem sn_split {o : Expr} {g : EF} {apos : Pos} (ho : SB X W o f) (he : SB X W e g) (hs : starEach [e] X.env = [(false, eval e X.env)] := by rfl) (hb : attributeBase o "split" X.env (eval o X.env) = eval o X.env := by rfl) (hl : (apos.endLine == pos.line) = true := by rfl) :
    SN X W (.Call (.Attribute o "split" apos) [e] [] pos) (eTx splitF f g) := (pe_split ho he hs hb hl).weak fun σ H Q ⟨L, ρ, re, p⟩ =>
  ⟨L, ρ, re, p.stepB fun dx H1 x s1 rx p1 => by
    cases dx with
    | str a =>
      obtain rfl := rx.strV
      rw [if_pos (show isTx (.str a) = true from rfl)] at p1
      refine ⟨⟨a, rfl⟩, L, ρ, re.mono s1, p1.stepB fun dy H2 y s2 ry p2 => ?_⟩
      cases dy with
      | str b =>
        by_cases hz : ((b.length == 0) == false && decide (a.length + 2 ≤ sizeLine)) = true
        · rw [show splitF (.str a) (.str b) = some (.list ((Txt.split a b).map PyData.str)) from if_pos hz] at p2
          simp only [Bool.and_eq_true, decide_eq_true_eq] at hz
          obtain rfl := ry.strV
          exact ⟨a, b, rfl, rfl, by simpa using hz.1, hz.2, fun q hq => p2 _ _ (same_upd hq) hq (.lst upd_same (rps_txt _))⟩
        · rw [show splitF (.str a) (.str b) = none from if_neg hz] at p2
          exact p2.elim
      | _ => exact p2.elim
    | _ => exact p1.elim⟩
theorem cl_strI : ClD X (.type "str") strIF := by
  intro pn s σ H xs us Q I rs h
  obtain ⟨L, ds, d, lv, rb, hf, k⟩ := h
  unfold strIF at hf
  split at hf
  · obtain ⟨v, rfl, r⟩ := rb.one
    obtain rfl := r.intV
    split at hf
    · cases hf
      exact call_str_int pn s σ H _ us Q I rs ⟨_, rfl, by assumption, k H _ (Same.refl H) (.str _)⟩
    · cases hf
  · obtain ⟨v, rfl, r⟩ := rb.one
    obtain rfl := r.strV
    cases hf
    exact SkE.call_str_str pn s σ H _ us Q I rs ⟨_, rfl, k H _ (Same.refl H) (.str _)⟩
  · cases hf
theorem cl_intT : ClD X (.type "int") intTF := by
  intro pn s σ H xs us Q I rs h
  obtain ⟨L, ds, d, lv, rb, hf, k⟩ := h
  unfold intTF at hf
  split at hf
  · obtain ⟨v, rfl, r⟩ := rb.one
    obtain rfl := r.strV
    split at hf
    · obtain ⟨n, hn, e⟩ := Option.map_eq_some_iff.mp hf
      cases e
      exact call_int_str pn s σ H _ us Q I rs ⟨_, n, rfl, hn, by assumption, k H _ (Same.refl H) (.int _)⟩
    · cases hf
  · cases hf
end
end VV

set_option Elab.async false
set_option linter.all false
set_option maxRecDepth 100000
set_option maxHeartbeats 4000000
/-! VZc: lists of lists that grow. -/
namespace VV
open PySem PySem.Spec L2
open PyProof.Rows hiding St
def sGnew (i : Nat) (f : EF) : SF := fun ρ => (f ρ).out ρ fun d => match d with
  | .list [] => .nx (ρ.set i (some (.grid (.rows []))))
  | _ => .bad
def growR (ρ : En) (i : Nat) (rows : List (List D)) : D → Out
  | .list r => if rows.length < sizeLine then .nx (ρ.set i (some (.grid (.rows (rows ++ [r]))))) else .bad
  | _ => .bad
def sGapp (i : Nat) (f : EF) : SF := fun ρ => gridO ρ i fun rows => (f ρ).out ρ (growR ρ i rows)
def sGappAt (i : Nat) (g f : EF) : SF := fun ρ => gridO ρ i fun rows => (g ρ).out ρ (rowO rows fun n => (f ρ).out ρ fun d => if (rows.getD n []).length < sizeLine then .nx (ρ.set i (some (.grid (.rows (rows.set n (rows.getD n [] ++ [d])))))) else .bad)
section
variable {X : Cx} {W : WX} {e b : Expr} {f g : EF} {x : Str} {p px pos apos cpos q : Pos}
theorem ss_gnew {i : Nat} {pos' : Pos} (hN : X.N.Nodup) (he : SN X W e f) (hi : X.N[i]? = some x := by rfl) (hx : Loc X.env.scope x := by first | exact Or.inl rfl | exact Or.inr rfl) (hs : swapsWith e (some (.Name x pos')) pos.line X.env = pure false := by rfl) (hf : X.fn x = true ∨ X.env.scope.names.lookup x = some .local := by first | exact .inl rfl | exact .inr rfl) (i1 : i < 1000 := by decide) :
    SS X W (.Assign [.Name x pos'] e pos) (sGnew i f) := fun H0 Lo => (ps_set hN hi hx he hs hf).weak fun D σ H ⟨ρ, α, rst, p⟩ =>
  ⟨_, ρ, rst.re, p.exprN rst fun d H1 a s n o p1 => by
    cases d with
    | list ds =>
      cases ds with
      | nil =>
        cases o with
        | lst ha rl =>
          cases rl
          obtain ⟨q1, q2⟩ := rst.setGrid (rows := .rows []) (bs := []) i1 s (by simp) (fun z hz => by rw [List.mem_singleton.mp hz]; exact n) (show Ogr X.K H1 (Lps (Lv Lo α) [a]) [] a [] from ⟨ha, rfl, fun k r b h => by simp at h⟩)
          exact p1 _ _ H1 q1 q2
      | cons _ _ => exact p1.elim
    | _ => exact p1.elim⟩
theorem ss_gapp (i : Nat) (he : SN X W e f) (hN : X.N[i]? = some x := by rfl) (hv : Vis X.env.scope x := by first | exact Or.inl rfl | exact Or.inr (Or.inl rfl) | exact Or.inr (Or.inr rfl)) (hd : (x == ("__debug__" : Str)) = false := by decide)
    (hcd : (x == ("__classdict__" : Str)) = false := by decide) (hbase : attributeBase (.Name x p) "append" X.env (eval (.Name x p) X.env) = eval (.Name x p) X.env := by rfl)
    (hfew : ((backTo cpos (starEach (e :: []) X.env)).all (fun x => !x.1) && (backToKw cpos (keywordEach [] X.env)).all (fun x => x.1.isSome) && decide ((e :: []).length + ([] : List Keyword).length + (if ([] : List Keyword).isEmpty then 0 else 1) < 30)) = true := by rfl)
    (hline : (apos.endLine == cpos.line) = true := by rfl) (hs : starEach (e :: []) X.env = (false, eval e X.env) :: starEach [] X.env := by rfl) (hplain : (backTo cpos (starEach [] X.env)).any (·.1) = false := by rfl) :
    SS X W (.Expr (.Call (.Attribute (.Name x p) "append" apos) [e] [] cpos) pos) (sGapp i f) := fun H0 Lo =>
  (ps_expr (pe_bm PySem.F.plainAttrs_list PySem.F.slot_list_append PySem.F.type_list_append mt_append (pe_var hN hv hd hcd) (pa_cons he pa_nil hs) hbase hfew hline hs hplain)).weak fun D σ H ⟨ρ, α, rst, p⟩ => by
  unfold sGapp gridO at p
  cases hi : ρ[i]? with
  | none => simp only [hi] at p; exact p.elim
  | some z =>
    cases z with
    | none => simp only [hi] at p; exact p.elim
    | some z =>
      cases z with
      | own d => simp only [hi] at p; exact p.elim
      | val d => simp only [hi] at p; exact p.elim
      | pin _ => simp only [hi] at p; exact p.elim
      | ownP _ => simp only [hi] at p; exact p.elim
      | grid g =>
       cases g with
       | stu o d => simp only [hi] at p; exact p.elim
       | rows rows =>
        simp only [hi] at p
        obtain ⟨c0, bs, e2, og, nd, _, e1, e3, h1000⟩ := rst.atG hi
        have og : Ogr X.K H (Lv Lo α) rows c0 bs := og
        refine ⟨.ref c0, e2, .inl ⟨rfl, bs.map V.ref, SqL.of og.top⟩, _, ρ, rst.re, p.exprN rst fun d H1 a s n ow p1 => ?_⟩
        unfold growR at p1
        cases d with
        | list r =>
          dsimp only at p1
          split at p1
          · rename_i few
            have top1 := s _ _ og.top
            have na : a ≠ c0 := fun z => og.there.1 (z ▸ n)
            have nb : a ∉ bs := fun z => og.there.2 a z n
            have low : ∀ z, Lv Lo (reG α i (bs ++ [a])) z → Lv Lo α z ∨ z = a := fun z q => by
              rcases q with q | ⟨j, q⟩
              · exact .inl (.inl q)
              · rcases reG_some q with ⟨_, _, q⟩ | ⟨_, q⟩
                · rcases List.mem_append.mp (List.mem_of_getElem? q) with q | q
                  · obtain ⟨k, hk⟩ := List.mem_iff_getElem?.mp q
                    exact .inl (.inr ⟨_, e3 k z hk⟩)
                  · exact .inr (List.mem_singleton.mp q)
                · exact .inl (.inr ⟨j, q⟩)
            have lowN : ∀ z, Lv Lo (reG α i (bs ++ [a])) z → Lv Lo α z ∨ H z = none := fun z q => (low z q).imp id fun q => by rw [q]; exact n
            have hL : Lv Lo (reG α i (bs ++ [a])) c0 := .inr ⟨i, by unfold reG; rw [if_neg (by omega)]; exact e1⟩
            obtain ⟨w1, w2⟩ := rst.swapG (g1 := .rows (rows ++ [r])) (bs' := bs ++ [a]) (H' := L2.upd H1 c0 (.lst (bs.map V.ref ++ [.ref a]))) hi e1 e2 e3 (fun b hb => by
                rcases hb with rfl | hb
                · exact ⟨_, og.top, trivial⟩
                · obtain ⟨k, hk⟩ := List.mem_iff_getElem?.mp hb
                  have lt : k < rows.length := by rw [og.len]; exact (List.getElem?_eq_some_iff.mp hk).1
                  obtain ⟨us, q, _⟩ := og.row k rows[k] b (List.getElem?_eq_getElem lt) hk
                  exact ⟨_, q, trivial⟩) ((same_delF.trans s).updN (delF_in (.inl rfl)) top1 trivial) (fun y v ry => ((ry.lives lowN).mono s).upd top1 trivial hL) (by
                rw [List.nodup_cons] at nd ⊢
                refine ⟨fun z => ?_, List.nodup_append.mpr ⟨nd.2, by simp, fun u hu v hv z => ?_⟩⟩
                · rcases List.mem_append.mp z with z | z
                  · exact nd.1 z
                  · exact na (List.mem_singleton.mp z).symm
                · rw [List.mem_singleton.mp hv] at z
                  exact nb (z ▸ hu)) (fun b hb => (List.mem_append.mp hb).imp id fun q => by rw [List.mem_singleton.mp q]; exact n) (by
                cases ow with
                | lst hus rl =>
                  rename_i us
                  refine (⟨by rw [upd_same, List.map_append]; rfl, by simp [og.len], fun k y c hy hc => ?_⟩ : Ogr X.K (L2.upd H1 c0 (.lst (bs.map V.ref ++ [.ref a]))) (Lv Lo (reG α i (bs ++ [a]))) (rows ++ [r]) c0 (bs ++ [a]))
                  by_cases hk : k < bs.length
                  · rw [List.getElem?_append_left hk] at hc
                    rw [List.getElem?_append_left (by rw [og.len]; exact hk)] at hy
                    obtain ⟨ws, z1, z2⟩ := og.row k y c hy hc
                    have nc : c ≠ c0 := fun z => (List.nodup_cons.mp nd).1 (z ▸ List.mem_of_getElem? hc)
                    exact ⟨ws, (upd_ne nc).trans (s _ _ z1), ((z2.lives lowN).mono s).upd top1 trivial hL⟩
                  · rw [List.getElem?_append_right (by omega)] at hc
                    rw [List.getElem?_append_right (by rw [og.len]; omega), og.len] at hy
                    have k0 : k - bs.length = 0 := by
                      have := (List.getElem?_eq_some_iff.mp hc).1
                      simp at this
                      omega
                    rw [k0] at hc hy
                    cases hc
                    cases hy
                    exact ⟨us, (upd_ne na).trans hus, (rl.lives fun z q => .inl ((low z q).imp id id)).upd top1 trivial hL⟩)
            refine ⟨c0, bs.map V.ref, .ref a, rfl, rfl, top1, by rw [List.length_map, ← og.len]; exact few, ?_⟩
            exact p1 _ σ _ w1 w2
          · exact p1.elim
        | _ => exact p1.elim
theorem ss_gappAt (i : Nat) (hg : SB X W b g) (he : SE X W e f) (hN : X.N[i]? = some x := by rfl) (hv : Vis X.env.scope x := by first | exact Or.inl rfl | exact Or.inr (Or.inl rfl) | exact Or.inr (Or.inr rfl)) (hd : (x == ("__debug__" : Str)) = false := by decide)
    (hcd : (x == ("__classdict__" : Str)) = false := by decide) (hx : PlainIx b := by exact fun _ _ => rfl) (hbase : attributeBase (.Subscript (.Name x p) b q) "append" X.env (eval (.Subscript (.Name x p) b q) X.env) = eval (.Subscript (.Name x p) b q) X.env := by rfl)
    (hfew : ((backTo cpos (starEach (e :: []) X.env)).all (fun x => !x.1) && (backToKw cpos (keywordEach [] X.env)).all (fun x => x.1.isSome) && decide ((e :: []).length + ([] : List Keyword).length + (if ([] : List Keyword).isEmpty then 0 else 1) < 30)) = true := by rfl)
    (hline : (apos.endLine == cpos.line) = true := by rfl) (hs : starEach (e :: []) X.env = (false, eval e X.env) :: starEach [] X.env := by rfl) (hplain : (backTo cpos (starEach [] X.env)).any (·.1) = false := by rfl) :
    SS X W (.Expr (.Call (.Attribute (.Subscript (.Name x p) b q) "append" apos) [e] [] cpos) pos) (sGappAt i g f) := fun H0 Lo =>
  (ps_expr (pe_bm PySem.F.plainAttrs_list PySem.F.slot_list_append PySem.F.type_list_append mt_append (pe_ix ix_list (pe_var hN hv hd hcd) hg hx) (pa_cons he pa_nil hs) hbase hfew hline hs hplain)).weak fun D σ H ⟨ρ, α, rst, p⟩ => by
  unfold sGappAt gridO at p
  cases hi : ρ[i]? with
  | none => simp only [hi] at p; exact p.elim
  | some z =>
    cases z with
    | none => simp only [hi] at p; exact p.elim
    | some z =>
      cases z with
      | own d => simp only [hi] at p; exact p.elim
      | val d => simp only [hi] at p; exact p.elim
      | pin _ => simp only [hi] at p; exact p.elim
      | ownP _ => simp only [hi] at p; exact p.elim
      | grid g =>
       cases g with
       | stu o d => simp only [hi] at p; exact p.elim
       | rows rows =>
        simp only [hi] at p
        obtain ⟨c0, bs, e1, e2, e3, og⟩ := rst.grd i _ hi
        have og : Ogr X.K H (Lv Lo α) rows c0 bs := og
        refine ⟨.ref c0, e2, _, ρ, rst.re, p.exprB rst fun dj H2 j s2 rj rst2 p2 => ?_⟩
        have og2 := og.mono s2
        unfold rowO at p2
        cases dj with
        | int j' =>
          obtain rfl := rj.intV
          simp only at p2
          cases hn : ixN rows.length j' with
          | none => simp only [hn] at p2; exact p2.elim
          | some n =>
            simp only [hn] at p2
            obtain ⟨c, us, q1, q2, q3, q4, q5⟩ := row_at og2 hn
            refine ⟨c0, _, j', .ref c, rfl, rfl, SqL.of og2.top, q2, .inl ⟨rfl, us, SqL.of q3⟩, _, ρ, rst2.re, p2.expr rst2 fun d H3 v s3 rv rst3 p3 => ?_⟩
            split at p3
            · rename_i few
              have q33 := s3 _ _ q3
              refine ⟨c, us, v, rfl, rfl, q33, by rw [← q4.length]; exact few, ?_⟩
              obtain ⟨w1, w2⟩ := rst3.writeG (r' := rows.getD n [] ++ [d]) (us' := us ++ [v]) hi e1 e2 e3 (og2.mono s3) q1 q33 ((q4.mono s3).append (.cons rv .nil))
              exact p3 α σ _ w1 w2
            · exact p3.elim
        | _ => exact p2.elim
end
end VV

set_option Elab.async false
set_option linter.all false
set_option maxRecDepth 100000
set_option maxHeartbeats 4000000
/-! VZd: [.., e.x] in an except clause. -/
namespace VV
open PySem PySem.Spec L2
open PyProof.Rows hiding St
def tGA (K : PySem.W.Frag) (a : Addr) (i : Nat) (d : Option Addr) (fs : List (Str × D)) (gs : List EF) : TA := fun σ H Q => σ[i]? = some (some (.ref a)) ∧ ∃ L ρ, RE K H L ρ σ ∧ XR K H L fs d ∧ PostA K WF L σ H (evA gs ρ) Q
abbrev SGA (X : Cx) (a : Addr) (i : Nat) (d : Option Addr) (fs : List (Str × D)) (es : List Expr) (gs : List EF) : Prop := PA X es (tGA X.K a i d fs gs)
section
variable {X : Cx} {a : Addr} {i : Nat} {dx : Option Addr} {xs : List (Str × D)} {e : Expr} {es : List Expr} {f : EF} {fs : List EF} {pos : Pos}
theorem sga_nil : SGA X a i dx xs [] [] := pa_nil.weak fun σ H Q ⟨_, L, ρ, re, _, p⟩ => p H [] (Same.refl H) .nil
theorem sga_cons (ha : SG X a i dx xs e f) (hr : SGA X a i dx xs es fs) (hs : starEach (e :: es) X.env = (false, eval e X.env) :: starEach es X.env := by rfl) : SGA X a i dx xs (e :: es) (f :: fs) := (pa_cons ha hr hs).weak fun σ H Q ⟨hσ, L, ρ, re, xr, p⟩ => by
  refine ⟨hσ, L, ρ, re, xr, ?_⟩
  simp only [evA_cons] at p
  cases hf : f ρ with
  | bad => rw [hf] at p; exact p
  | exc c ys => rw [hf] at p; exact p
  | ok d =>
    rw [hf] at p
    intro H1 v s1 r1
    refine ⟨hσ, L, ρ, re.mono s1, xr.mono s1, ?_⟩
    cases hg : evA fs ρ with
    | bad => rw [hg] at p; exact p
    | exc c ys => rw [hg] at p; exact fun H' x s' => p H' x (s1.trans s')
    | ok ds => rw [hg] at p; exact fun H' vs s' r' => p H' (v :: vs) (s1.trans s') (.cons (r1.mono s') r')
theorem sg_lst (h : SGA X a i dx xs es fs) : SG X a i dx xs (.List es pos) (eLst fs) := (pe_lst h).weak fun σ H Q ⟨hσ, L, ρ, re, xr, p⟩ =>
  ⟨hσ, L, ρ, re, xr, p.stepA fun ds H1 vs s1 r p1 => by
    unfold lstR at p1
    split at p1
    · rename_i hz
      rw [r.length] at hz
      exact ⟨hz, fun q hq => p1 _ _ (same_upd hq) (.lst upd_same (fun z => re.lv.mono s1 q z hq) (r.mono (same_upd hq)))⟩
    · exact p1.elim⟩
end
end VV

set_option Elab.async false
set_option linter.all false
set_option maxRecDepth 100000
set_option maxHeartbeats 4000000
/-! PLa: how the functions of the layer are worked out, by rewriting. -/
namespace VV
open PySem PySem.Spec L2
open PyProof.Rows hiding St

def seqO : Out → SF → Out
  | .nx ρ, g => g ρ
  | o, _ => o
theorem ap_sSeq (f g : SF) (ρ : En) : sSeq f g ρ = seqO (f ρ) g := by unfold sSeq seqO; cases f ρ <;> rfl
theorem seqO_nx (ρ : En) (g : SF) : seqO (.nx ρ) g = g ρ := rfl
theorem seqO_rt (d : D) (g : SF) : seqO (.rt d) g = .rt d := rfl
theorem seqO_exc (c : Str) (fs : List (Str × D)) (ρ : En) (g : SF) : seqO (.exc c fs ρ) g = .exc c fs ρ := rfl
def ifO : Rs → SF → SF → SF
  | .ok (.bool true), f, _, ρ => f ρ
  | .ok (.bool false), _, g, ρ => g ρ
  | .exc c fs, _, _, ρ => .exc c fs ρ
  | _, _, _, _ => .bad
theorem ap_sIf (c : EF) (f g : SF) (ρ : En) : sIf c f g ρ = ifO (c ρ) f g ρ := by
  unfold sIf ifO
  cases c ρ with
  | ok d => cases d with
    | bool b => cases b <;> rfl
    | _ => rfl
  | exc _ _ => rfl
  | bad => rfl
theorem ifO_t (f g : SF) (ρ : En) : ifO (.ok (.bool true)) f g ρ = f ρ := rfl
theorem ifO_f (f g : SF) (ρ : En) : ifO (.ok (.bool false)) f g ρ = g ρ := rfl
theorem ifO_exc (c : Str) (fs : List (Str × D)) (f g : SF) (ρ : En) : ifO (.exc c fs) f g ρ = .exc c fs ρ := rfl
theorem ap_sNx (ρ : En) : sNx ρ = .nx ρ := rfl
theorem ap_sSet (i : Nat) (f : EF) (ρ : En) : sSet i f ρ = (f ρ).out ρ fun d => .nx (ρ.set i (some (.val d))) := rfl
theorem ap_sOwn (i : Nat) (f : EF) (ρ : En) : sOwn i f ρ = (f ρ).out ρ fun d => .nx (ρ.set i (some (.own d))) := rfl
theorem ap_sRet (f : EF) (ρ : En) : sRet f ρ = (f ρ).out ρ fun d => .rt d := rfl
theorem ap_sDrop (f : EF) (ρ : En) : sDrop f ρ = (f ρ).out ρ fun _ => .nx ρ := rfl
theorem ap_sAsg (t : Tg) (f : EF) (ρ : En) : sAsg t f ρ = (f ρ).out ρ fun d => outB (bindT t d ρ) := rfl
theorem outB_some (ρ : En) : outB (some ρ) = .nx ρ := rfl
theorem bT_nm (i : Nat) (d : D) (ρ : En) : bindT (.nm i) d ρ = some (ρ.set i (some (.val d))) := by simp [bindT]
theorem bT_tp (ts : List Tg) (ds : List D) (ρ : En) : bindT (.tp ts) (.tuple ds) ρ = bindTs ts ds ρ := by simp [bindT]
theorem bTs_nil (ρ : En) : bindTs [] [] ρ = some ρ := by simp [bindTs]
theorem bTs_cons (t : Tg) (ts : List Tg) (d : D) (ds : List D) (ρ : En) : bindTs (t :: ts) (d :: ds) ρ = (bindT t d ρ).bind fun ρ => bindTs ts ds ρ := by simp [bindTs]
theorem ap_sRaise (c : Str) (ρ : En) : sRaise c ρ = .exc c [] ρ := rfl
def parO (i j : Nat) (ρ : En) : RL → Out
  | .ok [x, y] => .nx ((ρ.set i (some (.val x))).set j (some (.val y)))
  | .exc c fs => .exc c fs ρ
  | _ => .bad
theorem ap_sPar (i j : Nat) (fs : List EF) (ρ : En) : sPar i j fs ρ = parO i j ρ (evA fs ρ) := by
  unfold sPar parO RL.out
  cases evA fs ρ with
  | ok ds =>
    match ds with
    | [] => rfl
    | [_] => rfl
    | [_, _] => rfl
    | _ :: _ :: _ :: _ => rfl
  | exc _ _ => rfl
  | bad => rfl
theorem parO_ok (i j : Nat) (ρ : En) (x y : D) : parO i j ρ (.ok [x, y]) = .nx ((ρ.set i (some (.val x))).set j (some (.val y))) := rfl
theorem ap_sFor (fi : IF) (t : Tg) (f : SF) (ρ : En) : sFor fi t f ρ = (fi ρ).out ρ fun ds => forGo t f ds ρ := rfl
def retO : Option (Option Sl) → Out
  | some (some (.own d)) => .rt d
  | some (some (.val d)) => .rt d
  | _ => .bad
theorem ap_sRetV (i : Nat) (ρ : En) : sRetV i ρ = retO ρ[i]? := rfl
theorem retO_own (d : D) : retO (some (some (.own d))) = .rt d := rfl
theorem retO_val (d : D) : retO (some (some (.val d))) = .rt d := rfl
def frzO (i : Nat) (f : SF) (ρ : En) : Option (Option Sl) → Out
  | some (some (.own d)) => f (ρ.set i (some (.val d)))
  | some (some (.val _)) => f ρ
  | _ => .bad
theorem ap_sFrz (i : Nat) (f : SF) (ρ : En) : sFrz i f ρ = frzO i f ρ ρ[i]? := rfl
theorem frzO_own (i : Nat) (f : SF) (ρ : En) (d : D) : frzO i f ρ (some (some (.own d))) = f (ρ.set i (some (.val d))) := rfl
theorem frzO_val (i : Nat) (f : SF) (ρ : En) (d : D) : frzO i f ρ (some (some (.val d))) = f ρ := rfl
def appO (i : Nat) (ρ : En) (o : Option (Option Sl)) (r : Rs) : Out := match o with
  | some (some (.own (.list ds))) => r.out ρ fun d => if ds.length < sizeLine then .nx (ρ.set i (some (.own (.list (ds ++ [d]))))) else .bad
  | _ => .bad
theorem ap_sApp (i : Nat) (f : EF) (ρ : En) : sApp i f ρ = appO i ρ ρ[i]? (f ρ) := rfl
theorem appO_ok (i : Nat) (ρ : En) (ds : List D) (d : D) (h : ds.length < 16777216) : appO i ρ (some (some (.own (.list ds)))) (.ok d) = .nx (ρ.set i (some (.own (.list (ds ++ [d]))))) := if_pos h
def extO (i : Nat) (ρ : En) (o : Option (Option Sl)) (r : Rs) : Out := match o with
  | some (some (.own (.list ds))) => r.out ρ fun d => match d with
    | .list es => if ds.length + es.length ≤ sizeLine then .nx (ρ.set i (some (.own (.list (ds ++ es))))) else .bad
    | _ => .bad
  | _ => .bad
theorem extO_ok (i : Nat) (ρ : En) (ds es : List D) (h : ds.length + es.length ≤ 16777216) : extO i ρ (some (some (.own (.list ds)))) (.ok (.list es)) = .nx (ρ.set i (some (.own (.list (ds ++ es))))) := if_pos h
theorem ap_sExt (i : Nat) (f : EF) (ρ : En) : sExt i f ρ = extO i ρ ρ[i]? (f ρ) := rfl
/-! expressions -/
def valO : Option (Option Sl) → Rs
  | some (some (.val d)) => .ok d
  | _ => .bad
theorem ap_eV (i : Nat) (ρ : En) : eV i ρ = valO ρ[i]? := rfl
theorem valO_val (d : D) : valO (some (some (.val d))) = .ok d := rfl
def borO : Option (Option Sl) → Rs
  | some (some (.val d)) => .ok d
  | some (some (.own d)) => .ok d
  | some (some (.ownP d)) => .ok d
  | _ => .bad
theorem ap_eB (i : Nat) (ρ : En) : eB i ρ = borO ρ[i]? := rfl
theorem borO_val (d : D) : borO (some (some (.val d))) = .ok d := rfl
theorem borO_own (d : D) : borO (some (some (.own d))) = .ok d := rfl
theorem ap_eC (d : D) (ρ : En) : eC d ρ = .ok d := rfl
def opO (fn : D → D → Option D) (x y : Rs) : Rs := x.bind fun x => y.bind fun y => Rs.of (fn x y)
theorem ap_eOp (fn : D → D → Option D) (f g : EF) (ρ : En) : eOp fn f g ρ = opO fn (f ρ) (g ρ) := rfl
theorem opO_ok (fn : D → D → Option D) (x y : D) : opO fn (.ok x) (.ok y) = Rs.of (fn x y) := rfl
theorem ap_eUn (fn : D → Option D) (f : EF) (ρ : En) : eUn fn f ρ = (f ρ).bind fun x => Rs.of (fn x) := rfl
theorem ap_eTup (fs : List EF) (ρ : En) : eTup fs ρ = (evA fs ρ).bind tupR := rfl
theorem ap_eLst (fs : List EF) (ρ : En) : eLst fs ρ = (evA fs ρ).bind lstR := rfl
theorem tupR_ok (ds : List D) (h : ds.length ≤ 16777216) : tupR ds = .ok (.tuple ds) := if_pos h
theorem lstR_ok (ds : List D) (h : ds.length ≤ 16777216) : lstR ds = .ok (.list ds) := if_pos h
theorem ap_eCB (fn : List D → Option D) (fs : List EF) (ρ : En) : eCB fn fs ρ = (evA fs ρ).bind fun ds => Rs.of (fn ds) := rfl
def callO (f : List D → Rs) (r : RL) : Rs := r.bind f
theorem ap_eCall (f : List D → Rs) (fs : List EF) (ρ : En) : eCall f fs ρ = callO f (evA fs ρ) := rfl
theorem callO_ok (f : List D → Rs) (ds : List D) : callO f (.ok ds) = f ds := Eq.trans rfl rfl
theorem callO_exc (f : List D → Rs) (c : Str) (fs : List (Str × D)) : callO f (.exc c fs) = .exc c fs := Eq.trans rfl rfl
theorem ap_gNot (f : EF) (ρ : En) : gNot f ρ = (f ρ).bind notR := rfl
theorem notR_b (b : Bool) : notR (.bool b) = .ok (.bool (!b)) := rfl
theorem ap_gTru (f : EF) (ρ : En) : gTru f ρ = (f ρ).bind truR := rfl
theorem truR_b (b : Bool) : truR (.bool b) = .ok (.bool b) := rfl
theorem truR_list (ds : List D) : truR (.list ds) = .ok (.bool (!ds.isEmpty)) := rfl
def andO : Rs → EF → EF
  | .ok (.bool true), g, ρ => g ρ
  | .ok (.bool false), _, _ => .ok (.bool false)
  | .exc c fs, _, _ => .exc c fs
  | _, _, _ => .bad
def orO : Rs → EF → EF
  | .ok (.bool false), g, ρ => g ρ
  | .ok (.bool true), _, _ => .ok (.bool true)
  | .exc c fs, _, _ => .exc c fs
  | _, _, _ => .bad
theorem ap_gAnd (f g : EF) (ρ : En) : gAnd f g ρ = andO (f ρ) g ρ := by
  unfold gAnd andO Rs.bind andR
  cases f ρ with
  | ok d => cases d with
    | bool b => cases b <;> rfl
    | _ => rfl
  | exc _ _ => rfl
  | bad => rfl
theorem ap_gOr (f g : EF) (ρ : En) : gOr f g ρ = orO (f ρ) g ρ := by
  unfold gOr orO Rs.bind orR
  cases f ρ with
  | ok d => cases d with
    | bool b => cases b <;> rfl
    | _ => rfl
  | exc _ _ => rfl
  | bad => rfl
theorem andO_t (g : EF) (ρ : En) : andO (.ok (.bool true)) g ρ = g ρ := rfl
theorem andO_f (g : EF) (ρ : En) : andO (.ok (.bool false)) g ρ = .ok (.bool false) := rfl
theorem orO_t (g : EF) (ρ : En) : orO (.ok (.bool true)) g ρ = .ok (.bool true) := rfl
theorem orO_f (g : EF) (ρ : En) : orO (.ok (.bool false)) g ρ = g ρ := rfl
/-- values: and, or of tests that are bools -/
def eandO : Rs → EF → EF
  | .ok d, g, ρ => (match tru d with
    | some true => g ρ
    | some false => .ok d
    | none => .bad)
  | .exc c fs, _, _ => .exc c fs
  | .bad, _, _ => .bad
def eorO : Rs → EF → EF
  | .ok d, g, ρ => (match tru d with
    | some true => .ok d
    | some false => g ρ
    | none => .bad)
  | .exc c fs, _, _ => .exc c fs
  | .bad, _, _ => .bad
theorem ap_eAnd (f g : EF) (ρ : En) : eAnd f g ρ = eandO (f ρ) g ρ := by
  unfold eAnd eandO Rs.bind
  cases f ρ <;> rfl
theorem ap_eOr (f g : EF) (ρ : En) : eOr f g ρ = eorO (f ρ) g ρ := by
  unfold eOr eorO Rs.bind
  cases f ρ <;> rfl
theorem eandO_t (g : EF) (ρ : En) : eandO (.ok (.bool true)) g ρ = g ρ := rfl
theorem eandO_f (g : EF) (ρ : En) : eandO (.ok (.bool false)) g ρ = .ok (.bool false) := rfl
theorem eorO_t (g : EF) (ρ : En) : eorO (.ok (.bool true)) g ρ = .ok (.bool true) := rfl
theorem eorO_f (g : EF) (ρ : En) : eorO (.ok (.bool false)) g ρ = g ρ := rfl
def enotO : Rs → Rs
  | .ok d => (match tru d with
    | some b => .ok (.bool (!b))
    | none => .bad)
  | .exc c fs => .exc c fs
  | .bad => .bad
theorem ap_eNot (f : EF) (ρ : En) : eNot f ρ = enotO (f ρ) := by
  unfold eNot enotO Rs.bind
  cases f ρ <;> rfl
theorem enotO_b (b : Bool) : enotO (.ok (.bool b)) = .ok (.bool (!b)) := rfl
theorem enotO_list (ds : List D) : enotO (.ok (.list ds)) = .ok (.bool (! !ds.isEmpty)) := rfl
def eifO : Rs → EF → EF → EF
  | .ok (.bool true), f, _, ρ => f ρ
  | .ok (.bool false), _, g, ρ => g ρ
  | .exc c fs, _, _, _ => .exc c fs
  | _, _, _, _ => .bad
theorem ap_eIf (c f g : EF) (ρ : En) : eIf c f g ρ = eifO (c ρ) f g ρ := by
  unfold eIf eifO Rs.bind ifR
  cases c ρ with
  | ok d => cases d with
    | bool b => cases b <;> rfl
    | _ => rfl
  | exc _ _ => rfl
  | bad => rfl
theorem eifO_t (f g : EF) (ρ : En) : eifO (.ok (.bool true)) f g ρ = f ρ := rfl
theorem eifO_f (f g : EF) (ρ : En) : eifO (.ok (.bool false)) f g ρ = g ρ := rfl
def chO (fn fn' : D → D → Option D) (x y : Rs) (h : EF) (ρ : En) : Rs := x.bind fun x => y.bind fun y => andO (Rs.of (fn x y)) (fun ρ => opO fn' (.ok y) (h ρ)) ρ
theorem ap_eChain (fn fn' : D → D → Option D) (f g h : EF) (ρ : En) : eChain fn fn' f g h ρ = chO fn fn' (f ρ) (g ρ) h ρ := by
  unfold eChain chO
  cases f ρ with
  | ok x =>
    cases g ρ with
    | ok y =>
      simp only [Rs.bind_ok]
      cases fn x y with
      | none => rfl
      | some d => cases d with
        | bool b => cases b <;> rfl
        | _ => rfl
    | exc _ _ => rfl
    | bad => rfl
  | exc _ _ => rfl
  | bad => rfl
theorem chO_ok (fn fn' : D → D → Option D) (x y : D) (h : EF) (ρ : En) : chO fn fn' (.ok x) (.ok y) h ρ = andO (Rs.of (fn x y)) (fun ρ => opO fn' (.ok y) (h ρ)) ρ := rfl
def isiO (g : D → Bool) : Rs → Rs
  | .ok (.dict ps) => if (asFz (.dict ps)).isSome then .ok (.bool (g (.dict ps))) else .bad
  | .ok d => .ok (.bool (g d))
  | .exc c fs => .exc c fs
  | .bad => .bad
theorem ap_eIsi (g : D → Bool) (f : EF) (ρ : En) : eIsi g f ρ = isiO g (f ρ) := by
  unfold eIsi isiO Rs.bind
  cases f ρ with
  | ok d => cases d <;> rfl
  | exc _ _ => rfl
  | bad => rfl
theorem isiO_int (g : D → Bool) (i : Int) : isiO g (.ok (.int i)) = .ok (.bool (g (.int i))) := rfl
theorem isiO_tup (g : D → Bool) (i : List D) : isiO g (.ok (.tuple i)) = .ok (.bool (g (.tuple i))) := rfl
theorem isiO_lst (g : D → Bool) (i : List D) : isiO g (.ok (.list i)) = .ok (.bool (g (.list i))) := rfl
theorem isiO_bl (g : D → Bool) (i : Bool) : isiO g (.ok (.bool i)) = .ok (.bool (g (.bool i))) := rfl
theorem isiO_str (g : D → Bool) (i : Str) : isiO g (.ok (.str i)) = .ok (.bool (g (.str i))) := rfl
theorem isiO_non (g : D → Bool) : isiO g (.ok .none) = .ok (.bool (g .none)) := rfl
theorem isInt_int (i : Int) : isInt (.int i) = true := rfl
theorem isInt_bl (b : Bool) : isInt (.bool b) = true := rfl
theorem isInt_tup (b : List D) : isInt (.tuple b) = false := rfl
theorem isInt_lst (b : List D) : isInt (.list b) = false := rfl
theorem isInt_str (b : Str) : isInt (.str b) = false := rfl
theorem isInt_non : isInt .none = false := rfl
theorem isBool_int (i : Int) : isBool (.int i) = false := rfl
theorem isBool_bl (b : Bool) : isBool (.bool b) = true := rfl
theorem isTup_tup (b : List D) : isTup (.tuple b) = true := rfl
theorem isTup_lst (b : List D) : isTup (.list b) = false := rfl
theorem isTup_int (b : Int) : isTup (.int b) = false := rfl
theorem isTup_non : isTup .none = false := rfl
theorem isTup_str (b : Str) : isTup (.str b) = false := rfl
theorem isTup_bl (b : Bool) : isTup (.bool b) = false := rfl
theorem isLst_lst (b : List D) : isLst (.list b) = true := rfl
theorem isLst_tup (b : List D) : isLst (.tuple b) = false := rfl
/-! functions of data -/
theorem f_add (i j : Int) : addF (.int i) (.int j) = some (.int (i + j)) := rfl
theorem f_sub (i j : Int) : subF (.int i) (.int j) = some (.int (i - j)) := rfl
theorem f_neg (i : Int) : negF (.int i) = some (.int (-i)) := rfl
theorem f_mod (i j : Int) (h : j ≠ 0) : modF (.int i) (.int j) = some (.int (i.fmod j)) := if_neg h
/-- by a positive number -/
theorem f_modP (i j : Int) (h : 0 < j) : modF (.int i) (.int j) = some (.int (i % j)) := by
  rw [f_mod i j (by omega), Int.fmod_eq_emod_of_nonneg i (by omega)]
theorem divOk_of {j : Int} (h : 0 < j) (h2 : j < 2 ^ 64) : divOk j = true := by
  unfold divOk
  simp only [Bool.and_eq_true, decide_eq_true_eq]
  refine ⟨by omega, ?_⟩
  have : j.natAbs < 2 ^ 64 := by omega
  have := (Nat.log2_lt (n := j.natAbs) (k := 64) (by omega)).2 this
  omega
theorem f_divP (i j : Int) (h : 0 < j) (h2 : j < 18446744073709551616) : divF (.int i) (.int j) = some (.int (i / j)) := by
  show (if divOk j = true then some (PyData.int (i.fdiv j)) else none) = _
  rw [if_pos (divOk_of h h2), Int.fdiv_eq_ediv_of_nonneg i (by omega)]
theorem f_mul (i j : Int) (h : (-18446744073709551616 < i ∧ i < 18446744073709551616) ∨ (-18446744073709551616 < j ∧ j < 18446744073709551616)) : mulF (.int i) (.int j) = some (.int (i * j)) := by
  show (if mulOk i j = true then some (PyData.int (i * j)) else none) = _
  rw [if_pos]
  unfold mulOk
  rw [Bool.or_eq_true]
  exact .inl (decide_eq_true h)
theorem f_lt (i j : Int) : ltF (.int i) (.int j) = some (.bool (decide (i < j))) := rfl
theorem f_le (i j : Int) : leF (.int i) (.int j) = some (.bool (decide (i ≤ j))) := rfl
theorem f_gt (i j : Int) : gtF (.int i) (.int j) = some (.bool (decide (j < i))) := rfl
theorem f_ge (i j : Int) : geF (.int i) (.int j) = some (.bool (decide (j ≤ i))) := rfl
theorem f_is (x : D) : isF x .none = some (.bool (isNone x)) := rfl
theorem f_isNot (x : D) : isNotF x .none = some (.bool (!isNone x)) := rfl
theorem isNone_int (i : Int) : isNone (.int i) = false := rfl
theorem isNone_tup (i : List D) : isNone (.tuple i) = false := rfl
theorem isNone_lst (i : List D) : isNone (.list i) = false := rfl
theorem isNone_non : isNone .none = true := rfl
theorem f_len_l (ds : List D) : lenF [.list ds] = some (.int ds.length) := rfl
theorem f_len_t (ds : List D) : lenF [.tuple ds] = some (.int ds.length) := rfl
theorem f_len_rd (ns : List Int) : lenF [rdL ns] = some (.int ns.length) := by simp [lenF, rdL, asRd, isFd]
theorem f_tup_l (ds : List D) : tupF [.list ds] = some (.tuple ds) := rfl
theorem f_tup_t (ds : List D) : tupF [.tuple ds] = some (.tuple ds) := rfl
theorem f_max2 (i j : Int) : max2F [.int i, .int j] = some (.int (max i j)) := by
  simp only [max2F]
  congr 2
  split <;> omega
theorem f_min2 (i j : Int) : min2F [.int i, .int j] = some (.int (min i j)) := by
  simp only [min2F]
  congr 2
  split <;> omega
theorem f_abs (i : Int) : absF [.int i] = some (.int (if i < 0 then -i else i)) := rfl
theorem f_sum_l (ns : List Int) : sumF [.list (ns.map PyData.int)] = some (.int ns.sum) := by simp [sumF, intsOf_map]
theorem f_sum_t (ns : List Int) : sumF [.tuple (ns.map PyData.int)] = some (.int ns.sum) := by simp [sumF, intsOf_map]
theorem atI_nat {α : Type} (xs : List α) (n : Nat) (h : n < xs.length) : L2.atI xs (n : Int) = some xs[n] := by
  unfold L2.atI L2.ixN
  rw [if_pos (by omega)]; rw [if_pos (by omega)]
  simp [h]
theorem f_ix_t (ds : List D) (i : Int) (h0 : 0 ≤ i) (h : i.toNat < ds.length) : ixF (.tuple ds) (.int i) = some ds[i.toNat] := by
  have := atI_nat ds i.toNat h
  rw [Int.toNat_of_nonneg h0] at this
  exact this
theorem f_ix_l (ds : List D) (i : Int) (h0 : 0 ≤ i) (h : i.toNat < ds.length) : ixF (.list ds) (.int i) = some ds[i.toNat] := by
  have := atI_nat ds i.toNat h
  rw [Int.toNat_of_nonneg h0] at this
  exact this
theorem f_ix0 (a : D) (r : List D) : ixF (.tuple (a :: r)) (.int 0) = some a := f_ix_t (a :: r) 0 (by decide) (by simp)
theorem f_ix1 (a b : D) (r : List D) : ixF (.tuple (a :: b :: r)) (.int 1) = some b := f_ix_t (a :: b :: r) 1 (by decide) (by simp)
theorem f_ix2 (a b c : D) (r : List D) : ixF (.tuple (a :: b :: c :: r)) (.int 2) = some c := f_ix_t (a :: b :: c :: r) 2 (by decide) (by simp)
theorem f_ix3 (a b c e : D) (r : List D) : ixF (.tuple (a :: b :: c :: e :: r)) (.int 3) = some e := f_ix_t (a :: b :: c :: e :: r) 3 (by decide) (by simp)
/-- one of a list of ints -/
theorem f_ix_row (ns : List Int) (i : Int) (h0 : 0 ≤ i) (h : i < ns.length) : ixF (.list (ns.map PyData.int)) (.int i) = some (.int (ns.getD i.toNat 0)) := by
  have h' : i.toNat < ns.length := by omega
  rw [f_ix_l _ i h0 (by simpa using h')]
  simp [h']
theorem f_ix_rd (ns : List Int) (i : Int) (h0 : 0 ≤ i) (h : i < ns.length) : ixF (rdL ns) (.int i) = some (.int (ns.getD i.toNat 0)) := f_ix_row ns i h0 h
theorem f_rev_t (ds : List D) : revF (.tuple ds) = some (.tuple ds.reverse) := rfl
/-! runs -/
def outR : Out → Rs
  | .nx _ => .ok .none
  | .rt d => .ok d
  | .exc c fs _ => .exc c fs
  | _ => .bad
theorem outR_nx (ρ : En) : outR (.nx ρ) = .ok .none := rfl
theorem outR_rt (d : D) : outR (.rt d) = .ok d := rfl
theorem outR_exc (c : Str) (fs : List (Str × D)) (ρ : En) : outR (.exc c fs ρ) = .exc c fs := rfl
def nones : Nat → En
  | 0 => []
  | n + 1 => none :: nones n
theorem nones_eq (n : Nat) : List.replicate n (none : Option Sl) = nones n := by
  induction n with
  | zero => rfl
  | succ n ih => rw [List.replicate_succ, ih]; rfl
theorem nones0 : nones 0 = [] := rfl
theorem nonesS (n : Nat) : nones (n + 1) = none :: nones n := rfl
theorem runB_eq (n N : Nat) (f : SF) (ds : List D) (h : ds.length = n) : runB n N f ds = outR (f (ds.map (fun d => some (.val d)) ++ nones (N - n))) := by
  unfold runB outR
  rw [if_pos h, nones_eq]
  cases f (List.map (fun d => some (Sl.val d)) ds ++ nones (N - n)) <;> rfl
/-! comprehensions -/
/-- nothing passes the test -/
theorem lcGo_none {i : Nat} {c e : EF} {ρ : En} : ∀ (ds : List D), (∀ d ∈ ds, c (ρ.set i (some (.val d))) = .ok (.bool false)) → lcGo (.nm i) c e ρ ds = .ok []
  | [], _ => rfl
  | d :: ds, h => by
    have h1 := h d (by simp)
    have ih := lcGo_none (e := e) ds fun d' hd => h d' (by simp [hd])
    simp only [lcGo, lcOne, bT_nm, h1, ih]
theorem eLc_none {vs : List Nat} {fi : IF} {i : Nat} {c e : EF} {ρ : En} (ds : List D) (hi : fi ρ = .ok ds) (h : ∀ d ∈ ds, c ((wipeE ρ vs).set i (some (.val d))) = .ok (.bool false)) :
    eLc vs fi (.nm i) c e ρ = .ok (.list []) := by
  unfold eLc
  rw [hi, RL.bind_ok, lcGo_none ds h, RL.bind_ok]
  exact lstR_ok _ (by decide)
theorem wipeE_nil (ρ : En) : wipeE ρ [] = ρ := rfl
theorem wipeE_cons (ρ : En) (v : Nat) (vs : List Nat) : wipeE ρ (v :: vs) = (wipeE ρ vs).set v none := rfl
theorem ap_iSeq (f : EF) (ρ : En) : iSeq f ρ = (f ρ).items itF := rfl
theorem items_l (ds : List D) : (Rs.ok (.list ds)).items itF = .ok ds := rfl
theorem items_t (ds : List D) : (Rs.ok (.tuple ds)).items itF = .ok ds := rfl
theorem ap_iRange1 (fs : List EF) (ρ : En) : iRange1 fs ρ = (evA fs ρ).items rng1 := rfl
theorem ap_iRange2 (fs : List EF) (ρ : En) : iRange2 fs ρ = (evA fs ρ).items rng2 := rfl
theorem rng1_ok (j : Int) (h : -4611686018427387904 ≤ j) (h2 : j < 4611686018427387904) : (RL.ok [.int j]).items rng1 = .ok (rangeD 0 j.toNat) := by
  have e : smallI j = true := by simp only [smallI, Bool.and_eq_true, decide_eq_true_eq]; omega
  simp only [RL.items, rng1, e, if_true]
/-- a turn that goes on -/
theorem forGo_nx {i : Nat} {f : SF} {d : D} {ds : List D} {ρ ρ2 : En} (h : f (ρ.set i (some (.val d))) = .nx ρ2) : forGo (.nm i) f (d :: ds) ρ = forGo (.nm i) f ds ρ2 := by
  simp only [forGo, forOne, bT_nm, h]
/-- a for whose turns go on: E k is the slots before turn k -/
theorem forGo_inv {i : Nat} {f : SF} (P : Nat → En → Prop) : ∀ (ds : List D) (k : Nat) (ρ : En), P k ρ → (∀ j ρ, P (k + j) ρ → ∀ d, ds[j]? = some d → ∃ ρ2, f (ρ.set i (some (.val d))) = .nx ρ2 ∧ P (k + j + 1) ρ2) → ∃ ρ', forGo (.nm i) f ds ρ = .nx ρ' ∧ P (k + ds.length) ρ'
  | [], k, ρ, h, _ => ⟨ρ, rfl, h⟩
  | d :: ds, k, ρ, h, hs => by
    obtain ⟨ρ2, e, h2⟩ := hs 0 ρ h d rfl
    obtain ⟨ρ', e', h'⟩ := forGo_inv P ds (k + 1) ρ2 h2 fun j ρ hj d hd => by
      have := hs (j + 1) ρ (by rw [show k + (j + 1) = k + 1 + j by omega]; exact hj) d (by simpa using hd)
      rw [show k + (j + 1) + 1 = k + 1 + j + 1 by omega] at this
      exact this
    exact ⟨ρ', by rw [forGo_nx e]; exact e', by rw [List.length_cons, show k + (ds.length + 1) = k + 1 + ds.length by omega]; exact h'⟩
theorem rangeD_get {lo : Int} {n j : Nat} {d : D} (h : (rangeD lo n)[j]? = some d) : j < n ∧ d = .int (lo + j) := by
  unfold rangeD at h
  rw [List.getElem?_map] at h
  by_cases hi : j < n
  · rw [List.getElem?_range hi] at h
    cases h
    exact ⟨hi, rfl⟩
  · rw [List.getElem?_eq_none (by simpa using hi)] at h
    cases h
theorem rangeD_length (lo : Int) (n : Nat) : (rangeD lo n).length = n := by simp [rangeD]
/-! equality of data -/
/-- data that can be compared, at most k deep -/
def Ly (k : Nat) (d : D) : Prop := d.canLay0 = true ∧ d.depth ≤ k
theorem Ly.int (k : Nat) (i : Int) : Ly k (.int i) := ⟨rfl, by simp [PyData.depth]⟩
theorem Ly.bool (k : Nat) (b : Bool) : Ly k (.bool b) := ⟨rfl, by simp [PyData.depth]⟩
theorem Ly.none (k : Nat) : Ly k .none := ⟨rfl, by simp [PyData.depth]⟩
theorem Ly.all {k : Nat} : ∀ {ds : List D}, (∀ d ∈ ds, Ly k d) → PyData.canLayAll0 ds = true ∧ PyData.depthAll ds ≤ k
  | [], _ => ⟨rfl, by simp [PyData.depthAll]⟩
  | d :: ds, h => by
    obtain ⟨a, b⟩ := h d (by simp)
    obtain ⟨c, e⟩ := Ly.all (ds := ds) fun d' hd => h d' (by simp [hd])
    refine ⟨by simp [PyData.canLayAll0, a, c], ?_⟩
    simp only [PyData.depthAll]
    omega
theorem Ly.tuple {k : Nat} {ds : List D} (h : ∀ d ∈ ds, Ly k d) : Ly (k + 1) (.tuple ds) := by
  obtain ⟨a, b⟩ := Ly.all h
  exact ⟨by simp [PyData.canLay0, a], by simp only [PyData.depth]; omega⟩
theorem Ly.list {k : Nat} {ds : List D} (h : ∀ d ∈ ds, Ly k d) : Ly (k + 1) (.list ds) := by
  obtain ⟨a, b⟩ := Ly.all h
  exact ⟨by simp [PyData.canLay0, a], by simp only [PyData.depth]; omega⟩
theorem Ly.mono {k m : Nat} {d : D} (h : Ly k d) (hm : k ≤ m) : Ly m d := ⟨h.1, Nat.le_trans h.2 hm⟩
theorem Ly.shaped {k : Nat} {d : D} (h : Ly k d) (hk : k ≤ 64) : SeqAt.shaped d = true := by
  unfold SeqAt.shaped
  rw [Bool.and_eq_true]
  exact ⟨h.1, decide_eq_true (Nat.le_trans h.2 hk)⟩
theorem eq_refl_of {k : Nat} {d : D} (h : Ly k d) : PyData.eqv d d = true := by
  exact PySem.SeqAt.eqv_refl d h.1
theorem f_eq {k : Nat} {x y : D} (hx : Ly k x) (hy : Ly k y) (hk : k ≤ 64) : eqF x y = some (.bool (PyData.eqv x y)) := if_pos (by rw [hx.shaped hk, hy.shaped hk]; rfl)
theorem f_ne {k : Nat} {x y : D} (hx : Ly k x) (hy : Ly k y) (hk : k ≤ 64) : neF x y = some (.bool (!PyData.eqv x y)) := if_pos (by rw [hx.shaped hk, hy.shaped hk]; rfl)
theorem f_ne_self {k : Nat} {x : D} (hx : Ly k x) (hk : k ≤ 64) : neF x x = some (.bool false) := by rw [f_ne hx hx hk, eq_refl_of hx]; rfl
theorem f_eqI (i j : Int) : eqF (.int i) (.int j) = some (.bool (decide (i = j))) := by
  rw [f_eq (Ly.int 0 i) (Ly.int 0 j) (by decide)]
  simp only [PyData.eqv]
  exact congrArg (fun b => some (PyData.bool b)) (by by_cases h : i = j <;> simp [h])
theorem f_neI (i j : Int) : neF (.int i) (.int j) = some (.bool (!decide (i = j))) := by
  rw [f_ne (Ly.int 0 i) (Ly.int 0 j) (by decide)]
  simp only [PyData.eqv]
  exact congrArg (fun b => some (PyData.bool b)) (by by_cases h : i = j <;> simp [h])
theorem f_eqB (i j : Bool) : eqF (.bool i) (.bool j) = some (.bool (i == j)) := by
  rw [f_eq (Ly.bool 0 i) (Ly.bool 0 j) (by decide)]
  simp only [PyData.eqv]
theorem f_neB (i j : Bool) : neF (.bool i) (.bool j) = some (.bool (!(i == j))) := by
  rw [f_ne (Ly.bool 0 i) (Ly.bool 0 j) (by decide)]
  simp only [PyData.eqv]
/-! over lists of anything -/
theorem eLc_mapA {α : Type} {vs : List Nat} {fi : IF} {i : Nat} {c e : EF} {ρ : En} (xs : List α) (emb f : α → D) (hi : fi ρ = .ok (xs.map emb)) (hl : xs.length ≤ 16777216) (h : ∀ x ∈ xs, c ((wipeE ρ vs).set i (some (.val (emb x)))) = .ok (.bool true) ∧ e ((wipeE ρ vs).set i (some (.val (emb x)))) = .ok (f x)) :
    eLc vs fi (.nm i) c e ρ = .ok (.list (xs.map f)) := by
  have key : ∀ (xs : List α), (∀ x ∈ xs, c ((wipeE ρ vs).set i (some (.val (emb x)))) = .ok (.bool true) ∧ e ((wipeE ρ vs).set i (some (.val (emb x)))) = .ok (f x)) → lcGo (.nm i) c e (wipeE ρ vs) (xs.map emb) = .ok (xs.map f) := by
    intro xs
    induction xs with
    | nil => intro _; rfl
    | cons x xs ih =>
      intro h
      obtain ⟨h1, h2⟩ := h x (by simp)
      have := ih fun y hy => h y (by simp [hy])
      simp only [List.map_cons, lcGo, lcOne, bT_nm, h1, h2, this, RL.cons_ok]
  unfold eLc
  rw [hi, RL.bind_ok, key xs h, RL.bind_ok]
  exact lstR_ok _ (by simpa using hl)
theorem eLc_noneA {α : Type} {vs : List Nat} {fi : IF} {i : Nat} {c e : EF} {ρ : En} (xs : List α) (emb : α → D) (hi : fi ρ = .ok (xs.map emb)) (h : ∀ x ∈ xs, c ((wipeE ρ vs).set i (some (.val (emb x)))) = .ok (.bool false)) :
    eLc vs fi (.nm i) c e ρ = .ok (.list []) := eLc_none _ hi fun d hd => by
  obtain ⟨x, hx, rfl⟩ := List.mem_map.mp hd
  exact h x hx
def rangeI (lo : Int) (n : Nat) : List Int := (List.range n).map fun (i : Nat) => lo + (i : Int)
/-- a for over ints, turn by turn: the slots before turn k satisfy P k -/
theorem forGo_rng {i : Nat} {f : SF} {lo : Int} {n : Nat} (P : Nat → En → Prop) {ρ : En} (h0 : P 0 ρ) (hs : ∀ k ρ, k < n → P k ρ → ∃ ρ2, f (ρ.set i (some (.val (.int (lo + k))))) = .nx ρ2 ∧ P (k + 1) ρ2) : ∃ ρ', forGo (.nm i) f (rangeD lo n) ρ = .nx ρ' ∧ P n ρ' := by
  obtain ⟨ρ', e, h⟩ := forGo_inv (i := i) (f := f) P (rangeD lo n) 0 ρ h0 fun j ρ hj d hd => by
    obtain ⟨h1, rfl⟩ := rangeD_get hd
    rw [Nat.zero_add] at hj ⊢
    exact hs j ρ h1 hj
  rw [Nat.zero_add, rangeD_length] at h
  exact ⟨ρ', e, h⟩
/-! slices, while -/
def optO (r : Rs) (k : Option Int → Rs) : Rs := r.bind fun d => match d with
  | .int i => k (some i)
  | _ => .bad
theorem optI_none (ρ : En) (k : Option Int → Rs) : optI none ρ k = k none := rfl
theorem optI_some (g : EF) (ρ : En) (k : Option Int → Rs) : optI (some g) ρ k = optO (g ρ) k := rfl
theorem optO_int (i : Int) (k : Option Int → Rs) : optO (.ok (.int i)) k = k (some i) := rfl
theorem ap_eSl (f : EF) (lo hi : Option EF) (ρ : En) : eSl f lo hi ρ = (f ρ).bind fun x => optI lo ρ fun l => optI hi ρ fun h => Rs.of (slF x l h) := rfl
theorem cutL_eq {α : Type} (xs : List α) (a b : Int) (h0 : 0 ≤ a) (h1 : a ≤ b) (h2 : b ≤ xs.length) : cutL xs (some a) (some b) = (xs.drop a.toNat).take (b - a).toNat := by
  unfold cutL
  have e1 : HT.sIx xs.length 0 (some a) = a.toNat := by
    show (if a < 0 then (a + (xs.length : Int)).toNat else min a.toNat xs.length) = _
    rw [if_neg (by omega)]
    omega
  have e2 : HT.sIx xs.length xs.length (some b) = b.toNat := by
    show (if b < 0 then (b + (xs.length : Int)).toNat else min b.toNat xs.length) = _
    rw [if_neg (by omega)]
    omega
  rw [e1, e2]
  congr 1
  omega
theorem ap_sWh (n : Nat) (c : EF) (f : SF) (ρ : En) : sWh n c f ρ = whGo c f n ρ := rfl
theorem f_best_l (f : Int → Int → Int) (n : Int) (ns : List Int) : best1F f [.list ((n :: ns).map PyData.int)] = some (.int (ns.foldl f n)) := by
  show (intsOf _).bind (bestI f) = _
  rw [intsOf_map]
  rfl
/-! all that is rewritten by -/
def evs_ := (And.intro (And.intro (And.intro (And.intro (And.intro (And.intro (And.intro @ap_sSeq @seqO_nx) (And.intro @seqO_rt @seqO_exc)) (And.intro (And.intro @ap_sIf @ifO_t) (And.intro @ifO_f (And.intro @ifO_exc @ap_sNx)))) (And.intro (And.intro (And.intro @ap_sSet @ap_sOwn) (And.intro @ap_sRet (And.intro @ap_sDrop @ap_sAsg))) (And.intro (And.intro @outB_some @bT_nm) (And.intro @bT_tp (And.intro @bTs_nil @bTs_cons))))) (And.intro (And.intro (And.intro (And.intro @ap_sRaise @ap_sPar) (And.intro @parO_ok (And.intro @ap_sFor @ap_sRetV))) (And.intro (And.intro @retO_own @retO_val) (And.intro @ap_sFrz (And.intro @frzO_own @frzO_val)))) (And.intro (And.intro (And.intro @ap_sApp @ap_sExt) (And.intro @ap_eV (And.intro @valO_val @ap_eB))) (And.intro (And.intro @borO_val @borO_own) (And.intro @ap_eC (And.intro @ap_eOp @opO_ok)))))) (And.intro (And.intro (And.intro (And.intro (And.intro @ap_eUn @ap_eTup) (And.intro @ap_eLst (And.intro @tupR_ok @lstR_ok))) (And.intro (And.intro @ap_eCB @ap_eCall) (And.intro @callO_ok (And.intro @callO_exc @ap_gNot)))) (And.intro (And.intro (And.intro @notR_b @ap_gTru) (And.intro @truR_b (And.intro @truR_list @ap_gAnd))) (And.intro (And.intro @ap_gOr @andO_t) (And.intro @andO_f (And.intro @orO_t @orO_f))))) (And.intro (And.intro (And.intro (And.intro @ap_eAnd @ap_eOr) (And.intro @eandO_t (And.intro @eandO_f @eorO_t))) (And.intro (And.intro @eorO_f @ap_eNot) (And.intro @enotO_b (And.intro @enotO_list @ap_eIf)))) (And.intro (And.intro (And.intro @eifO_t @eifO_f) (And.intro @ap_eChain (And.intro @chO_ok @ap_eIsi))) (And.intro (And.intro @isiO_int @isiO_tup) (And.intro @isiO_lst (And.intro @isiO_bl @isiO_str))))))) (And.intro (And.intro (And.intro (And.intro (And.intro (And.intro @isiO_non @isInt_int) (And.intro @isInt_bl (And.intro @isInt_tup @isInt_lst))) (And.intro (And.intro @isInt_str @isInt_non) (And.intro @isBool_int (And.intro @isBool_bl @isTup_tup)))) (And.intro (And.intro (And.intro @isTup_lst @isTup_int) (And.intro @isTup_non (And.intro @isTup_str @isTup_bl))) (And.intro (And.intro @isLst_lst @isLst_tup) (And.intro @f_add (And.intro @f_sub @f_neg))))) (And.intro (And.intro (And.intro (And.intro @f_eqI @f_neI) (And.intro @f_eqB (And.intro @f_neB @f_lt))) (And.intro (And.intro @f_le @f_gt) (And.intro @f_ge (And.intro @f_is @f_isNot)))) (And.intro (And.intro (And.intro @isNone_int @isNone_tup) (And.intro @isNone_lst (And.intro @isNone_non @f_len_l))) (And.intro (And.intro @f_len_t @f_len_rd) (And.intro @f_tup_l (And.intro @f_tup_t @f_max2)))))) (And.intro (And.intro (And.intro (And.intro (And.intro @f_min2 @f_abs) (And.intro @f_sum_l (And.intro @f_sum_t @f_ix0))) (And.intro (And.intro @f_ix1 @f_ix2) (And.intro @f_ix3 (And.intro @f_rev_t @outR_nx)))) (And.intro (And.intro (And.intro @outR_rt @outR_exc) (And.intro @nones0 (And.intro @nonesS @runB_eq))) (And.intro (And.intro @ap_eSl @optI_none) (And.intro @optI_some (And.intro @optO_int @ap_sWh))))) (And.intro (And.intro (And.intro (And.intro @ap_iSeq @items_l) (And.intro @items_t (And.intro @ap_iRange1 @ap_iRange2))) (And.intro (And.intro @wipeE_nil @wipeE_cons) (And.intro @evA_nil (And.intro @evA_cons @RL.cons_ok)))) (And.intro (And.intro (And.intro @RL.cons_exc @RL.bind_ok) (And.intro @RL.bind_exc (And.intro @RL.out_ok @RL.out_exc))) (And.intro (And.intro @Rs.bind_ok @Rs.bind_exc) (And.intro @Rs.out_ok (And.intro @Rs.out_exc @Rs.of_some))))))))
end VV

set_option Elab.async false
set_option linter.all false
set_option maxRecDepth 100000
set_option maxHeartbeats 4000000
namespace VVlaw
open PySem PySem.Spec L2 VV
open PyProof.Rows hiding St
def b_is_within : SF := (sRet (eAnd (eIsi isInt (eV 0)) (eAnd (eNot (eIsi isBool (eV 0))) (eChain leF leF (eV 1) (eV 0) (eV 2)))))
def sem_is_within : List D → Rs := runB 3 3 b_is_within
def b_is_row : SF := (sSeq (sIf (gOr (gNot (gTru (eIsi isTup (eV 0)))) (eOp neF (eCB lenF [(eV 0)]) (eV 1))) (sRet (eC (.bool false))) sNx) (sRet (eNot (eLc [2] (iSeq (eV 0)) (.nm 2) (gNot (gTru (eCall sem_is_within [(eV 2), (eC (.int 0)), (eC (.int 255))]))) (eV 2)))))
def sem_is_row : List D → Rs := runB 2 3 b_is_row
def b_is_shot : SF := (sSeq (sIf (gOr (gNot (gTru (eIsi isTup (eV 0)))) (gOr (gNot (eChain leF leF (eC (.int 1)) (eCB lenF [(eV 0)]) (eC (.int 12)))) (gNot (gTru (eIsi isTup (eOp ixF (eV 0) (eC (.int 0)))))))) (sRet (eC (.bool false))) sNx) (sSeq (sIf (gNot (eChain leF leF (eC (.int 1)) (eCB lenF [(eOp ixF (eV 0) (eC (.int 0)))]) (eC (.int 12)))) (sRet (eC (.bool false))) sNx) (sRet (eNot (eLc [1] (iSeq (eV 0)) (.nm 1) (gNot (gTru (eCall sem_is_row [(eV 1), (eCB lenF [(eOp ixF (eV 0) (eC (.int 0)))])]))) (eV 1))))))
def sem_is_shot : List D → Rs := runB 1 2 b_is_shot
def b__law_cell : SF := (sSeq (sIf (eOp ltF (eV 1) (eCB lenF [(eV 0)])) (sRet (eOp ixF (eV 0) (eV 1))) sNx) (sRet (eC (.int 0))))
def sem__law_cell : List D → Rs := runB 2 2 b__law_cell
def lp__law_row_1 : SF := (sIf (eOp ltF (eCall sem__law_cell [(eV 0), (eV 1)]) (eOp powF (eC (.int 10)) (eC (.int 18)))) (sSeq (sSet 2 (eOp modF (eOp addF (eOp addF (eOp addF (eOp mulF (eV 2) (eC (.int 48271))) (eOp mulF (eC (.int 131)) (eV 4))) (eC (.int 7))) (eCall sem__law_cell [(eV 0), (eOp modF (eOp addF (eOp addF (eV 1) (eC (.int 1))) (eV 4)) (eC (.int 20)))])) (eC (.int 2147483647)))) (sApp 3 (eOp modF (eOp divF (eV 2) (eC (.int 11))) (eC (.int 1000))))) (sSeq (sApp 3 (eOp modF (eV 2) (eC (.int 1000)))) (sSet 2 (eOp divF (eV 2) (eC (.int 1000))))))
def b__law_row : SF := (sSeq (sSet 2 (eCall sem__law_cell [(eV 0), (eV 1)])) (sSeq (sOwn 3 (eLst [])) (sSeq (sFor (iRange1 [(eC (.int 60))]) (.nm 4) lp__law_row_1) (sRetV 3))))
def sem__law_row : List D → Rs := runB 2 5 b__law_row
def lp__law_shot_1 : SF := (sSeq (sSet 9 (eOp ixF (eV 0) (eOp modF (eOp addF (eOp addF (eOp addF (eV 1) (eC (.int 2))) (eOp mulF (eC (.int 5)) (eV 6))) (eV 8)) (eC (.int 60))))) (sApp 7 (eOp ixF (eLst [(eOp modF (eOp mulF (eV 9) (eC (.int 7))) (eC (.int 256))), (eOp mulF (eOp modF (eV 9) (eC (.int 3))) (eC (.int 60))), (eOp modF (eOp ixF (eV 0) (eOp modF (eV 1) (eC (.int 60)))) (eC (.int 256)))]) (eOp modF (eV 2) (eC (.int 3))))))
def lp__law_shot_2 : SF := (sSeq (sOwn 7 (eLst [])) (sSeq (sFor (iRange1 [(eV 4)]) (.nm 8) lp__law_shot_1) (sApp 5 (eCB tupF [(eB 7)]))))
def b__law_shot : SF := (sSeq (sPar 3 4 [(eOp addF (eC (.int 1)) (eOp modF (eOp ixF (eV 0) (eOp modF (eV 1) (eC (.int 60)))) (eC (.int 5)))), (eOp addF (eC (.int 1)) (eOp modF (eOp divF (eOp ixF (eV 0) (eOp modF (eOp addF (eV 1) (eC (.int 1))) (eC (.int 60)))) (eC (.int 5))) (eC (.int 5))))]) (sSeq (sOwn 5 (eLst [])) (sSeq (sFor (iRange1 [(eV 3)]) (.nm 6) lp__law_shot_2) (sRet (eCB tupF [(eB 5)])))))
def sem__law_shot : List D → Rs := runB 3 10 b__law_shot
end VVlaw

set_option Elab.async false
set_option linter.all false
set_option maxRecDepth 100000
set_option maxHeartbeats 4000000
/-! PLb: shots; what the small defs come to. -/
namespace VVlaw
open PySem PySem.Spec L2 VV
open PyProof.Rows hiding St
def rowD (r : List Int) : D := .tuple (r.map PyData.int)
def shD (s : List (List Int)) : D := .tuple (s.map rowD)
structure Sh (s : List (List Int)) (h w : Nat) : Prop where
  len : s.length = h
  h1 : 1 ≤ h
  h2 : h ≤ 12
  w1 : 1 ≤ w
  w2 : w ≤ 12
  row : ∀ r ∈ s, r.length = w
  lev : ∀ r ∈ s, ∀ v ∈ r, 0 ≤ v ∧ v ≤ 255
/-- the row y -/
def rw' (s : List (List Int)) (y : Int) : List Int := s.getD y.toNat []
def cell (s : List (List Int)) (y x : Int) : Int := (rw' s y).getD x.toNat 0
theorem Sh.mem {s : List (List Int)} {h w : Nat} (S : Sh s h w) {y : Int} (h0 : 0 ≤ y) (h1 : y < h) : rw' s y ∈ s := by
  unfold rw'
  have : y.toNat < s.length := by rw [S.len]; omega
  rw [List.getD_eq_getElem?_getD, List.getElem?_eq_getElem this]
  exact List.getElem_mem this
theorem Sh.rlen {s : List (List Int)} {h w : Nat} (S : Sh s h w) {y : Int} (h0 : 0 ≤ y) (h1 : y < h) : (rw' s y).length = w := S.row _ (S.mem h0 h1)
theorem isi_row (g : D → Bool) (r : List Int) : isiO g (.ok (rowD r)) = .ok (.bool (g (rowD r))) := rfl
theorem isi_sh (g : D → Bool) (r : List (List Int)) : isiO g (.ok (shD r)) = .ok (.bool (g (shD r))) := rfl
theorem isTup_row (r : List Int) : isTup (rowD r) = true := rfl
theorem isTup_sh (r : List (List Int)) : isTup (shD r) = true := rfl
theorem len_row (r : List Int) : lenF [rowD r] = some (.int r.length) := by simp [rowD, lenF]
theorem len_sh (r : List (List Int)) : lenF [shD r] = some (.int r.length) := by simp [shD, lenF]
theorem ix_sh (s : List (List Int)) (y : Int) (h0 : 0 ≤ y) (h : y < s.length) : ixF (shD s) (.int y) = some (rowD (rw' s y)) := by
  have h' : y.toNat < s.length := by omega
  unfold shD
  rw [f_ix_t _ y h0 (by simpa using h')]
  simp [rw', h']
theorem items_row (r : List Int) : (Rs.ok (rowD r)).items itF = .ok (r.map PyData.int) := rfl
theorem items_sh (s : List (List Int)) : (Rs.ok (shD s)).items itF = .ok (s.map rowD) := rfl
theorem is_within_eq (v a b : Int) : sem_is_within [.int v, .int a, .int b] = .ok (.bool (decide (a ≤ v ∧ v ≤ b))) := by
  simp -implicitDefEqProofs only [sem_is_within, b_is_within, evs_, Option.bind_some, List.getElem?_cons_zero, List.getElem?_cons_succ, List.set_cons_zero, List.set_cons_succ, List.map_cons, List.map_nil, List.cons_append, List.nil_append, List.length_cons, List.length_nil, Nat.reduceAdd, Nat.reduceSub, Nat.reduceLeDiff, Nat.reduceLT, Bool.not_true, Bool.not_false, decide_true, decide_false]
  by_cases h : a ≤ v <;> simp -implicitDefEqProofs only [evs_, Option.bind_some, List.getElem?_cons_zero, List.getElem?_cons_succ, List.set_cons_zero, List.set_cons_succ, List.map_cons, List.map_nil, List.cons_append, List.nil_append, List.length_cons, List.length_nil, Nat.reduceAdd, Nat.reduceSub, Nat.reduceLeDiff, Nat.reduceLT, Bool.not_true, Bool.not_false, decide_true, decide_false, h, true_and, false_and]
theorem is_row_eq (r : List Int) (w : Nat) (hr : r.length = w) (hv : ∀ v ∈ r, 0 ≤ v ∧ v ≤ 255) : sem_is_row [rowD r, .int w] = .ok (.bool true) := by
  simp -implicitDefEqProofs only [sem_is_row, b_is_row, isi_row, isTup_row, len_row, hr, evs_, Option.bind_some, List.getElem?_cons_zero, List.getElem?_cons_succ, List.set_cons_zero, List.set_cons_succ, List.map_cons, List.map_nil, List.cons_append, List.nil_append, List.length_cons, List.length_nil, Nat.reduceAdd, Nat.reduceSub, Nat.reduceLeDiff, Nat.reduceLT, Bool.not_true, Bool.not_false, decide_true, decide_false]
  rw [eLc_noneA r PyData.int (by simp -implicitDefEqProofs only [items_row, evs_, Option.bind_some, List.getElem?_cons_zero, List.getElem?_cons_succ, List.set_cons_zero, List.set_cons_succ, List.map_cons, List.map_nil, List.cons_append, List.nil_append, List.length_cons, List.length_nil, Nat.reduceAdd, Nat.reduceSub, Nat.reduceLeDiff, Nat.reduceLT, Bool.not_true, Bool.not_false, decide_true, decide_false]) fun v hv' => ?_]
  · simp -implicitDefEqProofs only [evs_, Option.bind_some, List.getElem?_cons_zero, List.getElem?_cons_succ, List.set_cons_zero, List.set_cons_succ, List.map_cons, List.map_nil, List.cons_append, List.nil_append, List.length_cons, List.length_nil, Nat.reduceAdd, Nat.reduceSub, Nat.reduceLeDiff, Nat.reduceLT, Bool.not_true, Bool.not_false, decide_true, decide_false, List.isEmpty_nil]
  · have := hv v hv'
    simp -implicitDefEqProofs only [evs_, Option.bind_some, List.getElem?_cons_zero, List.getElem?_cons_succ, List.set_cons_zero, List.set_cons_succ, List.map_cons, List.map_nil, List.cons_append, List.nil_append, List.length_cons, List.length_nil, Nat.reduceAdd, Nat.reduceSub, Nat.reduceLeDiff, Nat.reduceLT, Bool.not_true, Bool.not_false, decide_true, decide_false, is_within_eq, this, and_self]
theorem is_shot_eq {s : List (List Int)} {h w : Nat} (S : Sh s h w) : sem_is_shot [shD s] = .ok (.bool true) := by
  have l := S.len
  have h1 := S.h1
  have h2 := S.h2
  have w1 := S.w1
  have w2 := S.w2
  have e0 : ixF (shD s) (.int 0) = some (rowD (rw' s 0)) := ix_sh s 0 (by decide) (by omega)
  have r0 : (rw' s 0).length = w := S.rlen (by decide) (by omega)
  have c1 : (1 : Int) ≤ (h : Int) := by omega
  have c2 : (h : Int) ≤ 12 := by omega
  have c3 : (1 : Int) ≤ (w : Int) := by omega
  have c4 : (w : Int) ≤ 12 := by omega
  simp -implicitDefEqProofs only [sem_is_shot, b_is_shot, isi_sh, isTup_sh, isi_row, isTup_row, len_sh, len_row, e0, r0, l, c1, c2, c3, c4, evs_, Option.bind_some, List.getElem?_cons_zero, List.getElem?_cons_succ, List.set_cons_zero, List.set_cons_succ, List.map_cons, List.map_nil, List.cons_append, List.nil_append, List.length_cons, List.length_nil, Nat.reduceAdd, Nat.reduceSub, Nat.reduceLeDiff, Nat.reduceLT, Bool.not_true, Bool.not_false, decide_true, decide_false]
  rw [eLc_noneA s rowD (by simp -implicitDefEqProofs only [items_sh, evs_, Option.bind_some, List.getElem?_cons_zero, List.getElem?_cons_succ, List.set_cons_zero, List.set_cons_succ, List.map_cons, List.map_nil, List.cons_append, List.nil_append, List.length_cons, List.length_nil, Nat.reduceAdd, Nat.reduceSub, Nat.reduceLeDiff, Nat.reduceLT, Bool.not_true, Bool.not_false, decide_true, decide_false]) fun r hr => ?_]
  · simp -implicitDefEqProofs only [evs_, Option.bind_some, List.getElem?_cons_zero, List.getElem?_cons_succ, List.set_cons_zero, List.set_cons_succ, List.map_cons, List.map_nil, List.cons_append, List.nil_append, List.length_cons, List.length_nil, Nat.reduceAdd, Nat.reduceSub, Nat.reduceLeDiff, Nat.reduceLT, Bool.not_true, Bool.not_false, decide_true, decide_false, List.isEmpty_nil]
  · simp -implicitDefEqProofs only [e0, len_row, r0, is_row_eq r w (S.row r hr) (S.lev r hr), evs_, Option.bind_some, List.getElem?_cons_zero, List.getElem?_cons_succ, List.set_cons_zero, List.set_cons_succ, List.map_cons, List.map_nil, List.cons_append, List.nil_append, List.length_cons, List.length_nil, Nat.reduceAdd, Nat.reduceSub, Nat.reduceLeDiff, Nat.reduceLT, Bool.not_true, Bool.not_false, decide_true, decide_false]
end VVlaw

set_option Elab.async false
set_option linter.all false
set_option maxRecDepth 100000
set_option maxHeartbeats 4000000
/-! PLc: steps, unlike, mirrored, lit, cut_out; the law's rows and shots. -/
namespace VVlaw
open PySem PySem.Spec L2 VV
open PyProof.Rows hiding St
def stepRow (a b : List (List Int)) (p q l : Int) (m : Nat) (y : Int) : List Int := (rangeI l m).map fun x => cell a y x - cell b (y - q) (x - p)
def stepsG (a b : List (List Int)) (p q l t : Int) (m n : Nat) : List Int := (rangeI t n).flatMap (stepRow a b p q l m)
def steps (a b : List (List Int)) (w h w' h' p q : Int) : List Int := stepsG a b p q (max 0 p) (max 0 q) (min w (p + w') - max 0 p).toNat (min h (q + h') - max 0 q).toNat
end VVlaw

set_option Elab.async false
set_option linter.all false
set_option maxRecDepth 100000
set_option maxHeartbeats 4000000
/-! PLd: gcd, least, unlike; mirrored, lit, cut_out. -/
namespace VVlaw
open PySem PySem.Spec L2 VV
open PyProof.Rows hiding St
end VVlaw

set_option Elab.async false
set_option linter.all false
set_option maxRecDepth 100000
set_option maxHeartbeats 4000000
/-! PLe: the law's rows and shots. -/
namespace VVlaw
open PySem PySem.Spec L2 VV
open PyProof.Rows hiding St
theorem law_cell_eq (ns : List Int) (k : Int) (h0 : 0 ≤ k) : sem__law_cell [rdL ns, .int k] = .ok (.int (ns.getD k.toNat 0)) := by
  by_cases h : k < (ns.length : Int)
  · simp -implicitDefEqProofs only [sem__law_cell, b__law_cell, h, f_ix_rd ns k h0 h, evs_, Option.bind_some, List.getElem?_cons_zero, List.getElem?_cons_succ, List.set_cons_zero, List.set_cons_succ, List.map_cons, List.map_nil, List.cons_append, List.nil_append, List.length_cons, List.length_nil, Nat.reduceAdd, Nat.reduceSub, Nat.reduceLeDiff, Nat.reduceLT, Bool.not_true, Bool.not_false, decide_true, decide_false]
  · have e : ns.getD k.toNat 0 = 0 := by
      rw [List.getD_eq_getElem?_getD, List.getElem?_eq_none (by omega)]
      rfl
    simp -implicitDefEqProofs only [sem__law_cell, b__law_cell, h, e, evs_, Option.bind_some, List.getElem?_cons_zero, List.getElem?_cons_succ, List.set_cons_zero, List.set_cons_succ, List.map_cons, List.map_nil, List.cons_append, List.nil_append, List.length_cons, List.length_nil, Nat.reduceAdd, Nat.reduceSub, Nat.reduceLeDiff, Nat.reduceLT, Bool.not_true, Bool.not_false, decide_true, decide_false]
theorem pow18 : powF (.int 10) (.int 18) = some (.int 1000000000000000000) := by
  simp [powF]
/-- sixty numbers below a thousand -/
structure Rw (r : List Int) : Prop where
  len : r.length = 60
  bd : ∀ v ∈ r, 0 ≤ v ∧ v < 1000
theorem law_row_eq (ns : List Int) (t : Int) (h0 : 0 ≤ t) : ∃ r, sem__law_row [rdL ns, .int t] = .ok (.list (r.map PyData.int)) ∧ Rw r := by
  simp -implicitDefEqProofs only [sem__law_row, b__law_row, law_cell_eq ns t h0, rng1_ok 60 (by decide) (by decide), evs_, Option.bind_some, List.getElem?_cons_zero, List.getElem?_cons_succ, List.set_cons_zero, List.set_cons_succ, List.map_cons, List.map_nil, List.cons_append, List.nil_append, List.length_cons, List.length_nil, Nat.reduceAdd, Nat.reduceSub, Nat.reduceLeDiff, Nat.reduceLT, Bool.not_true, Bool.not_false, decide_true, decide_false]
  obtain ⟨ρ', e, P⟩ := forGo_rng (i := 4) (lo := 0) (n := (60 : Int).toNat) (f := lp__law_row_1)
    (fun k ρ => ∃ (c : Int) (L : List Int) (o : Option Sl), ρ = [some (.val (rdL ns)), some (.val (.int t)), some (.val (.int c)), some (.own (.list (L.map PyData.int))), o] ∧ L.length = k ∧ ∀ v ∈ L, 0 ≤ v ∧ v < 1000)
    (ρ := [some (.val (rdL ns)), some (.val (.int t)), some (.val (.int (ns.getD t.toNat 0))), some (.own (.list [])), none]) ⟨_, [], none, rfl, rfl, by simp⟩ (by
      rintro k ρ hk ⟨c, L, o, rfl, hL, hv⟩
      have hk' : k < 60 := hk
      have hlen : (L.map PyData.int).length < 16777216 := by rw [List.length_map]; omega
      have m1 : mulF (.int c) (.int 48271) = some (.int (c * 48271)) := f_mul _ _ (.inr (by decide))
      have m2 : mulF (.int 131) (.int (0 + (k : Int))) = some (.int (131 * (0 + (k : Int)))) := f_mul _ _ (.inl (by decide))
      have hc : sem__law_cell [rdL ns, .int ((t + 1 + (0 + (k : Int))) % 20)] = .ok (.int (ns.getD ((t + 1 + (0 + (k : Int))) % 20).toNat 0)) := law_cell_eq ns _ (by omega)
      by_cases h : ns.getD t.toNat 0 < 1000000000000000000
      · simp -implicitDefEqProofs only [lp__law_row_1, law_cell_eq ns t h0, pow18, h, m1, m2, f_modP _ 20 (by decide), hc, f_modP _ 2147483647 (by decide), f_divP _ 11 (by decide) (by decide), f_modP _ 1000 (by decide), appO_ok _ _ _ _ hlen, evs_, Option.bind_some, List.getElem?_cons_zero, List.getElem?_cons_succ, List.set_cons_zero, List.set_cons_succ, List.map_cons, List.map_nil, List.cons_append, List.nil_append, List.length_cons, List.length_nil, Nat.reduceAdd, Nat.reduceSub, Nat.reduceLeDiff, Nat.reduceLT, Bool.not_true, Bool.not_false, decide_true, decide_false]
        refine ⟨_, rfl, (c * 48271 + 131 * (0 + (k : Int)) + 7 + ns.getD ((t + 1 + (0 + (k : Int))) % 20).toNat 0) % 2147483647, L ++ [(c * 48271 + 131 * (0 + (k : Int)) + 7 + ns.getD ((t + 1 + (0 + (k : Int))) % 20).toNat 0) % 2147483647 / 11 % 1000], some (.val (.int (0 + (k : Int)))), ?_, by simp [hL], ?_⟩
        · rw [List.map_append]; rfl
        · intro v hv'
          rw [List.mem_append] at hv'
          rcases hv' with hv' | hv'
          · exact hv v hv'
          · simp -implicitDefEqProofs only [List.mem_singleton] at hv'
            subst hv'
            omega
      · simp -implicitDefEqProofs only [lp__law_row_1, law_cell_eq ns t h0, pow18, h, f_divP _ 1000 (by decide) (by decide), f_modP _ 1000 (by decide), appO_ok _ _ _ _ hlen, evs_, Option.bind_some, List.getElem?_cons_zero, List.getElem?_cons_succ, List.set_cons_zero, List.set_cons_succ, List.map_cons, List.map_nil, List.cons_append, List.nil_append, List.length_cons, List.length_nil, Nat.reduceAdd, Nat.reduceSub, Nat.reduceLeDiff, Nat.reduceLT, Bool.not_true, Bool.not_false, decide_true, decide_false]
        refine ⟨_, rfl, c / 1000, L ++ [c % 1000], some (.val (.int (0 + (k : Int)))), ?_, by simp [hL], ?_⟩
        · rw [List.map_append]; rfl
        · intro v hv'
          rw [List.mem_append] at hv'
          rcases hv' with hv' | hv'
          · exact hv v hv'
          · simp -implicitDefEqProofs only [List.mem_singleton] at hv'
            subst hv'
            omega)
  obtain ⟨c, L, o, rfl, hL, hv⟩ := P
  rw [e]
  simp -implicitDefEqProofs only [evs_, Option.bind_some, List.getElem?_cons_zero, List.getElem?_cons_succ, List.set_cons_zero, List.set_cons_succ, List.map_cons, List.map_nil, List.cons_append, List.nil_append, List.length_cons, List.length_nil, Nat.reduceAdd, Nat.reduceSub, Nat.reduceLeDiff, Nat.reduceLT, Bool.not_true, Bool.not_false, decide_true, decide_false]
  exact ⟨L, rfl, hL, hv⟩
theorem Rw.at {r : List Int} (R : Rw r) (k : Int) (h0 : 0 ≤ k) (h : k < 60) : ixF (.list (r.map PyData.int)) (.int k) = some (.int (r.getD k.toNat 0)) := f_ix_row r k h0 (by rw [R.len]; exact h)
theorem Rw.bdAt {r : List Int} (R : Rw r) (k : Nat) : 0 ≤ r.getD k 0 ∧ r.getD k 0 < 1000 := by
  rw [List.getD_eq_getElem?_getD]
  by_cases h : k < r.length
  · rw [List.getElem?_eq_getElem h]
    exact R.bd _ (List.getElem_mem h)
  · rw [List.getElem?_eq_none (by omega)]
    exact ⟨by decide, by decide⟩
theorem pick3 (a b c : Int) (k : Int) : ∃ v, ixF (.list [.int a, .int b, .int c]) (.int (k % 3)) = some (.int v) ∧ (v = a ∨ v = b ∨ v = c) := by
  have h : k % 3 = 0 ∨ k % 3 = 1 ∨ k % 3 = 2 := by omega
  rcases h with h | h | h <;> rw [h]
  · exact ⟨a, f_ix_l [.int a, .int b, .int c] 0 (by decide) (by simp), .inl rfl⟩
  · exact ⟨b, f_ix_l [.int a, .int b, .int c] 1 (by decide) (by simp), .inr (.inl rfl)⟩
  · exact ⟨c, f_ix_l [.int a, .int b, .int c] 2 (by decide) (by simp), .inr (.inr rfl)⟩
theorem law_shot_eq {r : List Int} (R : Rw r) (t way : Int) (h0 : 0 ≤ t) : ∃ s h w, sem__law_shot [.list (r.map PyData.int), .int t, .int way] = .ok (shD s) ∧ Sh s h w ∧ h ≤ 5 ∧ w ≤ 5 := by
  have i1 : ixF (.list (r.map PyData.int)) (.int (t % 60)) = some (.int (r.getD (t % 60).toNat 0)) := R.at _ (by omega) (by omega)
  have i2 : ixF (.list (r.map PyData.int)) (.int ((t + 1) % 60)) = some (.int (r.getD ((t + 1) % 60).toNat 0)) := R.at _ (by omega) (by omega)
  have hb1 := R.bdAt (t % 60).toNat
  have hb2 := R.bdAt ((t + 1) % 60).toNat
  generalize hu : r.getD (t % 60).toNat 0 = u at *
  generalize hv : r.getD ((t + 1) % 60).toNat 0 = v at *
  simp -implicitDefEqProofs only [sem__law_shot, b__law_shot, f_modP _ 60 (by decide), i1, i2, f_modP _ 5 (by decide), f_divP _ 5 (by decide) (by decide), rng1_ok (1 + u % 5) (by omega) (by omega), evs_, Option.bind_some, List.getElem?_cons_zero, List.getElem?_cons_succ, List.set_cons_zero, List.set_cons_succ, List.map_cons, List.map_nil, List.cons_append, List.nil_append, List.length_cons, List.length_nil, Nat.reduceAdd, Nat.reduceSub, Nat.reduceLeDiff, Nat.reduceLT, Bool.not_true, Bool.not_false, decide_true, decide_false]
  obtain ⟨ρ', e, P⟩ := forGo_rng (i := 6) (lo := 0) (n := (1 + u % 5).toNat) (f := lp__law_shot_2)
    (fun k ρ => ∃ (S : List (List Int)) (o6 o7 o8 o9 : Option Sl), ρ = [some (.val (.list (r.map PyData.int))), some (.val (.int t)), some (.val (.int way)), some (.val (.int (1 + u % 5))), some (.val (.int (1 + v / 5 % 5))), some (.own (.list (S.map rowD))), o6, o7, o8, o9] ∧ S.length = k ∧ ∀ q ∈ S, (q.length : Int) = 1 + v / 5 % 5 ∧ ∀ z ∈ q, 0 ≤ z ∧ z ≤ 255)
    (ρ := [some (.val (.list (r.map PyData.int))), some (.val (.int t)), some (.val (.int way)), some (.val (.int (1 + u % 5))), some (.val (.int (1 + v / 5 % 5))), some (.own (.list [])), none, none, none, none]) ⟨[], none, none, none, none, rfl, rfl, by simp⟩ (by
      rintro k ρ hk ⟨S, o6, o7, o8, o9, rfl, hS, hq⟩
      simp -implicitDefEqProofs only [lp__law_shot_2, rng1_ok (1 + v / 5 % 5) (by omega) (by omega), evs_, Option.bind_some, List.getElem?_cons_zero, List.getElem?_cons_succ, List.set_cons_zero, List.set_cons_succ, List.map_cons, List.map_nil, List.cons_append, List.nil_append, List.length_cons, List.length_nil, Nat.reduceAdd, Nat.reduceSub, Nat.reduceLeDiff, Nat.reduceLT, Bool.not_true, Bool.not_false, decide_true, decide_false]
      obtain ⟨ρ2, e2, P2⟩ := forGo_rng (i := 8) (lo := 0) (n := (1 + v / 5 % 5).toNat) (f := lp__law_shot_1)
        (fun j ρ => ∃ (L : List Int) (o8 o9 : Option Sl), ρ = [some (.val (.list (r.map PyData.int))), some (.val (.int t)), some (.val (.int way)), some (.val (.int (1 + u % 5))), some (.val (.int (1 + v / 5 % 5))), some (.own (.list (S.map rowD))), some (.val (.int (0 + (k : Int)))), some (.own (.list (L.map PyData.int))), o8, o9] ∧ L.length = j ∧ ∀ z ∈ L, 0 ≤ z ∧ z ≤ 255)
        (ρ := [some (.val (.list (r.map PyData.int))), some (.val (.int t)), some (.val (.int way)), some (.val (.int (1 + u % 5))), some (.val (.int (1 + v / 5 % 5))), some (.own (.list (S.map rowD))), some (.val (.int (0 + (k : Int)))), some (.own (.list [])), o8, o9]) ⟨[], o8, o9, rfl, rfl, by simp⟩ (by
          rintro j ρ hj ⟨L, p8, p9, rfl, hL, hz⟩
          have hlen : (L.map PyData.int).length < 16777216 := by rw [List.length_map]; omega
          have m5 : mulF (.int 5) (.int (0 + (k : Int))) = some (.int (5 * (0 + (k : Int)))) := f_mul _ _ (.inl (by decide))
          have i3 : ixF (.list (r.map PyData.int)) (.int ((t + 2 + 5 * (0 + (k : Int)) + (0 + (j : Int))) % 60)) = some (.int (r.getD ((t + 2 + 5 * (0 + (k : Int)) + (0 + (j : Int))) % 60).toNat 0)) := R.at _ (by omega) (by omega)
          have hb3 := R.bdAt ((t + 2 + 5 * (0 + (k : Int)) + (0 + (j : Int))) % 60).toNat
          generalize r.getD ((t + 2 + 5 * (0 + (k : Int)) + (0 + (j : Int))) % 60).toNat 0 = one at i3 hb3
          have m7 : mulF (.int one) (.int 7) = some (.int (one * 7)) := f_mul _ _ (.inr (by decide))
          have m60 : mulF (.int (one % 3)) (.int 60) = some (.int (one % 3 * 60)) := f_mul _ _ (.inr (by decide))
          obtain ⟨val, ev, hval⟩ := pick3 (one * 7 % 256) (one % 3 * 60) (u % 256) way
          simp -implicitDefEqProofs only [lp__law_shot_1, m5, f_modP _ 60 (by decide), i3, m7, f_modP _ 256 (by decide), f_modP _ 3 (by decide), m60, i1, ev, appO_ok _ _ _ _ hlen, evs_, Option.bind_some, List.getElem?_cons_zero, List.getElem?_cons_succ, List.set_cons_zero, List.set_cons_succ, List.map_cons, List.map_nil, List.cons_append, List.nil_append, List.length_cons, List.length_nil, Nat.reduceAdd, Nat.reduceSub, Nat.reduceLeDiff, Nat.reduceLT, Bool.not_true, Bool.not_false, decide_true, decide_false]
          refine ⟨_, rfl, L ++ [val], some (.val (.int (0 + (j : Int)))), some (.val (.int one)), ?_, by simp [hL], ?_⟩
          · rw [List.map_append]; rfl
          · intro z hz'
            rw [List.mem_append] at hz'
            rcases hz' with hz' | hz'
            · exact hz z hz'
            · simp -implicitDefEqProofs only [List.mem_singleton] at hz'
              subst hz'
              rcases hval with rfl | rfl | rfl <;> omega)
      obtain ⟨L, p8, p9, rfl, hL, hz⟩ := P2
      have hlen : (S.map rowD).length < 16777216 := by rw [List.length_map]; omega
      rw [e2]
      simp -implicitDefEqProofs only [appO_ok _ _ _ _ hlen, evs_, Option.bind_some, List.getElem?_cons_zero, List.getElem?_cons_succ, List.set_cons_zero, List.set_cons_succ, List.map_cons, List.map_nil, List.cons_append, List.nil_append, List.length_cons, List.length_nil, Nat.reduceAdd, Nat.reduceSub, Nat.reduceLeDiff, Nat.reduceLT, Bool.not_true, Bool.not_false, decide_true, decide_false]
      refine ⟨_, rfl, S ++ [L], some (.val (.int (0 + (k : Int)))), some (.own (.list (L.map PyData.int))), p8, p9, ?_, by simp [hS], ?_⟩
      · rw [List.map_append]; rfl
      · intro q hq'
        rw [List.mem_append] at hq'
        rcases hq' with hq' | hq'
        · exact hq q hq'
        · simp -implicitDefEqProofs only [List.mem_singleton] at hq'
          subst hq'
          exact ⟨by omega, hz⟩)
  obtain ⟨S, o6, o7, o8, o9, rfl, hS, hq⟩ := P
  rw [e]
  simp -implicitDefEqProofs only [evs_, Option.bind_some, List.getElem?_cons_zero, List.getElem?_cons_succ, List.set_cons_zero, List.set_cons_succ, List.map_cons, List.map_nil, List.cons_append, List.nil_append, List.length_cons, List.length_nil, Nat.reduceAdd, Nat.reduceSub, Nat.reduceLeDiff, Nat.reduceLT, Bool.not_true, Bool.not_false, decide_true, decide_false]
  exact ⟨S, (1 + u % 5).toNat, (1 + v / 5 % 5).toNat, rfl, ⟨hS, by omega, by omega, by omega, by omega, fun q h => by have := (hq q h).1; omega, fun q h => (hq q h).2⟩, by omega, by omega⟩
end VVlaw

set_option Elab.async false
set_option linter.all false
set_option maxRecDepth 100000
set_option maxHeartbeats 4000000
/-! PLm: loops and comprehensions over typed lists, any target. -/
namespace VVlaw
open PySem PySem.Spec L2 VV
open PyProof.Rows hiding St
/-! comprehensions -/
theorem lcGo_filtT {α : Type} {t : Tg} {c e : EF} {ρ : En} (emb f : α → D) (p : α → Bool) : ∀ (xs : List α), (∀ x ∈ xs, ∃ ρ1, bindT t (emb x) ρ = some ρ1 ∧ c ρ1 = .ok (.bool (p x)) ∧ (p x = true → e ρ1 = .ok (f x))) → lcGo t c e ρ (xs.map emb) = .ok ((xs.filter p).map f)
  | [], _ => rfl
  | x :: xs, h => by
    obtain ⟨ρ1, h1, h2, h3⟩ := h x (by simp)
    have ih := lcGo_filtT (t := t) (c := c) (e := e) emb f p xs fun y hy => h y (by simp [hy])
    cases hp : p x with
    | true =>
      rw [hp] at h2
      simp -implicitDefEqProofs only [List.map_cons, lcGo, lcOne, h1, h2, h3 hp, ih, RL.cons_ok, List.filter_cons, hp, if_true]
    | false =>
      rw [hp] at h2
      simp -implicitDefEqProofs only [List.map_cons, lcGo, lcOne, h1, h2, ih, List.filter_cons, hp]
      rfl
theorem eLc_filtT {α : Type} {vs : List Nat} {fi : IF} {t : Tg} {c e : EF} {ρ : En} (xs : List α) (emb f : α → D) (p : α → Bool) (hi : fi ρ = .ok (xs.map emb)) (hl : xs.length ≤ 16777216) (h : ∀ x ∈ xs, ∃ ρ1, bindT t (emb x) (wipeE ρ vs) = some ρ1 ∧ c ρ1 = .ok (.bool (p x)) ∧ (p x = true → e ρ1 = .ok (f x))) :
    eLc vs fi t c e ρ = .ok (.list ((xs.filter p).map f)) := by
  unfold eLc
  rw [hi, RL.bind_ok, lcGo_filtT emb f p xs h, RL.bind_ok]
  exact lstR_ok _ (by rw [List.length_map]; exact Nat.le_trans (List.length_filter_le _ _) hl)
theorem eLc_mapT {α : Type} {vs : List Nat} {fi : IF} {t : Tg} {c e : EF} {ρ : En} (xs : List α) (emb f : α → D) (hi : fi ρ = .ok (xs.map emb)) (hl : xs.length ≤ 16777216) (h : ∀ x ∈ xs, ∃ ρ1, bindT t (emb x) (wipeE ρ vs) = some ρ1 ∧ c ρ1 = .ok (.bool true) ∧ e ρ1 = .ok (f x)) :
    eLc vs fi t c e ρ = .ok (.list (xs.map f)) := by
  rw [eLc_filtT xs emb f (fun _ => true) hi hl fun x hx => by
    obtain ⟨ρ1, h1, h2, h3⟩ := h x hx
    exact ⟨ρ1, h1, h2, fun _ => h3⟩]
  rw [List.filter_eq_self.mpr fun _ _ => rfl]
/-! for -/
theorem forGo_nxT {t : Tg} {f : SF} {d : D} {ds : List D} {ρ ρ1 ρ2 : En} (hb : bindT t d ρ = some ρ1) (h : f ρ1 = .nx ρ2) : forGo t f (d :: ds) ρ = forGo t f ds ρ2 := by
  simp -implicitDefEqProofs only [forGo, forOne, hb, h]
theorem forGo_rtT {t : Tg} {f : SF} {d e : D} {ds : List D} {ρ ρ1 : En} (hb : bindT t d ρ = some ρ1) (h : f ρ1 = .rt e) : forGo t f (d :: ds) ρ = .rt e := by
  simp -implicitDefEqProofs only [forGo, forOne, hb, h]
/-- a loop as a fold over its typed state -/
theorem forGo_fold {α S : Type} {t : Tg} {f : SF} (emb : α → D) (enc : S → En) (step : S → α → S) (I : S → List α → Prop) (hs : ∀ s x r, I s (x :: r) → ∃ ρ1, bindT t (emb x) (enc s) = some ρ1 ∧ f ρ1 = .nx (enc (step s x)) ∧ I (step s x) r) :
    ∀ (xs : List α) (s : S), I s xs → forGo t f (xs.map emb) (enc s) = .nx (enc (xs.foldl step s)) ∧ I (xs.foldl step s) []
  | [], s, h => ⟨rfl, h⟩
  | x :: xs, s, h => by
    obtain ⟨ρ1, h1, h2, h3⟩ := hs s x xs h
    rw [List.map_cons, forGo_nxT h1 h2]
    exact forGo_fold emb enc step I hs xs (step s x) h3
theorem ap_iZip (fs : List EF) (ρ : En) : iZip fs ρ = (evA fs ρ).items zip2F := rfl
theorem ap_iEnum (fs : List EF) (ρ : En) : iEnum' fs ρ = (evA fs ρ).items enumF := rfl
theorem items_zipL (xs ys : List D) : (RL.ok [.list xs, .list ys]).items zip2F = .ok (zipD xs ys) := rfl
theorem items_zipT (xs ys : List D) : (RL.ok [.tuple xs, .tuple ys]).items zip2F = .ok (zipD xs ys) := rfl
theorem zipD_map {α : Type} (f g : α → D) (xs : List α) : zipD (xs.map f) (xs.map g) = xs.map fun x => .tuple [f x, g x] := by
  unfold zipD
  induction xs with
  | nil => rfl
  | cons x xs ih => simpa [VV.pairD] using ih
theorem zipD_maps {α β : Type} (f : α → D) (g : β → D) : ∀ (xs : List α) (ys : List β), zipD (xs.map f) (ys.map g) = (xs.zip ys).map fun p => .tuple [f p.1, g p.2]
  | [], ys => by simp [zipD]
  | x :: xs, [] => by simp [zipD]
  | x :: xs, y :: ys => by
    have ih := zipD_maps f g xs ys
    unfold zipD at *
    simpa [VV.pairD] using ih
/-! slices -/
theorem sl_t {α : Type} (f : α → D) (xs : List α) (a b : Int) (h0 : 0 ≤ a) (h1 : a ≤ b) (h2 : b ≤ xs.length) : slF (.tuple (xs.map f)) (some a) (some b) = some (.tuple (((xs.drop a.toNat).take (b - a).toNat).map f)) := by
  show some (PyData.tuple (cutL (xs.map f) (some a) (some b))) = _
  rw [cutL_eq _ _ _ h0 h1 (by rw [List.length_map]; omega), List.map_take, List.map_drop]
theorem ix_map_l {α : Type} (f : α → D) (xs : List α) (i : Int) (h0 : 0 ≤ i) (h : i.toNat < xs.length) : ixF (.list (xs.map f)) (.int i) = some (f xs[i.toNat]) := by
  rw [f_ix_l _ i h0 (by simpa using h)]
  simp
theorem ix_map_t {α : Type} (f : α → D) (xs : List α) (i : Int) (h0 : 0 ≤ i) (h : i.toNat < xs.length) : ixF (.tuple (xs.map f)) (.int i) = some (f xs[i.toNat]) := by
  rw [f_ix_t _ i h0 (by simpa using h)]
  simp
end VVlaw

set_option Elab.async false
set_option linter.all false
set_option maxRecDepth 100000
set_option maxHeartbeats 4000000
/-! TXa: texts as lists of signs: lines and words, numbers, the reader as a plain function, and that it is the inverse of showing. -/
namespace VVlaw
open PySem PySem.Spec L2 VV
open PyProof.Rows hiding St
open TL
/-- l cut at each c -/
def cutc (c : Nat) : List Nat → List (List Nat)
  | [] => [[]]
  | x :: l => if x = c then [] :: cutc c l else match cutc c l with
    | [] => [[x]]
    | w :: ws => (x :: w) :: ws
theorem cutc_ne (c : Nat) : ∀ l, cutc c l ≠ []
  | [] => by simp [cutc]
  | x :: l => by
    unfold cutc
    split
    · simp
    · split <;> simp
theorem cutc_hit (c : Nat) (l : List Nat) : cutc c (c :: l) = [] :: cutc c l := if_pos rfl
theorem cutc_miss {c x : Nat} {l w : List Nat} {ws : List (List Nat)} (h : x ≠ c) (e : cutc c l = w :: ws) : cutc c (x :: l) = (x :: w) :: ws := by
  show (if x = c then _ else _) = _
  rw [if_neg h, e]
theorem spl_cutc (c : Nat) : ∀ l acc w ws, cutc c l = w :: ws → spl [c] 0 acc l = (acc ++ w) :: ws
  | [], acc, w, ws, e => by
    cases e
    rw [spl_nil, List.append_nil]
  | x :: l, acc, w, ws, e => by
    by_cases h : x = c
    · subst h
      rw [cutc_hit] at e
      cases e
      rw [spl_hit (by simp [pre])]
      obtain ⟨w, ws, e⟩ := List.exists_cons_of_ne_nil (cutc_ne x l)
      have ih := spl_cutc x l [] w ws e
      rw [show [x].length - 1 = 0 from rfl, ih, e, List.append_nil, List.nil_append]
    · obtain ⟨w', ws', e'⟩ := List.exists_cons_of_ne_nil (cutc_ne c l)
      rw [cutc_miss h e'] at e
      cases e
      rw [spl_miss (by simp [pre, h]), spl_cutc c l (acc ++ [x]) w' ws e', List.append_assoc]
      rfl
theorem spl_cut (c : Nat) (l : List Nat) : spl [c] 0 [] l = cutc c l := by
  obtain ⟨w, ws, e⟩ := List.exists_cons_of_ne_nil (cutc_ne c l)
  rw [spl_cutc c l [] w ws e, e]
  rfl
theorem joinL_cons (S p : List Nat) {r : List (List Nat)} (h : r ≠ []) : joinL S (p :: r) = p ++ (S ++ joinL S r) := by
  cases r with
  | nil => exact absurd rfl h
  | cons q r => rfl
theorem join_cut (c : Nat) : ∀ l, joinL [c] (cutc c l) = l
  | [] => rfl
  | x :: l => by
    have ih := join_cut c l
    by_cases h : x = c
    · subst h
      rw [cutc_hit, joinL_cons _ _ (cutc_ne x l), ih]
      rfl
    · obtain ⟨w, ws, e⟩ := List.exists_cons_of_ne_nil (cutc_ne c l)
      rw [cutc_miss h e]
      rw [e] at ih
      cases ws with
      | nil => rw [← ih]; rfl
      | cons v ws => rw [← ih]; rfl
theorem cut_join {c : Nat} {ps : List (List Nat)} (h : ps ≠ []) (hp : ∀ p ∈ ps, c ∉ p) : cutc c (joinL [c] ps) = ps := by
  rw [← spl_cut, spl_join h hp]
theorem cut_free (c : Nat) : ∀ l, ∀ w ∈ cutc c l, c ∉ w
  | [], w, hw => by
    rw [List.mem_singleton.mp hw]
    simp
  | x :: l, w, hw => by
    by_cases h : x = c
    · subst h
      rw [cutc_hit] at hw
      rcases List.mem_cons.mp hw with rfl | hw
      · simp
      · exact cut_free x l w hw
    · obtain ⟨v, vs, e⟩ := List.exists_cons_of_ne_nil (cutc_ne c l)
      have ih := cut_free c l
      rw [e] at ih
      rw [cutc_miss h e] at hw
      rcases List.mem_cons.mp hw with rfl | hw
      · intro z
        rcases List.mem_cons.mp z with z | z
        · exact h z.symm
        · exact ih v List.mem_cons_self z
      · exact ih w (List.mem_cons_of_mem _ hw)
theorem cut_sub (c : Nat) : ∀ l, ∀ w ∈ cutc c l, ∀ x ∈ w, x ∈ l
  | [], w, hw, x, hx => by
    rw [List.mem_singleton.mp hw] at hx
    exact hx
  | y :: l, w, hw, x, hx => by
    by_cases h : y = c
    · subst h
      rw [cutc_hit] at hw
      rcases List.mem_cons.mp hw with rfl | hw
      · cases hx
      · exact List.mem_cons_of_mem _ (cut_sub y l w hw x hx)
    · obtain ⟨v, vs, e⟩ := List.exists_cons_of_ne_nil (cutc_ne c l)
      have ih := cut_sub c l
      rw [e] at ih
      rw [cutc_miss h e] at hw
      rcases List.mem_cons.mp hw with rfl | hw
      · rcases List.mem_cons.mp hx with rfl | hx
        · exact List.mem_cons_self
        · exact List.mem_cons_of_mem _ (ih v List.mem_cons_self x hx)
      · exact List.mem_cons_of_mem _ (ih w (List.mem_cons_of_mem _ hw) x hx)
theorem len_join (c : Nat) : ∀ ps : List (List Nat), ps ≠ [] → (ps.map List.length).sum + ps.length = (joinL [c] ps).length + 1
  | [], h => absurd rfl h
  | [p], _ => by simp [joinL]
  | p :: q :: r, _ => by
    have ih := len_join c (q :: r) (by simp)
    rw [joinL_cons _ _ (by simp), List.length_append, List.length_append]
    simp -implicitDefEqProofs only [List.map_cons, List.sum_cons, List.length_cons, List.length_nil] at ih ⊢
    omega
/-! ### numbers -/
def valL (w : List Nat) : Nat := NumText.digitsVal w
def allDig (w : List Nat) : Bool := w.all fun c => decide (48 ≤ c ∧ c ≤ 57)
def numW (w : List Nat) : Option Nat := if (decide (1 ≤ w.length ∧ w.length ≤ 5) && allDig w) = true then (if numL (valL w) = w then some (valL w) else none) else none
theorem numW_some {w : List Nat} {n : Nat} (h : numW w = some n) : w = numL n ∧ w.length ≤ 5 := by
  unfold numW at h
  split at h
  · rename_i c
    simp -implicitDefEqProofs only [Bool.and_eq_true, decide_eq_true_eq] at c
    split at h
    · cases h
      exact ⟨(by assumption : numL _ = w).symm, c.1.2⟩
    · cases h
  · cases h
theorem allDig_num (n : Nat) : allDig (numL n) = true := List.all_eq_true.mpr fun c hc => decide_eq_true (numL_digits n c hc)
theorem numW_num {n : Nat} (h : (numL n).length ≤ 5) : numW (numL n) = some n := by
  unfold numW valL
  rw [numL_val, if_pos rfl, if_pos]
  simp -implicitDefEqProofs only [Bool.and_eq_true, decide_eq_true_eq]
  exact ⟨⟨List.length_pos_iff.mpr (numL_ne n), h⟩, allDig_num n⟩
def numsW (ws : List (List Nat)) : Option (List Nat) := ws.mapM numW
theorem numsW_cons (w : List Nat) (ws : List (List Nat)) : numsW (w :: ws) = (numW w).bind fun n => (numsW ws).map fun q => n :: q := by
  unfold numsW
  rw [List.mapM_cons]
  cases numW w with
  | none => rfl
  | some n =>
    cases List.mapM numW ws with
    | none => rfl
    | some q => rfl
theorem numsW_some : ∀ {ws : List (List Nat)} {q : List Nat}, numsW ws = some q → ws = q.map numL ∧ ∀ n ∈ q, (numL n).length ≤ 5
  | [], q, h => by
    cases h
    exact ⟨rfl, by simp⟩
  | w :: ws, q, h => by
    rw [numsW_cons] at h
    obtain ⟨n, h1, h2⟩ := Option.bind_eq_some_iff.mp h
    obtain ⟨q, h3, rfl⟩ := Option.map_eq_some_iff.mp h2
    obtain ⟨i1, i2⟩ := numsW_some h3
    obtain ⟨j1, j2⟩ := numW_some h1
    refine ⟨by rw [j1, i1]; rfl, fun m hm => ?_⟩
    rcases List.mem_cons.mp hm with rfl | hm
    · rw [← j1]; exact j2
    · exact i2 m hm
theorem numsW_nums : ∀ {q : List Nat}, (∀ n ∈ q, (numL n).length ≤ 5) → numsW (q.map numL) = some q
  | [], _ => rfl
  | n :: q, h => by
    rw [List.map_cons, numsW_cons, numW_num (h n List.mem_cons_self), numsW_nums fun m hm => h m (List.mem_cons_of_mem _ hm)]
    rfl
/-! ### lines -/
inductive Ln where
  | shot (p : List Nat)
  | row (r : List Nat)
  | mark (nm : List Nat) (q : List Nat)
def wShot : List Nat := [115, 104, 111, 116]
def wRow : List Nat := [114, 111, 119]
def wMark : List Nat := [109, 97, 114, 107]
def Ln.word : Ln → List Nat
  | .shot _ => wShot
  | .row _ => wRow
  | .mark _ _ => wMark
def Ln.words : Ln → List (List Nat)
  | .shot p => wShot :: p.map numL
  | .row r => wRow :: r.map numL
  | .mark nm q => wMark :: nm :: q.map numL
def Ln.Ok : Ln → Prop
  | .shot p => p.length = 2 ∧ ∀ n ∈ p, (numL n).length ≤ 5
  | .row r => r ≠ [] ∧ ∀ n ∈ r, (numL n).length ≤ 5
  | .mark nm q => nm ≠ [] ∧ q.length = 4 ∧ ∀ n ∈ q, (numL n).length ≤ 5
def restW (f : List Nat) (ws : List (List Nat)) : Option Ln :=
  if (f ≠ wShot ∧ f ≠ wRow) ∨ ws = [] ∨ (f = wShot ∧ ws.length ≠ 2) then none else (numsW ws).map fun q => if f = wShot then .shot q else .row q
def lineW : List (List Nat) → Option Ln
  | [] => none
  | f :: ws => if f = wMark ∧ ws.length = 5 ∧ ws.headD [] ≠ [] then (numsW ws.tail).map fun q => .mark (ws.headD []) q else restW f ws
theorem lineW_cons (f : List Nat) (ws : List (List Nat)) : lineW (f :: ws) = if f = wMark ∧ ws.length = 5 ∧ ws.headD [] ≠ [] then (numsW ws.tail).map fun q => .mark (ws.headD []) q else restW f ws := rfl
theorem lineW_some {ws : List (List Nat)} {ln : Ln} (h : lineW ws = some ln) : ws = ln.words ∧ ln.Ok := by
  cases ws with
  | nil => cases h
  | cons f ws =>
    rw [lineW_cons] at h
    split at h
    · rename_i c
      obtain ⟨rfl, c2, c3⟩ := c
      obtain ⟨q, hq, rfl⟩ := Option.map_eq_some_iff.mp h
      cases ws with
      | nil => cases c2
      | cons nm ws =>
        obtain ⟨e1, e2⟩ := numsW_some hq
        simp -implicitDefEqProofs only [List.tail_cons] at e1
        refine ⟨by rw [e1]; rfl, c3, ?_, e2⟩
        have := congrArg List.length e1
        rw [List.length_map] at this
        simp -implicitDefEqProofs only [List.length_cons] at c2
        omega
    · unfold restW at h
      split at h
      · cases h
      · rename_i c
        obtain ⟨q, hq, rfl⟩ := Option.map_eq_some_iff.mp h
        obtain ⟨e1, e2⟩ := numsW_some hq
        have el := congrArg List.length e1
        rw [List.length_map] at el
        by_cases hs : f = wShot
        · subst hs
          rw [if_pos rfl]
          refine ⟨by rw [e1]; rfl, ?_, e2⟩
          rw [← el]
          apply Classical.byContradiction
          intro z
          exact c (.inr (.inr ⟨rfl, z⟩))
        · rw [if_neg hs]
          have hr : f = wRow := by
            apply Classical.byContradiction
            intro z
            exact c (.inl ⟨hs, z⟩)
          subst hr
          refine ⟨by rw [e1]; rfl, ?_, e2⟩
          intro z
          subst z
          exact c (.inr (.inl (by rw [e1]; rfl)))
theorem lineW_words {ln : Ln} (h : ln.Ok) : lineW ln.words = some ln := by
  cases ln with
  | shot p =>
    obtain ⟨h1, h2⟩ := h
    show lineW (wShot :: p.map numL) = _
    rw [lineW_cons, if_neg (by intro z; exact absurd z.1 (by decide))]
    unfold restW
    have hp : p ≠ [] := by
      intro z
      subst z
      cases h1
    rw [if_neg, numsW_nums h2]
    · rfl
    · intro z
      rcases z with z | z | z
      · exact z.1 rfl
      · exact hp (List.map_eq_nil_iff.mp z)
      · exact z.2 (by rw [List.length_map]; exact h1)
  | row r =>
    obtain ⟨h1, h2⟩ := h
    show lineW (wRow :: r.map numL) = _
    rw [lineW_cons, if_neg (by intro z; exact absurd z.1 (by decide))]
    unfold restW
    rw [if_neg, numsW_nums h2]
    · show some (if wRow = wShot then _ else _) = _
      rw [if_neg (by decide)]
    · intro z
      rcases z with z | z | z
      · exact z.2 rfl
      · exact h1 (List.map_eq_nil_iff.mp z)
      · exact absurd z.1 (by decide)
  | mark nm q =>
    obtain ⟨h1, h2, h3⟩ := h
    show lineW (wMark :: nm :: q.map numL) = _
    rw [lineW_cons, if_pos, List.tail_cons, numsW_nums h3]
    · rfl
    · exact ⟨rfl, by simp [h2], h1⟩
/-! ### the reader -/
structure Rd where
  S : List (List (List Nat))
  P : List (List Nat)
  M : List (List Nat × List Nat)
  last : List Nat
def mayF (last w : List Nat) : Bool :=
  if w = wShot then decide (last = [] ∨ last = wRow) else if w = wRow then decide (last = wShot ∨ last = wRow) else decide (last = wRow ∨ last = wMark)
def lastApp (S : List (List (List Nat))) (r : List Nat) : List (List (List Nat)) := S.set (S.length - 1) (S.getD (S.length - 1) [] ++ [r])
def stepR : Ln → Rd → Rd
  | .shot p, s => ⟨s.S ++ [[]], s.P ++ [p], s.M, wShot⟩
  | .row r, s => ⟨lastApp s.S r, s.P, s.M, wRow⟩
  | .mark nm q, s => ⟨s.S, s.P, s.M ++ [(nm, q)], wMark⟩
def goR : List (List (List Nat)) → Nat → Rd → Except Nat Rd
  | [], _, s => .ok s
  | l :: ls, k, s => match lineW l with
    | some ln => if mayF s.last ln.word = true then goR ls (k + 1) (stepR ln s) else .error k
    | none => .error k
def rd0 : Rd := ⟨[], [], [], []⟩
/-- the lines of shots, places, marks -/
def linesS : List (List (List Nat)) → List (List Nat) → List Ln
  | s :: S, p :: P => .shot p :: (s.map Ln.row ++ linesS S P)
  | _, _ => []
def linesR (s : Rd) : List Ln := linesS s.S s.P ++ s.M.map fun m => .mark m.1 m.2
theorem lastApp_snoc (S : List (List (List Nat))) (s : List (List Nat)) (r : List Nat) : lastApp (S ++ [s]) r = S ++ [s ++ [r]] := by
  unfold lastApp
  have e : (S ++ [s]).length - 1 = S.length := by simp
  rw [e]
  have g : (S ++ [s]).getD S.length [] = s := by simp
  rw [g]
  simp
theorem linesS_snoc : ∀ (S : List (List (List Nat))) (P : List (List Nat)) (s : List (List Nat)) (p : List Nat), S.length = P.length → linesS (S ++ [s]) (P ++ [p]) = linesS S P ++ (.shot p :: s.map Ln.row)
  | [], [], s, p, _ => by simp [linesS]
  | [], _ :: _, _, _, h => by cases h
  | _ :: _, [], _, _, h => by cases h
  | a :: S, b :: P, s, p, h => by
    have ih := linesS_snoc S P s p (by simpa using h)
    simp -implicitDefEqProofs only [List.cons_append, linesS, ih, List.append_assoc]
structure Rd.Inv (s : Rd) : Prop where
  len : s.S.length = s.P.length
  ne : s.last ≠ [] → s.S ≠ []
  mks : s.last ≠ wMark → s.M = []
theorem snoc_of {α : Type} {l : List α} (h : l ≠ []) : ∃ l' a, l = l' ++ [a] := ⟨l.dropLast, l.getLast h, (List.dropLast_concat_getLast h).symm⟩
theorem step_inv {s : Rd} {ln : Ln} (I : s.Inv) (h : mayF s.last ln.word = true) : (stepR ln s).Inv ∧ linesR (stepR ln s) = linesR s ++ [ln] := by
  have I1 := I.len
  cases ln with
  | shot p =>
    have hl : s.last ≠ wMark := by
      intro z
      rw [z] at h
      exact absurd (show mayF wMark wShot = true from h) (by decide)
    have hm := I.mks hl
    refine ⟨⟨by simp [stepR, I1], fun _ => by simp [stepR], fun _ => hm⟩, ?_⟩
    show linesS (s.S ++ [[]]) (s.P ++ [p]) ++ s.M.map _ = (linesS s.S s.P ++ s.M.map _) ++ [Ln.shot p]
    rw [linesS_snoc _ _ _ _ I1, hm]
    simp
  | row r =>
    have hl : s.last ≠ wMark := by
      intro z
      rw [z] at h
      exact absurd (show mayF wMark wRow = true from h) (by decide)
    have hn : s.last ≠ [] := by
      intro z
      rw [z] at h
      exact absurd (show mayF [] wRow = true from h) (by decide)
    have hm := I.mks hl
    obtain ⟨S', a, eS⟩ := snoc_of (I.ne hn)
    have hp : s.P ≠ [] := by
      intro z
      rw [z, eS] at I1
      simp at I1
    obtain ⟨P', p, eP⟩ := snoc_of hp
    have el : S'.length = P'.length := by
      rw [eS, eP] at I1
      simpa using I1
    have e1 : (stepR (.row r) s).S = S' ++ [a ++ [r]] := by
      show lastApp s.S r = _
      rw [eS, lastApp_snoc]
    refine ⟨⟨by rw [e1]; show _ = s.P.length; rw [eP]; simp [el], fun _ => by rw [e1]; simp, fun _ => hm⟩, ?_⟩
    show linesS (stepR (.row r) s).S s.P ++ s.M.map _ = (linesS s.S s.P ++ s.M.map _) ++ [Ln.row r]
    rw [e1, eS, eP, linesS_snoc _ _ _ _ el, linesS_snoc _ _ _ _ el, hm]
    simp
  | mark nm q =>
    have hn : s.last ≠ [] := by
      intro z
      rw [z] at h
      exact absurd (show mayF [] wMark = true from h) (by decide)
    refine ⟨⟨I1, fun _ => I.ne hn, fun z => absurd rfl z⟩, ?_⟩
    show linesS s.S s.P ++ (s.M ++ [(nm, q)]).map _ = _
    rw [List.map_append, ← List.append_assoc]
    rfl
theorem go_lines : ∀ (ls : List (List (List Nat))) (k : Nat) (s s' : Rd), s.Inv → goR ls k s = .ok s' → s'.Inv ∧ ∃ lns : List Ln, (∀ l ∈ lns, l.Ok) ∧ ls = lns.map Ln.words ∧ linesR s' = linesR s ++ lns
  | [], k, s, s', I, h => by
    cases h
    exact ⟨I, [], by simp, rfl, by simp⟩
  | l :: ls, k, s, s', I, h => by
    unfold goR at h
    cases hl : lineW l with
    | none => rw [hl] at h; cases h
    | some ln =>
      rw [hl] at h
      dsimp only at h
      split at h
      · rename_i hm
        obtain ⟨e1, o1⟩ := lineW_some hl
        obtain ⟨I2, e2⟩ := step_inv I hm
        obtain ⟨I3, lns, o, e3, e4⟩ := go_lines ls (k + 1) _ s' I2 h
        refine ⟨I3, ln :: lns, fun x hx => ?_, by rw [e1, e3]; rfl, by rw [e4, e2, List.append_assoc]; rfl⟩
        rcases List.mem_cons.mp hx with rfl | hx
        · exact o1
        · exact o x hx
      · cases h
theorem rd0_inv : rd0.Inv := ⟨rfl, fun z => absurd rfl z, fun _ => rfl⟩
def textL (lns : List Ln) : List Nat := joinL [10] (lns.map fun l => joinL [32] l.words)
def linesT (t : List Nat) : List (List (List Nat)) := (cutc 10 t).map (cutc 32)
theorem cut_words {ls : List (List Nat)} {lns : List Ln} (h : ls.map (cutc 32) = lns.map Ln.words) : ls = lns.map fun l => joinL [32] l.words := by
  induction ls generalizing lns with
  | nil =>
    cases lns with
    | nil => rfl
    | cons _ _ => cases h
  | cons l ls ih =>
    cases lns with
    | nil => cases h
    | cons a lns =>
      simp -implicitDefEqProofs only [List.map_cons, List.cons.injEq] at h
      rw [List.map_cons, ← ih h.2, ← h.1, join_cut]
/-- what is read, shown again, is the text -/
theorem read_show {t : List Nat} {s : Rd} (h : goR (linesT t) 0 rd0 = .ok s) : textL (linesR s) = t ∧ (∀ l ∈ linesR s, l.Ok) ∧ s.Inv := by
  obtain ⟨I, lns, o, e1, e2⟩ := go_lines _ _ _ _ rd0_inv h
  have e3 : linesR s = lns := e2
  refine ⟨?_, by rw [e3]; exact o, I⟩
  unfold textL
  rw [e3, ← cut_words (ls := cutc 10 t) e1, join_cut]
/-! ### reading what was shown -/
theorem goR_cons {l : List (List Nat)} {ls : List (List (List Nat))} {k : Nat} {s : Rd} {ln : Ln} (h : lineW l = some ln) (m : mayF s.last ln.word = true) : goR (l :: ls) k s = goR ls (k + 1) (stepR ln s) := by
  show (match lineW l with | some ln => _ | none => _) = _
  rw [h]
  exact if_pos m
theorem go_rows : ∀ (rs : List (List Nat)) (rest : List (List (List Nat))) (k : Nat) (S : List (List (List Nat))) (a : List (List Nat)) (P : List (List Nat)) (w : List Nat), w = wShot ∨ w = wRow → (∀ r ∈ rs, (Ln.row r).Ok) →
    ∃ k' w', goR ((rs.map fun r => (Ln.row r).words) ++ rest) k ⟨S ++ [a], P, [], w⟩ = goR rest k' ⟨S ++ [a ++ rs], P, [], w'⟩ ∧ (w' = wRow ∨ (rs = [] ∧ w' = w))
  | [], rest, k, S, a, P, w, hw, _ => ⟨k, w, by simp, .inr ⟨rfl, rfl⟩⟩
  | r :: rs, rest, k, S, a, P, w, hw, ho => by
    obtain ⟨k', w', e, z⟩ := go_rows rs rest (k + 1) S (a ++ [r]) P wRow (.inr rfl) fun x hx => ho x (List.mem_cons_of_mem _ hx)
    refine ⟨k', w', ?_, ?_⟩
    · rw [List.map_cons, List.cons_append, goR_cons (lineW_words (ho r List.mem_cons_self)) (by rcases hw with rfl | rfl <;> rfl)]
      show goR _ _ ⟨lastApp (S ++ [a]) r, P, [], wRow⟩ = _
      rw [lastApp_snoc, e, List.append_assoc]
      rfl
    · rcases z with z | z
      · exact .inl z
      · exact .inl z.2
theorem go_shots : ∀ (S : List (List (List Nat))) (P : List (List Nat)) (rest : List (List (List Nat))) (k : Nat) (S0 : List (List (List Nat))) (P0 : List (List Nat)) (w : List Nat), S.length = P.length → (w = [] ∨ w = wRow) → (∀ s ∈ S, s ≠ [] ∧ ∀ r ∈ s, (Ln.row r).Ok) → (∀ p ∈ P, (Ln.shot p).Ok) →
    ∃ k' w', goR ((linesS S P).map Ln.words ++ rest) k ⟨S0, P0, [], w⟩ = goR rest k' ⟨S0 ++ S, P0 ++ P, [], w'⟩ ∧ (w' = wRow ∨ (S = [] ∧ w' = w))
  | [], [], rest, k, S0, P0, w, _, hw, _, _ => ⟨k, w, by simp [linesS], .inr ⟨rfl, rfl⟩⟩
  | [], _ :: _, _, _, _, _, _, h, _, _, _ => by cases h
  | _ :: _, [], _, _, _, _, _, h, _, _, _ => by cases h
  | s :: S, p :: P, rest, k, S0, P0, w, hl, hw, hS, hP => by
    obtain ⟨sne, srow⟩ := hS s List.mem_cons_self
    obtain ⟨k1, w1, e1, z1⟩ := go_rows s ((linesS S P).map Ln.words ++ rest) (k + 1) S0 [] (P0 ++ [p]) wShot (.inl rfl) srow
    have hw1 : w1 = wRow := z1.elim id fun z => absurd z.1 sne
    obtain ⟨k2, w2, e2, z2⟩ := go_shots S P rest k1 (S0 ++ [s]) (P0 ++ [p]) w1 (by simpa using hl) (.inr hw1) (fun x hx => hS x (List.mem_cons_of_mem _ hx)) fun x hx => hP x (List.mem_cons_of_mem _ hx)
    refine ⟨k2, w2, ?_, .inl (z2.elim id fun z => z.2.trans hw1)⟩
    have em : (linesS (s :: S) (p :: P)).map Ln.words ++ rest = (Ln.shot p).words :: ((s.map fun r => (Ln.row r).words) ++ ((linesS S P).map Ln.words ++ rest)) := by
      simp [linesS]
    rw [em, goR_cons (lineW_words (hP p List.mem_cons_self)) (by rcases hw with rfl | rfl <;> rfl)]
    show goR _ _ ⟨S0 ++ [[]], P0 ++ [p], [], wShot⟩ = _
    rw [e1, List.nil_append, e2, List.append_assoc, List.append_assoc]
    rfl
theorem go_marks : ∀ (M : List (List Nat × List Nat)) (k : Nat) (S : List (List (List Nat))) (P : List (List Nat)) (M0 : List (List Nat × List Nat)) (w : List Nat), (w = wRow ∨ w = wMark) → (∀ m ∈ M, (Ln.mark m.1 m.2).Ok) →
    ∃ w', goR (M.map fun m => (Ln.mark m.1 m.2).words) k ⟨S, P, M0, w⟩ = .ok ⟨S, P, M0 ++ M, w'⟩
  | [], k, S, P, M0, w, _, _ => ⟨w, by rw [List.append_nil]; rfl⟩
  | m :: M, k, S, P, M0, w, hw, ho => by
    obtain ⟨w', e⟩ := go_marks M (k + 1) S P (M0 ++ [m]) wMark (.inr rfl) fun x hx => ho x (List.mem_cons_of_mem _ hx)
    refine ⟨w', ?_⟩
    rw [List.map_cons, goR_cons (lineW_words (ho m List.mem_cons_self)) (by rcases hw with rfl | rfl <;> rfl)]
    show goR _ _ ⟨S, P, M0 ++ [(m.1, m.2)], wMark⟩ = _
    rw [e, List.append_assoc]
    rfl
/-- shots with rows, places, marks, that can be shown -/
structure Shw (S : List (List (List Nat))) (P : List (List Nat)) (M : List (List Nat × List Nat)) : Prop where
  len : S.length = P.length
  ne : S ≠ []
  s : ∀ s ∈ S, s ≠ [] ∧ ∀ r ∈ s, (Ln.row r).Ok
  p : ∀ p ∈ P, (Ln.shot p).Ok
  m : ∀ m ∈ M, (Ln.mark m.1 m.2).Ok ∧ 32 ∉ m.1 ∧ 10 ∉ m.1
def allLn (S : List (List (List Nat))) (P : List (List Nat)) (M : List (List Nat × List Nat)) : List Ln := linesS S P ++ M.map fun m => .mark m.1 m.2
theorem go_all {S : List (List (List Nat))} {P : List (List Nat)} {M : List (List Nat × List Nat)} (h : Shw S P M) : ∃ w, goR ((allLn S P M).map Ln.words) 0 rd0 = .ok ⟨S, P, M, w⟩ := by
  obtain ⟨k, w, e, z⟩ := go_shots S P (M.map fun m => (Ln.mark m.1 m.2).words) 0 [] [] [] h.len (.inl rfl) h.s h.p
  have hw : w = wRow := z.elim id fun z => absurd z.1 h.ne
  obtain ⟨w', e'⟩ := go_marks M k S P [] w (.inl hw) fun m hm => (h.m m hm).1
  refine ⟨w', ?_⟩
  unfold allLn
  rw [List.map_append, List.map_map]
  show goR ((linesS S P).map Ln.words ++ M.map fun m => (Ln.mark m.1 m.2).words) 0 ⟨[], [], [], []⟩ = _
  rw [e]
  exact e'
theorem lines_mem : ∀ {S : List (List (List Nat))} {P : List (List Nat)} {ln : Ln}, ln ∈ linesS S P → (∃ p ∈ P, ln = .shot p) ∨ ∃ s ∈ S, ∃ r ∈ s, ln = .row r
  | [], _, ln, h => by cases h
  | _ :: _, [], ln, h => by cases h
  | s :: S, p :: P, ln, h => by
    simp -implicitDefEqProofs only [linesS, List.mem_cons, List.mem_append, List.mem_map] at h
    rcases h with h | ⟨r, hr, h⟩ | h
    · exact .inl ⟨p, List.mem_cons_self, h⟩
    · exact .inr ⟨s, List.mem_cons_self, r, hr, h.symm⟩
    · rcases lines_mem h with ⟨q, hq, e⟩ | ⟨t, ht, q⟩
      · exact .inl ⟨q, List.mem_cons_of_mem _ hq, e⟩
      · exact .inr ⟨t, List.mem_cons_of_mem _ ht, q⟩
theorem words_free {S : List (List (List Nat))} {P : List (List Nat)} {M : List (List Nat × List Nat)} (h : Shw S P M) {ln : Ln} (hl : ln ∈ allLn S P M) : ln.words ≠ [] ∧ ∀ w ∈ ln.words, 32 ∉ w ∧ 10 ∉ w := by
  have dig : ∀ q : List Nat, ∀ w ∈ q.map numL, 32 ∉ w ∧ 10 ∉ w := fun q w hw => by
    obtain ⟨n, _, rfl⟩ := List.mem_map.mp hw
    exact ⟨numL_free (.inl (by decide)), numL_free (.inl (by decide))⟩
  rcases List.mem_append.mp hl with hl | hl
  · rcases lines_mem hl with ⟨p, _, rfl⟩ | ⟨s, _, r, _, rfl⟩
    · refine ⟨by simp [Ln.words], fun w hw => ?_⟩
      rcases List.mem_cons.mp hw with rfl | hw
      · decide
      · exact dig p w hw
    · refine ⟨by simp [Ln.words], fun w hw => ?_⟩
      rcases List.mem_cons.mp hw with rfl | hw
      · decide
      · exact dig r w hw
  · obtain ⟨m, hm, rfl⟩ := List.mem_map.mp hl
    obtain ⟨_, f1, f2⟩ := h.m m hm
    refine ⟨by simp [Ln.words], fun w hw => ?_⟩
    rcases List.mem_cons.mp hw with rfl | hw
    · decide
    · rcases List.mem_cons.mp hw with rfl | hw
      · exact ⟨f1, f2⟩
      · exact dig m.2 w hw
theorem join_free {c d : Nat} (hcd : d ≠ c) : ∀ ps : List (List Nat), (∀ p ∈ ps, d ∉ p) → d ∉ joinL [c] ps
  | [], _ => by simp [joinL]
  | [p], h => h p List.mem_cons_self
  | p :: q :: r, h => by
    rw [joinL_cons _ _ (by simp)]
    intro z
    rcases List.mem_append.mp z with z | z
    · exact h p List.mem_cons_self z
    · rcases List.mem_append.mp z with z | z
      · exact hcd (List.mem_singleton.mp z)
      · exact join_free hcd (q :: r) (fun x hx => h x (List.mem_cons_of_mem _ hx)) z
theorem all_ne {S : List (List (List Nat))} {P : List (List Nat)} {M : List (List Nat × List Nat)} (h : Shw S P M) : allLn S P M ≠ [] := by
  have := h.len
  have n := h.ne
  cases S with
  | nil => exact absurd rfl n
  | cons s S =>
    cases P with
    | nil => cases this
    | cons p P => simp [allLn, linesS]
/-- the lines of what was shown -/
theorem lines_shown {S : List (List (List Nat))} {P : List (List Nat)} {M : List (List Nat × List Nat)} (h : Shw S P M) : cutc 10 (textL (allLn S P M)) = (allLn S P M).map (fun l => joinL [32] l.words) ∧ linesT (textL (allLn S P M)) = (allLn S P M).map Ln.words := by
  have e : cutc 10 (textL (allLn S P M)) = (allLn S P M).map fun l => joinL [32] l.words := by
    unfold textL
    refine cut_join ?_ fun p hp => ?_
    · rw [Ne, List.map_eq_nil_iff]
      exact all_ne h
    · obtain ⟨l, hl, rfl⟩ := List.mem_map.mp hp
      exact join_free (by decide) _ fun w hw => ((words_free h hl).2 w hw).2
  refine ⟨e, ?_⟩
  unfold linesT
  rw [e, List.map_map]
  apply List.map_congr_left
  intro l hl
  obtain ⟨n, f⟩ := words_free h hl
  exact cut_join n fun w hw => (f w hw).1
theorem read_shown {S : List (List (List Nat))} {P : List (List Nat)} {M : List (List Nat × List Nat)} (h : Shw S P M) : ∃ w, goR (linesT (textL (allLn S P M))) 0 rd0 = .ok ⟨S, P, M, w⟩ := by
  rw [(lines_shown h).2]
  exact go_all h
/-- a line that can't stand, put in -/
theorem go_wrong {x : List (List Nat)} (hx : lineW x = none) {rest : List (List (List Nat))} : ∀ (ls : List (List (List Nat))) (k : Nat) (s s' : Rd), goR ls k s = .ok s' → ∀ a, a ≤ ls.length → goR (ls.take a ++ x :: rest) k s = .error (k + a)
  | ls, k, s, s', h, 0, _ => by
    show (match lineW x with | some ln => _ | none => _) = _
    rw [hx]
    rfl
  | [], _, _, _, _, a + 1, ha => by simp at ha
  | l :: ls, k, s, s', h, a + 1, ha => by
    unfold goR at h
    cases hl : lineW l with
    | none => rw [hl] at h; cases h
    | some ln =>
      rw [hl] at h
      dsimp only at h
      split at h
      · rename_i hm
        rw [List.take_succ_cons, List.cons_append, goR_cons hl hm, go_wrong hx ls (k + 1) _ s' h a (by simpa using ha)]
        congr 1
        omega
      · cases h
end VVlaw

set_option Elab.async false
set_option linter.all false
set_option maxRecDepth 100000
set_option maxHeartbeats 4000000
namespace VVlaw
open PySem PySem.Spec L2 VV
open PyProof.Rows hiding St
end VVlaw

set_option Elab.async false
set_option linter.all false
set_option maxRecDepth 100000
set_option maxHeartbeats 4000000
namespace VVlaw
open PySem PySem.Spec L2 VV
open PyProof.Rows hiding St
end VVlaw

set_option Elab.async false
set_option linter.all false
set_option maxRecDepth 100000
set_option maxHeartbeats 4000000
namespace VVlaw
open PySem PySem.Spec L2 VV
open PyProof.Rows hiding St
def b_is_name : SF := (sRet (eAnd (eIsi isStr (eV 0)) (eAnd (eChain leF leF (eC (.int 1)) (eCB lenF [(eV 0)]) (eC (.int 6))) (eNot (eLc [1] (iSeq (eV 0)) (.nm 1) (eOp ninF (eV 1) (eC (.str "abcdefghijklmnopqrstuvwxyz"))) (eV 1))))))
def sem_is_name : List D → Rs := runB 1 2 b_is_name
def b_is_mark : SF := (sSeq (sIf (gOr (gNot (gTru (eIsi isTup (eV 0)))) (gOr (eOp neF (eCB lenF [(eV 0)]) (eC (.int 5))) (gNot (gTru (eCall sem_is_name [(eOp ixF (eV 0) (eC (.int 0)))]))))) (sRet (eC (.bool false))) sNx) (sSeq (sIf (gTru (eLc [1] (iSeq (eSl (eV 0) (some (eC (.int 1))) (some (eC (.int 3))))) (.nm 1) (gNot (gTru (eCall sem_is_within [(eV 1), (eC (.int 0)), (eC (.int 99))]))) (eV 1))) (sRet (eC (.bool false))) sNx) (sRet (eNot (eLc [1] (iSeq (eSl (eV 0) (some (eC (.int 3))) none)) (.nm 1) (gNot (gTru (eCall sem_is_within [(eV 1), (eC (.int 1)), (eC (.int 99))]))) (eV 1))))))
def sem_is_mark : List D → Rs := runB 1 2 b_is_mark
def b_are_marks : SF := (sSeq (sIf (gOr (gNot (gTru (eIsi isTup (eV 0)))) (gOr (eOp gtF (eCB lenF [(eV 0)]) (eC (.int 12))) (gTru (eLc [1] (iSeq (eV 0)) (.nm 1) (gNot (gTru (eCall sem_is_mark [(eV 1)]))) (eV 1))))) (sRet (eC (.bool false))) sNx) (sRet (eNot (eLc [1, 2] (iZip [(eV 0), (eSl (eV 0) (some (eC (.int 1))) none)]) (.tp [(.nm 1), (.nm 2)]) (eOp geF (eOp ixF (eV 1) (eC (.int 0))) (eOp ixF (eV 2) (eC (.int 0)))) (eC (.int 1))))))
def sem_are_marks : List D → Rs := runB 1 3 b_are_marks
def lp__law_marks_1 : SF := (sSeq (sSet 5 (eOp addF (eC (.int 1)) (eOp mulF (eC (.int 5)) (eV 4)))) (sSeq (sSet 6 (eOp ixF (eLst [(eC (.str "a")), (eC (.str "b")), (eC (.str "c")), (eC (.str "dd")), (eC (.str "eee")), (eC (.str "x")), (eC (.str "zz"))]) (eOp modF (eOp ixF (eV 2) (eV 5)) (eC (.int 7))))) (sPutD 3 (eV 6) (eTup [(eV 6), (eOp modF (eOp ixF (eV 2) (eOp addF (eV 5) (eC (.int 1)))) (eC (.int 20))), (eOp modF (eOp ixF (eV 2) (eOp addF (eV 5) (eC (.int 2)))) (eC (.int 20))), (eOp addF (eC (.int 1)) (eOp modF (eOp ixF (eV 2) (eOp addF (eV 5) (eC (.int 3)))) (eC (.int 9)))), (eOp addF (eC (.int 1)) (eOp modF (eOp ixF (eV 2) (eOp addF (eV 5) (eC (.int 4)))) (eC (.int 9))))]))))
def b__law_marks : SF := (sSeq (sSet 2 (eCall sem__law_row [(eV 0), (eV 1)])) (sSeq (sOwn 3 (eC (.dict []))) (sSeq (sFor (iRange1 [(eOp modF (eOp ixF (eV 2) (eC (.int 0))) (eC (.int 7)))]) (.nm 4) lp__law_marks_1) (sRet (eCB tupF [(eLc [6] (iSeq (eCB sortF [(eB 3)])) (.nm 6) (eC (.bool true)) (eOp dixF (eB 3) (eV 6)))])))))
def sem__law_marks : List D → Rs := runB 2 7 b__law_marks
end VVlaw

set_option Elab.async false
set_option linter.all false
set_option maxRecDepth 100000
set_option maxHeartbeats 4000000
/-! PLj: fractions in least terms, of any size. -/
namespace VVlaw
open PySem PySem.Spec L2 VV
open PyProof.Rows hiding St
/-- below 2 ^ k, either way -/
def Bd (k : Nat) (i : Int) : Prop := i.natAbs < 2 ^ k
theorem Bd.mono {k l : Nat} {i : Int} (h : Bd k i) (hl : k ≤ l) : Bd l i := Nat.lt_of_lt_of_le h (Nat.pow_le_pow_right (by decide) hl)
theorem Bd.add {k : Nat} {i j : Int} (h : Bd k i) (g : Bd k j) : Bd (k + 1) (i + j) := by
  unfold Bd at *
  have := Int.natAbs_add_le i j
  rw [Nat.pow_succ]
  omega
theorem Bd.neg {k : Nat} {i : Int} (h : Bd k i) : Bd k (-i) := by
  unfold Bd at *
  rw [Int.natAbs_neg]
  exact h
theorem Bd.sub {k : Nat} {i j : Int} (h : Bd k i) (g : Bd k j) : Bd (k + 1) (i - j) := by
  rw [Int.sub_eq_add_neg]
  exact h.add g.neg
theorem Bd.dvd {k : Nat} {i j : Int} (h : Bd k i) (hd : j ∣ i) : Bd k (i / j) := by
  unfold Bd at *
  obtain ⟨c, rfl⟩ := hd
  by_cases hj : j = 0
  · subst hj
    simp
    exact Nat.two_pow_pos k
  · rw [Int.mul_ediv_cancel_left _ hj]
    rw [Int.natAbs_mul] at h
    have : 1 ≤ j.natAbs := by omega
    exact Nat.lt_of_le_of_lt (Nat.le_mul_of_pos_left _ this) h
theorem Bd.of {k : Nat} {i : Int} (a b : Int) (h : a ≤ i ∧ i ≤ b) (ha : a.natAbs < 2 ^ k) (hb : b.natAbs < 2 ^ k) : Bd k i := by
  unfold Bd
  omega
/-! the greatest that divides both -/
end VVlaw

set_option Elab.async false
set_option linter.all false
set_option maxRecDepth 100000
set_option maxHeartbeats 4000000
namespace VVlaw
open PySem PySem.Spec L2 VV
open PyProof.Rows hiding St
end VVlaw

set_option Elab.async false
set_option linter.all false
set_option maxRecDepth 100000
set_option maxHeartbeats 4000000
/-! PLf: what ways back, light, mirrors and parts do to the steps. -/
namespace VVlaw
open PySem PySem.Spec L2 VV
open PyProof.Rows hiding St
end VVlaw

set_option Elab.async false
set_option linter.all false
set_option maxRecDepth 100000
set_option maxHeartbeats 4000000
/-! PLk: the laws' own fractions, steps, unlikeness. -/
namespace VVlaw
open PySem PySem.Spec L2 VV
open PyProof.Rows hiding St
theorem Bd.gcd {k : Nat} {a b : Int} (h0 : 0 < b) (hb : Bd k b) : Bd k (Int.gcd a b : Int) := by
  unfold Bd at *
  have := Int.le_of_dvd h0 (Int.gcd_dvd_right (a := a) (b := b))
  omega
/-- a fraction's parts are no greater -/
theorem Bd.fr {k : Nat} {a b : Int} (ha : Bd k a) (hb : Bd k b) : Bd k (a / (Int.gcd a b : Int)) ∧ Bd k (b / (Int.gcd a b : Int)) := ⟨ha.dvd (Int.gcd_dvd_left ..), hb.dvd (Int.gcd_dvd_right ..)⟩
/-! how unlike -/
/-! the steps, by their places -/
abbrev Ent := (Int × Int) × Int
def keyT (k : Int × Int) : D := .tuple [.int k.1, .int k.2]
/-- a cell that both have, with its step -/
def both (a b : List (List Int)) (w' h' p q : Int) (y x : Int) : List Ent := if (0 ≤ y - q ∧ y - q < h') ∧ 0 ≤ x - p ∧ x - p < w' then [((x, y), cell a y x - cell b (y - q) (x - p))] else []
/-- the cells that both have, as a box -/
def boxE (a b : List (List Int)) (w h w' h' p q : Int) : List Ent := (rangeI (max 0 q) (min h (q + h') - max 0 q).toNat).flatMap fun y => (rangeI (max 0 p) (min w (p + w') - max 0 p).toNat).map fun x => ((x, y), cell a y x - cell b (y - q) (x - p))
/-! sorted, looked up -/
def leT (a b : Int × Int) : Bool := PySem.W.dataLe false (fun d : D => d) (keyT a) (keyT b)
def valT (E : List Ent) (k : Int × Int) : Int := ((E.find? fun e => decide (e.1 = k)).map (·.2)).getD 0
end VVlaw

set_option Elab.async false
set_option linter.all false
set_option maxRecDepth 100000
set_option maxHeartbeats 4000000
namespace VVlaw
open PySem PySem.Spec L2 VV
open PyProof.Rows hiding St
def lp__law_ground_1 : SF := (sSeq (sSet 8 (eOp mulF (eOp ixF (eV 2) (eOp modF (eOp addF (eOp mulF (eC (.int 5)) (eV 5)) (eOp mulF (eC (.int 3)) (eV 7))) (eC (.int 60)))) (eV 3))) (sApp 6 (eOp modF (eOp addF (eOp addF (eV 8) (eOp mulF (eV 7) (eOp ixF (eV 2) (eC (.int 1))))) (eOp mulF (eV 5) (eC (.int 11)))) (eC (.int 200)))))
def lp__law_ground_2 : SF := (sSeq (sOwn 6 (eLst [])) (sSeq (sFor (iRange1 [(eC (.int 14))]) (.nm 7) lp__law_ground_1) (sApp 4 (eCB tupF [(eB 6)]))))
def b__law_ground : SF := (sSeq (sSet 2 (eCall sem__law_row [(eV 0), (eV 1)])) (sSeq (sSet 3 (eOp ixF (eLst [(eC (.int 1)), (eC (.int 7)), (eC (.int 13))]) (eOp modF (eOp ixF (eV 2) (eC (.int 0))) (eC (.int 3))))) (sSeq (sOwn 4 (eLst [])) (sSeq (sFor (iRange1 [(eC (.int 12))]) (.nm 5) lp__law_ground_2) (sRet (eCB tupF [(eB 4)]))))))
def sem__law_ground : List D → Rs := runB 2 9 b__law_ground
def lp__law_scene_1 : SF := (sSeq (sSet 7 (eOp addF (eC (.int 5)) (eOp mulF (eC (.int 6)) (eV 6)))) (sSeq (sAsg (.tp [(.nm 8), (.nm 9)]) (eOp ixF (eB 4) (eOp modF (eOp ixF (eV 3) (eV 7)) (eCB lenF [(eB 4)])))) (sSeq (sAsg (.tp [(.nm 10), (.nm 11)]) (eTup [(eOp addF (eC (.int 3)) (eOp modF (eOp ixF (eV 3) (eOp addF (eV 7) (eC (.int 1)))) (eC (.int 4)))), (eOp addF (eC (.int 3)) (eOp modF (eOp ixF (eV 3) (eOp addF (eV 7) (eC (.int 2)))) (eC (.int 3))))])) (sSeq (sAsg (.tp [(.nm 8), (.nm 9)]) (eTup [(eCB max2F [(eOp subF (eOp addF (eV 8) (eOp modF (eOp ixF (eV 3) (eOp addF (eV 7) (eC (.int 3)))) (eC (.int 7)))) (eC (.int 3))), (eC (.int 0))]), (eCB max2F [(eOp subF (eOp addF (eV 9) (eOp modF (eOp ixF (eV 3) (eOp addF (eV 7) (eC (.int 4)))) (eC (.int 5)))) (eC (.int 2))), (eC (.int 0))])])) (sSeq (sApp 4 (eTup [(eCB min2F [(eV 8), (eOp subF (eC (.int 14)) (eV 10))]), (eCB min2F [(eV 9), (eOp subF (eC (.int 12)) (eV 11))])])) (sApp 5 (eTup [(eV 10), (eV 11)])))))))
def lp__law_scene_2 : SF := (sSeq (sSet 13 (eIf (eOp eqF (eOp modF (eOp ixF (eV 3) (eC (.int 34))) (eC (.int 2))) (eC (.int 0))) (eOp modF (eOp ixF (eV 3) (eOp addF (eC (.int 35)) (eCB lenF [(eB 12)]))) (eC (.int 41))) (eC (.int 0)))) (sApp 12 (eCB tupF [(eLc [17] (iSeq (eSl (eV 2) (some (eV 9)) (some (eOp addF (eV 9) (eV 11))))) (.nm 17) (eC (.bool true)) (eCB tupF [(eLc [18] (iSeq (eSl (eV 17) (some (eV 8)) (some (eOp addF (eV 8) (eV 10))))) (.nm 18) (eC (.bool true)) (eOp addF (eV 18) (eV 13)))]))])))
def b__law_scene : SF := (sSeq (sSet 2 (eCall sem__law_ground [(eV 0), (eV 1)])) (sSeq (sSet 3 (eCall sem__law_row [(eV 0), (eOp addF (eV 1) (eC (.int 1)))])) (sSeq (sOwn 4 (eLst [(eTup [(eOp modF (eOp ixF (eV 3) (eC (.int 0))) (eC (.int 4))), (eOp modF (eOp ixF (eV 3) (eC (.int 1))) (eC (.int 3)))])])) (sSeq (sOwn 5 (eLst [(eTup [(eOp addF (eC (.int 3)) (eOp modF (eOp ixF (eV 3) (eC (.int 2))) (eC (.int 4)))), (eOp addF (eC (.int 3)) (eOp modF (eOp ixF (eV 3) (eC (.int 3))) (eC (.int 3))))])])) (sSeq (sFor (iRange1 [(eOp addF (eC (.int 1)) (eOp modF (eOp ixF (eV 3) (eC (.int 4))) (eC (.int 4))))]) (.nm 6) lp__law_scene_1) (sSeq (sOwn 12 (eLst [])) (sFrz 4 (sFrz 5 (sSeq (sFor (iZip [(eV 4), (eV 5)]) (.tp [(.tp [(.nm 8), (.nm 9)]), (.tp [(.nm 10), (.nm 11)])]) lp__law_scene_2) (sSeq (sAsg (.tp [(.nm 14), (.nm 15)]) (eTup [(eCB (best1F min) [(eLc [16] (iSeq (eB 4)) (.nm 16) (eC (.bool true)) (eOp ixF (eV 16) (eC (.int 0))))]), (eCB (best1F min) [(eLc [16] (iSeq (eB 4)) (.nm 16) (eC (.bool true)) (eOp ixF (eV 16) (eC (.int 1))))])])) (sRet (eTup [(eCB tupF [(eB 12)]), (eCB tupF [(eLc [8, 9] (iSeq (eB 4)) (.tp [(.nm 8), (.nm 9)]) (eC (.bool true)) (eTup [(eOp subF (eV 8) (eV 14)), (eOp subF (eV 9) (eV 15))]))])]))))))))))))
def sem__law_scene : List D → Rs := runB 2 19 b__law_scene
end VVlaw

set_option Elab.async false
set_option linter.all false
set_option maxRecDepth 100000
set_option maxHeartbeats 4000000
namespace VVlaw
open PySem PySem.Spec L2 VV
open PyProof.Rows hiding St
def b_are_shots : SF := (sRet (eAnd (eIsi isTup (eV 0)) (eAnd (eChain leF leF (eC (.int 1)) (eCB lenF [(eV 0)]) (eC (.int 8))) (eNot (eLc [1] (iSeq (eV 0)) (.nm 1) (gNot (gTru (eCall sem_is_shot [(eV 1)]))) (eV 1))))))
def sem_are_shots : List D → Rs := runB 1 2 b_are_shots
def b_look_all : SF := (sIf (gNot (gTru (eCall sem_are_shots [(eV 0)]))) (sRaise "BadShots") sNx)
def sem_look_all : List D → Rs := runB 1 1 b_look_all
def lp_are_places_1 : SF := (sSeq (sIf (gOr (gNot (gTru (eIsi isTup (eV 2)))) (eOp neF (eCB lenF [(eV 2)]) (eC (.int 2)))) (sRet (eC (.bool false))) sNx) (sIf (gTru (eLc [3] (iSeq (eV 2)) (.nm 3) (gNot (gTru (eCall sem_is_within [(eV 3), (eC (.int 0)), (eC (.int 99))]))) (eV 3))) (sRet (eC (.bool false))) sNx))
def b_are_places : SF := (sSeq (sIf (gOr (gNot (gTru (eIsi isTup (eV 1)))) (eOp neF (eCB lenF [(eV 1)]) (eCB lenF [(eV 0)]))) (sRet (eC (.bool false))) sNx) (sSeq (sFor (iSeq (eV 1)) (.nm 2) lp_are_places_1) (sRet (eC (.bool true)))))
def sem_are_places : List D → Rs := runB 2 4 b_are_places
def b_look_places : SF := (sSeq (sDrop (eCall sem_look_all [(eV 0)])) (sIf (gNot (gTru (eCall sem_are_places [(eV 0), (eV 1)]))) (sRaise "BadPlaces") sNx))
def sem_look_places : List D → Rs := runB 2 2 b_look_places
def b__law_any_scene : SF := (sSeq (sSet 2 (eCall sem__law_row [(eV 0), (eOp addF (eV 1) (eC (.int 2)))])) (sSeq (sIf (eOp gtF (eOp modF (eOp ixF (eV 2) (eC (.int 0))) (eC (.int 3))) (eC (.int 0))) (sRet (eCall sem__law_scene [(eV 0), (eV 1)])) sNx) (sSeq (sSet 3 (eOp addF (eC (.int 1)) (eOp modF (eOp ixF (eV 2) (eC (.int 1))) (eC (.int 3))))) (sSeq (sSet 4 (eCB tupF [(eLc [5] (iRange1 [(eV 3)]) (.nm 5) (eC (.bool true)) (eCall sem__law_shot [(eV 2), (eOp addF (eC (.int 5)) (eOp mulF (eC (.int 17)) (eV 5))), (eOp ixF (eV 2) (eC (.int 2)))]))])) (sRet (eTup [(eV 4), (eCB tupF [(eLc [5] (iRange1 [(eV 3)]) (.nm 5) (eC (.bool true)) (eTup [(eOp modF (eOp ixF (eV 2) (eOp addF (eC (.int 50)) (eV 5))) (eC (.int 5))), (eOp modF (eOp ixF (eV 2) (eOp addF (eC (.int 55)) (eV 5))) (eC (.int 4)))]))])]))))))
def sem__law_any_scene : List D → Rs := runB 2 6 b__law_any_scene
end VVlaw

set_option Elab.async false
set_option linter.all false
set_option maxRecDepth 100000
set_option maxHeartbeats 4000000
namespace VVlaw
open PySem PySem.Spec L2 VV
open PyProof.Rows hiding St
def lp_rows_of_1 : SF := (sSeq (sApp 3 (eFs [(eC (.str "shot ")), (eUn fmtF (eV 5)), (eC (.str " ")), (eUn fmtF (eV 6))])) (sExt 3 (eLc [8] (iSeq (eV 4)) (.nm 8) (eC (.bool true)) (eOp addF (eC (.str "row ")) (eTx joinF (eC (.str " ")) (eLc [10] (iSeq (eV 8)) (.nm 10) (eC (.bool true)) (eCB strIF [(eV 10)])))))))
def b_rows_of : SF := (sSeq (sOwn 3 (eLst [])) (sSeq (sFor (iZip [(eV 0), (eV 1)]) (.tp [(.nm 4), (.tp [(.nm 5), (.nm 6)])]) lp_rows_of_1) (sRet (eOp addF (eB 3) (eLc [7] (iSeq (eV 2)) (.nm 7) (eC (.bool true)) (eTx joinF (eC (.str " ")) (eOp addF (eLst [(eC (.str "mark"))]) (eLc [9] (iSeq (eV 7)) (.nm 9) (eC (.bool true)) (eCB strIF [(eV 9)])))))))))
def sem_rows_of : List D → Rs := runB 3 11 b_rows_of
def b_shown : SF := (sSeq (sDrop (eCall sem_look_places [(eV 0), (eV 1)])) (sSeq (sIf (gNot (gTru (eCall sem_are_marks [(eV 2)]))) (sRaise "BadMarks") sNx) (sRet (eTx joinF (eC (.str "\n")) (eCall sem_rows_of [(eV 0), (eV 1), (eV 2)])))))
def sem_shown : List D → Rs := runB 3 3 b_shown
def b_number_of : SF := (sSeq (sIf (gOr (gNot (eChain leF leF (eC (.int 1)) (eCB lenF [(eV 0)]) (eC (.int 5)))) (gTru (eLc [1] (iSeq (eV 0)) (.nm 1) (eOp ninF (eV 1) (eC (.str "0123456789"))) (eV 1)))) (sRet (eC .none)) sNx) (sRet (eIf (eOp eqF (eCB strIF [(eCB intTF [(eV 0)])]) (eV 0)) (eCB intTF [(eV 0)]) (eC .none))))
def sem_number_of : List D → Rs := runB 1 2 b_number_of
def b_numbers_of : SF := (sSeq (sSet 1 (eLc [2] (iSeq (eV 0)) (.nm 2) (eC (.bool true)) (eCall sem_number_of [(eV 2)]))) (sRet (eIf (eOp inF (eC .none) (eV 1)) (eC .none) (eCB tupF [(eV 1)]))))
def sem_numbers_of : List D → Rs := runB 1 3 b_numbers_of
def b_line_of : SF := (sSeq (sStar [(.nm 1), (.nm 2)] (eTx splitF (eV 0) (eC (.str " ")))) (sSeq (sIf (gAnd (eOp eqF (eV 1) (eC (.str "mark"))) (gAnd (eOp eqF (eCB lenF [(eV 2)]) (eC (.int 5))) (eOp neF (eOp ixF (eV 2) (eC (.int 0))) (eC (.str ""))))) (sSeq (sSet 3 (eCall sem_numbers_of [(eSl (eV 2) (some (eC (.int 1))) none)])) (sRet (eIf (eOp isF (eV 3) (eC .none)) (eC .none) (eTup [(eV 1), (eOp addF (eTup [(eOp ixF (eV 2) (eC (.int 0)))]) (eV 3))])))) sNx) (sSeq (sIf (gOr (eOp ninF (eV 1) (eTup [(eC (.str "shot")), (eC (.str "row"))])) (gOr (gNot (gTru (eV 2))) (gAnd (eOp eqF (eV 1) (eC (.str "shot"))) (eOp neF (eCB lenF [(eV 2)]) (eC (.int 2)))))) (sRet (eC .none)) sNx) (sSeq (sSet 3 (eCall sem_numbers_of [(eV 2)])) (sRet (eIf (eOp isF (eV 3) (eC .none)) (eC .none) (eTup [(eV 1), (eV 3)])))))))
def sem_line_of : List D → Rs := runB 1 4 b_line_of
def b_may_follow : SF := (sSeq (sIf (eOp eqF (eV 1) (eC (.str "shot"))) (sRet (eOp inF (eV 0) (eTup [(eC (.str "")), (eC (.str "row"))]))) sNx) (sSeq (sIf (eOp eqF (eV 1) (eC (.str "row"))) (sRet (eOp inF (eV 0) (eTup [(eC (.str "shot")), (eC (.str "row"))]))) sNx) (sRet (eOp inF (eV 0) (eTup [(eC (.str "row")), (eC (.str "mark"))])))))
def sem_may_follow : List D → Rs := runB 2 2 b_may_follow
def lp_read_1 : SF := (sSeq (sSet 7 (eCall sem_line_of [(eV 6)])) (sSeq (sIf (gOr (eOp isF (eV 7) (eC .none)) (gNot (gTru (eCall sem_may_follow [(eV 4), (eOp ixF (eV 7) (eC (.int 0)))])))) (sRaiseX "BadText" "line" (eV 5)) sNx) (sSeq (sSet 4 (eOp ixF (eV 7) (eC (.int 0)))) (sIf (eOp eqF (eV 4) (eC (.str "shot"))) (sSeq (sApp 2 (eOp ixF (eV 7) (eC (.int 1)))) (sGapp 1 (eLst []))) (sIf (eOp eqF (eV 4) (eC (.str "row"))) (sGappAt 1 (eUn negF (eC (.int 1))) (eOp ixF (eV 7) (eC (.int 1)))) (sApp 3 (eOp ixF (eV 7) (eC (.int 1)))))))))
def b_read : SF := (sSeq (sIf (gOr (gNot (gTru (eIsi isStr (eV 0)))) (eOp gtF (eCB lenF [(eV 0)]) (eC (.int 60000)))) (sRaiseX "BadText" "line" (eC .none)) sNx) (sSeq (sGnew 1 (eLst [])) (sSeq (sOwn 2 (eLst [])) (sSeq (sOwn 3 (eLst [])) (sSeq (sSet 4 (eC (.str ""))) (sSeq (sFor (iEnum' [(eTx splitF (eV 0) (eC (.str "\n")))]) (.tp [(.nm 5), (.nm 6)]) lp_read_1) (sFrzG 1 (sSeq (sSet 8 (eCB tupF [(eLc [9] (iSeq (eV 1)) (.nm 9) (eC (.bool true)) (eCB tupF [(eV 9)]))])) (sSeq (sIf (gOr (gNot (gTru (eCall sem_are_shots [(eV 8)]))) (gOr (gNot (gTru (eCall sem_are_places [(eV 8), (eCB tupF [(eB 2)])]))) (gNot (gTru (eCall sem_are_marks [(eCB tupF [(eB 3)])]))))) (sRaiseX "BadText" "line" (eC .none)) sNx) (sRet (eTup [(eV 8), (eCB tupF [(eB 2)]), (eCB tupF [(eB 3)])])))))))))))
def sem_read : List D → Rs := runB 1 10 b_read
def lp__law_shown_1 : SF := (sApp 3 (eOp addF (eC (.str "row ")) (eTx joinF (eC (.str " ")) (eLc [6] (iSeq (eV 5)) (.nm 6) (eC (.bool true)) (eCB strIF [(eV 6)])))))
def lp__law_shown_2 : SF := (sSeq (sApp 3 (eOp addF (eOp addF (eOp addF (eC (.str "shot ")) (eCB strIF [(eOp ixF (eOp ixF (eV 1) (eV 4)) (eC (.int 0)))])) (eC (.str " "))) (eCB strIF [(eOp ixF (eOp ixF (eV 1) (eV 4)) (eC (.int 1)))]))) (sFor (iSeq (eOp ixF (eV 0) (eV 4))) (.nm 5) lp__law_shown_1))
def lp__law_shown_3 : SF := (sApp 3 (eOp addF (eOp addF (eOp addF (eC (.str "mark ")) (eOp ixF (eV 6) (eC (.int 0)))) (eC (.str " "))) (eTx joinF (eC (.str " ")) (eLc [7] (iSeq (eSl (eV 6) (some (eC (.int 1))) none)) (.nm 7) (eC (.bool true)) (eCB strIF [(eV 7)])))))
def b__law_shown : SF := (sSeq (sOwn 3 (eLst [])) (sSeq (sFor (iRange1 [(eCB lenF [(eV 0)])]) (.nm 4) lp__law_shown_2) (sSeq (sFor (iSeq (eV 2)) (.nm 6) lp__law_shown_3) (sRet (eTx joinF (eC (.str "\n")) (eB 3))))))
def sem__law_shown : List D → Rs := runB 3 8 b__law_shown
end VVlaw

set_option Elab.async false
set_option linter.all false
set_option maxRecDepth 100000
set_option maxHeartbeats 8000000
/-! PDa: dicts of the layer as lists of pairs, whatever the keys and values. -/
namespace VV
open PySem PySem.Spec L2
open PyProof.Rows hiding St
/-- how keys of a dict stand as data; tk: tuples -/
structure KeyE {α : Type} [DecidableEq α] (tk : Bool) (ek : α → D) : Prop where
  eqv : ∀ a b, PyData.eqv (ek a) (ek b) = decide (a = b)
  key : ∀ a, (if tk = true then isKeyT (ek a) else isKeyD (ek a)) = true
section
variable {α β : Type} [DecidableEq α] {tk : Bool} {ek : α → D} {ev : β → D}
def prD (ek : α → D) (ev : β → D) (e : α × β) : D × D := (ek e.1, ev e.2)
def dicA (tk : Bool) (ek : α → D) (ev : β → D) (E : List (α × β)) : D := .dict (if tk = true then (.none, .none) :: E.map (prD ek ev) else E.map (prD ek ev))
def getQ (E : List (α × β)) (k : α) : Option β := (E.find? fun e => decide (e.1 = k)).map (·.2)
def putQ (E : List (α × β)) (k : α) (v : β) : List (α × β) := if (E.any fun e => decide (e.1 = k)) = true then E.map (fun e => if e.1 = k then (e.1, v) else e) else E ++ [(k, v)]
theorem putQ_len (E : List (α × β)) (k : α) (v : β) : (putQ E k v).length ≤ E.length + 1 := by
  unfold putQ
  split
  · rw [List.length_map]; omega
  · rw [List.length_append]; simp
theorem putQ_keys (E : List (α × β)) (k : α) (v : β) : (putQ E k v).map (·.1) = if k ∈ E.map (·.1) then E.map (·.1) else E.map (·.1) ++ [k] := by
  have an : ((E.any fun e => decide (e.1 = k)) = true) ↔ k ∈ E.map (·.1) := by
    rw [List.any_eq_true]
    simp -implicitDefEqProofs only [decide_eq_true_eq, List.mem_map]
  unfold putQ
  by_cases h : (E.any fun e => decide (e.1 = k)) = true
  · rw [if_pos h, if_pos (an.mp h), List.map_map]
    refine List.map_congr_left fun e _ => ?_
    show (if e.1 = k then (e.1, v) else e).1 = e.1
    split <;> rfl
  · rw [if_neg h, if_neg fun z => h (an.mpr z), List.map_append]
    rfl
theorem putQ_nodup {E : List (α × β)} (k : α) (v : β) (nd : (E.map (·.1)).Nodup) : ((putQ E k v).map (·.1)).Nodup := by
  rw [putQ_keys]
  split
  · exact nd
  · rename_i h
    refine List.nodup_append.mpr ⟨nd, List.nodup_cons.mpr ⟨by simp, List.nodup_nil⟩, fun a ha b hb => ?_⟩
    rw [List.mem_singleton] at hb
    subst hb
    exact fun z => h (z ▸ ha)
theorem mem_putQ {E : List (α × β)} {k : α} {v : β} {e : α × β} (h : e ∈ putQ E k v) : e = (k, v) ∨ (e ∈ E ∧ e.1 ≠ k) := by
  unfold putQ at h
  split at h
  · obtain ⟨f, hf, rfl⟩ := List.mem_map.mp h
    by_cases q : f.1 = k
    · rw [if_pos q]
      exact .inl (by rw [q])
    · rw [if_neg q]
      exact .inr ⟨hf, q⟩
  · rename_i n
    rcases List.mem_append.mp h with h | h
    · refine .inr ⟨h, fun q => n ?_⟩
      exact List.any_eq_true.mpr ⟨e, h, decide_eq_true q⟩
    · exact .inl (List.mem_singleton.mp h)
theorem getQ_mem {E : List (α × β)} (nd : (E.map (·.1)).Nodup) {e : α × β} (h : e ∈ E) : getQ E e.1 = some e.2 := by
  unfold getQ
  induction E with
  | nil => cases h
  | cons f E ih =>
    rw [List.map_cons] at nd
    obtain ⟨n1, n2⟩ := List.nodup_cons.mp nd
    rw [List.find?_cons]
    rcases List.mem_cons.mp h with rfl | h
    · simp
    · have ne : ¬ f.1 = e.1 := fun z => n1 (z ▸ List.mem_map_of_mem h)
      simp -implicitDefEqProofs only [ne, decide_false]
      exact ih n2 h
theorem keyE_none {a : α} (K : KeyE tk ek) : ek a ≠ .none := fun z => by
  have := K.key a
  rw [z] at this
  cases tk <;> cases this
theorem dicA_rd (K : KeyE tk ek) (E : List (α × β)) : (asRd (dicA tk ek ev E)).isSome = false := by
  unfold dicA
  cases tk with
  | true => cases E <;> rfl
  | false =>
    cases E with
    | nil => rfl
    | cons e E =>
      simp -implicitDefEqProofs only [Bool.false_eq_true, if_false, List.map_cons, prD]
      have n : ek e.1 ≠ .none := keyE_none K
      cases hk : ek e.1 with
      | none => exact absurd hk n
      | _ => rfl
theorem dicA_split (K : KeyE tk ek) (E : List (α × β)) : splitD (if tk = true then (.none, .none) :: E.map (prD ek ev) else E.map (prD ek ev)) = (tk, E.map (prD ek ev)) := by
  cases tk with
  | true => rfl
  | false =>
    cases E with
    | nil => rfl
    | cons e E =>
      simp -implicitDefEqProofs only [Bool.false_eq_true, if_false, List.map_cons, prD]
      have n : ek e.1 ≠ .none := keyE_none K
      cases hk : ek e.1 with
      | none => exact absurd hk n
      | _ => rfl
theorem dget_dic (K : KeyE tk ek) (E : List (α × β)) (k : α) : dgetP (E.map (prD ek ev)) (ek k) = (getQ E k).map ev := by
  unfold dgetP getQ
  rw [List.find?_map]
  have : ((fun q : D × D => PyData.eqv q.1 (ek k)) ∘ prD ek ev) = fun e : α × β => decide (e.1 = k) := funext fun e => K.eqv e.1 k
  rw [this, Option.map_map, Option.map_map]
  rfl
theorem dAt_dic (K : KeyE tk ek) (E : List (α × β)) (k : α) : dAt (dicA tk ek ev E) (ek k) = some ((getQ E k).map ev) := by
  have r := dicA_rd (ev := ev) K E
  have s := dicA_split (ev := ev) K E
  have g := dget_dic (ev := ev) K E k
  have q := K.key k
  unfold dicA at r ⊢
  unfold dAt
  dsimp only
  rw [r, s]
  simp -implicitDefEqProofs only [Bool.false_eq_true, if_false]
  cases tk with
  | true =>
    simp -implicitDefEqProofs only [if_true] at q ⊢
    rw [if_pos q, g]
  | false =>
    simp -implicitDefEqProofs only [Bool.false_eq_true, if_false] at q ⊢
    rw [if_pos q, g]
theorem dix_dic (K : KeyE tk ek) {E : List (α × β)} {k : α} {v : β} (h : getQ E k = some v) : dixF (dicA tk ek ev E) (ek k) = some (ev v) := by
  unfold dixF
  rw [dAt_dic K, h]
  rfl
theorem dput_dic (K : KeyE tk ek) (E : List (α × β)) (k : α) (v : β) : dputP (E.map (prD ek ev)) (ek k) (ev v) = (putQ E k v).map (prD ek ev) := by
  unfold dputP putQ
  have an : ((E.map (prD ek ev)).any fun q => PyData.eqv q.1 (ek k)) = E.any fun e => decide (e.1 = k) := by
    rw [List.any_map]
    refine congrArg (fun f => E.any f) (funext fun e => ?_)
    exact K.eqv e.1 k
  rw [an]
  by_cases h : (E.any fun e => decide (e.1 = k)) = true
  · rw [if_pos h, if_pos h, List.map_map, List.map_map]
    refine List.map_congr_left fun e _ => ?_
    show (if PyData.eqv (ek e.1) (ek k) = true then (ek e.1, ev v) else prD ek ev e) = prD ek ev (if e.1 = k then (e.1, v) else e)
    rw [K.eqv]
    by_cases h : e.1 = k
    · rw [if_pos h, if_pos (decide_eq_true h)]
      rfl
    · rw [if_neg h, if_neg (by simp [h])]
  · rw [if_neg h, if_neg h, List.map_append]
    rfl
theorem dPut_dic (K : KeyE tk ek) (E : List (α × β)) (k : α) (v : β) (h : E.length < 16777216) : dPut (dicA tk ek ev E) (ek k) (ev v) = some (dicA tk ek ev (putQ E k v)) := by
  have r := dicA_rd (ev := ev) K E
  have s := dicA_split (ev := ev) K E
  have g := dput_dic (ev := ev) K E k v
  have q := K.key k
  have hz : decide ((E.map (prD ek ev)).length < sizeLine) = true := decide_eq_true (by rw [List.length_map, sizeLine_eq]; exact h)
  unfold dicA at r ⊢
  unfold dPut
  dsimp only
  rw [r, s]
  simp -implicitDefEqProofs only [Bool.false_eq_true, if_false]
  cases tk with
  | true =>
    simp -implicitDefEqProofs only [if_true] at q ⊢
    rw [q, hz, g]
    rfl
  | false =>
    simp -implicitDefEqProofs only [Bool.false_eq_true, if_false] at q ⊢
    rw [q, hz, g]
    rfl
theorem keys_dic (K : KeyE tk ek) (E : List (α × β)) : keysD (dicA tk ek ev E) = some (E.map fun e => ek e.1) := by
  have r := dicA_rd (ev := ev) K E
  have s := dicA_split (ev := ev) K E
  unfold dicA at r ⊢
  unfold keysD
  dsimp only
  rw [r, s]
  simp -implicitDefEqProofs only [Bool.false_eq_true, if_false, List.map_map]
  rfl
/-- d[k] = v, by slots -/
theorem put_dic (K : KeyE tk ek) {i : Nat} {fk fv : EF} {ρ : En} {E : List (α × β)} {k : α} {v : β} (hi : ρ[i]? = some (some (.own (dicA tk ek ev E)))) (hj : fk ρ = .ok (ek k)) (hk : fv ρ = .ok (ev v)) (h : E.length < 16777216) : sPutD i fk fv ρ = .nx (ρ.set i (some (.own (dicA tk ek ev (putQ E k v))))) := by
  have pt := dPut_dic (ev := ev) K E k v h
  unfold sPutD ownD
  rw [hk, hj, hi, Rs.out_ok]
  simp -implicitDefEqProofs only [Rs.out_ok]
  rw [pt]
end
theorem Ly.str (k : Nat) {x : Str} (h : PyData.strOk x = true) : Ly k (.str x) := ⟨by simp [PyData.canLay0, h], by simp [PyData.depth]⟩
theorem okSort_strsB (ks : List Str) (ok : ∀ k ∈ ks, PyData.strOk k = true) : okSort (ks.map PyData.str) = true := by
  unfold okSort
  rw [Bool.and_eq_true, Bool.and_eq_true, Bool.or_eq_true]
  refine ⟨⟨List.all_eq_true.mpr fun d m => List.all_eq_true.mpr fun e m' => ?_, .inr (List.all_eq_true.mpr fun d m => ?_)⟩, List.all_eq_true.mpr fun d m => ?_⟩ <;> obtain ⟨x, hx, rfl⟩ := List.mem_map.mp m
  · obtain ⟨y, _, rfl⟩ := List.mem_map.mp m'
    exact alike_str x y
  · rfl
  · rw [Bool.and_eq_true]
    exact ⟨by simp [PyData.canLay0, ok x hx], decide_eq_true (by simp [PyData.depth])⟩
theorem sort_dic {α β : Type} [DecidableEq α] {tk : Bool} {ek : α → D} {ev : β → D} (K : KeyE tk ek) (E : List (α × β)) (ok : okSort (E.map fun e => ek e.1) = true) : sortF [dicA tk ek ev E] = some (.list (sortD (E.map fun e => ek e.1))) := by
  have k := keys_dic (ev := ev) K E
  have e : sortF [dicA tk ek ev E] = (keysD (dicA tk ek ev E)).bind fun ks => if okSort ks = true then some (.list (sortD ks)) else none := rfl
  rw [e, k, Option.bind_some, if_pos ok]
theorem cutF_nat {α : Type} (xs : List α) (a : Nat) (h : a ≤ xs.length) : cutL xs (some (a : Int)) none = xs.drop a := by
  unfold cutL
  rw [HT.sIx_nat, HT.sIx_none, Nat.min_eq_left h]
  exact List.take_of_length_le (by rw [List.length_drop]; omega)
theorem cutT_nat {α : Type} (xs : List α) (b : Nat) : cutL xs none (some (b : Int)) = xs.take b := by
  unfold cutL
  rw [HT.sIx_nat, HT.sIx_none, List.drop_zero, Nat.sub_zero]
  rcases Nat.le_total b xs.length with h | h
  · rw [Nat.min_eq_left h]
  · rw [Nat.min_eq_right h, List.take_of_length_le (Nat.le_refl _), List.take_of_length_le h]
theorem zipTail_of {α : Type} {R : α → α → Prop} : ∀ {xs : List α}, xs.Pairwise R → ∀ p ∈ xs.zip xs.tail, R p.1 p.2
  | [], _, p, h => by simp at h
  | [x], _, p, h => by simp at h
  | x :: y :: xs, hp, p, h => by
    obtain ⟨h1, h2⟩ := List.pairwise_cons.mp hp
    rw [List.tail_cons, List.zip_cons_cons] at h
    rcases List.mem_cons.mp h with rfl | h
    · exact h1 y (by simp)
    · exact zipTail_of h2 p h
theorem keyE_str : KeyE false PyData.str := ⟨fun a b => by simp -implicitDefEqProofs only [PyData.eqv]; rw [Bool.eq_iff_iff]; simp, fun _ => rfl⟩
end VV

set_option Elab.async false
set_option linter.all false
set_option maxRecDepth 100000
set_option maxHeartbeats 8000000
/-! PQ1: how many cells boxes cover, by a grid of their edges. -/
namespace VVlaw
/-! ### sums -/
/-! ### sums by edges -/
/-! ### boxes -/
structure Bx where
  x : Nat
  y : Nat
  w : Nat
  h : Nat
def Bx.has (b : Bx) (x y : Nat) : Bool := decide (b.x ≤ x) && decide (x < b.x + b.w) && (decide (b.y ≤ y) && decide (y < b.y + b.h))
/-! ### one box more -/
end VVlaw

set_option Elab.async false
set_option linter.all false
set_option maxRecDepth 100000
set_option maxHeartbeats 4000000
/-! PLt: try and except, by need; least and greatest of a list. -/
namespace VVlaw
open PySem PySem.Spec L2 VV
open PyProof.Rows hiding St
theorem clr_rt (i : Nat) (d : D) : Out.clr i (.rt d) = .rt d := rfl
end VVlaw

set_option Elab.async false
set_option linter.all false
set_option maxRecDepth 100000
set_option maxHeartbeats 8000000
/-! PLq: grids of sums and counts; a level halved. -/
namespace VVlaw
open PySem PySem.Spec L2 VV
open PyProof.Rows hiding St
abbrev Pr := Int × Int
def prD (p : Pr) : D := .tuple [.int p.1, .int p.2]
/-- what stands at x, y -/
abbrev GF := Nat → Nat → Pr
def half (f : GF) : GF := fun x y => ((f (2 * x) (2 * y)).1 + (f (2 * x + 1) (2 * y)).1 + (f (2 * x) (2 * y + 1)).1 + (f (2 * x + 1) (2 * y + 1)).1, (f (2 * x) (2 * y)).2 + (f (2 * x + 1) (2 * y)).2 + (f (2 * x) (2 * y + 1)).2 + (f (2 * x + 1) (2 * y + 1)).2)
def up2 (n : Nat) : Nat := (n + 1) / 2
end VVlaw

set_option Elab.async false
set_option linter.all false
set_option maxRecDepth 100000
set_option maxHeartbeats 8000000
/-! PLr: a level halved. -/
namespace VVlaw
open PySem PySem.Spec L2 VV
open PyProof.Rows hiding St
end VVlaw

set_option Elab.async false
set_option linter.all false
set_option maxRecDepth 100000
set_option maxHeartbeats 8000000
/-! PLu: the tiles of a level. -/
namespace VVlaw
open PySem PySem.Spec L2 VV
open PyProof.Rows hiding St
theorem any_nil {α : Type} (p : α → Bool) : ∀ xs : List α, (xs.filter p).isEmpty = !(xs.any p)
  | [] => rfl
  | x :: xs => by
    have := any_nil p xs
    cases h : p x <;> simp_all [List.filter_cons]
end VVlaw

set_option Elab.async false
set_option linter.all false
set_option maxRecDepth 100000
set_option maxHeartbeats 8000000
/-! PLv: the pyramid of a picture. -/
namespace VVlaw
open PySem PySem.Spec L2 VV
open PyProof.Rows hiding St
/-- the levels of a picture -/
def Fl (f : GF) : Nat → GF
  | 0 => f
  | k + 1 => half (Fl f k)
def upN (n : Nat) : Nat → Nat
  | 0 => n
  | k + 1 => up2 (upN n k)
def smallAt (h w side k : Nat) : Prop := upN h k ≤ side ∧ upN w k ≤ side
instance (h w side k : Nat) : Decidable (smallAt h w side k) := inferInstanceAs (Decidable (_ ∧ _))
/-- the number of the last level -/
structure Top (h w side t : Nat) : Prop where
  below : ∀ k, k < t → ¬ smallAt h w side k
  here : smallAt h w side t
/-- a picture -/
abbrev Pic := List (List (Option Int))
def oD : Option Int → D
  | none => .none
  | some v => .int v
structure Pc2 (p : Pic) (h w : Nat) : Prop where
  len : p.length = h
  row : ∀ r ∈ p, r.length = w
  lev : ∀ r ∈ p, ∀ v, some v ∈ r → 0 ≤ v ∧ v ≤ 255
  h1 : 1 ≤ h
  h2 : h ≤ 120
  w1 : 1 ≤ w
  w2 : w ≤ 120
end VVlaw

set_option Elab.async false
set_option linter.all false
set_option maxRecDepth 100000
set_option maxHeartbeats 8000000
/-! PLw: tiles sorted. -/
namespace VVlaw
open PySem PySem.Spec L2 VV
open PyProof.Rows hiding St
end VVlaw

set_option Elab.async false
set_option linter.all false
set_option maxRecDepth 100000
set_option maxHeartbeats 8000000
/-! PLx: built_of. -/
namespace VVlaw
open PySem PySem.Spec L2 VV
open PyProof.Rows hiding St
end VVlaw

set_option Elab.async false
set_option linter.all false
set_option maxRecDepth 100000
set_option maxHeartbeats 8000000
/-! PLy: pictures looked at; built. -/
namespace VVlaw
open PySem PySem.Spec L2 VV
open PyProof.Rows hiding St
theorem ne_int_self (i : Int) : neF (.int i) (.int i) = some (.bool false) := f_ne_self (Ly.int 0 i) (by decide)
def okSide (side : Nat) : Prop := side = 2 ∨ side = 4 ∨ side = 8
theorem okSide.bd {side : Nat} (h : okSide side) : 2 ≤ side ∧ side ≤ 8 := by
  unfold okSide at h
  omega
end VVlaw

set_option Elab.async false
set_option linter.all false
set_option maxRecDepth 100000
set_option maxHeartbeats 8000000
/-! PLz: the last level told. -/
namespace VVlaw
open PySem PySem.Spec L2 VV
open PyProof.Rows hiding St
abbrev tC : EF := gOr (eOp gtF (eV 2) (eV 1)) (eOp gtF (eV 3) (eV 1))
end VVlaw

set_option Elab.async false
set_option linter.all false
set_option maxRecDepth 100000
set_option maxHeartbeats 8000000
/-! PM1: bounds of sums and counts; blocks. -/
namespace VVlaw
open PySem PySem.Spec L2 VV
open PyProof.Rows hiding St
/-- sums over 0 .. n - 1 -/
def Sm (n : Nat) (g : Nat → Int) : Int := ((List.range n).map g).sum
end VVlaw

set_option Elab.async false
set_option linter.all false
set_option maxRecDepth 100000
set_option maxHeartbeats 8000000
/-! PM2: the form of a pyramid. -/
namespace VVlaw
open PySem PySem.Spec L2 VV
open PyProof.Rows hiding St
end VVlaw

set_option Elab.async false
set_option linter.all false
set_option maxRecDepth 100000
set_option maxHeartbeats 8000000
/-! PMe: enumerate over what stands by number. -/
namespace VVlaw
open PySem PySem.Spec L2 VV
open PyProof.Rows hiding St
abbrev vl (d : D) : Option Sl := some (.val d)
abbrev vi (i : Int) : Option Sl := some (.val (.int i))
end VVlaw

set_option Elab.async false
set_option linter.all false
set_option maxRecDepth 100000
set_option maxHeartbeats 8000000
/-! PM3: the picture that a pyramid tells. -/
namespace VVlaw
open PySem PySem.Spec L2 VV
open PyProof.Rows hiding St
/-- a cell of a picture -/
def cel (p : Pic) (x y : Nat) : Option Int := (p.getD y []).getD x none
/-- the cells that are told so far -/
def part (p : Pic) (S : List (Nat × Nat)) (x y : Nat) : D := if (x, y) ∈ S then oD (cel p x y) else .none
end VVlaw

set_option Elab.async false
set_option linter.all false
set_option maxRecDepth 100000
set_option maxHeartbeats 8000000
/-! PQ2: marks; boxes that meet; how many cells are covered. -/
namespace VVlaw
open PySem PySem.Spec L2 VV
open PyProof.Rows hiding St
structure Mk where
  nm : Str
  b : Bx
def mkD (m : Mk) : D := .tuple [.str m.nm, .int (m.b.x : Int), .int (m.b.y : Int), .int (m.b.w : Int), .int (m.b.h : Int)]
structure Mk.Ok (m : Mk) : Prop where
  nm : sem_is_name [.str m.nm] = .ok (.bool true)
  x : m.b.x ≤ 99
  y : m.b.y ≤ 99
  w1 : 1 ≤ m.b.w
  w2 : m.b.w ≤ 99
  h1 : 1 ≤ m.b.h
  h2 : m.b.h ≤ 99
def nmLt (a b : Str) : Bool := decide (a.cps.toList < b.cps.toList)
structure Marks (ms : List Mk) : Prop where
  ok : ∀ m ∈ ms, m.Ok
  len : ms.length ≤ 12
  up : ∀ p ∈ ms.zip ms.tail, nmLt p.1.nm p.2.nm = true
def msD (ms : List Mk) : D := .tuple (ms.map mkD)
theorem mk_at (m : Mk) : ixF (mkD m) (.int 0) = some (.str m.nm) ∧ ixF (mkD m) (.int 1) = some (.int (m.b.x : Int)) ∧ ixF (mkD m) (.int 2) = some (.int (m.b.y : Int)) ∧ ixF (mkD m) (.int 3) = some (.int (m.b.w : Int)) ∧ ixF (mkD m) (.int 4) = some (.int (m.b.h : Int)) :=
  ⟨f_ix0 _ _, f_ix1 _ _ _, f_ix2 _ _ _ _, f_ix3 _ _ _ _ _, f_ix_t _ 4 (by decide) (by simp)⟩
theorem within_t {v a b : Int} (h : a ≤ v ∧ v ≤ b) : sem_is_within [.int v, .int a, .int b] = .ok (.bool true) := by
  rw [is_within_eq, decide_eq_true h]
theorem no_odd {lo hi : Int} (i : Nat) (f : IF) (us : List Int) (hu : ∀ u ∈ us, lo ≤ u ∧ u ≤ hi) (ρ : En) (hl : i < ρ.length) (hf : f ρ = .ok (us.map PyData.int)) : eLc [i] f (.nm i) (gNot (gTru (eCall sem_is_within [(eV i), (eC (.int lo)), (eC (.int hi))]))) (eV i) ρ = .ok (.list []) := by
  refine eLc_noneA us PyData.int hf fun u hm => ?_
  have g : ((wipeE ρ [i]).set i (some (.val (.int u))))[i]? = some (vi u) := List.getElem?_set_self (by rw [wipeE_length]; exact hl)
  have w := within_t (hu u hm)
  generalize (wipeE ρ [i]).set i (some (.val (.int u))) = ρ2 at g ⊢
  simp -implicitDefEqProofs only [g, w, evs_, Option.bind_some, List.getElem?_cons_zero, List.getElem?_cons_succ, List.set_cons_zero, List.set_cons_succ, List.map_cons, List.map_nil, List.cons_append, List.nil_append, List.length_cons, List.length_nil, Nat.reduceAdd, Nat.reduceSub, Nat.reduceLeDiff, Nat.reduceLT, Bool.not_true, Bool.not_false, decide_true, decide_false]
theorem is_mark_eq {m : Mk} (M : m.Ok) : sem_is_mark [mkD m] = .ok (.bool true) := by
  have i0 : isiO isTup (.ok (mkD m)) = .ok (.bool true) := rfl
  have l0 : lenF [mkD m] = some (.int 5) := rfl
  have n5 : neF (.int 5) (.int 5) = some (.bool false) := ne_int_self 5
  have x0 := (mk_at m).1
  have nm := M.nm
  have s1 : slF (mkD m) (some 1) (some 3) = some (.tuple ([(m.b.x : Int), (m.b.y : Int)].map PyData.int)) := rfl
  have s2 : slF (mkD m) (some 3) none = some (.tuple ([(m.b.w : Int), (m.b.h : Int)].map PyData.int)) := rfl
  have a := M.x
  have b := M.y
  have c := M.w1
  have d := M.w2
  have e := M.h1
  have f := M.h2
  have c1 : ∀ ρ : En, ρ.length = 2 → ρ[0]? = some (vl (mkD m)) → eLc [1] (iSeq (eSl (eV 0) (some (eC (.int 1))) (some (eC (.int 3))))) (.nm 1) (gNot (gTru (eCall sem_is_within [(eV 1), (eC (.int 0)), (eC (.int 99))]))) (eV 1) ρ = .ok (.list []) := fun ρ hl e0 =>
    no_odd 1 _ [(m.b.x : Int), (m.b.y : Int)] (fun u hu => by simp at hu; rcases hu with rfl | rfl <;> omega) ρ (by omega) (by simp -implicitDefEqProofs only [e0, s1, evs_, Option.bind_some, List.getElem?_cons_zero, List.getElem?_cons_succ, List.set_cons_zero, List.set_cons_succ, List.map_cons, List.map_nil, List.cons_append, List.nil_append, List.length_cons, List.length_nil, Nat.reduceAdd, Nat.reduceSub, Nat.reduceLeDiff, Nat.reduceLT, Bool.not_true, Bool.not_false, decide_true, decide_false])
  have c2 : ∀ ρ : En, ρ.length = 2 → ρ[0]? = some (vl (mkD m)) → eLc [1] (iSeq (eSl (eV 0) (some (eC (.int 3))) none)) (.nm 1) (gNot (gTru (eCall sem_is_within [(eV 1), (eC (.int 1)), (eC (.int 99))]))) (eV 1) ρ = .ok (.list []) := fun ρ hl e0 =>
    no_odd 1 _ [(m.b.w : Int), (m.b.h : Int)] (fun u hu => by simp at hu; rcases hu with rfl | rfl <;> omega) ρ (by omega) (by simp -implicitDefEqProofs only [e0, s2, evs_, Option.bind_some, List.getElem?_cons_zero, List.getElem?_cons_succ, List.set_cons_zero, List.set_cons_succ, List.map_cons, List.map_nil, List.cons_append, List.nil_append, List.length_cons, List.length_nil, Nat.reduceAdd, Nat.reduceSub, Nat.reduceLeDiff, Nat.reduceLT, Bool.not_true, Bool.not_false, decide_true, decide_false])
  generalize mkD m = dm at *
  simp -implicitDefEqProofs only [sem_is_mark, b_is_mark, i0, l0, n5, x0, nm, evs_, Option.bind_some, List.getElem?_cons_zero, List.getElem?_cons_succ, List.set_cons_zero, List.set_cons_succ, List.map_cons, List.map_nil, List.cons_append, List.nil_append, List.length_cons, List.length_nil, Nat.reduceAdd, Nat.reduceSub, Nat.reduceLeDiff, Nat.reduceLT, Bool.not_true, Bool.not_false, decide_true, decide_false]
  rw [c1 _ rfl rfl]
  simp -implicitDefEqProofs only [List.isEmpty_nil, Bool.not_true, evs_, Option.bind_some, List.getElem?_cons_zero, List.getElem?_cons_succ, List.set_cons_zero, List.set_cons_succ, List.map_cons, List.map_nil, List.cons_append, List.nil_append, List.length_cons, List.length_nil, Nat.reduceAdd, Nat.reduceSub, Nat.reduceLeDiff, Nat.reduceLT, Bool.not_true, Bool.not_false, decide_true, decide_false]
  rw [c2 _ rfl rfl]
  simp -implicitDefEqProofs only [List.isEmpty_nil, Bool.not_true, evs_, Option.bind_some, List.getElem?_cons_zero, List.getElem?_cons_succ, List.set_cons_zero, List.set_cons_succ, List.map_cons, List.map_nil, List.cons_append, List.nil_append, List.length_cons, List.length_nil, Nat.reduceAdd, Nat.reduceSub, Nat.reduceLeDiff, Nat.reduceLT, Bool.not_true, Bool.not_false, decide_true, decide_false]
/-! ### meeting -/
end VVlaw

set_option Elab.async false
set_option linter.all false
set_option maxRecDepth 100000
set_option maxHeartbeats 8000000
/-! TXb: words and lines, as the program reads them. -/
namespace VVlaw
open PySem PySem.Spec L2 VV
open PyProof.Rows hiding St
open TL
def txO (fn : D → D → Option D) : Rs → EF → EF
  | .ok (.str a), g, ρ => (g ρ).bind fun y => Rs.of (fn (.str a) y)
  | .exc c fs, _, _ => .exc c fs
  | _, _, _ => .bad
theorem ap_eTx (fn : D → D → Option D) (f g : EF) (ρ : En) : eTx fn f g ρ = txO fn (f ρ) g ρ := by
  unfold eTx txO
  cases f ρ with
  | ok d => cases d <;> rfl
  | exc _ _ => rfl
  | bad => rfl
def mkS (w : List Nat) : Str := ⟨w.toArray⟩
def wD (w : List Nat) : D := .str (mkS w)
theorem txO_w (fn : D → D → Option D) (w : List Nat) (g : EF) (ρ : En) : txO fn (.ok (wD w)) g ρ = (g ρ).bind fun y => Rs.of (fn (wD w) y) := rfl
theorem tl_mkS (w : List Nat) : tl (mkS w) = w := rfl
theorem mkS_len (w : List Nat) : (mkS w).length = w.length := len_tl _
theorem mkS_app (a b : List Nat) : mkS a ++ mkS b = mkS (a ++ b) := ext_tl (by rw [tl_append]; rfl)
theorem mkS_inj {a b : List Nat} (h : mkS a = mkS b) : a = b := congrArg tl h
theorem lit {x : Str} {w : List Nat} (h : tl x = w) : PyData.str x = wD w := by
  rw [← h]
  unfold wD mkS
  rw [mk_tl]
/-- signs that there are -/
def Asc (w : List Nat) : Prop := ∀ c ∈ w, c < 1114112
instance (w : List Nat) : Decidable (Asc w) := inferInstanceAs (Decidable (∀ c ∈ w, c < 1114112))
theorem ok_w {w : List Nat} (h : Asc w) : PyData.strOk (mkS w) = true := by
  unfold PyData.strOk mkS
  rw [List.all_toArray, List.all_eq_true]
  exact fun c hc => decide_eq_true (h c hc)
theorem ly_w (k : Nat) {w : List Nat} (h : Asc w) : Ly k (wD w) := Ly.str k (ok_w h)
theorem eqv_w (a b : List Nat) : PyData.eqv (wD a) (wD b) = decide (a = b) := by
  unfold wD
  simp -implicitDefEqProofs only [PyData.eqv]
  by_cases h : a = b
  · rw [h]; simp
  · rw [decide_eq_false h]
    exact beq_eq_false_iff_ne.mpr fun z => h (mkS_inj z)
theorem eq_w {a b : List Nat} (ha : Asc a) (hb : Asc b) : eqF (wD a) (wD b) = some (.bool (decide (a = b))) := by
  rw [f_eq (ly_w 0 ha) (ly_w 0 hb) (by decide), eqv_w]
theorem ne_w {a b : List Nat} (ha : Asc a) (hb : Asc b) : neF (wD a) (wD b) = some (.bool (!decide (a = b))) := by
  rw [f_ne (ly_w 0 ha) (ly_w 0 hb) (by decide), eqv_w]
theorem add_w {a b : List Nat} (h : a.length + b.length ≤ 16777216) : addF (wD a) (wD b) = some (wD (a ++ b)) := by
  show (if (mkS a).length + (mkS b).length ≤ sizeLine then some (PyData.str (mkS a ++ mkS b)) else none) = _
  rw [mkS_len, mkS_len, if_pos (show a.length + b.length ≤ sizeLine from h), mkS_app]
  rfl
theorem len_w {a : List Nat} (h : a.length ≤ 16777216) : lenF [wD a] = some (.int (a.length : Int)) := by
  show (if (mkS a).length ≤ sizeLine then some (PyData.int ((mkS a).length : Int)) else none) = _
  rw [mkS_len, if_pos (show a.length ≤ sizeLine from h)]
theorem numS_nat (n : Nat) : PyData.str (numS (n : Int)) = wD (numL n) := lit (tl_num n)
theorem log_ok {n : Nat} (h : n < 2 ^ 64) : ((n : Int)).natAbs.log2 < 1920 := by
  rw [Int.natAbs_natCast]
  by_cases h0 : n = 0
  · rw [h0]; decide
  · have := (Nat.log2_lt (n := n) (k := 64) h0).2 h
    omega
theorem str_n {n : Nat} (h : n < 2 ^ 64) : strIF [.int (n : Int)] = some (wD (numL n)) := by
  show (if _ then some (PyData.str (numS (n : Int))) else none) = _
  rw [if_pos (log_ok h), numS_nat]
theorem fmt_n {n : Nat} (h : n < 2 ^ 64) : fmtF (.int (n : Int)) = some (wD (numL n)) := by
  show (if _ then some (PyData.str (numS (n : Int))) else none) = _
  rw [if_pos (log_ok h), numS_nat]
theorem small_of {n : Nat} (h : (numL n).length ≤ 5) : n < 2 ^ 64 := by
  by_cases z : n < 10
  · omega
  · have len : ∀ k m : Nat, 10 ^ k ≤ m → k < (numL m).length := by
      intro k
      induction k with
      | zero => exact fun m _ => List.length_pos_iff.mpr (numL_ne m)
      | succ k ih =>
        intro m hm
        have h10 : 10 ≤ m := by
          have : 10 ^ 1 ≤ 10 ^ (k + 1) := Nat.pow_le_pow_right (by decide) (by omega)
          omega
        have := ih (m / 10) (by
          rw [Nat.le_div_iff_mul_le (by decide)]
          rw [Nat.pow_succ] at hm
          exact hm)
        rw [numL_step h10, List.length_append]
        simp -implicitDefEqProofs only [List.length_cons, List.length_nil]
        omega
    rcases Nat.lt_or_ge n (10 ^ 5) with q | q
    · have : (10 : Nat) ^ 5 < 2 ^ 64 := by decide
      omega
    · have := len 5 n q
      omega
def optN : Option Nat → D
  | some n => .int (n : Int)
  | none => .none
theorem digits_lit : tl (("0123456789" : String) : Str) = [48, 49, 50, 51, 52, 53, 54, 55, 56, 57] := by kernel_rfl
theorem dig_mem (c : Nat) : decide (c ∈ [48, 49, 50, 51, 52, 53, 54, 55, 56, 57]) = decide (48 ≤ c ∧ c ≤ 57) := by
  apply Bool.eq_iff_iff.mpr
  simp -implicitDefEqProofs only [decide_eq_true_eq, List.mem_cons, List.not_mem_nil, or_false]
  omega
theorem intT_w {w : List Nat} (h1 : 1 ≤ w.length) (h2 : w.length ≤ 5) (h : allDig w = true) : intTF [wD w] = some (.int (valL w : Int)) := by
  show (if (mkS w).length ≤ 640 then (PySem.intText? (mkS w)).map PyData.int else none) = _
  rw [mkS_len, if_pos (by omega)]
  have ad : NumText.AllDigits (mkS w).cps.toList := fun c hc => of_decide_eq_true (List.all_eq_true.mp h c hc)
  rw [intText_digits ad (by
    intro z
    have : w = [] := z
    rw [this] at h1
    simp at h1) (by rw [mkS_len]; omega)]
  rfl
theorem val_len {w : List Nat} (h : w.length ≤ 5) (hd : allDig w = true) : valL w < 2 ^ 64 := by
  have key : ∀ (w : List Nat) (a : Nat), (∀ c ∈ w, 48 ≤ c ∧ c ≤ 57) → w.foldl (fun acc c => acc * 10 + (c - 48)) a < (a + 1) * 10 ^ w.length := by
    intro w
    induction w with
    | nil => intro a _; simp
    | cons c w ih =>
      intro a hc
      have h1 := hc c List.mem_cons_self
      have := ih (a * 10 + (c - 48)) fun x hx => hc x (List.mem_cons_of_mem _ hx)
      rw [List.foldl_cons, List.length_cons, Nat.pow_succ]
      refine Nat.lt_of_lt_of_le this ?_
      rw [Nat.mul_comm (10 ^ w.length) 10, ← Nat.mul_assoc]
      exact Nat.mul_le_mul_right _ (by omega)
  have := key w 0 fun c hc => of_decide_eq_true (List.all_eq_true.mp hd c hc)
  have e : valL w = w.foldl (fun acc c => acc * 10 + (c - 48)) 0 := rfl
  rw [e]
  have p : (10 : Nat) ^ w.length ≤ 10 ^ 5 := Nat.pow_le_pow_right (by decide) h
  have : (10 : Nat) ^ 5 < 2 ^ 64 := by decide
  omega
theorem asc_num (n : Nat) : Asc (numL n) := fun c hc => by
  have := numL_digits n c hc
  omega
theorem number_of_eq {w : List Nat} (hl : w.length ≤ 16777216) (ha : Asc w) : sem_number_of [wD w] = .ok (optN (numW w)) := by
  have l0 := len_w hl
  have c1 : ∀ ρ : En, ρ.length = 2 → ρ[0]? = some (vl (wD w)) → eLc [1] (iSeq (eV 0)) (.nm 1) (eOp ninF (eV 1) (eC (.str "0123456789"))) (eV 1) ρ = .ok (.list ((w.filter fun c => !decide (48 ≤ c ∧ c ≤ 57)).map fun c => .str ⟨#[c]⟩)) := by
    intro ρ hρ e0
    refine eLc_filtT w (fun c => .str ⟨#[c]⟩) (fun c => .str ⟨#[c]⟩) _ (by simp -implicitDefEqProofs only [e0, evs_, Option.bind_some, List.getElem?_cons_zero, List.getElem?_cons_succ, List.set_cons_zero, List.set_cons_succ, List.map_cons, List.map_nil, List.cons_append, List.nil_append, List.length_cons, List.length_nil, Nat.reduceAdd, Nat.reduceSub, Nat.reduceLeDiff, Nat.reduceLT, Bool.not_true, Bool.not_false, decide_true, decide_false]; rfl) hl fun c hc => ?_
    refine ⟨_, bT_nm _ _ _, ?_⟩
    have g : ((wipeE ρ [1]).set 1 (some (.val (.str ⟨#[c]⟩))))[1]? = some (vl (.str ⟨#[c]⟩)) := List.getElem?_set_self (by rw [wipeE_length]; omega)
    have nn : ninF (.str ⟨#[c]⟩) (.str "0123456789") = some (.bool (!decide (48 ≤ c ∧ c ≤ 57))) := by
      have : ninF (.str ⟨#[c]⟩) (.str "0123456789") = some (.bool (!decide (c ∈ tl (("0123456789" : String) : Str)))) := rfl
      rw [this, digits_lit, dig_mem]
    generalize (wipeE ρ [1]).set 1 (some (.val (.str ⟨#[c]⟩))) = ρ2 at g ⊢
    exact ⟨by simp -implicitDefEqProofs only [g, nn, evs_, Option.bind_some, List.getElem?_cons_zero, List.getElem?_cons_succ, List.set_cons_zero, List.set_cons_succ, List.map_cons, List.map_nil, List.cons_append, List.nil_append, List.length_cons, List.length_nil, Nat.reduceAdd, Nat.reduceSub, Nat.reduceLeDiff, Nat.reduceLT, Bool.not_true, Bool.not_false, decide_true, decide_false], fun _ => by simp -implicitDefEqProofs only [g, evs_, Option.bind_some, List.getElem?_cons_zero, List.getElem?_cons_succ, List.set_cons_zero, List.set_cons_succ, List.map_cons, List.map_nil, List.cons_append, List.nil_append, List.length_cons, List.length_nil, Nat.reduceAdd, Nat.reduceSub, Nat.reduceLeDiff, Nat.reduceLT, Bool.not_true, Bool.not_false, decide_true, decide_false]⟩
  by_cases hd : (decide (1 ≤ w.length ∧ w.length ≤ 5) && allDig w) = true
  · have hd' := hd
    simp -implicitDefEqProofs only [Bool.and_eq_true, decide_eq_true_eq] at hd'
    obtain ⟨⟨h1, h2⟩, h3⟩ := hd'
    have fe : (w.filter fun c => !decide (48 ≤ c ∧ c ≤ 57)) = [] := by
      apply List.filter_eq_nil_iff.mpr
      intro c hc
      have := of_decide_eq_true (List.all_eq_true.mp h3 c hc)
      simp [this]
    rw [fe] at c1
    have it := intT_w h1 h2 h3
    have st := str_n (val_len h2 h3)
    have eq := eq_w (asc_num (valL w)) ha
    have r1 : decide ((1 : Int) ≤ (w.length : Int)) = true := decide_eq_true (by omega)
    have r2 : decide ((w.length : Int) ≤ 5) = true := decide_eq_true (by omega)
    generalize hD : wD w = d at *
    simp -implicitDefEqProofs only [sem_number_of, b_number_of, l0, r1, r2, evs_, Option.bind_some, List.getElem?_cons_zero, List.getElem?_cons_succ, List.set_cons_zero, List.set_cons_succ, List.map_cons, List.map_nil, List.cons_append, List.nil_append, List.length_cons, List.length_nil, Nat.reduceAdd, Nat.reduceSub, Nat.reduceLeDiff, Nat.reduceLT, Bool.not_true, Bool.not_false, decide_true, decide_false]
    rw [c1 _ rfl rfl]
    simp -implicitDefEqProofs only [List.isEmpty_nil, List.map_nil, Bool.not_true, Bool.not_false, it, st, eq, evs_, Option.bind_some, List.getElem?_cons_zero, List.getElem?_cons_succ, List.set_cons_zero, List.set_cons_succ, List.map_cons, List.map_nil, List.cons_append, List.nil_append, List.length_cons, List.length_nil, Nat.reduceAdd, Nat.reduceSub, Nat.reduceLeDiff, Nat.reduceLT, Bool.not_true, Bool.not_false, decide_true, decide_false]
    by_cases hn : numL (valL w) = w
    · simp -implicitDefEqProofs only [hn, decide_true, it, evs_, Option.bind_some, List.getElem?_cons_zero, List.getElem?_cons_succ, List.set_cons_zero, List.set_cons_succ, List.map_cons, List.map_nil, List.cons_append, List.nil_append, List.length_cons, List.length_nil, Nat.reduceAdd, Nat.reduceSub, Nat.reduceLeDiff, Nat.reduceLT, Bool.not_true, Bool.not_false, decide_true, decide_false]
      unfold numW
      rw [if_pos hd, if_pos hn]
      rfl
    · simp -implicitDefEqProofs only [hn, decide_false, it, evs_, Option.bind_some, List.getElem?_cons_zero, List.getElem?_cons_succ, List.set_cons_zero, List.set_cons_succ, List.map_cons, List.map_nil, List.cons_append, List.nil_append, List.length_cons, List.length_nil, Nat.reduceAdd, Nat.reduceSub, Nat.reduceLeDiff, Nat.reduceLT, Bool.not_true, Bool.not_false, decide_true, decide_false]
      unfold numW
      rw [if_pos hd, if_neg hn]
      rfl
  · have e : numW w = none := if_neg hd
    rw [e]
    by_cases r1 : 1 ≤ w.length
    · by_cases r2 : w.length ≤ 5
      · have h3 : allDig w = false := by
          cases q : allDig w with
          | false => rfl
          | true => exact absurd (by simp [r1, r2, q]) hd
        have fe : ((w.filter fun c => !decide (48 ≤ c ∧ c ≤ 57)).map fun c => PyData.str ⟨#[c]⟩).isEmpty = false := by
          rw [List.isEmpty_eq_false_iff]
          intro z
          rw [List.map_eq_nil_iff, List.filter_eq_nil_iff] at z
          rw [show allDig w = true from List.all_eq_true.mpr fun c hc => by simpa using z c hc] at h3
          cases h3
        have r1 : decide ((1 : Int) ≤ (w.length : Int)) = true := decide_eq_true (by omega)
        have r2 : decide ((w.length : Int) ≤ 5) = true := decide_eq_true (by omega)
        generalize hD : wD w = d at *
        simp -implicitDefEqProofs only [sem_number_of, b_number_of, l0, r1, r2, evs_, Option.bind_some, List.getElem?_cons_zero, List.getElem?_cons_succ, List.set_cons_zero, List.set_cons_succ, List.map_cons, List.map_nil, List.cons_append, List.nil_append, List.length_cons, List.length_nil, Nat.reduceAdd, Nat.reduceSub, Nat.reduceLeDiff, Nat.reduceLT, Bool.not_true, Bool.not_false, decide_true, decide_false]
        rw [c1 _ rfl rfl]
        simp -implicitDefEqProofs only [fe, Bool.not_true, Bool.not_false, evs_, Option.bind_some, List.getElem?_cons_zero, List.getElem?_cons_succ, List.set_cons_zero, List.set_cons_succ, List.map_cons, List.map_nil, List.cons_append, List.nil_append, List.length_cons, List.length_nil, Nat.reduceAdd, Nat.reduceSub, Nat.reduceLeDiff, Nat.reduceLT, Bool.not_true, Bool.not_false, decide_true, decide_false]
        rfl
      · have r1 : decide ((1 : Int) ≤ (w.length : Int)) = true := decide_eq_true (by omega)
        have r2 : decide ((w.length : Int) ≤ 5) = false := decide_eq_false (by omega)
        generalize hD : wD w = d at *
        simp -implicitDefEqProofs only [sem_number_of, b_number_of, l0, r1, r2, Bool.not_true, Bool.not_false, evs_, Option.bind_some, List.getElem?_cons_zero, List.getElem?_cons_succ, List.set_cons_zero, List.set_cons_succ, List.map_cons, List.map_nil, List.cons_append, List.nil_append, List.length_cons, List.length_nil, Nat.reduceAdd, Nat.reduceSub, Nat.reduceLeDiff, Nat.reduceLT, Bool.not_true, Bool.not_false, decide_true, decide_false]
        rfl
    · have r1 : decide ((1 : Int) ≤ (w.length : Int)) = false := decide_eq_false (by omega)
      generalize hD : wD w = d at *
      simp -implicitDefEqProofs only [sem_number_of, b_number_of, l0, r1, Bool.not_true, Bool.not_false, evs_, Option.bind_some, List.getElem?_cons_zero, List.getElem?_cons_succ, List.set_cons_zero, List.set_cons_succ, List.map_cons, List.map_nil, List.cons_append, List.nil_append, List.length_cons, List.length_nil, Nat.reduceAdd, Nat.reduceSub, Nat.reduceLeDiff, Nat.reduceLT, Bool.not_true, Bool.not_false, decide_true, decide_false]
      rfl
end VVlaw

set_option Elab.async false
set_option linter.all false
set_option maxRecDepth 100000
set_option maxHeartbeats 8000000
/-! TXc: lines, as the program reads them. -/
namespace VVlaw
open PySem PySem.Spec L2 VV
open PyProof.Rows hiding St
open TL
def nD (n : Nat) : D := .int (n : Int)
def numsD : Option (List Nat) → D
  | some q => .tuple (q.map nD)
  | none => .none
theorem nums_cases (ws : List (List Nat)) : (∃ q, numsW ws = some q ∧ ws.map (fun w => optN (numW w)) = q.map nD) ∨ (numsW ws = none ∧ ∃ w ∈ ws, numW w = none) := by
  induction ws with
  | nil => exact .inl ⟨[], rfl, rfl⟩
  | cons w ws ih =>
    rw [numsW_cons]
    cases h : numW w with
    | none => exact .inr ⟨rfl, w, List.mem_cons_self, h⟩
    | some n =>
      rcases ih with ⟨q, h1, h2⟩ | ⟨h1, v, hv, h2⟩
      · exact .inl ⟨n :: q, by rw [h1]; rfl, by rw [List.map_cons, h, h2]; rfl⟩
      · exact .inr ⟨by rw [h1]; rfl, v, List.mem_cons_of_mem _ hv, h2⟩
theorem numbers_of_eq {ws : List (List Nat)} (hl : ws.length ≤ 16777216) (h : ∀ w ∈ ws, w.length ≤ 16777216 ∧ Asc w) : sem_numbers_of [.list (ws.map wD)] = .ok (numsD (numsW ws)) := by
  have c1 : ∀ ρ : En, ρ.length = 3 → ρ[0]? = some (vl (.list (ws.map wD))) → eLc [2] (iSeq (eV 0)) (.nm 2) (eC (.bool true)) (eCall sem_number_of [(eV 2)]) ρ = .ok (.list (ws.map fun w => optN (numW w))) := by
    intro ρ hρ e0
    refine eLc_mapA ws wD _ (by simp -implicitDefEqProofs only [e0, evs_, Option.bind_some, List.getElem?_cons_zero, List.getElem?_cons_succ, List.set_cons_zero, List.set_cons_succ, List.map_cons, List.map_nil, List.cons_append, List.nil_append, List.length_cons, List.length_nil, Nat.reduceAdd, Nat.reduceSub, Nat.reduceLeDiff, Nat.reduceLT, Bool.not_true, Bool.not_false, decide_true, decide_false]) hl fun w hw => ?_
    have g : ((wipeE ρ [2]).set 2 (some (.val (wD w))))[2]? = some (vl (wD w)) := List.getElem?_set_self (by rw [wipeE_length]; omega)
    have no := number_of_eq (h w hw).1 (h w hw).2
    generalize (wipeE ρ [2]).set 2 (some (.val (wD w))) = ρ2 at g ⊢
    exact ⟨rfl, by simp -implicitDefEqProofs only [g, no, evs_, Option.bind_some, List.getElem?_cons_zero, List.getElem?_cons_succ, List.set_cons_zero, List.set_cons_succ, List.map_cons, List.map_nil, List.cons_append, List.nil_append, List.length_cons, List.length_nil, Nat.reduceAdd, Nat.reduceSub, Nat.reduceLeDiff, Nat.reduceLT, Bool.not_true, Bool.not_false, decide_true, decide_false]⟩
  have ly : Ly 1 (.list (ws.map fun w => optN (numW w))) := Ly.list (k := 0) fun d hd => by
    obtain ⟨w, _, rfl⟩ := List.mem_map.mp hd
    cases numW w with
    | none => exact Ly.none 0
    | some n => exact Ly.int 0 _
  have mm : inF .none (.list (ws.map fun w => optN (numW w))) = some (.bool ((ws.map fun w => optN (numW w)).any fun z => PyData.eqv z .none)) := by
    show ((if (SeqAt.shaped .none && SeqAt.shaped _) = true then some _ else none) : Option Bool).map PyData.bool = _
    rw [(Ly.none 0).shaped (by decide), ly.shaped (by decide)]
    simp -implicitDefEqProofs only [Bool.and_self, if_true, Option.map_some]
  have tt : tupF [.list (ws.map fun w => optN (numW w))] = some (.tuple (ws.map fun w => optN (numW w))) := rfl
  rcases nums_cases ws with ⟨q, h1, h2⟩ | ⟨h1, w, hw, h2⟩
  · have nn : ((ws.map fun w => optN (numW w)).any fun z => PyData.eqv z .none) = false := by
      rw [h2, List.any_eq_false]
      intro z hz
      obtain ⟨n, _, rfl⟩ := List.mem_map.mp hz
      rw [show PyData.eqv (nD n) .none = false from rfl]
      decide
    rw [nn] at mm
    generalize hD : PyData.list (ws.map fun w => optN (numW w)) = d1 at *
    generalize hE : PyData.list (ws.map wD) = d0 at *
    simp -implicitDefEqProofs only [sem_numbers_of, b_numbers_of, evs_, Option.bind_some, List.getElem?_cons_zero, List.getElem?_cons_succ, List.set_cons_zero, List.set_cons_succ, List.map_cons, List.map_nil, List.cons_append, List.nil_append, List.length_cons, List.length_nil, Nat.reduceAdd, Nat.reduceSub, Nat.reduceLeDiff, Nat.reduceLT, Bool.not_true, Bool.not_false, decide_true, decide_false]
    rw [c1 _ rfl rfl]
    simp -implicitDefEqProofs only [mm, tt, evs_, Option.bind_some, List.getElem?_cons_zero, List.getElem?_cons_succ, List.set_cons_zero, List.set_cons_succ, List.map_cons, List.map_nil, List.cons_append, List.nil_append, List.length_cons, List.length_nil, Nat.reduceAdd, Nat.reduceSub, Nat.reduceLeDiff, Nat.reduceLT, Bool.not_true, Bool.not_false, decide_true, decide_false]
    rw [h1, h2]
    rfl
  · have nn : ((ws.map fun w => optN (numW w)).any fun z => PyData.eqv z .none) = true := by
      rw [List.any_eq_true]
      exact ⟨_, List.mem_map.mpr ⟨w, hw, rfl⟩, by rw [h2]; rfl⟩
    rw [nn] at mm
    generalize hD : PyData.list (ws.map fun w => optN (numW w)) = d1 at *
    generalize hE : PyData.list (ws.map wD) = d0 at *
    simp -implicitDefEqProofs only [sem_numbers_of, b_numbers_of, evs_, Option.bind_some, List.getElem?_cons_zero, List.getElem?_cons_succ, List.set_cons_zero, List.set_cons_succ, List.map_cons, List.map_nil, List.cons_append, List.nil_append, List.length_cons, List.length_nil, Nat.reduceAdd, Nat.reduceSub, Nat.reduceLeDiff, Nat.reduceLT, Bool.not_true, Bool.not_false, decide_true, decide_false]
    rw [c1 _ rfl rfl]
    simp -implicitDefEqProofs only [mm, tt, evs_, Option.bind_some, List.getElem?_cons_zero, List.getElem?_cons_succ, List.set_cons_zero, List.set_cons_succ, List.map_cons, List.map_nil, List.cons_append, List.nil_append, List.length_cons, List.length_nil, Nat.reduceAdd, Nat.reduceSub, Nat.reduceLeDiff, Nat.reduceLT, Bool.not_true, Bool.not_false, decide_true, decide_false]
    rw [h1]
    rfl
/-! ### split -/
theorem split_w {c : Nat} {l : List Nat} (hc : c < 256) (h : l.length + 2 ≤ 16777216) : splitF (wD l) (wD [c]) = some (.list ((cutc c l).map wD)) := by
  have e : Txt.split (mkS l) (mkS [c]) = (cutc c l).map mkS := by
    apply map_tl_inj
    rw [split_spl _ _ (by simp [tl_mkS]) (kind_ok (by simp [mkS, hc])), tl_mkS, tl_mkS, spl_cut, List.map_map]
    exact (List.map_id _).symm
  show (if ((((mkS [c]).length == 0) == false) && decide ((mkS l).length + 2 ≤ sizeLine)) = true then some (PyData.list ((Txt.split (mkS l) (mkS [c])).map PyData.str)) else none) = _
  rw [mkS_len, mkS_len, if_pos, e, List.map_map]
  · rfl
  · rw [show ([c].length == 0) = false from rfl, decide_eq_true (show l.length + 2 ≤ sizeLine from h)]
    rfl
theorem star_ok {ts : List Tg} {f : EF} {ρ : En} {x : D} {xs : List D} (h : f ρ = .ok (.list (x :: xs))) (hl : xs.length < 16777216) : sStar ts f ρ = outB (bindTs ts [x, .list xs] ρ) := by
  unfold sStar
  rw [h]
  exact if_pos hl
theorem cut_len (c : Nat) : ∀ l : List Nat, (cutc c l).length ≤ l.length + 1 ∧ ∀ w ∈ cutc c l, w.length ≤ l.length
  | [] => by simp [cutc]
  | x :: l => by
    obtain ⟨h1, h2⟩ := cut_len c l
    by_cases h : x = c
    · subst h
      rw [cutc_hit]
      refine ⟨by simpa using h1, fun w hw => ?_⟩
      rcases List.mem_cons.mp hw with rfl | hw
      · simp
      · have := h2 w hw
        simp
        omega
    · obtain ⟨v, vs, e⟩ := List.exists_cons_of_ne_nil (cutc_ne c l)
      rw [e] at h1 h2
      rw [cutc_miss h e]
      refine ⟨by simp -implicitDefEqProofs only [List.length_cons] at *; omega, fun w hw => ?_⟩
      rcases List.mem_cons.mp hw with rfl | hw
      · have := h2 v List.mem_cons_self
        simpa using this
      · have := h2 w (List.mem_cons_of_mem _ hw)
        simp
        omega
/-! ### line_of -/
def Ln.wD : Ln → D
  | .shot _ => VVlaw.wD wShot
  | .row _ => VVlaw.wD wRow
  | .mark _ _ => VVlaw.wD wMark
def Ln.pD : Ln → D
  | .shot p => .tuple (p.map nD)
  | .row r => .tuple (r.map nD)
  | .mark nm q => .tuple (VVlaw.wD nm :: q.map nD)
def lnD : Option Ln → D
  | some l => .tuple [l.wD, l.pD]
  | none => .none
theorem lit_shot : PyData.str "shot" = wD wShot := lit (by kernel_rfl)
theorem lit_row : PyData.str "row" = wD wRow := lit (by kernel_rfl)
theorem lit_mark : PyData.str "mark" = wD wMark := lit (by kernel_rfl)
theorem lit_nil : PyData.str "" = wD [] := lit (by kernel_rfl)
theorem lit_sp : PyData.str " " = wD [32] := lit (by kernel_rfl)
theorem lit_nl : PyData.str "\n" = wD [10] := lit (by kernel_rfl)
theorem inW2 {a x y : List Nat} : inF (wD a) (.tuple [wD x, wD y]) = some (.bool (decide (a = x ∨ a = y))) := by
  show (some ([wD x, wD y].any fun z => PyData.eqv z (wD a))).map PyData.bool = _
  simp -implicitDefEqProofs only [List.any_cons, List.any_nil, eqv_w, Bool.or_false]
  rw [← Bool.decide_or]
  simp -implicitDefEqProofs only [eq_comm, Option.map_some]
theorem ninW2 {a x y : List Nat} : ninF (wD a) (.tuple [wD x, wD y]) = some (.bool (!decide (a = x ∨ a = y))) := by
  show (some ([wD x, wD y].any fun z => PyData.eqv z (wD a))).map (fun b => PyData.bool (!b)) = _
  simp -implicitDefEqProofs only [List.any_cons, List.any_nil, eqv_w, Bool.or_false]
  rw [← Bool.decide_or]
  simp -implicitDefEqProofs only [eq_comm, Option.map_some]
theorem is_nums (o : Option (List Nat)) : isNone (numsD o) = decide (o = none) := by cases o <;> rfl
theorem line_of_eq {l : List Nat} (hl : l.length ≤ 100000) (ha : Asc l) : sem_line_of [wD l] = .ok (lnD (lineW (cutc 32 l))) := by
  have sp := split_w (c := 32) (l := l) (by decide) (by omega)
  obtain ⟨f, ws, e⟩ := List.exists_cons_of_ne_nil (cutc_ne 32 l)
  obtain ⟨n1, n2⟩ := cut_len 32 l
  have n3 : ∀ w ∈ cutc 32 l, Asc w := fun w hw c hc => ha c (cut_sub 32 l w hw c hc)
  rw [e] at n1 n2 n3 sp ⊢
  rw [List.map_cons] at sp
  have fA := n3 f List.mem_cons_self
  have lw : ws.length ≤ 100000 := by
    simp -implicitDefEqProofs only [List.length_cons] at n1
    omega
  have st : sStar [(.nm 1), (.nm 2)] (eTx splitF (eV 0) (eC (wD [32]))) [vl (wD l), none, none, none] = .nx [vl (wD l), vl (wD f), vl (.list (ws.map wD)), none] := by
    rw [star_ok (x := wD f) (xs := ws.map wD) (by simp -implicitDefEqProofs only [ap_eTx, txO_w, sp, evs_, Option.bind_some, List.getElem?_cons_zero, List.getElem?_cons_succ, List.set_cons_zero, List.set_cons_succ, List.map_cons, List.map_nil, List.cons_append, List.nil_append, List.length_cons, List.length_nil, Nat.reduceAdd, Nat.reduceSub, Nat.reduceLeDiff, Nat.reduceLT, Bool.not_true, Bool.not_false, decide_true, decide_false]) (by rw [List.length_map]; omega)]
    rfl
  have ln : lenF [.list (ws.map wD)] = some (.int (ws.length : Int)) := by rw [f_len_l, List.length_map]
  have e1 := eq_w fA (show Asc wMark by decide)
  have e2 := eq_w fA (show Asc wShot by decide)
  have ni : ninF (wD f) (.tuple [wD wShot, wD wRow]) = _ := ninW2
  have nu := numbers_of_eq (ws := ws) (by omega) fun w hw => ⟨by have := n2 w (List.mem_cons_of_mem _ hw); omega, n3 w (List.mem_cons_of_mem _ hw)⟩
  have five : eqF (.int (ws.length : Int)) (.int 5) = some (.bool (decide (ws.length = 5))) := by
    rw [f_eqI]
    congr 2
    rw [decide_eq_decide]
    omega
  have two : neF (.int (ws.length : Int)) (.int 2) = some (.bool (!decide (ws.length = 2))) := by
    rw [f_neI]
    congr 3
    rw [decide_eq_decide]
    omega
  have is1 : ∀ o, isF (numsD o) .none = some (.bool (decide (o = none))) := fun o => by rw [f_is, is_nums]
  have em : (ws.map wD).isEmpty = decide (ws = []) := by cases ws <;> rfl
  rw [lineW_cons]
  -- the second part
  have rest : ∀ ρ : En, ρ.length = 4 → ρ[1]? = some (vl (wD f)) → ρ[2]? = some (vl (.list (ws.map wD))) →
      outR (sSeq (sIf (gOr (eOp ninF (eV 1) (eTup [(eC (.str "shot")), (eC (.str "row"))])) (gOr (gNot (gTru (eV 2))) (gAnd (eOp eqF (eV 1) (eC (.str "shot"))) (eOp neF (eCB lenF [(eV 2)]) (eC (.int 2)))))) (sRet (eC .none)) sNx) (sSeq (sSet 3 (eCall sem_numbers_of [(eV 2)])) (sRet (eIf (eOp isF (eV 3) (eC .none)) (eC .none) (eTup [(eV 1), (eV 3)])))) ρ) = .ok (lnD (restW f ws)) := by
    intro ρ hρ g1 g2
    obtain ⟨a, b, c, d, rfl⟩ : ∃ a b c d, ρ = [a, b, c, d] := by
      match ρ, hρ with
      | [a, b, c, d], _ => exact ⟨a, b, c, d, rfl⟩
    obtain rfl : b = vl (wD f) := by simpa using g1
    obtain rfl : c = vl (.list (ws.map wD)) := by simpa using g2
    have fin : ∀ o, numsW ws = o → outR (sRet (eIf (eOp isF (eV 3) (eC .none)) (eC .none) (eTup [(eV 1), (eV 3)])) [a, vl (wD f), vl (.list (ws.map wD)), vl (numsD o)]) = .ok (match o with | some q => .tuple [wD f, .tuple (q.map nD)] | none => .none) := fun o ho => by
      have i1 := is1 o
      generalize wD f = df at *
      cases o with
      | none =>
        simp -implicitDefEqProofs only [numsD, decide_true] at i1 ⊢
        simp -implicitDefEqProofs only [i1, evs_, Option.bind_some, List.getElem?_cons_zero, List.getElem?_cons_succ, List.set_cons_zero, List.set_cons_succ, List.map_cons, List.map_nil, List.cons_append, List.nil_append, List.length_cons, List.length_nil, Nat.reduceAdd, Nat.reduceSub, Nat.reduceLeDiff, Nat.reduceLT, Bool.not_true, Bool.not_false, decide_true, decide_false]
      | some q =>
        have i1 : isF (numsD (some q)) .none = some (.bool false) := i1
        show outR _ = Rs.ok (.tuple [df, numsD (some q)])
        generalize numsD (some q) = dq at *
        simp -implicitDefEqProofs only [i1, evs_, Option.bind_some, List.getElem?_cons_zero, List.getElem?_cons_succ, List.set_cons_zero, List.set_cons_succ, List.map_cons, List.map_nil, List.cons_append, List.nil_append, List.length_cons, List.length_nil, Nat.reduceAdd, Nat.reduceSub, Nat.reduceLeDiff, Nat.reduceLT, Bool.not_true, Bool.not_false, decide_true, decide_false]
    unfold restW
    by_cases c1 : f = wShot ∨ f = wRow
    · have b1 : (!decide (f = wShot ∨ f = wRow)) = false := by rw [decide_eq_true c1]; rfl
      rw [b1] at ni
      by_cases c2 : ws = []
      · rw [if_pos (.inr (.inl c2))]
        have b2 : (ws.map wD).isEmpty = true := by rw [em, decide_eq_true c2]
        generalize ws.map wD = dw at *
        generalize wD f = df at *
        simp -implicitDefEqProofs only [lit_shot, lit_row, ni, b2, Bool.not_true, Bool.not_false, evs_, Option.bind_some, List.getElem?_cons_zero, List.getElem?_cons_succ, List.set_cons_zero, List.set_cons_succ, List.map_cons, List.map_nil, List.cons_append, List.nil_append, List.length_cons, List.length_nil, Nat.reduceAdd, Nat.reduceSub, Nat.reduceLeDiff, Nat.reduceLT, Bool.not_true, Bool.not_false, decide_true, decide_false]
        rfl
      · have b2 : (ws.map wD).isEmpty = false := by rw [em, decide_eq_false c2]
        by_cases c3 : f = wShot
        · rw [decide_eq_true c3] at e2
          by_cases c4 : ws.length = 2
          · rw [if_neg (fun z => z.elim (fun z => z.1 c3) fun z => z.elim c2 fun z => z.2 c4)]
            rw [show (!decide (ws.length = 2)) = false by rw [decide_eq_true c4]; rfl] at two
            have F := fin _ rfl
            generalize hdw : ws.map wD = dw at *
            generalize hdf : wD f = df at *
            simp -implicitDefEqProofs only [lit_shot, lit_row, ni, b2, e2, ln, two, nu, Bool.not_true, Bool.not_false, evs_, Option.bind_some, List.getElem?_cons_zero, List.getElem?_cons_succ, List.set_cons_zero, List.set_cons_succ, List.map_cons, List.map_nil, List.cons_append, List.nil_append, List.length_cons, List.length_nil, Nat.reduceAdd, Nat.reduceSub, Nat.reduceLeDiff, Nat.reduceLT, Bool.not_true, Bool.not_false, decide_true, decide_false] at F ⊢
            rw [F, c3]
            cases numsW ws with
            | none => rfl
            | some q =>
              rw [← hdf, c3]
              rfl
          · rw [if_pos (.inr (.inr ⟨c3, c4⟩))]
            rw [show (!decide (ws.length = 2)) = true by rw [decide_eq_false c4]; rfl] at two
            generalize hdw : ws.map wD = dw at *
            generalize hdf : wD f = df at *
            simp -implicitDefEqProofs only [lit_shot, lit_row, ni, b2, e2, ln, two, nu, Bool.not_true, Bool.not_false, evs_, Option.bind_some, List.getElem?_cons_zero, List.getElem?_cons_succ, List.set_cons_zero, List.set_cons_succ, List.map_cons, List.map_nil, List.cons_append, List.nil_append, List.length_cons, List.length_nil, Nat.reduceAdd, Nat.reduceSub, Nat.reduceLeDiff, Nat.reduceLT, Bool.not_true, Bool.not_false, decide_true, decide_false]
            rfl
        · rw [decide_eq_false c3] at e2
          rw [if_neg (fun z => z.elim (fun z => z.2 (c1.resolve_left c3)) fun z => z.elim c2 fun z => c3 z.1)]
          have F := fin _ rfl
          generalize hdw : ws.map wD = dw at *
          generalize hdf : wD f = df at *
          simp -implicitDefEqProofs only [lit_shot, lit_row, ni, b2, e2, ln, two, nu, Bool.not_true, Bool.not_false, evs_, Option.bind_some, List.getElem?_cons_zero, List.getElem?_cons_succ, List.set_cons_zero, List.set_cons_succ, List.map_cons, List.map_nil, List.cons_append, List.nil_append, List.length_cons, List.length_nil, Nat.reduceAdd, Nat.reduceSub, Nat.reduceLeDiff, Nat.reduceLT, Bool.not_true, Bool.not_false, decide_true, decide_false] at F ⊢
          rw [F]
          cases numsW ws with
          | none => rfl
          | some q =>
            rw [← hdf, c1.resolve_left c3]
            show _ = Rs.ok (lnD (some (if wRow = wShot then _ else _)))
            rw [if_neg (by decide)]
            rfl
    · have b1 : (!decide (f = wShot ∨ f = wRow)) = true := by rw [decide_eq_false c1]; rfl
      rw [b1] at ni
      rw [if_pos (.inl ⟨fun z => c1 (.inl z), fun z => c1 (.inr z)⟩)]
      generalize ws.map wD = dw at *
      generalize wD f = df at *
      simp -implicitDefEqProofs only [lit_shot, lit_row, ni, Bool.not_true, Bool.not_false, evs_, Option.bind_some, List.getElem?_cons_zero, List.getElem?_cons_succ, List.set_cons_zero, List.set_cons_succ, List.map_cons, List.map_nil, List.cons_append, List.nil_append, List.length_cons, List.length_nil, Nat.reduceAdd, Nat.reduceSub, Nat.reduceLeDiff, Nat.reduceLT, Bool.not_true, Bool.not_false, decide_true, decide_false]
      rfl
  have R := rest [vl (wD l), vl (wD f), vl (.list (ws.map wD)), none] rfl rfl rfl
  clear rest
  have u : sem_line_of [wD l] = outR (b_line_of [vl (wD l), none, none, none]) := runB_eq 1 4 b_line_of [wD l] rfl
  rw [u]
  unfold b_line_of
  rw [lit_sp, ap_sSeq, st, seqO_nx, ap_sSeq, ap_sIf]
  by_cases hm : f = wMark ∧ ws.length = 5 ∧ ws.headD [] ≠ []
  · rw [if_pos hm]
    obtain ⟨h1, h2, h3⟩ := hm
    have ln5 : lenF [.list (ws.map wD)] = some (.int 5) := by rw [f_len_l, List.length_map, h2]; rfl
    have five5 : eqF (.int 5) (.int 5) = some (.bool true) := by rw [f_eqI]; rfl
    cases ws with
    | nil => cases h2
    | cons nm ws =>
      have h4 : nm ≠ [] := h3
      have nA := n3 nm (List.mem_cons_of_mem _ List.mem_cons_self)
      rw [decide_eq_true h1] at e1
      have i0 : ixF (.list ((nm :: ws).map wD)) (.int 0) = some (wD nm) := f_ix_l _ 0 (by decide) (by simp)
      have n0 := ne_w nA (show Asc [] by decide)
      rw [decide_eq_false h4] at n0
      have s1 : slF (.list ((nm :: ws).map wD)) (some 1) none = some (.list (ws.map wD)) := by
        show some (PyData.list (cutL _ _ _)) = _
        unfold cutL
        simp [HT.sIx]
        exact List.take_of_length_le (by simp)
      have nu2 := numbers_of_eq (ws := ws) (by simp -implicitDefEqProofs only [List.length_cons] at lw; omega) fun w hw => ⟨by have := n2 w (List.mem_cons_of_mem _ (List.mem_cons_of_mem _ hw)); omega, n3 w (List.mem_cons_of_mem _ (List.mem_cons_of_mem _ hw))⟩
      rw [List.tail_cons, List.headD_cons]
      clear R st sp
      cases hq : numsW ws with
      | none =>
        rw [hq] at nu2
        have nu3 : sem_numbers_of [.list (ws.map wD)] = .ok .none := nu2
        generalize (PyData.list ((nm :: ws).map wD)) = dw at *
        generalize hdf : wD f = df at *
        simp -implicitDefEqProofs only [lit_mark, lit_nil, e1, five5, ln5, i0, n0, s1, nu3, Bool.not_false, evs_, Option.bind_some, List.getElem?_cons_zero, List.getElem?_cons_succ, List.set_cons_zero, List.set_cons_succ, List.map_cons, List.map_nil, List.cons_append, List.nil_append, List.length_cons, List.length_nil, Nat.reduceAdd, Nat.reduceSub, Nat.reduceLeDiff, Nat.reduceLT, Bool.not_true, Bool.not_false, decide_true, decide_false]
        rfl
      | some q =>
        rw [hq] at nu2
        have nu3 : sem_numbers_of [.list (ws.map wD)] = .ok (.tuple (q.map nD)) := nu2
        have ql : q.length ≤ 5 := by
          have := congrArg List.length (numsW_some hq).1
          rw [List.length_map] at this
          simp -implicitDefEqProofs only [List.length_cons] at h2
          omega
        have ad : addF (.tuple [wD nm]) (.tuple (q.map nD)) = some (.tuple (wD nm :: q.map nD)) := by
          show (if [wD nm].length + (q.map nD).length ≤ sizeLine then some (PyData.tuple ([wD nm] ++ q.map nD)) else none) = _
          rw [if_pos]
          · rfl
          · rw [List.length_map]
            show 1 + q.length ≤ 16777216
            omega
        show _ = Rs.ok (.tuple [wD wMark, .tuple (wD nm :: q.map nD)])
        have en : isF (.tuple (q.map nD)) .none = some (.bool false) := rfl
        rw [← h1]
        generalize (PyData.list ((nm :: ws).map wD)) = dw at *
        generalize hdf : wD f = df at *
        generalize (PyData.tuple (q.map nD)) = dq at *
        simp -implicitDefEqProofs only [lit_mark, lit_nil, e1, five5, ln5, i0, n0, s1, nu3, en, ad, Bool.not_false, evs_, Option.bind_some, List.getElem?_cons_zero, List.getElem?_cons_succ, List.set_cons_zero, List.set_cons_succ, List.map_cons, List.map_nil, List.cons_append, List.nil_append, List.length_cons, List.length_nil, Nat.reduceAdd, Nat.reduceSub, Nat.reduceLeDiff, Nat.reduceLT, Bool.not_true, Bool.not_false, decide_true, decide_false]
  · rw [if_neg hm]
    have hc : (gAnd (eOp eqF (eV 1) (eC (.str "mark"))) (gAnd (eOp eqF (eCB lenF [(eV 2)]) (eC (.int 5))) (eOp neF (eOp ixF (eV 2) (eC (.int 0))) (eC (.str ""))))) [vl (wD l), vl (wD f), vl (.list (ws.map wD)), none] = .ok (.bool false) := by
      by_cases h1 : f = wMark
      · rw [decide_eq_true h1] at e1
        by_cases h2 : ws.length = 5
        · have ln5 : lenF [.list (ws.map wD)] = some (.int 5) := by rw [f_len_l, List.length_map, h2]; rfl
          have five5 : eqF (.int 5) (.int 5) = some (.bool true) := by rw [f_eqI]; rfl
          cases ws with
          | nil => cases h2
          | cons nm ws =>
            have nA := n3 nm (List.mem_cons_of_mem _ List.mem_cons_self)
            have h3 : nm = [] := by
              apply Classical.byContradiction
              intro z
              exact hm ⟨h1, h2, z⟩
            have i0 : ixF (.list ((nm :: ws).map wD)) (.int 0) = some (wD nm) := f_ix_l _ 0 (by decide) (by simp)
            have n0 := ne_w nA (show Asc [] by decide)
            rw [decide_eq_true h3] at n0
            clear R st sp
            generalize (PyData.list ((nm :: ws).map wD)) = dw at *
            generalize hdf : wD f = df at *
            simp -implicitDefEqProofs only [lit_mark, lit_nil, e1, five5, ln5, i0, n0, Bool.not_true, evs_, Option.bind_some, List.getElem?_cons_zero, List.getElem?_cons_succ, List.set_cons_zero, List.set_cons_succ, List.map_cons, List.map_nil, List.cons_append, List.nil_append, List.length_cons, List.length_nil, Nat.reduceAdd, Nat.reduceSub, Nat.reduceLeDiff, Nat.reduceLT, Bool.not_true, Bool.not_false, decide_true, decide_false]
        · rw [decide_eq_false h2] at five
          clear R st sp
          generalize (PyData.list (ws.map wD)) = dw at *
          generalize hdf : wD f = df at *
          simp -implicitDefEqProofs only [lit_mark, lit_nil, e1, five, ln, evs_, Option.bind_some, List.getElem?_cons_zero, List.getElem?_cons_succ, List.set_cons_zero, List.set_cons_succ, List.map_cons, List.map_nil, List.cons_append, List.nil_append, List.length_cons, List.length_nil, Nat.reduceAdd, Nat.reduceSub, Nat.reduceLeDiff, Nat.reduceLT, Bool.not_true, Bool.not_false, decide_true, decide_false]
      · rw [decide_eq_false h1] at e1
        clear R st sp
        generalize (PyData.list (ws.map wD)) = dw at *
        generalize hdf : wD f = df at *
        simp -implicitDefEqProofs only [lit_mark, lit_nil, e1, evs_, Option.bind_some, List.getElem?_cons_zero, List.getElem?_cons_succ, List.set_cons_zero, List.set_cons_succ, List.map_cons, List.map_nil, List.cons_append, List.nil_append, List.length_cons, List.length_nil, Nat.reduceAdd, Nat.reduceSub, Nat.reduceLeDiff, Nat.reduceLT, Bool.not_true, Bool.not_false, decide_true, decide_false]
    have hc2 := hc
    rw [hc2, ifO_f, ap_sNx, seqO_nx]
    exact R
end VVlaw

set_option Elab.async false
set_option linter.all false
set_option maxRecDepth 100000
set_option maxHeartbeats 8000000
/-! PRt: errors with a field, by need. -/
namespace VVlaw
open PySem PySem.Spec L2 VV
open PyProof.Rows hiding St
/-! ### try, with fields, by need -/
theorem ap_sRaiseX (c f : Str) (ef : EF) (ρ : En) : sRaiseX c f ef ρ = (ef ρ).out ρ fun d => .exc c [(f, d)] ρ := rfl
def triesFO (ks : List ClF) : Out → Out
  | .exc c fs ρ => hitsF ks c fs ρ
  | o => o
theorem ap_sTriesF (fb : SF) (ks : List ClF) (ρ : En) : sTriesF fb ks ρ = triesFO ks (fb ρ) := by
  unfold sTriesF triesFO
  cases fb ρ <;> rfl
theorem triesFO_rt (ks : List ClF) (d : D) : triesFO ks (.rt d) = .rt d := rfl
theorem triesFO_exc (ks : List ClF) (c : Str) (fs : List (Str × D)) (ρ : En) : triesFO ks (.exc c fs ρ) = hitsF ks c fs ρ := rfl
theorem hitsF_as {i : Nat} {sub : Str → Option Bool} {f : Str → List (Str × D) → SF} {ks : List ClF} {c : Str} {fs : List (Str × D)} {ρ : En} (h : sub c = some true) (o : Option Sl) (hi : ρ[i]? = some o) : hitsF (⟨some i, sub, f⟩ :: ks) c fs ρ = Out.clr i (f c fs (ρ.set i none)) := by
  unfold hitsF ClF.hit hitF
  simp -implicitDefEqProofs only [h, hi]
theorem ap_eFd {fs : List (Str × D)} {x : Str} {d : D} (h : fs.lookup x = some d) (ρ : En) : eFd fs x ρ = .ok d := by
  unfold eFd
  rw [h]
end VVlaw

set_option Elab.async false
set_option linter.all false
set_option maxRecDepth 100000
set_option maxHeartbeats 8000000
/-! PM4: the picture that a pyramid tells; is_pyramid, flat, levels. -/
namespace VVlaw
open PySem PySem.Spec L2 VV
open PyProof.Rows hiding St
theorem gridO_frz (i : Nat) (f : SF) (ρ : En) (rows : List (List D)) (h : ρ[i]? = some (some (.grid (.rows rows)))) : sFrzG i f ρ = f (ρ.set i (some (.val (rowsD rows)))) := by
  unfold sFrzG
  rw [h]
end VVlaw

set_option Elab.async false
set_option linter.all false
set_option maxRecDepth 100000
set_option maxHeartbeats 8000000
/-! TXd: the loop of read. -/
namespace VVlaw
open PySem PySem.Spec L2 VV
open PyProof.Rows hiding St
open TL
theorem may_follow_eq {last w : List Nat} (hw : Asc w) : sem_may_follow [wD last, wD w] = .ok (.bool (mayF last w)) := by
  have e1 := eq_w hw (show Asc wShot by decide)
  have e2 := eq_w hw (show Asc wRow by decide)
  have i1 : inF (wD last) (.tuple [wD [], wD wRow]) = _ := inW2
  have i2 : inF (wD last) (.tuple [wD wShot, wD wRow]) = _ := inW2
  have i3 : inF (wD last) (.tuple [wD wRow, wD wMark]) = _ := inW2
  unfold mayF
  by_cases h1 : w = wShot
  · rw [decide_eq_true h1] at e1
    rw [if_pos h1]
    generalize wD w = dw at *
    generalize wD last = dl at *
    simp -implicitDefEqProofs only [sem_may_follow, b_may_follow, lit_shot, lit_row, lit_mark, lit_nil, e1, i1, evs_, Option.bind_some, List.getElem?_cons_zero, List.getElem?_cons_succ, List.set_cons_zero, List.set_cons_succ, List.map_cons, List.map_nil, List.cons_append, List.nil_append, List.length_cons, List.length_nil, Nat.reduceAdd, Nat.reduceSub, Nat.reduceLeDiff, Nat.reduceLT, Bool.not_true, Bool.not_false, decide_true, decide_false]
  · rw [decide_eq_false h1] at e1
    rw [if_neg h1]
    by_cases h2 : w = wRow
    · rw [decide_eq_true h2] at e2
      rw [if_pos h2]
      generalize wD w = dw at *
      generalize wD last = dl at *
      simp -implicitDefEqProofs only [sem_may_follow, b_may_follow, lit_shot, lit_row, lit_mark, lit_nil, e1, e2, i2, evs_, Option.bind_some, List.getElem?_cons_zero, List.getElem?_cons_succ, List.set_cons_zero, List.set_cons_succ, List.map_cons, List.map_nil, List.cons_append, List.nil_append, List.length_cons, List.length_nil, Nat.reduceAdd, Nat.reduceSub, Nat.reduceLeDiff, Nat.reduceLT, Bool.not_true, Bool.not_false, decide_true, decide_false]
    · rw [decide_eq_false h2] at e2
      rw [if_neg h2]
      generalize wD w = dw at *
      generalize wD last = dl at *
      simp -implicitDefEqProofs only [sem_may_follow, b_may_follow, lit_shot, lit_row, lit_mark, lit_nil, e1, e2, i3, evs_, Option.bind_some, List.getElem?_cons_zero, List.getElem?_cons_succ, List.set_cons_zero, List.set_cons_succ, List.map_cons, List.map_nil, List.cons_append, List.nil_append, List.length_cons, List.length_nil, Nat.reduceAdd, Nat.reduceSub, Nat.reduceLeDiff, Nat.reduceLT, Bool.not_true, Bool.not_false, decide_true, decide_false]
theorem gnew_ok (i : Nat) (ρ : En) : sGnew i (eLst []) ρ = .nx (ρ.set i (some (.grid (.rows [])))) := rfl
theorem gapp_ok {i : Nat} {ρ : En} {rows : List (List D)} (h : ρ[i]? = some (some (.grid (.rows rows)))) (hl : rows.length < 16777216) : sGapp i (eLst []) ρ = .nx (ρ.set i (some (.grid (.rows (rows ++ [[]]))))) := by
  unfold sGapp gridO
  rw [h]
  exact if_pos hl
theorem gappAt_ok {i : Nat} {f g : EF} {ρ : En} {rows : List (List D)} {d : D} (h : ρ[i]? = some (some (.grid (.rows rows)))) (hn : rows ≠ []) (hg : g ρ = .ok (.int (-1))) (hf : f ρ = .ok d) (hl : (rows.getD (rows.length - 1) []).length < 16777216) :
    sGappAt i g f ρ = .nx (ρ.set i (some (.grid (.rows (rows.set (rows.length - 1) (rows.getD (rows.length - 1) [] ++ [d])))))) := by
  have pos : 0 < rows.length := List.length_pos_iff.mpr hn
  have ix : L2.ixN rows.length (-1) = some (rows.length - 1) := by
    unfold L2.ixN
    rw [if_neg (by decide), if_pos (by omega)]
    congr 1
    omega
  unfold sGappAt gridO
  rw [h]
  simp -implicitDefEqProofs only [hg, Rs.out, rowO, ix, hf]
  exact if_pos hl
def tD (r : List Nat) : D := .tuple (r.map nD)
def gS (S : List (List (List Nat))) : List (List D) := S.map fun s => s.map tD
def mD (m : List Nat × List Nat) : D := .tuple (wD m.1 :: m.2.map nD)
def encR (txt : D) (s : Rd) (o5 o6 o7 : Option Sl) : En := [vl txt, some (.grid (.rows (gS s.S))), some (.own (.list (s.P.map tD))), some (.own (.list (s.M.map mD))), vl (wD s.last), o5, o6, o7, none, none]
/-- how large it is -/
structure Rd.Sz (s : Rd) (n : Nat) : Prop where
  S : s.S.length ≤ n
  P : s.P.length ≤ n
  M : s.M.length ≤ n
  r : ∀ x ∈ s.S, x.length ≤ n
theorem gS_last (S : List (List (List Nat))) (r : List Nat) : (gS S).set ((gS S).length - 1) ((gS S).getD ((gS S).length - 1) [] ++ [tD r]) = gS (lastApp S r) := by
  unfold gS lastApp
  rw [List.map_set, List.length_map]
  congr 1
  rw [List.map_append]
  congr 1
  rw [List.getD_eq_getElem?_getD, List.getD_eq_getElem?_getD, List.getElem?_map]
  cases S[S.length - 1]? <;> rfl
theorem sz_step {s : Rd} {ln : Ln} {n : Nat} (h : s.Sz n) : (stepR ln s).Sz (n + 1) := by
  obtain ⟨h1, h2, h3, h4⟩ := h
  cases ln with
  | shot p =>
    refine ⟨by simp [stepR]; omega, by simp [stepR]; omega, by simp [stepR]; omega, fun x hx => ?_⟩
    rcases List.mem_append.mp hx with hx | hx
    · have := h4 x hx
      omega
    · rw [List.mem_singleton.mp hx]
      simp
  | row r =>
    refine ⟨by simp [stepR, lastApp]; omega, by simp [stepR]; omega, by simp [stepR]; omega, fun x hx => ?_⟩
    rcases List.mem_or_eq_of_mem_set hx with hx | hx
    · have := h4 x hx
      omega
    · rw [hx, List.length_append, List.length_singleton]
      have : (s.S.getD (s.S.length - 1) []).length ≤ n := by
        rw [List.getD_eq_getElem?_getD]
        cases q : s.S[s.S.length - 1]? with
        | none => simp
        | some y => exact h4 y (List.mem_of_getElem? q)
      omega
  | mark nm q =>
    refine ⟨by simp [stepR]; omega, by simp [stepR]; omega, by simp [stepR]; omega, fun x hx => ?_⟩
    have := h4 x hx
    omega
theorem step_read {txt : D} {s : Rd} {l : List Nat} {k : Nat} {n : Nat} (o7 : Option Sl) (hl : l.length ≤ 100000) (ha : Asc l) (I : s.Inv) (z : s.Sz n) (hn : n < 1000000) : match lineW (cutc 32 l) with
    | some ln => if mayF s.last ln.word = true then lp_read_1 (encR txt s (vi (k : Int)) (vl (wD l)) o7) = .nx (encR txt (stepR ln s) (vi (k : Int)) (vl (wD l)) (vl (lnD (some ln)))) else ∃ ρ, lp_read_1 (encR txt s (vi (k : Int)) (vl (wD l)) o7) = .exc "BadText" [("line", .int (k : Int))] ρ
    | none => ∃ ρ, lp_read_1 (encR txt s (vi (k : Int)) (vl (wD l)) o7) = .exc "BadText" [("line", .int (k : Int))] ρ := by
  have e := line_of_eq hl ha
  cases hw : lineW (cutc 32 l) with
  | none =>
    rw [hw] at e
    have e : sem_line_of [wD l] = .ok .none := e
    refine ⟨encR txt s (vi (k : Int)) (vl (wD l)) (vl .none), ?_⟩
    unfold encR
    generalize wD l = dl at *
    simp -implicitDefEqProofs only [lp_read_1, e, ap_sRaiseX, evs_, Option.bind_some, List.getElem?_cons_zero, List.getElem?_cons_succ, List.set_cons_zero, List.set_cons_succ, List.map_cons, List.map_nil, List.cons_append, List.nil_append, List.length_cons, List.length_nil, Nat.reduceAdd, Nat.reduceSub, Nat.reduceLeDiff, Nat.reduceLT, Bool.not_true, Bool.not_false, decide_true, decide_false]
  | some ln =>
    rw [hw] at e
    have wA : Asc ln.word := by
      cases ln with
      | shot _ => exact (show Asc wShot by decide)
      | row _ => exact (show Asc wRow by decide)
      | mark _ _ => exact (show Asc wMark by decide)
    have mf := may_follow_eq (last := s.last) wA
    have el : ln.wD = wD ln.word := by cases ln <;> rfl
    have i0 : ixF (lnD (some ln)) (.int 0) = some (wD ln.word) := by rw [← el]; exact f_ix0 _ _
    have i1 : ixF (lnD (some ln)) (.int 1) = some ln.pD := f_ix1 _ _ _
    have nn : isF (lnD (some ln)) .none = some (.bool false) := rfl
    have e1 := eq_w wA (show Asc wShot by decide)
    have e2 := eq_w wA (show Asc wRow by decide)
    dsimp only
    by_cases hm : mayF s.last ln.word = true
    · rw [if_pos hm]
      rw [hm] at mf
      obtain ⟨z1, z2, z3, z4⟩ := z
      cases ln with
      | shot p =>
        have q2 : (s.P.map tD).length < 16777216 := by rw [List.length_map]; omega
        have q1 : (gS s.S).length < 16777216 := by unfold gS; rw [List.length_map]; omega
        have e1 : eqF (wD wShot) (wD wShot) = some (.bool true) := e1
        have fin : encR txt (stepR (.shot p) s) (vi (k : Int)) (vl (wD l)) (vl (lnD (some (.shot p)))) = [vl txt, some (.grid (.rows (gS s.S ++ [[]]))), some (.own (.list (s.P.map tD ++ [tD p]))), some (.own (.list (s.M.map mD))), vl (wD wShot), vi (k : Int), vl (wD l), vl (lnD (some (.shot p))), none, none] := by
          unfold encR stepR gS
          simp -implicitDefEqProofs only [List.map_append, List.map_cons, List.map_nil]
        rw [fin]
        have i0 : ixF (lnD (some (.shot p))) (.int 0) = some (wD wShot) := i0
        have i1 : ixF (lnD (some (.shot p))) (.int 1) = some (tD p) := i1
        have mf : sem_may_follow [wD s.last, wD wShot] = .ok (.bool true) := mf
        unfold encR
        have ga : ∀ ρ : En, ρ[1]? = some (some (.grid (.rows (gS s.S)))) → sGapp 1 (eLst []) ρ = .nx (ρ.set 1 (some (.grid (.rows (gS s.S ++ [[]]))))) := fun ρ h => gapp_ok h q1
        generalize hd : lnD (some (.shot p)) = dn at *
        generalize wD l = dl at *
        generalize wD s.last = ds at *
        generalize hw : wD wShot = dw at *
        generalize gS s.S = G at *
        generalize s.P.map tD = Ps at *
        simp -implicitDefEqProofs only [lp_read_1, e, nn, i0, i1, mf, lit_shot, hw, e1, Bool.not_true, appO_ok _ _ _ _ q2, evs_, Option.bind_some, List.getElem?_cons_zero, List.getElem?_cons_succ, List.set_cons_zero, List.set_cons_succ, List.map_cons, List.map_nil, List.cons_append, List.nil_append, List.length_cons, List.length_nil, Nat.reduceAdd, Nat.reduceSub, Nat.reduceLeDiff, Nat.reduceLT, Bool.not_true, Bool.not_false, decide_true, decide_false]
        rw [ga _ rfl]
        simp -implicitDefEqProofs only [evs_, Option.bind_some, List.getElem?_cons_zero, List.getElem?_cons_succ, List.set_cons_zero, List.set_cons_succ, List.map_cons, List.map_nil, List.cons_append, List.nil_append, List.length_cons, List.length_nil, Nat.reduceAdd, Nat.reduceSub, Nat.reduceLeDiff, Nat.reduceLT, Bool.not_true, Bool.not_false, decide_true, decide_false]
      | row r =>
        have sl : s.last ≠ [] := by
          intro z
          rw [z] at hm
          exact absurd (show mayF [] wRow = true from hm) (by decide)
        have Gne : gS s.S ≠ [] := fun z => I.ne sl (List.map_eq_nil_iff.mp z)
        have gl : ((gS s.S).getD ((gS s.S).length - 1) []).length < 16777216 := by
          unfold gS
          rw [List.length_map, List.getD_eq_getElem?_getD, List.getElem?_map]
          cases q : s.S[s.S.length - 1]? with
          | none => simp
          | some y =>
            have := z4 y (List.mem_of_getElem? q)
            simp
            omega
        have e1 : eqF (wD wRow) (wD wShot) = some (.bool false) := e1
        have e2 : eqF (wD wRow) (wD wRow) = some (.bool true) := e2
        have fin : encR txt (stepR (.row r) s) (vi (k : Int)) (vl (wD l)) (vl (lnD (some (.row r)))) = [vl txt, some (.grid (.rows ((gS s.S).set ((gS s.S).length - 1) ((gS s.S).getD ((gS s.S).length - 1) [] ++ [tD r])))), some (.own (.list (s.P.map tD))), some (.own (.list (s.M.map mD))), vl (wD wRow), vi (k : Int), vl (wD l), vl (lnD (some (.row r))), none, none] := by
          rw [gS_last]
          rfl
        rw [fin]
        have i0 : ixF (lnD (some (.row r))) (.int 0) = some (wD wRow) := i0
        have i1 : ixF (lnD (some (.row r))) (.int 1) = some (tD r) := i1
        have mf : sem_may_follow [wD s.last, wD wRow] = .ok (.bool true) := mf
        unfold encR
        have ga : ∀ ρ : En, ρ[1]? = some (some (.grid (.rows (gS s.S)))) → ρ[7]? = some (vl (lnD (some (.row r)))) → sGappAt 1 (eUn negF (eC (.int 1))) (eOp ixF (eV 7) (eC (.int 1))) ρ = .nx (ρ.set 1 (some (.grid (.rows ((gS s.S).set ((gS s.S).length - 1) ((gS s.S).getD ((gS s.S).length - 1) [] ++ [tD r])))))) := fun ρ h h7 =>
          gappAt_ok h Gne rfl (by simp -implicitDefEqProofs only [h7, i1, evs_, Option.bind_some, List.getElem?_cons_zero, List.getElem?_cons_succ, List.set_cons_zero, List.set_cons_succ, List.map_cons, List.map_nil, List.cons_append, List.nil_append, List.length_cons, List.length_nil, Nat.reduceAdd, Nat.reduceSub, Nat.reduceLeDiff, Nat.reduceLT, Bool.not_true, Bool.not_false, decide_true, decide_false]) gl
        generalize hd : lnD (some (.row r)) = dn at *
        generalize wD l = dl at *
        generalize wD s.last = ds at *
        generalize hw2 : wD wShot = dw2 at *
        generalize hw : wD wRow = dw at *
        generalize gS s.S = G at *
        simp -implicitDefEqProofs only [lp_read_1, e, nn, i0, i1, mf, lit_shot, lit_row, hw, hw2, e1, e2, Bool.not_true, evs_, Option.bind_some, List.getElem?_cons_zero, List.getElem?_cons_succ, List.set_cons_zero, List.set_cons_succ, List.map_cons, List.map_nil, List.cons_append, List.nil_append, List.length_cons, List.length_nil, Nat.reduceAdd, Nat.reduceSub, Nat.reduceLeDiff, Nat.reduceLT, Bool.not_true, Bool.not_false, decide_true, decide_false]
        rw [ga _ rfl rfl]
        simp -implicitDefEqProofs only [evs_, Option.bind_some, List.getElem?_cons_zero, List.getElem?_cons_succ, List.set_cons_zero, List.set_cons_succ, List.map_cons, List.map_nil, List.cons_append, List.nil_append, List.length_cons, List.length_nil, Nat.reduceAdd, Nat.reduceSub, Nat.reduceLeDiff, Nat.reduceLT, Bool.not_true, Bool.not_false, decide_true, decide_false]
      | mark nm q =>
        have q3 : (s.M.map mD).length < 16777216 := by rw [List.length_map]; omega
        have e1 : eqF (wD wMark) (wD wShot) = some (.bool false) := e1
        have e2 : eqF (wD wMark) (wD wRow) = some (.bool false) := e2
        have fin : encR txt (stepR (.mark nm q) s) (vi (k : Int)) (vl (wD l)) (vl (lnD (some (.mark nm q)))) = [vl txt, some (.grid (.rows (gS s.S))), some (.own (.list (s.P.map tD))), some (.own (.list (s.M.map mD ++ [mD (nm, q)]))), vl (wD wMark), vi (k : Int), vl (wD l), vl (lnD (some (.mark nm q))), none, none] := by
          unfold encR stepR
          simp -implicitDefEqProofs only [List.map_append, List.map_cons, List.map_nil]
        rw [fin]
        have i0 : ixF (lnD (some (.mark nm q))) (.int 0) = some (wD wMark) := i0
        have i1 : ixF (lnD (some (.mark nm q))) (.int 1) = some (mD (nm, q)) := i1
        have mf : sem_may_follow [wD s.last, wD wMark] = .ok (.bool true) := mf
        unfold encR
        generalize hd : lnD (some (.mark nm q)) = dn at *
        generalize wD l = dl at *
        generalize wD s.last = ds at *
        generalize hw2 : wD wShot = dw2 at *
        generalize hw3 : wD wRow = dw3 at *
        generalize hw : wD wMark = dw at *
        generalize mD (nm, q) = dm at *
        generalize s.M.map mD = Ms at *
        simp -implicitDefEqProofs only [lp_read_1, e, nn, i0, i1, mf, lit_shot, lit_row, hw, hw2, hw3, e1, e2, Bool.not_true, appO_ok _ _ _ _ q3, evs_, Option.bind_some, List.getElem?_cons_zero, List.getElem?_cons_succ, List.set_cons_zero, List.set_cons_succ, List.map_cons, List.map_nil, List.cons_append, List.nil_append, List.length_cons, List.length_nil, Nat.reduceAdd, Nat.reduceSub, Nat.reduceLeDiff, Nat.reduceLT, Bool.not_true, Bool.not_false, decide_true, decide_false]
    · rw [if_neg hm]
      rw [show mayF s.last ln.word = false by simpa using hm] at mf
      refine ⟨encR txt s (vi (k : Int)) (vl (wD l)) (vl (lnD (some ln))), ?_⟩
      unfold encR
      generalize hd : lnD (some ln) = dn at *
      generalize wD l = dl at *
      generalize wD s.last = ds at *
      generalize wD ln.word = dw at *
      simp -implicitDefEqProofs only [lp_read_1, e, nn, i0, mf, ap_sRaiseX, Bool.not_false, evs_, Option.bind_some, List.getElem?_cons_zero, List.getElem?_cons_succ, List.set_cons_zero, List.set_cons_succ, List.map_cons, List.map_nil, List.cons_append, List.nil_append, List.length_cons, List.length_nil, Nat.reduceAdd, Nat.reduceSub, Nat.reduceLeDiff, Nat.reduceLT, Bool.not_true, Bool.not_false, decide_true, decide_false]
theorem forGo_exT {t : Tg} {f : SF} {d : D} {ds : List D} {ρ ρ1 ρ2 : En} {c : Str} {fs : List (Str × D)} (hb : bindT t d ρ = some ρ1) (h : f ρ1 = .exc c fs ρ2) : forGo t f (d :: ds) ρ = .exc c fs ρ2 := by
  simp -implicitDefEqProofs only [forGo, forOne, hb, h]
theorem read_loop {txt : D} : ∀ (ls : List (List Nat)) (k : Nat) (s : Rd) (n : Nat) (o5 o6 o7 : Option Sl), (∀ l ∈ ls, l.length ≤ 100000 ∧ Asc l) → s.Inv → s.Sz n → n + ls.length < 1000000 → match goR (ls.map (cutc 32)) k s with
    | .ok s' => s'.Inv ∧ ∃ o5' o6' o7' : Option Sl, forGo (.tp [.nm 5, .nm 6]) lp_read_1 (enumD k (ls.map wD)) (encR txt s o5 o6 o7) = .nx (encR txt s' o5' o6' o7')
    | .error j => ∃ ρ, forGo (.tp [.nm 5, .nm 6]) lp_read_1 (enumD k (ls.map wD)) (encR txt s o5 o6 o7) = .exc "BadText" [("line", .int (j : Int))] ρ
  | [], k, s, n, o5, o6, o7, _, I, _, _ => ⟨I, o5, o6, o7, rfl⟩
  | l :: ls, k, s, n, o5, o6, o7, h, I, z, hn => by
    rw [List.length_cons] at hn
    obtain ⟨hl, ha⟩ := h l List.mem_cons_self
    have st := step_read (txt := txt) (k := k) o7 hl ha I z (by omega)
    have bt : bindT (.tp [.nm 5, .nm 6]) (.tuple [.int (k : Int), wD l]) (encR txt s o5 o6 o7) = some (encR txt s (vi (k : Int)) (vl (wD l)) o7) := by
      unfold encR
      generalize wD l = dl
      simp -implicitDefEqProofs only [evs_, Option.bind_some, List.getElem?_cons_zero, List.getElem?_cons_succ, List.set_cons_zero, List.set_cons_succ, List.map_cons, List.map_nil, List.cons_append, List.nil_append, List.length_cons, List.length_nil, Nat.reduceAdd, Nat.reduceSub, Nat.reduceLeDiff, Nat.reduceLT, Bool.not_true, Bool.not_false, decide_true, decide_false]
    show match goR (cutc 32 l :: ls.map (cutc 32)) k s with
      | .ok s' => s'.Inv ∧ ∃ o5' o6' o7' : Option Sl, forGo (.tp [.nm 5, .nm 6]) lp_read_1 (.tuple [.int (k : Int), wD l] :: enumD (k + 1) (ls.map wD)) (encR txt s o5 o6 o7) = .nx (encR txt s' o5' o6' o7')
      | .error j => ∃ ρ, forGo (.tp [.nm 5, .nm 6]) lp_read_1 (.tuple [.int (k : Int), wD l] :: enumD (k + 1) (ls.map wD)) (encR txt s o5 o6 o7) = .exc "BadText" [("line", .int (j : Int))] ρ
    cases hw : lineW (cutc 32 l) with
    | none =>
      rw [hw] at st
      obtain ⟨ρ, e⟩ := st
      have g : goR (cutc 32 l :: ls.map (cutc 32)) k s = .error k := by
        show (match lineW (cutc 32 l) with | some ln => _ | none => _) = _
        rw [hw]
      rw [g]
      exact ⟨ρ, forGo_exT bt e⟩
    | some ln =>
      rw [hw] at st
      dsimp only at st
      by_cases hm : mayF s.last ln.word = true
      · rw [if_pos hm] at st
        rw [goR_cons hw hm]
        have ih := read_loop (txt := txt) ls (k + 1) (stepR ln s) (n + 1) (vi (k : Int)) (vl (wD l)) (vl (lnD (some ln))) (fun x hx => h x (List.mem_cons_of_mem _ hx)) (step_inv I hm).1 (sz_step z) (by omega)
        rw [forGo_nxT bt st]
        exact ih
      · rw [if_neg hm] at st
        obtain ⟨ρ, e⟩ := st
        have g : goR (cutc 32 l :: ls.map (cutc 32)) k s = .error k := by
          show (match lineW (cutc 32 l) with | some ln => if mayF s.last ln.word = true then _ else _ | none => _) = _
          rw [hw]
          exact if_neg hm
        rw [g]
        exact ⟨ρ, forGo_exT bt e⟩
end VVlaw

set_option Elab.async false
set_option linter.all false
set_option maxRecDepth 100000
set_option maxHeartbeats 8000000
/-! TXe: what is read is looked at. -/
namespace VVlaw
open PySem PySem.Spec L2 VV
open PyProof.Rows hiding St
open TL
/-- what passes a test that comes to a truth -/
theorem filt_tot {α : Type} {vs : List Nat} {fi : IF} {i : Nat} {c e : EF} {ρ : En} (xs : List α) (emb f : α → D) (hi : fi ρ = .ok (xs.map emb)) (hl : xs.length ≤ 16777216) (h : ∀ x ∈ xs, (∃ b : Bool, c ((wipeE ρ vs).set i (some (.val (emb x)))) = .ok (.bool b)) ∧ e ((wipeE ρ vs).set i (some (.val (emb x)))) = .ok (f x)) : ∃ L : List D, eLc vs fi (.nm i) c e ρ = .ok (.list L) := by
  have key : ∀ (xs : List α), (∀ x ∈ xs, (∃ b : Bool, c ((wipeE ρ vs).set i (some (.val (emb x)))) = .ok (.bool b)) ∧ e ((wipeE ρ vs).set i (some (.val (emb x)))) = .ok (f x)) → ∃ L : List D, lcGo (.nm i) c e (wipeE ρ vs) (xs.map emb) = .ok L ∧ L.length ≤ xs.length := by
    intro xs
    induction xs with
    | nil => exact fun _ => ⟨[], rfl, Nat.le_refl _⟩
    | cons x xs ih =>
      intro h
      obtain ⟨⟨b, h1⟩, h2⟩ := h x List.mem_cons_self
      obtain ⟨L, e1, l1⟩ := ih fun y hy => h y (List.mem_cons_of_mem _ hy)
      cases b with
      | true => exact ⟨f x :: L, by simp -implicitDefEqProofs only [List.map_cons, lcGo, lcOne, bT_nm, h1, h2, e1, RL.cons_ok], by simpa using l1⟩
      | false => exact ⟨L, by simp -implicitDefEqProofs only [List.map_cons, lcGo, lcOne, bT_nm, h1, e1], by simp; omega⟩
  obtain ⟨L, e1, l1⟩ := key xs h
  refine ⟨L, ?_⟩
  unfold eLc
  rw [hi, RL.bind_ok, e1, RL.bind_ok]
  exact lstR_ok _ (by omega)
theorem within_tot (n : Nat) (a b : Int) : sem_is_within [nD n, .int a, .int b] = .ok (.bool (decide (a ≤ (n : Int) ∧ (n : Int) ≤ b))) := is_within_eq _ _ _
/-- those of a list that are not within bounds -/
theorem odd_tot {lo hi : Int} (i : Nat) (f : IF) (us : List Nat) (hu : us.length ≤ 1000000) (ρ : En) (hl : i < ρ.length) (hf : f ρ = .ok (us.map nD)) : ∃ L : List D, eLc [i] f (.nm i) (gNot (gTru (eCall sem_is_within [(eV i), (eC (.int lo)), (eC (.int hi))]))) (eV i) ρ = .ok (.list L) := by
  refine ⟨_, eLc_filtT us nD nD (fun n => !decide (lo ≤ (n : Int) ∧ (n : Int) ≤ hi)) hf (by omega) fun u hm => ⟨_, bT_nm _ _ _, ?_⟩⟩
  have g : ((wipeE ρ [i]).set i (some (.val (nD u))))[i]? = some (vl (nD u)) := List.getElem?_set_self (by rw [wipeE_length]; exact hl)
  have w := within_tot u lo hi
  generalize (wipeE ρ [i]).set i (some (.val (nD u))) = ρ2 at g ⊢
  generalize nD u = du at *
  exact ⟨by simp -implicitDefEqProofs only [g, w, evs_, Option.bind_some, List.getElem?_cons_zero, List.getElem?_cons_succ, List.set_cons_zero, List.set_cons_succ, List.map_cons, List.map_nil, List.cons_append, List.nil_append, List.length_cons, List.length_nil, Nat.reduceAdd, Nat.reduceSub, Nat.reduceLeDiff, Nat.reduceLT, Bool.not_true, Bool.not_false, decide_true, decide_false], fun _ => by simp -implicitDefEqProofs only [g, evs_, Option.bind_some, List.getElem?_cons_zero, List.getElem?_cons_succ, List.set_cons_zero, List.set_cons_succ, List.map_cons, List.map_nil, List.cons_append, List.nil_append, List.length_cons, List.length_nil, Nat.reduceAdd, Nat.reduceSub, Nat.reduceLeDiff, Nat.reduceLT, Bool.not_true, Bool.not_false, decide_true, decide_false]⟩
theorem len_tD (r : List Nat) : lenF [tD r] = some (.int (r.length : Int)) := by
  unfold tD
  rw [f_len_t, List.length_map]
theorem is_row_tot {r : List Nat} (h : r.length ≤ 1000000) (w : Int) : ∃ b, sem_is_row [tD r, .int w] = .ok (.bool b) := by
  have i0 : isiO isTup (.ok (tD r)) = .ok (.bool true) := rfl
  have l0 := len_tD r
  have c1 : ∀ ρ : En, ρ.length = 3 → ρ[0]? = some (vl (tD r)) → ∃ L : List D, eLc [2] (iSeq (eV 0)) (.nm 2) (gNot (gTru (eCall sem_is_within [(eV 2), (eC (.int 0)), (eC (.int 255))]))) (eV 2) ρ = .ok (.list L) := fun ρ hl e0 => odd_tot 2 _ r h ρ (by omega) (by unfold tD at e0; simp -implicitDefEqProofs only [e0, evs_, Option.bind_some, List.getElem?_cons_zero, List.getElem?_cons_succ, List.set_cons_zero, List.set_cons_succ, List.map_cons, List.map_nil, List.cons_append, List.nil_append, List.length_cons, List.length_nil, Nat.reduceAdd, Nat.reduceSub, Nat.reduceLeDiff, Nat.reduceLT, Bool.not_true, Bool.not_false, decide_true, decide_false])
  have nn := f_neI (r.length : Int) w
  obtain ⟨L, c2⟩ := c1 [vl (tD r), vi w, none] rfl rfl
  generalize tD r = d at *
  cases q : (!decide ((r.length : Int) = w)) with
  | true =>
    rw [q] at nn
    exact ⟨false, by simp -implicitDefEqProofs only [sem_is_row, b_is_row, i0, l0, nn, Bool.not_true, evs_, Option.bind_some, List.getElem?_cons_zero, List.getElem?_cons_succ, List.set_cons_zero, List.set_cons_succ, List.map_cons, List.map_nil, List.cons_append, List.nil_append, List.length_cons, List.length_nil, Nat.reduceAdd, Nat.reduceSub, Nat.reduceLeDiff, Nat.reduceLT, Bool.not_true, Bool.not_false, decide_true, decide_false]⟩
  | false =>
    rw [q] at nn
    refine ⟨! !L.isEmpty, ?_⟩
    simp -implicitDefEqProofs only [sem_is_row, b_is_row, i0, l0, nn, Bool.not_true, evs_, Option.bind_some, List.getElem?_cons_zero, List.getElem?_cons_succ, List.set_cons_zero, List.set_cons_succ, List.map_cons, List.map_nil, List.cons_append, List.nil_append, List.length_cons, List.length_nil, Nat.reduceAdd, Nat.reduceSub, Nat.reduceLeDiff, Nat.reduceLT, Bool.not_true, Bool.not_false, decide_true, decide_false]
    rw [c2]
    rfl
def sD (s : List (List Nat)) : D := .tuple (s.map tD)
theorem len_sD (s : List (List Nat)) : lenF [sD s] = some (.int (s.length : Int)) := by
  unfold sD
  rw [f_len_t, List.length_map]
theorem is_shot_tot {s : List (List Nat)} (h : s.length ≤ 1000000) (hr : ∀ r ∈ s, r.length ≤ 1000000) : ∃ b, sem_is_shot [sD s] = .ok (.bool b) := by
  have i0 : isiO isTup (.ok (sD s)) = .ok (.bool true) := rfl
  have l0 := len_sD s
  by_cases c1 : (1 : Int) ≤ (s.length : Int)
  · by_cases c2 : (s.length : Int) ≤ 12
    · cases s with
      | nil => simp at c1
      | cons r s =>
        have x0 : ixF (sD (r :: s)) (.int 0) = some (tD r) := f_ix0 _ _
        have i1 : isiO isTup (.ok (tD r)) = .ok (.bool true) := rfl
        have l1 := len_tD r
        have lc : ∀ ρ : En, ρ.length = 2 → ρ[0]? = some (vl (sD (r :: s))) → ∃ L : List D, eLc [1] (iSeq (eV 0)) (.nm 1) (gNot (gTru (eCall sem_is_row [(eV 1), (eCB lenF [(eOp ixF (eV 0) (eC (.int 0)))])]))) (eV 1) ρ = .ok (.list L) := by
          intro ρ hρ e0
          refine filt_tot (r :: s) tD tD (by unfold sD at e0; simp -implicitDefEqProofs only [e0, evs_, Option.bind_some, List.getElem?_cons_zero, List.getElem?_cons_succ, List.set_cons_zero, List.set_cons_succ, List.map_cons, List.map_nil, List.cons_append, List.nil_append, List.length_cons, List.length_nil, Nat.reduceAdd, Nat.reduceSub, Nat.reduceLeDiff, Nat.reduceLT, Bool.not_true, Bool.not_false, decide_true, decide_false]) (by omega) fun x hx => ?_
          have g : ((wipeE ρ [1]).set 1 (some (.val (tD x))))[1]? = some (vl (tD x)) := List.getElem?_set_self (by rw [wipeE_length]; omega)
          have g0 : ((wipeE ρ [1]).set 1 (some (.val (tD x))))[0]? = some (vl (sD (r :: s))) := by rw [List.getElem?_set_ne (by decide), wipeE_get _ _ _ (by decide), e0]
          obtain ⟨b, w⟩ := is_row_tot (hr x hx) (r.length : Int)
          generalize (wipeE ρ [1]).set 1 (some (.val (tD x))) = ρ2 at g g0 ⊢
          generalize tD x = dx at *
          generalize sD (r :: s) = ds at *
          exact ⟨⟨!b, by simp -implicitDefEqProofs only [g, g0, x0, l1, w, evs_, Option.bind_some, List.getElem?_cons_zero, List.getElem?_cons_succ, List.set_cons_zero, List.set_cons_succ, List.map_cons, List.map_nil, List.cons_append, List.nil_append, List.length_cons, List.length_nil, Nat.reduceAdd, Nat.reduceSub, Nat.reduceLeDiff, Nat.reduceLT, Bool.not_true, Bool.not_false, decide_true, decide_false]⟩, by simp -implicitDefEqProofs only [g, evs_, Option.bind_some, List.getElem?_cons_zero, List.getElem?_cons_succ, List.set_cons_zero, List.set_cons_succ, List.map_cons, List.map_nil, List.cons_append, List.nil_append, List.length_cons, List.length_nil, Nat.reduceAdd, Nat.reduceSub, Nat.reduceLeDiff, Nat.reduceLT, Bool.not_true, Bool.not_false, decide_true, decide_false]⟩
        obtain ⟨L, c⟩ := lc [vl (sD (r :: s)), none] rfl rfl
        have d1 := decide_eq_true c1
        have d2 := decide_eq_true c2
        generalize ((r :: s).length : Int) = n at *
        generalize sD (r :: s) = d at *
        generalize tD r = dr at *
        by_cases c3 : (1 : Int) ≤ (r.length : Int)
        · have d3 := decide_eq_true c3
          by_cases c4 : (r.length : Int) ≤ 12
          · have d4 := decide_eq_true c4
            refine ⟨! !L.isEmpty, ?_⟩
            simp -implicitDefEqProofs only [sem_is_shot, b_is_shot, i0, l0, d1, d2, x0, i1, l1, d3, d4, Bool.not_true, evs_, Option.bind_some, List.getElem?_cons_zero, List.getElem?_cons_succ, List.set_cons_zero, List.set_cons_succ, List.map_cons, List.map_nil, List.cons_append, List.nil_append, List.length_cons, List.length_nil, Nat.reduceAdd, Nat.reduceSub, Nat.reduceLeDiff, Nat.reduceLT, Bool.not_true, Bool.not_false, decide_true, decide_false]
            rw [c]
            rfl
          · have d4 := decide_eq_false c4
            refine ⟨false, ?_⟩
            simp -implicitDefEqProofs only [sem_is_shot, b_is_shot, i0, l0, d1, d2, x0, i1, l1, d3, d4, Bool.not_true, Bool.not_false, evs_, Option.bind_some, List.getElem?_cons_zero, List.getElem?_cons_succ, List.set_cons_zero, List.set_cons_succ, List.map_cons, List.map_nil, List.cons_append, List.nil_append, List.length_cons, List.length_nil, Nat.reduceAdd, Nat.reduceSub, Nat.reduceLeDiff, Nat.reduceLT, Bool.not_true, Bool.not_false, decide_true, decide_false]
        · have d3 := decide_eq_false c3
          refine ⟨false, ?_⟩
          simp -implicitDefEqProofs only [sem_is_shot, b_is_shot, i0, l0, d1, d2, x0, i1, l1, d3, Bool.not_true, Bool.not_false, evs_, Option.bind_some, List.getElem?_cons_zero, List.getElem?_cons_succ, List.set_cons_zero, List.set_cons_succ, List.map_cons, List.map_nil, List.cons_append, List.nil_append, List.length_cons, List.length_nil, Nat.reduceAdd, Nat.reduceSub, Nat.reduceLeDiff, Nat.reduceLT, Bool.not_true, Bool.not_false, decide_true, decide_false]
    · have d1 := decide_eq_true c1
      have d2 := decide_eq_false c2
      generalize sD s = d at *
      exact ⟨false, by simp -implicitDefEqProofs only [sem_is_shot, b_is_shot, i0, l0, d1, d2, Bool.not_true, Bool.not_false, evs_, Option.bind_some, List.getElem?_cons_zero, List.getElem?_cons_succ, List.set_cons_zero, List.set_cons_succ, List.map_cons, List.map_nil, List.cons_append, List.nil_append, List.length_cons, List.length_nil, Nat.reduceAdd, Nat.reduceSub, Nat.reduceLeDiff, Nat.reduceLT, Bool.not_true, Bool.not_false, decide_true, decide_false]⟩
  · have d1 := decide_eq_false c1
    generalize sD s = d at *
    exact ⟨false, by simp -implicitDefEqProofs only [sem_is_shot, b_is_shot, i0, l0, d1, Bool.not_true, Bool.not_false, evs_, Option.bind_some, List.getElem?_cons_zero, List.getElem?_cons_succ, List.set_cons_zero, List.set_cons_succ, List.map_cons, List.map_nil, List.cons_append, List.nil_append, List.length_cons, List.length_nil, Nat.reduceAdd, Nat.reduceSub, Nat.reduceLeDiff, Nat.reduceLT, Bool.not_true, Bool.not_false, decide_true, decide_false]⟩
def shsD (S : List (List (List Nat))) : D := .tuple (S.map sD)
theorem len_shs (S : List (List (List Nat))) : lenF [shsD S] = some (.int (S.length : Int)) := by
  unfold shsD
  rw [f_len_t, List.length_map]
theorem are_shots_tot {S : List (List (List Nat))} (h : S.length ≤ 1000000) (hs : ∀ s ∈ S, s.length ≤ 1000000 ∧ ∀ r ∈ s, r.length ≤ 1000000) : ∃ b, sem_are_shots [shsD S] = .ok (.bool b) := by
  have i0 : isiO isTup (.ok (shsD S)) = .ok (.bool true) := rfl
  have l0 := len_shs S
  have lc : ∀ ρ : En, ρ.length = 2 → ρ[0]? = some (vl (shsD S)) → ∃ L : List D, eLc [1] (iSeq (eV 0)) (.nm 1) (gNot (gTru (eCall sem_is_shot [(eV 1)]))) (eV 1) ρ = .ok (.list L) := by
    intro ρ hρ e0
    refine filt_tot S sD sD (by unfold shsD at e0; simp -implicitDefEqProofs only [e0, evs_, Option.bind_some, List.getElem?_cons_zero, List.getElem?_cons_succ, List.set_cons_zero, List.set_cons_succ, List.map_cons, List.map_nil, List.cons_append, List.nil_append, List.length_cons, List.length_nil, Nat.reduceAdd, Nat.reduceSub, Nat.reduceLeDiff, Nat.reduceLT, Bool.not_true, Bool.not_false, decide_true, decide_false]) (by omega) fun x hx => ?_
    have g : ((wipeE ρ [1]).set 1 (some (.val (sD x))))[1]? = some (vl (sD x)) := List.getElem?_set_self (by rw [wipeE_length]; omega)
    obtain ⟨b, w⟩ := is_shot_tot (hs x hx).1 (hs x hx).2
    generalize (wipeE ρ [1]).set 1 (some (.val (sD x))) = ρ2 at g ⊢
    generalize sD x = dx at *
    exact ⟨⟨!b, by simp -implicitDefEqProofs only [g, w, evs_, Option.bind_some, List.getElem?_cons_zero, List.getElem?_cons_succ, List.set_cons_zero, List.set_cons_succ, List.map_cons, List.map_nil, List.cons_append, List.nil_append, List.length_cons, List.length_nil, Nat.reduceAdd, Nat.reduceSub, Nat.reduceLeDiff, Nat.reduceLT, Bool.not_true, Bool.not_false, decide_true, decide_false]⟩, by simp -implicitDefEqProofs only [g, evs_, Option.bind_some, List.getElem?_cons_zero, List.getElem?_cons_succ, List.set_cons_zero, List.set_cons_succ, List.map_cons, List.map_nil, List.cons_append, List.nil_append, List.length_cons, List.length_nil, Nat.reduceAdd, Nat.reduceSub, Nat.reduceLeDiff, Nat.reduceLT, Bool.not_true, Bool.not_false, decide_true, decide_false]⟩
  obtain ⟨L, c⟩ := lc [vl (shsD S), none] rfl rfl
  generalize shsD S = d at *
  by_cases c1 : (1 : Int) ≤ (S.length : Int)
  · have d1 := decide_eq_true c1
    by_cases c2 : (S.length : Int) ≤ 8
    · have d2 := decide_eq_true c2
      refine ⟨! !L.isEmpty, ?_⟩
      simp -implicitDefEqProofs only [sem_are_shots, b_are_shots, i0, l0, d1, d2, evs_, Option.bind_some, List.getElem?_cons_zero, List.getElem?_cons_succ, List.set_cons_zero, List.set_cons_succ, List.map_cons, List.map_nil, List.cons_append, List.nil_append, List.length_cons, List.length_nil, Nat.reduceAdd, Nat.reduceSub, Nat.reduceLeDiff, Nat.reduceLT, Bool.not_true, Bool.not_false, decide_true, decide_false]
      rw [c]
      rfl
    · have d2 := decide_eq_false c2
      exact ⟨false, by simp -implicitDefEqProofs only [sem_are_shots, b_are_shots, i0, l0, d1, d2, evs_, Option.bind_some, List.getElem?_cons_zero, List.getElem?_cons_succ, List.set_cons_zero, List.set_cons_succ, List.map_cons, List.map_nil, List.cons_append, List.nil_append, List.length_cons, List.length_nil, Nat.reduceAdd, Nat.reduceSub, Nat.reduceLeDiff, Nat.reduceLT, Bool.not_true, Bool.not_false, decide_true, decide_false]⟩
  · have d1 := decide_eq_false c1
    exact ⟨false, by simp -implicitDefEqProofs only [sem_are_shots, b_are_shots, i0, l0, d1, evs_, Option.bind_some, List.getElem?_cons_zero, List.getElem?_cons_succ, List.set_cons_zero, List.set_cons_succ, List.map_cons, List.map_nil, List.cons_append, List.nil_append, List.length_cons, List.length_nil, Nat.reduceAdd, Nat.reduceSub, Nat.reduceLeDiff, Nat.reduceLT, Bool.not_true, Bool.not_false, decide_true, decide_false]⟩
/-! ### places -/
def psD (P : List (List Nat)) : D := .tuple (P.map tD)
theorem one_place {p : List Nat} (h : p.length ≤ 1000000) (a b : D) (o3 : Option Sl) : lp_are_places_1 [vl a, vl b, vl (tD p), o3] = .nx [vl a, vl b, vl (tD p), o3] ∨ lp_are_places_1 [vl a, vl b, vl (tD p), o3] = .rt (.bool false) := by
  have i0 : isiO isTup (.ok (tD p)) = .ok (.bool true) := rfl
  have l0 := len_tD p
  have nn := f_neI (p.length : Int) 2
  obtain ⟨L, c⟩ := odd_tot (lo := 0) (hi := 99) 3 (iSeq (eV 2)) p h [vl a, vl b, vl (tD p), o3] (by simp) (by unfold tD; simp -implicitDefEqProofs only [evs_, Option.bind_some, List.getElem?_cons_zero, List.getElem?_cons_succ, List.set_cons_zero, List.set_cons_succ, List.map_cons, List.map_nil, List.cons_append, List.nil_append, List.length_cons, List.length_nil, Nat.reduceAdd, Nat.reduceSub, Nat.reduceLeDiff, Nat.reduceLT, Bool.not_true, Bool.not_false, decide_true, decide_false])
  generalize tD p = d at *
  cases q : (!decide ((p.length : Int) = 2)) with
  | true =>
    rw [q] at nn
    exact .inr (by simp -implicitDefEqProofs only [lp_are_places_1, i0, l0, nn, Bool.not_true, evs_, Option.bind_some, List.getElem?_cons_zero, List.getElem?_cons_succ, List.set_cons_zero, List.set_cons_succ, List.map_cons, List.map_nil, List.cons_append, List.nil_append, List.length_cons, List.length_nil, Nat.reduceAdd, Nat.reduceSub, Nat.reduceLeDiff, Nat.reduceLT, Bool.not_true, Bool.not_false, decide_true, decide_false])
  | false =>
    rw [q] at nn
    cases L with
    | nil =>
      refine .inl ?_
      simp -implicitDefEqProofs only [lp_are_places_1, i0, l0, nn, Bool.not_true, evs_, Option.bind_some, List.getElem?_cons_zero, List.getElem?_cons_succ, List.set_cons_zero, List.set_cons_succ, List.map_cons, List.map_nil, List.cons_append, List.nil_append, List.length_cons, List.length_nil, Nat.reduceAdd, Nat.reduceSub, Nat.reduceLeDiff, Nat.reduceLT, Bool.not_true, Bool.not_false, decide_true, decide_false]
      rw [c]
      rfl
    | cons x L =>
      refine .inr ?_
      simp -implicitDefEqProofs only [lp_are_places_1, i0, l0, nn, Bool.not_true, evs_, Option.bind_some, List.getElem?_cons_zero, List.getElem?_cons_succ, List.set_cons_zero, List.set_cons_succ, List.map_cons, List.map_nil, List.cons_append, List.nil_append, List.length_cons, List.length_nil, Nat.reduceAdd, Nat.reduceSub, Nat.reduceLeDiff, Nat.reduceLT, Bool.not_true, Bool.not_false, decide_true, decide_false]
      rw [c]
      rfl
theorem all_places (a b : D) : ∀ (P : List (List Nat)) (o2 o3 : Option Sl), (∀ p ∈ P, p.length ≤ 1000000) → (∃ o2' : Option Sl, forGo (.nm 2) lp_are_places_1 (P.map tD) [vl a, vl b, o2, o3] = .nx [vl a, vl b, o2', o3]) ∨ forGo (.nm 2) lp_are_places_1 (P.map tD) [vl a, vl b, o2, o3] = .rt (.bool false)
  | [], o2, o3, _ => .inl ⟨o2, rfl⟩
  | p :: P, o2, o3, h => by
    have bt : bindT (.nm 2) (tD p) [vl a, vl b, o2, o3] = some [vl a, vl b, vl (tD p), o3] := bT_nm _ _ _
    rcases one_place (h p List.mem_cons_self) a b o3 with e | e
    · rw [List.map_cons, forGo_nxT bt e]
      exact all_places a b P _ o3 fun q hq => h q (List.mem_cons_of_mem _ hq)
    · exact .inr (forGo_rtT bt e)
theorem are_places_tot {P : List (List Nat)} (a : D) {n : Nat} (hn : lenF [a] = some (.int (n : Int))) (h : ∀ p ∈ P, p.length ≤ 1000000) : ∃ b, sem_are_places [a, psD P] = .ok (.bool b) := by
  have i0 : isiO isTup (.ok (psD P)) = .ok (.bool true) := rfl
  have l0 : lenF [psD P] = some (.int (P.length : Int)) := by
    unfold psD
    rw [f_len_t, List.length_map]
  have nn := f_neI (P.length : Int) (n : Int)
  have it : (Rs.ok (psD P)).items itF = .ok (P.map tD) := rfl
  have lp := all_places a (psD P) P none none h
  generalize P.map tD = Q at *
  generalize psD P = d at *
  cases q : (!decide ((P.length : Int) = (n : Int))) with
  | true =>
    rw [q] at nn
    exact ⟨false, by simp -implicitDefEqProofs only [sem_are_places, b_are_places, i0, l0, hn, nn, Bool.not_true, evs_, Option.bind_some, List.getElem?_cons_zero, List.getElem?_cons_succ, List.set_cons_zero, List.set_cons_succ, List.map_cons, List.map_nil, List.cons_append, List.nil_append, List.length_cons, List.length_nil, Nat.reduceAdd, Nat.reduceSub, Nat.reduceLeDiff, Nat.reduceLT, Bool.not_true, Bool.not_false, decide_true, decide_false]⟩
  | false =>
    rw [q] at nn
    rcases lp with ⟨o2, e⟩ | e
    · refine ⟨true, ?_⟩
      simp -implicitDefEqProofs only [sem_are_places, b_are_places, i0, l0, hn, nn, it, Bool.not_true, evs_, Option.bind_some, List.getElem?_cons_zero, List.getElem?_cons_succ, List.set_cons_zero, List.set_cons_succ, List.map_cons, List.map_nil, List.cons_append, List.nil_append, List.length_cons, List.length_nil, Nat.reduceAdd, Nat.reduceSub, Nat.reduceLeDiff, Nat.reduceLT, Bool.not_true, Bool.not_false, decide_true, decide_false]
      rw [e]
      rfl
    · refine ⟨false, ?_⟩
      simp -implicitDefEqProofs only [sem_are_places, b_are_places, i0, l0, hn, nn, it, Bool.not_true, evs_, Option.bind_some, List.getElem?_cons_zero, List.getElem?_cons_succ, List.set_cons_zero, List.set_cons_succ, List.map_cons, List.map_nil, List.cons_append, List.nil_append, List.length_cons, List.length_nil, Nat.reduceAdd, Nat.reduceSub, Nat.reduceLeDiff, Nat.reduceLT, Bool.not_true, Bool.not_false, decide_true, decide_false]
      rw [e]
      rfl
/-! ### marks -/
theorem is_name_tot {w : List Nat} (h : w.length ≤ 1000000) : ∃ b, sem_is_name [wD w] = .ok (.bool b) := by
  have i0 : isiO isStr (.ok (wD w)) = .ok (.bool true) := rfl
  have l0 := len_w (a := w) (by omega)
  have lc : ∀ ρ : En, ρ.length = 2 → ρ[0]? = some (vl (wD w)) → ∃ L : List D, eLc [1] (iSeq (eV 0)) (.nm 1) (eOp ninF (eV 1) (eC (.str "abcdefghijklmnopqrstuvwxyz"))) (eV 1) ρ = .ok (.list L) := by
    intro ρ hρ e0
    refine filt_tot w (fun c => .str ⟨#[c]⟩) (fun c => .str ⟨#[c]⟩) (by simp -implicitDefEqProofs only [e0, evs_, Option.bind_some, List.getElem?_cons_zero, List.getElem?_cons_succ, List.set_cons_zero, List.set_cons_succ, List.map_cons, List.map_nil, List.cons_append, List.nil_append, List.length_cons, List.length_nil, Nat.reduceAdd, Nat.reduceSub, Nat.reduceLeDiff, Nat.reduceLT, Bool.not_true, Bool.not_false, decide_true, decide_false]; rfl) (by omega) fun c hc => ?_
    have g : ((wipeE ρ [1]).set 1 (some (.val (.str ⟨#[c]⟩))))[1]? = some (vl (.str ⟨#[c]⟩)) := List.getElem?_set_self (by rw [wipeE_length]; omega)
    have nn : ninF (.str ⟨#[c]⟩) (.str "abcdefghijklmnopqrstuvwxyz") = some (.bool (!decide (c ∈ (("abcdefghijklmnopqrstuvwxyz" : String) : Str).cps.toList))) := rfl
    generalize (wipeE ρ [1]).set 1 (some (.val (.str ⟨#[c]⟩))) = ρ2 at g ⊢
    generalize (!decide (c ∈ (("abcdefghijklmnopqrstuvwxyz" : String) : Str).cps.toList)) = bb at nn
    exact ⟨⟨bb, by simp -implicitDefEqProofs only [g, nn, evs_, Option.bind_some, List.getElem?_cons_zero, List.getElem?_cons_succ, List.set_cons_zero, List.set_cons_succ, List.map_cons, List.map_nil, List.cons_append, List.nil_append, List.length_cons, List.length_nil, Nat.reduceAdd, Nat.reduceSub, Nat.reduceLeDiff, Nat.reduceLT, Bool.not_true, Bool.not_false, decide_true, decide_false]⟩, by simp -implicitDefEqProofs only [g, evs_, Option.bind_some, List.getElem?_cons_zero, List.getElem?_cons_succ, List.set_cons_zero, List.set_cons_succ, List.map_cons, List.map_nil, List.cons_append, List.nil_append, List.length_cons, List.length_nil, Nat.reduceAdd, Nat.reduceSub, Nat.reduceLeDiff, Nat.reduceLT, Bool.not_true, Bool.not_false, decide_true, decide_false]⟩
  obtain ⟨L, c⟩ := lc [vl (wD w), none] rfl rfl
  generalize wD w = d at *
  by_cases c1 : (1 : Int) ≤ (w.length : Int)
  · have d1 := decide_eq_true c1
    by_cases c2 : (w.length : Int) ≤ 6
    · have d2 := decide_eq_true c2
      refine ⟨! !L.isEmpty, ?_⟩
      simp -implicitDefEqProofs only [sem_is_name, b_is_name, i0, l0, d1, d2, evs_, Option.bind_some, List.getElem?_cons_zero, List.getElem?_cons_succ, List.set_cons_zero, List.set_cons_succ, List.map_cons, List.map_nil, List.cons_append, List.nil_append, List.length_cons, List.length_nil, Nat.reduceAdd, Nat.reduceSub, Nat.reduceLeDiff, Nat.reduceLT, Bool.not_true, Bool.not_false, decide_true, decide_false]
      rw [c]
      rfl
    · have d2 := decide_eq_false c2
      exact ⟨false, by simp -implicitDefEqProofs only [sem_is_name, b_is_name, i0, l0, d1, d2, evs_, Option.bind_some, List.getElem?_cons_zero, List.getElem?_cons_succ, List.set_cons_zero, List.set_cons_succ, List.map_cons, List.map_nil, List.cons_append, List.nil_append, List.length_cons, List.length_nil, Nat.reduceAdd, Nat.reduceSub, Nat.reduceLeDiff, Nat.reduceLT, Bool.not_true, Bool.not_false, decide_true, decide_false]⟩
  · have d1 := decide_eq_false c1
    exact ⟨false, by simp -implicitDefEqProofs only [sem_is_name, b_is_name, i0, l0, d1, evs_, Option.bind_some, List.getElem?_cons_zero, List.getElem?_cons_succ, List.set_cons_zero, List.set_cons_succ, List.map_cons, List.map_nil, List.cons_append, List.nil_append, List.length_cons, List.length_nil, Nat.reduceAdd, Nat.reduceSub, Nat.reduceLeDiff, Nat.reduceLT, Bool.not_true, Bool.not_false, decide_true, decide_false]⟩
theorem is_mark_tot {m : List Nat × List Nat} (h : m.1.length ≤ 1000000) (h4 : m.2.length = 4) : ∃ b, sem_is_mark [mD m] = .ok (.bool b) := by
  obtain ⟨nm, q⟩ := m
  match q, h4 with
  | [x, y, u, v], _ =>
    have i0 : isiO isTup (.ok (mD (nm, [x, y, u, v]))) = .ok (.bool true) := rfl
    have l0 : lenF [mD (nm, [x, y, u, v])] = some (.int 5) := rfl
    have n5 : neF (.int 5) (.int 5) = some (.bool false) := ne_int_self 5
    have x0 : ixF (mD (nm, [x, y, u, v])) (.int 0) = some (wD nm) := f_ix0 _ _
    have s1 : slF (mD (nm, [x, y, u, v])) (some 1) (some 3) = some (.tuple ([x, y].map nD)) := rfl
    have s2 : slF (mD (nm, [x, y, u, v])) (some 3) none = some (.tuple ([u, v].map nD)) := rfl
    obtain ⟨b, nmb⟩ := is_name_tot h
    obtain ⟨L1, c1⟩ := odd_tot (lo := 0) (hi := 99) 1 (iSeq (eSl (eV 0) (some (eC (.int 1))) (some (eC (.int 3))))) [x, y] (by simp) [vl (mD (nm, [x, y, u, v])), none] (by simp) (by simp -implicitDefEqProofs only [s1, evs_, Option.bind_some, List.getElem?_cons_zero, List.getElem?_cons_succ, List.set_cons_zero, List.set_cons_succ, List.map_cons, List.map_nil, List.cons_append, List.nil_append, List.length_cons, List.length_nil, Nat.reduceAdd, Nat.reduceSub, Nat.reduceLeDiff, Nat.reduceLT, Bool.not_true, Bool.not_false, decide_true, decide_false])
    obtain ⟨L2, c2⟩ := odd_tot (lo := 1) (hi := 99) 1 (iSeq (eSl (eV 0) (some (eC (.int 3))) none)) [u, v] (by simp) [vl (mD (nm, [x, y, u, v])), none] (by simp) (by simp -implicitDefEqProofs only [s2, evs_, Option.bind_some, List.getElem?_cons_zero, List.getElem?_cons_succ, List.set_cons_zero, List.set_cons_succ, List.map_cons, List.map_nil, List.cons_append, List.nil_append, List.length_cons, List.length_nil, Nat.reduceAdd, Nat.reduceSub, Nat.reduceLeDiff, Nat.reduceLT, Bool.not_true, Bool.not_false, decide_true, decide_false])
    clear h
    generalize mD (nm, [x, y, u, v]) = d at *
    generalize wD nm = dn at *
    cases b with
    | false => exact ⟨false, by simp -implicitDefEqProofs only [sem_is_mark, b_is_mark, i0, l0, n5, x0, nmb, Bool.not_true, Bool.not_false, evs_, Option.bind_some, List.getElem?_cons_zero, List.getElem?_cons_succ, List.set_cons_zero, List.set_cons_succ, List.map_cons, List.map_nil, List.cons_append, List.nil_append, List.length_cons, List.length_nil, Nat.reduceAdd, Nat.reduceSub, Nat.reduceLeDiff, Nat.reduceLT, Bool.not_true, Bool.not_false, decide_true, decide_false]⟩
    | true =>
      cases L1 with
      | nil =>
        refine ⟨! !L2.isEmpty, ?_⟩
        simp -implicitDefEqProofs only [sem_is_mark, b_is_mark, i0, l0, n5, x0, nmb, Bool.not_true, evs_, Option.bind_some, List.getElem?_cons_zero, List.getElem?_cons_succ, List.set_cons_zero, List.set_cons_succ, List.map_cons, List.map_nil, List.cons_append, List.nil_append, List.length_cons, List.length_nil, Nat.reduceAdd, Nat.reduceSub, Nat.reduceLeDiff, Nat.reduceLT, Bool.not_true, Bool.not_false, decide_true, decide_false]
        rw [c1]
        simp -implicitDefEqProofs only [List.isEmpty_nil, Bool.not_true, evs_, Option.bind_some, List.getElem?_cons_zero, List.getElem?_cons_succ, List.set_cons_zero, List.set_cons_succ, List.map_cons, List.map_nil, List.cons_append, List.nil_append, List.length_cons, List.length_nil, Nat.reduceAdd, Nat.reduceSub, Nat.reduceLeDiff, Nat.reduceLT, Bool.not_true, Bool.not_false, decide_true, decide_false]
        rw [c2]
        rfl
      | cons z L1 =>
        refine ⟨false, ?_⟩
        simp -implicitDefEqProofs only [sem_is_mark, b_is_mark, i0, l0, n5, x0, nmb, Bool.not_true, evs_, Option.bind_some, List.getElem?_cons_zero, List.getElem?_cons_succ, List.set_cons_zero, List.set_cons_succ, List.map_cons, List.map_nil, List.cons_append, List.nil_append, List.length_cons, List.length_nil, Nat.reduceAdd, Nat.reduceSub, Nat.reduceLeDiff, Nat.reduceLT, Bool.not_true, Bool.not_false, decide_true, decide_false]
        rw [c1]
        rfl
def msD' (M : List (List Nat × List Nat)) : D := .tuple (M.map mD)
theorem are_marks_tot {M : List (List Nat × List Nat)} (h : M.length ≤ 1000000) (hm : ∀ m ∈ M, m.1.length ≤ 1000000 ∧ m.2.length = 4) : ∃ b, sem_are_marks [msD' M] = .ok (.bool b) := by
  have i0 : isiO isTup (.ok (msD' M)) = .ok (.bool true) := rfl
  have l0 : lenF [msD' M] = some (.int (M.length : Int)) := by
    unfold msD'
    rw [f_len_t, List.length_map]
  have lc : ∀ ρ : En, ρ.length = 3 → ρ[0]? = some (vl (msD' M)) → ∃ L : List D, eLc [1] (iSeq (eV 0)) (.nm 1) (gNot (gTru (eCall sem_is_mark [(eV 1)]))) (eV 1) ρ = .ok (.list L) := by
    intro ρ hρ e0
    refine filt_tot M mD mD (by unfold msD' at e0; simp -implicitDefEqProofs only [e0, evs_, Option.bind_some, List.getElem?_cons_zero, List.getElem?_cons_succ, List.set_cons_zero, List.set_cons_succ, List.map_cons, List.map_nil, List.cons_append, List.nil_append, List.length_cons, List.length_nil, Nat.reduceAdd, Nat.reduceSub, Nat.reduceLeDiff, Nat.reduceLT, Bool.not_true, Bool.not_false, decide_true, decide_false]) (by omega) fun x hx => ?_
    have g : ((wipeE ρ [1]).set 1 (some (.val (mD x))))[1]? = some (vl (mD x)) := List.getElem?_set_self (by rw [wipeE_length]; omega)
    obtain ⟨b, w⟩ := is_mark_tot (hm x hx).1 (hm x hx).2
    generalize (wipeE ρ [1]).set 1 (some (.val (mD x))) = ρ2 at g ⊢
    generalize mD x = dx at *
    exact ⟨⟨!b, by simp -implicitDefEqProofs only [g, w, evs_, Option.bind_some, List.getElem?_cons_zero, List.getElem?_cons_succ, List.set_cons_zero, List.set_cons_succ, List.map_cons, List.map_nil, List.cons_append, List.nil_append, List.length_cons, List.length_nil, Nat.reduceAdd, Nat.reduceSub, Nat.reduceLeDiff, Nat.reduceLT, Bool.not_true, Bool.not_false, decide_true, decide_false]⟩, by simp -implicitDefEqProofs only [g, evs_, Option.bind_some, List.getElem?_cons_zero, List.getElem?_cons_succ, List.set_cons_zero, List.set_cons_succ, List.map_cons, List.map_nil, List.cons_append, List.nil_append, List.length_cons, List.length_nil, Nat.reduceAdd, Nat.reduceSub, Nat.reduceLeDiff, Nat.reduceLT, Bool.not_true, Bool.not_false, decide_true, decide_false]⟩
  obtain ⟨L, c⟩ := lc [vl (msD' M), none, none] rfl rfl
  have sl : slF (msD' M) (some 1) none = some (.tuple (M.tail.map mD)) := by
    show some (PyData.tuple (cutL _ _ _)) = _
    unfold cutL
    cases M with
    | nil => rfl
    | cons m M =>
      simp [HT.sIx]
      exact List.take_of_length_le (by simp)
  have z2 : ∀ ρ : En, ρ[0]? = some (vl (msD' M)) → iZip [(eV 0), (eSl (eV 0) (some (eC (.int 1))) none)] ρ = .ok ((M.zip M.tail).map fun p => .tuple [mD p.1, mD p.2]) := by
    intro ρ e0
    have : evA [(eV 0), (eSl (eV 0) (some (eC (.int 1))) none)] ρ = .ok [msD' M, .tuple (M.tail.map mD)] := by
      generalize hd : msD' M = d at *
      simp -implicitDefEqProofs only [e0, sl, evs_, Option.bind_some, List.getElem?_cons_zero, List.getElem?_cons_succ, List.set_cons_zero, List.set_cons_succ, List.map_cons, List.map_nil, List.cons_append, List.nil_append, List.length_cons, List.length_nil, Nat.reduceAdd, Nat.reduceSub, Nat.reduceLeDiff, Nat.reduceLT, Bool.not_true, Bool.not_false, decide_true, decide_false]
    rw [ap_iZip, this]
    show (RL.ok [PyData.tuple (M.map mD), .tuple (M.tail.map mD)]).items zip2F = _
    rw [items_zipT, zipD_maps]
  have zc : ∀ ρ : En, ρ.length = 3 → ρ[0]? = some (vl (msD' M)) → ∃ L : List D, eLc [1, 2] (iZip [(eV 0), (eSl (eV 0) (some (eC (.int 1))) none)]) (.tp [(.nm 1), (.nm 2)]) (eOp geF (eOp ixF (eV 1) (eC (.int 0))) (eOp ixF (eV 2) (eC (.int 0)))) (eC (.int 1)) ρ = .ok (.list L) := by
    intro ρ hρ e0
    refine ⟨_, eLc_filtT (M.zip M.tail) (fun p => .tuple [mD p.1, mD p.2]) (fun _ => .int 1) (fun p => !decide (p.1.1 < p.2.1)) (z2 ρ e0) (by rw [List.length_zip]; omega) fun x hx => ?_⟩
    obtain ⟨p, q⟩ := x
    have x1 : ixF (mD p) (.int 0) = some (wD p.1) := f_ix0 _ _
    have x2 : ixF (mD q) (.int 0) = some (wD q.1) := f_ix0 _ _
    have ge : geF (wD p.1) (wD q.1) = some (.bool (!decide (p.1 < q.1))) := rfl
    obtain ⟨a, b, c, rfl⟩ : ∃ a b c, ρ = [a, b, c] := by
      match ρ, hρ with
      | [a, b, c], _ => exact ⟨a, b, c, rfl⟩
    refine ⟨[a, vl (mD p), vl (mD q)], ?_, ?_, fun _ => rfl⟩
    · generalize mD p = dp
      generalize mD q = dq
      simp -implicitDefEqProofs only [evs_, Option.bind_some, List.getElem?_cons_zero, List.getElem?_cons_succ, List.set_cons_zero, List.set_cons_succ, List.map_cons, List.map_nil, List.cons_append, List.nil_append, List.length_cons, List.length_nil, Nat.reduceAdd, Nat.reduceSub, Nat.reduceLeDiff, Nat.reduceLT, Bool.not_true, Bool.not_false, decide_true, decide_false]
    · generalize mD p = dp at *
      generalize mD q = dq at *
      generalize wD p.1 = wp at *
      generalize wD q.1 = wq at *
      simp -implicitDefEqProofs only [x1, x2, ge, evs_, Option.bind_some, List.getElem?_cons_zero, List.getElem?_cons_succ, List.set_cons_zero, List.set_cons_succ, List.map_cons, List.map_nil, List.cons_append, List.nil_append, List.length_cons, List.length_nil, Nat.reduceAdd, Nat.reduceSub, Nat.reduceLeDiff, Nat.reduceLT, Bool.not_true, Bool.not_false, decide_true, decide_false]
  obtain ⟨L2, c2⟩ := zc [vl (msD' M), none, none] rfl rfl
  clear z2 zc sl lc
  generalize msD' M = d at *
  by_cases g : (12 : Int) < (M.length : Int)
  · have g := decide_eq_true g
    exact ⟨false, by simp -implicitDefEqProofs only [sem_are_marks, b_are_marks, i0, l0, g, Bool.not_true, evs_, Option.bind_some, List.getElem?_cons_zero, List.getElem?_cons_succ, List.set_cons_zero, List.set_cons_succ, List.map_cons, List.map_nil, List.cons_append, List.nil_append, List.length_cons, List.length_nil, Nat.reduceAdd, Nat.reduceSub, Nat.reduceLeDiff, Nat.reduceLT, Bool.not_true, Bool.not_false, decide_true, decide_false]⟩
  · have g := decide_eq_false g
    cases L with
    | nil =>
      refine ⟨! !L2.isEmpty, ?_⟩
      simp -implicitDefEqProofs only [sem_are_marks, b_are_marks, i0, l0, g, Bool.not_true, evs_, Option.bind_some, List.getElem?_cons_zero, List.getElem?_cons_succ, List.set_cons_zero, List.set_cons_succ, List.map_cons, List.map_nil, List.cons_append, List.nil_append, List.length_cons, List.length_nil, Nat.reduceAdd, Nat.reduceSub, Nat.reduceLeDiff, Nat.reduceLT, Bool.not_true, Bool.not_false, decide_true, decide_false]
      rw [c]
      simp -implicitDefEqProofs only [List.isEmpty_nil, Bool.not_true, evs_, Option.bind_some, List.getElem?_cons_zero, List.getElem?_cons_succ, List.set_cons_zero, List.set_cons_succ, List.map_cons, List.map_nil, List.cons_append, List.nil_append, List.length_cons, List.length_nil, Nat.reduceAdd, Nat.reduceSub, Nat.reduceLeDiff, Nat.reduceLT, Bool.not_true, Bool.not_false, decide_true, decide_false]
      rw [c2]
      rfl
    | cons z L =>
      refine ⟨false, ?_⟩
      simp -implicitDefEqProofs only [sem_are_marks, b_are_marks, i0, l0, g, Bool.not_true, evs_, Option.bind_some, List.getElem?_cons_zero, List.getElem?_cons_succ, List.set_cons_zero, List.set_cons_succ, List.map_cons, List.map_nil, List.cons_append, List.nil_append, List.length_cons, List.length_nil, Nat.reduceAdd, Nat.reduceSub, Nat.reduceLeDiff, Nat.reduceLT, Bool.not_true, Bool.not_false, decide_true, decide_false]
      rw [c]
      rfl
end VVlaw

set_option Elab.async false
set_option linter.all false
set_option maxRecDepth 100000
set_option maxHeartbeats 8000000
/-! TXf: read. -/
namespace VVlaw
open PySem PySem.Spec L2 VV
open PyProof.Rows hiding St
open TL
theorem read_mem {t : List Nat} {s : Rd} (h : goR (linesT t) 0 rd0 = .ok s) : ∀ ln ∈ linesR s, ln.words.length ≤ t.length + 1 ∧ (∀ w ∈ ln.words, ∀ c ∈ w, c ∈ t) ∧ ∀ w ∈ ln.words, w.length ≤ t.length := by
  obtain ⟨I, lns, o, e1, e2⟩ := go_lines _ _ _ _ rd0_inv h
  have e3 : linesR s = lns := e2
  intro ln hl
  rw [e3] at hl
  have hm : ln.words ∈ linesT t := by
    rw [e1]
    exact List.mem_map.mpr ⟨ln, hl, rfl⟩
  obtain ⟨l, h1, h2⟩ := List.mem_map.mp hm
  have c1 := (cut_len 10 t).2 l h1
  have c2 := (cut_len 32 l).1
  have c3 := (cut_len 32 l).2
  rw [h2] at c2 c3
  refine ⟨by omega, fun w hw c hc => ?_, fun w hw => ?_⟩
  · rw [← h2] at hw
    exact cut_sub 10 t l h1 c (cut_sub 32 l w hw c hc)
  · have := c3 w hw
    omega
theorem linesS_row : ∀ {S : List (List (List Nat))} {P : List (List Nat)}, S.length = P.length → (∀ s ∈ S, ∀ r ∈ s, Ln.row r ∈ linesS S P) ∧ ∀ p ∈ P, Ln.shot p ∈ linesS S P
  | [], [], _ => ⟨by simp, by simp⟩
  | [], _ :: _, h => by cases h
  | _ :: _, [], h => by cases h
  | a :: S, b :: P, h => by
    obtain ⟨i1, i2⟩ := linesS_row (S := S) (P := P) (by simpa using h)
    refine ⟨fun s hs r hr => ?_, fun p hp => ?_⟩
    · simp -implicitDefEqProofs only [linesS, List.mem_cons, List.mem_append]
      rcases List.mem_cons.mp hs with rfl | hs
      · exact .inr (.inl (List.mem_map.mpr ⟨r, hr, rfl⟩))
      · exact .inr (.inr (i1 s hs r hr))
    · simp -implicitDefEqProofs only [linesS, List.mem_cons, List.mem_append]
      rcases List.mem_cons.mp hp with rfl | hp
      · exact .inl rfl
      · exact .inr (.inr (i2 p hp))
/-- what was read is of a size -/
structure Rdd (s : Rd) (n : Nat) : Prop where
  r : ∀ x ∈ s.S, ∀ r ∈ x, r.length ≤ n ∧ r ≠ [] ∧ ∀ k ∈ r, (numL k).length ≤ 5
  p : ∀ p ∈ s.P, p.length = 2 ∧ ∀ k ∈ p, (numL k).length ≤ 5
  m : ∀ m ∈ s.M, m.1.length ≤ n ∧ m.1 ≠ [] ∧ m.2.length = 4 ∧ ∀ k ∈ m.2, (numL k).length ≤ 5
theorem read_rdd {t : List Nat} {s : Rd} (h : goR (linesT t) 0 rd0 = .ok s) : Rdd s t.length := by
  obtain ⟨_, ok, I⟩ := read_show h
  have mm := read_mem h
  obtain ⟨l1, l2⟩ := linesS_row I.len
  refine ⟨fun x hx r hr => ?_, fun p hp => ?_, fun m hm => ?_⟩
  · have hl : Ln.row r ∈ linesR s := List.mem_append.mpr (.inl (l1 x hx r hr))
    have a := (mm _ hl).1
    have b := ok _ hl
    simp -implicitDefEqProofs only [Ln.words, List.length_cons, List.length_map] at a
    exact ⟨by omega, b.1, b.2⟩
  · have hl : Ln.shot p ∈ linesR s := List.mem_append.mpr (.inl (l2 p hp))
    exact ok _ hl
  · have hl : Ln.mark m.1 m.2 ∈ linesR s := List.mem_append.mpr (.inr (List.mem_map.mpr ⟨m, hm, rfl⟩))
    have a := (mm _ hl).2.2 m.1 (by simp [Ln.words])
    have b := ok _ hl
    exact ⟨a, b.1, b.2.1, b.2.2⟩
theorem go_sz : ∀ (ls : List (List (List Nat))) (k : Nat) (s s' : Rd) (n : Nat), s.Sz n → goR ls k s = .ok s' → s'.Sz (n + ls.length)
  | [], k, s, s', n, z, h => by
    cases h
    exact z
  | l :: ls, k, s, s', n, z, h => by
    unfold goR at h
    cases hl : lineW l with
    | none => rw [hl] at h; cases h
    | some ln =>
      rw [hl] at h
      dsimp only at h
      split at h
      · have := go_sz ls (k + 1) _ s' (n + 1) (sz_step z) h
        rw [List.length_cons, show n + (ls.length + 1) = n + 1 + ls.length by omega]
        exact this
      · cases h
theorem rd0_sz : rd0.Sz 0 := ⟨Nat.le_refl _, Nat.le_refl _, Nat.le_refl _, by simp [rd0]⟩
def badT (d : D) : Rs := .exc "BadText" [("line", d)]
def toldD (s : Rd) : D := .tuple [shsD s.S, psD s.P, msD' s.M]
def lkAll (s : Rd) : Prop := sem_are_shots [shsD s.S] = .ok (.bool true) ∧ sem_are_places [shsD s.S, psD s.P] = .ok (.bool true) ∧ sem_are_marks [msD' s.M] = .ok (.bool true)
theorem read_eq {t : List Nat} (hl : t.length ≤ 60000) (ha : Asc t) : match goR (linesT t) 0 rd0 with
    | .error k => sem_read [wD t] = badT (.int (k : Int))
    | .ok s => (sem_read [wD t] = .ok (toldD s) ∧ lkAll s) ∨ (sem_read [wD t] = badT .none ∧ ¬ lkAll s) := by
  have i0 : isiO isStr (.ok (wD t)) = .ok (.bool true) := rfl
  have l0 := len_w (a := t) (by omega)
  have gt : decide ((60000 : Int) < (t.length : Int)) = false := decide_eq_false (by omega)
  have sp := split_w (c := 10) (l := t) (by decide) (by omega)
  have en : ∀ ρ : En, ρ[0]? = some (vl (wD t)) → iEnum' [(eTx splitF (eV 0) (eC (wD [10])))] ρ = .ok (enumD 0 ((cutc 10 t).map wD)) := fun ρ e0 => by
    rw [ap_iEnum, evA_cons, ap_eTx, ap_eV, e0]
    show (RL.cons (txO splitF (.ok (wD t)) (eC (wD [10])) ρ) (evA [] ρ)).items enumF = _
    rw [txO_w, ap_eC, Rs.bind_ok, sp]
    rfl
  have n1 := (cut_len 10 t).1
  have n2 := (cut_len 10 t).2
  have lp := read_loop (txt := wD t) (cutc 10 t) 0 rd0 0 none none none (fun l hm => ⟨by have := n2 l hm; omega, fun c hc => ha c (cut_sub 10 t l hm c hc)⟩) rd0_inv rd0_sz (by omega)
  have e0 : encR (wD t) rd0 none none none = [vl (wD t), some (.grid (.rows [])), some (.own (.list [])), some (.own (.list [])), vl (wD []), none, none, none, none, none] := rfl
  rw [e0] at lp
  show match goR (linesT t) 0 rd0 with | .error k => _ | .ok s => _
  have lpt : goR ((cutc 10 t).map (cutc 32)) 0 rd0 = goR (linesT t) 0 rd0 := rfl
  rw [lpt] at lp
  cases hg : goR (linesT t) 0 rd0 with
  | error k =>
    rw [hg] at lp
    obtain ⟨ρ, lp⟩ := lp
    clear e0
    show sem_read [wD t] = badT (.int (k : Int))
    generalize hE : enumD 0 ((cutc 10 t).map wD) = E at *
    generalize hd : wD t = d at *
    simp -implicitDefEqProofs only [sem_read, b_read, i0, l0, gt, lit_nl, lit_nil, gnew_ok, Bool.not_true, evs_, Option.bind_some, List.getElem?_cons_zero, List.getElem?_cons_succ, List.set_cons_zero, List.set_cons_succ, List.map_cons, List.map_nil, List.cons_append, List.nil_append, List.length_cons, List.length_nil, Nat.reduceAdd, Nat.reduceSub, Nat.reduceLeDiff, Nat.reduceLT, Bool.not_true, Bool.not_false, decide_true, decide_false]
    rw [en _ rfl]
    simp -implicitDefEqProofs only [lp, evs_, Option.bind_some, List.getElem?_cons_zero, List.getElem?_cons_succ, List.set_cons_zero, List.set_cons_succ, List.map_cons, List.map_nil, List.cons_append, List.nil_append, List.length_cons, List.length_nil, Nat.reduceAdd, Nat.reduceSub, Nat.reduceLeDiff, Nat.reduceLT, Bool.not_true, Bool.not_false, decide_true, decide_false]
    rfl
  | ok s =>
    rw [hg] at lp
    obtain ⟨I, o5, o6, o7, lp⟩ := lp
    have R := read_rdd hg
    have Z := go_sz _ _ _ _ _ rd0_sz hg
    have lz : (linesT t).length ≤ 60001 := by
      unfold linesT
      rw [List.length_map]
      omega
    obtain ⟨z1, z2, z3, z4⟩ := Z
    obtain ⟨b1, a1⟩ := are_shots_tot (S := s.S) (by omega) fun x hx => ⟨by have := z4 x hx; omega, fun r hr => by have := (R.r x hx r hr).1; omega⟩
    obtain ⟨b2, a2⟩ := are_places_tot (P := s.P) (shsD s.S) (len_shs s.S) fun p hp => by have := (R.p p hp).1; omega
    obtain ⟨b3, a3⟩ := are_marks_tot (M := s.M) (by omega) fun m hm => ⟨by have := (R.m m hm).1; omega, (R.m m hm).2.2.1⟩
    have fz : ∀ (f : SF), sFrzG 1 f (encR (wD t) s o5 o6 o7) = f [vl (wD t), vl (rowsD (gS s.S)), some (.own (.list (s.P.map tD))), some (.own (.list (s.M.map mD))), vl (wD s.last), o5, o6, o7, none, none] := fun f => gridO_frz 1 f _ (gS s.S) rfl
    have c1 : ∀ ρ : En, ρ.length = 10 → ρ[1]? = some (vl (rowsD (gS s.S))) → eLc [9] (iSeq (eV 1)) (.nm 9) (eC (.bool true)) (eCB tupF [(eV 9)]) ρ = .ok (.list (s.S.map sD)) := by
      intro ρ hρ e1
      refine eLc_mapA s.S (fun x => .list (x.map tD)) sD (by unfold rowsD gS at e1; rw [List.map_map] at e1; simp -implicitDefEqProofs only [e1, evs_, Option.bind_some, List.getElem?_cons_zero, List.getElem?_cons_succ, List.set_cons_zero, List.set_cons_succ, List.map_cons, List.map_nil, List.cons_append, List.nil_append, List.length_cons, List.length_nil, Nat.reduceAdd, Nat.reduceSub, Nat.reduceLeDiff, Nat.reduceLT, Bool.not_true, Bool.not_false, decide_true, decide_false]; rfl) (by omega) fun x hx => ?_
      have g : ((wipeE ρ [9]).set 9 (some (.val (.list (x.map tD)))))[9]? = some (vl (.list (x.map tD))) := List.getElem?_set_self (by rw [wipeE_length]; omega)
      have tt : tupF [.list (x.map tD)] = some (sD x) := rfl
      generalize (wipeE ρ [9]).set 9 (some (.val (.list (x.map tD)))) = ρ2 at g ⊢
      generalize PyData.list (x.map tD) = dx at *
      exact ⟨rfl, by simp -implicitDefEqProofs only [g, tt, evs_, Option.bind_some, List.getElem?_cons_zero, List.getElem?_cons_succ, List.set_cons_zero, List.set_cons_succ, List.map_cons, List.map_nil, List.cons_append, List.nil_append, List.length_cons, List.length_nil, Nat.reduceAdd, Nat.reduceSub, Nat.reduceLeDiff, Nat.reduceLT, Bool.not_true, Bool.not_false, decide_true, decide_false]⟩
    have t1 : tupF [.list (s.S.map sD)] = some (shsD s.S) := rfl
    have t2 : tupF [.list (s.P.map tD)] = some (psD s.P) := rfl
    have t3 : tupF [.list (s.M.map mD)] = some (msD' s.M) := rfl
    have lk : lkAll s ↔ b1 = true ∧ b2 = true ∧ b3 = true := by
      unfold lkAll
      rw [a1, a2, a3]
      simp
    show (sem_read [wD t] = .ok (toldD s) ∧ lkAll s) ∨ (sem_read [wD t] = badT .none ∧ ¬ lkAll s)
    rw [lk]
    unfold toldD
    clear lk e0 R z4 lpt
    generalize hE : enumD 0 ((cutc 10 t).map wD) = E at *
    generalize hd : wD t = d at *
    generalize hw : wD s.last = dl at *
    generalize hs : PyData.list (s.S.map sD) = l1 at *
    generalize hs2 : PyData.list (s.P.map tD) = l2 at *
    generalize hs3 : PyData.list (s.M.map mD) = l3 at *
    generalize rowsD (gS s.S) = dr at *
    generalize shsD s.S = d1 at *
    generalize psD s.P = d2 at *
    generalize msD' s.M = d3 at *
    have pre : ∀ q : SF, sSeq (sSet 8 (eCB tupF [(eLc [9] (iSeq (eV 1)) (.nm 9) (eC (.bool true)) (eCB tupF [(eV 9)]))])) q [vl d, vl dr, some (.own l2), some (.own l3), vl dl, o5, o6, o7, none, none] = q [vl d, vl dr, some (.own l2), some (.own l3), vl dl, o5, o6, o7, vl d1, none] := fun q => by
      rw [ap_sSeq, ap_sSet, ap_eCB, evA_cons, c1 _ rfl rfl, evA_nil]
      show seqO ((Rs.of (tupF [l1])).out _ _) q = _
      rw [t1]
      rfl
    have main : ∀ r : Rs, (outR ((sSeq (sSet 8 (eCB tupF [(eLc [9] (iSeq (eV 1)) (.nm 9) (eC (.bool true)) (eCB tupF [(eV 9)]))])) (sSeq (sIf (gOr (gNot (gTru (eCall sem_are_shots [(eV 8)]))) (gOr (gNot (gTru (eCall sem_are_places [(eV 8), (eCB tupF [(eB 2)])]))) (gNot (gTru (eCall sem_are_marks [(eCB tupF [(eB 3)])]))))) (sRaiseX "BadText" "line" (eC .none)) sNx) (sRet (eTup [(eV 8), (eCB tupF [(eB 2)]), (eCB tupF [(eB 3)])])))) [vl d, vl dr, some (.own l2), some (.own l3), vl dl, o5, o6, o7, none, none]) = r) → sem_read [d] = r := by
      intro r hr
      simp -implicitDefEqProofs only [sem_read, b_read, i0, l0, gt, lit_nl, lit_nil, gnew_ok, Bool.not_true, evs_, Option.bind_some, List.getElem?_cons_zero, List.getElem?_cons_succ, List.set_cons_zero, List.set_cons_succ, List.map_cons, List.map_nil, List.cons_append, List.nil_append, List.length_cons, List.length_nil, Nat.reduceAdd, Nat.reduceSub, Nat.reduceLeDiff, Nat.reduceLT, Bool.not_true, Bool.not_false, decide_true, decide_false]
      rw [en _ rfl]
      simp -implicitDefEqProofs only [lp, fz, evs_, Option.bind_some, List.getElem?_cons_zero, List.getElem?_cons_succ, List.set_cons_zero, List.set_cons_succ, List.map_cons, List.map_nil, List.cons_append, List.nil_append, List.length_cons, List.length_nil, Nat.reduceAdd, Nat.reduceSub, Nat.reduceLeDiff, Nat.reduceLT, Bool.not_true, Bool.not_false, decide_true, decide_false]
      rw [c1 _ rfl rfl]
      show outR (seqO ((Rs.of (tupF [l1])).out _ _) _) = r
      rw [t1, ← hr, pre]
      rfl
    cases b1 with
    | false =>
      refine .inr ⟨main _ ?_, by simp⟩
      rw [pre]
      simp -implicitDefEqProofs only [a1, ap_sRaiseX, Bool.not_false, evs_, Option.bind_some, List.getElem?_cons_zero, List.getElem?_cons_succ, List.set_cons_zero, List.set_cons_succ, List.map_cons, List.map_nil, List.cons_append, List.nil_append, List.length_cons, List.length_nil, Nat.reduceAdd, Nat.reduceSub, Nat.reduceLeDiff, Nat.reduceLT, Bool.not_true, Bool.not_false, decide_true, decide_false]
      rfl
    | true =>
      cases b2 with
      | false =>
        refine .inr ⟨main _ ?_, by simp⟩
        rw [pre]
        simp -implicitDefEqProofs only [a1, a2, t2, ap_sRaiseX, Bool.not_false, Bool.not_true, evs_, Option.bind_some, List.getElem?_cons_zero, List.getElem?_cons_succ, List.set_cons_zero, List.set_cons_succ, List.map_cons, List.map_nil, List.cons_append, List.nil_append, List.length_cons, List.length_nil, Nat.reduceAdd, Nat.reduceSub, Nat.reduceLeDiff, Nat.reduceLT, Bool.not_true, Bool.not_false, decide_true, decide_false]
        rfl
      | true =>
        cases b3 with
        | false =>
          refine .inr ⟨main _ ?_, by simp⟩
          rw [pre]
          simp -implicitDefEqProofs only [a1, a2, a3, t2, t3, ap_sRaiseX, Bool.not_false, Bool.not_true, evs_, Option.bind_some, List.getElem?_cons_zero, List.getElem?_cons_succ, List.set_cons_zero, List.set_cons_succ, List.map_cons, List.map_nil, List.cons_append, List.nil_append, List.length_cons, List.length_nil, Nat.reduceAdd, Nat.reduceSub, Nat.reduceLeDiff, Nat.reduceLT, Bool.not_true, Bool.not_false, decide_true, decide_false]
          rfl
        | true =>
          refine .inl ⟨main _ ?_, by simp⟩
          rw [pre]
          simp -implicitDefEqProofs only [a1, a2, a3, t2, t3, Bool.not_true, evs_, Option.bind_some, List.getElem?_cons_zero, List.getElem?_cons_succ, List.set_cons_zero, List.set_cons_succ, List.map_cons, List.map_nil, List.cons_append, List.nil_append, List.length_cons, List.length_nil, Nat.reduceAdd, Nat.reduceSub, Nat.reduceLeDiff, Nat.reduceLT, Bool.not_true, Bool.not_false, decide_true, decide_false]
end VVlaw

set_option Elab.async false
set_option linter.all false
set_option maxRecDepth 100000
set_option maxHeartbeats 8000000
/-! TXg: texts that are shown. -/
namespace VVlaw
open PySem PySem.Spec L2 VV
open PyProof.Rows hiding St
open TL
theorem txs_w (ws : List (List Nat)) : txs (ws.map wD) = some (ws.map mkS) := by
  induction ws with
  | nil => rfl
  | cons w ws ih =>
    show (txs (ws.map wD)).map (fun q => mkS w :: q) = _
    rw [ih]
    rfl
theorem join_w {c : Nat} {ws : List (List Nat)} (h : (ws.map List.length).sum + ws.length ≤ 16777216) : joinF (wD [c]) (.list (ws.map wD)) = some (wD (joinL [c] ws)) := by
  show ((txs (ws.map wD)).bind fun ys => if (ys.map (·.length)).sum + ys.length * (mkS [c]).length ≤ 16777216 then some (PyData.str (Str.join (mkS [c]) ys)) else none) = _
  rw [txs_w, Option.bind_some, if_pos]
  · congr 1
    apply lit
    rw [tl_join, tl_mkS, List.map_map]
    congr 1
    exact List.map_id _
  · rw [List.map_map, List.length_map, mkS_len]
    have e : ws.map ((fun x => x.length) ∘ mkS) = ws.map List.length := List.map_congr_left fun w _ => mkS_len w
    rw [e]
    show _ + ws.length * 1 ≤ _
    omega
theorem sum_nums {q : List Nat} (h : ∀ n ∈ q, (numL n).length ≤ 5) : ((q.map numL).map List.length).sum ≤ 5 * q.length := by
  induction q with
  | nil => simp
  | cons n q ih =>
    have := ih fun m hm => h m (List.mem_cons_of_mem _ hm)
    have := h n List.mem_cons_self
    simp -implicitDefEqProofs only [List.map_cons, List.sum_cons, List.length_cons]
    omega
def lineT (l : Ln) : List Nat := joinL [32] l.words
structure FitT (S : List (List (List Nat))) (P : List (List Nat)) (M : List (List Nat × List Nat)) : Prop where
  len : S.length = P.length
  s : ∀ x ∈ S, ∀ r ∈ x, r.length ≤ 100000 ∧ r ≠ [] ∧ ∀ n ∈ r, (numL n).length ≤ 5
  p : ∀ p ∈ P, p.length = 2 ∧ ∀ n ∈ p, (numL n).length ≤ 5
  m : ∀ m ∈ M, m.1.length ≤ 100000 ∧ m.2.length = 4 ∧ ∀ n ∈ m.2, (numL n).length ≤ 5
  n : (allLn S P M).length ≤ 1000000
  t : (textL (allLn S P M)).length ≤ 10000000
theorem FitT.of_read {t : List Nat} {s : Rd} (h : goR (linesT t) 0 rd0 = .ok s) (hl : t.length ≤ 60000) : FitT s.S s.P s.M ∧ textL (allLn s.S s.P s.M) = t := by
  obtain ⟨e, _, I⟩ := read_show h
  have R := read_rdd h
  obtain ⟨_, lns, _, e1, e2⟩ := go_lines _ _ _ _ rd0_inv h
  have e3 : linesR s = lns := e2
  have c1 := (cut_len 10 t).1
  have ll := congrArg List.length e1
  unfold linesT at ll
  rw [List.length_map, List.length_map] at ll
  refine ⟨⟨I.len, fun x hx r hr => ?_, fun p hp => R.p p hp, fun m hm => ?_, ?_, ?_⟩, e⟩
  · obtain ⟨a, b, c⟩ := R.r x hx r hr
    exact ⟨by omega, b, c⟩
  · obtain ⟨a, b, c, d⟩ := R.m m hm
    exact ⟨by omega, c, d⟩
  · show (linesR s).length ≤ _
    rw [e3]
    omega
  · show (textL (linesR s)).length ≤ _
    rw [e]
    omega
theorem strs_row {i j : Nat} (f : IF) (q : List Nat) (ρ : En) (hi : i < ρ.length) (hf : f ρ = .ok (q.map nD)) (hl : q.length ≤ 100000) (h : ∀ n ∈ q, (numL n).length ≤ 5) : eLc [i] f (.nm i) (eC (.bool true)) (eCB strIF [(eV i)]) ρ = .ok (.list ((q.map numL).map wD)) := by
  rw [List.map_map]
  refine eLc_mapA q nD _ hf (by omega) fun n hn => ?_
  have g : ((wipeE ρ [i]).set i (some (.val (nD n))))[i]? = some (vl (nD n)) := List.getElem?_set_self (by rw [wipeE_length]; exact hi)
  have st : strIF [nD n] = some (wD (numL n)) := str_n (small_of (h n hn))
  generalize (wipeE ρ [i]).set i (some (.val (nD n))) = ρ2 at g ⊢
  generalize nD n = dn at *
  refine ⟨rfl, ?_⟩
  simp -implicitDefEqProofs only [g, st, evs_, Option.bind_some, List.getElem?_cons_zero, List.getElem?_cons_succ, List.set_cons_zero, List.set_cons_succ, List.map_cons, List.map_nil, List.cons_append, List.nil_append, List.length_cons, List.length_nil, Nat.reduceAdd, Nat.reduceSub, Nat.reduceLeDiff, Nat.reduceLT, Bool.not_true, Bool.not_false, decide_true, decide_false]
  rfl
theorem lit_shot_ : PyData.str "shot " = wD (wShot ++ [32]) := lit (by kernel_rfl)
theorem lit_row_ : PyData.str "row " = wD (wRow ++ [32]) := lit (by kernel_rfl)
theorem lit_mark_ : PyData.str "mark " = wD (wMark ++ [32]) := lit (by kernel_rfl)
theorem join_nums {q : List Nat} (hl : q.length ≤ 100000) (h : ∀ n ∈ q, (numL n).length ≤ 5) : joinF (wD [32]) (.list ((q.map numL).map wD)) = some (wD (joinL [32] (q.map numL))) ∧ (joinL [32] (q.map numL)).length ≤ 700000 := by
  have s := sum_nums h
  have l : (q.map numL).length = q.length := List.length_map _
  refine ⟨join_w (by rw [l]; omega), ?_⟩
  cases q with
  | nil => simp [joinL]
  | cons a q =>
    have := len_join 32 ((a :: q).map numL) (by simp)
    rw [l] at this
    omega
/-! ### the law's own -/
theorem lrow_eq {r : List Nat} (hr : r ≠ []) (hl : r.length ≤ 100000) (h : ∀ n ∈ r, (numL n).length ≤ 5) (a b c : D) (L : List D) (hL : L.length < 16777216) (o4 o6 o7 : Option Sl) : lp__law_shown_1 [vl a, vl b, vl c, some (.own (.list L)), o4, vl (tD r), o6, o7] = .nx [vl a, vl b, vl c, some (.own (.list (L ++ [wD (lineT (.row r))]))), o4, vl (tD r), o6, o7] := by
  have c1 : ∀ ρ : En, ρ.length = 8 → ρ[5]? = some (vl (tD r)) → eLc [6] (iSeq (eV 5)) (.nm 6) (eC (.bool true)) (eCB strIF [(eV 6)]) ρ = .ok (.list ((r.map numL).map wD)) := fun ρ hρ e => strs_row (i := 6) (j := 5) _ r ρ (by omega) (by unfold tD at e; simp -implicitDefEqProofs only [e, evs_, Option.bind_some, List.getElem?_cons_zero, List.getElem?_cons_succ, List.set_cons_zero, List.set_cons_succ, List.map_cons, List.map_nil, List.cons_append, List.nil_append, List.length_cons, List.length_nil, Nat.reduceAdd, Nat.reduceSub, Nat.reduceLeDiff, Nat.reduceLT, Bool.not_true, Bool.not_false, decide_true, decide_false]) hl h
  obtain ⟨j1, j2⟩ := join_nums hl h
  have ad : addF (wD (wRow ++ [32])) (wD (joinL [32] (r.map numL))) = some (wD (lineT (.row r))) := by
    rw [add_w (by show 4 + _ ≤ 16777216; omega)]
    unfold lineT Ln.words
    rw [joinL_cons _ _ (by simpa using hr), List.append_assoc]
  generalize hd : tD r = d at *
  generalize PyData.list ((r.map numL).map wD) = dl at *
  have ev : eTx joinF (eC (wD [32])) (eLc [6] (iSeq (eV 5)) (.nm 6) (eC (.bool true)) (eCB strIF [(eV 6)])) [vl a, vl b, vl c, some (.own (.list L)), o4, vl d, o6, o7] = .ok (wD (joinL [32] (r.map numL))) := by
    rw [ap_eTx, ap_eC, txO_w, c1 _ rfl rfl, Rs.bind_ok, j1]
    rfl
  unfold lp__law_shown_1
  rw [lit_sp, lit_row_, ap_sApp, ap_eOp, ap_eC, ev, opO_ok, ad]
  exact appO_ok 3 _ L _ hL
theorem lrows_eq (a b c : D) (o4 o6 o7 : Option Sl) : ∀ (rs : List (List Nat)) (L : List D) (o5 : Option Sl), (∀ r ∈ rs, r.length ≤ 100000 ∧ r ≠ [] ∧ ∀ n ∈ r, (numL n).length ≤ 5) → L.length + rs.length < 16777216 → ∃ o5' : Option Sl, forGo (.nm 5) lp__law_shown_1 (rs.map tD) [vl a, vl b, vl c, some (.own (.list L)), o4, o5, o6, o7] = .nx [vl a, vl b, vl c, some (.own (.list (L ++ rs.map fun r => wD (lineT (.row r))))), o4, o5', o6, o7]
  | [], L, o5, _, _ => ⟨o5, by rw [List.map_nil, List.map_nil, List.append_nil]; rfl⟩
  | r :: rs, L, o5, h, hn => by
    obtain ⟨h1, h2, h3⟩ := h r List.mem_cons_self
    rw [List.length_cons] at hn
    have bt : bindT (.nm 5) (tD r) [vl a, vl b, vl c, some (.own (.list L)), o4, o5, o6, o7] = some [vl a, vl b, vl c, some (.own (.list L)), o4, vl (tD r), o6, o7] := bT_nm _ _ _
    obtain ⟨o, e⟩ := lrows_eq a b c o4 o6 o7 rs (L ++ [wD (lineT (.row r))]) (vl (tD r)) (fun x hx => h x (List.mem_cons_of_mem _ hx)) (by rw [List.length_append, List.length_singleton]; omega)
    refine ⟨o, ?_⟩
    rw [List.map_cons, forGo_nxT bt (lrow_eq h2 h1 h3 a b c L (by omega) o4 o6 o7), e, List.append_assoc]
    rfl
theorem line_shot (x y : Nat) : lineT (.shot [x, y]) = wShot ++ [32] ++ numL x ++ [32] ++ numL y := by
  unfold lineT Ln.words
  rw [joinL_cons _ _ (by simp)]
  show wShot ++ ([32] ++ (numL x ++ ([32] ++ numL y))) = _
  simp -implicitDefEqProofs only [List.append_assoc]
theorem lmark_eq {m : List Nat × List Nat} (hm : m.1.length ≤ 100000) (h4 : m.2.length = 4) (h : ∀ n ∈ m.2, (numL n).length ≤ 5) (a b c : D) (L : List D) (hL : L.length < 16777216) (o4 o5 o7 : Option Sl) : lp__law_shown_3 [vl a, vl b, vl c, some (.own (.list L)), o4, o5, vl (mD m), o7] = .nx [vl a, vl b, vl c, some (.own (.list (L ++ [wD (lineT (.mark m.1 m.2))]))), o4, o5, vl (mD m), o7] := by
  have sl : slF (mD m) (some 1) none = some (.tuple (m.2.map nD)) := by
    show some (PyData.tuple (cutL _ _ _)) = _
    unfold cutL
    simp [HT.sIx]
    exact List.take_of_length_le (by simp)
  have x0 : ixF (mD m) (.int 0) = some (wD m.1) := f_ix0 _ _
  have c1 : ∀ ρ : En, ρ.length = 8 → ρ[6]? = some (vl (mD m)) → eLc [7] (iSeq (eSl (eV 6) (some (eC (.int 1))) none)) (.nm 7) (eC (.bool true)) (eCB strIF [(eV 7)]) ρ = .ok (.list ((m.2.map numL).map wD)) := fun ρ hρ e => strs_row (i := 7) (j := 6) _ m.2 ρ (by omega) (by
    generalize mD m = d at *
    simp -implicitDefEqProofs only [e, sl, evs_, Option.bind_some, List.getElem?_cons_zero, List.getElem?_cons_succ, List.set_cons_zero, List.set_cons_succ, List.map_cons, List.map_nil, List.cons_append, List.nil_append, List.length_cons, List.length_nil, Nat.reduceAdd, Nat.reduceSub, Nat.reduceLeDiff, Nat.reduceLT, Bool.not_true, Bool.not_false, decide_true, decide_false]) (by omega) h
  obtain ⟨j1, j2⟩ := join_nums (q := m.2) (by omega) h
  have ad1 : addF (wD (wMark ++ [32])) (wD m.1) = some (wD (wMark ++ [32] ++ m.1)) := add_w (by show 5 + _ ≤ 16777216; omega)
  have ad2 : addF (wD (wMark ++ [32] ++ m.1)) (wD [32]) = some (wD (wMark ++ [32] ++ m.1 ++ [32])) := add_w (by rw [List.length_append]; show 5 + _ + 1 ≤ 16777216; omega)
  have ad : addF (wD (wMark ++ [32] ++ m.1 ++ [32])) (wD (joinL [32] (m.2.map numL))) = some (wD (lineT (.mark m.1 m.2))) := by
    rw [add_w (by rw [List.length_append, List.length_append]; show 5 + _ + 1 + _ ≤ 16777216; omega)]
    unfold lineT Ln.words
    have hne : m.2.map numL ≠ [] := by
      intro z
      have := congrArg List.length z
      rw [List.length_map, h4] at this
      cases this
    rw [joinL_cons _ _ (by simp), joinL_cons _ _ hne]
    simp -implicitDefEqProofs only [List.append_assoc]
  generalize hd : mD m = d at *
  generalize PyData.list ((m.2.map numL).map wD) = dl at *
  have ev : eTx joinF (eC (wD [32])) (eLc [7] (iSeq (eSl (eV 6) (some (eC (.int 1))) none)) (.nm 7) (eC (.bool true)) (eCB strIF [(eV 7)])) [vl a, vl b, vl c, some (.own (.list L)), o4, o5, vl d, o7] = .ok (wD (joinL [32] (m.2.map numL))) := by
    rw [ap_eTx, ap_eC, txO_w, c1 _ rfl rfl, Rs.bind_ok, j1]
    rfl
  have ev1 : eOp ixF (eV 6) (eC (.int 0)) [vl a, vl b, vl c, some (.own (.list L)), o4, o5, vl d, o7] = .ok (wD m.1) := by
    rw [ap_eOp]
    show Rs.of (ixF d (.int 0)) = _
    rw [x0]
    rfl
  unfold lp__law_shown_3
  rw [lit_sp, lit_mark_, ap_sApp, ap_eOp, ap_eOp, ap_eOp, ap_eC, ev, ev1, opO_ok, ad1]
  show appO 3 _ _ (opO addF (opO addF (.ok _) (.ok (wD [32]))) (.ok _)) = _
  rw [opO_ok, ad2]
  show appO 3 _ _ (opO addF (.ok _) (.ok _)) = _
  rw [opO_ok, ad]
  exact appO_ok 3 _ L _ hL
theorem lmarks_eq (a b c : D) (o4 o5 o7 : Option Sl) : ∀ (ms : List (List Nat × List Nat)) (L : List D) (o6 : Option Sl), (∀ m ∈ ms, m.1.length ≤ 100000 ∧ m.2.length = 4 ∧ ∀ n ∈ m.2, (numL n).length ≤ 5) → L.length + ms.length < 16777216 → ∃ o6' : Option Sl, forGo (.nm 6) lp__law_shown_3 (ms.map mD) [vl a, vl b, vl c, some (.own (.list L)), o4, o5, o6, o7] = .nx [vl a, vl b, vl c, some (.own (.list (L ++ ms.map fun m => wD (lineT (.mark m.1 m.2))))), o4, o5, o6', o7]
  | [], L, o6, _, _ => ⟨o6, by rw [List.map_nil, List.map_nil, List.append_nil]; rfl⟩
  | m :: ms, L, o6, h, hn => by
    obtain ⟨h1, h2, h3⟩ := h m List.mem_cons_self
    rw [List.length_cons] at hn
    have bt : bindT (.nm 6) (mD m) [vl a, vl b, vl c, some (.own (.list L)), o4, o5, o6, o7] = some [vl a, vl b, vl c, some (.own (.list L)), o4, o5, vl (mD m), o7] := bT_nm _ _ _
    obtain ⟨o, e⟩ := lmarks_eq a b c o4 o5 o7 ms (L ++ [wD (lineT (.mark m.1 m.2))]) (vl (mD m)) (fun x hx => h x (List.mem_cons_of_mem _ hx)) (by rw [List.length_append, List.length_singleton]; omega)
    refine ⟨o, ?_⟩
    rw [List.map_cons, forGo_nxT bt (lmark_eq h1 h2 h3 a b c L (by omega) o4 o5 o7), e, List.append_assoc]
    rfl
theorem linesS_len : ∀ {S : List (List (List Nat))} {P : List (List Nat)} (k : Nat), (linesS (S.take k) (P.take k)).length ≤ (linesS S P).length
  | [], P, k => by simp [linesS]
  | s :: S, [], k => by simp [linesS]
  | s :: S, p :: P, 0 => by simp [linesS]
  | s :: S, p :: P, k + 1 => by
    have := linesS_len (S := S) (P := P) k
    simp -implicitDefEqProofs only [List.take_succ_cons, linesS, List.length_cons, List.length_append, List.length_map]
    omega
theorem lshot_eq {S : List (List (List Nat))} {P : List (List Nat)} {M : List (List Nat × List Nat)} (F : FitT S P M) (k : Nat) (hk : k < S.length) (o5 o6 o7 : Option Sl) : ∃ o5' : Option Sl, lp__law_shown_2 [vl (shsD S), vl (psD P), vl (msD' M), some (.own (.list ((linesS (S.take k) (P.take k)).map fun l => wD (lineT l)))), vi (k : Int), o5, o6, o7] = .nx [vl (shsD S), vl (psD P), vl (msD' M), some (.own (.list ((linesS (S.take (k + 1)) (P.take (k + 1))).map fun l => wD (lineT l)))), vi (k : Int), o5', o6, o7] := by
  have hp : k < P.length := by rw [← F.len]; exact hk
  have xs : ixF (shsD S) (.int (k : Int)) = some (sD S[k]) := by
    rw [shsD, ix_map_t sD S (k : Int) (by omega) (by simpa using hk)]
    rfl
  have xp : ixF (psD P) (.int (k : Int)) = some (tD P[k]) := by
    rw [psD, ix_map_t tD P (k : Int) (by omega) (by simpa using hp)]
    rfl
  obtain ⟨p2, pn⟩ := F.p P[k] (List.getElem_mem hp)
  have S1 := F.s S[k] (List.getElem_mem hk)
  have e1 : linesS (S.take (k + 1)) (P.take (k + 1)) = linesS (S.take k) (P.take k) ++ (.shot P[k] :: S[k].map Ln.row) := by
    rw [List.take_succ_eq_append_getElem hk, List.take_succ_eq_append_getElem hp]
    exact linesS_snoc _ _ _ _ (by rw [List.length_take, List.length_take, F.len])
  have big := linesS_len (S := S) (P := P) (k + 1)
  have all := F.n
  unfold allLn at all
  rw [List.length_append] at all
  rw [e1] at big ⊢
  rw [List.length_append, List.length_cons, List.length_map] at big
  generalize hL : (linesS (S.take k) (P.take k)).map (fun l => wD (lineT l)) = L
  have lL : L.length = (linesS (S.take k) (P.take k)).length := by rw [← hL, List.length_map]
  rw [List.map_append, hL]
  generalize hsk : S[k] = s at *
  generalize hpk : P[k] = p at *
  match p, p2 with
  | [x, y], _ =>
    have y0 : ixF (tD [x, y]) (.int 0) = some (nD x) := f_ix0 _ _
    have y1 : ixF (tD [x, y]) (.int 1) = some (nD y) := f_ix1 _ _ _
    have nx := pn x (by simp)
    have ny := pn y (by simp)
    have s0 : strIF [nD x] = some (wD (numL x)) := str_n (small_of nx)
    have s1 : strIF [nD y] = some (wD (numL y)) := str_n (small_of ny)
    have ad1 : addF (wD (wShot ++ [32])) (wD (numL x)) = some (wD (wShot ++ [32] ++ numL x)) := add_w (by show 5 + _ ≤ 16777216; omega)
    have ad2 : addF (wD (wShot ++ [32] ++ numL x)) (wD [32]) = some (wD (wShot ++ [32] ++ numL x ++ [32])) := add_w (by rw [List.length_append]; show 5 + _ + 1 ≤ 16777216; omega)
    have ad3 : addF (wD (wShot ++ [32] ++ numL x ++ [32])) (wD (numL y)) = some (wD (lineT (.shot [x, y]))) := by
      rw [line_shot]
      exact add_w (by rw [List.length_append, List.length_append]; show 5 + _ + 1 + _ ≤ 16777216; omega)
    have it : (Rs.ok (sD s)).items itF = .ok (s.map tD) := rfl
    obtain ⟨o, lp⟩ := lrows_eq (shsD S) (psD P) (msD' M) (vi (k : Int)) o6 o7 s (L ++ [wD (lineT (.shot [x, y]))]) o5 S1 (by rw [List.length_append, List.length_singleton]; omega)
    have ap := appO_ok 3 [vl (shsD S), vl (psD P), vl (msD' M), some (.own (.list L)), vi (k : Int), o5, o6, o7] L (wD (lineT (.shot [x, y]))) (by omega)
    refine ⟨o, ?_⟩
    generalize hd1 : shsD S = d1 at *
    generalize hd2 : psD P = d2 at *
    generalize hd3 : msD' M = d3 at *
    generalize hd4 : sD s = d4 at *
    generalize hd5 : tD [x, y] = d5 at *
    generalize hd6 : nD x = d6 at *
    generalize hd7 : nD y = d7 at *
    generalize hw1 : wD (numL x) = w1 at *
    generalize hw2 : wD (numL y) = w2 at *
    simp -implicitDefEqProofs only [lp__law_shown_2, lit_sp, lit_shot_, xp, xs, y0, y1, s0, s1, ad1, ad2, ad3, ap, it, evs_, Option.bind_some, List.getElem?_cons_zero, List.getElem?_cons_succ, List.set_cons_zero, List.set_cons_succ, List.map_cons, List.map_nil, List.cons_append, List.nil_append, List.length_cons, List.length_nil, Nat.reduceAdd, Nat.reduceSub, Nat.reduceLeDiff, Nat.reduceLT, Bool.not_true, Bool.not_false, decide_true, decide_false]
    rw [lp]
    simp -implicitDefEqProofs only [List.map_cons, List.map_map, List.append_assoc]
    rfl
theorem law_shown_eq {S : List (List (List Nat))} {P : List (List Nat)} {M : List (List Nat × List Nat)} (F : FitT S P M) : sem__law_shown [shsD S, psD P, msD' M] = .ok (wD (textL (allLn S P M))) := by
  have l0 := len_shs S
  have all := F.n
  unfold allLn at all
  rw [List.length_append, List.length_map] at all
  have sl : S.length ≤ 1000000 := by
    have : ∀ (S : List (List (List Nat))) (P : List (List Nat)), S.length = P.length → S.length ≤ (linesS S P).length := by
      intro S
      induction S with
      | nil => intro P _; simp
      | cons s S ih =>
        intro P h
        cases P with
        | nil => cases h
        | cons p P =>
          have := ih P (by simpa using h)
          simp -implicitDefEqProofs only [linesS, List.length_cons, List.length_append]
          omega
    have := this S P F.len
    omega
  have rg := rng1_ok (S.length : Int) (by omega) (by omega)
  rw [show ((S.length : Int)).toNat = S.length from Int.toNat_natCast _] at rg
  obtain ⟨ρ', e, o4, o5, rfl⟩ := forGo_rng (i := 4) (lo := 0) (n := S.length) (f := lp__law_shown_2)
    (fun k ρ => ∃ (o4 o5 : Option Sl), ρ = [vl (shsD S), vl (psD P), vl (msD' M), some (.own (.list ((linesS (S.take k) (P.take k)).map fun l => wD (lineT l)))), o4, o5, none, none])
    (ρ := [vl (shsD S), vl (psD P), vl (msD' M), some (.own (.list [])), none, none, none, none]) ⟨none, none, rfl⟩ (by
      rintro k ρ hk ⟨o4, o5, rfl⟩
      obtain ⟨o, e⟩ := lshot_eq F k hk o5 none none
      refine ⟨_, ?_, ⟨vi (k : Int), o, rfl⟩⟩
      rw [Int.zero_add]
      exact e)
  rw [List.take_length, show P.take S.length = P by rw [F.len, List.take_length]] at e
  obtain ⟨o6, em⟩ := lmarks_eq (shsD S) (psD P) (msD' M) o4 o5 none M ((linesS S P).map fun l => wD (lineT l)) none F.m (by rw [List.length_map]; omega)
  have it : (Rs.ok (msD' M)).items itF = .ok (M.map mD) := rfl
  have fe : (linesS S P).map (fun l => wD (lineT l)) ++ M.map (fun m => wD (lineT (.mark m.1 m.2))) = ((allLn S P M).map lineT).map wD := by
    unfold allLn
    rw [List.map_append, List.map_append, List.map_map, List.map_map, List.map_map]
    rfl
  rw [fe] at em
  have jn : joinF (wD [10]) (.list (((allLn S P M).map lineT).map wD)) = some (wD (textL (allLn S P M))) := by
    apply join_w
    cases q : (allLn S P M).map lineT with
    | nil => simp
    | cons a b =>
      rw [← q]
      have := len_join 10 ((allLn S P M).map lineT) (by rw [q]; simp)
      have tt := F.t
      unfold textL at tt
      have e2 : (allLn S P M).map (fun l => joinL [32] l.words) = (allLn S P M).map lineT := rfl
      rw [e2] at tt
      omega
  generalize hE : (PyData.list (((allLn S P M).map lineT).map wD)) = dl at *
  generalize shsD S = d1 at *
  generalize psD P = d2 at *
  generalize msD' M = d3 at *
  simp -implicitDefEqProofs only [sem__law_shown, b__law_shown, lit_nl, l0, rg, it, evs_, Option.bind_some, List.getElem?_cons_zero, List.getElem?_cons_succ, List.set_cons_zero, List.set_cons_succ, List.map_cons, List.map_nil, List.cons_append, List.nil_append, List.length_cons, List.length_nil, Nat.reduceAdd, Nat.reduceSub, Nat.reduceLeDiff, Nat.reduceLT, Bool.not_true, Bool.not_false, decide_true, decide_false]
  rw [e]
  simp -implicitDefEqProofs only [it, evs_, Option.bind_some, List.getElem?_cons_zero, List.getElem?_cons_succ, List.set_cons_zero, List.set_cons_succ, List.map_cons, List.map_nil, List.cons_append, List.nil_append, List.length_cons, List.length_nil, Nat.reduceAdd, Nat.reduceSub, Nat.reduceLeDiff, Nat.reduceLT, Bool.not_true, Bool.not_false, decide_true, decide_false]
  rw [em]
  rw [seqO_nx, ap_sRet, ap_eTx, ap_eC, txO_w, ap_eB]
  show outR (((Rs.ok dl).bind fun y => Rs.of (joinF (wD [10]) y)).out _ _) = _
  rw [Rs.bind_ok, jn]
  rfl
end VVlaw

set_option Elab.async false
set_option linter.all false
set_option maxRecDepth 100000
set_option maxHeartbeats 8000000
/-! TXh: shown. -/
namespace VVlaw
open PySem PySem.Spec L2 VV
open PyProof.Rows hiding St
open TL
theorem fsGo_w {f : EF} {fs : List EF} {acc a : List Nat} {ρ : En} (h : f ρ = .ok (wD a)) (hl : acc.length + a.length ≤ 16777216) : fsGo (f :: fs) (mkS acc) ρ = fsGo fs (mkS (acc ++ a)) ρ := by
  show (f ρ).bind _ = _
  rw [h, Rs.bind_ok]
  show (if (mkS acc ++ mkS a).length ≤ sizeLine then fsGo fs (mkS acc ++ mkS a) ρ else .bad) = _
  rw [mkS_app, mkS_len, if_pos (show (acc ++ a).length ≤ sizeLine from by rw [List.length_append]; exact hl)]
theorem eFs_nil (acc : List Nat) (ρ : En) : fsGo [] (mkS acc) ρ = .ok (wD acc) := rfl
theorem eFs_w (fs : List EF) (ρ : En) : eFs fs ρ = fsGo fs (mkS []) ρ := rfl
theorem rrow_eq {r : List Nat} (hr : r ≠ []) (hl : r.length ≤ 100000) (h : ∀ n ∈ r, (numL n).length ≤ 5) (ρ : En) (hρ : ρ.length = 11) (e : ρ[8]? = some (vl (tD r))) : eOp addF (eC (.str "row ")) (eTx joinF (eC (.str " ")) (eLc [10] (iSeq (eV 8)) (.nm 10) (eC (.bool true)) (eCB strIF [(eV 10)]))) ρ = .ok (wD (lineT (.row r))) := by
  have c1 : eLc [10] (iSeq (eV 8)) (.nm 10) (eC (.bool true)) (eCB strIF [(eV 10)]) ρ = .ok (.list ((r.map numL).map wD)) := strs_row (i := 10) (j := 8) _ r ρ (by omega) (by unfold tD at e; simp -implicitDefEqProofs only [e, evs_, Option.bind_some, List.getElem?_cons_zero, List.getElem?_cons_succ, List.set_cons_zero, List.set_cons_succ, List.map_cons, List.map_nil, List.cons_append, List.nil_append, List.length_cons, List.length_nil, Nat.reduceAdd, Nat.reduceSub, Nat.reduceLeDiff, Nat.reduceLT, Bool.not_true, Bool.not_false, decide_true, decide_false]) hl h
  obtain ⟨j1, j2⟩ := join_nums hl h
  have ad : addF (wD (wRow ++ [32])) (wD (joinL [32] (r.map numL))) = some (wD (lineT (.row r))) := by
    rw [add_w (by show 4 + _ ≤ 16777216; omega)]
    unfold lineT Ln.words
    rw [joinL_cons _ _ (by simpa using hr), List.append_assoc]
  rw [lit_sp, lit_row_, ap_eOp, ap_eC, ap_eTx, ap_eC, txO_w, c1, Rs.bind_ok, j1]
  show opO addF (.ok _) (.ok _) = _
  rw [opO_ok, ad]
  rfl
theorem rshot_eq {s : List (List Nat)} {x y : Nat} (hx : (numL x).length ≤ 5) (hy : (numL y).length ≤ 5) (hs : ∀ r ∈ s, r.length ≤ 100000 ∧ r ≠ [] ∧ ∀ n ∈ r, (numL n).length ≤ 5) (a b c : D) (L : List D) (hL : L.length + s.length + 1 ≤ 2000000) (o7 o8 o9 o10 : Option Sl) :
    lp_rows_of_1 [vl a, vl b, vl c, some (.own (.list L)), vl (sD s), vl (nD x), vl (nD y), o7, o8, o9, o10] = .nx [vl a, vl b, vl c, some (.own (.list (L ++ (wD (lineT (.shot [x, y])) :: s.map fun r => wD (lineT (.row r)))))), vl (sD s), vl (nD x), vl (nD y), o7, o8, o9, o10] := by
  have f1 : fmtF (nD x) = some (wD (numL x)) := fmt_n (small_of hx)
  have f2 : fmtF (nD y) = some (wD (numL y)) := fmt_n (small_of hy)
  have fs : ∀ ρ : En, ρ[5]? = some (vl (nD x)) → ρ[6]? = some (vl (nD y)) → eFs [(eC (.str "shot ")), (eUn fmtF (eV 5)), (eC (.str " ")), (eUn fmtF (eV 6))] ρ = .ok (wD (lineT (.shot [x, y]))) := fun ρ e5 e6 => by
    have g5 : eUn fmtF (eV 5) ρ = .ok (wD (numL x)) := by
      rw [ap_eUn, ap_eV, e5]
      show Rs.of (fmtF (nD x)) = _
      rw [f1]
      rfl
    have g6 : eUn fmtF (eV 6) ρ = .ok (wD (numL y)) := by
      rw [ap_eUn, ap_eV, e6]
      show Rs.of (fmtF (nD y)) = _
      rw [f2]
      rfl
    rw [eFs_w, lit_shot_, lit_sp, fsGo_w (a := wShot ++ [32]) rfl (by decide), fsGo_w g5 (by show 5 + _ ≤ _; omega), fsGo_w (a := [32]) rfl (by rw [List.length_append]; show 5 + _ + 1 ≤ _; omega), fsGo_w g6 (by rw [List.length_append, List.length_append]; show 5 + _ + 1 + _ ≤ _; omega), eFs_nil, line_shot]
    rfl
  have ap := appO_ok 3 [vl a, vl b, vl c, some (.own (.list L)), vl (sD s), vl (nD x), vl (nD y), o7, o8, o9, o10] L (wD (lineT (.shot [x, y]))) (by omega)
  have c1 : ∀ ρ : En, ρ.length = 11 → ρ[4]? = some (vl (sD s)) → eLc [8] (iSeq (eV 4)) (.nm 8) (eC (.bool true)) (eOp addF (eC (.str "row ")) (eTx joinF (eC (.str " ")) (eLc [10] (iSeq (eV 8)) (.nm 10) (eC (.bool true)) (eCB strIF [(eV 10)])))) ρ = .ok (.list (s.map fun r => wD (lineT (.row r)))) := by
    intro ρ hρ e4
    refine eLc_mapA s tD _ (by unfold sD at e4; simp -implicitDefEqProofs only [e4, evs_, Option.bind_some, List.getElem?_cons_zero, List.getElem?_cons_succ, List.set_cons_zero, List.set_cons_succ, List.map_cons, List.map_nil, List.cons_append, List.nil_append, List.length_cons, List.length_nil, Nat.reduceAdd, Nat.reduceSub, Nat.reduceLeDiff, Nat.reduceLT, Bool.not_true, Bool.not_false, decide_true, decide_false]) (by omega) fun r hr => ⟨rfl, ?_⟩
    obtain ⟨h1, h2, h3⟩ := hs r hr
    exact rrow_eq h2 h1 h3 _ (by rw [List.length_set, wipeE_length]; exact hρ) (List.getElem?_set_self (by rw [wipeE_length]; omega))
  have ex := fun ρ => extO_ok 3 ρ (L ++ [wD (lineT (.shot [x, y]))]) (s.map fun r => wD (lineT (.row r))) (by rw [List.length_append, List.length_map]; show L.length + 1 + _ ≤ _; omega)
  unfold lp_rows_of_1
  rw [ap_sSeq, ap_sApp, fs _ rfl rfl]
  show seqO (appO 3 _ (some (some (.own (.list L)))) _) _ = _
  rw [ap, seqO_nx, ap_sExt, c1 _ rfl rfl]
  show extO 3 _ (some (some (.own (.list (L ++ [wD (lineT (.shot [x, y]))])))) ) _ = _
  rw [ex, List.append_assoc]
  rfl
theorem rshots_eq (a b c : D) (o7 o8 o9 o10 : Option Sl) : ∀ (S : List (List (List Nat))) (P : List (List Nat)) (L : List D) (o4 o5 o6 : Option Sl), S.length = P.length → (∀ s ∈ S, ∀ r ∈ s, r.length ≤ 100000 ∧ r ≠ [] ∧ ∀ n ∈ r, (numL n).length ≤ 5) → (∀ p ∈ P, p.length = 2 ∧ ∀ n ∈ p, (numL n).length ≤ 5) → L.length + (linesS S P).length ≤ 2000000 →
    ∃ o4' o5' o6' : Option Sl, forGo (.tp [.nm 4, .tp [.nm 5, .nm 6]]) lp_rows_of_1 (zipD (S.map sD) (P.map tD)) [vl a, vl b, vl c, some (.own (.list L)), o4, o5, o6, o7, o8, o9, o10] = .nx [vl a, vl b, vl c, some (.own (.list (L ++ (linesS S P).map fun l => wD (lineT l)))), o4', o5', o6', o7, o8, o9, o10]
  | [], [], L, o4, o5, o6, _, _, _, _ => ⟨o4, o5, o6, by
    show Out.nx _ = _
    simp [linesS]⟩
  | [], _ :: _, _, _, _, _, h, _, _, _ => by cases h
  | _ :: _, [], _, _, _, _, h, _, _, _ => by cases h
  | s :: S, p :: P, L, o4, o5, o6, hl, hs, hp, hn => by
    obtain ⟨p2, pn⟩ := hp p List.mem_cons_self
    simp -implicitDefEqProofs only [linesS, List.length_cons, List.length_append, List.length_map] at hn
    match p, p2 with
    | [x, y], _ =>
      have bt : bindT (.tp [.nm 4, .tp [.nm 5, .nm 6]]) (.tuple [sD s, tD [x, y]]) [vl a, vl b, vl c, some (.own (.list L)), o4, o5, o6, o7, o8, o9, o10] = some [vl a, vl b, vl c, some (.own (.list L)), vl (sD s), vl (nD x), vl (nD y), o7, o8, o9, o10] := by
        have : tD [x, y] = .tuple [nD x, nD y] := rfl
        rw [this]
        generalize sD s = d1
        generalize nD x = d2
        generalize nD y = d3
        simp -implicitDefEqProofs only [evs_, Option.bind_some, List.getElem?_cons_zero, List.getElem?_cons_succ, List.set_cons_zero, List.set_cons_succ, List.map_cons, List.map_nil, List.cons_append, List.nil_append, List.length_cons, List.length_nil, Nat.reduceAdd, Nat.reduceSub, Nat.reduceLeDiff, Nat.reduceLT, Bool.not_true, Bool.not_false, decide_true, decide_false]
      have st := rshot_eq (pn x (by simp)) (pn y (by simp)) (hs s List.mem_cons_self) a b c L (by omega) o7 o8 o9 o10
      obtain ⟨q4, q5, q6, ih⟩ := rshots_eq a b c o7 o8 o9 o10 S P (L ++ (wD (lineT (.shot [x, y])) :: s.map fun r => wD (lineT (.row r)))) (vl (sD s)) (vl (nD x)) (vl (nD y)) (by simpa using hl) (fun z hz => hs z (List.mem_cons_of_mem _ hz)) (fun z hz => hp z (List.mem_cons_of_mem _ hz)) (by rw [List.length_append, List.length_cons, List.length_map]; omega)
      refine ⟨q4, q5, q6, ?_⟩
      show forGo _ _ (.tuple [sD s, tD [x, y]] :: zipD (S.map sD) (P.map tD)) _ = _
      rw [forGo_nxT bt st, ih]
      simp -implicitDefEqProofs only [linesS, List.map_cons, List.map_append, List.map_map, List.append_assoc, List.cons_append]
      rfl
theorem rmark_eq {m : List Nat × List Nat} (hm : m.1.length ≤ 100000) (h4 : m.2.length = 4) (h : ∀ n ∈ m.2, (numL n).length ≤ 5) (ρ : En) (hρ : ρ.length = 11) (e : ρ[7]? = some (vl (mD m))) : eTx joinF (eC (.str " ")) (eOp addF (eLst [(eC (.str "mark"))]) (eLc [9] (iSeq (eV 7)) (.nm 9) (eC (.bool true)) (eCB strIF [(eV 9)]))) ρ = .ok (wD (lineT (.mark m.1 m.2))) := by
  have c1 : eLc [9] (iSeq (eV 7)) (.nm 9) (eC (.bool true)) (eCB strIF [(eV 9)]) ρ = .ok (.list ((m.1 :: m.2.map numL).map wD)) := by
    have := eLc_mapA (vs := [9]) (fi := iSeq (eV 7)) (i := 9) (c := eC (.bool true)) (e := eCB strIF [(eV 9)]) (ρ := ρ) (Sum.inl m.1 :: m.2.map Sum.inr) (fun z : List Nat ⊕ Nat => match z with | .inl w => wD w | .inr n => nD n) (fun z => match z with | .inl w => wD w | .inr n => wD (numL n)) (by
      rw [ap_iSeq, ap_eV, e]
      show RL.ok (wD m.1 :: m.2.map nD) = _
      rw [List.map_cons, List.map_map]
      rfl) (by rw [List.length_cons, List.length_map]; omega) fun z hz => by
        refine ⟨rfl, ?_⟩
        cases z with
        | inl w =>
          have g : ((wipeE ρ [9]).set 9 (some (.val (wD w))))[9]? = some (vl (wD w)) := List.getElem?_set_self (by rw [wipeE_length]; omega)
          have st : strIF [wD w] = some (wD w) := rfl
          dsimp only
          generalize (wipeE ρ [9]).set 9 (some (.val (wD w))) = ρ2 at g ⊢
          generalize wD w = dw at *
          simp -implicitDefEqProofs only [g, st, evs_, Option.bind_some, List.getElem?_cons_zero, List.getElem?_cons_succ, List.set_cons_zero, List.set_cons_succ, List.map_cons, List.map_nil, List.cons_append, List.nil_append, List.length_cons, List.length_nil, Nat.reduceAdd, Nat.reduceSub, Nat.reduceLeDiff, Nat.reduceLT, Bool.not_true, Bool.not_false, decide_true, decide_false]
        | inr n =>
          have hn : n ∈ m.2 := by simpa using hz
          have g : ((wipeE ρ [9]).set 9 (some (.val (nD n))))[9]? = some (vl (nD n)) := List.getElem?_set_self (by rw [wipeE_length]; omega)
          have st : strIF [nD n] = some (wD (numL n)) := str_n (small_of (h n hn))
          dsimp only
          generalize (wipeE ρ [9]).set 9 (some (.val (nD n))) = ρ2 at g ⊢
          generalize nD n = dw at *
          simp -implicitDefEqProofs only [g, st, evs_, Option.bind_some, List.getElem?_cons_zero, List.getElem?_cons_succ, List.set_cons_zero, List.set_cons_succ, List.map_cons, List.map_nil, List.cons_append, List.nil_append, List.length_cons, List.length_nil, Nat.reduceAdd, Nat.reduceSub, Nat.reduceLeDiff, Nat.reduceLT, Bool.not_true, Bool.not_false, decide_true, decide_false]
    rw [this, List.map_cons, List.map_map, List.map_cons, List.map_map]
    rfl
  have sm := sum_nums h
  have jn : joinF (wD [32]) (.list ((wMark :: m.1 :: m.2.map numL).map wD)) = some (wD (lineT (.mark m.1 m.2))) := join_w (by
    simp -implicitDefEqProofs only [List.map_cons, List.sum_cons, List.length_cons, List.length_map]
    show 4 + _ + _ ≤ _
    omega)
  have ad : addF (.list [wD wMark]) (.list ((m.1 :: m.2.map numL).map wD)) = some (.list ((wMark :: m.1 :: m.2.map numL).map wD)) := by
    show (if [wD wMark].length + ((m.1 :: m.2.map numL).map wD).length ≤ sizeLine then some (PyData.list ([wD wMark] ++ _)) else none) = _
    rw [if_pos]
    · rfl
    · simp -implicitDefEqProofs only [List.length_map, List.length_cons]
      show 0 + 1 + _ ≤ 16777216
      omega
  rw [lit_sp, lit_mark, ap_eTx, ap_eC, txO_w, ap_eOp, c1]
  show (opO addF (.ok (.list [wD wMark])) (.ok _)).bind _ = _
  rw [opO_ok, ad]
  show Rs.of (joinF _ _) = _
  rw [jn]
  rfl
theorem rows_of_eq {S : List (List (List Nat))} {P : List (List Nat)} {M : List (List Nat × List Nat)} (F : FitT S P M) : sem_rows_of [shsD S, psD P, msD' M] = .ok (.list (((allLn S P M).map lineT).map wD)) := by
  have all := F.n
  unfold allLn at all
  rw [List.length_append, List.length_map] at all
  obtain ⟨q4, q5, q6, lp⟩ := rshots_eq (shsD S) (psD P) (msD' M) none none none none S P [] none none none F.len F.s F.p (by show 0 + _ ≤ _; omega)
  have z2 : ∀ ρ : En, ρ[0]? = some (vl (shsD S)) → ρ[1]? = some (vl (psD P)) → iZip [(eV 0), (eV 1)] ρ = .ok (zipD (S.map sD) (P.map tD)) := fun ρ e0 e1 => by
    have : evA [(eV 0), (eV 1)] ρ = .ok [shsD S, psD P] := by
      generalize shsD S = d1 at *
      generalize psD P = d2 at *
      simp -implicitDefEqProofs only [e0, e1, evs_, Option.bind_some, List.getElem?_cons_zero, List.getElem?_cons_succ, List.set_cons_zero, List.set_cons_succ, List.map_cons, List.map_nil, List.cons_append, List.nil_append, List.length_cons, List.length_nil, Nat.reduceAdd, Nat.reduceSub, Nat.reduceLeDiff, Nat.reduceLT, Bool.not_true, Bool.not_false, decide_true, decide_false]
    rw [ap_iZip, this]
    exact items_zipT _ _
  have c1 : ∀ ρ : En, ρ.length = 11 → ρ[2]? = some (vl (msD' M)) → eLc [7] (iSeq (eV 2)) (.nm 7) (eC (.bool true)) (eTx joinF (eC (.str " ")) (eOp addF (eLst [(eC (.str "mark"))]) (eLc [9] (iSeq (eV 7)) (.nm 9) (eC (.bool true)) (eCB strIF [(eV 9)])))) ρ = .ok (.list (M.map fun m => wD (lineT (.mark m.1 m.2)))) := by
    intro ρ hρ e2
    refine eLc_mapA M mD _ (by unfold msD' at e2; simp -implicitDefEqProofs only [e2, evs_, Option.bind_some, List.getElem?_cons_zero, List.getElem?_cons_succ, List.set_cons_zero, List.set_cons_succ, List.map_cons, List.map_nil, List.cons_append, List.nil_append, List.length_cons, List.length_nil, Nat.reduceAdd, Nat.reduceSub, Nat.reduceLeDiff, Nat.reduceLT, Bool.not_true, Bool.not_false, decide_true, decide_false]) (by omega) fun m hm => ⟨rfl, ?_⟩
    obtain ⟨h1, h2, h3⟩ := F.m m hm
    exact rmark_eq h1 h2 h3 _ (by rw [List.length_set, wipeE_length]; exact hρ) (List.getElem?_set_self (by rw [wipeE_length]; omega))
  have fe : (linesS S P).map (fun l => wD (lineT l)) ++ M.map (fun m => wD (lineT (.mark m.1 m.2))) = ((allLn S P M).map lineT).map wD := by
    unfold allLn
    rw [List.map_append, List.map_append, List.map_map, List.map_map, List.map_map]
    rfl
  have ad : addF (.list ((linesS S P).map fun l => wD (lineT l))) (.list (M.map fun m => wD (lineT (.mark m.1 m.2)))) = some (.list (((allLn S P M).map lineT).map wD)) := by
    rw [← fe]
    show (if _ then some (PyData.list _) else none) = _
    rw [if_pos]
    rw [List.length_map, List.length_map]
    show _ ≤ 16777216
    omega
  rw [List.nil_append] at lp
  generalize hZ : zipD (S.map sD) (P.map tD) = Z at *
  generalize PyData.list ((linesS S P).map fun l => wD (lineT l)) = l1 at *
  generalize PyData.list (M.map fun m => wD (lineT (.mark m.1 m.2))) = l2 at *
  generalize PyData.list (((allLn S P M).map lineT).map wD) = l3 at *
  generalize shsD S = d1 at *
  generalize psD P = d2 at *
  generalize msD' M = d3 at *
  have u : sem_rows_of [d1, d2, d3] = outR (b_rows_of [vl d1, vl d2, vl d3, none, none, none, none, none, none, none, none]) := runB_eq 3 11 b_rows_of [d1, d2, d3] rfl
  rw [u]
  unfold b_rows_of
  rw [ap_sSeq]
  show outR (seqO (.nx [vl d1, vl d2, vl d3, some (.own (.list [])), none, none, none, none, none, none, none]) _) = _
  rw [seqO_nx, ap_sSeq, ap_sFor, z2 _ rfl rfl]
  show outR (seqO (forGo _ lp_rows_of_1 Z _) _) = _
  rw [lp, seqO_nx, ap_sRet, ap_eOp, c1 _ rfl rfl]
  show outR ((opO addF (.ok l1) (.ok l2)).out _ _) = _
  rw [opO_ok, ad]
  rfl
theorem shown_eq {S : List (List (List Nat))} {P : List (List Nat)} {M : List (List Nat × List Nat)} (F : FitT S P M) (h1 : sem_look_places [shsD S, psD P] = .ok .none) (h2 : sem_are_marks [msD' M] = .ok (.bool true)) : sem_shown [shsD S, psD P, msD' M] = .ok (wD (textL (allLn S P M))) := by
  have ro := rows_of_eq F
  have jn : joinF (wD [10]) (.list (((allLn S P M).map lineT).map wD)) = some (wD (textL (allLn S P M))) := by
    apply join_w
    cases q : (allLn S P M).map lineT with
    | nil => simp
    | cons a b =>
      rw [← q]
      have := len_join 10 ((allLn S P M).map lineT) (by rw [q]; simp)
      have tt := F.t
      unfold textL at tt
      have e2 : (allLn S P M).map (fun l => joinL [32] l.words) = (allLn S P M).map lineT := rfl
      rw [e2] at tt
      omega
  generalize PyData.list (((allLn S P M).map lineT).map wD) = dl at *
  generalize shsD S = d1 at *
  generalize psD P = d2 at *
  generalize msD' M = d3 at *
  simp -implicitDefEqProofs only [sem_shown, b_shown, h1, h2, lit_nl, Bool.not_true, evs_, Option.bind_some, List.getElem?_cons_zero, List.getElem?_cons_succ, List.set_cons_zero, List.set_cons_succ, List.map_cons, List.map_nil, List.cons_append, List.nil_append, List.length_cons, List.length_nil, Nat.reduceAdd, Nat.reduceSub, Nat.reduceLeDiff, Nat.reduceLT, Bool.not_true, Bool.not_false, decide_true, decide_false]
  rw [ap_eTx, ap_eC, txO_w, ap_eCall]
  show outR (((sem_rows_of [d1, d2, d3]).bind _).out _ _) = _
  rw [ro, Rs.bind_ok, jn]
  rfl
end VVlaw

set_option Elab.async false
set_option linter.all false
set_option maxRecDepth 100000
set_option maxHeartbeats 4000000
namespace VVlaw
open PySem PySem.Spec L2 VV
open PyProof.Rows hiding St
def sub_BadText : Str → Option Bool := fun c => if c = "BadMarks" then some false else if c = "BadPlaces" then some false else if c = "BadShots" then some false else if c = "BadText" then some true else none
def b__law_text_told : SF := (sTriesF (sRet (eCall sem_read [(eV 0)])) [⟨some 1, sub_BadText, fun _ fs => (sRet (eIf (gAnd (gTru (eC (.bool true))) (gNot (gTru (eC (.bool false))))) (eLst [(eC (.str "line")), (eFd fs "line")]) (eLst [(eC (.str "other"))])))⟩])
def sem__law_text_told : List D → Rs := runB 1 2 b__law_text_told
def b_law : SF := (sSeq (sSet 1 (eCall sem__law_row [(eV 0), (eC (.int 6))])) (sSeq (sAsg (.tp [(.nm 2), (.nm 3)]) (eCall sem__law_any_scene [(eV 0), (eC (.int 2))])) (sSeq (sSet 4 (eCall sem__law_marks [(eV 0), (eC (.int 5))])) (sSeq (sSet 5 (eCall sem__law_shown [(eV 2), (eV 3), (eV 4)])) (sSeq (sIf (gOr (eOp neF (eCall sem_shown [(eV 2), (eV 3), (eV 4)]) (eV 5)) (eOp neF (eCall sem__law_text_told [(eV 5)]) (eTup [(eV 2), (eV 3), (eV 4)]))) (sRet (eC (.bool false))) sNx) (sSeq (sSet 6 (eOp modF (eOp mulF (eOp ixF (eV 1) (eC (.int 0))) (eC (.int 13))) (eCB lenF [(eV 5)]))) (sSeq (sSet 7 (eOp ixF (eC (.str "0 a\n19")) (eOp modF (eOp ixF (eV 1) (eC (.int 1))) (eC (.int 6))))) (sSeq (sSet 8 (eLst [(eOp addF (eSl (eV 5) none (some (eV 6))) (eSl (eV 5) (some (eOp addF (eV 6) (eC (.int 1)))) none)), (eOp addF (eOp addF (eSl (eV 5) none (some (eV 6))) (eOp ixF (eV 5) (eV 6))) (eSl (eV 5) (some (eV 6)) none)), (eOp addF (eV 5) (eC (.str "\n"))), (eOp addF (eV 5) (eC (.str " ")))])) (sSeq (sSet 8 (eOp addF (eV 8) (eLst [(eOp addF (eOp addF (eSl (eV 5) none (some (eV 6))) (eV 7)) (eSl (eV 5) (some (eOp addF (eV 6) (eC (.int 1)))) none)), (eOp addF (eV 5) (eC (.str "\nmark z 01 1 1 1"))), (eOp addF (eV 5) (eC (.str "\nshot 0 0\nrow 1")))]))) (sSeq (sSet 9 (eCall sem__law_text_told [(eOp ixF (eV 8) (eOp modF (eOp ixF (eV 1) (eC (.int 2))) (eC (.int 7))))])) (sSeq (sIf (gAnd (gNot (gTru (eIsi isLst (eV 9)))) (eOp neF (eCall sem__law_shown [(eOp ixF (eV 9) (eC (.int 0))), (eOp ixF (eV 9) (eC (.int 1))), (eOp ixF (eV 9) (eC (.int 2)))]) (eOp ixF (eV 8) (eOp modF (eOp ixF (eV 1) (eC (.int 2))) (eC (.int 7)))))) (sRet (eC (.bool false))) sNx) (sSeq (sSet 10 (eTx splitF (eV 5) (eC (.str "\n")))) (sSeq (sSet 11 (eOp modF (eOp ixF (eV 1) (eC (.int 3))) (eOp addF (eCB lenF [(eV 10)]) (eC (.int 1))))) (sSeq (sSet 12 (eOp ixF (eLst [(eC (.str "view 1 2")), (eC (.str "")), (eC (.str "shot 1")), (eC (.str "rows 1")), (eC (.str "row")), (eC (.str "mark a 1 1 1"))]) (eOp modF (eOp ixF (eV 1) (eC (.int 4))) (eC (.int 6))))) (sSeq (sIf (eOp neF (eCall sem__law_text_told [(eTx joinF (eC (.str "\n")) (eOp addF (eOp addF (eSl (eV 10) none (some (eV 11))) (eLst [(eV 12)])) (eSl (eV 10) (some (eV 11)) none)))]) (eLst [(eC (.str "line")), (eV 11)])) (sRet (eC (.bool false))) sNx) (sSeq (sIf (gOr (eOp neF (eCall sem__law_text_told [(eOp addF (eC (.str "row 1\n")) (eV 5))]) (eLst [(eC (.str "line")), (eC (.int 0))])) (eOp neF (eCall sem__law_text_told [(eC (.str "mark a 1 1 1 1"))]) (eLst [(eC (.str "line")), (eC (.int 0))]))) (sRet (eC (.bool false))) sNx) (sSeq (sIf (eOp neF (eCall sem__law_text_told [(eC (.str "shot 0 0\nrow 1\nmark a 1 1 1 1\nshot 0 0\nrow 1"))]) (eLst [(eC (.str "line")), (eC (.int 3))])) (sRet (eC (.bool false))) sNx) (sRet (eOp eqF (eCall sem__law_text_told [(eOp ixF (eLst [(eC .none), (eC (.int 7)), (eLst [(eC (.str "shot 0 0"))]), (eC (.str "shot 0 0\nrow 256"))]) (eOp modF (eOp ixF (eV 1) (eC (.int 5))) (eC (.int 4))))]) (eLst [(eC (.str "line")), (eC .none)]))))))))))))))))))))
def sem_law : List D → Rs := runB 1 13 b_law
end VVlaw

set_option Elab.async false
set_option linter.all false
set_option maxRecDepth 100000
set_option maxHeartbeats 8000000
/-! PU1: the program's fractions as rational numbers, of whatever size. -/
namespace VVlaw
open PySem PySem.Spec L2 VV
open PyProof.Rows hiding St
/-! ### the greatest common divisor, by few steps -/
/-! ### fractions -/
def ratD (q : Rat) : D := .tuple [.int q.num, .int (q.den : Int)]
/-- how many bits top and bottom have at most -/
structure Bits (m n : Nat) (q : Rat) : Prop where
  top : q.num.natAbs < 2 ^ m
  bot : q.den < 2 ^ n
theorem Bits.mono {m n m' n' : Nat} {q : Rat} (h : Bits m n q) (h1 : m ≤ m') (h2 : n ≤ n') : Bits m' n' q := ⟨Nat.lt_of_lt_of_le h.top (Nat.pow_le_pow_right (by decide) h1), Nat.lt_of_lt_of_le h.bot (Nat.pow_le_pow_right (by decide) h2)⟩
theorem bits_div {t b : Int} {m n : Nat} (hb : b ≠ 0) (h1 : t.natAbs < 2 ^ m) (h2 : b.natAbs < 2 ^ n) : Bits m n (Rat.divInt t b) := by
  constructor
  · rw [Rat.num_divInt]
    refine Nat.lt_of_le_of_lt ?_ h1
    refine Nat.le_trans (Int.natAbs_ediv_le_natAbs _ _) ?_
    rw [Int.natAbs_mul]
    refine Nat.le_trans (Nat.mul_le_mul_right _ (show b.sign.natAbs ≤ 1 from ?_)) (by omega)
    rcases Int.lt_or_lt_of_ne hb with q | q
    · rw [Int.sign_eq_neg_one_of_neg q]; decide
    · rw [Int.sign_eq_one_of_pos q]; decide
  · rw [Rat.den_divInt, if_neg hb]
    exact Nat.lt_of_le_of_lt (Nat.div_le_self _ _) h2
section
variable {p q : Rat} {m n m' n' : Nat}
end
/-! ### a common bottom -/
/-- q is a whole number over N, no more than M -/
def Cd (N M : Nat) (q : Rat) : Prop := ∃ z : Int, q * ((N : Int) : Rat) = (z : Rat) ∧ z.natAbs ≤ M * N
theorem cast_ne {N : Nat} (h : 0 < N) : ((N : Int) : Rat) ≠ 0 := fun z => by
  have : (N : Int) = 0 := Rat.intCast_eq_zero_iff.mp z
  omega
theorem Cd.div {N M : Nat} {q : Rat} (hN : 0 < N) (h : Cd N M q) : ∃ z : Int, q = Rat.divInt z N ∧ z.natAbs ≤ M * N := by
  obtain ⟨z, e, l⟩ := h
  refine ⟨z, ?_, l⟩
  have e2 : q = (z : Rat) / ((N : Int) : Rat) := by
    rw [← e]
    have := cast_ne hN
    grind
  rw [e2, Rat.divInt_eq_div]
theorem Cd.bits {N M m n : Nat} {q : Rat} (hN : 0 < N) (h : Cd N M q) (h1 : M < 2 ^ m) (h2 : N < 2 ^ n) : Bits (m + n) n q := by
  obtain ⟨z, e, l⟩ := h.div hN
  rw [e]
  refine bits_div (by omega) (Nat.lt_of_le_of_lt l ?_) (by rw [Int.natAbs_natCast]; exact h2)
  rw [Nat.pow_add]
  exact Nat.mul_lt_mul'' h1 h2
theorem Cd.mono {N M M' : Nat} {q : Rat} (h : Cd N M q) (l : M ≤ M') : Cd N M' q := by
  obtain ⟨z, e, k⟩ := h
  exact ⟨z, e, Nat.le_trans k (Nat.mul_le_mul_right _ l)⟩
theorem Cd.add {N M M' : Nat} {p q : Rat} (h : Cd N M p) (k : Cd N M' q) : Cd N (M + M') (p + q) := by
  obtain ⟨z, e, l⟩ := h
  obtain ⟨y, f, j⟩ := k
  refine ⟨z + y, ?_, ?_⟩
  · rw [Rat.add_mul, e, f, Rat.intCast_add]
  · rw [Nat.add_mul]
    have := Int.natAbs_add_le z y
    omega
theorem Cd.neg {N M : Nat} {p : Rat} (h : Cd N M p) : Cd N M (-p) := by
  obtain ⟨z, e, l⟩ := h
  exact ⟨-z, by rw [Rat.neg_mul, e, Rat.intCast_neg], by rw [Int.natAbs_neg]; exact l⟩
theorem Cd.sub {N M M' : Nat} {p q : Rat} (h : Cd N M p) (k : Cd N M' q) : Cd N (M + M') (p - q) := by
  rw [Rat.sub_eq_add_neg]
  exact h.add k.neg
theorem Cd.more {N M : Nat} {p : Rat} (k : Nat) (h : Cd N M p) : Cd (N * k) M p := by
  obtain ⟨z, e, l⟩ := h
  refine ⟨z * k, ?_, ?_⟩
  · rw [Rat.intCast_mul, ← e, Int.natCast_mul, Rat.intCast_mul]
    grind
  · rw [Int.natAbs_mul, Int.natAbs_natCast, ← Nat.mul_assoc]
    exact Nat.mul_le_mul_right _ l
end VVlaw

set_option Elab.async false
set_option linter.all false
set_option maxRecDepth 100000
set_option maxHeartbeats 8000000
/-! PU2: rows of numbers solved, in plain words. -/
namespace VVlaw
/-! ### rows -/
abbrev Mx := Nat → Nat → Rat
section
variable {n : Nat} {A : Mx} {v : Nat → Rat}
end
/-! ### how large numbers become -/
end VVlaw

set_option Elab.async false
set_option linter.all false
set_option maxRecDepth 100000
set_option maxHeartbeats 8000000
/-! PU3: the program's solved. -/
namespace VVlaw
open PySem PySem.Spec L2 VV
open PyProof.Rows hiding St
def mrow (n : Nat) (A : Mx) (i : Nat) : D := .list ((List.range (n + 1)).map fun j => ratD (A i j))
theorem row_at {n : Nat} (A : Mx) (i : Nat) {j : Nat} (h : j ≤ n) : ixF (mrow n A i) (.int (j : Int)) = some (ratD (A i j)) := by
  have := ix_map_l (fun j => ratD (A i j)) (List.range (n + 1)) (j : Int) (by omega) (by simp; omega)
  unfold mrow
  rw [this]
  simp
/-! ### lists changed, by need -/
/-! ### one row less the first one -/
section
variable {n N M k L : Nat} {B : Mx}
end
end VVlaw

set_option Elab.async false
set_option linter.all false
set_option maxRecDepth 100000
set_option maxHeartbeats 8000000
/-! PU4: the program's solved, the whole. -/
namespace VVlaw
open PySem PySem.Spec L2 VV
open PyProof.Rows hiding St
section
variable {n N M k : Nat} {A : Mx}
end
/-- bits, step by step -/
def nmb : Nat → Nat × Nat
  | 0 => (1, 17)
  | k + 1 => (2 * (nmb k).1 + (nmb k).2, 2 * (nmb k).2 + (nmb k).1 + 1)
end VVlaw

set_option Elab.async false
set_option linter.all false
set_option maxRecDepth 100000
set_option maxHeartbeats 8000000
/-! PU5: shots at places; all two that share cells. -/
namespace VVlaw
open PySem PySem.Spec L2 VV
open PyProof.Rows hiding St
structure Ps where
  s : List (List Int)
  h : Nat
  w : Nat
  x : Int
  y : Int
structure Scn (n : Nat) (e : Nat → Ps) : Prop where
  n1 : 1 ≤ n
  n8 : n ≤ 8
  sh : ∀ i, i < n → Sh (e i).s (e i).h (e i).w
  px : ∀ i, i < n → 0 ≤ (e i).x ∧ (e i).x ≤ 99
  py : ∀ i, i < n → 0 ≤ (e i).y ∧ (e i).y ≤ 99
  nx : ∀ i j, i < n → j < n → -12 ≤ (e j).x - (e i).x ∧ (e j).x - (e i).x ≤ 12
  ny : ∀ i j, i < n → j < n → -12 ≤ (e j).y - (e i).y ∧ (e j).y - (e i).y ≤ 12
def shotsD (n : Nat) (e : Nat → Ps) : D := .tuple ((List.range n).map fun i => shD (e i).s)
def plcD (p : Ps) : D := .tuple [.int p.x, .int p.y]
def placesD (n : Nat) (e : Nat → Ps) : D := .tuple ((List.range n).map fun i => plcD (e i))
def stp (e : Nat → Ps) (i j : Nat) : List Int := steps (e i).s (e j).s (e i).w (e i).h (e j).w (e j).h ((e j).x - (e i).x) ((e j).y - (e i).y)
def prs (n : Nat) (e : Nat → Ps) : List (Nat × Nat) := ((List.range n).flatMap fun i => (List.range (n - (i + 1))).map fun d => (i, i + 1 + d)).filter fun p => !(stp e p.1 p.2).isEmpty
def pairD (e : Nat → Ps) (p : Nat × Nat) : D := .tuple [.int (p.1 : Int), .int (p.2 : Int), .int ((stp e p.1 p.2).length : Int), .int (stp e p.1 p.2).sum, .int ((stp e p.1 p.2).map fun z => z * z).sum]
section
variable {n : Nat} {e : Nat → Ps}
end
end VVlaw

set_option Elab.async false
set_option linter.all false
set_option maxRecDepth 100000
set_option maxHeartbeats 8000000
/-! PU6: whether shots hang together. -/
namespace VVlaw
open PySem PySem.Spec L2 VV
open PyProof.Rows hiding St
/-- reached from the first one -/
inductive Rch (ps : List (Nat × Nat)) : Nat → Prop
  | zero : Rch ps 0
  | fwd {i j : Nat} : (i, j) ∈ ps → Rch ps i → Rch ps j
  | bwd {i j : Nat} : (i, j) ∈ ps → Rch ps j → Rch ps i
abbrev KB := List (Nat × Bool)
def ntD (n : Nat) : D := .int (n : Int)
def ks (E : KB) : List Nat := E.map (·.1)
structure KOk (all : List (Nat × Nat)) (E : KB) : Prop where
  nd : (ks E).Nodup
  z : 0 ∈ ks E
  rch : ∀ k ∈ ks E, Rch all k
section
variable (e : Nat → Ps) (ds dp : D)
end
end VVlaw

set_option Elab.async false
set_option linter.all false
set_option maxRecDepth 100000
set_option maxHeartbeats 8000000
/-! PU7: look_whole. -/
namespace VVlaw
open PySem PySem.Spec L2 VV
open PyProof.Rows hiding St
section
variable {n : Nat} {e : Nat → Ps} (E : KB) (ds dp : D) (s3 s4 s5 s6 s7 s8 : Option Sl)
end
end VVlaw

set_option Elab.async false
set_option linter.all false
set_option maxRecDepth 100000
set_option maxHeartbeats 8000000
/-! PU8: the rows of numbers by which lights are found. -/
namespace VVlaw
open PySem PySem.Spec L2 VV
open PyProof.Rows hiding St
def givR (e : Nat → Ps) (num : Nat) (p : Nat × Nat) : Int := (if num = p.2 then (stp e p.1 p.2).sum else 0) - (if num = p.1 then (stp e p.1 p.2).sum else 0)
def rgtF (e : Nat → Ps) (num : Nat) : List (Nat × Nat) → Int
  | [] => 0
  | p :: ps => givR e num p + rgtF e num ps
section
variable {n : Nat} {e : Nat → Ps} (dp : D)
end
/-! ### all rows -/
section
variable {m : Nat} {e : Nat → Ps} {ps : List (Nat × Nat)}
end
end VVlaw

set_option Elab.async false
set_option linter.all false
set_option maxRecDepth 100000
set_option maxHeartbeats 8000000
/-! PU9: equations; that they have one answer. -/
namespace VVlaw
open PySem PySem.Spec L2 VV
open PyProof.Rows hiding St
/-! ### one answer -/
def sumL {α : Type} (f : α → Rat) : List α → Rat
  | [] => 0
  | x :: xs => f x + sumL f xs
def cnt (e : Nat → Ps) (p : Nat × Nat) : Rat := (((stp e p.1 p.2).length : Int) : Rat)
/-- what two of them pull at a number -/
def pull (e : Nat → Ps) (X : Nat → Rat) (num : Nat) (p : Nat × Nat) : Rat := (if num = p.1 then cnt e p * (X p.1 - X p.2) else 0) + (if num = p.2 then cnt e p * (X p.2 - X p.1) else 0)
end VVlaw

set_option Elab.async false
set_option linter.all false
set_option maxRecDepth 100000
set_option maxHeartbeats 8000000
/-! PUa: shots that hang together have one answer. -/
namespace VVlaw
open PySem PySem.Spec L2 VV
open PyProof.Rows hiding St
end VVlaw

set_option Elab.async false
set_option linter.all false
set_option maxRecDepth 100000
set_option maxHeartbeats 8000000
/-! PUb: the lights of shots. -/
namespace VVlaw
open PySem PySem.Spec L2 VV
open PyProof.Rows hiding St
section
variable {m : Nat} {e : Nat → Ps}
/-- what the lights are: nothing pulls at any but the first -/
structure Lts (n : Nat) (e : Nat → Ps) (X : Nat → Rat) (N M : Nat) : Prop where
  first : X 0 = 0
  even : ∀ i, i < n → i ≠ 0 → sumL (pull e X i) (prs n e) = ((rgtF e i (prs n e) : Int) : Rat)
  pos : 0 < N
  cd : ∀ i, i < n → Cd N M (X i)
end
end VVlaw

set_option Elab.async false
set_option linter.all false
set_option maxRecDepth 100000
set_option maxHeartbeats 8000000
/-! PUc: the laws' fractions as Rat; what is left over. -/
namespace VVlaw
open PySem PySem.Spec L2 VV
open PyProof.Rows hiding St
/-- small enough for all that follows -/
def SmQ (q : Rat) : Prop := Bits 6000 3000 q
theorem Cd.sm {N M : Nat} {q : Rat} (hN : 0 < N) (h : Cd N M q) (h1 : M < 2 ^ 3000) (h2 : N < 2 ^ 3000) : SmQ q := h.bits hN h1 h2
section
variable {p q : Rat}
end
/-! ### bounds -/
structure Fit (N M : Nat) : Prop where
  pos : 0 < N
  n2 : N * N < 2 ^ 3000
  m2 : 20000 * ((255 + 2 * M) * (255 + 2 * M)) < 2 ^ 3000
theorem Fit.n1 {N M : Nat} (F : Fit N M) : N < 2 ^ 3000 := Nat.lt_of_le_of_lt (Nat.le_mul_of_pos_left N F.pos) F.n2
theorem Fit.m1 {N M : Nat} (F : Fit N M) : 20000 * (255 + 2 * M) < 2 ^ 3000 := Nat.lt_of_le_of_lt (Nat.mul_le_mul_left _ (Nat.le_mul_of_pos_left _ (by omega))) F.m2
/-! ### sums of squares -/
end VVlaw

set_option Elab.async false
set_option linter.all false
set_option maxRecDepth 100000
set_option maxHeartbeats 8000000
/-! PUd: the law's own pairs; which shots hang together, as the law finds it. -/
namespace VVlaw
open PySem PySem.Spec L2 VV
open PyProof.Rows hiding St
def bxE (e : Nat → Ps) (i j : Nat) : List Ent := boxE (e i).s (e j).s (e i).w (e i).h (e j).w (e j).h ((e j).x - (e i).x) ((e j).y - (e i).y)
def sq (e : Nat → Ps) (i j : Nat) : List Int := (((bxE e i j).map (·.1)).mergeSort leT).map (valT (bxE e i j))
section
variable {n : Nat} {e : Nat → Ps}
end
/-! ### which hang together -/
structure HOk (all : List (Nat × Nat)) (K : List Nat) : Prop where
  nd : K.Nodup
  z : 0 ∈ K
  rch : ∀ k ∈ K, Rch all k
section
variable (e : Nat → Ps) (d0 ds : D)
end
end VVlaw

set_option Elab.async false
set_option linter.all false
set_option maxRecDepth 100000
set_option maxHeartbeats 8000000
/-! PUe: what is left over, by the program and by the law. -/
namespace VVlaw
open PySem PySem.Spec L2 VV
open PyProof.Rows hiding St
theorem are_shots_eq {n : Nat} {e : Nat → Ps} (S : Scn n e) : sem_are_shots [shotsD n e] = .ok (.bool true) := by
  have n1 := S.n1
  have n8 := S.n8
  have it : isiO isTup (.ok (shotsD n e)) = .ok (.bool true) := rfl
  have ln : lenF [shotsD n e] = some (.int (n : Int)) := by
    unfold shotsD
    rw [f_len_t, List.length_map, List.length_range]
  have c1 : decide ((1 : Int) ≤ (n : Int)) = true := decide_eq_true (by omega)
  have c2 : decide ((n : Int) ≤ 8) = true := decide_eq_true (by omega)
  have lc : ∀ ρ : En, ρ.length = 2 → ρ[0]? = some (vl (shotsD n e)) → eLc [1] (iSeq (eV 0)) (.nm 1) (gNot (gTru (eCall sem_is_shot [(eV 1)]))) (eV 1) ρ = .ok (.list []) := by
    intro ρ hl e0
    refine eLc_noneA (List.range n) (fun i => shD (e i).s) (by unfold shotsD at e0; simp -implicitDefEqProofs only [e0, evs_, Option.bind_some, List.getElem?_cons_zero, List.getElem?_cons_succ, List.set_cons_zero, List.set_cons_succ, List.map_cons, List.map_nil, List.cons_append, List.nil_append, List.length_cons, List.length_nil, Nat.reduceAdd, Nat.reduceSub, Nat.reduceLeDiff, Nat.reduceLT, Bool.not_true, Bool.not_false, decide_true, decide_false]) fun i hi => ?_
    have sh := is_shot_eq (S.sh i (List.mem_range.mp hi))
    have g1 : ((wipeE ρ [1]).set 1 (vl (shD (e i).s)))[1]? = some (vl (shD (e i).s)) := List.getElem?_set_self (by rw [wipeE_length]; omega)
    generalize (wipeE ρ [1]).set 1 (vl (shD (e i).s)) = ρ2 at g1 ⊢
    generalize shD (e i).s = d at *
    simp -implicitDefEqProofs only [g1, sh, evs_, Option.bind_some, List.getElem?_cons_zero, List.getElem?_cons_succ, List.set_cons_zero, List.set_cons_succ, List.map_cons, List.map_nil, List.cons_append, List.nil_append, List.length_cons, List.length_nil, Nat.reduceAdd, Nat.reduceSub, Nat.reduceLeDiff, Nat.reduceLT, Bool.not_true, Bool.not_false, decide_true, decide_false]
  generalize shotsD n e = ds at *
  simp -implicitDefEqProofs only [sem_are_shots, b_are_shots, it, ln, c1, c2, evs_, Option.bind_some, List.getElem?_cons_zero, List.getElem?_cons_succ, List.set_cons_zero, List.set_cons_succ, List.map_cons, List.map_nil, List.cons_append, List.nil_append, List.length_cons, List.length_nil, Nat.reduceAdd, Nat.reduceSub, Nat.reduceLeDiff, Nat.reduceLT, Bool.not_true, Bool.not_false, decide_true, decide_false]
  rw [lc _ rfl rfl]
  simp -implicitDefEqProofs only [evs_, Option.bind_some, List.getElem?_cons_zero, List.getElem?_cons_succ, List.set_cons_zero, List.set_cons_succ, List.map_cons, List.map_nil, List.cons_append, List.nil_append, List.length_cons, List.length_nil, Nat.reduceAdd, Nat.reduceSub, Nat.reduceLeDiff, Nat.reduceLT, Bool.not_true, Bool.not_false, decide_true, decide_false]
  rfl
theorem are_places_eq {n : Nat} {e : Nat → Ps} (S : Scn n e) : sem_are_places [shotsD n e, placesD n e] = .ok (.bool true) := by
  have it : isiO isTup (.ok (placesD n e)) = .ok (.bool true) := rfl
  have ln : lenF [shotsD n e] = some (.int (n : Int)) := by
    unfold shotsD
    rw [f_len_t, List.length_map, List.length_range]
  have lp : lenF [placesD n e] = some (.int (n : Int)) := by
    unfold placesD
    rw [f_len_t, List.length_map, List.length_range]
  have nn := f_neI (n : Int) (n : Int)
  rw [decide_eq_true rfl] at nn
  have go : ∀ (is : List Nat) (o2 : Option Sl), (∀ i ∈ is, i < n) → ∃ q2 : Option Sl, forGo (.nm 2) lp_are_places_1 (is.map fun i => plcD (e i)) [vl (shotsD n e), vl (placesD n e), o2, none] = .nx [vl (shotsD n e), vl (placesD n e), q2, none] := by
    intro is
    induction is with
    | nil => intro o2 _; exact ⟨o2, rfl⟩
    | cons i is ih =>
      intro o2 hi
      have px := S.px i (hi i (by simp))
      have py := S.py i (hi i (by simp))
      obtain ⟨q2, q⟩ := ih (vl (plcD (e i))) fun j hj => hi j (by simp [hj])
      refine ⟨q2, ?_⟩
      rw [List.map_cons]
      refine (forGo_nx (ρ2 := [vl (shotsD n e), vl (placesD n e), vl (plcD (e i)), none]) ?_).trans q
      have t2 : isiO isTup (.ok (plcD (e i))) = .ok (.bool true) := rfl
      have l2 : lenF [plcD (e i)] = some (.int 2) := rfl
      have n2 : neF (.int 2) (.int 2) = some (.bool false) := by rw [f_neI]; rfl
      have lc : ∀ ρ : En, ρ.length = 4 → ρ[2]? = some (vl (plcD (e i))) → eLc [3] (iSeq (eV 2)) (.nm 3) (gNot (gTru (eCall sem_is_within [(eV 3), (eC (.int 0)), (eC (.int 99))]))) (eV 3) ρ = .ok (.list []) := by
        intro ρ hl e2
        refine eLc_noneA [(e i).x, (e i).y] PyData.int (by unfold plcD at e2; simp -implicitDefEqProofs only [e2, evs_, Option.bind_some, List.getElem?_cons_zero, List.getElem?_cons_succ, List.set_cons_zero, List.set_cons_succ, List.map_cons, List.map_nil, List.cons_append, List.nil_append, List.length_cons, List.length_nil, Nat.reduceAdd, Nat.reduceSub, Nat.reduceLeDiff, Nat.reduceLT, Bool.not_true, Bool.not_false, decide_true, decide_false]) fun z hz => ?_
        have w := is_within_eq z 0 99
        have hz' : 0 ≤ z ∧ z ≤ 99 := by
          simp -implicitDefEqProofs only [List.mem_cons, List.not_mem_nil, or_false] at hz
          rcases hz with rfl | rfl <;> omega
        rw [decide_eq_true hz'] at w
        have g3 : ((wipeE ρ [3]).set 3 (vl (.int z)))[3]? = some (vl (.int z)) := List.getElem?_set_self (by rw [wipeE_length]; omega)
        generalize (wipeE ρ [3]).set 3 (vl (.int z)) = ρ2 at g3 ⊢
        simp -implicitDefEqProofs only [g3, w, evs_, Option.bind_some, List.getElem?_cons_zero, List.getElem?_cons_succ, List.set_cons_zero, List.set_cons_succ, List.map_cons, List.map_nil, List.cons_append, List.nil_append, List.length_cons, List.length_nil, Nat.reduceAdd, Nat.reduceSub, Nat.reduceLeDiff, Nat.reduceLT, Bool.not_true, Bool.not_false, decide_true, decide_false]
      generalize shotsD n e = ds at *
      generalize placesD n e = dp at *
      generalize plcD (e i) = dc at *
      simp -implicitDefEqProofs only [lp_are_places_1, t2, l2, n2, evs_, Option.bind_some, List.getElem?_cons_zero, List.getElem?_cons_succ, List.set_cons_zero, List.set_cons_succ, List.map_cons, List.map_nil, List.cons_append, List.nil_append, List.length_cons, List.length_nil, Nat.reduceAdd, Nat.reduceSub, Nat.reduceLeDiff, Nat.reduceLT, Bool.not_true, Bool.not_false, decide_true, decide_false]
      rw [lc _ rfl rfl]
      simp -implicitDefEqProofs only [List.isEmpty_nil, evs_, Option.bind_some, List.getElem?_cons_zero, List.getElem?_cons_succ, List.set_cons_zero, List.set_cons_succ, List.map_cons, List.map_nil, List.cons_append, List.nil_append, List.length_cons, List.length_nil, Nat.reduceAdd, Nat.reduceSub, Nat.reduceLeDiff, Nat.reduceLT, Bool.not_true, Bool.not_false, decide_true, decide_false]
  obtain ⟨q2, g⟩ := go (List.range n) none fun i hi => List.mem_range.mp hi
  have its : (Rs.ok (placesD n e)).items itF = .ok ((List.range n).map fun i => plcD (e i)) := rfl
  generalize shotsD n e = ds at *
  generalize placesD n e = dp at *
  simp -implicitDefEqProofs only [sem_are_places, b_are_places, it, ln, lp, nn, its, g, evs_, Option.bind_some, List.getElem?_cons_zero, List.getElem?_cons_succ, List.set_cons_zero, List.set_cons_succ, List.map_cons, List.map_nil, List.cons_append, List.nil_append, List.length_cons, List.length_nil, Nat.reduceAdd, Nat.reduceSub, Nat.reduceLeDiff, Nat.reduceLT, Bool.not_true, Bool.not_false, decide_true, decide_false]
theorem look_places_eq {n : Nat} {e : Nat → Ps} (S : Scn n e) : sem_look_places [shotsD n e, placesD n e] = .ok .none := by
  have a := are_shots_eq S
  have b := are_places_eq S
  generalize shotsD n e = ds at *
  generalize placesD n e = dp at *
  have l : sem_look_all [ds] = .ok .none := by simp -implicitDefEqProofs only [sem_look_all, b_look_all, a, evs_, Option.bind_some, List.getElem?_cons_zero, List.getElem?_cons_succ, List.set_cons_zero, List.set_cons_succ, List.map_cons, List.map_nil, List.cons_append, List.nil_append, List.length_cons, List.length_nil, Nat.reduceAdd, Nat.reduceSub, Nat.reduceLeDiff, Nat.reduceLT, Bool.not_true, Bool.not_false, decide_true, decide_false]
  simp -implicitDefEqProofs only [sem_look_places, b_look_places, l, b, evs_, Option.bind_some, List.getElem?_cons_zero, List.getElem?_cons_succ, List.set_cons_zero, List.set_cons_succ, List.map_cons, List.map_nil, List.cons_append, List.nil_append, List.length_cons, List.length_nil, Nat.reduceAdd, Nat.reduceSub, Nat.reduceLeDiff, Nat.reduceLT, Bool.not_true, Bool.not_false, decide_true, decide_false]
section
variable {n : Nat} {e : Nat → Ps} {X : Nat → Rat} {N M : Nat}
/-! ### the law's -/
end
end VVlaw

set_option Elab.async false
set_option linter.all false
set_option maxRecDepth 100000
set_option maxHeartbeats 4000000
/-! PLs: the ground and the scene of the laws. -/
namespace VVlaw
open PySem PySem.Spec L2 VV
open PyProof.Rows hiding St
/-- a ground: twelve rows of fourteen levels below two hundred -/
structure Gr (g : List (List Int)) : Prop where
  len : g.length = 12
  row : ∀ r ∈ g, r.length = 14
  lev : ∀ r ∈ g, ∀ v ∈ r, 0 ≤ v ∧ v < 200
theorem ground_eq (ns : List Int) (t : Int) (h0 : 0 ≤ t) : ∃ g, sem__law_ground [rdL ns, .int t] = .ok (shD g) ∧ Gr g := by
  obtain ⟨r, er, R⟩ := law_row_eq ns t h0
  have i0 : ixF (.list (r.map PyData.int)) (.int 0) = some (.int (r.getD 0 0)) := R.at 0 (by decide) (by decide)
  have i1 : ixF (.list (r.map PyData.int)) (.int 1) = some (.int (r.getD 1 0)) := R.at 1 (by decide) (by decide)
  obtain ⟨by_, eby, hby⟩ := pick3 1 7 13 (r.getD 0 0)
  have b1 := R.bdAt 1
  generalize r.getD 1 0 = r1 at *
  have er12 : (RL.ok [.int 12]).items rng1 = .ok (rangeD 0 12) := rng1_ok 12 (by decide) (by decide)
  have er14 : (RL.ok [.int 14]).items rng1 = .ok (rangeD 0 14) := rng1_ok 14 (by decide) (by decide)
  obtain ⟨ρ', e, G, o5, o6, o7, o8, rfl, hG, hq⟩ := forGo_rng (i := 5) (lo := 0) (n := 12) (f := lp__law_ground_2)
    (fun k ρ => ∃ (G : List (List Int)) (o5 o6 o7 o8 : Option Sl), ρ = [some (.val (rdL ns)), some (.val (.int t)), some (.val (.list (r.map PyData.int))), some (.val (.int by_)), some (.own (.list (G.map rowD))), o5, o6, o7, o8] ∧ G.length = k ∧ ∀ q ∈ G, q.length = 14 ∧ ∀ z ∈ q, 0 ≤ z ∧ z < 200)
    (ρ := [some (.val (rdL ns)), some (.val (.int t)), some (.val (.list (r.map PyData.int))), some (.val (.int by_)), some (.own (.list [])), none, none, none, none]) ⟨[], none, none, none, none, rfl, rfl, by simp⟩ (by
      rintro k ρ hk ⟨G, o5, o6, o7, o8, rfl, hG, hq⟩
      obtain ⟨ρ2, e2, L, p7, p8, rfl, hL, hz⟩ := forGo_rng (i := 7) (lo := 0) (n := 14) (f := lp__law_ground_1)
        (fun j ρ => ∃ (L : List Int) (o7 o8 : Option Sl), ρ = [some (.val (rdL ns)), some (.val (.int t)), some (.val (.list (r.map PyData.int))), some (.val (.int by_)), some (.own (.list (G.map rowD))), some (.val (.int (0 + (k : Int)))), some (.own (.list (L.map PyData.int))), o7, o8] ∧ L.length = j ∧ ∀ z ∈ L, 0 ≤ z ∧ z < 200)
        (ρ := [some (.val (rdL ns)), some (.val (.int t)), some (.val (.list (r.map PyData.int))), some (.val (.int by_)), some (.own (.list (G.map rowD))), some (.val (.int (0 + (k : Int)))), some (.own (.list [])), o7, o8]) ⟨[], o7, o8, rfl, rfl, by simp⟩ (by
          rintro j ρ hj ⟨L, p7, p8, rfl, hL, hz⟩
          have hlen : (L.map PyData.int).length < 16777216 := by rw [List.length_map]; omega
          have m1 : mulF (.int 5) (.int (0 + (k : Int))) = some (.int (5 * (0 + (k : Int)))) := f_mul _ _ (.inl (by decide))
          have m2 : mulF (.int 3) (.int (0 + (j : Int))) = some (.int (3 * (0 + (j : Int)))) := f_mul _ _ (.inl (by decide))
          have i3 : ixF (.list (r.map PyData.int)) (.int ((5 * (0 + (k : Int)) + 3 * (0 + (j : Int))) % 60)) = some (.int (r.getD ((5 * (0 + (k : Int)) + 3 * (0 + (j : Int))) % 60).toNat 0)) := R.at _ (by omega) (by omega)
          generalize r.getD ((5 * (0 + (k : Int)) + 3 * (0 + (j : Int))) % 60).toNat 0 = one at i3
          have m3 : mulF (.int one) (.int by_) = some (.int (one * by_)) := f_mul _ _ (.inr (by omega))
          have m4 : mulF (.int (0 + (j : Int))) (.int r1) = some (.int ((0 + (j : Int)) * r1)) := f_mul _ _ (.inr (by omega))
          have m5 : mulF (.int (0 + (k : Int))) (.int 11) = some (.int ((0 + (k : Int)) * 11)) := f_mul _ _ (.inr (by decide))
          simp -implicitDefEqProofs only [lp__law_ground_1, m1, m2, f_modP _ 60 (by decide), i3, m3, i1, m4, m5, f_modP _ 200 (by decide), appO_ok _ _ _ _ hlen, evs_, Option.bind_some, List.getElem?_cons_zero, List.getElem?_cons_succ, List.set_cons_zero, List.set_cons_succ, List.map_cons, List.map_nil, List.cons_append, List.nil_append, List.length_cons, List.length_nil, Nat.reduceAdd, Nat.reduceSub, Nat.reduceLeDiff, Nat.reduceLT, Bool.not_true, Bool.not_false, decide_true, decide_false]
          refine ⟨_, rfl, L ++ [(one * by_ + (0 + (j : Int)) * r1 + (0 + (k : Int)) * 11) % 200], some (.val (.int (0 + (j : Int)))), some (.val (.int (one * by_))), ?_, by simp [hL], ?_⟩
          · rw [List.map_append]; rfl
          · intro z hz'
            rw [List.mem_append] at hz'
            rcases hz' with hz' | hz'
            · exact hz z hz'
            · simp -implicitDefEqProofs only [List.mem_singleton] at hz'
              subst hz'
              omega)
      have hlen : (G.map rowD).length < 16777216 := by rw [List.length_map]; omega
      simp -implicitDefEqProofs only [lp__law_ground_2, er14, e2, appO_ok _ _ _ _ hlen, evs_, Option.bind_some, List.getElem?_cons_zero, List.getElem?_cons_succ, List.set_cons_zero, List.set_cons_succ, List.map_cons, List.map_nil, List.cons_append, List.nil_append, List.length_cons, List.length_nil, Nat.reduceAdd, Nat.reduceSub, Nat.reduceLeDiff, Nat.reduceLT, Bool.not_true, Bool.not_false, decide_true, decide_false]
      refine ⟨_, rfl, G ++ [L], some (.val (.int (0 + (k : Int)))), some (.own (.list (L.map PyData.int))), p7, p8, ?_, by simp [hG], ?_⟩
      · rw [List.map_append]; rfl
      · intro q hq'
        rw [List.mem_append] at hq'
        rcases hq' with hq' | hq'
        · exact hq q hq'
        · simp -implicitDefEqProofs only [List.mem_singleton] at hq'
          subst hq'
          exact ⟨hL, hz⟩)
  refine ⟨G, ?_, hG, fun q h => (hq q h).1, fun q h => (hq q h).2⟩
  simp -implicitDefEqProofs only [sem__law_ground, b__law_ground, er, i0, f_modP _ 3 (by decide), eby, er12, e, evs_, Option.bind_some, List.getElem?_cons_zero, List.getElem?_cons_succ, List.set_cons_zero, List.set_cons_succ, List.map_cons, List.map_nil, List.cons_append, List.nil_append, List.length_cons, List.length_nil, Nat.reduceAdd, Nat.reduceSub, Nat.reduceLeDiff, Nat.reduceLT, Bool.not_true, Bool.not_false, decide_true, decide_false]
  rfl
/-! the scene -/
/-- a place and a size -/
abbrev Pc := (Int × Int) × (Int × Int)
def wyD (z : Int × Int) : D := .tuple [.int z.1, .int z.2]
theorem bT_wy (i j : Nat) (z : Int × Int) (ρ : En) : bindT (.tp [.nm i, .nm j]) (wyD z) ρ = some ((ρ.set i (some (.val (.int z.1)))).set j (some (.val (.int z.2)))) := by
  simp -implicitDefEqProofs only [wyD, bT_tp, bTs_cons, bTs_nil, bT_nm, Option.bind_some]
theorem ix_wy0 (z : Int × Int) : ixF (wyD z) (.int 0) = some (.int z.1) := f_ix0 _ _
theorem ix_wy1 (z : Int × Int) : ixF (wyD z) (.int 1) = some (.int z.2) := f_ix1 _ _ _
structure PcOk (e : Pc) : Prop where
  x0 : 0 ≤ e.1.1
  y0 : 0 ≤ e.1.2
  w1 : 3 ≤ e.2.1
  w2 : e.2.1 ≤ 6
  h1 : 3 ≤ e.2.2
  h2 : e.2.2 ≤ 5
  xw : e.1.1 + e.2.1 ≤ 14
  yh : e.1.2 + e.2.2 ≤ 12
/-- a box of the ground with more light -/
def cutLit (g : List (List Int)) (e : Pc) (m : Int) : List (List Int) := ((g.drop e.1.2.toNat).take e.2.2.toNat).map fun r => ((r.drop e.1.1.toNat).take e.2.1.toNat).map fun v => v + m
theorem cutLit_sh {g : List (List Int)} (G : Gr g) {e : Pc} (E : PcOk e) {m : Int} (h0 : 0 ≤ m) (h1 : m ≤ 55) : Sh (cutLit g e m) e.2.2.toNat e.2.1.toNat where
  len := by
    have := E.y0; have := E.yh; have := E.h1; have := G.len
    unfold cutLit
    rw [List.length_map, List.length_take, List.length_drop]
    omega
  h1 := by have := E.h1; omega
  h2 := by have := E.h2; omega
  w1 := by have := E.w1; omega
  w2 := by have := E.w2; omega
  row := fun r hr => by
    obtain ⟨q, hq, rfl⟩ := List.mem_map.mp hr
    have := G.row q (List.mem_of_mem_drop (List.mem_of_mem_take hq))
    have := E.x0; have := E.xw; have := E.w1
    rw [List.length_map, List.length_take, List.length_drop]
    omega
  lev := fun r hr v hv => by
    obtain ⟨q, hq, rfl⟩ := List.mem_map.mp hr
    obtain ⟨z, hz, rfl⟩ := List.mem_map.mp hv
    have := G.lev q (List.mem_of_mem_drop (List.mem_of_mem_take hq)) z (List.mem_of_mem_drop (List.mem_of_mem_take hz))
    omega
/-- how much more light the shot of a number has -/
def more (r : List Int) (i : Nat) : Int := if r.getD 34 0 % 2 = 0 then r.getD (35 + i) 0 % 41 else 0
theorem more_bd (r : List Int) (i : Nat) : 0 ≤ more r i ∧ more r i ≤ 40 := by
  unfold more
  split <;> omega
def litBoxes (g : List (List Int)) (r : List Int) (P : List Pc) : List (List (List Int)) := P.mapIdx fun i e => cutLit g e (more r i)
theorem litBoxes_snoc (g : List (List Int)) (r : List Int) (P : List Pc) (e : Pc) : litBoxes g r (P ++ [e]) = litBoxes g r P ++ [cutLit g e (more r P.length)] := by
  unfold litBoxes
  rw [List.mapIdx_append]
  simp
theorem litBoxes_length (g : List (List Int)) (r : List Int) (P : List Pc) : (litBoxes g r P).length = P.length := by simp [litBoxes]
theorem min_ex {L : List Int} (h : L ≠ []) : ∃ m, best1F min [.list (L.map PyData.int)] = some (.int m) ∧ m ∈ L ∧ ∀ y ∈ L, m ≤ y := by
  cases L with
  | nil => exact absurd rfl h
  | cons x L =>
    obtain ⟨h1, h2⟩ := foldl_min L x
    exact ⟨_, f_best_l min x L, h1, h2⟩
/-- one more place and size -/
theorem scene_go {r : List Int} (R : Rw r) (z0 z1 z2 : Option Sl) (n : Nat) (hn : n ≤ 4) (e0 : Pc) (E0 : PcOk e0) : ∃ (P : List Pc) (o6 o7 o8 o9 o10 o11 : Option Sl), P.length = n + 1 ∧ (∀ e ∈ P, PcOk e) ∧
    forGo (.nm 6) lp__law_scene_1 (rangeD 0 n) [z0, z1, z2, some (.val (.list (r.map PyData.int))), some (.own (.list ([e0].map fun e => wyD e.1))), some (.own (.list ([e0].map fun e => wyD e.2))), none, none, none, none, none, none, none, none, none, none, none, none, none] =
      .nx [z0, z1, z2, some (.val (.list (r.map PyData.int))), some (.own (.list (P.map fun e => wyD e.1))), some (.own (.list (P.map fun e => wyD e.2))), o6, o7, o8, o9, o10, o11, none, none, none, none, none, none, none] := by
  obtain ⟨ρ', e, P, o6, o7, o8, o9, o10, o11, rfl, hP, hok⟩ := forGo_rng (i := 6) (lo := 0) (n := n) (f := lp__law_scene_1)
    (fun k ρ => ∃ (P : List Pc) (o6 o7 o8 o9 o10 o11 : Option Sl), ρ = [z0, z1, z2, some (.val (.list (r.map PyData.int))), some (.own (.list (P.map fun e => wyD e.1))), some (.own (.list (P.map fun e => wyD e.2))), o6, o7, o8, o9, o10, o11, none, none, none, none, none, none, none] ∧ P.length = k + 1 ∧ ∀ e ∈ P, PcOk e)
    (ρ := [z0, z1, z2, some (.val (.list (r.map PyData.int))), some (.own (.list ([e0].map fun e => wyD e.1))), some (.own (.list ([e0].map fun e => wyD e.2))), none, none, none, none, none, none, none, none, none, none, none, none, none]) ⟨[e0], none, none, none, none, none, none, rfl, rfl, by simpa using E0⟩ (by
      rintro k ρ hk ⟨P, o6, o7, o8, o9, o10, o11, rfl, hP, hok⟩
      have z0k : (0 : Int) + (k : Nat) = (k : Int) := by omega
      have m6 : mulF (.int 6) (.int (k : Int)) = some (.int (6 * (k : Int))) := f_mul _ _ (.inl (by decide))
      have at_ : ∀ j : Int, 0 ≤ j → j < 60 → ∃ v, ixF (.list (r.map PyData.int)) (.int j) = some (.int v) ∧ 0 ≤ v ∧ v < 1000 := fun j h0 h => ⟨_, R.at j h0 h, R.bdAt _⟩
      obtain ⟨v0, q0, b0⟩ := at_ (5 + 6 * (k : Int)) (by omega) (by omega)
      obtain ⟨v1, q1, b1⟩ := at_ (5 + 6 * (k : Int) + 1) (by omega) (by omega)
      obtain ⟨v2, q2, b2⟩ := at_ (5 + 6 * (k : Int) + 2) (by omega) (by omega)
      obtain ⟨v3, q3, b3⟩ := at_ (5 + 6 * (k : Int) + 3) (by omega) (by omega)
      obtain ⟨v4, q4, b4⟩ := at_ (5 + 6 * (k : Int) + 4) (by omega) (by omega)
      have lp : ((P.length : Nat) : Int) = (k : Int) + 1 := by omega
      have mm : modF (.int v0) (.int ((k : Int) + 1)) = some (.int (v0 % ((k : Int) + 1))) := f_modP _ _ (by omega)
      have r0 := Int.emod_nonneg v0 (show (k : Int) + 1 ≠ 0 by omega)
      have r1 := Int.emod_lt_of_pos v0 (show 0 < (k : Int) + 1 by omega)
      have li : (v0 % ((k : Int) + 1)).toNat < P.length := by omega
      have pick := ix_map_l (fun e : Pc => wyD e.1) P (v0 % ((k : Int) + 1)) r0 li
      have ok := hok _ (List.getElem_mem li)
      generalize P[(v0 % ((k : Int) + 1)).toNat] = pe at pick ok
      have x0 := ok.x0
      have y0 := ok.y0
      have hl1 : (P.map fun e : Pc => wyD e.1).length < 16777216 := by rw [List.length_map]; omega
      have hl2 : (P.map fun e : Pc => wyD e.2).length < 16777216 := by rw [List.length_map]; omega
      generalize hx : max (pe.1.1 + v3 % 7 - 3) 0 = x'
      generalize hy : max (pe.1.2 + v4 % 5 - 2) 0 = y'
      refine ⟨_, by simp -implicitDefEqProofs only [lp__law_scene_1, z0k, m6, q0, q1, q2, q3, q4, List.length_map, lp, mm, pick, bT_wy, f_modP _ 4 (by decide), f_modP _ 3 (by decide), f_modP _ 7 (by decide), f_modP _ 5 (by decide), hx, hy, appO_ok _ _ _ _ hl1, appO_ok _ _ _ _ hl2, evs_, Option.bind_some, List.getElem?_cons_zero, List.getElem?_cons_succ, List.set_cons_zero, List.set_cons_succ, List.map_cons, List.map_nil, List.cons_append, List.nil_append, List.length_cons, List.length_nil, Nat.reduceAdd, Nat.reduceSub, Nat.reduceLeDiff, Nat.reduceLT, Bool.not_true, Bool.not_false, decide_true, decide_false]; rfl, P ++ [((min x' (14 - (3 + v1 % 4)), min y' (12 - (3 + v2 % 3))), (3 + v1 % 4, 3 + v2 % 3))], some (.val (.int (k : Int))), some (.val (.int (5 + 6 * (k : Int)))), some (.val (.int x')), some (.val (.int y')), some (.val (.int (3 + v1 % 4))), some (.val (.int (3 + v2 % 3))), ?_, by simp [hP], ?_⟩
      · rw [List.map_append, List.map_append]
        rfl
      · intro e he
        rcases List.mem_append.mp he with he | he
        · exact hok e he
        · simp -implicitDefEqProofs only [List.mem_singleton] at he
          subst he
          constructor <;> simp -implicitDefEqProofs only <;> omega)
  exact ⟨P, o6, o7, o8, o9, o10, o11, hP, hok, e⟩
/-- the shots -/
theorem shots_go {g : List (List Int)} (G : Gr g) {r : List Int} (R : Rw r) (z0 z1 z4 z5 z6 z7 : Option Sl) (P : List Pc) (hP : P.length ≤ 5) (hok : ∀ e ∈ P, PcOk e) (o8 o9 o10 o11 : Option Sl) : ∃ p8 p9 p10 p11 p13 : Option Sl,
    forGo (.tp [(.tp [(.nm 8), (.nm 9)]), (.tp [(.nm 10), (.nm 11)])]) lp__law_scene_2 (P.map fun e => .tuple [wyD e.1, wyD e.2]) [z0, z1, some (.val (shD g)), some (.val (.list (r.map PyData.int))), z4, z5, z6, z7, o8, o9, o10, o11, some (.own (.list [])), none, none, none, none, none, none] =
      .nx [z0, z1, some (.val (shD g)), some (.val (.list (r.map PyData.int))), z4, z5, z6, z7, p8, p9, p10, p11, some (.own (.list ((litBoxes g r P).map shD))), p13, none, none, none, none, none] := by
  have go := forGo_fold (t := .tp [(.tp [(.nm 8), (.nm 9)]), (.tp [(.nm 10), (.nm 11)])]) (f := lp__law_scene_2) (fun e : Pc => PyData.tuple [wyD e.1, wyD e.2])
    (fun s : List Pc × Option Sl × Option Sl × Option Sl × Option Sl × Option Sl => [z0, z1, some (.val (shD g)), some (.val (.list (r.map PyData.int))), z4, z5, z6, z7, s.2.1, s.2.2.1, s.2.2.2.1, s.2.2.2.2.1, some (.own (.list ((litBoxes g r s.1).map shD))), s.2.2.2.2.2, none, none, none, none, none])
    (fun s e => (s.1 ++ [e], some (.val (.int e.1.1)), some (.val (.int e.1.2)), some (.val (.int e.2.1)), some (.val (.int e.2.2)), some (.val (.int (more r s.1.length)))))
    (fun s rest => s.1 ++ rest = P) (by
      rintro ⟨Q, s8, s9, s10, s11, s13⟩ e rest hQ
      dsimp only at hQ ⊢
      have me : e ∈ P := by rw [← hQ]; simp
      have E := hok e me
      have hlQ : Q.length < 5 := by
        have := congrArg List.length hQ
        rw [List.length_append, List.length_cons] at this
        omega
      have i34 : ixF (.list (r.map PyData.int)) (.int 34) = some (.int (r.getD 34 0)) := R.at 34 (by decide) (by decide)
      have i35 : ixF (.list (r.map PyData.int)) (.int (35 + (Q.length : Int))) = some (.int (r.getD (35 + Q.length) 0)) := by
        have := R.at (35 + (Q.length : Int)) (by omega) (by omega)
        rw [this]
        congr 3
      have hrows : slF (shD g) (some e.1.2) (some (e.1.2 + e.2.2)) = some (.tuple (((g.drop e.1.2.toNat).take e.2.2.toNat).map rowD)) := by
        have := sl_t rowD g e.1.2 (e.1.2 + e.2.2) E.y0 (by have := E.h1; omega) (by rw [G.len]; have := E.yh; omega)
        rw [show e.1.2 + e.2.2 - e.1.2 = e.2.2 by omega] at this
        exact this
      have hl : ((litBoxes g r Q).map shD).length < 16777216 := by rw [List.length_map, litBoxes_length]; omega
      have comp : ∀ q4 q5 q6 q7 q0 q1 q3 q12 q14 q15 q16 q17 q18 : Option Sl, eLc [17] (iSeq (eSl (eV 2) (some (eV 9)) (some (eOp addF (eV 9) (eV 11))))) (.nm 17) (eC (.bool true)) (eCB tupF [(eLc [18] (iSeq (eSl (eV 17) (some (eV 8)) (some (eOp addF (eV 8) (eV 10))))) (.nm 18) (eC (.bool true)) (eOp addF (eV 18) (eV 13)))])
          [q0, q1, some (.val (shD g)), q3, q4, q5, q6, q7, some (.val (.int e.1.1)), some (.val (.int e.1.2)), some (.val (.int e.2.1)), some (.val (.int e.2.2)), q12, some (.val (.int (more r Q.length))), q14, q15, q16, q17, q18] = .ok (.list ((cutLit g e (more r Q.length)).map rowD)) := by
        intro q4 q5 q6 q7 q0 q1 q3 q12 q14 q15 q16 q17 q18
        rw [eLc_mapA ((g.drop e.1.2.toNat).take e.2.2.toNat) rowD (fun q => rowD (((q.drop e.1.1.toNat).take e.2.1.toNat).map fun v => v + more r Q.length)) (by simp -implicitDefEqProofs only [hrows, evs_, Option.bind_some, List.getElem?_cons_zero, List.getElem?_cons_succ, List.set_cons_zero, List.set_cons_succ, List.map_cons, List.map_nil, List.cons_append, List.nil_append, List.length_cons, List.length_nil, Nat.reduceAdd, Nat.reduceSub, Nat.reduceLeDiff, Nat.reduceLT, Bool.not_true, Bool.not_false, decide_true, decide_false]) (by rw [List.length_take, List.length_drop, G.len]; omega) (by
          intro q hq
          have hq' : q ∈ g := List.mem_of_mem_drop (List.mem_of_mem_take hq)
          have hcols : slF (rowD q) (some e.1.1) (some (e.1.1 + e.2.1)) = some (.tuple (((q.drop e.1.1.toNat).take e.2.1.toNat).map PyData.int)) := by
            have := sl_t PyData.int q e.1.1 (e.1.1 + e.2.1) E.x0 (by have := E.w1; omega) (by rw [G.row q hq']; have := E.xw; omega)
            rw [show e.1.1 + e.2.1 - e.1.1 = e.2.1 by omega] at this
            exact this
          refine ⟨rfl, ?_⟩
          simp -implicitDefEqProofs only [evs_, Option.bind_some, List.getElem?_cons_zero, List.getElem?_cons_succ, List.set_cons_zero, List.set_cons_succ, List.map_cons, List.map_nil, List.cons_append, List.nil_append, List.length_cons, List.length_nil, Nat.reduceAdd, Nat.reduceSub, Nat.reduceLeDiff, Nat.reduceLT, Bool.not_true, Bool.not_false, decide_true, decide_false]
          rw [eLc_mapA ((q.drop e.1.1.toNat).take e.2.1.toNat) PyData.int (fun v => .int (v + more r Q.length)) (by simp -implicitDefEqProofs only [hcols, evs_, Option.bind_some, List.getElem?_cons_zero, List.getElem?_cons_succ, List.set_cons_zero, List.set_cons_succ, List.map_cons, List.map_nil, List.cons_append, List.nil_append, List.length_cons, List.length_nil, Nat.reduceAdd, Nat.reduceSub, Nat.reduceLeDiff, Nat.reduceLT, Bool.not_true, Bool.not_false, decide_true, decide_false]) (by rw [List.length_take, List.length_drop, G.row q hq']; omega) (by
            intro v hv
            refine ⟨rfl, ?_⟩
            simp -implicitDefEqProofs only [evs_, Option.bind_some, List.getElem?_cons_zero, List.getElem?_cons_succ, List.set_cons_zero, List.set_cons_succ, List.map_cons, List.map_nil, List.cons_append, List.nil_append, List.length_cons, List.length_nil, Nat.reduceAdd, Nat.reduceSub, Nat.reduceLeDiff, Nat.reduceLT, Bool.not_true, Bool.not_false, decide_true, decide_false])]
          simp -implicitDefEqProofs only [evs_, Option.bind_some, List.getElem?_cons_zero, List.getElem?_cons_succ, List.set_cons_zero, List.set_cons_succ, List.map_cons, List.map_nil, List.cons_append, List.nil_append, List.length_cons, List.length_nil, Nat.reduceAdd, Nat.reduceSub, Nat.reduceLeDiff, Nat.reduceLT, Bool.not_true, Bool.not_false, decide_true, decide_false]
          unfold rowD
          rw [List.map_map]
          rfl)]
        unfold cutLit
        rw [List.map_map]
        rfl
      refine ⟨_, by simp -implicitDefEqProofs only [bT_wy, evs_, Option.bind_some, List.getElem?_cons_zero, List.getElem?_cons_succ, List.set_cons_zero, List.set_cons_succ, List.map_cons, List.map_nil, List.cons_append, List.nil_append, List.length_cons, List.length_nil, Nat.reduceAdd, Nat.reduceSub, Nat.reduceLeDiff, Nat.reduceLT, Bool.not_true, Bool.not_false, decide_true, decide_false]; rfl, ?_, by rw [← hQ, List.append_assoc]; rfl⟩
      by_cases c : r.getD 34 0 % 2 = 0
      · have em : more r Q.length = r.getD (35 + Q.length) 0 % 41 := by unfold more; rw [if_pos c]
        rw [em] at comp
        simp -implicitDefEqProofs only [lp__law_scene_2, i34, f_modP _ 2 (by decide), c, List.length_map, litBoxes_length, i35, f_modP _ 41 (by decide), comp, appO_ok _ _ _ _ hl, evs_, Option.bind_some, List.getElem?_cons_zero, List.getElem?_cons_succ, List.set_cons_zero, List.set_cons_succ, List.map_cons, List.map_nil, List.cons_append, List.nil_append, List.length_cons, List.length_nil, Nat.reduceAdd, Nat.reduceSub, Nat.reduceLeDiff, Nat.reduceLT, Bool.not_true, Bool.not_false, decide_true, decide_false]
        rw [litBoxes_snoc, em, List.map_append]
        rfl
      · have em : more r Q.length = 0 := by unfold more; rw [if_neg c]
        rw [em] at comp
        simp -implicitDefEqProofs only [lp__law_scene_2, i34, f_modP _ 2 (by decide), c, comp, appO_ok _ _ _ _ hl, evs_, Option.bind_some, List.getElem?_cons_zero, List.getElem?_cons_succ, List.set_cons_zero, List.set_cons_succ, List.map_cons, List.map_nil, List.cons_append, List.nil_append, List.length_cons, List.length_nil, Nat.reduceAdd, Nat.reduceSub, Nat.reduceLeDiff, Nat.reduceLT, Bool.not_true, Bool.not_false, decide_true, decide_false]
        rw [litBoxes_snoc, em, List.map_append]
        rfl)
    P ([], o8, o9, o10, o11, none) rfl
  obtain ⟨go, hfin⟩ := go
  dsimp only at hfin go
  generalize hs : List.foldl _ _ P = s at go hfin
  rw [List.append_nil] at hfin
  refine ⟨s.2.1, s.2.2.1, s.2.2.2.1, s.2.2.2.2.1, s.2.2.2.2.2, ?_⟩
  rw [hfin] at go
  exact go
theorem scene_eq (ns : List Int) (t : Int) (h0 : 0 ≤ t) : ∃ (g : List (List Int)) (r : List Int) (P : List Pc) (lx ly : Int), sem__law_ground [rdL ns, .int t] = .ok (shD g) ∧ Gr g ∧ 2 ≤ P.length ∧ P.length ≤ 5 ∧ (∀ e ∈ P, PcOk e) ∧
    ((∃ e ∈ P, e.1.1 = lx) ∧ ∀ e ∈ P, lx ≤ e.1.1) ∧ ((∃ e ∈ P, e.1.2 = ly) ∧ ∀ e ∈ P, ly ≤ e.1.2) ∧
    sem__law_scene [rdL ns, .int t] = .ok (.tuple [.tuple ((litBoxes g r P).map shD), .tuple (P.map fun e => wyD (e.1.1 - lx, e.1.2 - ly))]) := by
  obtain ⟨g, eg, G⟩ := ground_eq ns t h0
  obtain ⟨r, er, R⟩ := law_row_eq ns (t + 1) (by omega)
  have at_ : ∀ j : Int, 0 ≤ j → j < 60 → ∃ v, ixF (.list (r.map PyData.int)) (.int j) = some (.int v) ∧ 0 ≤ v ∧ v < 1000 := fun j h0 h => ⟨_, R.at j h0 h, R.bdAt _⟩
  obtain ⟨v0, q0, b0⟩ := at_ 0 (by decide) (by decide)
  obtain ⟨v1, q1, b1⟩ := at_ 1 (by decide) (by decide)
  obtain ⟨v2, q2, b2⟩ := at_ 2 (by decide) (by decide)
  obtain ⟨v3, q3, b3⟩ := at_ 3 (by decide) (by decide)
  obtain ⟨v4, q4, b4⟩ := at_ 4 (by decide) (by decide)
  have hr4 := rng1_ok (1 + v4 % 4) (by omega) (by omega)
  obtain ⟨P, o6, o7, o8, o9, o10, o11, lP, hok, go1⟩ := scene_go R (some (.val (rdL ns))) (some (.val (.int t))) (some (.val (shD g))) (1 + v4 % 4).toNat (by omega) ((v0 % 4, v1 % 3), (3 + v2 % 4, 3 + v3 % 3)) (by constructor <;> simp -implicitDefEqProofs only <;> omega)
  obtain ⟨p8, p9, p10, p11, p13, go2⟩ := shots_go G R (some (.val (rdL ns))) (some (.val (.int t))) (some (.val (.list (P.map fun e => wyD e.1)))) (some (.val (.list (P.map fun e => wyD e.2)))) o6 o7 P (by omega) hok o8 o9 o10 o11
  have hz : zipD (P.map fun e : Pc => wyD e.1) (P.map fun e => wyD e.2) = P.map fun e => .tuple [wyD e.1, wyD e.2] := zipD_map _ _ P
  have neX : P.map (fun e : Pc => e.1.1) ≠ [] := fun z => by have := congrArg List.length z; simp at this; rw [this] at lP; simp at lP
  have neY : P.map (fun e : Pc => e.1.2) ≠ [] := fun z => by have := congrArg List.length z; simp at this; rw [this] at lP; simp at lP
  obtain ⟨lx, ex, mx, lex⟩ := min_ex neX
  obtain ⟨ly, ey, my, ley⟩ := min_ex neY
  have c1 : ∀ s0 s1 s2 s3 s5 s6 s7 s8 s9 s10 s11 s12 s13 s14 s15 s16 s17 s18 : Option Sl, eLc [16] (iSeq (eB 4)) (.nm 16) (eC (.bool true)) (eOp ixF (eV 16) (eC (.int 0))) [s0, s1, s2, s3, some (.val (.list (P.map fun e => wyD e.1))), s5, s6, s7, s8, s9, s10, s11, s12, s13, s14, s15, s16, s17, s18] = .ok (.list ((P.map fun e => e.1.1).map PyData.int)) := by
    intros
    rw [eLc_mapA P (fun e => wyD e.1) (fun e => .int e.1.1) (by simp -implicitDefEqProofs only [evs_, Option.bind_some, List.getElem?_cons_zero, List.getElem?_cons_succ, List.set_cons_zero, List.set_cons_succ, List.map_cons, List.map_nil, List.cons_append, List.nil_append, List.length_cons, List.length_nil, Nat.reduceAdd, Nat.reduceSub, Nat.reduceLeDiff, Nat.reduceLT, Bool.not_true, Bool.not_false, decide_true, decide_false]) (by omega) (by
      intro e he
      simp -implicitDefEqProofs only [ix_wy0, ix_wy1, evs_, Option.bind_some, List.getElem?_cons_zero, List.getElem?_cons_succ, List.set_cons_zero, List.set_cons_succ, List.map_cons, List.map_nil, List.cons_append, List.nil_append, List.length_cons, List.length_nil, Nat.reduceAdd, Nat.reduceSub, Nat.reduceLeDiff, Nat.reduceLT, Bool.not_true, Bool.not_false, decide_true, decide_false]
      exact ⟨trivial, trivial⟩), List.map_map]
    rfl
  have c2 : ∀ s0 s1 s2 s3 s5 s6 s7 s8 s9 s10 s11 s12 s13 s14 s15 s16 s17 s18 : Option Sl, eLc [16] (iSeq (eB 4)) (.nm 16) (eC (.bool true)) (eOp ixF (eV 16) (eC (.int 1))) [s0, s1, s2, s3, some (.val (.list (P.map fun e => wyD e.1))), s5, s6, s7, s8, s9, s10, s11, s12, s13, s14, s15, s16, s17, s18] = .ok (.list ((P.map fun e => e.1.2).map PyData.int)) := by
    intros
    rw [eLc_mapA P (fun e => wyD e.1) (fun e => .int e.1.2) (by simp -implicitDefEqProofs only [evs_, Option.bind_some, List.getElem?_cons_zero, List.getElem?_cons_succ, List.set_cons_zero, List.set_cons_succ, List.map_cons, List.map_nil, List.cons_append, List.nil_append, List.length_cons, List.length_nil, Nat.reduceAdd, Nat.reduceSub, Nat.reduceLeDiff, Nat.reduceLT, Bool.not_true, Bool.not_false, decide_true, decide_false]) (by omega) (by
      intro e he
      simp -implicitDefEqProofs only [ix_wy0, ix_wy1, evs_, Option.bind_some, List.getElem?_cons_zero, List.getElem?_cons_succ, List.set_cons_zero, List.set_cons_succ, List.map_cons, List.map_nil, List.cons_append, List.nil_append, List.length_cons, List.length_nil, Nat.reduceAdd, Nat.reduceSub, Nat.reduceLeDiff, Nat.reduceLT, Bool.not_true, Bool.not_false, decide_true, decide_false]
      exact ⟨trivial, trivial⟩), List.map_map]
    rfl
  have c3 : ∀ s0 s1 s2 s3 s5 s6 s7 s8 s9 s10 s11 s12 s13 s16 s17 s18 : Option Sl, eLc [8, 9] (iSeq (eB 4)) (.tp [(.nm 8), (.nm 9)]) (eC (.bool true)) (eTup [(eOp subF (eV 8) (eV 14)), (eOp subF (eV 9) (eV 15))]) [s0, s1, s2, s3, some (.val (.list (P.map fun e => wyD e.1))), s5, s6, s7, s8, s9, s10, s11, s12, s13, some (.val (.int lx)), some (.val (.int ly)), s16, s17, s18] = .ok (.list (P.map fun e => wyD (e.1.1 - lx, e.1.2 - ly))) := by
    intros
    rw [eLc_mapT P (fun e => wyD e.1) (fun e => wyD (e.1.1 - lx, e.1.2 - ly)) (by simp -implicitDefEqProofs only [evs_, Option.bind_some, List.getElem?_cons_zero, List.getElem?_cons_succ, List.set_cons_zero, List.set_cons_succ, List.map_cons, List.map_nil, List.cons_append, List.nil_append, List.length_cons, List.length_nil, Nat.reduceAdd, Nat.reduceSub, Nat.reduceLeDiff, Nat.reduceLT, Bool.not_true, Bool.not_false, decide_true, decide_false]) (by omega) (by
      intro e he
      refine ⟨_, by simp -implicitDefEqProofs only [bT_wy, evs_, Option.bind_some, List.getElem?_cons_zero, List.getElem?_cons_succ, List.set_cons_zero, List.set_cons_succ, List.map_cons, List.map_nil, List.cons_append, List.nil_append, List.length_cons, List.length_nil, Nat.reduceAdd, Nat.reduceSub, Nat.reduceLeDiff, Nat.reduceLT, Bool.not_true, Bool.not_false, decide_true, decide_false]; rfl, rfl, ?_⟩
      simp -implicitDefEqProofs only [evs_, Option.bind_some, List.getElem?_cons_zero, List.getElem?_cons_succ, List.set_cons_zero, List.set_cons_succ, List.map_cons, List.map_nil, List.cons_append, List.nil_append, List.length_cons, List.length_nil, Nat.reduceAdd, Nat.reduceSub, Nat.reduceLeDiff, Nat.reduceLT, Bool.not_true, Bool.not_false, decide_true, decide_false]
      rfl)]
  refine ⟨g, r, P, lx, ly, eg, G, by omega, by omega, hok, ⟨?_, fun e he => lex _ (List.mem_map_of_mem he)⟩, ⟨?_, fun e he => ley _ (List.mem_map_of_mem he)⟩, ?_⟩
  · obtain ⟨e, he, h⟩ := List.mem_map.mp mx
    exact ⟨e, he, h⟩
  · obtain ⟨e, he, h⟩ := List.mem_map.mp my
    exact ⟨e, he, h⟩
  · have w0 : ∀ a b : Int, (PyData.tuple [.int a, .int b]) = wyD (a, b) := fun _ _ => rfl
    simp -implicitDefEqProofs only [List.map_cons, List.map_nil] at go1
    simp -implicitDefEqProofs only [sem__law_scene, b__law_scene, eg, er, q0, q1, q2, q3, q4, f_modP _ 4 (by decide), f_modP _ 3 (by decide), hr4, w0, go1, ap_iZip, items_zipL, hz, go2, evs_, Option.bind_some, List.getElem?_cons_zero, List.getElem?_cons_succ, List.set_cons_zero, List.set_cons_succ, List.map_cons, List.map_nil, List.cons_append, List.nil_append, List.length_cons, List.length_nil, Nat.reduceAdd, Nat.reduceSub, Nat.reduceLeDiff, Nat.reduceLT, Bool.not_true, Bool.not_false, decide_true, decide_false]
    simp -implicitDefEqProofs only [c1, c2, ex, ey, bT_wy, w0, c3, evs_, Option.bind_some, List.getElem?_cons_zero, List.getElem?_cons_succ, List.set_cons_zero, List.set_cons_succ, List.map_cons, List.map_nil, List.cons_append, List.nil_append, List.length_cons, List.length_nil, Nat.reduceAdd, Nat.reduceSub, Nat.reduceLeDiff, Nat.reduceLT, Bool.not_true, Bool.not_false, decide_true, decide_false]
end VVlaw

set_option Elab.async false
set_option linter.all false
set_option maxRecDepth 100000
set_option maxHeartbeats 8000000
/-! PUf: the laws' scenes. -/
namespace VVlaw
open PySem PySem.Spec L2 VV
open PyProof.Rows hiding St
/-- a scene of cut shots as shots at places -/
def scP (g : List (List Int)) (r : List Int) (P : List Pc) (lx ly : Int) (i : Nat) : Ps := ⟨cutLit g (P.getD i ((0, 0), (0, 0))) (more r i), (P.getD i ((0, 0), (0, 0))).2.2.toNat, (P.getD i ((0, 0), (0, 0))).2.1.toNat, (P.getD i ((0, 0), (0, 0))).1.1 - lx, (P.getD i ((0, 0), (0, 0))).1.2 - ly⟩
theorem scP_shots (g : List (List Int)) (r : List Int) (P : List Pc) (lx ly : Int) : PyData.tuple ((litBoxes g r P).map shD) = shotsD P.length (scP g r P lx ly) := by
  unfold shotsD litBoxes
  refine congrArg PyData.tuple (List.ext_getElem (by simp) fun i h1 h2 => ?_)
  rw [List.length_map, List.length_mapIdx] at h1
  simp [scP, h1]
theorem scP_places (g : List (List Int)) (r : List Int) (P : List Pc) (lx ly : Int) : PyData.tuple (P.map fun e => wyD (e.1.1 - lx, e.1.2 - ly)) = placesD P.length (scP g r P lx ly) := by
  unfold placesD
  refine congrArg PyData.tuple (List.ext_getElem (by simp) fun i h1 h2 => ?_)
  rw [List.length_map] at h1
  simp [scP, plcD, wyD, h1]
theorem scP_ok {g : List (List Int)} {r : List Int} {P : List Pc} {lx ly : Int} (G : Gr g) (h1 : 2 ≤ P.length) (h2 : P.length ≤ 5) (hP : ∀ e ∈ P, PcOk e) (hx : (∃ e ∈ P, e.1.1 = lx) ∧ ∀ e ∈ P, lx ≤ e.1.1) (hy : (∃ e ∈ P, e.1.2 = ly) ∧ ∀ e ∈ P, ly ≤ e.1.2) : Scn P.length (scP g r P lx ly) ∧ ∀ i, i < P.length → (scP g r P lx ly i).h ≤ 8 ∧ (scP g r P lx ly i).w ≤ 8 := by
  have mem : ∀ i, i < P.length → P.getD i ((0, 0), (0, 0)) ∈ P := fun i hi => by
    rw [List.getD_eq_getElem?_getD, List.getElem?_eq_getElem hi]
    exact List.getElem_mem hi
  have bx : ∀ i, i < P.length → 0 ≤ (scP g r P lx ly i).x ∧ (scP g r P lx ly i).x ≤ 11 := fun i hi => by
    have p := hP _ (mem i hi)
    have := hx.2 _ (mem i hi)
    obtain ⟨q, hq, e1⟩ := hx.1
    have := (hP q hq).x0
    have := p.xw
    have := p.w1
    show 0 ≤ (P.getD i ((0, 0), (0, 0))).1.1 - lx ∧ (P.getD i ((0, 0), (0, 0))).1.1 - lx ≤ 11
    omega
  have by_ : ∀ i, i < P.length → 0 ≤ (scP g r P lx ly i).y ∧ (scP g r P lx ly i).y ≤ 9 := fun i hi => by
    have p := hP _ (mem i hi)
    have := hy.2 _ (mem i hi)
    obtain ⟨q, hq, e1⟩ := hy.1
    have := (hP q hq).y0
    have := p.yh
    have := p.h1
    show 0 ≤ (P.getD i ((0, 0), (0, 0))).1.2 - ly ∧ (P.getD i ((0, 0), (0, 0))).1.2 - ly ≤ 9
    omega
  refine ⟨⟨by omega, by omega, fun i hi => ?_, fun i hi => ?_, fun i hi => ?_, fun i j hi hj => ?_, fun i j hi hj => ?_⟩, fun i hi => ?_⟩
  · have mb := more_bd r i
    exact cutLit_sh G (hP _ (mem i hi)) mb.1 (by omega)
  · have := bx i hi; omega
  · have := by_ i hi; omega
  · have := bx i hi; have := bx j hj; omega
  · have := by_ i hi; have := by_ j hj; omega
  · have p := hP _ (mem i hi)
    have := p.h2
    have := p.w2
    show (P.getD i ((0, 0), (0, 0))).2.2.toNat ≤ 8 ∧ (P.getD i ((0, 0), (0, 0))).2.1.toNat ≤ 8
    omega
/-- shots of a ground, or any -/
theorem any_scene_eq (ns : List Int) (t : Int) (h0 : 0 ≤ t) : ∃ (m : Nat) (e : Nat → Ps), sem__law_any_scene [rdL ns, .int t] = .ok (.tuple [shotsD (m + 1) e, placesD (m + 1) e]) ∧ Scn (m + 1) e ∧ m ≤ 4 ∧ ∀ i, i < m + 1 → (e i).h ≤ 8 ∧ (e i).w ≤ 8 := by
  obtain ⟨r, er, R⟩ := law_row_eq ns (t + 2) (by omega)
  have i0 : ixF (.list (r.map PyData.int)) (.int 0) = some (.int (r.getD 0 0)) := R.at 0 (by decide) (by decide)
  have i1 : ixF (.list (r.map PyData.int)) (.int 1) = some (.int (r.getD 1 0)) := R.at 1 (by decide) (by decide)
  have i2 : ixF (.list (r.map PyData.int)) (.int 2) = some (.int (r.getD 2 0)) := R.at 2 (by decide) (by decide)
  have m0 := f_modP (r.getD 0 0) 3 (by decide)
  by_cases c : 0 < r.getD 0 0 % 3
  · obtain ⟨g, r', P, lx, ly, eg, G, h1, h2, hP, hx, hy, sc⟩ := scene_eq ns t h0
    obtain ⟨S, sm⟩ := scP_ok (r := r') G h1 h2 hP hx hy
    obtain ⟨m, hm⟩ : ∃ m, P.length = m + 1 := ⟨P.length - 1, by omega⟩
    rw [scP_shots g r' P lx ly, scP_places g r' P lx ly] at sc
    rw [hm] at S sm sc
    refine ⟨m, scP g r' P lx ly, ?_, S, by omega, sm⟩
    have c' : decide (0 < r.getD 0 0 % 3) = true := decide_eq_true c
    generalize shotsD (m + 1) (scP g r' P lx ly) = ds at *
    generalize placesD (m + 1) (scP g r' P lx ly) = dp at *
    simp -implicitDefEqProofs only [sem__law_any_scene, b__law_any_scene, er, i0, m0, c', sc, evs_, Option.bind_some, List.getElem?_cons_zero, List.getElem?_cons_succ, List.set_cons_zero, List.set_cons_succ, List.map_cons, List.map_nil, List.cons_append, List.nil_append, List.length_cons, List.length_nil, Nat.reduceAdd, Nat.reduceSub, Nat.reduceLeDiff, Nat.reduceLT, Bool.not_true, Bool.not_false, decide_true, decide_false]
  · have c' : decide (0 < r.getD 0 0 % 3) = false := decide_eq_false c
    have m1 := f_modP (r.getD 1 0) 3 (by decide)
    have hb := R.bdAt 1
    obtain ⟨m, hm⟩ : ∃ m : Nat, 1 + r.getD 1 0 % 3 = ((m + 1 : Nat) : Int) := ⟨(r.getD 1 0 % 3).toNat, by omega⟩
    have hm2 : m ≤ 2 := by omega
    have all : ∀ k : Nat, ∃ q : List (List Int) × Nat × Nat, sem__law_shot [.list (r.map PyData.int), .int (5 + 17 * (k : Int)), .int (r.getD 2 0)] = .ok (shD q.1) ∧ Sh q.1 q.2.1 q.2.2 ∧ q.2.1 ≤ 5 ∧ q.2.2 ≤ 5 := fun k => by
      obtain ⟨s, h, w, a, b, c, d⟩ := law_shot_eq R (5 + 17 * (k : Int)) (r.getD 2 0) (by omega)
      exact ⟨(s, h, w), a, b, c, d⟩
    obtain ⟨f, hf⟩ := Classical.skolem.mp all
    let e : Nat → Ps := fun k => ⟨(f k).1, (f k).2.1, (f k).2.2, r.getD (50 + k) 0 % 5, r.getD (55 + k) 0 % 4⟩
    have rg := rng1_ok ((m + 1 : Nat) : Int) (by omega) (by omega)
    rw [show (((m + 1 : Nat) : Int)).toNat = m + 1 from Int.toNat_natCast _] at rg
    have rg' : (RL.ok [PyData.int ((m + 1 : Nat) : Int)]).items rng1 = .ok ((List.range (m + 1)).map ntD) := by
      rw [rg]
      unfold rangeD
      refine congrArg RL.ok (List.map_congr_left fun i _ => ?_)
      show PyData.int (0 + (i : Int)) = PyData.int (i : Int)
      rw [Int.zero_add]
    have lc1 : ∀ ρ : En, ρ.length = 6 → ρ[2]? = some (vl (.list (r.map PyData.int))) → ρ[3]? = some (vi ((m + 1 : Nat) : Int)) → eLc [5] (iRange1 [(eV 3)]) (.nm 5) (eC (.bool true)) (eCall sem__law_shot [(eV 2), (eOp addF (eC (.int 5)) (eOp mulF (eC (.int 17)) (eV 5))), (eOp ixF (eV 2) (eC (.int 2)))]) ρ = .ok (.list ((List.range (m + 1)).map fun i => shD (e i).s)) := by
      intro ρ hl e2 e3
      refine eLc_mapT (vs := [5]) (t := .nm 5) (c := eC (.bool true)) (List.range (m + 1)) ntD (fun i => shD (e i).s) (by simp -implicitDefEqProofs only [e3, rg', evs_, Option.bind_some, List.getElem?_cons_zero, List.getElem?_cons_succ, List.set_cons_zero, List.set_cons_succ, List.map_cons, List.map_nil, List.cons_append, List.nil_append, List.length_cons, List.length_nil, Nat.reduceAdd, Nat.reduceSub, Nat.reduceLeDiff, Nat.reduceLT, Bool.not_true, Bool.not_false, decide_true, decide_false]) (by rw [List.length_range]; omega) fun k hk => ⟨(wipeE ρ [5]).set 5 (vl (ntD k)), bT_nm .., rfl, ?_⟩
      have g5 : ((wipeE ρ [5]).set 5 (vl (ntD k)))[5]? = some (vi k) := List.getElem?_set_self (by rw [wipeE_length]; omega)
      have g2 : ((wipeE ρ [5]).set 5 (vl (ntD k)))[2]? = some (vl (.list (r.map PyData.int))) := by
        rw [List.getElem?_set_ne (by decide), wipeE_cons, wipeE_nil, List.getElem?_set_ne (by decide)]
        exact e2
      have mk := f_mul 17 (k : Int) (.inl (by decide))
      have sh := (hf k).1
      have es : shD (f k).1 = shD (e k).s := rfl
      rw [es] at sh
      generalize (wipeE ρ [5]).set 5 (vl (ntD k)) = ρ2 at g5 g2 ⊢
      generalize shD (e k).s = dd at *
      generalize PyData.list (r.map PyData.int) = dr at *
      simp -implicitDefEqProofs only [g5, g2, mk, i2, sh, evs_, Option.bind_some, List.getElem?_cons_zero, List.getElem?_cons_succ, List.set_cons_zero, List.set_cons_succ, List.map_cons, List.map_nil, List.cons_append, List.nil_append, List.length_cons, List.length_nil, Nat.reduceAdd, Nat.reduceSub, Nat.reduceLeDiff, Nat.reduceLT, Bool.not_true, Bool.not_false, decide_true, decide_false]
    have lc2 : ∀ ρ : En, ρ.length = 6 → ρ[2]? = some (vl (.list (r.map PyData.int))) → ρ[3]? = some (vi ((m + 1 : Nat) : Int)) → eLc [5] (iRange1 [(eV 3)]) (.nm 5) (eC (.bool true)) (eTup [(eOp modF (eOp ixF (eV 2) (eOp addF (eC (.int 50)) (eV 5))) (eC (.int 5))), (eOp modF (eOp ixF (eV 2) (eOp addF (eC (.int 55)) (eV 5))) (eC (.int 4)))]) ρ = .ok (.list ((List.range (m + 1)).map fun i => plcD (e i))) := by
      intro ρ hl e2 e3
      refine eLc_mapT (vs := [5]) (t := .nm 5) (c := eC (.bool true)) (List.range (m + 1)) ntD (fun i => plcD (e i)) (by simp -implicitDefEqProofs only [e3, rg', evs_, Option.bind_some, List.getElem?_cons_zero, List.getElem?_cons_succ, List.set_cons_zero, List.set_cons_succ, List.map_cons, List.map_nil, List.cons_append, List.nil_append, List.length_cons, List.length_nil, Nat.reduceAdd, Nat.reduceSub, Nat.reduceLeDiff, Nat.reduceLT, Bool.not_true, Bool.not_false, decide_true, decide_false]) (by rw [List.length_range]; omega) fun k hk => ⟨(wipeE ρ [5]).set 5 (vl (ntD k)), bT_nm .., rfl, ?_⟩
      have hk' := List.mem_range.mp hk
      have g5 : ((wipeE ρ [5]).set 5 (vl (ntD k)))[5]? = some (vi k) := List.getElem?_set_self (by rw [wipeE_length]; omega)
      have g2 : ((wipeE ρ [5]).set 5 (vl (ntD k)))[2]? = some (vl (.list (r.map PyData.int))) := by
        rw [List.getElem?_set_ne (by decide), wipeE_cons, wipeE_nil, List.getElem?_set_ne (by decide)]
        exact e2
      have i50 := R.at (50 + (k : Int)) (by omega) (by omega)
      have i55 := R.at (55 + (k : Int)) (by omega) (by omega)
      rw [show (50 + (k : Int)).toNat = 50 + k from by omega] at i50
      rw [show (55 + (k : Int)).toNat = 55 + k from by omega] at i55
      have q5 := f_modP (r.getD (50 + k) 0) 5 (by decide)
      have q4 := f_modP (r.getD (55 + k) 0) 4 (by decide)
      have es : plcD (e k) = .tuple [.int (r.getD (50 + k) 0 % 5), .int (r.getD (55 + k) 0 % 4)] := rfl
      rw [es]
      generalize (wipeE ρ [5]).set 5 (vl (ntD k)) = ρ2 at g5 g2 ⊢
      generalize PyData.list (r.map PyData.int) = dr at *
      simp -implicitDefEqProofs only [g5, g2, i50, i55, q5, q4, evs_, Option.bind_some, List.getElem?_cons_zero, List.getElem?_cons_succ, List.set_cons_zero, List.set_cons_succ, List.map_cons, List.map_nil, List.cons_append, List.nil_append, List.length_cons, List.length_nil, Nat.reduceAdd, Nat.reduceSub, Nat.reduceLeDiff, Nat.reduceLT, Bool.not_true, Bool.not_false, decide_true, decide_false]
    refine ⟨m, e, ?_, ⟨by omega, by omega, fun i _ => (hf i).2.1, fun i hi => ?_, fun i hi => ?_, fun i j hi hj => ?_, fun i j hi hj => ?_⟩, by omega, fun i _ => ?_⟩
    · have t1 : ∀ L : List D, tupF [.list L] = some (.tuple L) := fun _ => rfl
      have d1 : PyData.tuple ((List.range (m + 1)).map fun i => shD (e i).s) = shotsD (m + 1) e := rfl
      have d2 : PyData.tuple ((List.range (m + 1)).map fun i => plcD (e i)) = placesD (m + 1) e := rfl
      simp -implicitDefEqProofs only [sem__law_any_scene, b__law_any_scene, er, i0, m0, c', i1, m1, hm, evs_, Option.bind_some, List.getElem?_cons_zero, List.getElem?_cons_succ, List.set_cons_zero, List.set_cons_succ, List.map_cons, List.map_nil, List.cons_append, List.nil_append, List.length_cons, List.length_nil, Nat.reduceAdd, Nat.reduceSub, Nat.reduceLeDiff, Nat.reduceLT, Bool.not_true, Bool.not_false, decide_true, decide_false]
      rw [lc1 _ rfl rfl rfl]
      simp -implicitDefEqProofs only [t1, d1, evs_, Option.bind_some, List.getElem?_cons_zero, List.getElem?_cons_succ, List.set_cons_zero, List.set_cons_succ, List.map_cons, List.map_nil, List.cons_append, List.nil_append, List.length_cons, List.length_nil, Nat.reduceAdd, Nat.reduceSub, Nat.reduceLeDiff, Nat.reduceLT, Bool.not_true, Bool.not_false, decide_true, decide_false]
      rw [lc2 _ rfl rfl rfl]
      simp -implicitDefEqProofs only [t1, d2, evs_, Option.bind_some, List.getElem?_cons_zero, List.getElem?_cons_succ, List.set_cons_zero, List.set_cons_succ, List.map_cons, List.map_nil, List.cons_append, List.nil_append, List.length_cons, List.length_nil, Nat.reduceAdd, Nat.reduceSub, Nat.reduceLeDiff, Nat.reduceLT, Bool.not_true, Bool.not_false, decide_true, decide_false]
    · show 0 ≤ r.getD (50 + i) 0 % 5 ∧ r.getD (50 + i) 0 % 5 ≤ 99
      omega
    · show 0 ≤ r.getD (55 + i) 0 % 4 ∧ r.getD (55 + i) 0 % 4 ≤ 99
      omega
    · show -12 ≤ r.getD (50 + j) 0 % 5 - r.getD (50 + i) 0 % 5 ∧ r.getD (50 + j) 0 % 5 - r.getD (50 + i) 0 % 5 ≤ 12
      omega
    · show -12 ≤ r.getD (55 + j) 0 % 4 - r.getD (55 + i) 0 % 4 ∧ r.getD (55 + j) 0 % 4 - r.getD (55 + i) 0 % 4 ≤ 12
      omega
    · have := (hf i).2.2
      show (f i).2.1 ≤ 8 ∧ (f i).2.2 ≤ 8
      omega
end VVlaw

set_option Elab.async false
set_option linter.all false
set_option maxRecDepth 100000
set_option maxHeartbeats 8000000
/-! PQ3: how many cells some mark covers. -/
namespace VVlaw
open PySem PySem.Spec L2 VV
open PyProof.Rows hiding St
/-! ### edges -/
end VVlaw

set_option Elab.async false
set_option linter.all false
set_option maxRecDepth 100000
set_option maxHeartbeats 8000000
/-! PQ4: covered. -/
namespace VVlaw
open PySem PySem.Spec L2 VV
open PyProof.Rows hiding St
section
variable {ms : List Mk} (M : Marks ms) (dx dy : D)
end
end VVlaw

set_option Elab.async false
set_option linter.all false
set_option maxRecDepth 100000
set_option maxHeartbeats 8000000
/-! PQ5: marks in a window. -/
namespace VVlaw
open PySem PySem.Spec L2 VV
open PyProof.Rows hiding St
end VVlaw

set_option Elab.async false
set_option linter.all false
set_option maxRecDepth 100000
set_option maxHeartbeats 8000000
/-! PQ6: windows cut in two, and one level up. -/
namespace VVlaw
open PySem PySem.Spec L2 VV
open PyProof.Rows hiding St
end VVlaw

set_option Elab.async false
set_option linter.all false
set_option maxRecDepth 100000
set_option maxHeartbeats 8000000
/-! PM5: the law's pictures. -/
namespace VVlaw
open PySem PySem.Spec L2 VV
open PyProof.Rows hiding St
end VVlaw

set_option Elab.async false
set_option linter.all false
set_option maxRecDepth 100000
set_option maxHeartbeats 8000000
/-! PM6: the law's sums and counts of blocks. -/
namespace VVlaw
open PySem PySem.Spec L2 VV
open PyProof.Rows hiding St
/-- the levels of a block -/
def rowB (s x : Nat) (r : List (Option Int)) : List Int := ((r.drop (x * s)).take s).filterMap id
def blk (p : Pic) (s x y : Nat) : List Int := ((p.drop (y * s)).take s).flatMap (rowB s x)
end VVlaw

set_option Elab.async false
set_option linter.all false
set_option maxRecDepth 100000
set_option maxHeartbeats 8000000
/-! PM7: the law's own pyramid. -/
namespace VVlaw
open PySem PySem.Spec L2 VV
open PyProof.Rows hiding St
end VVlaw

set_option Elab.async false
set_option linter.all false
set_option maxRecDepth 100000
set_option maxHeartbeats 8000000
/-! PM8: the law's own pyramid, level by level. -/
namespace VVlaw
open PySem PySem.Spec L2 VV
open PyProof.Rows hiding St
end VVlaw

set_option Elab.async false
set_option linter.all false
set_option maxRecDepth 100000
set_option maxHeartbeats 8000000
/-! PN1: what a window of a pyramid shows. -/
namespace VVlaw
open PySem PySem.Spec L2 VV
open PyProof.Rows hiding St
/-! the dict of tiles -/
/-! seen_of -/
end VVlaw

set_option Elab.async false
set_option linter.all false
set_option maxRecDepth 100000
set_option maxHeartbeats 8000000
/-! PN2: mean_at; the law's windows. -/
namespace VVlaw
open PySem PySem.Spec L2 VV
open PyProof.Rows hiding St
end VVlaw

set_option Elab.async false
set_option linter.all false
set_option maxRecDepth 100000
set_option maxHeartbeats 8000000
/-! PN3: pictures without holes; sums over blocks. -/
namespace VVlaw
open PySem PySem.Spec L2 VV
open PyProof.Rows hiding St
end VVlaw

set_option Elab.async false
set_option linter.all false
set_option maxRecDepth 100000
set_option maxHeartbeats 4000000
namespace VVlaw
open PySem PySem.Spec L2 VV
open PyProof.Rows hiding St
end VVlaw

set_option Elab.async false
set_option linter.all false
set_option maxRecDepth 100000
set_option maxHeartbeats 8000000
/-! PN4: the keys of tiles that a window needs. -/
namespace VVlaw
open PySem PySem.Spec L2 VV
open PyProof.Rows hiding St
end VVlaw

set_option Elab.async false
set_option linter.all false
set_option maxRecDepth 100000
set_option maxHeartbeats 4000000
namespace VVlaw
open PySem PySem.Spec L2 VV
open PyProof.Rows hiding St
end VVlaw

set_option Elab.async false
set_option linter.all false
set_option maxRecDepth 100000
set_option maxHeartbeats 8000000
/-! PNs: what is sorted. -/
namespace VVlaw
open PySem PySem.Spec L2 VV
open PyProof.Rows hiding St
abbrev Sgn := Int ⊕ List Nat
abbrev lx (a b : List Sgn) : Bool := PyProof.Rows.lexLt PyProof.Rows.itemOrd a b
/-! ### sorted, by what it must be -/
end VVlaw

set_option Elab.async false
set_option linter.all false
set_option maxRecDepth 100000
set_option maxHeartbeats 8000000
/-! PN5: keys in their order; what is sorted; tables of tiles. -/
namespace VVlaw
open PySem PySem.Spec L2 VV
open PyProof.Rows hiding St
/-! ### the order of keys -/
end VVlaw

set_option Elab.async false
set_option linter.all false
set_option maxRecDepth 100000
set_option maxHeartbeats 8000000
/-! PQ7: marks that lie within others; the law's own marks. -/
namespace VVlaw
open PySem PySem.Spec L2 VV
open PyProof.Rows hiding St
instance : DecidableEq Bx := fun a b => decidable_of_iff (a.x = b.x ∧ a.y = b.y ∧ a.w = b.w ∧ a.h = b.h) ⟨fun ⟨e1, e2, e3, e4⟩ => by
  obtain ⟨_, _, _, _⟩ := a
  obtain ⟨_, _, _, _⟩ := b
  dsimp only at e1 e2 e3 e4
  rw [e1, e2, e3, e4], fun e => by rw [e]; exact ⟨rfl, rfl, rfl, rfl⟩⟩
instance : DecidableEq Mk := fun a b => decidable_of_iff (a.nm = b.nm ∧ a.b = b.b) ⟨fun ⟨e1, e2⟩ => by
  obtain ⟨_, _⟩ := a
  obtain ⟨_, _⟩ := b
  dsimp only at e1 e2
  rw [e1, e2], fun e => by rw [e]; exact ⟨rfl, rfl⟩⟩
/-! ### within -/
/-! ### the law's marks -/
def nm7 : Nat → Str
  | 0 => "a"
  | 1 => "b"
  | 2 => "c"
  | 3 => "dd"
  | 4 => "eee"
  | 5 => "x"
  | _ => "zz"
def nmsD : D := .list [.str "a", .str "b", .str "c", .str "dd", .str "eee", .str "x", .str "zz"]
theorem nm7_ok (i : Nat) : sem_is_name [.str (nm7 i)] = .ok (.bool true) := by
  unfold nm7
  split <;> kernel_rfl
theorem nm7_str (i : Nat) : PyData.strOk (nm7 i) = true := by
  unfold nm7
  split <;> decide +kernel
theorem pick_nm (z : Int) : ∃ i : Nat, ixF nmsD (.int (z % 7)) = some (.str (nm7 i)) := by
  have h : z % 7 = 0 ∨ z % 7 = 1 ∨ z % 7 = 2 ∨ z % 7 = 3 ∨ z % 7 = 4 ∨ z % 7 = 5 ∨ z % 7 = 6 := by omega
  rcases h with h | h | h | h | h | h | h <;> rw [h]
  · exact ⟨0, rfl⟩
  · exact ⟨1, rfl⟩
  · exact ⟨2, rfl⟩
  · exact ⟨3, rfl⟩
  · exact ⟨4, rfl⟩
  · exact ⟨5, rfl⟩
  · exact ⟨6, rfl⟩
structure Mk.Sm (m : Mk) : Prop where
  nm : ∃ i, m.nm = nm7 i
  x : m.b.x < 20
  y : m.b.y < 20
  w1 : 1 ≤ m.b.w
  w2 : m.b.w ≤ 9
  h1 : 1 ≤ m.b.h
  h2 : m.b.h ≤ 9
theorem Mk.Sm.ok {m : Mk} (S : m.Sm) : m.Ok := by
  obtain ⟨i, e⟩ := S.nm
  have := S.x
  have := S.y
  have := S.w2
  have := S.h2
  exact ⟨by rw [e]; exact nm7_ok i, by omega, by omega, S.w1, by omega, S.h1, by omega⟩
theorem Mk.Sm.so {m : Mk} (S : m.Sm) : PyData.strOk m.nm = true := by
  obtain ⟨i, e⟩ := S.nm
  rw [e]
  exact nm7_str i
theorem mark1 {r : List Int} (R : Rw r) (E : List (Str × Mk)) (hE : E.length < 1000) (t : Nat) (ht : t < 6) (s0 s1 o5 o6 : Option Sl) : ∃ (m : Mk) (q5 q6 : Option Sl), m.Sm ∧ lp__law_marks_1 [s0, s1, vl (.list (r.map PyData.int)), some (.own (dicA false PyData.str mkD E)), vi t, o5, o6] = .nx [s0, s1, vl (.list (r.map PyData.int)), some (.own (dicA false PyData.str mkD (putQ E m.nm m))), vi t, q5, q6] := by
  have x0 := R.at (1 + 5 * (t : Int)) (by omega) (by omega)
  have x1 := R.at (1 + 5 * (t : Int) + 1) (by omega) (by omega)
  have x2 := R.at (1 + 5 * (t : Int) + 2) (by omega) (by omega)
  have x3 := R.at (1 + 5 * (t : Int) + 3) (by omega) (by omega)
  have x4 := R.at (1 + 5 * (t : Int) + 4) (by omega) (by omega)
  generalize r.getD (1 + 5 * (t : Int)).toNat 0 = z0 at x0
  generalize r.getD (1 + 5 * (t : Int) + 1).toNat 0 = z1 at x1
  generalize r.getD (1 + 5 * (t : Int) + 2).toNat 0 = z2 at x2
  generalize r.getD (1 + 5 * (t : Int) + 3).toNat 0 = z3 at x3
  generalize r.getD (1 + 5 * (t : Int) + 4).toNat 0 = z4 at x4
  obtain ⟨i, pk⟩ := pick_nm z0
  have mu := f_mul 5 (t : Int) (.inl (by decide))
  obtain ⟨u1, e1, l1⟩ : ∃ u : Nat, z1 % 20 = (u : Int) ∧ u < 20 := ⟨(z1 % 20).toNat, by omega, by omega⟩
  obtain ⟨u2, e2, l2⟩ : ∃ u : Nat, z2 % 20 = (u : Int) ∧ u < 20 := ⟨(z2 % 20).toNat, by omega, by omega⟩
  obtain ⟨u3, e3, l3⟩ : ∃ u : Nat, 1 + z3 % 9 = (u : Int) ∧ 1 ≤ u ∧ u ≤ 9 := ⟨(1 + z3 % 9).toNat, by omega, by omega, by omega⟩
  obtain ⟨u4, e4, l4⟩ : ∃ u : Nat, 1 + z4 % 9 = (u : Int) ∧ 1 ≤ u ∧ u ≤ 9 := ⟨(1 + z4 % 9).toNat, by omega, by omega, by omega⟩
  have m0 := f_modP z0 7 (by decide)
  have m1 := f_modP z1 20 (by decide)
  have m2 := f_modP z2 20 (by decide)
  have m3 := f_modP z3 9 (by decide)
  have m4 := f_modP z4 9 (by decide)
  refine ⟨⟨nm7 i, ⟨u1, u2, u3, u4⟩⟩, vi (1 + 5 * (t : Int)), vl (.str (nm7 i)), ⟨⟨i, rfl⟩, l1, l2, l3.1, l3.2, l4.1, l4.2⟩, ?_⟩
  have pu := put_dic (ev := mkD) keyE_str (i := 3) (fk := eV 6) (fv := eTup [(eV 6), (eOp modF (eOp ixF (eV 2) (eOp addF (eV 5) (eC (.int 1)))) (eC (.int 20))), (eOp modF (eOp ixF (eV 2) (eOp addF (eV 5) (eC (.int 2)))) (eC (.int 20))), (eOp addF (eC (.int 1)) (eOp modF (eOp ixF (eV 2) (eOp addF (eV 5) (eC (.int 3)))) (eC (.int 9)))), (eOp addF (eC (.int 1)) (eOp modF (eOp ixF (eV 2) (eOp addF (eV 5) (eC (.int 4)))) (eC (.int 9))))])
    (ρ := [s0, s1, vl (.list (r.map PyData.int)), some (.own (dicA false PyData.str mkD E)), vi t, vi (1 + 5 * (t : Int)), vl (.str (nm7 i))]) (E := E) (k := nm7 i) (v := ⟨nm7 i, ⟨u1, u2, u3, u4⟩⟩) rfl rfl (by
      generalize PyData.list (r.map PyData.int) = dr at *
      generalize dicA false PyData.str mkD E = dE at *
      simp -implicitDefEqProofs only [x0, x1, x2, x3, x4, m1, m2, m3, m4, e1, e2, e3, e4, mkD, evs_, Option.bind_some, List.getElem?_cons_zero, List.getElem?_cons_succ, List.set_cons_zero, List.set_cons_succ, List.map_cons, List.map_nil, List.cons_append, List.nil_append, List.length_cons, List.length_nil, Nat.reduceAdd, Nat.reduceSub, Nat.reduceLeDiff, Nat.reduceLT, Bool.not_true, Bool.not_false, decide_true, decide_false]) (by omega)
  generalize PyData.list (r.map PyData.int) = dr at *
  generalize dicA false PyData.str mkD (putQ E (nm7 i) ⟨nm7 i, ⟨u1, u2, u3, u4⟩⟩) = dP at *
  generalize dicA false PyData.str mkD E = dE at *
  unfold nmsD at pk
  simp -implicitDefEqProofs only [lp__law_marks_1, mu, x0, m0, pk, evs_, Option.bind_some, List.getElem?_cons_zero, List.getElem?_cons_succ, List.set_cons_zero, List.set_cons_succ, List.map_cons, List.map_nil, List.cons_append, List.nil_append, List.length_cons, List.length_nil, Nat.reduceAdd, Nat.reduceSub, Nat.reduceLeDiff, Nat.reduceLT, Bool.not_true, Bool.not_false, decide_true, decide_false]
  rw [pu]
  rfl
theorem marks_go {r : List Int} (R : Rw r) (s0 s1 : Option Sl) (n : Nat) (hn : n ≤ 6) : ∃ (E : List (Str × Mk)) (q4 q5 q6 : Option Sl), forGo (.nm 4) lp__law_marks_1 (rangeD 0 n) [s0, s1, vl (.list (r.map PyData.int)), some (.own (dicA false PyData.str mkD [])), none, none, none] = .nx [s0, s1, vl (.list (r.map PyData.int)), some (.own (dicA false PyData.str mkD E)), q4, q5, q6] ∧ E.length ≤ n ∧ (E.map (·.1)).Nodup ∧ ∀ e ∈ E, e.1 = e.2.nm ∧ e.2.Sm := by
  obtain ⟨ρ', lp, E, q4, q5, q6, rfl, h1, h2, h3⟩ := forGo_rng (i := 4) (f := lp__law_marks_1) (lo := 0) (n := n)
    (fun k ρ => ∃ (E : List (Str × Mk)) (q4 q5 q6 : Option Sl), ρ = [s0, s1, vl (.list (r.map PyData.int)), some (.own (dicA false PyData.str mkD E)), q4, q5, q6] ∧ E.length ≤ k ∧ (E.map (·.1)).Nodup ∧ ∀ e ∈ E, e.1 = e.2.nm ∧ e.2.Sm)
    (ρ := [s0, s1, vl (.list (r.map PyData.int)), some (.own (dicA false PyData.str mkD [])), none, none, none]) ⟨[], none, none, none, rfl, by simp, by simp, by simp⟩ (by
      rintro k ρ hk ⟨E, q4, q5, q6, rfl, h1, h2, h3⟩
      obtain ⟨m, p5, p6, S, st⟩ := mark1 R E (by omega) k (by omega) s0 s1 q5 q6
      have e0 : (0 : Int) + (k : Int) = (k : Int) := by omega
      rw [e0]
      refine ⟨_, st, putQ E m.nm m, _, _, _, rfl, ?_, putQ_nodup _ _ h2, fun e he => ?_⟩
      · have := putQ_len E m.nm m
        omega
      · rcases mem_putQ he with rfl | ⟨he, _⟩
        · exact ⟨rfl, S⟩
        · exact h3 e he)
  exact ⟨E, q4, q5, q6, lp, h1, h2, h3⟩
theorem law_marks_eq (ns : List Int) (t : Int) (h0 : 0 ≤ t) : ∃ ms : List Mk, sem__law_marks [rdL ns, .int t] = .ok (msD ms) ∧ Marks ms ∧ ms.length ≤ 6 ∧ ∀ m ∈ ms, m.Sm := by
  obtain ⟨r, er, R⟩ := law_row_eq ns t h0
  have i0 := R.at 0 (by decide) (by decide)
  generalize r.getD (Int.toNat 0) 0 = r0 at i0
  have m7 := f_modP r0 7 (by decide)
  obtain ⟨n, en, hn⟩ : ∃ n : Nat, r0 % 7 = (n : Int) ∧ n ≤ 6 := ⟨(r0 % 7).toNat, by omega, by omega⟩
  rw [en] at m7
  have rg := rng1_ok (n : Int) (by omega) (by omega)
  rw [show ((n : Int)).toNat = n from Int.toNat_natCast n] at rg
  obtain ⟨E, q4, q5, q6, lp, h1, h2, h3⟩ := marks_go R (vl (rdL ns)) (vi t) n hn
  have so := sort_dic (ev := mkD) keyE_str E (by rw [show (E.map fun e => PyData.str e.1) = (E.map (·.1)).map PyData.str from by rw [List.map_map]; rfl]; exact okSort_strsB _ fun k hk => by obtain ⟨e, he, rfl⟩ := List.mem_map.mp hk; rw [(h3 e he).1]; exact (h3 e he).2.so)
  rw [show (E.map fun e => PyData.str e.1) = (E.map (·.1)).map PyData.str from by rw [List.map_map]; rfl, sortD_strs] at so
  have pm := List.mergeSort_perm (E.map (·.1)) leS
  have up : ((E.map (·.1)).mergeSort leS).Pairwise ltS := by
    have s : ((E.map (·.1)).mergeSort leS).Pairwise fun a b => leS a b = true := List.pairwise_mergeSort (le := leS) leS_trans leS_total _
    have n : ((E.map (·.1)).mergeSort leS).Pairwise fun a b => a ≠ b := pm.nodup_iff.mpr h2
    exact s.imp₂ (fun a b h ne => ltS_of h ne) n
  generalize hS : (E.map (·.1)).mergeSort leS = S at *
  have get : ∀ k ∈ S, ∃ m, getQ E k = some m ∧ m.nm = k ∧ m.Sm := fun k hk => by
    obtain ⟨e, he, rfl⟩ := List.mem_map.mp (pm.mem_iff.mp hk)
    exact ⟨e.2, getQ_mem h2 he, (h3 e he).1.symm, (h3 e he).2⟩
  have ls : S.length ≤ 6 := by
    rw [pm.length_eq, List.length_map]
    omega
  let g : Str → Mk := fun k => (getQ E k).getD ⟨k, ⟨0, 0, 1, 1⟩⟩
  have gk : ∀ k ∈ S, getQ E k = some (g k) ∧ (g k).nm = k ∧ (g k).Sm := fun k hk => by
    obtain ⟨m, e, a, b⟩ := get k hk
    have : g k = m := by show (getQ E k).getD _ = m; rw [e]; rfl
    rw [this]
    exact ⟨e, a, b⟩
  have lc : ∀ ρ : En, ρ.length = 7 → ρ[3]? = some (some (.own (dicA false PyData.str mkD E))) → eLc [6] (iSeq (eCB sortF [(eB 3)])) (.nm 6) (eC (.bool true)) (eOp dixF (eB 3) (eV 6)) ρ = .ok (.list (S.map fun k => mkD (g k))) := by
    intro ρ hl e3
    refine eLc_mapA S PyData.str _ (by
      generalize dicA false PyData.str mkD E = dE at *
      simp -implicitDefEqProofs only [e3, so, evs_, Option.bind_some, List.getElem?_cons_zero, List.getElem?_cons_succ, List.set_cons_zero, List.set_cons_succ, List.map_cons, List.map_nil, List.cons_append, List.nil_append, List.length_cons, List.length_nil, Nat.reduceAdd, Nat.reduceSub, Nat.reduceLeDiff, Nat.reduceLT, Bool.not_true, Bool.not_false, decide_true, decide_false]) (by omega) fun k hk => ⟨rfl, ?_⟩
    have g6 : ((wipeE ρ [6]).set 6 (some (.val (.str k))))[6]? = some (vl (.str k)) := List.getElem?_set_self (by rw [wipeE_length]; omega)
    have g3 : ((wipeE ρ [6]).set 6 (some (.val (.str k))))[3]? = some (some (.own (dicA false PyData.str mkD E))) := by rw [List.getElem?_set_ne (by decide), wipeE_get _ _ _ (by decide), e3]
    have dx := dix_dic (ev := mkD) keyE_str (gk k hk).1
    generalize (wipeE ρ [6]).set 6 (some (.val (.str k))) = ρ2 at g6 g3 ⊢
    generalize dicA false PyData.str mkD E = dE at *
    simp -implicitDefEqProofs only [g6, g3, dx, evs_, Option.bind_some, List.getElem?_cons_zero, List.getElem?_cons_succ, List.set_cons_zero, List.set_cons_succ, List.map_cons, List.map_nil, List.cons_append, List.nil_append, List.length_cons, List.length_nil, Nat.reduceAdd, Nat.reduceSub, Nat.reduceLeDiff, Nat.reduceLT, Bool.not_true, Bool.not_false, decide_true, decide_false]
  refine ⟨S.map g, ?_, ⟨fun m hm => ?_, by rw [List.length_map]; omega, fun p hp => ?_⟩, by rw [List.length_map]; omega, fun m hm => ?_⟩
  · unfold msD
    rw [List.map_map]
    have lp' : forGo (.nm 4) lp__law_marks_1 (rangeD 0 n) [vl (rdL ns), vi t, vl (.list (r.map PyData.int)), some (.own (.dict [])), none, none, none] = .nx [vl (rdL ns), vi t, vl (.list (r.map PyData.int)), some (.own (dicA false PyData.str mkD E)), q4, q5, q6] := lp
    generalize PyData.list (r.map PyData.int) = dr at *
    simp -implicitDefEqProofs only [sem__law_marks, b__law_marks, er, i0, m7, rg, lp', evs_, Option.bind_some, List.getElem?_cons_zero, List.getElem?_cons_succ, List.set_cons_zero, List.set_cons_succ, List.map_cons, List.map_nil, List.cons_append, List.nil_append, List.length_cons, List.length_nil, Nat.reduceAdd, Nat.reduceSub, Nat.reduceLeDiff, Nat.reduceLT, Bool.not_true, Bool.not_false, decide_true, decide_false]
    rw [lc _ rfl rfl]
    simp -implicitDefEqProofs only [evs_, Option.bind_some, List.getElem?_cons_zero, List.getElem?_cons_succ, List.set_cons_zero, List.set_cons_succ, List.map_cons, List.map_nil, List.cons_append, List.nil_append, List.length_cons, List.length_nil, Nat.reduceAdd, Nat.reduceSub, Nat.reduceLeDiff, Nat.reduceLT, Bool.not_true, Bool.not_false, decide_true, decide_false]
    rfl
  · obtain ⟨k, hk, rfl⟩ := List.mem_map.mp hm
    exact (gk k hk).2.2.ok
  · have pw : (S.map g).Pairwise fun a b => nmLt a.nm b.nm = true := by
      rw [List.pairwise_map]
      refine up.imp_of_mem fun {a b} ha hb h => ?_
      rw [(gk a ha).2.1, (gk b hb).2.1]
      exact decide_eq_true h
    exact zipTail_of pw p hp
  · obtain ⟨k, hk, rfl⟩ := List.mem_map.mp hm
    exact (gk k hk).2.2
end VVlaw

set_option Elab.async false
set_option linter.all false
set_option maxRecDepth 100000
set_option maxHeartbeats 4000000
namespace VVlaw
open PySem PySem.Spec L2 VV
open PyProof.Rows hiding St
end VVlaw

set_option Elab.async false
set_option linter.all false
set_option maxRecDepth 100000
set_option maxHeartbeats 8000000
/-! PR1: whether things are marks; the mark of a name; the law's own nested. -/
namespace VVlaw
open PySem PySem.Spec L2 VV
open PyProof.Rows hiding St
def rising (ms : List Mk) : Bool := (ms.zip ms.tail).all fun p => nmLt p.1.nm p.2.nm
theorem tail_ms (ms : List Mk) : slF (msD ms) (some 1) none = some (.tuple (ms.tail.map mkD)) := by
  cases ms with
  | nil => rfl
  | cons m ms =>
    show some (PyData.tuple (cutL ((m :: ms).map mkD) (some ((1 : Nat) : Int)) none)) = _
    rw [cutF_nat _ _ (by simp), List.map_cons, List.drop_succ_cons, List.drop_zero, List.tail_cons]
/-- the rows that do not rise -/
theorem falls (ms : List Mk) (hl : ms.length ≤ 1000) (ρ : En) (hln : ρ.length = 3) (e0 : ρ[0]? = some (vl (msD ms))) : eLc [1, 2] (iZip [(eV 0), (eSl (eV 0) (some (eC (.int 1))) none)]) (.tp [(.nm 1), (.nm 2)]) (eOp geF (eOp ixF (eV 1) (eC (.int 0))) (eOp ixF (eV 2) (eC (.int 0)))) (eC (.int 1)) ρ = .ok (.list (((ms.zip ms.tail).filter fun p => !nmLt p.1.nm p.2.nm).map fun _ => PyData.int 1)) := by
  have s1 := tail_ms ms
  have it : iZip [(eV 0), (eSl (eV 0) (some (eC (.int 1))) none)] ρ = .ok ((ms.zip ms.tail).map fun p : Mk × Mk => PyData.tuple [mkD p.1, mkD p.2]) := by
    have z := items_zipT (ms.map mkD) (ms.tail.map mkD)
    rw [zipD_maps] at z
    have e : evA [(eV 0), (eSl (eV 0) (some (eC (.int 1))) none)] ρ = .ok [.tuple (ms.map mkD), .tuple (ms.tail.map mkD)] := by
      simp -implicitDefEqProofs only [e0, s1, evs_, Option.bind_some, List.getElem?_cons_zero, List.getElem?_cons_succ, List.set_cons_zero, List.set_cons_succ, List.map_cons, List.map_nil, List.cons_append, List.nil_append, List.length_cons, List.length_nil, Nat.reduceAdd, Nat.reduceSub, Nat.reduceLeDiff, Nat.reduceLT, Bool.not_true, Bool.not_false, decide_true, decide_false]
      rfl
    rw [ap_iZip, e]
    exact z
  refine eLc_filtT (vs := [1, 2]) (t := .tp [(.nm 1), (.nm 2)]) (c := eOp geF (eOp ixF (eV 1) (eC (.int 0))) (eOp ixF (eV 2) (eC (.int 0)))) (e := eC (.int 1)) (ms.zip ms.tail) (fun p : Mk × Mk => PyData.tuple [mkD p.1, mkD p.2]) (fun _ => PyData.int 1) (fun p => !nmLt p.1.nm p.2.nm) it (by rw [List.length_zip]; omega) fun p hp => ?_
  refine ⟨((wipeE ρ [1, 2]).set 1 (vl (mkD p.1))).set 2 (vl (mkD p.2)), rfl, ?_, fun _ => rfl⟩
  have g1 : (((wipeE ρ [1, 2]).set 1 (vl (mkD p.1))).set 2 (vl (mkD p.2)))[1]? = some (vl (mkD p.1)) := by rw [List.getElem?_set_ne (by decide), List.getElem?_set_self (by rw [wipeE_length]; omega)]
  have g2 : (((wipeE ρ [1, 2]).set 1 (vl (mkD p.1))).set 2 (vl (mkD p.2)))[2]? = some (vl (mkD p.2)) := by rw [List.getElem?_set_self (by rw [List.length_set, wipeE_length]; omega)]
  have ge : geF (.str p.1.nm) (.str p.2.nm) = some (.bool (!nmLt p.1.nm p.2.nm)) := rfl
  have x1 := (mk_at p.1).1
  have x2 := (mk_at p.2).1
  generalize ((wipeE ρ [1, 2]).set 1 (vl (mkD p.1))).set 2 (vl (mkD p.2)) = ρ2 at g1 g2 ⊢
  simp -implicitDefEqProofs only [g1, g2, x1, x2, ge, evs_, Option.bind_some, List.getElem?_cons_zero, List.getElem?_cons_succ, List.set_cons_zero, List.set_cons_succ, List.map_cons, List.map_nil, List.cons_append, List.nil_append, List.length_cons, List.length_nil, Nat.reduceAdd, Nat.reduceSub, Nat.reduceLeDiff, Nat.reduceLT, Bool.not_true, Bool.not_false, decide_true, decide_false]
theorem falls_empty (ms : List Mk) : (((ms.zip ms.tail).filter fun p => !nmLt p.1.nm p.2.nm).map fun _ => PyData.int 1).isEmpty = rising ms := by
  unfold rising
  rw [Bool.eq_iff_iff, List.isEmpty_iff, List.map_eq_nil_iff, List.filter_eq_nil_iff, List.all_eq_true]
  simp
theorem are_marks_eq {ms : List Mk} (ok : ∀ m ∈ ms, m.Ok) (len : ms.length ≤ 12) : sem_are_marks [msD ms] = .ok (.bool (rising ms)) := by
  have i0 : isiO isTup (.ok (msD ms)) = .ok (.bool true) := rfl
  have l0 : lenF [msD ms] = some (.int (ms.length : Int)) := by
    unfold msD
    rw [f_len_t, List.length_map]
  have gt : decide ((12 : Int) < (ms.length : Int)) = false := decide_eq_false (by omega)
  have c1 : ∀ ρ : En, ρ.length = 3 → ρ[0]? = some (vl (msD ms)) → eLc [1] (iSeq (eV 0)) (.nm 1) (gNot (gTru (eCall sem_is_mark [(eV 1)]))) (eV 1) ρ = .ok (.list []) := by
    intro ρ hl e0
    refine eLc_noneA ms mkD (by unfold msD at e0; simp -implicitDefEqProofs only [e0, evs_, Option.bind_some, List.getElem?_cons_zero, List.getElem?_cons_succ, List.set_cons_zero, List.set_cons_succ, List.map_cons, List.map_nil, List.cons_append, List.nil_append, List.length_cons, List.length_nil, Nat.reduceAdd, Nat.reduceSub, Nat.reduceLeDiff, Nat.reduceLT, Bool.not_true, Bool.not_false, decide_true, decide_false]) fun m hm => ?_
    have g : ((wipeE ρ [1]).set 1 (some (.val (mkD m))))[1]? = some (vl (mkD m)) := List.getElem?_set_self (by rw [wipeE_length]; omega)
    have k := is_mark_eq (ok m hm)
    generalize (wipeE ρ [1]).set 1 (some (.val (mkD m))) = ρ2 at g ⊢
    simp -implicitDefEqProofs only [g, k, evs_, Option.bind_some, List.getElem?_cons_zero, List.getElem?_cons_succ, List.set_cons_zero, List.set_cons_succ, List.map_cons, List.map_nil, List.cons_append, List.nil_append, List.length_cons, List.length_nil, Nat.reduceAdd, Nat.reduceSub, Nat.reduceLeDiff, Nat.reduceLT, Bool.not_true, Bool.not_false, decide_true, decide_false]
  have c2 := falls ms (by omega)
  have fe := falls_empty ms
  generalize (((ms.zip ms.tail).filter fun p => !nmLt p.1.nm p.2.nm).map fun _ => PyData.int 1) = F at c2 fe
  generalize msD ms = dm at *
  simp -implicitDefEqProofs only [sem_are_marks, b_are_marks, i0, l0, gt, evs_, Option.bind_some, List.getElem?_cons_zero, List.getElem?_cons_succ, List.set_cons_zero, List.set_cons_succ, List.map_cons, List.map_nil, List.cons_append, List.nil_append, List.length_cons, List.length_nil, Nat.reduceAdd, Nat.reduceSub, Nat.reduceLeDiff, Nat.reduceLT, Bool.not_true, Bool.not_false, decide_true, decide_false]
  rw [c1 _ rfl rfl]
  simp -implicitDefEqProofs only [List.isEmpty_nil, Bool.not_true, evs_, Option.bind_some, List.getElem?_cons_zero, List.getElem?_cons_succ, List.set_cons_zero, List.set_cons_succ, List.map_cons, List.map_nil, List.cons_append, List.nil_append, List.length_cons, List.length_nil, Nat.reduceAdd, Nat.reduceSub, Nat.reduceLeDiff, Nat.reduceLT, Bool.not_true, Bool.not_false, decide_true, decide_false]
  rw [c2 _ rfl rfl]
  simp -implicitDefEqProofs only [fe, Bool.not_not, evs_, Option.bind_some, List.getElem?_cons_zero, List.getElem?_cons_succ, List.set_cons_zero, List.set_cons_succ, List.map_cons, List.map_nil, List.cons_append, List.nil_append, List.length_cons, List.length_nil, Nat.reduceAdd, Nat.reduceSub, Nat.reduceLeDiff, Nat.reduceLT, Bool.not_true, Bool.not_false, decide_true, decide_false]
/-! ### the law's own -/
/-! ### the law's nested -/
end VVlaw

set_option Elab.async false
set_option linter.all false
set_option maxRecDepth 100000
set_option maxHeartbeats 8000000
/-! TXi: the law's shots, places, marks as numbers; what is told. -/
namespace VVlaw
open PySem PySem.Spec L2 VV
open PyProof.Rows hiding St
open TL
def Sx (n : Nat) (e : Nat → Ps) : List (List (List Nat)) := (List.range n).map fun i => (e i).s.map fun r => r.map Int.toNat
def Px (n : Nat) (e : Nat → Ps) : List (List Nat) := (List.range n).map fun i => [(e i).x.toNat, (e i).y.toNat]
def Mkx (ms : List Mk) : List (List Nat × List Nat) := ms.map fun m => (tl m.nm, [m.b.x, m.b.y, m.b.w, m.b.h])
theorem nD_nat {v : Int} (h : 0 ≤ v) : nD v.toNat = .int v := by
  unfold nD
  rw [Int.toNat_of_nonneg h]
section
variable {n : Nat} {e : Nat → Ps}
theorem shots_x (S : Scn n e) : shotsD n e = shsD (Sx n e) := by
  unfold shotsD shsD Sx
  rw [List.map_map]
  congr 1
  apply List.map_congr_left
  intro i hi
  have H := S.sh i (List.mem_range.mp hi)
  show shD (e i).s = sD ((e i).s.map fun r => r.map Int.toNat)
  unfold shD sD
  rw [List.map_map]
  congr 1
  apply List.map_congr_left
  intro r hr
  show rowD r = tD (r.map Int.toNat)
  unfold rowD tD
  rw [List.map_map]
  congr 1
  apply List.map_congr_left
  intro v hv
  exact (nD_nat (H.lev r hr v hv).1).symm
theorem places_x (S : Scn n e) : placesD n e = psD (Px n e) := by
  unfold placesD psD Px
  rw [List.map_map]
  congr 1
  apply List.map_congr_left
  intro i hi
  have hx := (S.px i (List.mem_range.mp hi)).1
  have hy := (S.py i (List.mem_range.mp hi)).1
  show plcD (e i) = .tuple [nD (e i).x.toNat, nD (e i).y.toNat]
  rw [nD_nat hx, nD_nat hy]
  rfl
end
theorem marks_x (ms : List Mk) : msD ms = msD' (Mkx ms) := by
  have key : ∀ m : Mk, mkD m = mD (tl m.nm, [m.b.x, m.b.y, m.b.w, m.b.h]) := fun m => by
    have e : PyData.str m.nm = wD (tl m.nm) := lit rfl
    unfold mkD mD
    rw [e]
    rfl
  unfold msD msD' Mkx
  rw [List.map_map, show mkD = mD ∘ fun m : Mk => (tl m.nm, [m.b.x, m.b.y, m.b.w, m.b.h]) from funext key]
theorem small3 {k : Nat} (h : k ≤ 255) : (numL k).length ≤ 3 := numL_len (by decide) (by omega)
theorem nm7_free (i : Nat) : tl (nm7 i) ≠ [] ∧ (tl (nm7 i)).length ≤ 3 ∧ ∀ c ∈ tl (nm7 i), 97 ≤ c ∧ c ≤ 122 := by
  unfold nm7
  split <;> exact ⟨by decide +kernel, by decide +kernel, by decide +kernel⟩
structure Bnds (S : List (List (List Nat))) (P : List (List Nat)) (M : List (List Nat × List Nat)) : Prop where
  sl : S.length ≤ 5
  s : ∀ x ∈ S, x.length ≤ 8 ∧ ∀ r ∈ x, r.length ≤ 8
  m : M.length ≤ 6 ∧ ∀ m ∈ M, m.1.length ≤ 3
section
variable {n : Nat} {e : Nat → Ps} {ms : List Mk}
theorem shw_x (S : Scn n e) (hm : ∀ m ∈ ms, m.Sm) : Shw (Sx n e) (Px n e) (Mkx ms) := by
  refine ⟨by unfold Sx Px; rw [List.length_map, List.length_map], ?_, fun x hx => ?_, fun p hp => ?_, fun m hx => ?_⟩
  · intro z
    have := congrArg List.length z
    unfold Sx at this
    rw [List.length_map, List.length_range] at this
    have h1 := S.n1
    simp -implicitDefEqProofs only [List.length_nil] at this
    omega
  · unfold Sx at hx
    obtain ⟨i, hi, rfl⟩ := List.mem_map.mp hx
    have H := S.sh i (List.mem_range.mp hi)
    refine ⟨?_, fun r hr => ?_⟩
    · intro z
      have := congrArg List.length z
      rw [List.length_map, H.len] at this
      have := H.h1
      simp -implicitDefEqProofs only [List.length_nil] at *
      omega
    · obtain ⟨r', hr', rfl⟩ := List.mem_map.mp hr
      refine ⟨?_, fun k hk => ?_⟩
      · intro z
        have := congrArg List.length z
        rw [List.length_map, H.row r' hr'] at this
        have := H.w1
        simp -implicitDefEqProofs only [List.length_nil] at *
        omega
      · obtain ⟨v, hv, rfl⟩ := List.mem_map.mp hk
        have b := H.lev r' hr' v hv
        have := small3 (k := v.toNat) (by omega)
        omega
  · unfold Px at hp
    obtain ⟨i, hi, rfl⟩ := List.mem_map.mp hp
    have hx := S.px i (List.mem_range.mp hi)
    have hy := S.py i (List.mem_range.mp hi)
    refine ⟨rfl, fun k hk => ?_⟩
    simp -implicitDefEqProofs only [List.mem_cons, List.not_mem_nil, or_false] at hk
    rcases hk with rfl | rfl
    · have := small3 (k := (e i).x.toNat) (by omega)
      omega
    · have := small3 (k := (e i).y.toNat) (by omega)
      omega
  · unfold Mkx at hx
    obtain ⟨m', hm', rfl⟩ := List.mem_map.mp hx
    have sm := hm m' hm'
    obtain ⟨i, en⟩ := sm.nm
    obtain ⟨f1, f2, f3⟩ := nm7_free i
    have h1 := sm.x
    have h2 := sm.y
    have h3 := sm.w2
    have h4 := sm.h2
    refine ⟨⟨by rw [en]; exact f1, rfl, fun k hk => ?_⟩, fun z => ?_, fun z => ?_⟩
    · have : k ≤ 255 := by
        simp -implicitDefEqProofs only [List.mem_cons, List.not_mem_nil, or_false] at hk
        rcases hk with rfl | rfl | rfl | rfl <;> omega
      have := small3 this
      omega
    · rw [en] at z
      have := f3 _ z
      omega
    · rw [en] at z
      have := f3 _ z
      omega
theorem bnds_x (S : Scn n e) (hn : n ≤ 5) (h8 : ∀ i, i < n → (e i).h ≤ 8 ∧ (e i).w ≤ 8) (hm : ∀ m ∈ ms, m.Sm) (h6 : ms.length ≤ 6) : Bnds (Sx n e) (Px n e) (Mkx ms) := by
  refine ⟨by unfold Sx; rw [List.length_map, List.length_range]; exact hn, fun x hx => ?_, by unfold Mkx; rw [List.length_map]; exact h6, fun m hx => ?_⟩
  · unfold Sx at hx
    obtain ⟨i, hi, rfl⟩ := List.mem_map.mp hx
    have H := S.sh i (List.mem_range.mp hi)
    have b := h8 i (List.mem_range.mp hi)
    refine ⟨by rw [List.length_map, H.len]; exact b.1, fun r hr => ?_⟩
    obtain ⟨r', hr', rfl⟩ := List.mem_map.mp hr
    rw [List.length_map, H.row r' hr']
    exact b.2
  · unfold Mkx at hx
    obtain ⟨m', hm', rfl⟩ := List.mem_map.mp hx
    obtain ⟨i, en⟩ := (hm m' hm').nm
    show (tl m'.nm).length ≤ 3
    rw [en]
    exact (nm7_free i).2.1
end
section
variable {S : List (List (List Nat))} {P : List (List Nat)} {M : List (List Nat × List Nat)}
theorem line_len (h : Shw S P M) (b : Bnds S P M) {l : Ln} (hl : l ∈ allLn S P M) : (lineT l).length ≤ 100 := by
  have jl : ∀ ws : List (List Nat), ws ≠ [] → (joinL [32] ws).length ≤ (ws.map List.length).sum + ws.length := fun ws hw => by
    have := len_join 32 ws hw
    omega
  have := jl l.words (words_free h hl).1
  rcases List.mem_append.mp hl with hm | hm
  · rcases lines_mem hm with ⟨p, hp, rfl⟩ | ⟨s, hs, r, hr, rfl⟩
    · obtain ⟨p2, pn⟩ := h.p p hp
      have sn := sum_nums pn
      simp -implicitDefEqProofs only [Ln.words, List.map_cons, List.sum_cons, List.length_cons, List.length_map] at this
      show (joinL [32] (wShot :: p.map numL)).length ≤ 100
      have e : wShot.length = 4 := rfl
      omega
    · obtain ⟨_, rn⟩ := (h.s s hs).2 r hr
      have r8 := (b.s s hs).2 r hr
      have sn := sum_nums rn
      simp -implicitDefEqProofs only [Ln.words, List.map_cons, List.sum_cons, List.length_cons, List.length_map] at this
      show (joinL [32] (wRow :: r.map numL)).length ≤ 100
      have e : wRow.length = 3 := rfl
      omega
  · obtain ⟨m, hmm, rfl⟩ := List.mem_map.mp hm
    obtain ⟨⟨_, m4, mn⟩, _⟩ := h.m m hmm
    have m3 := b.m.2 m hmm
    have sn := sum_nums mn
    simp -implicitDefEqProofs only [Ln.words, List.map_cons, List.sum_cons, List.length_cons, List.length_map] at this
    show (joinL [32] (wMark :: m.1 :: m.2.map numL)).length ≤ 100
    have e : wMark.length = 4 := rfl
    omega
theorem linesS_le : ∀ {S : List (List (List Nat))} {P : List (List Nat)}, (∀ x ∈ S, x.length ≤ 8) → (linesS S P).length ≤ 9 * S.length
  | [], P, _ => by simp [linesS]
  | _ :: _, [], _ => by simp [linesS]
  | s :: S, p :: P, h => by
    have ih := linesS_le (S := S) (P := P) fun x hx => h x (List.mem_cons_of_mem _ hx)
    have := h s List.mem_cons_self
    simp -implicitDefEqProofs only [linesS, List.length_cons, List.length_append, List.length_map]
    omega
theorem all_len (b : Bnds S P M) : (allLn S P M).length ≤ 51 := by
  have := linesS_le (S := S) (P := P) fun x hx => (b.s x hx).1
  have := b.sl
  have := b.m.1
  unfold allLn
  rw [List.length_append, List.length_map]
  omega
theorem sum_le {α : Type} (f : α → Nat) (k : Nat) : ∀ (xs : List α), (∀ x ∈ xs, f x ≤ k) → (xs.map f).sum ≤ k * xs.length
  | [], _ => by simp
  | x :: xs, h => by
    have := sum_le f k xs fun y hy => h y (List.mem_cons_of_mem _ hy)
    have := h x List.mem_cons_self
    simp -implicitDefEqProofs only [List.map_cons, List.sum_cons, List.length_cons, Nat.mul_add, Nat.mul_one]
    omega
theorem text_len (h : Shw S P M) (b : Bnds S P M) : (textL (allLn S P M)).length ≤ 6000 := by
  have e : textL (allLn S P M) = joinL [10] ((allLn S P M).map lineT) := rfl
  have := len_join 10 ((allLn S P M).map lineT) (by rw [Ne, List.map_eq_nil_iff]; exact all_ne h)
  rw [List.map_map, List.length_map] at this
  have s := sum_le (List.length ∘ lineT) 100 (allLn S P M) fun l hl => line_len h b hl
  have := all_len b
  rw [e]
  omega
theorem fit_x (h : Shw S P M) (b : Bnds S P M) : FitT S P M := by
  have tl := text_len h b
  have al := all_len b
  refine ⟨h.len, fun x hx r hr => ?_, fun p hp => h.p p hp, fun m hm => ?_, by omega, by omega⟩
  · obtain ⟨a, c⟩ := (h.s x hx).2 r hr
    have := (b.s x hx).2 r hr
    exact ⟨by omega, a, c⟩
  · obtain ⟨⟨_, c, d⟩, _⟩ := h.m m hm
    have := b.m.2 m hm
    exact ⟨by omega, c, d⟩
theorem asc_join {c : Nat} (hc : c < 1114112) : ∀ {ps : List (List Nat)}, (∀ p ∈ ps, Asc p) → Asc (joinL [c] ps)
  | [], _ => by
    intro x hx
    cases hx
  | [p], h => h p List.mem_cons_self
  | p :: q :: r, h => by
    rw [joinL_cons _ _ (by simp)]
    intro x hx
    rcases List.mem_append.mp hx with hx | hx
    · exact h p List.mem_cons_self x hx
    · rcases List.mem_append.mp hx with hx | hx
      · rw [List.mem_singleton.mp hx]
        exact hc
      · exact asc_join hc (fun y hy => h y (List.mem_cons_of_mem _ hy)) x hx
theorem asc_text (hM : ∀ m ∈ M, Asc m.1) : Asc (textL (allLn S P M)) := by
  have nums : ∀ q : List Nat, ∀ w ∈ q.map numL, Asc w := fun q w hw => by
    obtain ⟨n, _, rfl⟩ := List.mem_map.mp hw
    exact asc_num n
  refine asc_join (by decide) fun p hp => ?_
  obtain ⟨l, hl, rfl⟩ := List.mem_map.mp hp
  refine asc_join (by decide) fun w hw => ?_
  cases l with
  | shot p =>
    rcases List.mem_cons.mp hw with rfl | hw
    · exact (by decide : Asc wShot)
    · exact nums p w hw
  | row r =>
    rcases List.mem_cons.mp hw with rfl | hw
    · exact (by decide : Asc wRow)
    · exact nums r w hw
  | mark nm q =>
    rcases List.mem_cons.mp hw with rfl | hw
    · exact (by decide : Asc wMark)
    · rcases List.mem_cons.mp hw with rfl | hw
      · rcases List.mem_append.mp hl with hl | hl
        · rcases lines_mem hl with ⟨_, _, z⟩ | ⟨_, _, _, _, z⟩ <;> cases z
        · obtain ⟨m, hm, z⟩ := List.mem_map.mp hl
          cases z
          exact hM m hm
      · exact nums q w hw
end
/-! ### told -/
theorem sub_bt : sub_BadText "BadText" = some true := by kernel_rfl
theorem told_ok {d x : D} (h : sem_read [d] = .ok x) : sem__law_text_told [d] = .ok x := by
  simp -implicitDefEqProofs only [sem__law_text_told, b__law_text_told, h, ap_sTriesF, triesFO_rt, evs_, Option.bind_some, List.getElem?_cons_zero, List.getElem?_cons_succ, List.set_cons_zero, List.set_cons_succ, List.map_cons, List.map_nil, List.cons_append, List.nil_append, List.length_cons, List.length_nil, Nat.reduceAdd, Nat.reduceSub, Nat.reduceLeDiff, Nat.reduceLT, Bool.not_true, Bool.not_false, decide_true, decide_false]
theorem told_bad {d x : D} (h : sem_read [d] = badT x) : sem__law_text_told [d] = .ok (.list [.str "line", x]) := by
  have h : sem_read [d] = .exc "BadText" [("line", x)] := h
  have hf := ap_eFd (fs := [("line", x)]) (x := "line") (d := x) (by rfl)
  have hit := hitsF_as (i := 1) (sub := sub_BadText) (f := fun _ fs => (sRet (eIf (gAnd (gTru (eC (.bool true))) (gNot (gTru (eC (.bool false))))) (eLst [(eC (.str "line")), (eFd fs "line")]) (eLst [(eC (.str "other"))])))) (ks := []) (c := "BadText") (fs := [("line", x)]) (ρ := [vl d, none]) sub_bt none rfl
  simp -implicitDefEqProofs only [sem__law_text_told, b__law_text_told, h, ap_sTriesF, triesFO_exc, evs_, Option.bind_some, List.getElem?_cons_zero, List.getElem?_cons_succ, List.set_cons_zero, List.set_cons_succ, List.map_cons, List.map_nil, List.cons_append, List.nil_append, List.length_cons, List.length_nil, Nat.reduceAdd, Nat.reduceSub, Nat.reduceLeDiff, Nat.reduceLT, Bool.not_true, Bool.not_false, decide_true, decide_false]
  rw [hit]
  simp -implicitDefEqProofs only [hf, clr_rt, evs_, Option.bind_some, List.getElem?_cons_zero, List.getElem?_cons_succ, List.set_cons_zero, List.set_cons_succ, List.map_cons, List.map_nil, List.cons_append, List.nil_append, List.length_cons, List.length_nil, Nat.reduceAdd, Nat.reduceSub, Nat.reduceLeDiff, Nat.reduceLT, Bool.not_true, Bool.not_false, decide_true, decide_false]
theorem eqv_all {α : Type} (f : α → D) : ∀ xs : List α, (∀ x ∈ xs, PyData.eqv (f x) (f x) = true) → PyData.eqvAll (xs.map f) (xs.map f) = true
  | [], _ => rfl
  | x :: xs, h => by
    rw [List.map_cons, PyData.eqvAll, h x List.mem_cons_self, eqv_all f xs fun y hy => h y (List.mem_cons_of_mem _ hy)]
    rfl
theorem eqv_tup {α : Type} (f : α → D) (xs : List α) (h : ∀ x ∈ xs, PyData.eqv (f x) (f x) = true) : PyData.eqv (.tuple (xs.map f)) (.tuple (xs.map f)) = true := by
  simp -implicitDefEqProofs only [PyData.eqv]
  exact eqv_all f xs h
theorem eqv_nD (n : Nat) : PyData.eqv (nD n) (nD n) = true := by
  unfold nD
  simp [PyData.eqv]
theorem eqv_tD (r : List Nat) : PyData.eqv (tD r) (tD r) = true := eqv_tup nD r fun n _ => eqv_nD n
theorem eqv_mD (m : List Nat × List Nat) : PyData.eqv (mD m) (mD m) = true := by
  unfold mD
  simp -implicitDefEqProofs only [PyData.eqv, PyData.eqvAll, eqv_w, decide_true, Bool.true_and]
  exact eqv_all nD m.2 fun n _ => eqv_nD n
theorem eqv_told (s : Rd) : PyData.eqv (toldD s) (toldD s) = true := by
  unfold toldD
  have e1 : PyData.eqv (shsD s.S) (shsD s.S) = true := eqv_tup sD s.S fun x _ => eqv_tup tD x fun r _ => eqv_tD r
  have e2 : PyData.eqv (psD s.P) (psD s.P) = true := eqv_tup tD s.P fun r _ => eqv_tD r
  have e3 : PyData.eqv (msD' s.M) (msD' s.M) = true := eqv_tup mD s.M fun m _ => eqv_mD m
  simp -implicitDefEqProofs only [PyData.eqv, PyData.eqvAll, e1, e2, e3, Bool.and_self]
theorem ly_tD (k : Nat) (r : List Nat) : Ly (k + 1) (tD r) := Ly.tuple fun d hd => by
  obtain ⟨n, _, rfl⟩ := List.mem_map.mp hd
  exact Ly.int k _
theorem ly_told {s : Rd} (h : ∀ m ∈ s.M, Asc m.1) : Ly 4 (toldD s) := Ly.tuple (k := 3) fun d hd => by
  simp -implicitDefEqProofs only [List.mem_cons, List.not_mem_nil, or_false] at hd
  rcases hd with rfl | rfl | rfl
  · refine Ly.tuple (k := 2) fun d hd => ?_
    obtain ⟨x, _, rfl⟩ := List.mem_map.mp hd
    refine Ly.tuple (k := 1) fun d hd => ?_
    obtain ⟨r, _, rfl⟩ := List.mem_map.mp hd
    exact ly_tD 0 r
  · refine Ly.mono (k := 2) (Ly.tuple (k := 1) fun d hd => ?_) (by decide)
    obtain ⟨r, _, rfl⟩ := List.mem_map.mp hd
    exact ly_tD 0 r
  · refine Ly.mono (k := 2) (Ly.tuple (k := 1) fun d hd => ?_) (by decide)
    obtain ⟨m, hm, rfl⟩ := List.mem_map.mp hd
    refine Ly.tuple (k := 0) fun d hd => ?_
    rcases List.mem_cons.mp hd with rfl | hd
    · exact ly_w 0 (h m hm)
    · obtain ⟨n, _, rfl⟩ := List.mem_map.mp hd
      exact Ly.int 0 _
theorem ne_told {s : Rd} (h : ∀ m ∈ s.M, Asc m.1) : neF (toldD s) (toldD s) = some (.bool false) := by
  rw [f_ne (ly_told h) (ly_told h) (by decide), eqv_told]
  rfl
end VVlaw

set_option Elab.async false
set_option linter.all false
set_option maxRecDepth 100000
set_option maxHeartbeats 8000000
/-! K31l: the law k31. -/
namespace VVlaw
open PySem PySem.Spec L2 VV
open PyProof.Rows hiding St
open TL
theorem cut_to (w : List Nat) (b : Nat) : slF (wD w) none (some (b : Int)) = (if w.length ≤ 16777216 then some (wD (w.take b)) else none) := by
  have e : cutS (mkS w) none (some (b : Int)) = mkS (w.take b) := by
    unfold cutS mkS
    have l : (⟨w.toArray⟩ : Str).length = w.length := mkS_len w
    rw [l]
    have h := cutT_nat w b
    unfold cutL at h
    rw [h]
  show (if (mkS w).length ≤ sizeLine then some (PyData.str (cutS (mkS w) none (some (b : Int)))) else none) = _
  rw [mkS_len, e]
  rfl
theorem cut_from' (w : List Nat) (a : Nat) (h : a ≤ w.length) : slF (wD w) (some (a : Int)) none = (if w.length ≤ 16777216 then some (wD (w.drop a)) else none) := by
  have e : cutS (mkS w) (some (a : Int)) none = mkS (w.drop a) := by
    unfold cutS mkS
    have l : (⟨w.toArray⟩ : Str).length = w.length := mkS_len w
    rw [l]
    have h := cutF_nat w a h
    unfold cutL at h
    rw [h]
  show (if (mkS w).length ≤ sizeLine then some (PyData.str (cutS (mkS w) (some (a : Int)) none)) else none) = _
  rw [mkS_len, e]
  rfl
theorem ix_w {w : List Nat} {a : Nat} (h : a < w.length) (hl : w.length ≤ 16777216) : ixF (wD w) (.int (a : Int)) = some (wD [w[a]]) := by
  show (if (mkS w).length ≤ sizeLine then (L2.atI w (a : Int)).map (fun c => PyData.str ⟨#[c]⟩) else none) = _
  rw [mkS_len, if_pos (show w.length ≤ sizeLine from hl), atI_nat w a h]
  rfl
def lineD (x : D) : D := .list [.str "line", x]
theorem ly_line {x : D} (h : Ly 0 x) : Ly 1 (lineD x) := Ly.list fun d hd => by
  simp -implicitDefEqProofs only [List.mem_cons, List.not_mem_nil, or_false] at hd
  rcases hd with rfl | rfl
  · exact Ly.str 0 (by decide +kernel)
  · exact h
theorem ne_line (k : Int) : neF (lineD (.int k)) (lineD (.int k)) = some (.bool false) := by
  rw [f_ne (ly_line (Ly.int 0 k)) (ly_line (Ly.int 0 k)) (by decide)]
  unfold lineD
  simp [PyData.eqv, PyData.eqvAll]
theorem eq_line : eqF (lineD .none) (lineD .none) = some (.bool true) := by
  rw [f_eq (ly_line (Ly.none 0)) (ly_line (Ly.none 0)) (by decide)]
  unfold lineD
  simp [PyData.eqv, PyData.eqvAll]
/-- what is told of a text, by the plain reader -/
theorem told_err {t : List Nat} (hl : t.length ≤ 60000) (ha : Asc t) {k : Nat} (h : goR (linesT t) 0 rd0 = .error k) : sem__law_text_told [wD t] = .ok (lineD (.int (k : Int))) := by
  have r := read_eq hl ha
  rw [h] at r
  exact told_bad r
theorem told_good {t : List Nat} (hl : t.length ≤ 60000) (ha : Asc t) {s : Rd} (h : goR (linesT t) 0 rd0 = .ok s) (lk : lkAll s) : sem__law_text_told [wD t] = .ok (toldD s) := by
  have r := read_eq hl ha
  rw [h] at r
  rcases r with r | r
  · exact told_ok r.1
  · exact absurd lk r.2
theorem told_any {t : List Nat} (hl : t.length ≤ 60000) (ha : Asc t) : (∃ x, sem__law_text_told [wD t] = .ok (lineD x)) ∨ ∃ s, sem__law_text_told [wD t] = .ok (toldD s) ∧ FitT s.S s.P s.M ∧ textL (allLn s.S s.P s.M) = t := by
  have r := read_eq hl ha
  cases h : goR (linesT t) 0 rd0 with
  | error k =>
    rw [h] at r
    exact .inl ⟨_, told_bad r⟩
  | ok s =>
    rw [h] at r
    rcases r with r | r
    · obtain ⟨f, e⟩ := FitT.of_read h hl
      exact .inr ⟨s, told_ok r.1, f, e⟩
    · exact .inl ⟨_, told_bad r.1⟩
theorem told_non {d : D} (h : sem_read [d] = badT .none) : sem__law_text_told [d] = .ok (lineD .none) := told_bad h
def st7 : EF := (eLst [(eOp addF (eSl (eV 5) none (some (eV 6))) (eSl (eV 5) (some (eOp addF (eV 6) (eC (.int 1)))) none)), (eOp addF (eOp addF (eSl (eV 5) none (some (eV 6))) (eOp ixF (eV 5) (eV 6))) (eSl (eV 5) (some (eV 6)) none)), (eOp addF (eV 5) (eC (.str "\n"))), (eOp addF (eV 5) (eC (.str " ")))])
def st8 : EF := (eOp addF (eV 8) (eLst [(eOp addF (eOp addF (eSl (eV 5) none (some (eV 6))) (eV 7)) (eSl (eV 5) (some (eOp addF (eV 6) (eC (.int 1)))) none)), (eOp addF (eV 5) (eC (.str "\nmark z 01 1 1 1"))), (eOp addF (eV 5) (eC (.str "\nshot 0 0\nrow 1")))]))
def tailA : SF := (sSeq (sSet 10 (eTx splitF (eV 5) (eC (.str "\n")))) (sSeq (sSet 11 (eOp modF (eOp ixF (eV 1) (eC (.int 3))) (eOp addF (eCB lenF [(eV 10)]) (eC (.int 1))))) (sSeq (sSet 12 (eOp ixF (eLst [(eC (.str "view 1 2")), (eC (.str "")), (eC (.str "shot 1")), (eC (.str "rows 1")), (eC (.str "row")), (eC (.str "mark a 1 1 1"))]) (eOp modF (eOp ixF (eV 1) (eC (.int 4))) (eC (.int 6))))) (sSeq (sIf (eOp neF (eCall sem__law_text_told [(eTx joinF (eC (.str "\n")) (eOp addF (eOp addF (eSl (eV 10) none (some (eV 11))) (eLst [(eV 12)])) (eSl (eV 10) (some (eV 11)) none)))]) (eLst [(eC (.str "line")), (eV 11)])) (sRet (eC (.bool false))) sNx) (sSeq (sIf (gOr (eOp neF (eCall sem__law_text_told [(eOp addF (eC (.str "row 1\n")) (eV 5))]) (eLst [(eC (.str "line")), (eC (.int 0))])) (eOp neF (eCall sem__law_text_told [(eC (.str "mark a 1 1 1 1"))]) (eLst [(eC (.str "line")), (eC (.int 0))]))) (sRet (eC (.bool false))) sNx) (sSeq (sIf (eOp neF (eCall sem__law_text_told [(eC (.str "shot 0 0\nrow 1\nmark a 1 1 1 1\nshot 0 0\nrow 1"))]) (eLst [(eC (.str "line")), (eC (.int 3))])) (sRet (eC (.bool false))) sNx) (sRet (eOp eqF (eCall sem__law_text_told [(eOp ixF (eLst [(eC .none), (eC (.int 7)), (eLst [(eC (.str "shot 0 0"))]), (eC (.str "shot 0 0\nrow 256"))]) (eOp modF (eOp ixF (eV 1) (eC (.int 5))) (eC (.int 4))))]) (eLst [(eC (.str "line")), (eC .none)])))))))))
def tailB : SF := (sSeq (sIf (eOp neF (eCall sem__law_text_told [(eTx joinF (eC (.str "\n")) (eOp addF (eOp addF (eSl (eV 10) none (some (eV 11))) (eLst [(eV 12)])) (eSl (eV 10) (some (eV 11)) none)))]) (eLst [(eC (.str "line")), (eV 11)])) (sRet (eC (.bool false))) sNx) (sSeq (sIf (gOr (eOp neF (eCall sem__law_text_told [(eOp addF (eC (.str "row 1\n")) (eV 5))]) (eLst [(eC (.str "line")), (eC (.int 0))])) (eOp neF (eCall sem__law_text_told [(eC (.str "mark a 1 1 1 1"))]) (eLst [(eC (.str "line")), (eC (.int 0))]))) (sRet (eC (.bool false))) sNx) (sSeq (sIf (eOp neF (eCall sem__law_text_told [(eC (.str "shot 0 0\nrow 1\nmark a 1 1 1 1\nshot 0 0\nrow 1"))]) (eLst [(eC (.str "line")), (eC (.int 3))])) (sRet (eC (.bool false))) sNx) (sRet (eOp eqF (eCall sem__law_text_told [(eOp ixF (eLst [(eC .none), (eC (.int 7)), (eLst [(eC (.str "shot 0 0"))]), (eC (.str "shot 0 0\nrow 256"))]) (eOp modF (eOp ixF (eV 1) (eC (.int 5))) (eC (.int 4))))]) (eLst [(eC (.str "line")), (eC .none)]))))))
def tailC : SF := (sSeq (sIf (gOr (eOp neF (eCall sem__law_text_told [(eOp addF (eC (.str "row 1\n")) (eV 5))]) (eLst [(eC (.str "line")), (eC (.int 0))])) (eOp neF (eCall sem__law_text_told [(eC (.str "mark a 1 1 1 1"))]) (eLst [(eC (.str "line")), (eC (.int 0))]))) (sRet (eC (.bool false))) sNx) (sSeq (sIf (eOp neF (eCall sem__law_text_told [(eC (.str "shot 0 0\nrow 1\nmark a 1 1 1 1\nshot 0 0\nrow 1"))]) (eLst [(eC (.str "line")), (eC (.int 3))])) (sRet (eC (.bool false))) sNx) (sRet (eOp eqF (eCall sem__law_text_told [(eOp ixF (eLst [(eC .none), (eC (.int 7)), (eLst [(eC (.str "shot 0 0"))]), (eC (.str "shot 0 0\nrow 256"))]) (eOp modF (eOp ixF (eV 1) (eC (.int 5))) (eC (.int 4))))]) (eLst [(eC (.str "line")), (eC .none)])))))
def headA : SF := (sSeq (sSet 8 st7) (sSeq (sSet 8 st8) (sSeq (sSet 9 (eCall sem__law_text_told [(eOp ixF (eV 8) (eOp modF (eOp ixF (eV 1) (eC (.int 2))) (eC (.int 7))))])) (sSeq (sIf (gAnd (gNot (gTru (eIsi isLst (eV 9)))) (eOp neF (eCall sem__law_shown [(eOp ixF (eV 9) (eC (.int 0))), (eOp ixF (eV 9) (eC (.int 1))), (eOp ixF (eV 9) (eC (.int 2)))]) (eOp ixF (eV 8) (eOp modF (eOp ixF (eV 1) (eC (.int 2))) (eC (.int 7)))))) (sRet (eC (.bool false))) sNx) tailA))))
theorem law_is : b_law = (sSeq (sSet 1 (eCall sem__law_row [(eV 0), (eC (.int 6))])) (sSeq (sAsg (.tp [(.nm 2), (.nm 3)]) (eCall sem__law_any_scene [(eV 0), (eC (.int 2))])) (sSeq (sSet 4 (eCall sem__law_marks [(eV 0), (eC (.int 5))])) (sSeq (sSet 5 (eCall sem__law_shown [(eV 2), (eV 3), (eV 4)])) (sSeq (sIf (gOr (eOp neF (eCall sem_shown [(eV 2), (eV 3), (eV 4)]) (eV 5)) (eOp neF (eCall sem__law_text_told [(eV 5)]) (eTup [(eV 2), (eV 3), (eV 4)]))) (sRet (eC (.bool false))) sNx) (sSeq (sSet 6 (eOp modF (eOp mulF (eOp ixF (eV 1) (eC (.int 0))) (eC (.int 13))) (eCB lenF [(eV 5)]))) (sSeq (sSet 7 (eOp ixF (eC (.str "0 a\n19")) (eOp modF (eOp ixF (eV 1) (eC (.int 1))) (eC (.int 6))))) headA))))))) := rfl
theorem tailA_is : tailA = (sSeq (sSet 10 (eTx splitF (eV 5) (eC (.str "\n")))) (sSeq (sSet 11 (eOp modF (eOp ixF (eV 1) (eC (.int 3))) (eOp addF (eCB lenF [(eV 10)]) (eC (.int 1))))) (sSeq (sSet 12 (eOp ixF (eLst [(eC (.str "view 1 2")), (eC (.str "")), (eC (.str "shot 1")), (eC (.str "rows 1")), (eC (.str "row")), (eC (.str "mark a 1 1 1"))]) (eOp modF (eOp ixF (eV 1) (eC (.int 4))) (eC (.int 6))))) tailB))) := rfl
theorem lit_r1 : PyData.str "row 1\n" = wD [114, 111, 119, 32, 49, 10] := lit (by kernel_rfl)
theorem go_r1 (T : List Nat) : goR (linesT ([114, 111, 119, 32, 49, 10] ++ T)) 0 rd0 = .error 0 := by
  have e : cutc 10 ([114, 111, 119, 32, 49, 10] ++ T) = [114, 111, 119, 32, 49] :: cutc 10 T := by
    obtain ⟨w, ws, h⟩ := List.exists_cons_of_ne_nil (cutc_ne 10 T)
    simp [cutc]
  unfold linesT
  rw [e]
  rfl
def wA : List Nat := [109, 97, 114, 107, 32, 97, 32, 49, 32, 49, 32, 49, 32, 49]
def wB : List Nat := [115, 104, 111, 116, 32, 48, 32, 48, 10, 114, 111, 119, 32, 49, 10, 109, 97, 114, 107, 32, 97, 32, 49, 32, 49, 32, 49, 32, 49, 10, 115, 104, 111, 116, 32, 48, 32, 48, 10, 114, 111, 119, 32, 49]
def wC : List Nat := [115, 104, 111, 116, 32, 48, 32, 48, 10, 114, 111, 119, 32, 50, 53, 54]
theorem lit_a : PyData.str "mark a 1 1 1 1" = wD wA := lit (by kernel_rfl)
theorem lit_b : PyData.str "shot 0 0\nrow 1\nmark a 1 1 1 1\nshot 0 0\nrow 1" = wD wB := lit (by kernel_rfl)
theorem lit_c : PyData.str "shot 0 0\nrow 256" = wD wC := lit (by kernel_rfl)
theorem go_a : goR (linesT wA) 0 rd0 = .error 0 := by kernel_rfl
theorem go_b : goR (linesT wB) 0 rd0 = .error 3 := by kernel_rfl
theorem go_c : goR (linesT wC) 0 rd0 = .ok ⟨[[[256]]], [[0, 0]], [], wRow⟩ := by kernel_rfl
theorem bad_c : sem_are_shots [shsD [[[256]]]] = .ok (.bool false) := by kernel_rfl
theorem last_told (z : Int) : ∃ d, ixF (.list [.none, .int 7, .list [.str "shot 0 0"], wD wC]) (.int (z % 4)) = some d ∧ sem__law_text_told [d] = .ok (lineD .none) := by
  have h : z % 4 = 0 ∨ z % 4 = 1 ∨ z % 4 = 2 ∨ z % 4 = 3 := by omega
  rcases h with h | h | h | h <;> rw [h]
  · refine ⟨_, rfl, told_non ?_⟩
    have i0 : isiO isStr (.ok .none) = .ok (.bool false) := rfl
    simp -implicitDefEqProofs only [sem_read, b_read, i0, ap_sRaiseX, Bool.not_false, evs_, Option.bind_some, List.getElem?_cons_zero, List.getElem?_cons_succ, List.set_cons_zero, List.set_cons_succ, List.map_cons, List.map_nil, List.cons_append, List.nil_append, List.length_cons, List.length_nil, Nat.reduceAdd, Nat.reduceSub, Nat.reduceLeDiff, Nat.reduceLT, Bool.not_true, Bool.not_false, decide_true, decide_false]
    rfl
  · refine ⟨_, rfl, told_non ?_⟩
    have i0 : isiO isStr (.ok (.int 7)) = .ok (.bool false) := rfl
    simp -implicitDefEqProofs only [sem_read, b_read, i0, ap_sRaiseX, Bool.not_false, evs_, Option.bind_some, List.getElem?_cons_zero, List.getElem?_cons_succ, List.set_cons_zero, List.set_cons_succ, List.map_cons, List.map_nil, List.cons_append, List.nil_append, List.length_cons, List.length_nil, Nat.reduceAdd, Nat.reduceSub, Nat.reduceLeDiff, Nat.reduceLT, Bool.not_true, Bool.not_false, decide_true, decide_false]
    rfl
  · refine ⟨_, rfl, told_non ?_⟩
    have i0 : isiO isStr (.ok (.list [.str "shot 0 0"])) = .ok (.bool false) := rfl
    generalize PyData.list [.str "shot 0 0"] = d at *
    simp -implicitDefEqProofs only [sem_read, b_read, i0, ap_sRaiseX, Bool.not_false, evs_, Option.bind_some, List.getElem?_cons_zero, List.getElem?_cons_succ, List.set_cons_zero, List.set_cons_succ, List.map_cons, List.map_nil, List.cons_append, List.nil_append, List.length_cons, List.length_nil, Nat.reduceAdd, Nat.reduceSub, Nat.reduceLeDiff, Nat.reduceLT, Bool.not_true, Bool.not_false, decide_true, decide_false]
    rfl
  · refine ⟨_, rfl, told_non ?_⟩
    have r := read_eq (t := wC) (by decide) (by decide)
    rw [go_c] at r
    rcases r with r | r
    · have := r.2.1
      rw [bad_c] at this
      cases this
    · exact r.1
theorem tailC_ok {r : List Int} (R : Rw r) {T : List Nat} (hT : T.length ≤ 7000) (aT : Asc T) (o0 o2 o3 o4 o6 o7 o8 o9 o10 o11 o12 : Option Sl) : outR (tailC [o0, vl (.list (r.map PyData.int)), o2, o3, o4, vl (wD T), o6, o7, o8, o9, o10, o11, o12]) = .ok (.bool true) := by
  have i5 : ixF (.list (r.map PyData.int)) (.int 5) = some (.int (r.getD 5 0)) := R.at 5 (by decide) (by decide)
  have m4 := f_modP (r.getD 5 0) 4 (by decide)
  obtain ⟨d, pk, td⟩ := last_told (r.getD 5 0)
  have ad : addF (wD [114, 111, 119, 32, 49, 10]) (wD T) = some (wD ([114, 111, 119, 32, 49, 10] ++ T)) := add_w (by show 6 + _ ≤ _; omega)
  have t1 := told_err (t := [114, 111, 119, 32, 49, 10] ++ T) (by rw [List.length_append]; show 6 + _ ≤ _; omega) (fun c hc => by
    rcases List.mem_append.mp hc with hc | hc
    · exact (by decide : Asc [114, 111, 119, 32, 49, 10]) c hc
    · exact aT c hc) (go_r1 T)
  have t2 := told_err (t := wA) (by decide) (by decide) go_a
  have t3 := told_err (t := wB) (by decide) (by decide) go_b
  have n0 := ne_line 0
  have n3 := ne_line 3
  have ee := eq_line
  unfold lineD at *
  generalize wD ([114, 111, 119, 32, 49, 10] ++ T) = d1 at *
  generalize wD T = dT at *
  generalize hwa : wD wA = da at *
  generalize hwb : wD wB = db at *
  generalize hwc : wD wC = dc at *
  generalize hwr : wD [114, 111, 119, 32, 49, 10] = dw at *
  generalize PyData.list (r.map PyData.int) = dr at *
  have t1 : sem__law_text_told [d1] = .ok (.list [.str "line", .int 0]) := t1
  have t2 : sem__law_text_told [da] = .ok (.list [.str "line", .int 0]) := t2
  have t3 : sem__law_text_told [db] = .ok (.list [.str "line", .int 3]) := t3
  unfold tailC
  simp -implicitDefEqProofs only [lit_r1, lit_a, lit_b, lit_c, hwa, hwb, hwc, hwr, ad, t1, t2, t3, n0, n3, i5, m4, pk, td, ee, evs_, Option.bind_some, List.getElem?_cons_zero, List.getElem?_cons_succ, List.set_cons_zero, List.set_cons_succ, List.map_cons, List.map_nil, List.cons_append, List.nil_append, List.length_cons, List.length_nil, Nat.reduceAdd, Nat.reduceSub, Nat.reduceLeDiff, Nat.reduceLT, Bool.not_true, Bool.not_false, decide_true, decide_false]
theorem wrong_pick (z : Int) : ∃ w : List Nat, ixF (.list [.str "view 1 2", .str "", .str "shot 1", .str "rows 1", .str "row", .str "mark a 1 1 1"]) (.int (z % 6)) = some (wD w) ∧ lineW (cutc 32 w) = none ∧ w.length ≤ 20 ∧ Asc w ∧ 10 ∉ w := by
  have h : z % 6 = 0 ∨ z % 6 = 1 ∨ z % 6 = 2 ∨ z % 6 = 3 ∨ z % 6 = 4 ∨ z % 6 = 5 := by omega
  rcases h with h | h | h | h | h | h <;> rw [h]
  · exact ⟨[118, 105, 101, 119, 32, 49, 32, 50], by rw [← lit (x := "view 1 2") (by kernel_rfl)]; rfl, by kernel_rfl, by decide, by decide, by decide⟩
  · exact ⟨[], by rw [← lit (x := "") (by kernel_rfl)]; rfl, by kernel_rfl, by decide, by decide, by decide⟩
  · exact ⟨[115, 104, 111, 116, 32, 49], by rw [← lit (x := "shot 1") (by kernel_rfl)]; rfl, by kernel_rfl, by decide, by decide, by decide⟩
  · exact ⟨[114, 111, 119, 115, 32, 49], by rw [← lit (x := "rows 1") (by kernel_rfl)]; rfl, by kernel_rfl, by decide, by decide, by decide⟩
  · exact ⟨[114, 111, 119], by rw [← lit (x := "row") (by kernel_rfl)]; rfl, by kernel_rfl, by decide, by decide, by decide⟩
  · exact ⟨[109, 97, 114, 107, 32, 97, 32, 49, 32, 49, 32, 49], by rw [← lit (x := "mark a 1 1 1") (by kernel_rfl)]; rfl, by kernel_rfl, by decide, by decide, by decide⟩
theorem sum_len (ws : List (List Nat)) {w : List Nat} : ∀ a, (((ws.take a ++ w :: ws.drop a).map List.length).sum) = (ws.map List.length).sum + w.length := by
  intro a
  have e : (ws.map List.length).sum = ((ws.take a).map List.length).sum + ((ws.drop a).map List.length).sum := by
    rw [← List.sum_append, ← List.map_append, List.take_append_drop]
  rw [List.map_append, List.sum_append, List.map_cons, List.sum_cons, e]
  omega
theorem tailB_ok {r : List Int} (R : Rw r) {T : List Nat} (hT : T.length ≤ 6000) (aT : Asc T) {s' : Rd} (go : goR (linesT T) 0 rd0 = .ok s') {w : List Nat} (hw : lineW (cutc 32 w) = none) (lw : w.length ≤ 20) (aw : Asc w) (nw : 10 ∉ w) (a : Nat) (ha : a ≤ (cutc 10 T).length) (o0 o2 o3 o4 o6 o7 o8 o9 : Option Sl) :
    outR (tailB [o0, vl (.list (r.map PyData.int)), o2, o3, o4, vl (wD T), o6, o7, o8, o9, vl (.list ((cutc 10 T).map wD)), vi (a : Int), vl (wD w)]) = .ok (.bool true) := by
  have tc := tailC_ok R (T := T) (by omega) aT o0 o2 o3 o4 o6 o7 o8 o9 (vl (.list ((cutc 10 T).map wD))) (vi (a : Int)) (vl (wD w))
  have n1 := (cut_len 10 T).1
  have s1 : slF (.list ((cutc 10 T).map wD)) none (some (a : Int)) = some (.list (((cutc 10 T).take a).map wD)) := by
    show some (PyData.list (cutL _ _ _)) = _
    rw [cutT_nat, List.map_take]
  have s2 : slF (.list ((cutc 10 T).map wD)) (some (a : Int)) none = some (.list (((cutc 10 T).drop a).map wD)) := by
    show some (PyData.list (cutL _ _ _)) = _
    rw [cutF_nat _ _ (by rw [List.length_map]; exact ha), List.map_drop]
  have a1 : addF (.list (((cutc 10 T).take a).map wD)) (.list [wD w]) = some (.list (((cutc 10 T).take a ++ [w]).map wD)) := by
    show (if _ then some (PyData.list _) else none) = _
    rw [if_pos, List.map_append]
    · rfl
    · rw [List.length_map, List.length_take]
      show _ + (0 + 1) ≤ 16777216
      omega
  have a2 : addF (.list (((cutc 10 T).take a ++ [w]).map wD)) (.list (((cutc 10 T).drop a).map wD)) = some (.list (((cutc 10 T).take a ++ w :: (cutc 10 T).drop a).map wD)) := by
    show (if _ then some (PyData.list _) else none) = _
    rw [if_pos, ← List.map_append, List.append_assoc]
    · rfl
    · rw [List.length_map, List.length_map, List.length_append, List.length_take, List.length_drop]
      show _ + (0 + 1) + _ ≤ 16777216
      omega
  have ne : (cutc 10 T).take a ++ w :: (cutc 10 T).drop a ≠ [] := by simp
  have lj := len_join 10 _ ne
  have lT := len_join 10 (cutc 10 T) (cutc_ne 10 T)
  rw [join_cut] at lT
  rw [sum_len] at lj
  have ll : ((cutc 10 T).take a ++ w :: (cutc 10 T).drop a).length = (cutc 10 T).length + 1 := by
    rw [List.length_append, List.length_cons, List.length_take, List.length_drop]
    omega
  rw [ll] at lj
  have jn : joinF (wD [10]) (.list (((cutc 10 T).take a ++ w :: (cutc 10 T).drop a).map wD)) = some (wD (joinL [10] ((cutc 10 T).take a ++ w :: (cutc 10 T).drop a))) := join_w (by rw [sum_len, ll]; omega)
  have free : ∀ p ∈ (cutc 10 T).take a ++ w :: (cutc 10 T).drop a, p = w ∨ p ∈ cutc 10 T := fun p hp => by
    rcases List.mem_append.mp hp with hp | hp
    · exact .inr (List.mem_of_mem_take hp)
    · rcases List.mem_cons.mp hp with hp | hp
      · exact .inl hp
      · exact .inr (List.mem_of_mem_drop hp)
  have go2 : goR (linesT (joinL [10] ((cutc 10 T).take a ++ w :: (cutc 10 T).drop a))) 0 rd0 = .error a := by
    unfold linesT
    rw [cut_join ne fun p hp => by
      rcases free p hp with rfl | hp
      · exact nw
      · exact cut_free 10 T p hp]
    rw [List.map_append, List.map_cons, List.map_take]
    have := go_wrong hw (rest := ((cutc 10 T).drop a).map (cutc 32)) _ 0 rd0 s' go a (by unfold linesT; rw [List.length_map]; exact ha)
    rw [Nat.zero_add] at this
    exact this
  have td := told_err (t := joinL [10] ((cutc 10 T).take a ++ w :: (cutc 10 T).drop a)) (by omega) (asc_join (by decide) fun p hp => by
    rcases free p hp with rfl | hp
    · exact aw
    · exact fun c hc => aT c (cut_sub 10 T p hp c hc)) go2
  have nl := ne_line (a : Int)
  unfold lineD at td nl
  generalize hj : wD (joinL [10] ((cutc 10 T).take a ++ w :: (cutc 10 T).drop a)) = dj at *
  generalize hl3 : PyData.list (((cutc 10 T).take a ++ w :: (cutc 10 T).drop a).map wD) = l3 at *
  generalize hl2 : PyData.list (((cutc 10 T).take a ++ [w]).map wD) = l2 at *
  generalize hl1 : PyData.list (((cutc 10 T).take a).map wD) = l1 at *
  generalize hl4 : PyData.list (((cutc 10 T).drop a).map wD) = l4 at *
  generalize hl0 : PyData.list ((cutc 10 T).map wD) = l0 at *
  have u : ∀ q : SF, sSeq (sIf (eOp neF (eCall sem__law_text_told [(eTx joinF (eC (.str "\n")) (eOp addF (eOp addF (eSl (eV 10) none (some (eV 11))) (eLst [(eV 12)])) (eSl (eV 10) (some (eV 11)) none)))]) (eLst [(eC (.str "line")), (eV 11)])) (sRet (eC (.bool false))) sNx) q [o0, vl (.list (r.map PyData.int)), o2, o3, o4, vl (wD T), o6, o7, o8, o9, vl l0, vi (a : Int), vl (wD w)] = q [o0, vl (.list (r.map PyData.int)), o2, o3, o4, vl (wD T), o6, o7, o8, o9, vl l0, vi (a : Int), vl (wD w)] := fun q => by
    generalize PyData.list (r.map PyData.int) = dr
    generalize wD T = dT
    have ej : eTx joinF (eC (.str "\n")) (eOp addF (eOp addF (eSl (eV 10) none (some (eV 11))) (eLst [(eV 12)])) (eSl (eV 10) (some (eV 11)) none)) [o0, vl dr, o2, o3, o4, vl dT, o6, o7, o8, o9, vl l0, vi (a : Int), vl (wD w)] = .ok dj := by
      have : eOp addF (eOp addF (eSl (eV 10) none (some (eV 11))) (eLst [(eV 12)])) (eSl (eV 10) (some (eV 11)) none) [o0, vl dr, o2, o3, o4, vl dT, o6, o7, o8, o9, vl l0, vi (a : Int), vl (wD w)] = .ok l3 := by
        generalize wD w = dw at *
        simp -implicitDefEqProofs only [s1, s2, a1, a2, evs_, Option.bind_some, List.getElem?_cons_zero, List.getElem?_cons_succ, List.set_cons_zero, List.set_cons_succ, List.map_cons, List.map_nil, List.cons_append, List.nil_append, List.length_cons, List.length_nil, Nat.reduceAdd, Nat.reduceSub, Nat.reduceLeDiff, Nat.reduceLT, Bool.not_true, Bool.not_false, decide_true, decide_false]
      rw [lit_nl, ap_eTx, ap_eC, txO_w, this, Rs.bind_ok, jn]
      rfl
    rw [ap_sSeq, ap_sIf, ap_eOp, ap_eCall, evA_cons, ej]
    show seqO (ifO (opO neF (callO sem__law_text_told (.ok [dj])) (.ok (.list [.str "line", .int (a : Int)]))) _ sNx _) q = _
    rw [callO_ok, td, opO_ok, nl]
    rfl
  unfold tailB
  rw [u]
  exact tc
theorem tailA_ok {r : List Int} (R : Rw r) {T : List Nat} (hT : T.length ≤ 6000) (aT : Asc T) {s' : Rd} (go : goR (linesT T) 0 rd0 = .ok s') (o0 o2 o3 o4 o6 o7 o8 o9 o10 o11 o12 : Option Sl) :
    outR (tailA [o0, vl (.list (r.map PyData.int)), o2, o3, o4, vl (wD T), o6, o7, o8, o9, o10, o11, o12]) = .ok (.bool true) := by
  have i3 : ixF (.list (r.map PyData.int)) (.int 3) = some (.int (r.getD 3 0)) := R.at 3 (by decide) (by decide)
  have i4 : ixF (.list (r.map PyData.int)) (.int 4) = some (.int (r.getD 4 0)) := R.at 4 (by decide) (by decide)
  have n1 := (cut_len 10 T).1
  have sp := split_w (c := 10) (l := T) (by decide) (by omega)
  have ln : lenF [.list ((cutc 10 T).map wD)] = some (.int ((cutc 10 T).length : Int)) := by rw [f_len_l, List.length_map]
  obtain ⟨a, ea, la⟩ : ∃ a : Nat, (r.getD 3 0) % (((cutc 10 T).length : Int) + 1) = (a : Int) ∧ a ≤ (cutc 10 T).length := ⟨((r.getD 3 0) % (((cutc 10 T).length : Int) + 1)).toNat, by
    have := Int.emod_nonneg (r.getD 3 0) (b := ((cutc 10 T).length : Int) + 1) (by omega)
    omega, by
    have := Int.emod_lt_of_pos (r.getD 3 0) (b := ((cutc 10 T).length : Int) + 1) (by omega)
    omega⟩
  have mo := f_modP (r.getD 3 0) (((cutc 10 T).length : Int) + 1) (by omega)
  rw [ea] at mo
  have m6 := f_modP (r.getD 4 0) 6 (by decide)
  obtain ⟨w, pw, hw, lw, aw, nw⟩ := wrong_pick (r.getD 4 0)
  have tb := tailB_ok R hT aT go hw lw aw nw a la o0 o2 o3 o4 o6 o7 o8 o9
  rw [tailA_is]
  have ev : ∀ ρ : En, ρ[5]? = some (vl (wD T)) → eTx splitF (eV 5) (eC (.str "\n")) ρ = .ok (.list ((cutc 10 T).map wD)) := fun ρ e => by
    rw [lit_nl, ap_eTx, ap_eV, e]
    show txO splitF (.ok (wD T)) _ ρ = _
    rw [txO_w, ap_eC, Rs.bind_ok, sp]
    rfl
  rw [ap_sSeq, ap_sSet, ev _ rfl]
  generalize PyData.list ((cutc 10 T).map wD) = l0 at *
  generalize wD T = dT at *
  generalize wD w = dw at *
  generalize PyData.list (r.map PyData.int) = dr at *
  show outR (seqO (.nx [o0, vl dr, o2, o3, o4, vl dT, o6, o7, o8, o9, vl l0, o11, o12]) _) = _
  rw [seqO_nx]
  have st : ∀ q : SF, sSeq (sSet 11 (eOp modF (eOp ixF (eV 1) (eC (.int 3))) (eOp addF (eCB lenF [(eV 10)]) (eC (.int 1))))) (sSeq (sSet 12 (eOp ixF (eLst [(eC (.str "view 1 2")), (eC (.str "")), (eC (.str "shot 1")), (eC (.str "rows 1")), (eC (.str "row")), (eC (.str "mark a 1 1 1"))]) (eOp modF (eOp ixF (eV 1) (eC (.int 4))) (eC (.int 6))))) q) [o0, vl dr, o2, o3, o4, vl dT, o6, o7, o8, o9, vl l0, o11, o12] = q [o0, vl dr, o2, o3, o4, vl dT, o6, o7, o8, o9, vl l0, vi (a : Int), vl dw] := fun q => by
    simp -implicitDefEqProofs only [i3, i4, ln, mo, m6, pw, evs_, Option.bind_some, List.getElem?_cons_zero, List.getElem?_cons_succ, List.set_cons_zero, List.set_cons_succ, List.map_cons, List.map_nil, List.cons_append, List.nil_append, List.length_cons, List.length_nil, Nat.reduceAdd, Nat.reduceSub, Nat.reduceLeDiff, Nat.reduceLT, Bool.not_true, Bool.not_false, decide_true, decide_false]
  rw [st]
  exact tb
def mz : List Nat := [10, 109, 97, 114, 107, 32, 122, 32, 48, 49, 32, 49, 32, 49, 32, 49]
def sz1 : List Nat := [10, 115, 104, 111, 116, 32, 48, 32, 48, 10, 114, 111, 119, 32, 49]
theorem lit_mz : PyData.str "\nmark z 01 1 1 1" = wD mz := lit (by kernel_rfl)
theorem lit_sz : PyData.str "\nshot 0 0\nrow 1" = wD sz1 := lit (by kernel_rfl)
def bent (T : List Nat) (s : Nat) (x c : Nat) : List (List Nat) :=
  [T.take s ++ T.drop (s + 1), T.take s ++ [x] ++ T.drop s, T ++ [10], T ++ [32], T.take s ++ [c] ++ T.drop (s + 1), T ++ mz, T ++ sz1]
theorem bent_ok {T : List Nat} (hT : T.length ≤ 6000) (aT : Asc T) (s x c : Nat) (hx : x < 1114112) (hc : c < 1114112) : ∀ b ∈ bent T s x c, b.length ≤ 60000 ∧ Asc b := by
  have at_ : Asc (T.take s) := fun y hy => aT y (List.mem_of_mem_take hy)
  have ad : ∀ k, Asc (T.drop k) := fun k y hy => aT y (List.mem_of_mem_drop hy)
  have app : ∀ {a b : List Nat}, Asc a → Asc b → Asc (a ++ b) := fun ha hb y hy => (List.mem_append.mp hy).elim (ha y) (hb y)
  have one : ∀ {y : Nat}, y < 1114112 → Asc [y] := fun h y hy => by rw [List.mem_singleton.mp hy]; exact h
  have lt : (T.take s).length ≤ 6000 := by rw [List.length_take]; omega
  have ld : ∀ k, (T.drop k).length ≤ 6000 := fun k => by rw [List.length_drop]; omega
  have l0 := ld s
  have l1 := ld (s + 1)
  intro b hb
  unfold bent at hb
  simp -implicitDefEqProofs only [List.mem_cons, List.not_mem_nil, or_false] at hb
  rcases hb with rfl | rfl | rfl | rfl | rfl | rfl | rfl
  · exact ⟨by rw [List.length_append]; omega, app at_ (ad _)⟩
  · exact ⟨by rw [List.length_append, List.length_append]; show _ + (0 + 1) + _ ≤ _; omega, app (app at_ (one hx)) (ad _)⟩
  · exact ⟨by rw [List.length_append]; show _ + (0 + 1) ≤ _; omega, app aT (one (by decide))⟩
  · exact ⟨by rw [List.length_append]; show _ + (0 + 1) ≤ _; omega, app aT (one (by decide))⟩
  · exact ⟨by rw [List.length_append, List.length_append]; show _ + (0 + 1) + _ ≤ _; omega, app (app at_ (one hc)) (ad _)⟩
  · exact ⟨by rw [List.length_append]; show _ + 16 ≤ _; omega, app aT (by decide)⟩
  · exact ⟨by rw [List.length_append]; show _ + 15 ≤ _; omega, app aT (by decide)⟩
theorem pick7 {bs : List (List Nat)} (h : bs.length = 7) (z : Int) : ∃ b ∈ bs, ixF (.list (bs.map wD)) (.int (z % 7)) = some (wD b) := by
  have lt : (z % 7).toNat < bs.length := by omega
  refine ⟨bs[(z % 7).toNat], List.getElem_mem lt, ?_⟩
  exact ix_map_l wD bs (z % 7) (by omega) lt
theorem st7_eq {T : List Nat} (hT : T.length ≤ 6000) {s : Nat} (hs : s < T.length) (o0 o1 o2 o3 o4 o7 o8 o9 o10 o11 o12 : Option Sl) : st7 [o0, o1, o2, o3, o4, vl (wD T), vi (s : Int), o7, o8, o9, o10, o11, o12] = .ok (.list [wD (T.take s ++ T.drop (s + 1)), wD (T.take s ++ [T[s]] ++ T.drop s), wD (T ++ [10]), wD (T ++ [32])]) := by
  have c1 := cut_to T s
  rw [if_pos (by omega)] at c1
  have c2 := cut_from' T s (by omega)
  rw [if_pos (by omega)] at c2
  have c3 := cut_from' T (s + 1) (by omega)
  rw [if_pos (by omega)] at c3
  have c3 : slF (wD T) (some ((s : Int) + 1)) none = some (wD (T.drop (s + 1))) := c3
  have x1 := ix_w hs (by omega)
  have lt : (T.take s).length ≤ 6000 := by rw [List.length_take]; omega
  have ld : ∀ k, (T.drop k).length ≤ 6000 := fun k => by rw [List.length_drop]; omega
  have l0 := ld s
  have l1 := ld (s + 1)
  have a1 : addF (wD (T.take s)) (wD (T.drop (s + 1))) = some (wD (T.take s ++ T.drop (s + 1))) := add_w (by omega)
  have a2 : addF (wD (T.take s)) (wD [T[s]]) = some (wD (T.take s ++ [T[s]])) := add_w (by show _ + (0 + 1) ≤ _; omega)
  have a3 : addF (wD (T.take s ++ [T[s]])) (wD (T.drop s)) = some (wD (T.take s ++ [T[s]] ++ T.drop s)) := add_w (by rw [List.length_append]; show _ + (0 + 1) + _ ≤ _; omega)
  have a4 : addF (wD T) (wD [10]) = some (wD (T ++ [10])) := add_w (by show _ + (0 + 1) ≤ _; omega)
  have a5 : addF (wD T) (wD [32]) = some (wD (T ++ [32])) := add_w (by show _ + (0 + 1) ≤ _; omega)
  clear lt ld l0 l1
  generalize wD (T.take s ++ [T[s]] ++ T.drop s) = d1 at *
  generalize wD (T.take s ++ [T[s]]) = d2 at *
  generalize wD (T.take s ++ T.drop (s + 1)) = d3 at *
  generalize wD (T ++ [10]) = d4 at *
  generalize wD (T ++ [32]) = d5 at *
  generalize wD (T.take s) = d6 at *
  generalize wD (T.drop s) = d7 at *
  generalize wD (T.drop (s + 1)) = d8 at *
  generalize wD [T[s]] = d9 at *
  generalize wD T = dT at *
  generalize hw1 : wD [10] = e1 at *
  generalize hw2 : wD [32] = e2 at *
  unfold st7
  simp -implicitDefEqProofs only [lit_nl, lit_sp, hw1, hw2, c1, c2, c3, x1, a1, a2, a3, a4, a5, evs_, Option.bind_some, List.getElem?_cons_zero, List.getElem?_cons_succ, List.set_cons_zero, List.set_cons_succ, List.map_cons, List.map_nil, List.cons_append, List.nil_append, List.length_cons, List.length_nil, Nat.reduceAdd, Nat.reduceSub, Nat.reduceLeDiff, Nat.reduceLT, Bool.not_true, Bool.not_false, decide_true, decide_false]
theorem st8_eq {T : List Nat} (hT : T.length ≤ 6000) {s : Nat} (hs : s < T.length) (c : Nat) (x : Nat) (o0 o1 o2 o3 o4 o9 o10 o11 o12 : Option Sl) : st8 [o0, o1, o2, o3, o4, vl (wD T), vi (s : Int), vl (wD [c]), vl (.list [wD (T.take s ++ T.drop (s + 1)), wD (T.take s ++ [x] ++ T.drop s), wD (T ++ [10]), wD (T ++ [32])]), o9, o10, o11, o12] = .ok (.list ((bent T s x c).map wD)) := by
  have c1 := cut_to T s
  rw [if_pos (by omega)] at c1
  have c3 := cut_from' T (s + 1) (by omega)
  rw [if_pos (by omega)] at c3
  have c3 : slF (wD T) (some ((s : Int) + 1)) none = some (wD (T.drop (s + 1))) := c3
  have lt : (T.take s).length ≤ 6000 := by rw [List.length_take]; omega
  have ld : ∀ k, (T.drop k).length ≤ 6000 := fun k => by rw [List.length_drop]; omega
  have l1 := ld (s + 1)
  have a2 : addF (wD (T.take s)) (wD [c]) = some (wD (T.take s ++ [c])) := add_w (by show _ + (0 + 1) ≤ _; omega)
  have a3 : addF (wD (T.take s ++ [c])) (wD (T.drop (s + 1))) = some (wD (T.take s ++ [c] ++ T.drop (s + 1))) := add_w (by rw [List.length_append]; show _ + (0 + 1) + _ ≤ _; omega)
  have a4 : addF (wD T) (wD mz) = some (wD (T ++ mz)) := add_w (by show _ + 16 ≤ _; omega)
  have a5 : addF (wD T) (wD sz1) = some (wD (T ++ sz1)) := add_w (by show _ + 15 ≤ _; omega)
  have a6 : ∀ a b e f g h i : D, addF (.list [a, b, e, f]) (.list [g, h, i]) = some (.list [a, b, e, f, g, h, i]) := fun a b e f g h i => rfl
  have fin : PyData.list ((bent T s x c).map wD) = .list [wD (T.take s ++ T.drop (s + 1)), wD (T.take s ++ [x] ++ T.drop s), wD (T ++ [10]), wD (T ++ [32]), wD (T.take s ++ [c] ++ T.drop (s + 1)), wD (T ++ mz), wD (T ++ sz1)] := rfl
  rw [fin]
  clear fin lt ld l1
  generalize wD (T.take s ++ T.drop (s + 1)) = b0 at *
  generalize wD (T.take s ++ [x] ++ T.drop s) = b1 at *
  generalize wD (T ++ [10]) = b2 at *
  generalize wD (T ++ [32]) = b3 at *
  generalize wD (T.take s ++ [c] ++ T.drop (s + 1)) = d1 at *
  generalize wD (T.take s ++ [c]) = d2 at *
  generalize wD (T ++ mz) = d4 at *
  generalize wD (T ++ sz1) = d5 at *
  generalize wD (T.take s) = d6 at *
  generalize wD (T.drop (s + 1)) = d8 at *
  generalize wD [c] = d9 at *
  generalize wD T = dT at *
  generalize hw1 : wD mz = e1 at *
  generalize hw2 : wD sz1 = e2 at *
  unfold st8
  simp -implicitDefEqProofs only [lit_mz, lit_sz, hw1, hw2, c1, c3, a2, a3, a4, a5, a6, evs_, Option.bind_some, List.getElem?_cons_zero, List.getElem?_cons_succ, List.set_cons_zero, List.set_cons_succ, List.map_cons, List.map_nil, List.cons_append, List.nil_append, List.length_cons, List.length_nil, Nat.reduceAdd, Nat.reduceSub, Nat.reduceLeDiff, Nat.reduceLT, Bool.not_true, Bool.not_false, decide_true, decide_false]
theorem headA_ok {r : List Int} (R : Rw r) {T : List Nat} (hT : T.length ≤ 6000) (aT : Asc T) {s' : Rd} (go : goR (linesT T) 0 rd0 = .ok s') {s : Nat} (hs : s < T.length) {c : Nat} (hc : c < 1114112) (o0 o2 o3 o4 o8 o9 o10 o11 o12 : Option Sl) :
    outR (headA [o0, vl (.list (r.map PyData.int)), o2, o3, o4, vl (wD T), vi (s : Int), vl (wD [c]), o8, o9, o10, o11, o12]) = .ok (.bool true) := by
  have i2 : ixF (.list (r.map PyData.int)) (.int 2) = some (.int (r.getD 2 0)) := R.at 2 (by decide) (by decide)
  have m7 := f_modP (r.getD 2 0) 7 (by decide)
  obtain ⟨b, hb, pb⟩ := pick7 (bs := bent T s T[s] c) rfl (r.getD 2 0)
  obtain ⟨lb, ab⟩ := bent_ok hT aT s T[s] c (aT _ (List.getElem_mem hs)) hc b hb
  have e7 := st7_eq hT hs o0 (vl (.list (r.map PyData.int))) o2 o3 o4 (vl (wD [c])) o8 o9 o10 o11 o12
  have e8 := st8_eq hT hs c T[s] o0 (vl (.list (r.map PyData.int))) o2 o3 o4 o9 o10 o11 o12
  have eqb : neF (wD b) (wD b) = some (.bool false) := by
    rw [ne_w ab ab]
    simp
  have ta := fun o8 o9 => tailA_ok R hT aT go o0 o2 o3 o4 (vi (s : Int)) (vl (wD [c])) o8 o9 o10 o11 o12
  unfold headA
  rw [ap_sSeq, ap_sSet, e7]
  show outR (seqO (.nx [o0, vl (.list (r.map PyData.int)), o2, o3, o4, vl (wD T), vi (s : Int), vl (wD [c]), vl (.list [wD (T.take s ++ T.drop (s + 1)), wD (T.take s ++ [T[s]] ++ T.drop s), wD (T ++ [10]), wD (T ++ [32])]), o9, o10, o11, o12]) _) = _
  rw [seqO_nx, ap_sSeq, ap_sSet, e8]
  show outR (seqO (.nx [o0, vl (.list (r.map PyData.int)), o2, o3, o4, vl (wD T), vi (s : Int), vl (wD [c]), vl (.list ((bent T s T[s] c).map wD)), o9, o10, o11, o12]) _) = _
  rw [seqO_nx]
  rcases told_any lb ab with ⟨x, td⟩ | ⟨q, td, F, et⟩
  · have il : isiO isLst (.ok (lineD x)) = .ok (.bool true) := rfl
    have ta := ta (vl (.list ((bent T s T[s] c).map wD))) (vl (lineD x))
    clear e7 e8
    generalize PyData.list ((bent T s T[s] c).map wD) = lb at *
    generalize lineD x = dl at *
    generalize wD b = db at *
    generalize wD T = dT at *
    generalize wD [c] = dc at *
    generalize PyData.list (r.map PyData.int) = dr at *
    simp -implicitDefEqProofs only [i2, m7, pb, td, il, Bool.not_true, evs_, Option.bind_some, List.getElem?_cons_zero, List.getElem?_cons_succ, List.set_cons_zero, List.set_cons_succ, List.map_cons, List.map_nil, List.cons_append, List.nil_append, List.length_cons, List.length_nil, Nat.reduceAdd, Nat.reduceSub, Nat.reduceLeDiff, Nat.reduceLT, Bool.not_true, Bool.not_false, decide_true, decide_false]
    exact ta
  · have il : isiO isLst (.ok (toldD q)) = .ok (.bool false) := rfl
    have x0 : ixF (toldD q) (.int 0) = some (shsD q.S) := f_ix0 _ _
    have x1 : ixF (toldD q) (.int 1) = some (psD q.P) := f_ix1 _ _ _
    have x2 : ixF (toldD q) (.int 2) = some (msD' q.M) := f_ix2 _ _ _ _
    have sh := law_shown_eq F
    rw [et] at sh
    have ta := ta (vl (.list ((bent T s T[s] c).map wD))) (vl (toldD q))
    clear e7 e8
    generalize PyData.list ((bent T s T[s] c).map wD) = lb at *
    generalize toldD q = dl at *
    generalize shsD q.S = q1 at *
    generalize psD q.P = q2 at *
    generalize msD' q.M = q3 at *
    generalize wD b = db at *
    generalize wD T = dT at *
    generalize wD [c] = dc at *
    generalize PyData.list (r.map PyData.int) = dr at *
    simp -implicitDefEqProofs only [i2, m7, pb, td, il, x0, x1, x2, sh, eqb, Bool.not_false, evs_, Option.bind_some, List.getElem?_cons_zero, List.getElem?_cons_succ, List.set_cons_zero, List.set_cons_succ, List.map_cons, List.map_nil, List.cons_append, List.nil_append, List.length_cons, List.length_nil, Nat.reduceAdd, Nat.reduceSub, Nat.reduceLeDiff, Nat.reduceLT, Bool.not_true, Bool.not_false, decide_true, decide_false]
    exact ta
theorem new_pick (z : Int) : ∃ c : Nat, c < 1114112 ∧ ixF (.str "0 a\n19") (.int (z % 6)) = some (wD [c]) := by
  have e : PyData.str "0 a\n19" = wD [48, 32, 97, 10, 49, 57] := lit (by kernel_rfl)
  have lt : (z % 6).toNat < [48, 32, 97, 10, 49, 57].length := by
    show (z % 6).toNat < 6
    omega
  refine ⟨[48, 32, 97, 10, 49, 57][(z % 6).toNat], ?_, ?_⟩
  · have : ∀ y ∈ [48, 32, 97, 10, 49, 57], y < 1114112 := by decide
    exact this _ (List.getElem_mem lt)
  · rw [e]
    have := ix_w lt (by decide)
    rw [Int.toNat_of_nonneg (by omega)] at this
    exact this
theorem law_true (ns : List Int) (hn : ns.length ≤ 63) : sem_law [rdL ns] = .ok (.bool true) := by
  obtain ⟨r, er, R⟩ := law_row_eq ns 6 (by decide)
  obtain ⟨m, e, esc, S, m4, h8⟩ := any_scene_eq ns 2 (by decide)
  obtain ⟨ms, ems, MM, h6, sm⟩ := law_marks_eq ns 5 (by decide)
  have sx := shots_x S
  have px := places_x S
  have mx := marks_x ms
  have shw := shw_x S sm
  have bn := bnds_x S (by omega) h8 sm h6
  have F := fit_x shw bn
  have tl6 := text_len shw bn
  have aM : ∀ q ∈ Mkx ms, Asc q.1 := fun q hq => by
    unfold Mkx at hq
    obtain ⟨mm, hmm, rfl⟩ := List.mem_map.mp hq
    obtain ⟨i, en⟩ := (sm mm hmm).nm
    show Asc (tl mm.nm)
    rw [en]
    exact fun c hc => by
      have := (nm7_free i).2.2 c hc
      omega
  have aT := asc_text (S := Sx (m + 1) e) (P := Px (m + 1) e) aM
  obtain ⟨w, go⟩ := read_shown shw
  have lk : lkAll ⟨Sx (m + 1) e, Px (m + 1) e, Mkx ms, w⟩ := by
    refine ⟨?_, ?_, ?_⟩
    · show sem_are_shots [shsD (Sx (m + 1) e)] = _
      rw [← sx]
      exact are_shots_eq S
    · show sem_are_places [shsD (Sx (m + 1) e), psD (Px (m + 1) e)] = _
      rw [← sx, ← px]
      exact are_places_eq S
    · show sem_are_marks [msD' (Mkx ms)] = _
      rw [← mx, are_marks_eq MM.ok MM.len]
      unfold rising
      rw [List.all_eq_true.mpr MM.up]
  have lp := look_places_eq S
  rw [sx, px] at lp esc
  rw [mx] at ems
  have td := told_good (by omega) aT go lk
  have nt : neF (toldD ⟨Sx (m + 1) e, Px (m + 1) e, Mkx ms, w⟩) (.tuple [shsD (Sx (m + 1) e), psD (Px (m + 1) e), msD' (Mkx ms)]) = some (.bool false) := ne_told (s := ⟨Sx (m + 1) e, Px (m + 1) e, Mkx ms, w⟩) aM
  have lsh := law_shown_eq F
  have shn := shown_eq F lp lk.2.2
  generalize hT : textL (allLn (Sx (m + 1) e) (Px (m + 1) e) (Mkx ms)) = T at *
  have tne : 0 < T.length := by
    have := (lines_shown shw).1
    rw [hT] at this
    cases T with
    | nil =>
      have a := shw.ne
      obtain ⟨x, xs, ex⟩ := List.exists_cons_of_ne_nil (all_ne shw)
      rw [ex] at this
      have h := (List.cons.inj this).1
      have : x.words ≠ [] := (words_free shw (ex ▸ List.mem_cons_self)).1
      cases x with
      | shot p =>
        have h : [] = joinL [32] (wShot :: p.map numL) := h
        cases p <;> simp [joinL, wShot] at h
      | row p =>
        have h : [] = joinL [32] (wRow :: p.map numL) := h
        cases p <;> simp [joinL, wRow] at h
      | mark nm q =>
        have h : [] = joinL [32] (wMark :: nm :: q.map numL) := h
        simp [joinL, wMark] at h
    | cons _ _ => simp
  have sf : neF (wD T) (wD T) = some (.bool false) := by
    rw [ne_w aT aT]
    simp
  have i0 : ixF (.list (r.map PyData.int)) (.int 0) = some (.int (r.getD 0 0)) := R.at 0 (by decide) (by decide)
  have i1 : ixF (.list (r.map PyData.int)) (.int 1) = some (.int (r.getD 1 0)) := R.at 1 (by decide) (by decide)
  have mu := f_mul (r.getD 0 0) 13 (.inr (by decide))
  have lT := len_w (a := T) (by omega)
  have mo := f_modP (r.getD 0 0 * 13) (T.length : Int) (by omega)
  obtain ⟨s, es, ls⟩ : ∃ s : Nat, (r.getD 0 0 * 13) % (T.length : Int) = (s : Int) ∧ s < T.length := ⟨((r.getD 0 0 * 13) % (T.length : Int)).toNat, by
    have := Int.emod_nonneg (r.getD 0 0 * 13) (b := (T.length : Int)) (by omega)
    omega, by
    have := Int.emod_lt_of_pos (r.getD 0 0 * 13) (b := (T.length : Int)) (by omega)
    omega⟩
  rw [es] at mo
  have m6 := f_modP (r.getD 1 0) 6 (by decide)
  obtain ⟨c, hc, pc⟩ := new_pick (r.getD 1 0)
  have ha := headA_ok R tl6 aT go ls hc (vl (rdL ns)) (vl (shsD (Sx (m + 1) e))) (vl (psD (Px (m + 1) e))) (vl (msD' (Mkx ms))) none none none none none
  have u : sem_law [rdL ns] = outR (b_law [vl (rdL ns), none, none, none, none, none, none, none, none, none, none, none, none]) := runB_eq 1 13 b_law [rdL ns] rfl
  rw [u, law_is]
  clear lk MM F shw bn u S
  generalize rdL ns = dn at *
  generalize shsD (Sx (m + 1) e) = d1 at *
  generalize psD (Px (m + 1) e) = d2 at *
  generalize msD' (Mkx ms) = d3 at *
  generalize toldD ⟨Sx (m + 1) e, Px (m + 1) e, Mkx ms, w⟩ = d4 at *
  generalize wD T = dT at *
  generalize wD [c] = dc at *
  generalize PyData.list (r.map PyData.int) = dr at *
  simp -implicitDefEqProofs only [er, esc, ems, lsh, shn, sf, td, nt, i0, i1, mu, lT, mo, m6, pc, evs_, Option.bind_some, List.getElem?_cons_zero, List.getElem?_cons_succ, List.set_cons_zero, List.set_cons_succ, List.map_cons, List.map_nil, List.cons_append, List.nil_append, List.length_cons, List.length_nil, Nat.reduceAdd, Nat.reduceSub, Nat.reduceLeDiff, Nat.reduceLT, Bool.not_true, Bool.not_false, decide_true, decide_false]
  exact ha
end VVlaw

set_option Elab.async false
set_option linter.all false
set_option maxRecDepth 100000
set_option maxHeartbeats 0
namespace VVlaw
open PySem PySem.Spec L2 VV
open PyProof.Rows hiding St
def topS (i : Nat) : Stmt := PySem.Challenge.pw_vastview_k31_texts.main.body.getD i (.Pass ⟨0, 0, 0, 0⟩)
def clsS (i j : Nat) : Stmt := match topS i with
  | .ClassDef _ _ _ b _ _ _ _ _ _ _ => b.getD j (.Pass ⟨0, 0, 0, 0⟩)
  | s => s
theorem sx_BadText : FnScope ["self", "line"] ["self", "line"] (defScope (clsS 2 0)) := ⟨rfl, rfl, rfl, by decide +kernel, rfl, by decide +kernel, by decide +kernel⟩
abbrev s_is_within : Stmt := topS 8
theorem sc_is_within : FnScope ["thing", "low", "high"] ["thing", "low", "high"] (defScope s_is_within) := ⟨rfl, rfl, rfl, by decide +kernel, rfl, by decide +kernel, by decide +kernel⟩
abbrev s_is_row : Stmt := topS 13
theorem sc_is_row : FnScope ["thing", "wide", "one"] ["thing", "wide"] (defScope s_is_row) := ⟨rfl, rfl, rfl, by decide +kernel, rfl, by decide +kernel, by decide +kernel⟩
abbrev s_is_shot : Stmt := topS 14
theorem sc_is_shot : FnScope ["thing", "row"] ["thing"] (defScope s_is_shot) := ⟨rfl, rfl, rfl, by decide +kernel, rfl, by decide +kernel, by decide +kernel⟩
abbrev s_are_shots : Stmt := topS 15
theorem sc_are_shots : FnScope ["thing", "one"] ["thing"] (defScope s_are_shots) := ⟨rfl, rfl, rfl, by decide +kernel, rfl, by decide +kernel, by decide +kernel⟩
abbrev s_look_all : Stmt := topS 16
theorem sc_look_all : FnScope ["shots"] ["shots"] (defScope s_look_all) := ⟨rfl, rfl, rfl, by decide +kernel, rfl, by decide +kernel, by decide +kernel⟩
abbrev s_are_places : Stmt := topS 19
theorem sc_are_places : FnScope ["shots", "thing", "place", "one"] ["shots", "thing"] (defScope s_are_places) := ⟨rfl, rfl, rfl, by decide +kernel, rfl, by decide +kernel, by decide +kernel⟩
abbrev s_look_places : Stmt := topS 20
theorem sc_look_places : FnScope ["shots", "places"] ["shots", "places"] (defScope s_look_places) := ⟨rfl, rfl, rfl, by decide +kernel, rfl, by decide +kernel, by decide +kernel⟩
abbrev s_is_name : Stmt := topS 25
theorem sc_is_name : FnScope ["thing", "one"] ["thing"] (defScope s_is_name) := ⟨rfl, rfl, rfl, by decide +kernel, rfl, by decide +kernel, by decide +kernel⟩
abbrev s_is_mark : Stmt := topS 26
theorem sc_is_mark : FnScope ["thing", "one"] ["thing"] (defScope s_is_mark) := ⟨rfl, rfl, rfl, by decide +kernel, rfl, by decide +kernel, by decide +kernel⟩
abbrev s_are_marks : Stmt := topS 27
theorem sc_are_marks : FnScope ["thing", "one", "other"] ["thing"] (defScope s_are_marks) := ⟨rfl, rfl, rfl, by decide +kernel, rfl, by decide +kernel, by decide +kernel⟩
abbrev s_rows_of : Stmt := topS 31
theorem sc_rows_of : FnScope ["shots", "places", "marks", "found", "shot", "x", "y", "mark", "row", "part", "one"] ["shots", "places", "marks"] (defScope s_rows_of) := ⟨rfl, rfl, rfl, by decide +kernel, rfl, by decide +kernel, by decide +kernel⟩
abbrev s_shown : Stmt := topS 32
theorem sc_shown : FnScope ["shots", "places", "marks"] ["shots", "places", "marks"] (defScope s_shown) := ⟨rfl, rfl, rfl, by decide +kernel, rfl, by decide +kernel, by decide +kernel⟩
abbrev s_number_of : Stmt := topS 33
theorem sc_number_of : FnScope ["word", "sign"] ["word"] (defScope s_number_of) := ⟨rfl, rfl, rfl, by decide +kernel, rfl, by decide +kernel, by decide +kernel⟩
abbrev s_numbers_of : Stmt := topS 34
theorem sc_numbers_of : FnScope ["words", "found", "word"] ["words"] (defScope s_numbers_of) := ⟨rfl, rfl, rfl, by decide +kernel, rfl, by decide +kernel, by decide +kernel⟩
abbrev s_line_of : Stmt := topS 35
theorem sc_line_of : FnScope ["line", "first", "words", "numbers"] ["line"] (defScope s_line_of) := ⟨rfl, rfl, rfl, by decide +kernel, rfl, by decide +kernel, by decide +kernel⟩
abbrev s_may_follow : Stmt := topS 36
theorem sc_may_follow : FnScope ["last", "word"] ["last", "word"] (defScope s_may_follow) := ⟨rfl, rfl, rfl, by decide +kernel, rfl, by decide +kernel, by decide +kernel⟩
abbrev s_read : Stmt := topS 37
theorem sc_read : FnScope ["text", "shots", "places", "marks", "last", "number", "line", "found", "some", "rows"] ["text"] (defScope s_read) := ⟨rfl, rfl, rfl, by decide +kernel, rfl, by decide +kernel, by decide +kernel⟩
abbrev s__law_cell : Stmt := topS 39
theorem sc__law_cell : FnScope ["script", "k"] ["script", "k"] (defScope s__law_cell) := ⟨rfl, rfl, rfl, by decide +kernel, rfl, by decide +kernel, by decide +kernel⟩
abbrev s__law_row : Stmt := topS 40
theorem sc__law_row : FnScope ["script", "at", "cell", "found", "time"] ["script", "at"] (defScope s__law_row) := ⟨rfl, rfl, rfl, by decide +kernel, rfl, by decide +kernel, by decide +kernel⟩
abbrev s__law_shot : Stmt := topS 41
theorem sc__law_shot : FnScope ["row", "at", "way", "high", "across", "found", "y", "line", "x", "one"] ["row", "at", "way"] (defScope s__law_shot) := ⟨rfl, rfl, rfl, by decide +kernel, rfl, by decide +kernel, by decide +kernel⟩
abbrev s__law_ground : Stmt := topS 42
theorem sc__law_ground : FnScope ["script", "at", "row", "by", "found", "y", "line", "x", "one"] ["script", "at"] (defScope s__law_ground) := ⟨rfl, rfl, rfl, by decide +kernel, rfl, by decide +kernel, by decide +kernel⟩
abbrev s__law_scene : Stmt := topS 43
theorem sc__law_scene : FnScope ["script", "at", "ground", "row", "places", "sizes", "time", "spot", "x", "y", "across", "down", "shots_here", "more", "left", "top", "place", "line", "one"] ["script", "at"] (defScope s__law_scene) := ⟨rfl, rfl, rfl, by decide +kernel, rfl, by decide +kernel, by decide +kernel⟩
abbrev s__law_any_scene : Stmt := topS 44
theorem sc__law_any_scene : FnScope ["script", "at", "row", "many", "shots_here", "number"] ["script", "at"] (defScope s__law_any_scene) := ⟨rfl, rfl, rfl, by decide +kernel, rfl, by decide +kernel, by decide +kernel⟩
abbrev s__law_marks : Stmt := topS 45
theorem sc__law_marks : FnScope ["script", "at", "row", "found", "time", "spot", "name"] ["script", "at"] (defScope s__law_marks) := ⟨rfl, rfl, rfl, by decide +kernel, rfl, by decide +kernel, by decide +kernel⟩
abbrev s__law_shown : Stmt := topS 46
theorem sc__law_shown : FnScope ["shots_here", "places", "marks_here", "found", "at", "line", "one", "part"] ["shots_here", "places", "marks_here"] (defScope s__law_shown) := ⟨rfl, rfl, rfl, by decide +kernel, rfl, by decide +kernel, by decide +kernel⟩
abbrev s__law_text_told : Stmt := topS 47
theorem sc__law_text_told : FnScope ["text", "e"] ["text"] (defScope s__law_text_told) := ⟨rfl, rfl, rfl, by decide +kernel, rfl, by decide +kernel, by decide +kernel⟩
abbrev s_law : Stmt := topS 48
theorem sc_law : FnScope ["script", "row", "shots_here", "places", "marks_here", "text", "spot", "new", "some", "found", "lines_here", "at", "wrong"] ["script"] (defScope s_law) := ⟨rfl, rfl, rfl, by decide +kernel, rfl, by decide +kernel, by decide +kernel⟩
structure Tx (K : PySem.W.Frag) (mg : Str → Option Value) : Prop where
  free_bool : mg "bool" = none
  free_enumerate : mg "enumerate" = none
  free_int : mg "int" = none
  free_isinstance : mg "isinstance" = none
  free_len : mg "len" = none
  free_list : mg "list" = none
  free_max : mg "max" = none
  free_min : mg "min" = none
  free_range : mg "range" = none
  free_sorted : mg "sorted" = none
  free_str : mg "str" = none
  free_tuple : mg "tuple" = none
  free_zip : mg "zip" = none
  c_FIGURES : ∃ t, mg "FIGURES" = some (.str "0123456789" t)
  c_MOST_LEVEL : ∃ t, mg "MOST_LEVEL" = some (.int 255 t)
  c_MOST_MARKS : ∃ t, mg "MOST_MARKS" = some (.int 12 t)
  c_MOST_PLACE_laying : ∃ t, mg "MOST_PLACE_laying" = some (.int 99 t)
  c_MOST_PLACE_marks : ∃ t, mg "MOST_PLACE_marks" = some (.int 99 t)
  c_MOST_SHOTS : ∃ t, mg "MOST_SHOTS" = some (.int 8 t)
  c_MOST_SIDE : ∃ t, mg "MOST_SIDE" = some (.int 12 t)
  c_MOST_TEXT : ∃ t, mg "MOST_TEXT" = some (.int 60000 t)
  c_SMALL : ∃ t, mg "SMALL" = some (.str "abcdefghijklmnopqrstuvwxyz" t)
  x_BadMarks : ExK K mg "BadMarks"
  x_BadPlaces : ExK K mg "BadPlaces"
  x_BadShots : ExK K mg "BadShots"
  bk_VastError : BasK K mg "VastError"
  xk_BadText : XcK K mg "BadText" "line"
  fx_BadText : ∃ fd, FunD K "__init__" "BadText.__init__" (defArgs (clsS 2 0)) (defBody (clsS 2 0)) (defScope (clsS 2 0)) [] [] (He.ma K (He.ga K "BadText") "__init__") fd
  xg_BadShot : mg "BadShot" = some (.ref (He.ga K "BadShot"))
  xg_BadText : mg "BadText" = some (.ref (He.ga K "BadText"))
  xg_VastError : mg "VastError" = some (.ref (He.ga K "VastError"))
  m_BadMarks_BadText : PySem.W.exmOne K (.ref (He.ga K "BadMarks")) (.ref (He.ga K "BadText")) = some false
  m_BadPlaces_BadText : PySem.W.exmOne K (.ref (He.ga K "BadPlaces")) (.ref (He.ga K "BadText")) = some false
  m_BadShots_BadText : PySem.W.exmOne K (.ref (He.ga K "BadShots")) (.ref (He.ga K "BadText")) = some false
  m_BadText_BadShot : PySem.W.exmOne K (.ref (He.ga K "BadText")) (.ref (He.ga K "BadShot")) = some false
  m_BadText_BadText : PySem.W.exmOne K (.ref (He.ga K "BadText")) (.ref (He.ga K "BadText")) = some true
  m_BadText_VastError : PySem.W.exmOne K (.ref (He.ga K "BadText")) (.ref (He.ga K "VastError")) = some true
  ec_BadText : ExcC K (He.ga K "BadText")
  g_is_within : mg "is_within" = some (.ref (He.ga K "is_within"))
  f_is_within : ∃ fd, FunD K "is_within" "is_within" (defArgs s_is_within) (defBody s_is_within) (defScope s_is_within) [] [] (He.ga K "is_within") fd
  g_is_row : mg "is_row" = some (.ref (He.ga K "is_row"))
  f_is_row : ∃ fd, FunD K "is_row" "is_row" (defArgs s_is_row) (defBody s_is_row) (defScope s_is_row) [] [] (He.ga K "is_row") fd
  g_is_shot : mg "is_shot" = some (.ref (He.ga K "is_shot"))
  f_is_shot : ∃ fd, FunD K "is_shot" "is_shot" (defArgs s_is_shot) (defBody s_is_shot) (defScope s_is_shot) [] [] (He.ga K "is_shot") fd
  g_are_shots : mg "are_shots" = some (.ref (He.ga K "are_shots"))
  f_are_shots : ∃ fd, FunD K "are_shots" "are_shots" (defArgs s_are_shots) (defBody s_are_shots) (defScope s_are_shots) [] [] (He.ga K "are_shots") fd
  g_look_all : mg "look_all" = some (.ref (He.ga K "look_all"))
  f_look_all : ∃ fd, FunD K "look_all" "look_all" (defArgs s_look_all) (defBody s_look_all) (defScope s_look_all) [] [] (He.ga K "look_all") fd
  g_are_places : mg "are_places" = some (.ref (He.ga K "are_places"))
  f_are_places : ∃ fd, FunD K "are_places" "are_places" (defArgs s_are_places) (defBody s_are_places) (defScope s_are_places) [] [] (He.ga K "are_places") fd
  g_look_places : mg "look_places" = some (.ref (He.ga K "look_places"))
  f_look_places : ∃ fd, FunD K "look_places" "look_places" (defArgs s_look_places) (defBody s_look_places) (defScope s_look_places) [] [] (He.ga K "look_places") fd
  g_is_name : mg "is_name" = some (.ref (He.ga K "is_name"))
  f_is_name : ∃ fd, FunD K "is_name" "is_name" (defArgs s_is_name) (defBody s_is_name) (defScope s_is_name) [] [] (He.ga K "is_name") fd
  g_is_mark : mg "is_mark" = some (.ref (He.ga K "is_mark"))
  f_is_mark : ∃ fd, FunD K "is_mark" "is_mark" (defArgs s_is_mark) (defBody s_is_mark) (defScope s_is_mark) [] [] (He.ga K "is_mark") fd
  g_are_marks : mg "are_marks" = some (.ref (He.ga K "are_marks"))
  f_are_marks : ∃ fd, FunD K "are_marks" "are_marks" (defArgs s_are_marks) (defBody s_are_marks) (defScope s_are_marks) [] [] (He.ga K "are_marks") fd
  g_rows_of : mg "rows_of" = some (.ref (He.ga K "rows_of"))
  f_rows_of : ∃ fd, FunD K "rows_of" "rows_of" (defArgs s_rows_of) (defBody s_rows_of) (defScope s_rows_of) [] [] (He.ga K "rows_of") fd
  g_shown : mg "shown" = some (.ref (He.ga K "shown"))
  f_shown : ∃ fd, FunD K "shown" "shown" (defArgs s_shown) (defBody s_shown) (defScope s_shown) [] [] (He.ga K "shown") fd
  g_number_of : mg "number_of" = some (.ref (He.ga K "number_of"))
  f_number_of : ∃ fd, FunD K "number_of" "number_of" (defArgs s_number_of) (defBody s_number_of) (defScope s_number_of) [] [] (He.ga K "number_of") fd
  g_numbers_of : mg "numbers_of" = some (.ref (He.ga K "numbers_of"))
  f_numbers_of : ∃ fd, FunD K "numbers_of" "numbers_of" (defArgs s_numbers_of) (defBody s_numbers_of) (defScope s_numbers_of) [] [] (He.ga K "numbers_of") fd
  g_line_of : mg "line_of" = some (.ref (He.ga K "line_of"))
  f_line_of : ∃ fd, FunD K "line_of" "line_of" (defArgs s_line_of) (defBody s_line_of) (defScope s_line_of) [] [] (He.ga K "line_of") fd
  g_may_follow : mg "may_follow" = some (.ref (He.ga K "may_follow"))
  f_may_follow : ∃ fd, FunD K "may_follow" "may_follow" (defArgs s_may_follow) (defBody s_may_follow) (defScope s_may_follow) [] [] (He.ga K "may_follow") fd
  g_read : mg "read" = some (.ref (He.ga K "read"))
  f_read : ∃ fd, FunD K "read" "read" (defArgs s_read) (defBody s_read) (defScope s_read) [] [] (He.ga K "read") fd
  g__law_cell : mg "_law_cell" = some (.ref (He.ga K "_law_cell"))
  f__law_cell : ∃ fd, FunD K "_law_cell" "_law_cell" (defArgs s__law_cell) (defBody s__law_cell) (defScope s__law_cell) [] [] (He.ga K "_law_cell") fd
  g__law_row : mg "_law_row" = some (.ref (He.ga K "_law_row"))
  f__law_row : ∃ fd, FunD K "_law_row" "_law_row" (defArgs s__law_row) (defBody s__law_row) (defScope s__law_row) [] [] (He.ga K "_law_row") fd
  g__law_shot : mg "_law_shot" = some (.ref (He.ga K "_law_shot"))
  f__law_shot : ∃ fd, FunD K "_law_shot" "_law_shot" (defArgs s__law_shot) (defBody s__law_shot) (defScope s__law_shot) [] [] (He.ga K "_law_shot") fd
  g__law_ground : mg "_law_ground" = some (.ref (He.ga K "_law_ground"))
  f__law_ground : ∃ fd, FunD K "_law_ground" "_law_ground" (defArgs s__law_ground) (defBody s__law_ground) (defScope s__law_ground) [] [] (He.ga K "_law_ground") fd
  g__law_scene : mg "_law_scene" = some (.ref (He.ga K "_law_scene"))
  f__law_scene : ∃ fd, FunD K "_law_scene" "_law_scene" (defArgs s__law_scene) (defBody s__law_scene) (defScope s__law_scene) [] [] (He.ga K "_law_scene") fd
  g__law_any_scene : mg "_law_any_scene" = some (.ref (He.ga K "_law_any_scene"))
  f__law_any_scene : ∃ fd, FunD K "_law_any_scene" "_law_any_scene" (defArgs s__law_any_scene) (defBody s__law_any_scene) (defScope s__law_any_scene) [] [] (He.ga K "_law_any_scene") fd
  g__law_marks : mg "_law_marks" = some (.ref (He.ga K "_law_marks"))
  f__law_marks : ∃ fd, FunD K "_law_marks" "_law_marks" (defArgs s__law_marks) (defBody s__law_marks) (defScope s__law_marks) [] [] (He.ga K "_law_marks") fd
  g__law_shown : mg "_law_shown" = some (.ref (He.ga K "_law_shown"))
  f__law_shown : ∃ fd, FunD K "_law_shown" "_law_shown" (defArgs s__law_shown) (defBody s__law_shown) (defScope s__law_shown) [] [] (He.ga K "_law_shown") fd
  g__law_text_told : mg "_law_text_told" = some (.ref (He.ga K "_law_text_told"))
  f__law_text_told : ∃ fd, FunD K "_law_text_told" "_law_text_told" (defArgs s__law_text_told) (defBody s__law_text_told) (defScope s__law_text_told) [] [] (He.ga K "_law_text_told") fd
  g_law : mg "law" = some (.ref (He.ga K "law"))
  f_law : ∃ fd, FunD K "law" "law" (defArgs s_law) (defBody s_law) (defScope s_law) [] [] (He.ga K "law") fd
section
variable {P : Program} {w : World} {K : PySem.W.Frag} {mg : Str → Option Value} {base : Heap}
theorem only_BadText (c : Str) (h : sub_BadText c = some true) : c = "BadText" := by
  unfold sub_BadText at h
  repeat
    first
    | assumption
    | (split at h; first | assumption | cases h | skip)
  all_goals first | assumption | cases h
theorem hsub_BadText (T : Tx K mg) (c : Str) (b : Bool) (h : sub_BadText c = some b) : PySem.W.exmOne K (.ref (He.ga K c)) (.ref (He.ga K "BadText")) = some b := by
  unfold sub_BadText at h
  by_cases z : c = "BadMarks"
  · rw [if_pos z] at h
    cases h
    subst z
    exact T.m_BadMarks_BadText
  rw [if_neg z] at h
  clear z
  by_cases z : c = "BadPlaces"
  · rw [if_pos z] at h
    cases h
    subst z
    exact T.m_BadPlaces_BadText
  rw [if_neg z] at h
  clear z
  by_cases z : c = "BadShots"
  · rw [if_pos z] at h
    cases h
    subst z
    exact T.m_BadShots_BadText
  rw [if_neg z] at h
  clear z
  by_cases z : c = "BadText"
  · rw [if_pos z] at h
    cases h
    subst z
    exact T.m_BadText_BadText
  rw [if_neg z] at h
  clear z
  cases h
theorem ok_X_BadText (T : Tx K mg) : XdK P w K mg base "BadText" "line" 1 := by
  obtain ⟨fd, F⟩ := T.fx_BadText
  refine ⟨T.xk_BadText, fd, _, fn_exc (m := "no text") F sx_BadText T.xk_BadText.oex T.xk_BadText.nof (fun cdv A outer s H E => ?_) 0, F.bindsN (ps := ["self", "line"]) fun _ _ _ _ _ _ us hl => match us, hl with | [_, _], _ => rfl⟩
  exact pss_cons (ps_expr (pe_base T.bk_VastError (pa_cons (pe_var (i := 0) rfl (by first | exact Or.inl rfl | exact Or.inr (Or.inl rfl) | exact Or.inr (Or.inr rfl))) (pa_cons pe_str pa_nil)))) (pss_one (ps_ost (pe_var (i := 0) rfl (by first | exact Or.inl rfl | exact Or.inr (Or.inl rfl) | exact Or.inr (Or.inr rfl))) (pe_var (i := 1) rfl (by first | exact Or.inl rfl | exact Or.inr (Or.inl rfl) | exact Or.inr (Or.inr rfl)))))
theorem ok_is_within (T : Tx K mg)  : Dn P w K mg base "is_within" 1 3 sem_is_within := by
  obtain ⟨fd, F⟩ := T.f_is_within
  refine ⟨_, fd, _, T.g_is_within, fn_sem (k := 0) (f := b_is_within) F sc_is_within ?_, F.kp, F.bindsN (ps := ["thing", "low", "high"]) fun _ _ _ _ _ _ us hl => match us, hl with | [_, _, _], _ => rfl⟩
  intro cdv A outer s H E hr tk hp
  exact (ss_one (ss_ret (se_and (se_isi kit_int T.free_isinstance T.free_int (seb (se_v 0))) (se_and (se_not (seb (se_isi kit_bool T.free_isinstance T.free_bool (seb (se_v 0))))) (se_one (se_chain op_leD op_leD (fun _ _ _ => cmpF_b) (seb (se_v 1)) (seb (se_v 0)) (seb (se_v 2))))))))
theorem ok_is_row (T : Tx K mg) (d_is_within : Dn P w K mg base "is_within" 1 3 sem_is_within) : Dn P w K mg base "is_row" 2 2 sem_is_row := by
  obtain ⟨fd, F⟩ := T.f_is_row
  refine ⟨_, fd, _, T.g_is_row, fn_sem (k := 1) (f := b_is_row) F sc_is_row ?_, F.kp, F.bindsN (ps := ["thing", "wide"]) fun _ _ _ _ _ _ us hl => match us, hl with | [_, _], _ => rfl⟩
  intro cdv A outer s H E hr tk hp
  exact (ss_cons (ss_if (st_w (sw_or (st_not (st_tru (seb (se_isi kit_tup T.free_isinstance T.free_tuple (seb (se_v 0)))))) (sw_or1 (st_cmp (op_neX hr) (fun _ _ _ => neF_b) (seb (se_cb cl_len T.free_len (sba_cons (seb (se_v 0)) sba_nil))) (seb (se_v 1)))))) (ss_one (ss_ret se_bl)) ss_nil) (ss_one (ss_ret (se_not (snb (sn_lc (own := [("one", 2)]) sc_is_row.nd (si_seq (seb (se_v 0))) (blkOk_by (own := [("one", 2)]) (by kernel_rfl)) (fun _ _ _ _ _ => (sg_nm (i := 2) sc_is_row.nd)) (fun _ _ _ _ _ => (sts_one (st_not (st_tru (seb (se_call d_is_within (hr.mono (by decide)) takes0 (sa_cons (se_v 2) (sa_cons se_int (sa_cons (se_globI T.c_MOST_LEVEL) sa_nil))))))))) (fun _ _ _ _ _ => (se_v 2))))))))
theorem ok_is_shot (T : Tx K mg) (d_is_row : Dn P w K mg base "is_row" 2 2 sem_is_row) : Dn P w K mg base "is_shot" 3 1 sem_is_shot := by
  obtain ⟨fd, F⟩ := T.f_is_shot
  refine ⟨_, fd, _, T.g_is_shot, fn_sem (k := 2) (f := b_is_shot) F sc_is_shot ?_, F.kp, F.bindsN (ps := ["thing"]) fun _ _ _ _ _ _ us hl => match us, hl with | [_], _ => rfl⟩
  intro cdv A outer s H E hr tk hp
  exact (ss_cons (ss_if (st_w (sw_or (st_not (st_tru (seb (se_isi kit_tup T.free_isinstance T.free_tuple (seb (se_v 0)))))) (sw_or (st_not (st_chain op_leD op_leD (fun _ _ _ => cmpF_b) (fun _ _ _ => cmpF_b) (seb se_int) (seb (se_cb cl_len T.free_len (sba_cons (seb (se_v 0)) sba_nil))) (seb (se_globI T.c_MOST_SIDE)))) (sw_or1 (st_not (st_tru (seb (se_isi kit_tup T.free_isinstance T.free_tuple (seb (se_ix (seb (se_v 0)) (seb se_int))))))))))) (ss_one (ss_ret se_bl)) ss_nil) (ss_cons (ss_if (st_not (st_chain op_leD op_leD (fun _ _ _ => cmpF_b) (fun _ _ _ => cmpF_b) (seb se_int) (seb (se_cb cl_len T.free_len (sba_cons (seb (se_ix (seb (se_v 0)) (seb se_int))) sba_nil))) (seb (se_globI T.c_MOST_SIDE)))) (ss_one (ss_ret se_bl)) ss_nil) (ss_one (ss_ret (se_not (snb (sn_lc (own := [("row", 1)]) sc_is_shot.nd (si_seq (seb (se_v 0))) (blkOk_by (own := [("row", 1)]) (by kernel_rfl)) (fun _ _ _ _ _ => (sg_nm (i := 1) sc_is_shot.nd)) (fun _ _ _ _ _ => (sts_one (st_not (st_tru (seb (se_call d_is_row (hr.mono (by decide)) takes0 (sa_cons (se_v 1) (sa_cons (se_cb cl_len T.free_len (sba_cons (seb (se_ix (seb (se_v 0)) (seb se_int))) sba_nil)) sa_nil)))))))) (fun _ _ _ _ _ => (se_v 1)))))))))
theorem ok_are_shots (T : Tx K mg) (d_is_shot : Dn P w K mg base "is_shot" 3 1 sem_is_shot) : Dn P w K mg base "are_shots" 4 1 sem_are_shots := by
  obtain ⟨fd, F⟩ := T.f_are_shots
  refine ⟨_, fd, _, T.g_are_shots, fn_sem (k := 3) (f := b_are_shots) F sc_are_shots ?_, F.kp, F.bindsN (ps := ["thing"]) fun _ _ _ _ _ _ us hl => match us, hl with | [_], _ => rfl⟩
  intro cdv A outer s H E hr tk hp
  exact (ss_one (ss_ret (se_and (se_isi kit_tup T.free_isinstance T.free_tuple (seb (se_v 0))) (se_and (se_chain op_leD op_leD (fun _ _ _ => cmpF_b) (seb se_int) (seb (se_cb cl_len T.free_len (sba_cons (seb (se_v 0)) sba_nil))) (seb (se_globI T.c_MOST_SHOTS))) (se_one (se_not (snb (sn_lc (own := [("one", 1)]) sc_are_shots.nd (si_seq (seb (se_v 0))) (blkOk_by (own := [("one", 1)]) (by kernel_rfl)) (fun _ _ _ _ _ => (sg_nm (i := 1) sc_are_shots.nd)) (fun _ _ _ _ _ => (sts_one (st_not (st_tru (seb (se_call d_is_shot (hr.mono (by decide)) takes0 (sa_cons (se_v 1) sa_nil))))))) (fun _ _ _ _ _ => (se_v 1))))))))))
theorem ok_look_all (T : Tx K mg) (d_are_shots : Dn P w K mg base "are_shots" 4 1 sem_are_shots) : Dn P w K mg base "look_all" 5 1 sem_look_all := by
  obtain ⟨fd, F⟩ := T.f_look_all
  refine ⟨_, fd, _, T.g_look_all, fn_sem (k := 4) (f := b_look_all) F sc_look_all ?_, F.kp, F.bindsN (ps := ["shots"]) fun _ _ _ _ _ _ us hl => match us, hl with | [_], _ => rfl⟩
  intro cdv A outer s H E hr tk hp
  exact (ss_one (ss_if (st_not (st_tru (seb (se_call d_are_shots (hr.mono (by decide)) tk (sa_cons (se_v 0) sa_nil))))) (ss_one (ss_raise tk T.x_BadShots)) ss_nil))
theorem ok_are_places (T : Tx K mg) (d_is_within : Dn P w K mg base "is_within" 1 3 sem_is_within) : Dn P w K mg base "are_places" 2 2 sem_are_places := by
  obtain ⟨fd, F⟩ := T.f_are_places
  refine ⟨_, fd, _, T.g_are_places, fn_sem (k := 1) (f := b_are_places) F sc_are_places ?_, F.kp, F.bindsN (ps := ["shots", "thing"]) fun _ _ _ _ _ _ us hl => match us, hl with | [_, _], _ => rfl⟩
  intro cdv A outer s H E hr tk hp
  exact (ss_cons (ss_if (st_w (sw_or (st_not (st_tru (seb (se_isi kit_tup T.free_isinstance T.free_tuple (seb (se_v 1)))))) (sw_or1 (st_cmp (op_neX hr) (fun _ _ _ => neF_b) (seb (se_cb cl_len T.free_len (sba_cons (seb (se_v 1)) sba_nil))) (seb (se_cb cl_len T.free_len (sba_cons (seb (se_v 0)) sba_nil))))))) (ss_one (ss_ret se_bl)) ss_nil) (ss_cons (ss_for (f := lp_are_places_1) hp (sis_seq (se_v 1)) (sg_nm (i := 2) sc_are_places.nd) (ss_cons (ss_if (st_w (sw_or (st_not (st_tru (seb (se_isi kit_tup T.free_isinstance T.free_tuple (seb (se_v 2)))))) (sw_or1 (st_cmp (op_neX hr) (fun _ _ _ => neF_b) (seb (se_cb cl_len T.free_len (sba_cons (seb (se_v 2)) sba_nil))) (seb se_int))))) (ss_one (ss_ret se_bl)) ss_nil) (ss_one (ss_if (st_tru (snb (sn_lc (own := [("one", 3)]) sc_are_places.nd (si_seq (seb (se_v 2))) (blkOk_by (own := [("one", 3)]) (by kernel_rfl)) (fun _ _ _ _ _ => (sg_nm (i := 3) sc_are_places.nd)) (fun _ _ _ _ _ => (sts_one (st_not (st_tru (seb (se_call d_is_within (hr.mono (by decide)) takes0 (sa_cons (se_v 3) (sa_cons se_int (sa_cons (se_globI T.c_MOST_PLACE_laying) sa_nil))))))))) (fun _ _ _ _ _ => (se_v 3))))) (ss_one (ss_ret se_bl)) ss_nil)))) (ss_one (ss_ret se_bl))))
theorem ok_look_places (T : Tx K mg) (d_look_all : Dn P w K mg base "look_all" 5 1 sem_look_all) (d_are_places : Dn P w K mg base "are_places" 2 2 sem_are_places) : Dn P w K mg base "look_places" 6 2 sem_look_places := by
  obtain ⟨fd, F⟩ := T.f_look_places
  refine ⟨_, fd, _, T.g_look_places, fn_sem (k := 5) (f := b_look_places) F sc_look_places ?_, F.kp, F.bindsN (ps := ["shots", "places"]) fun _ _ _ _ _ _ us hl => match us, hl with | [_, _], _ => rfl⟩
  intro cdv A outer s H E hr tk hp
  exact (ss_cons (ss_drop (se_call d_look_all (hr.mono (by decide)) tk (sa_cons (se_v 0) sa_nil))) (ss_one (ss_if (st_not (st_tru (seb (se_call d_are_places (hr.mono (by decide)) tk (sa_cons (se_v 0) (sa_cons (se_v 1) sa_nil)))))) (ss_one (ss_raise tk T.x_BadPlaces)) ss_nil)))
theorem ok_is_name (T : Tx K mg)  : Dn P w K mg base "is_name" 1 1 sem_is_name := by
  obtain ⟨fd, F⟩ := T.f_is_name
  refine ⟨_, fd, _, T.g_is_name, fn_sem (k := 0) (f := b_is_name) F sc_is_name ?_, F.kp, F.bindsN (ps := ["thing"]) fun _ _ _ _ _ _ us hl => match us, hl with | [_], _ => rfl⟩
  intro cdv A outer s H E hr tk hp
  exact (ss_one (ss_ret (se_and (se_isi kit_str T.free_isinstance T.free_str (seb (se_v 0))) (se_and (se_chain op_leD op_leD (fun _ _ _ => cmpF_b) (seb se_int) (seb (se_cb cl_len T.free_len (sba_cons (seb (se_v 0)) sba_nil))) (seb se_int)) (se_one (se_not (snb (sn_lc (own := [("one", 1)]) sc_is_name.nd (si_seq (seb (se_v 0))) (blkOk_by (own := [("one", 1)]) (by kernel_rfl)) (fun _ _ _ _ _ => (sg_nm (i := 1) sc_is_name.nd)) (fun _ _ _ _ _ => (sts_one (st_cmp (op_ninX hr) (fun _ _ _ => ninF_b) (seb (se_v 1)) (seb (se_globS T.c_SMALL)) (hm := by rfl)))) (fun _ _ _ _ _ => (se_v 1))))))))))
theorem ok_is_mark (T : Tx K mg) (d_is_name : Dn P w K mg base "is_name" 1 1 sem_is_name) (d_is_within : Dn P w K mg base "is_within" 1 3 sem_is_within) : Dn P w K mg base "is_mark" 2 1 sem_is_mark := by
  obtain ⟨fd, F⟩ := T.f_is_mark
  refine ⟨_, fd, _, T.g_is_mark, fn_sem (k := 1) (f := b_is_mark) F sc_is_mark ?_, F.kp, F.bindsN (ps := ["thing"]) fun _ _ _ _ _ _ us hl => match us, hl with | [_], _ => rfl⟩
  intro cdv A outer s H E hr tk hp
  exact (ss_cons (ss_if (st_w (sw_or (st_not (st_tru (seb (se_isi kit_tup T.free_isinstance T.free_tuple (seb (se_v 0)))))) (sw_or (st_cmp (op_neX hr) (fun _ _ _ => neF_b) (seb (se_cb cl_len T.free_len (sba_cons (seb (se_v 0)) sba_nil))) (seb se_int)) (sw_or1 (st_not (st_tru (seb (se_call d_is_name (hr.mono (by decide)) tk (sa_cons (se_ix (seb (se_v 0)) (seb se_int)) sa_nil))))))))) (ss_one (ss_ret se_bl)) ss_nil) (ss_cons (ss_if (st_tru (snb (sn_lc (own := [("one", 1)]) sc_is_mark.nd (si_seq (seb (se_sl (seb (se_v 0)) (so_some (seb se_int)) (so_some (seb se_int))))) (blkOk_by (own := [("one", 1)]) (by kernel_rfl)) (fun _ _ _ _ _ => (sg_nm (i := 1) sc_is_mark.nd)) (fun _ _ _ _ _ => (sts_one (st_not (st_tru (seb (se_call d_is_within (hr.mono (by decide)) takes0 (sa_cons (se_v 1) (sa_cons se_int (sa_cons (se_globI T.c_MOST_PLACE_marks) sa_nil))))))))) (fun _ _ _ _ _ => (se_v 1))))) (ss_one (ss_ret se_bl)) ss_nil) (ss_one (ss_ret (se_not (snb (sn_lc (own := [("one", 1)]) sc_is_mark.nd (si_seq (seb (se_sl (seb (se_v 0)) (so_some (seb se_int)) so_none))) (blkOk_by (own := [("one", 1)]) (by kernel_rfl)) (fun _ _ _ _ _ => (sg_nm (i := 1) sc_is_mark.nd)) (fun _ _ _ _ _ => (sts_one (st_not (st_tru (seb (se_call d_is_within (hr.mono (by decide)) takes0 (sa_cons (se_v 1) (sa_cons se_int (sa_cons (se_globI T.c_MOST_PLACE_marks) sa_nil))))))))) (fun _ _ _ _ _ => (se_v 1)))))))))
theorem ok_are_marks (T : Tx K mg) (d_is_mark : Dn P w K mg base "is_mark" 2 1 sem_is_mark) : Dn P w K mg base "are_marks" 3 1 sem_are_marks := by
  obtain ⟨fd, F⟩ := T.f_are_marks
  refine ⟨_, fd, _, T.g_are_marks, fn_sem (k := 2) (f := b_are_marks) F sc_are_marks ?_, F.kp, F.bindsN (ps := ["thing"]) fun _ _ _ _ _ _ us hl => match us, hl with | [_], _ => rfl⟩
  intro cdv A outer s H E hr tk hp
  exact (ss_cons (ss_if (st_w (sw_or (st_not (st_tru (seb (se_isi kit_tup T.free_isinstance T.free_tuple (seb (se_v 0)))))) (sw_or (st_cmp op_gtD (fun _ _ _ => cmpF_b) (seb (se_cb cl_len T.free_len (sba_cons (seb (se_v 0)) sba_nil))) (seb (se_globI T.c_MOST_MARKS))) (sw_or1 (st_tru (snb (sn_lc (own := [("one", 1)]) sc_are_marks.nd (si_seq (seb (se_v 0))) (blkOk_by (own := [("one", 1)]) (by kernel_rfl)) (fun _ _ _ _ _ => (sg_nm (i := 1) sc_are_marks.nd)) (fun _ _ _ _ _ => (sts_one (st_not (st_tru (seb (se_call d_is_mark (hr.mono (by decide)) takes0 (sa_cons (se_v 1) sa_nil))))))) (fun _ _ _ _ _ => (se_v 1))))))))) (ss_one (ss_ret se_bl)) ss_nil) (ss_one (ss_ret (se_not (snb (sn_lc (own := [("one", 1), ("other", 2)]) sc_are_marks.nd (si_zip T.free_zip (sba_cons (seb (se_v 0)) (sba_cons (seb (se_sl (seb (se_v 0)) (so_some (seb se_int)) so_none)) sba_nil))) (blkOk_by (own := [("one", 1), ("other", 2)]) (by kernel_rfl)) (fun _ _ _ _ _ => (sg_tp (sgs_cons (sg_nm (i := 1) sc_are_marks.nd) (sgs_cons (sg_nm (i := 2) sc_are_marks.nd) sgs_nil)))) (fun _ _ _ _ _ => (sts_one (st_cmp op_geD (fun _ _ _ => cmpF_b) (seb (se_ix (seb (se_v 1)) (seb se_int))) (seb (se_ix (seb (se_v 2)) (seb se_int)))))) (fun _ _ _ _ _ => se_int)))))))
theorem ok_rows_of (T : Tx K mg)  : Dn P w K mg base "rows_of" 1 3 sem_rows_of := by
  obtain ⟨fd, F⟩ := T.f_rows_of
  refine ⟨_, fd, _, T.g_rows_of, fn_sem (k := 0) (f := b_rows_of) F sc_rows_of ?_, F.kp, F.bindsN (ps := ["shots", "places", "marks"]) fun _ _ _ _ _ _ us hl => match us, hl with | [_, _, _], _ => rfl⟩
  intro cdv A outer s H E hr tk hp
  exact (ss_cons (ss_own (i := 3) sc_rows_of.nd (sn_lst sa_nil)) (ss_cons (ss_for (f := lp_rows_of_1) hp (sis_zip T.free_zip (sa_cons (se_v 0) (sa_cons (se_v 1) sa_nil))) (sg_tp (sgs_cons (sg_nm (i := 4) sc_rows_of.nd) (sgs_cons (sg_tp (sgs_cons (sg_nm (i := 5) sc_rows_of.nd) (sgs_cons (sg_nm (i := 6) sc_rows_of.nd) sgs_nil))) sgs_nil))) (ss_cons (ss_app 3 (se_fs (.cons se_str (.cons (se_fmt (se_v 5)) (.cons se_str (.cons (se_fmt (se_v 6)) .nil)))))) (ss_one (ss_ext 3 (snb (sn_lc (own := [("row", 8)]) sc_rows_of.nd (si_seq (seb (se_v 4))) (blkOk_by (own := [("row", 8)]) (by kernel_rfl)) (fun _ _ _ _ _ => (sg_nm (i := 8) sc_rows_of.nd)) (fun _ _ _ _ _ => sts_nil) (fun _ _ _ _ _ => (se_op op_addD (seb se_str) (seb (se_join (seb se_str) (snb (sn_lc (own := [("one", 10)]) sc_rows_of.nd (si_seq (seb (se_v 8))) (blkOk_by (own := [("one", 10)]) (by kernel_rfl)) (fun _ _ _ _ _ => (sg_nm (i := 10) sc_rows_of.nd)) (fun _ _ _ _ _ => sts_nil) (fun _ _ _ _ _ => (se_ct cl_strI T.free_str (sba_cons (seb (se_v 10)) sba_nil))))))))))))))) (ss_one (ss_ret (se_op op_addD (sb_v 3) (snb (sn_lc (own := [("mark", 7)]) sc_rows_of.nd (si_seq (seb (se_v 2))) (blkOk_by (own := [("mark", 7)]) (by kernel_rfl)) (fun _ _ _ _ _ => (sg_nm (i := 7) sc_rows_of.nd)) (fun _ _ _ _ _ => sts_nil) (fun _ _ _ _ _ => (se_join (seb se_str) (seb (se_op op_addD (snb (sn_lst (sa_cons se_str sa_nil))) (snb (sn_lc (own := [("part", 9)]) sc_rows_of.nd (si_seq (seb (se_v 7))) (blkOk_by (own := [("part", 9)]) (by kernel_rfl)) (fun _ _ _ _ _ => (sg_nm (i := 9) sc_rows_of.nd)) (fun _ _ _ _ _ => sts_nil) (fun _ _ _ _ _ => (se_ct cl_strI T.free_str (sba_cons (seb (se_v 9)) sba_nil))))))))))))))))
theorem ok_shown (T : Tx K mg) (d_look_places : Dn P w K mg base "look_places" 6 2 sem_look_places) (d_are_marks : Dn P w K mg base "are_marks" 3 1 sem_are_marks) (d_rows_of : Dn P w K mg base "rows_of" 1 3 sem_rows_of) : Dn P w K mg base "shown" 7 3 sem_shown := by
  obtain ⟨fd, F⟩ := T.f_shown
  refine ⟨_, fd, _, T.g_shown, fn_sem (k := 6) (f := b_shown) F sc_shown ?_, F.kp, F.bindsN (ps := ["shots", "places", "marks"]) fun _ _ _ _ _ _ us hl => match us, hl with | [_, _, _], _ => rfl⟩
  intro cdv A outer s H E hr tk hp
  exact (ss_cons (ss_drop (se_call d_look_places (hr.mono (by decide)) tk (sa_cons (se_v 0) (sa_cons (se_v 1) sa_nil)))) (ss_cons (ss_if (st_not (st_tru (seb (se_call d_are_marks (hr.mono (by decide)) tk (sa_cons (se_v 2) sa_nil))))) (ss_one (ss_raise tk T.x_BadMarks)) ss_nil) (ss_one (ss_ret (se_join (seb se_str) (seb (se_call d_rows_of (hr.mono (by decide)) tk (sa_cons (se_v 0) (sa_cons (se_v 1) (sa_cons (se_v 2) sa_nil))))))))))
theorem ok_number_of (T : Tx K mg)  : Dn P w K mg base "number_of" 1 1 sem_number_of := by
  obtain ⟨fd, F⟩ := T.f_number_of
  refine ⟨_, fd, _, T.g_number_of, fn_sem (k := 0) (f := b_number_of) F sc_number_of ?_, F.kp, F.bindsN (ps := ["word"]) fun _ _ _ _ _ _ us hl => match us, hl with | [_], _ => rfl⟩
  intro cdv A outer s H E hr tk hp
  exact (ss_cons (ss_if (st_w (sw_or (st_not (st_chain op_leD op_leD (fun _ _ _ => cmpF_b) (fun _ _ _ => cmpF_b) (seb se_int) (seb (se_cb cl_len T.free_len (sba_cons (seb (se_v 0)) sba_nil))) (seb se_int))) (sw_or1 (st_tru (snb (sn_lc (own := [("sign", 1)]) sc_number_of.nd (si_seq (seb (se_v 0))) (blkOk_by (own := [("sign", 1)]) (by kernel_rfl)) (fun _ _ _ _ _ => (sg_nm (i := 1) sc_number_of.nd)) (fun _ _ _ _ _ => (sts_one (st_cmp (op_ninX hr) (fun _ _ _ => ninF_b) (seb (se_v 1)) (seb (se_globS T.c_FIGURES)) (hm := by rfl)))) (fun _ _ _ _ _ => (se_v 1)))))))) (ss_one (ss_ret se_non)) ss_nil) (ss_one (ss_ret (se_if (st_cmp (op_eqX hr) (fun _ _ _ => eqF_b) (seb (se_ct cl_strI T.free_str (sba_cons (seb (se_ct cl_intT T.free_int (sba_cons (seb (se_v 0)) sba_nil))) sba_nil))) (seb (se_v 0))) (se_ct cl_intT T.free_int (sba_cons (seb (se_v 0)) sba_nil)) se_non))))
theorem ok_numbers_of (T : Tx K mg) (d_number_of : Dn P w K mg base "number_of" 1 1 sem_number_of) : Dn P w K mg base "numbers_of" 2 1 sem_numbers_of := by
  obtain ⟨fd, F⟩ := T.f_numbers_of
  refine ⟨_, fd, _, T.g_numbers_of, fn_sem (k := 1) (f := b_numbers_of) F sc_numbers_of ?_, F.kp, F.bindsN (ps := ["words"]) fun _ _ _ _ _ _ us hl => match us, hl with | [_], _ => rfl⟩
  intro cdv A outer s H E hr tk hp
  exact (ss_cons (ss_setLc (i := 1) (own := [("word", 2)]) sc_numbers_of.nd (si_seq (seb (se_v 0))) (blkOk_by (own := [("word", 2)]) (by kernel_rfl)) (fun _ _ _ _ _ => (sg_nm (i := 2) sc_numbers_of.nd)) (fun _ _ _ _ _ => sts_nil) (fun _ _ _ _ _ => (se_call d_number_of (hr.mono (by decide)) takes0 (sa_cons (se_v 2) sa_nil))) (sw_true rfl rfl rfl (by kernel_rfl))) (ss_one (ss_ret (se_if (st_cmp (op_inX hr) (fun _ _ _ => inF_b) (seb se_non) (seb (se_v 1)) (hm := by rfl)) se_non (se_ct cl_tup T.free_tuple (sba_cons (seb (se_v 1)) sba_nil))))))
theorem ok_line_of (T : Tx K mg) (d_numbers_of : Dn P w K mg base "numbers_of" 2 1 sem_numbers_of) : Dn P w K mg base "line_of" 3 1 sem_line_of := by
  obtain ⟨fd, F⟩ := T.f_line_of
  refine ⟨_, fd, _, T.g_line_of, fn_sem (k := 2) (f := b_line_of) F sc_line_of ?_, F.kp, F.bindsN (ps := ["line"]) fun _ _ _ _ _ _ us hl => match us, hl with | [_], _ => rfl⟩
  intro cdv A outer s H E hr tk hp
  exact (ss_cons (ss_star (sne (sn_split (seb (se_v 0)) (seb se_str))) (sgs_star (sg_nm (i := 1) sc_line_of.nd) (sg_nm (i := 2) sc_line_of.nd))) (ss_cons (ss_if (st_w (sw_and (st_cmp (op_eqX hr) (fun _ _ _ => eqF_b) (seb (se_v 1)) (seb se_str)) (sw_and (st_cmp (op_eqX hr) (fun _ _ _ => eqF_b) (seb (se_cb cl_len T.free_len (sba_cons (seb (se_v 2)) sba_nil))) (seb se_int)) (sw_and1 (st_cmp (op_neX hr) (fun _ _ _ => neF_b) (seb (se_ix (seb (se_v 2)) (seb se_int))) (seb se_str)))))) (ss_cons (ss_set (i := 3) sc_line_of.nd (se_call d_numbers_of (hr.mono (by decide)) tk (sa_cons (se_sl (seb (se_v 2)) (so_some (seb se_int)) so_none) sa_nil))) (ss_one (ss_ret (se_if (st_cmp op_isX (fun _ _ _ => isF_b) (seb (se_v 3)) (seb se_non)) se_non (se_tup (sa_cons (se_v 1) (sa_cons (se_op op_addD (seb (se_tup (sa_cons (se_ix (seb (se_v 2)) (seb se_int)) sa_nil))) (seb (se_v 3))) sa_nil))))))) ss_nil) (ss_cons (ss_if (st_w (sw_or (st_cmp (op_ninX hr) (fun _ _ _ => ninF_b) (seb (se_v 1)) (seb (se_tup (sa_cons se_str (sa_cons se_str sa_nil)))) (hm := by rfl)) (sw_or (st_not (st_tru (seb (se_v 2)))) (sw_or1 (st_w (sw_and (st_cmp (op_eqX hr) (fun _ _ _ => eqF_b) (seb (se_v 1)) (seb se_str)) (sw_and1 (st_cmp (op_neX hr) (fun _ _ _ => neF_b) (seb (se_cb cl_len T.free_len (sba_cons (seb (se_v 2)) sba_nil))) (seb se_int))))))))) (ss_one (ss_ret se_non)) ss_nil) (ss_cons (ss_set (i := 3) sc_line_of.nd (se_call d_numbers_of (hr.mono (by decide)) tk (sa_cons (se_v 2) sa_nil))) (ss_one (ss_ret (se_if (st_cmp op_isX (fun _ _ _ => isF_b) (seb (se_v 3)) (seb se_non)) se_non (se_tup (sa_cons (se_v 1) (sa_cons (se_v 3) sa_nil))))))))))
theorem ok_may_follow (T : Tx K mg)  : Dn P w K mg base "may_follow" 1 2 sem_may_follow := by
  obtain ⟨fd, F⟩ := T.f_may_follow
  refine ⟨_, fd, _, T.g_may_follow, fn_sem (k := 0) (f := b_may_follow) F sc_may_follow ?_, F.kp, F.bindsN (ps := ["last", "word"]) fun _ _ _ _ _ _ us hl => match us, hl with | [_, _], _ => rfl⟩
  intro cdv A outer s H E hr tk hp
  exact (ss_cons (ss_if (st_cmp (op_eqX hr) (fun _ _ _ => eqF_b) (seb (se_v 1)) (seb se_str)) (ss_one (ss_ret (se_cmp (op_inX hr) (seb (se_v 0)) (seb (se_tup (sa_cons se_str (sa_cons se_str sa_nil)))) (hm := by rfl)))) ss_nil) (ss_cons (ss_if (st_cmp (op_eqX hr) (fun _ _ _ => eqF_b) (seb (se_v 1)) (seb se_str)) (ss_one (ss_ret (se_cmp (op_inX hr) (seb (se_v 0)) (seb (se_tup (sa_cons se_str (sa_cons se_str sa_nil)))) (hm := by rfl)))) ss_nil) (ss_one (ss_ret (se_cmp (op_inX hr) (seb (se_v 0)) (seb (se_tup (sa_cons se_str (sa_cons se_str sa_nil)))) (hm := by rfl))))))
theorem ok_read (T : Tx K mg) (d_X_BadText : XdK P w K mg base "BadText" "line" 1) (d_line_of : Dn P w K mg base "line_of" 3 1 sem_line_of) (d_may_follow : Dn P w K mg base "may_follow" 1 2 sem_may_follow) (d_are_shots : Dn P w K mg base "are_shots" 4 1 sem_are_shots) (d_are_places : Dn P w K mg base "are_places" 2 2 sem_are_places) (d_are_marks : Dn P w K mg base "are_marks" 3 1 sem_are_marks) : Dn P w K mg base "read" 5 1 sem_read := by
  obtain ⟨fd, F⟩ := T.f_read
  refine ⟨_, fd, _, T.g_read, fn_sem (k := 4) (f := b_read) F sc_read ?_, F.kp, F.bindsN (ps := ["text"]) fun _ _ _ _ _ _ us hl => match us, hl with | [_], _ => rfl⟩
  intro cdv A outer s H E hr tk hp
  exact (ss_cons (ss_if (st_w (sw_or (st_not (st_tru (seb (se_isi kit_str T.free_isinstance T.free_str (seb (se_v 0)))))) (sw_or1 (st_cmp op_gtD (fun _ _ _ => cmpF_b) (seb (se_cb cl_len T.free_len (sba_cons (seb (se_v 0)) sba_nil))) (seb (se_globI T.c_MOST_TEXT)))))) (ss_one (ss_raiseF tk d_X_BadText (hr.mono (by decide)) se_non)) ss_nil) (ss_cons (ss_gnew (i := 1) sc_read.nd (sn_lst sa_nil)) (ss_cons (ss_own (i := 2) sc_read.nd (sn_lst sa_nil)) (ss_cons (ss_own (i := 3) sc_read.nd (sn_lst sa_nil)) (ss_cons (ss_set (i := 4) sc_read.nd se_str) (ss_cons (ss_for (f := lp_read_1) hp (sis_enum T.free_enumerate (sa_cons (sne (sn_split (seb (se_v 0)) (seb se_str))) sa_nil)) (sg_tp (sgs_cons (sg_nm (i := 5) sc_read.nd) (sgs_cons (sg_nm (i := 6) sc_read.nd) sgs_nil))) (ss_cons (ss_set (i := 7) sc_read.nd (se_call d_line_of (hr.mono (by decide)) tk (sa_cons (se_v 6) sa_nil))) (ss_cons (ss_if (st_w (sw_or (st_cmp op_isX (fun _ _ _ => isF_b) (seb (se_v 7)) (seb se_non)) (sw_or1 (st_not (st_tru (seb (se_call d_may_follow (hr.mono (by decide)) tk (sa_cons (se_v 4) (sa_cons (se_ix (seb (se_v 7)) (seb se_int)) sa_nil))))))))) (ss_one (ss_raiseF tk d_X_BadText (hr.mono (by decide)) (se_v 5))) ss_nil) (ss_cons (ss_set (i := 4) sc_read.nd (se_ix (seb (se_v 7)) (seb se_int))) (ss_one (ss_if (st_cmp (op_eqX hr) (fun _ _ _ => eqF_b) (seb (se_v 4)) (seb se_str)) (ss_cons (ss_app 2 (se_ix (seb (se_v 7)) (seb se_int))) (ss_one (ss_gapp 1 (sn_lst sa_nil)))) (ss_one (ss_if (st_cmp (op_eqX hr) (fun _ _ _ => eqF_b) (seb (se_v 4)) (seb se_str)) (ss_one (ss_gappAt 1 (seb (se_un un_negD (seb se_int))) (se_ix (seb (se_v 7)) (seb se_int)))) (ss_one (ss_app 3 (se_ix (seb (se_v 7)) (seb se_int)))))))))))) (ss_frzG 1 (ss_cons (ss_set (i := 8) sc_read.nd (se_ct cl_tup T.free_tuple (sba_cons (snb (sn_lc (own := [("rows", 9)]) sc_read.nd (si_seq (seb (se_v 1))) (blkOk_by (own := [("rows", 9)]) (by kernel_rfl)) (fun _ _ _ _ _ => (sg_nm (i := 9) sc_read.nd)) (fun _ _ _ _ _ => sts_nil) (fun _ _ _ _ _ => (se_ct cl_tup T.free_tuple (sba_cons (seb (se_v 9)) sba_nil))))) sba_nil))) (ss_cons (ss_if (st_w (sw_or (st_not (st_tru (seb (se_call d_are_shots (hr.mono (by decide)) tk (sa_cons (se_v 8) sa_nil))))) (sw_or (st_not (st_tru (seb (se_call d_are_places (hr.mono (by decide)) tk (sa_cons (se_v 8) (sa_cons (se_ct cl_tup T.free_tuple (sba_cons (sb_v 2) sba_nil)) sa_nil)))))) (sw_or1 (st_not (st_tru (seb (se_call d_are_marks (hr.mono (by decide)) tk (sa_cons (se_ct cl_tup T.free_tuple (sba_cons (sb_v 3) sba_nil)) sa_nil))))))))) (ss_one (ss_raiseF tk d_X_BadText (hr.mono (by decide)) se_non)) ss_nil) (ss_one (ss_ret (se_tup (sa_cons (se_v 8) (sa_cons (se_ct cl_tup T.free_tuple (sba_cons (sb_v 2) sba_nil)) (sa_cons (se_ct cl_tup T.free_tuple (sba_cons (sb_v 3) sba_nil)) sa_nil)))))))))))))))
theorem ok__law_cell (T : Tx K mg)  : Dn P w K mg base "_law_cell" 1 2 sem__law_cell := by
  obtain ⟨fd, F⟩ := T.f__law_cell
  refine ⟨_, fd, _, T.g__law_cell, fn_sem (k := 0) (f := b__law_cell) F sc__law_cell ?_, F.kp, F.bindsN (ps := ["script", "k"]) fun _ _ _ _ _ _ us hl => match us, hl with | [_, _], _ => rfl⟩
  intro cdv A outer s H E hr tk hp
  exact (ss_cons (ss_if (st_cmp op_ltD (fun _ _ _ => cmpF_b) (seb (se_v 1)) (seb (se_cb cl_len T.free_len (sba_cons (seb (se_v 0)) sba_nil)))) (ss_one (ss_ret (se_ix (seb (se_v 0)) (seb (se_v 1))))) ss_nil) (ss_one (ss_ret se_int)))
theorem ok__law_row (T : Tx K mg) (d__law_cell : Dn P w K mg base "_law_cell" 1 2 sem__law_cell) : Dn P w K mg base "_law_row" 2 2 sem__law_row := by
  obtain ⟨fd, F⟩ := T.f__law_row
  refine ⟨_, fd, _, T.g__law_row, fn_sem (k := 1) (f := b__law_row) F sc__law_row ?_, F.kp, F.bindsN (ps := ["script", "at"]) fun _ _ _ _ _ _ us hl => match us, hl with | [_, _], _ => rfl⟩
  intro cdv A outer s H E hr tk hp
  exact (ss_cons (ss_set (i := 2) sc__law_row.nd (se_call d__law_cell (hr.mono (by decide)) tk (sa_cons (se_v 0) (sa_cons (se_v 1) sa_nil)))) (ss_cons (ss_own (i := 3) sc__law_row.nd (sn_lst sa_nil)) (ss_cons (ss_for (f := lp__law_row_1) hp (sis_range1 T.free_range (sba_cons (seb se_int) sba_nil)) (sg_nm (i := 4) sc__law_row.nd) (ss_one (ss_if (st_cmp op_ltD (fun _ _ _ => cmpF_b) (seb (se_call d__law_cell (hr.mono (by decide)) tk (sa_cons (se_v 0) (sa_cons (se_v 1) sa_nil)))) (seb (se_op op_powD (seb se_int) (seb se_int)))) (ss_cons (ss_set (i := 2) sc__law_row.nd (se_op op_modD (seb (se_op op_addD (seb (se_op op_addD (seb (se_op op_addD (seb (se_op op_mulD (seb (se_v 2)) (seb se_int))) (seb (se_op op_mulD (seb se_int) (seb (se_v 4)))))) (seb se_int))) (seb (se_call d__law_cell (hr.mono (by decide)) tk (sa_cons (se_v 0) (sa_cons (se_op op_modD (seb (se_op op_addD (seb (se_op op_addD (seb (se_v 1)) (seb se_int))) (seb (se_v 4)))) (seb se_int)) sa_nil)))))) (seb se_int))) (ss_one (ss_app 3 (se_op op_modD (seb (se_op op_divD (seb (se_v 2)) (seb se_int))) (seb se_int))))) (ss_cons (ss_app 3 (se_op op_modD (seb (se_v 2)) (seb se_int))) (ss_one (ss_set (i := 2) sc__law_row.nd (se_op op_divD (seb (se_v 2)) (seb se_int)))))))) (ss_one (ss_retV 3)))))
theorem ok__law_shot (T : Tx K mg)  : Dn P w K mg base "_law_shot" 1 3 sem__law_shot := by
  obtain ⟨fd, F⟩ := T.f__law_shot
  refine ⟨_, fd, _, T.g__law_shot, fn_sem (k := 0) (f := b__law_shot) F sc__law_shot ?_, F.kp, F.bindsN (ps := ["row", "at", "way"]) fun _ _ _ _ _ _ us hl => match us, hl with | [_, _, _], _ => rfl⟩
  intro cdv A outer s H E hr tk hp
  exact (ss_cons (ss_par (i := 3) (j := 4) sc__law_shot.nd (by decide) (sa_cons (se_op op_addD (seb se_int) (seb (se_op op_modD (seb (se_ix (seb (se_v 0)) (seb (se_op op_modD (seb (se_v 1)) (seb se_int))))) (seb se_int)))) (sa_cons (se_op op_addD (seb se_int) (seb (se_op op_modD (seb (se_op op_divD (seb (se_ix (seb (se_v 0)) (seb (se_op op_modD (seb (se_op op_addD (seb (se_v 1)) (seb se_int))) (seb se_int))))) (seb se_int))) (seb se_int)))) sa_nil)) (by rfl)) (ss_cons (ss_own (i := 5) sc__law_shot.nd (sn_lst sa_nil)) (ss_cons (ss_for (f := lp__law_shot_2) hp (sis_range1 T.free_range (sba_cons (seb (se_v 3)) sba_nil)) (sg_nm (i := 6) sc__law_shot.nd) (ss_cons (ss_own (i := 7) sc__law_shot.nd (sn_lst sa_nil)) (ss_cons (ss_for (f := lp__law_shot_1) hp (sis_range1 T.free_range (sba_cons (seb (se_v 4)) sba_nil)) (sg_nm (i := 8) sc__law_shot.nd) (ss_cons (ss_set (i := 9) sc__law_shot.nd (se_ix (seb (se_v 0)) (seb (se_op op_modD (seb (se_op op_addD (seb (se_op op_addD (seb (se_op op_addD (seb (se_v 1)) (seb se_int))) (seb (se_op op_mulD (seb se_int) (seb (se_v 6)))))) (seb (se_v 8)))) (seb se_int))))) (ss_one (ss_app 7 (se_ix (snb (sn_lst (sa_cons (se_op op_modD (seb (se_op op_mulD (seb (se_v 9)) (seb se_int))) (seb se_int)) (sa_cons (se_op op_mulD (seb (se_op op_modD (seb (se_v 9)) (seb se_int))) (seb se_int)) (sa_cons (se_op op_modD (seb (se_ix (seb (se_v 0)) (seb (se_op op_modD (seb (se_v 1)) (seb se_int))))) (seb se_int)) sa_nil))))) (seb (se_op op_modD (seb (se_v 2)) (seb se_int)))))))) (ss_one (ss_app 5 (se_ct cl_tup T.free_tuple (sba_cons (sb_v 7) sba_nil))))))) (ss_one (ss_ret (se_ct cl_tup T.free_tuple (sba_cons (sb_v 5) sba_nil)))))))
theorem ok__law_ground (T : Tx K mg) (d__law_row : Dn P w K mg base "_law_row" 2 2 sem__law_row) : Dn P w K mg base "_law_ground" 3 2 sem__law_ground := by
  obtain ⟨fd, F⟩ := T.f__law_ground
  refine ⟨_, fd, _, T.g__law_ground, fn_sem (k := 2) (f := b__law_ground) F sc__law_ground ?_, F.kp, F.bindsN (ps := ["script", "at"]) fun _ _ _ _ _ _ us hl => match us, hl with | [_, _], _ => rfl⟩
  intro cdv A outer s H E hr tk hp
  exact (ss_cons (ss_set (i := 2) sc__law_ground.nd (se_call d__law_row (hr.mono (by decide)) tk (sa_cons (se_v 0) (sa_cons (se_v 1) sa_nil)))) (ss_cons (ss_set (i := 3) sc__law_ground.nd (se_ix (snb (sn_lst (sa_cons se_int (sa_cons se_int (sa_cons se_int sa_nil))))) (seb (se_op op_modD (seb (se_ix (seb (se_v 2)) (seb se_int))) (seb se_int))))) (ss_cons (ss_own (i := 4) sc__law_ground.nd (sn_lst sa_nil)) (ss_cons (ss_for (f := lp__law_ground_2) hp (sis_range1 T.free_range (sba_cons (seb se_int) sba_nil)) (sg_nm (i := 5) sc__law_ground.nd) (ss_cons (ss_own (i := 6) sc__law_ground.nd (sn_lst sa_nil)) (ss_cons (ss_for (f := lp__law_ground_1) hp (sis_range1 T.free_range (sba_cons (seb se_int) sba_nil)) (sg_nm (i := 7) sc__law_ground.nd) (ss_cons (ss_set (i := 8) sc__law_ground.nd (se_op op_mulD (seb (se_ix (seb (se_v 2)) (seb (se_op op_modD (seb (se_op op_addD (seb (se_op op_mulD (seb se_int) (seb (se_v 5)))) (seb (se_op op_mulD (seb se_int) (seb (se_v 7)))))) (seb se_int))))) (seb (se_v 3)))) (ss_one (ss_app 6 (se_op op_modD (seb (se_op op_addD (seb (se_op op_addD (seb (se_v 8)) (seb (se_op op_mulD (seb (se_v 7)) (seb (se_ix (seb (se_v 2)) (seb se_int))))))) (seb (se_op op_mulD (seb (se_v 5)) (seb se_int))))) (seb se_int)))))) (ss_one (ss_app 4 (se_ct cl_tup T.free_tuple (sba_cons (sb_v 6) sba_nil))))))) (ss_one (ss_ret (se_ct cl_tup T.free_tuple (sba_cons (sb_v 4) sba_nil))))))))
theorem ok__law_scene (T : Tx K mg) (d__law_ground : Dn P w K mg base "_law_ground" 3 2 sem__law_ground) (d__law_row : Dn P w K mg base "_law_row" 2 2 sem__law_row) : Dn P w K mg base "_law_scene" 4 2 sem__law_scene := by
  obtain ⟨fd, F⟩ := T.f__law_scene
  refine ⟨_, fd, _, T.g__law_scene, fn_sem (k := 3) (f := b__law_scene) F sc__law_scene ?_, F.kp, F.bindsN (ps := ["script", "at"]) fun _ _ _ _ _ _ us hl => match us, hl with | [_, _], _ => rfl⟩
  intro cdv A outer s H E hr tk hp
  exact (ss_cons (ss_set (i := 2) sc__law_scene.nd (se_call d__law_ground (hr.mono (by decide)) tk (sa_cons (se_v 0) (sa_cons (se_v 1) sa_nil)))) (ss_cons (ss_set (i := 3) sc__law_scene.nd (se_call d__law_row (hr.mono (by decide)) tk (sa_cons (se_v 0) (sa_cons (se_op op_addD (seb (se_v 1)) (seb se_int)) sa_nil)))) (ss_cons (ss_own (i := 4) sc__law_scene.nd (sn_lst (sa_cons (se_tup (sa_cons (se_op op_modD (seb (se_ix (seb (se_v 3)) (seb se_int))) (seb se_int)) (sa_cons (se_op op_modD (seb (se_ix (seb (se_v 3)) (seb se_int))) (seb se_int)) sa_nil))) sa_nil))) (ss_cons (ss_own (i := 5) sc__law_scene.nd (sn_lst (sa_cons (se_tup (sa_cons (se_op op_addD (seb se_int) (seb (se_op op_modD (seb (se_ix (seb (se_v 3)) (seb se_int))) (seb se_int)))) (sa_cons (se_op op_addD (seb se_int) (seb (se_op op_modD (seb (se_ix (seb (se_v 3)) (seb se_int))) (seb se_int)))) sa_nil))) sa_nil))) (ss_cons (ss_for (f := lp__law_scene_1) hp (sis_range1 T.free_range (sba_cons (seb (se_op op_addD (seb se_int) (seb (se_op op_modD (seb (se_ix (seb (se_v 3)) (seb se_int))) (seb se_int))))) sba_nil)) (sg_nm (i := 6) sc__law_scene.nd) (ss_cons (ss_set (i := 7) sc__law_scene.nd (se_op op_addD (seb se_int) (seb (se_op op_mulD (seb se_int) (seb (se_v 6)))))) (ss_cons (ss_asg (se_ix (sb_v 4) (seb (se_op op_modD (seb (se_ix (seb (se_v 3)) (seb (se_v 7)))) (seb (se_cb cl_len T.free_len (sba_cons (sb_v 4) sba_nil)))))) (sg_tp (sgs_cons (sg_nm (i := 8) sc__law_scene.nd) (sgs_cons (sg_nm (i := 9) sc__law_scene.nd) sgs_nil)))) (ss_cons (ss_asg (se_tup (sa_cons (se_op op_addD (seb se_int) (seb (se_op op_modD (seb (se_ix (seb (se_v 3)) (seb (se_op op_addD (seb (se_v 7)) (seb se_int))))) (seb se_int)))) (sa_cons (se_op op_addD (seb se_int) (seb (se_op op_modD (seb (se_ix (seb (se_v 3)) (seb (se_op op_addD (seb (se_v 7)) (seb se_int))))) (seb se_int)))) sa_nil))) (sg_tp (sgs_cons (sg_nm (i := 10) sc__law_scene.nd) (sgs_cons (sg_nm (i := 11) sc__law_scene.nd) sgs_nil)))) (ss_cons (ss_asg (se_tup (sa_cons (se_cb (cl_max2 rfl) T.free_max (sba_cons (seb (se_op op_subD (seb (se_op op_addD (seb (se_v 8)) (seb (se_op op_modD (seb (se_ix (seb (se_v 3)) (seb (se_op op_addD (seb (se_v 7)) (seb se_int))))) (seb se_int))))) (seb se_int))) (sba_cons (seb se_int) sba_nil))) (sa_cons (se_cb (cl_max2 rfl) T.free_max (sba_cons (seb (se_op op_subD (seb (se_op op_addD (seb (se_v 9)) (seb (se_op op_modD (seb (se_ix (seb (se_v 3)) (seb (se_op op_addD (seb (se_v 7)) (seb se_int))))) (seb se_int))))) (seb se_int))) (sba_cons (seb se_int) sba_nil))) sa_nil))) (sg_tp (sgs_cons (sg_nm (i := 8) sc__law_scene.nd) (sgs_cons (sg_nm (i := 9) sc__law_scene.nd) sgs_nil)))) (ss_cons (ss_app 4 (se_tup (sa_cons (se_cb (cl_min2 rfl) T.free_min (sba_cons (seb (se_v 8)) (sba_cons (seb (se_op op_subD (seb se_int) (seb (se_v 10)))) sba_nil))) (sa_cons (se_cb (cl_min2 rfl) T.free_min (sba_cons (seb (se_v 9)) (sba_cons (seb (se_op op_subD (seb se_int) (seb (se_v 11)))) sba_nil))) sa_nil)))) (ss_one (ss_app 5 (se_tup (sa_cons (se_v 10) (sa_cons (se_v 11) sa_nil))))))))))) (ss_cons (ss_own (i := 12) sc__law_scene.nd (sn_lst sa_nil)) (ss_frz 4 (ss_frz 5 (ss_cons (ss_for (f := lp__law_scene_2) hp (sis_zip T.free_zip (sa_cons (se_v 4) (sa_cons (se_v 5) sa_nil))) (sg_tp (sgs_cons (sg_tp (sgs_cons (sg_nm (i := 8) sc__law_scene.nd) (sgs_cons (sg_nm (i := 9) sc__law_scene.nd) sgs_nil))) (sgs_cons (sg_tp (sgs_cons (sg_nm (i := 10) sc__law_scene.nd) (sgs_cons (sg_nm (i := 11) sc__law_scene.nd) sgs_nil))) sgs_nil))) (ss_cons (ss_set (i := 13) sc__law_scene.nd (se_if (st_cmp (op_eqX hr) (fun _ _ _ => eqF_b) (seb (se_op op_modD (seb (se_ix (seb (se_v 3)) (seb se_int))) (seb se_int))) (seb se_int)) (se_op op_modD (seb (se_ix (seb (se_v 3)) (seb (se_op op_addD (seb se_int) (seb (se_cb cl_len T.free_len (sba_cons (sb_v 12) sba_nil))))))) (seb se_int)) se_int)) (ss_one (ss_app 12 (se_ct cl_tup T.free_tuple (sba_cons (snb (sn_lc (own := [("line", 17)]) sc__law_scene.nd (si_seq (seb (se_sl (seb (se_v 2)) (so_some (seb (se_v 9))) (so_some (seb (se_op op_addD (seb (se_v 9)) (seb (se_v 11)))))))) (blkOk_by (own := [("line", 17)]) (by kernel_rfl)) (fun _ _ _ _ _ => (sg_nm (i := 17) sc__law_scene.nd)) (fun _ _ _ _ _ => sts_nil) (fun _ _ _ _ _ => (se_ct cl_tup T.free_tuple (sba_cons (snb (sn_lc (own := [("one", 18)]) sc__law_scene.nd (si_seq (seb (se_sl (seb (se_v 17)) (so_some (seb (se_v 8))) (so_some (seb (se_op op_addD (seb (se_v 8)) (seb (se_v 10)))))))) (blkOk_by (own := [("one", 18)]) (by kernel_rfl)) (fun _ _ _ _ _ => (sg_nm (i := 18) sc__law_scene.nd)) (fun _ _ _ _ _ => sts_nil) (fun _ _ _ _ _ => (se_op op_addD (seb (se_v 18)) (seb (se_v 13)))))) sba_nil))))) sba_nil)))))) (ss_cons (ss_asg (se_tup (sa_cons (se_cb (cl_min1 hr rfl) T.free_min (sba_cons (snb (sn_lc (own := [("place", 16)]) sc__law_scene.nd (si_seq (sb_v 4)) (blkOk_by (own := [("place", 16)]) (by kernel_rfl)) (fun _ _ _ _ _ => (sg_nm (i := 16) sc__law_scene.nd)) (fun _ _ _ _ _ => sts_nil) (fun _ _ _ _ _ => (se_ix (seb (se_v 16)) (seb se_int))))) sba_nil)) (sa_cons (se_cb (cl_min1 hr rfl) T.free_min (sba_cons (snb (sn_lc (own := [("place", 16)]) sc__law_scene.nd (si_seq (sb_v 4)) (blkOk_by (own := [("place", 16)]) (by kernel_rfl)) (fun _ _ _ _ _ => (sg_nm (i := 16) sc__law_scene.nd)) (fun _ _ _ _ _ => sts_nil) (fun _ _ _ _ _ => (se_ix (seb (se_v 16)) (seb se_int))))) sba_nil)) sa_nil))) (sg_tp (sgs_cons (sg_nm (i := 14) sc__law_scene.nd) (sgs_cons (sg_nm (i := 15) sc__law_scene.nd) sgs_nil)))) (ss_one (ss_ret (se_tup (sa_cons (se_ct cl_tup T.free_tuple (sba_cons (sb_v 12) sba_nil)) (sa_cons (se_ct cl_tup T.free_tuple (sba_cons (snb (sn_lc (own := [("x", 8), ("y", 9)]) sc__law_scene.nd (si_seq (sb_v 4)) (blkOk_by (own := [("x", 8), ("y", 9)]) (by kernel_rfl)) (fun _ _ _ _ _ => (sg_tp (sgs_cons (sg_nm (i := 8) sc__law_scene.nd) (sgs_cons (sg_nm (i := 9) sc__law_scene.nd) sgs_nil)))) (fun _ _ _ _ _ => sts_nil) (fun _ _ _ _ _ => (se_tup (sa_cons (se_op op_subD (seb (se_v 8)) (seb (se_v 14))) (sa_cons (se_op op_subD (seb (se_v 9)) (seb (se_v 15))) sa_nil)))))) sba_nil)) sa_nil)))))))))))))))
theorem ok__law_any_scene (T : Tx K mg) (d__law_row : Dn P w K mg base "_law_row" 2 2 sem__law_row) (d__law_scene : Dn P w K mg base "_law_scene" 4 2 sem__law_scene) (d__law_shot : Dn P w K mg base "_law_shot" 1 3 sem__law_shot) : Dn P w K mg base "_law_any_scene" 5 2 sem__law_any_scene := by
  obtain ⟨fd, F⟩ := T.f__law_any_scene
  refine ⟨_, fd, _, T.g__law_any_scene, fn_sem (k := 4) (f := b__law_any_scene) F sc__law_any_scene ?_, F.kp, F.bindsN (ps := ["script", "at"]) fun _ _ _ _ _ _ us hl => match us, hl with | [_, _], _ => rfl⟩
  intro cdv A outer s H E hr tk hp
  exact (ss_cons (ss_set (i := 2) sc__law_any_scene.nd (se_call d__law_row (hr.mono (by decide)) tk (sa_cons (se_v 0) (sa_cons (se_op op_addD (seb (se_v 1)) (seb se_int)) sa_nil)))) (ss_cons (ss_if (st_cmp op_gtD (fun _ _ _ => cmpF_b) (seb (se_op op_modD (seb (se_ix (seb (se_v 2)) (seb se_int))) (seb se_int))) (seb se_int)) (ss_one (ss_ret (se_call d__law_scene (hr.mono (by decide)) tk (sa_cons (se_v 0) (sa_cons (se_v 1) sa_nil))))) ss_nil) (ss_cons (ss_set (i := 3) sc__law_any_scene.nd (se_op op_addD (seb se_int) (seb (se_op op_modD (seb (se_ix (seb (se_v 2)) (seb se_int))) (seb se_int))))) (ss_cons (ss_set (i := 4) sc__law_any_scene.nd (se_ct cl_tup T.free_tuple (sba_cons (snb (sn_lc (own := [("number", 5)]) sc__law_any_scene.nd (si_range1 T.free_range (sba_cons (seb (se_v 3)) sba_nil)) (blkOk_by (own := [("number", 5)]) (by kernel_rfl)) (fun _ _ _ _ _ => (sg_nm (i := 5) sc__law_any_scene.nd)) (fun _ _ _ _ _ => sts_nil) (fun _ _ _ _ _ => (se_call d__law_shot (hr.mono (by decide)) takes0 (sa_cons (se_v 2) (sa_cons (se_op op_addD (seb se_int) (seb (se_op op_mulD (seb se_int) (seb (se_v 5))))) (sa_cons (se_ix (seb (se_v 2)) (seb se_int)) sa_nil))))))) sba_nil))) (ss_one (ss_ret (se_tup (sa_cons (se_v 4) (sa_cons (se_ct cl_tup T.free_tuple (sba_cons (snb (sn_lc (own := [("number", 5)]) sc__law_any_scene.nd (si_range1 T.free_range (sba_cons (seb (se_v 3)) sba_nil)) (blkOk_by (own := [("number", 5)]) (by kernel_rfl)) (fun _ _ _ _ _ => (sg_nm (i := 5) sc__law_any_scene.nd)) (fun _ _ _ _ _ => sts_nil) (fun _ _ _ _ _ => (se_tup (sa_cons (se_op op_modD (seb (se_ix (seb (se_v 2)) (seb (se_op op_addD (seb se_int) (seb (se_v 5)))))) (seb se_int)) (sa_cons (se_op op_modD (seb (se_ix (seb (se_v 2)) (seb (se_op op_addD (seb se_int) (seb (se_v 5)))))) (seb se_int)) sa_nil)))))) sba_nil)) sa_nil)))))))))
theorem ok__law_marks (T : Tx K mg) (d__law_row : Dn P w K mg base "_law_row" 2 2 sem__law_row) : Dn P w K mg base "_law_marks" 3 2 sem__law_marks := by
  obtain ⟨fd, F⟩ := T.f__law_marks
  refine ⟨_, fd, _, T.g__law_marks, fn_sem (k := 2) (f := b__law_marks) F sc__law_marks ?_, F.kp, F.bindsN (ps := ["script", "at"]) fun _ _ _ _ _ _ us hl => match us, hl with | [_, _], _ => rfl⟩
  intro cdv A outer s H E hr tk hp
  exact (ss_cons (ss_set (i := 2) sc__law_marks.nd (se_call d__law_row (hr.mono (by decide)) tk (sa_cons (se_v 0) (sa_cons (se_v 1) sa_nil)))) (ss_cons (ss_own (i := 3) sc__law_marks.nd sn_dk) (ss_cons (ss_for (f := lp__law_marks_1) hp (sis_range1 T.free_range (sba_cons (seb (se_op op_modD (seb (se_ix (seb (se_v 2)) (seb se_int))) (seb se_int))) sba_nil)) (sg_nm (i := 4) sc__law_marks.nd) (ss_cons (ss_set (i := 5) sc__law_marks.nd (se_op op_addD (seb se_int) (seb (se_op op_mulD (seb se_int) (seb (se_v 4)))))) (ss_cons (ss_set (i := 6) sc__law_marks.nd (se_ix (snb (sn_lst (sa_cons se_str (sa_cons se_str (sa_cons se_str (sa_cons se_str (sa_cons se_str (sa_cons se_str (sa_cons se_str sa_nil))))))))) (seb (se_op op_modD (seb (se_ix (seb (se_v 2)) (seb (se_v 5)))) (seb se_int))))) (ss_one (ss_putD 3 hr (seb (se_v 6)) (se_tup (sa_cons (se_v 6) (sa_cons (se_op op_modD (seb (se_ix (seb (se_v 2)) (seb (se_op op_addD (seb (se_v 5)) (seb se_int))))) (seb se_int)) (sa_cons (se_op op_modD (seb (se_ix (seb (se_v 2)) (seb (se_op op_addD (seb (se_v 5)) (seb se_int))))) (seb se_int)) (sa_cons (se_op op_addD (seb se_int) (seb (se_op op_modD (seb (se_ix (seb (se_v 2)) (seb (se_op op_addD (seb (se_v 5)) (seb se_int))))) (seb se_int)))) (sa_cons (se_op op_addD (seb se_int) (seb (se_op op_modD (seb (se_ix (seb (se_v 2)) (seb (se_op op_addD (seb (se_v 5)) (seb se_int))))) (seb se_int)))) sa_nil))))))))))) (ss_one (ss_ret (se_ct cl_tup T.free_tuple (sba_cons (snb (sn_lc (own := [("name", 6)]) sc__law_marks.nd (si_seq (snb (sn_cb (cl_sorted hr rfl) T.free_sorted (sba_cons (sb_v 3) sba_nil)))) (blkOk_by (own := [("name", 6)]) (by kernel_rfl)) (fun _ _ _ _ _ => (sg_nm (i := 6) sc__law_marks.nd)) (fun _ _ _ _ _ => sts_nil) (fun _ _ _ _ _ => (se_dix hr (sb_v 3) (seb (se_v 6)))))) sba_nil)))))))
theorem ok__law_shown (T : Tx K mg)  : Dn P w K mg base "_law_shown" 1 3 sem__law_shown := by
  obtain ⟨fd, F⟩ := T.f__law_shown
  refine ⟨_, fd, _, T.g__law_shown, fn_sem (k := 0) (f := b__law_shown) F sc__law_shown ?_, F.kp, F.bindsN (ps := ["shots_here", "places", "marks_here"]) fun _ _ _ _ _ _ us hl => match us, hl with | [_, _, _], _ => rfl⟩
  intro cdv A outer s H E hr tk hp
  exact (ss_cons (ss_own (i := 3) sc__law_shown.nd (sn_lst sa_nil)) (ss_cons (ss_for (f := lp__law_shown_2) hp (sis_range1 T.free_range (sba_cons (seb (se_cb cl_len T.free_len (sba_cons (seb (se_v 0)) sba_nil))) sba_nil)) (sg_nm (i := 4) sc__law_shown.nd) (ss_cons (ss_app 3 (se_op op_addD (seb (se_op op_addD (seb (se_op op_addD (seb se_str) (seb (se_ct cl_strI T.free_str (sba_cons (seb (se_ix (seb (se_ix (seb (se_v 1)) (seb (se_v 4)))) (seb se_int))) sba_nil))))) (seb se_str))) (seb (se_ct cl_strI T.free_str (sba_cons (seb (se_ix (seb (se_ix (seb (se_v 1)) (seb (se_v 4)))) (seb se_int))) sba_nil))))) (ss_one (ss_for (f := lp__law_shown_1) hp (sis_seq (se_ix (seb (se_v 0)) (seb (se_v 4)))) (sg_nm (i := 5) sc__law_shown.nd) (ss_one (ss_app 3 (se_op op_addD (seb se_str) (seb (se_join (seb se_str) (snb (sn_lc (own := [("one", 6)]) sc__law_shown.nd (si_seq (seb (se_v 5))) (blkOk_by (own := [("one", 6)]) (by kernel_rfl)) (fun _ _ _ _ _ => (sg_nm (i := 6) sc__law_shown.nd)) (fun _ _ _ _ _ => sts_nil) (fun _ _ _ _ _ => (se_ct cl_strI T.free_str (sba_cons (seb (se_v 6)) sba_nil)))))))))))))) (ss_cons (ss_for (f := lp__law_shown_3) hp (sis_seq (se_v 2)) (sg_nm (i := 6) sc__law_shown.nd) (ss_one (ss_app 3 (se_op op_addD (seb (se_op op_addD (seb (se_op op_addD (seb se_str) (seb (se_ix (seb (se_v 6)) (seb se_int))))) (seb se_str))) (seb (se_join (seb se_str) (snb (sn_lc (own := [("part", 7)]) sc__law_shown.nd (si_seq (seb (se_sl (seb (se_v 6)) (so_some (seb se_int)) so_none))) (blkOk_by (own := [("part", 7)]) (by kernel_rfl)) (fun _ _ _ _ _ => (sg_nm (i := 7) sc__law_shown.nd)) (fun _ _ _ _ _ => sts_nil) (fun _ _ _ _ _ => (se_ct cl_strI T.free_str (sba_cons (seb (se_v 7)) sba_nil))))))))))) (ss_one (ss_ret (se_join (seb se_str) (sb_v 3)))))))
theorem ok__law_text_told (T : Tx K mg) (d_read : Dn P w K mg base "read" 5 1 sem_read) : Dn P w K mg base "_law_text_told" 6 1 sem__law_text_told := by
  obtain ⟨fd, F⟩ := T.f__law_text_told
  refine ⟨_, fd, _, T.g__law_text_told, fn_sem (k := 5) (f := b__law_text_told) F sc__law_text_told ?_, F.kp, F.bindsN (ps := ["text"]) fun _ _ _ _ _ _ us hl => match us, hl with | [_], _ => rfl⟩
  intro cdv A outer s H E hr tk hp
  exact (ss_one (ss_triesF tk (fun W pn xe tk hp => (ss_one (ss_ret (se_call d_read (hr.mono (by decide)) tk (sa_cons (se_v 0) sa_nil))))) (.cons (shf_as (i := 1) sc__law_text_told.nd T.xg_BadText (hsub_BadText T) (fun c fs a oe d pn hc hz hf => by
    obtain rfl := only_BadText c hc
    exact (gs_ret (sg_if (sgt_w (sgw_and (sgt_tru (sg_isi T.ec_BadText hz hf T.free_isinstance T.xg_VastError (kit_of T.m_BadText_VastError T.m_BadText_BadText))) (sgw_and1 (sgt_not (sgt_tru (sg_isi T.ec_BadText hz hf T.free_isinstance T.xg_BadShot (kit_of T.m_BadText_BadShot T.m_BadText_BadText))))))) (sg_lst (sga_cons (sg_e se_str) (sga_cons (sg_fld T.xk_BadText.xf T.xk_BadText.nof hz hf) sga_nil))) (sg_e (sne (sn_lst (sa_cons se_str sa_nil)))))))) .nil)))
theorem ok_law (T : Tx K mg) {fd : FuncData} (F : FunD K "law" "law" (defArgs s_law) (defBody s_law) (defScope s_law) [] [] (He.ga K "law") fd) (d__law_row : Dn P w K mg base "_law_row" 2 2 sem__law_row) (d__law_any_scene : Dn P w K mg base "_law_any_scene" 5 2 sem__law_any_scene) (d__law_marks : Dn P w K mg base "_law_marks" 3 2 sem__law_marks) (d__law_shown : Dn P w K mg base "_law_shown" 1 3 sem__law_shown) (d_shown : Dn P w K mg base "shown" 7 3 sem_shown) (d__law_text_told : Dn P w K mg base "_law_text_told" 6 1 sem__law_text_told) : FnOk P w K mg base (L2.CX P w) 8 (He.ga K "law") fd ["script"] (spP K 1 sem_law) := by
  refine fn_sem (k := 7) (f := b_law) F sc_law ?_
  intro cdv A outer s H E hr tk hp
  exact (ss_cons (ss_set (i := 1) sc_law.nd (se_call d__law_row (hr.mono (by decide)) tk (sa_cons (se_v 0) (sa_cons se_int sa_nil)))) (ss_cons (ss_asg (se_call d__law_any_scene (hr.mono (by decide)) tk (sa_cons (se_v 0) (sa_cons se_int sa_nil))) (sg_tp (sgs_cons (sg_nm (i := 2) sc_law.nd) (sgs_cons (sg_nm (i := 3) sc_law.nd) sgs_nil)))) (ss_cons (ss_set (i := 4) sc_law.nd (se_call d__law_marks (hr.mono (by decide)) tk (sa_cons (se_v 0) (sa_cons se_int sa_nil)))) (ss_cons (ss_set (i := 5) sc_law.nd (se_call d__law_shown (hr.mono (by decide)) tk (sa_cons (se_v 2) (sa_cons (se_v 3) (sa_cons (se_v 4) sa_nil))))) (ss_cons (ss_if (st_w (sw_or (st_cmp (op_neX hr) (fun _ _ _ => neF_b) (seb (se_call d_shown (hr.mono (by decide)) tk (sa_cons (se_v 2) (sa_cons (se_v 3) (sa_cons (se_v 4) sa_nil))))) (seb (se_v 5))) (sw_or1 (st_cmp (op_neX hr) (fun _ _ _ => neF_b) (seb (se_call d__law_text_told (hr.mono (by decide)) tk (sa_cons (se_v 5) sa_nil))) (seb (se_tup (sa_cons (se_v 2) (sa_cons (se_v 3) (sa_cons (se_v 4) sa_nil))))))))) (ss_one (ss_ret se_bl)) ss_nil) (ss_cons (ss_set (i := 6) sc_law.nd (se_op op_modD (seb (se_op op_mulD (seb (se_ix (seb (se_v 1)) (seb se_int))) (seb se_int))) (seb (se_cb cl_len T.free_len (sba_cons (seb (se_v 5)) sba_nil))))) (ss_cons (ss_set (i := 7) sc_law.nd (se_ix (seb se_str) (seb (se_op op_modD (seb (se_ix (seb (se_v 1)) (seb se_int))) (seb se_int))))) (ss_cons (ss_set (i := 8) sc_law.nd (sne (sn_lst (sa_cons (se_op op_addD (seb (se_sl (seb (se_v 5)) so_none (so_some (seb (se_v 6))))) (seb (se_sl (seb (se_v 5)) (so_some (seb (se_op op_addD (seb (se_v 6)) (seb se_int)))) so_none))) (sa_cons (se_op op_addD (seb (se_op op_addD (seb (se_sl (seb (se_v 5)) so_none (so_some (seb (se_v 6))))) (seb (se_ix (seb (se_v 5)) (seb (se_v 6)))))) (seb (se_sl (seb (se_v 5)) (so_some (seb (se_v 6))) so_none))) (sa_cons (se_op op_addD (seb (se_v 5)) (seb se_str)) (sa_cons (se_op op_addD (seb (se_v 5)) (seb se_str)) sa_nil))))))) (ss_cons (ss_set (i := 8) sc_law.nd (se_op op_addD (seb (se_v 8)) (snb (sn_lst (sa_cons (se_op op_addD (seb (se_op op_addD (seb (se_sl (seb (se_v 5)) so_none (so_some (seb (se_v 6))))) (seb (se_v 7)))) (seb (se_sl (seb (se_v 5)) (so_some (seb (se_op op_addD (seb (se_v 6)) (seb se_int)))) so_none))) (sa_cons (se_op op_addD (seb (se_v 5)) (seb se_str)) (sa_cons (se_op op_addD (seb (se_v 5)) (seb se_str)) sa_nil))))))) (ss_cons (ss_set (i := 9) sc_law.nd (se_call d__law_text_told (hr.mono (by decide)) tk (sa_cons (se_ix (seb (se_v 8)) (seb (se_op op_modD (seb (se_ix (seb (se_v 1)) (seb se_int))) (seb se_int)))) sa_nil))) (ss_cons (ss_if (st_w (sw_and (st_not (st_tru (seb (se_isi kit_lst T.free_isinstance T.free_list (seb (se_v 9)))))) (sw_and1 (st_cmp (op_neX hr) (fun _ _ _ => neF_b) (seb (se_call d__law_shown (hr.mono (by decide)) tk (sa_cons (se_ix (seb (se_v 9)) (seb se_int)) (sa_cons (se_ix (seb (se_v 9)) (seb se_int)) (sa_cons (se_ix (seb (se_v 9)) (seb se_int)) sa_nil))))) (seb (se_ix (seb (se_v 8)) (seb (se_op op_modD (seb (se_ix (seb (se_v 1)) (seb se_int))) (seb se_int))))))))) (ss_one (ss_ret se_bl)) ss_nil) (ss_cons (ss_set (i := 10) sc_law.nd (sne (sn_split (seb (se_v 5)) (seb se_str)))) (ss_cons (ss_set (i := 11) sc_law.nd (se_op op_modD (seb (se_ix (seb (se_v 1)) (seb se_int))) (seb (se_op op_addD (seb (se_cb cl_len T.free_len (sba_cons (seb (se_v 10)) sba_nil))) (seb se_int))))) (ss_cons (ss_set (i := 12) sc_law.nd (se_ix (snb (sn_lst (sa_cons se_str (sa_cons se_str (sa_cons se_str (sa_cons se_str (sa_cons se_str (sa_cons se_str sa_nil)))))))) (seb (se_op op_modD (seb (se_ix (seb (se_v 1)) (seb se_int))) (seb se_int))))) (ss_cons (ss_if (st_cmp (op_neX hr) (fun _ _ _ => neF_b) (seb (se_call d__law_text_told (hr.mono (by decide)) tk (sa_cons (se_join (seb se_str) (seb (se_op op_addD (seb (se_op op_addD (seb (se_sl (seb (se_v 10)) so_none (so_some (seb (se_v 11))))) (snb (sn_lst (sa_cons (se_v 12) sa_nil))))) (seb (se_sl (seb (se_v 10)) (so_some (seb (se_v 11))) so_none))))) sa_nil))) (snb (sn_lst (sa_cons se_str (sa_cons (se_v 11) sa_nil))))) (ss_one (ss_ret se_bl)) ss_nil) (ss_cons (ss_if (st_w (sw_or (st_cmp (op_neX hr) (fun _ _ _ => neF_b) (seb (se_call d__law_text_told (hr.mono (by decide)) tk (sa_cons (se_op op_addD (seb se_str) (seb (se_v 5))) sa_nil))) (snb (sn_lst (sa_cons se_str (sa_cons se_int sa_nil))))) (sw_or1 (st_cmp (op_neX hr) (fun _ _ _ => neF_b) (seb (se_call d__law_text_told (hr.mono (by decide)) tk (sa_cons se_str sa_nil))) (snb (sn_lst (sa_cons se_str (sa_cons se_int sa_nil)))))))) (ss_one (ss_ret se_bl)) ss_nil) (ss_cons (ss_if (st_cmp (op_neX hr) (fun _ _ _ => neF_b) (seb (se_call d__law_text_told (hr.mono (by decide)) tk (sa_cons se_str sa_nil))) (snb (sn_lst (sa_cons se_str (sa_cons se_int sa_nil))))) (ss_one (ss_ret se_bl)) ss_nil) (ss_one (ss_ret (se_cmp (op_eqX hr) (seb (se_call d__law_text_told (hr.mono (by decide)) tk (sa_cons (se_ix (snb (sn_lst (sa_cons se_non (sa_cons se_int (sa_cons (sne (sn_lst (sa_cons se_str sa_nil))) (sa_cons se_str sa_nil)))))) (seb (se_op op_modD (seb (se_ix (seb (se_v 1)) (seb se_int))) (seb se_int)))) sa_nil))) (snb (sn_lst (sa_cons se_str (sa_cons se_non sa_nil))))))))))))))))))))))))
end
def dd (i : Nat) (x y : Str) (kw : List (Str × He.Dv) := []) : He.DefD := ⟨(x, none), y, y, defArgs (topS i), defBody (topS i), defScope (topS i), [], kw⟩
def fn : List He.DefD := ([dd 8 "is_within" "is_within", dd 13 "is_row" "is_row", dd 14 "is_shot" "is_shot", dd 15 "are_shots" "are_shots", dd 16 "look_all" "look_all", dd 19 "are_places" "are_places", dd 20 "look_places" "look_places", dd 25 "is_name" "is_name", dd 26 "is_mark" "is_mark", dd 27 "are_marks" "are_marks", dd 31 "rows_of" "rows_of", dd 32 "shown" "shown", dd 33 "number_of" "number_of", dd 34 "numbers_of" "numbers_of", dd 35 "line_of" "line_of", dd 36 "may_follow" "may_follow", dd 37 "read" "read", dd 39 "_law_cell" "_law_cell", dd 40 "_law_row" "_law_row", dd 41 "_law_shot" "_law_shot"] : List He.DefD) ++ ([dd 42 "_law_ground" "_law_ground", dd 43 "_law_scene" "_law_scene", dd 44 "_law_any_scene" "_law_any_scene", dd 45 "_law_marks" "_law_marks", dd 46 "_law_shown" "_law_shown", dd 47 "_law_text_told" "_law_text_told", dd 48 "law" "law", ⟨("BadText", some "__init__"), "__init__", "BadText.__init__", defArgs (clsS 2 0), defBody (clsS 2 0), defScope (clsS 2 0), [], []⟩] : List He.DefD)
def fa : List He.Fa := ([.glo "is_within", .glo "is_row", .glo "is_shot", .glo "are_shots", .glo "look_all", .glo "are_places", .glo "look_places", .glo "is_name", .glo "is_mark", .glo "are_marks", .glo "rows_of", .glo "shown", .glo "number_of", .glo "numbers_of", .glo "line_of", .glo "may_follow", .glo "read", .glo "_law_cell", .glo "_law_row", .glo "_law_shot"] : List He.Fa) ++ ([.glo "_law_ground", .glo "_law_scene", .glo "_law_any_scene", .glo "_law_marks", .glo "_law_shown", .glo "_law_text_told", .glo "law", .free "bool", .free "enumerate", .free "int", .free "isinstance", .free "len", .free "list", .free "max", .free "min", .free "range", .free "sorted", .free "str", .free "tuple", .free "zip"] : List He.Fa) ++ ([.str "FIGURES" "0123456789", .int "MOST_LEVEL" 255, .int "MOST_MARKS" 12, .int "MOST_PLACE_laying" 99, .int "MOST_PLACE_marks" 99, .int "MOST_SHOTS" 8, .int "MOST_SIDE" 12, .int "MOST_TEXT" 60000, .str "SMALL" "abcdefghijklmnopqrstuvwxyz", .glo "BadMarks", .exc "BadMarks", .glo "BadPlaces", .exc "BadPlaces", .glo "BadShots", .exc "BadShots", .glo "BadShot", .glo "BadText", .glo "VastError", .exm "BadMarks" "BadText" false, .exm "BadPlaces" "BadText" false] : List He.Fa) ++ ([.exm "BadShots" "BadText" false, .exm "BadText" "BadShot" false, .exm "BadText" "BadText" true, .exm "BadText" "VastError" true] : List He.Fa)
abbrev R : PySem.W.OpenRow := PySem.W.OpenLaw.row PySem.Challenge.rw_vastview_k31_texts
def xsE : List Str := ["BadText"]
def chks : List VV.Chk := [fun K => VV.excB K "BadText", fun K => VV.basB K "VastError", fun K => VV.xcB K "BadText" "line", fun K => !VV.lamB K]
abbrev hk : PySem.W.Hook := VV.hookS 5 fa fn chks
def ob (s : PySem.W.SharedT) : AlV := obsS 5 fa fn chks (HandSHeadRun.getT s)
theorem ob_eq (s : PySem.W.SharedT) : ob s = hk.obs s.abs := obsS_eq (HandSHeadRun.getT_eq s)
def loose : List Str := (["VastError", "BadText", "BadShot", "BadShots", "BadPlaces", "BadMarks", "is_within", "MOST_SIDE", "MOST_LEVEL", "MOST_SHOTS", "is_row", "is_shot", "are_shots", "look_all", "MOST_PLACE_laying", "are_places", "look_places", "SMALL", "MOST_MARKS", "MOST_PLACE_marks", "is_name", "is_mark", "are_marks", "FIGURES", "MOST_TEXT", "rows_of", "shown", "number_of", "numbers_of", "line_of"] : List Str) ++ (["may_follow", "read", "_law_cell", "_law_row", "_law_shot", "_law_ground", "_law_scene", "_law_any_scene", "_law_marks", "_law_shown", "_law_text_told"] : List Str)
theorem run (w : World) : HandSHeadRun.RunEq R (PySem.W.view R.prog [48]) hk ob 4000 loose w := by
  intro os
  kernel_rfl
theorem tx {K : PySem.W.Frag} {h : Heap} {mg : Str → Option Value} (X : K.In h) (G : h.Ns mainGlobals mg) (c : He.SaysD fa fn K) (ce : ∀ c ∈ chks, c K = true) : Tx K mg where
  free_bool := He.free_ok X G (c.fact 27 (f := .free "bool") rfl)
  free_enumerate := He.free_ok X G (c.fact 28 (f := .free "enumerate") rfl)
  free_int := He.free_ok X G (c.fact 29 (f := .free "int") rfl)
  free_isinstance := He.free_ok X G (c.fact 30 (f := .free "isinstance") rfl)
  free_len := He.free_ok X G (c.fact 31 (f := .free "len") rfl)
  free_list := He.free_ok X G (c.fact 32 (f := .free "list") rfl)
  free_max := He.free_ok X G (c.fact 33 (f := .free "max") rfl)
  free_min := He.free_ok X G (c.fact 34 (f := .free "min") rfl)
  free_range := He.free_ok X G (c.fact 35 (f := .free "range") rfl)
  free_sorted := He.free_ok X G (c.fact 36 (f := .free "sorted") rfl)
  free_str := He.free_ok X G (c.fact 37 (f := .free "str") rfl)
  free_tuple := He.free_ok X G (c.fact 38 (f := .free "tuple") rfl)
  free_zip := He.free_ok X G (c.fact 39 (f := .free "zip") rfl)
  c_FIGURES := He.str_ok X G (c.fact 40 (f := .str "FIGURES" "0123456789") rfl)
  c_MOST_LEVEL := He.int_ok X G (c.fact 41 (f := .int "MOST_LEVEL" 255) rfl)
  c_MOST_MARKS := He.int_ok X G (c.fact 42 (f := .int "MOST_MARKS" 12) rfl)
  c_MOST_PLACE_laying := He.int_ok X G (c.fact 43 (f := .int "MOST_PLACE_laying" 99) rfl)
  c_MOST_PLACE_marks := He.int_ok X G (c.fact 44 (f := .int "MOST_PLACE_marks" 99) rfl)
  c_MOST_SHOTS := He.int_ok X G (c.fact 45 (f := .int "MOST_SHOTS" 8) rfl)
  c_MOST_SIDE := He.int_ok X G (c.fact 46 (f := .int "MOST_SIDE" 12) rfl)
  c_MOST_TEXT := He.int_ok X G (c.fact 47 (f := .int "MOST_TEXT" 60000) rfl)
  c_SMALL := He.str_ok X G (c.fact 48 (f := .str "SMALL" "abcdefghijklmnopqrstuvwxyz") rfl)
  x_BadMarks := ⟨He.glo_ok X G (c.fact 49 (f := .glo "BadMarks") rfl), c.fact 50 (f := .exc "BadMarks") rfl⟩
  x_BadPlaces := ⟨He.glo_ok X G (c.fact 51 (f := .glo "BadPlaces") rfl), c.fact 52 (f := .exc "BadPlaces") rfl⟩
  x_BadShots := ⟨He.glo_ok X G (c.fact 53 (f := .glo "BadShots") rfl), c.fact 54 (f := .exc "BadShots") rfl⟩
  xg_BadShot := He.glo_ok X G (c.fact 55 (f := .glo "BadShot") rfl)
  xg_BadText := He.glo_ok X G (c.fact 56 (f := .glo "BadText") rfl)
  xg_VastError := He.glo_ok X G (c.fact 57 (f := .glo "VastError") rfl)
  m_BadMarks_BadText := He.exm_ok (c.fact 58 (f := .exm "BadMarks" "BadText" false) rfl)
  m_BadPlaces_BadText := He.exm_ok (c.fact 59 (f := .exm "BadPlaces" "BadText" false) rfl)
  m_BadShots_BadText := He.exm_ok (c.fact 60 (f := .exm "BadShots" "BadText" false) rfl)
  m_BadText_BadShot := He.exm_ok (c.fact 61 (f := .exm "BadText" "BadShot" false) rfl)
  m_BadText_BadText := He.exm_ok (c.fact 62 (f := .exm "BadText" "BadText" true) rfl)
  m_BadText_VastError := He.exm_ok (c.fact 63 (f := .exm "BadText" "VastError" true) rfl)
  ec_BadText := VV.excB_ok (VV.chk_at ce 0 (c := fun K => VV.excB K "BadText") rfl)
  bk_VastError := VV.basB_ok (He.glo_ok X G (c.fact 57 (f := .glo "VastError") rfl)) (VV.chk_at ce 1 (c := fun K => VV.basB K "VastError") rfl)
  xk_BadText := VV.xcB_ok (He.glo_ok X G (c.fact 56 (f := .glo "BadText") rfl)) (VV.chk_at ce 2 (c := fun K => VV.xcB K "BadText" "line") rfl)
  fx_BadText := c.def_ 27 (d := ⟨("BadText", some "__init__"), "__init__", "BadText.__init__", defArgs (clsS 2 0), defBody (clsS 2 0), defScope (clsS 2 0), [], []⟩) rfl
  g_is_within := He.glo_ok X G (c.fact 0 (f := .glo "is_within") rfl)
  f_is_within := c.def_ 0 (d := dd 8 "is_within" "is_within") rfl
  g_is_row := He.glo_ok X G (c.fact 1 (f := .glo "is_row") rfl)
  f_is_row := c.def_ 1 (d := dd 13 "is_row" "is_row") rfl
  g_is_shot := He.glo_ok X G (c.fact 2 (f := .glo "is_shot") rfl)
  f_is_shot := c.def_ 2 (d := dd 14 "is_shot" "is_shot") rfl
  g_are_shots := He.glo_ok X G (c.fact 3 (f := .glo "are_shots") rfl)
  f_are_shots := c.def_ 3 (d := dd 15 "are_shots" "are_shots") rfl
  g_look_all := He.glo_ok X G (c.fact 4 (f := .glo "look_all") rfl)
  f_look_all := c.def_ 4 (d := dd 16 "look_all" "look_all") rfl
  g_are_places := He.glo_ok X G (c.fact 5 (f := .glo "are_places") rfl)
  f_are_places := c.def_ 5 (d := dd 19 "are_places" "are_places") rfl
  g_look_places := He.glo_ok X G (c.fact 6 (f := .glo "look_places") rfl)
  f_look_places := c.def_ 6 (d := dd 20 "look_places" "look_places") rfl
  g_is_name := He.glo_ok X G (c.fact 7 (f := .glo "is_name") rfl)
  f_is_name := c.def_ 7 (d := dd 25 "is_name" "is_name") rfl
  g_is_mark := He.glo_ok X G (c.fact 8 (f := .glo "is_mark") rfl)
  f_is_mark := c.def_ 8 (d := dd 26 "is_mark" "is_mark") rfl
  g_are_marks := He.glo_ok X G (c.fact 9 (f := .glo "are_marks") rfl)
  f_are_marks := c.def_ 9 (d := dd 27 "are_marks" "are_marks") rfl
  g_rows_of := He.glo_ok X G (c.fact 10 (f := .glo "rows_of") rfl)
  f_rows_of := c.def_ 10 (d := dd 31 "rows_of" "rows_of") rfl
  g_shown := He.glo_ok X G (c.fact 11 (f := .glo "shown") rfl)
  f_shown := c.def_ 11 (d := dd 32 "shown" "shown") rfl
  g_number_of := He.glo_ok X G (c.fact 12 (f := .glo "number_of") rfl)
  f_number_of := c.def_ 12 (d := dd 33 "number_of" "number_of") rfl
  g_numbers_of := He.glo_ok X G (c.fact 13 (f := .glo "numbers_of") rfl)
  f_numbers_of := c.def_ 13 (d := dd 34 "numbers_of" "numbers_of") rfl
  g_line_of := He.glo_ok X G (c.fact 14 (f := .glo "line_of") rfl)
  f_line_of := c.def_ 14 (d := dd 35 "line_of" "line_of") rfl
  g_may_follow := He.glo_ok X G (c.fact 15 (f := .glo "may_follow") rfl)
  f_may_follow := c.def_ 15 (d := dd 36 "may_follow" "may_follow") rfl
  g_read := He.glo_ok X G (c.fact 16 (f := .glo "read") rfl)
  f_read := c.def_ 16 (d := dd 37 "read" "read") rfl
  g__law_cell := He.glo_ok X G (c.fact 17 (f := .glo "_law_cell") rfl)
  f__law_cell := c.def_ 17 (d := dd 39 "_law_cell" "_law_cell") rfl
  g__law_row := He.glo_ok X G (c.fact 18 (f := .glo "_law_row") rfl)
  f__law_row := c.def_ 18 (d := dd 40 "_law_row" "_law_row") rfl
  g__law_shot := He.glo_ok X G (c.fact 19 (f := .glo "_law_shot") rfl)
  f__law_shot := c.def_ 19 (d := dd 41 "_law_shot" "_law_shot") rfl
  g__law_ground := He.glo_ok X G (c.fact 20 (f := .glo "_law_ground") rfl)
  f__law_ground := c.def_ 20 (d := dd 42 "_law_ground" "_law_ground") rfl
  g__law_scene := He.glo_ok X G (c.fact 21 (f := .glo "_law_scene") rfl)
  f__law_scene := c.def_ 21 (d := dd 43 "_law_scene" "_law_scene") rfl
  g__law_any_scene := He.glo_ok X G (c.fact 22 (f := .glo "_law_any_scene") rfl)
  f__law_any_scene := c.def_ 22 (d := dd 44 "_law_any_scene" "_law_any_scene") rfl
  g__law_marks := He.glo_ok X G (c.fact 23 (f := .glo "_law_marks") rfl)
  f__law_marks := c.def_ 23 (d := dd 45 "_law_marks" "_law_marks") rfl
  g__law_shown := He.glo_ok X G (c.fact 24 (f := .glo "_law_shown") rfl)
  f__law_shown := c.def_ 24 (d := dd 46 "_law_shown" "_law_shown") rfl
  g__law_text_told := He.glo_ok X G (c.fact 25 (f := .glo "_law_text_told") rfl)
  f__law_text_told := c.def_ 25 (d := dd 47 "_law_text_told" "_law_text_told") rfl
  g_law := He.glo_ok X G (c.fact 26 (f := .glo "law") rfl)
  f_law := c.def_ 26 (d := dd 48 "law" "law") rfl
theorem facts {P : Program} {w : World} {K : PySem.W.Frag} {h : Heap} {mg : Str → Option Value} {f : Addr} (X : K.In h) (G : h.Ns mainGlobals mg) (hfa : mg ("law" : Str) = some (.ref f)) (c : He.SaysD fa fn K) (ce : ∀ c ∈ chks, c K = true) :
    ∃ fd : FuncData, (∀ (s : Shared) (v : Value), BindsTo s fd ⟨[v], []⟩ [("script", v)]) ∧ ∀ base : Heap, K.In base → base.Ns mainGlobals mg → FnOk P w K mg base (L2.CX P w) 8 f fd ["script"] (spP K 1 sem_law) := by
  have T := tx X G c ce
  obtain ⟨fd, F⟩ := T.f_law
  have e := hfa.symm.trans T.g_law
  cases e
  have b := FunD.bindsA (ps := ["script"]) F fun _ _ _ _ _ _ us hl => match us, hl with | [_], _ => rfl
  refine ⟨fd, fun s v => b s [v] rfl, fun base _ _ => ?_⟩
  have d_X_BadText := ok_X_BadText (P := P) (w := w) (base := base) T
  have d_is_within := ok_is_within (P := P) (w := w) (base := base) T 
  have d_is_row := ok_is_row (P := P) (w := w) (base := base) T d_is_within
  have d_is_shot := ok_is_shot (P := P) (w := w) (base := base) T d_is_row
  have d_are_shots := ok_are_shots (P := P) (w := w) (base := base) T d_is_shot
  have d_look_all := ok_look_all (P := P) (w := w) (base := base) T d_are_shots
  have d_are_places := ok_are_places (P := P) (w := w) (base := base) T d_is_within
  have d_look_places := ok_look_places (P := P) (w := w) (base := base) T d_look_all d_are_places
  have d_is_name := ok_is_name (P := P) (w := w) (base := base) T 
  have d_is_mark := ok_is_mark (P := P) (w := w) (base := base) T d_is_name d_is_within
  have d_are_marks := ok_are_marks (P := P) (w := w) (base := base) T d_is_mark
  have d_rows_of := ok_rows_of (P := P) (w := w) (base := base) T 
  have d_shown := ok_shown (P := P) (w := w) (base := base) T d_look_places d_are_marks d_rows_of
  have d_number_of := ok_number_of (P := P) (w := w) (base := base) T 
  have d_numbers_of := ok_numbers_of (P := P) (w := w) (base := base) T d_number_of
  have d_line_of := ok_line_of (P := P) (w := w) (base := base) T d_numbers_of
  have d_may_follow := ok_may_follow (P := P) (w := w) (base := base) T 
  have d_read := ok_read (P := P) (w := w) (base := base) T d_X_BadText d_line_of d_may_follow d_are_shots d_are_places d_are_marks
  have d__law_cell := ok__law_cell (P := P) (w := w) (base := base) T 
  have d__law_row := ok__law_row (P := P) (w := w) (base := base) T d__law_cell
  have d__law_shot := ok__law_shot (P := P) (w := w) (base := base) T 
  have d__law_ground := ok__law_ground (P := P) (w := w) (base := base) T d__law_row
  have d__law_scene := ok__law_scene (P := P) (w := w) (base := base) T d__law_ground d__law_row
  have d__law_any_scene := ok__law_any_scene (P := P) (w := w) (base := base) T d__law_row d__law_scene d__law_shot
  have d__law_marks := ok__law_marks (P := P) (w := w) (base := base) T d__law_row
  have d__law_shown := ok__law_shown (P := P) (w := w) (base := base) T 
  have d__law_text_told := ok__law_text_told (P := P) (w := w) (base := base) T d_read
  exact ok_law T F d__law_row d__law_any_scene d__law_marks d__law_shown d_shown d__law_text_told
end VVlaw
open PySem PySem.W PySem.Calls PyProof.Rows
set_option maxRecDepth 100000 in
set_option maxHeartbeats 0 in
theorem PySem.Challenge.cw_vastview_k31_texts_holds : PySem.Challenge.rw_vastview_k31_texts.Holds := by
  w_on; o_law
  refine HandSHeadRun.head_any (r := OpenLaw.row PySem.Challenge.rw_vastview_k31_texts) (q := view (OpenLaw.row PySem.Challenge.rw_vastview_k31_texts).prog [48]) (H := VVlaw.hk) (ob := VVlaw.ob) (M := 4000) (loose := VVlaw.loose) (d := HandSHeadRun.topDef (OpenLaw.row PySem.Challenge.rw_vastview_k31_texts).prog 48) (kwd := []) VVlaw.ob_eq
    (by kernel_rfl) (fun s => by kernel_rfl) VVlaw.run (by kernel_rfl) (by kernel_rfl) (by kernel_rfl) (by rfl) (by first | assumption | decide +kernel) (by decide +kernel) ⟨rfl, rfl, rfl, rfl, rfl, by decide +kernel⟩ ?hw ?hc
  case hw => w_witness2
  case hc =>
    refine VV.law_end (l := PySem.Challenge.rw_vastview_k31_texts) (k := 8) rfl (by kernel_rfl) ⟨rfl, by decide, by decide⟩ VVlaw.law_true ?F
    intro w mg fa h Y G hmg0
    obtain ⟨K, KX, c, ce⟩ := Y
    have hmg : mg ("law" : PySem.Str) = some (.ref fa) := by
      have e : (HandSHeadRun.topDef (OpenLaw.row PySem.Challenge.rw_vastview_k31_texts).prog 48).name = ("law" : PySem.Str) := by kernel_rfl
      rw [← e]
      exact hmg0
    obtain ⟨fd, hb, hF⟩ := VVlaw.facts (P := (PySem.Challenge.rw_vastview_k31_texts).prog) (w := w) KX G hmg c ce
    have nolam : VV.lamB K = false := by simpa using VV.chk_at ce 3 (c := fun K => !VV.lamB K) rfl
    exact ⟨K, fd, KX, nolam, hb, hF⟩

